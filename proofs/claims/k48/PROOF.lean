import PyProof.Rows.All
import HandS.ForMost
import HandS.Wide
import HandS.Gcd
import HandS.IsInst
import HandS.AnyAll
import HandS.TupAny
import HandS.TupMul
import HandS.Lambda
import HandS.Flow
import PyProof.ListMulRoad
import PyProof.FactsAll.tuple_2
import KE.DataMinMax
import HandS.Text
import HandS.Zip
import HandS.NoneIn
import KE.GoesMore
import PyProof.EnumMake
import HandS.GenList
import HandS.EndTab
import HandS.EndOwn
import HandS.Conv
import HandS.Star
import KE.KRevSl
import HandS.Style
import HandS.RaiseMore
import HandS.Deep
import HandS.SetFor
import HandS.SortInts
import PyProof.Rows.SortShellAny
import HandS.SortRule
import HandS.Rev
import HandS.RevTup
import PyProof.ZipIter
import PyProof.CallType
import PyProof.ListNew
import PyProof.RulesTry
import HandS.Strs
import KE.KLam
import HandS.TupLe
import KE.KMinKey
import HandS.SortKw
import KE.KSortKey
import PySem.Challenge.RW_sharewright_k48_whole_seats
set_option Elab.async false
set_option linter.all false
set_option maxRecDepth 100000
namespace L3
open PySem PySem.Spec
open PyProof.Rows hiding St
open L2

abbrev PV := PyData
abbrev Fg := PySem.W.Frag

/-! ### values over a heap -/
/-- a tuple that is read: tracked, or written in the module -/
def Tp (K : Fg) (H : Hp) (a : Addr) (xs : List V) : Prop := H a = some (.tup xs) ∨
    ∃ (o : Obj) (its : Array Value) (n : Nat), K.lookup a = some o ∧ o.cls = .type "tuple" ∧ o.data = .seq its n ∧ its.size ≤ sizeLine ∧ Vals xs its.toList
mutual
def Rep (K : Fg) (H : Hp) : PV → V → Prop
  | .none, v => v = .non
  | .bool b, v => v = .bl b
  | .int i, v => v = .int i
  | .str x, v => v = .str x
  | .list l, v => ∃ a xs, v = .ref a ∧ Rd H a (.lst xs) ∧ Reps K H l xs
  | .tuple l, v => ∃ a xs, v = .ref a ∧ Tp K H a xs ∧ Reps K H l xs
  | .dict kvs, v => kvs = [] ∧ ∃ a, v = .ref a ∧ H a = some (.dK [])
def Reps (K : Fg) (H : Hp) : List PV → List V → Prop
  | [], xs => xs = []
  | p :: l, xs => ∃ x r, xs = x :: r ∧ Rep K H p x ∧ Reps K H l r
end

def NT : HO → Prop
  | .tbl _ => False
  | _ => True
/-- Hs is a part of H without tables -/
def Sb (Hs H : Hp) : Prop := ∀ a o, Hs a = some o → NT o ∧ H a = some o
/-- the places of the laws' lambdas: no generator expression stands there -/
def lamP (p : Pos) : Bool := ([(6, 25), (12, 25), (14, 25), (21, 42), (50, 25), (96, 29), (101, 29), (104, 29), (106, 29), (115, 29), (116, 29), (120, 29), (133, 29), (140, 29), (185, 25), (188, 25), (453, 29), (668, 25), (685, 25)] : List (Nat × Nat)).contains (p.line, p.col)
/-- a table of code objects: those of lambdas are known -/
def TabG (H : Hp) (P : Addr) : Prop := ∃ ps : Array Value, H P = some (.tbl ps) ∧ TriplesOk ps.toList ∧ ∀ (pos : Pos) (cv : Value), lamP pos = true → codeAmong pos ps.toList = some cv → ∃ c q, cv = .ref c ∧ H c = some (LamX.CodeO c q)
def Tabbed (P : Addr) (H H' : Hp) : Prop := TabG H' P ∧ ∀ b, b ≠ P → H' b = H b
theorem codeO_tbl {c : Addr} {q : Str} {ps : Array Value} : LamX.CodeO c q ≠ .tbl ps := LamX.codeO_ne ps
theorem codeO_lst {c : Addr} {q : Str} {xs : List V} : LamX.CodeO c q ≠ .lst xs := fun z => by unfold LamX.CodeO at z; cases z
theorem TabG.map {H H' : Hp} {P : Addr} (h : TabG H P) (e : ∀ ps, H P = some (.tbl ps) → H' P = some (.tbl ps)) (k : ∀ c q, H c = some (LamX.CodeO c q) → H' c = some (LamX.CodeO c q)) : TabG H' P :=
  let ⟨ps, e1, t, l⟩ := h
  ⟨ps, e ps e1, t, fun pos cv h1 h2 => let ⟨c, q, a, b⟩ := l pos cv h1 h2; ⟨c, q, a, k c q b⟩⟩

theorem sqL_mono {K : Fg} {H H' : Hp} {a : Addr} {xs : List V} (k : Same H H') (h : SqL K H a xs) : SqL K H' a xs := k.seq h
theorem tp_mono {K : Fg} {H H' : Hp} {a : Addr} {xs : List V} (e : Same H H') (h : Tp K H a xs) : Tp K H' a xs := h.imp (e _ _) id
theorem sqT_mono {K : Fg} {H H' : Hp} {a : Addr} {xs : List V} (e : Same H H') (h : Tp K H a xs) : SqT K H' a xs := by
  rcases h with h | h
  · exact .inl (.inl (e _ _ h))
  · exact .inr h
theorem rd_mono {H H' : Hp} {a : Addr} {u : HO} (k : Same H H') (h : Rd H a u) : Rd H' a u := by
  rcases h with h | ⟨o, h⟩
  · exact .inl (k _ _ h)
  · exact .inr ⟨o, k _ _ h⟩
theorem Sb.same {Hs H : Hp} (h : Sb Hs H) : Same Hs H := fun a o e => (h a o e).2

mutual
theorem Rep.mono {K : Fg} {H H' : Hp} (k : Same H H') : ∀ (p : PV) (v : V), Rep K H p v → Rep K H' p v
  | .none, v, h => by simpa only [Rep] using h
  | .bool b, v, h => by simpa only [Rep] using h
  | .int i, v, h => by simpa only [Rep] using h
  | .str x, v, h => by simpa only [Rep] using h
  | .list l, v, h => by
    simp only [Rep] at h ⊢
    obtain ⟨a, xs, e, s, r⟩ := h
    exact ⟨a, xs, e, rd_mono k s, Reps.mono k l xs r⟩
  | .tuple l, v, h => by
    simp only [Rep] at h ⊢
    obtain ⟨a, xs, e, s, r⟩ := h
    exact ⟨a, xs, e, tp_mono k s, Reps.mono k l xs r⟩
  | .dict kvs, v, h => by
    simp only [Rep] at h ⊢
    obtain ⟨e, a, e2, s⟩ := h
    exact ⟨e, a, e2, k _ _ s⟩
theorem Reps.mono {K : Fg} {H H' : Hp} (k : Same H H') : ∀ (l : List PV) (xs : List V), Reps K H l xs → Reps K H' l xs
  | [], xs, h => by simpa only [Reps] using h
  | p :: l, xs, h => by
    simp only [Reps] at h ⊢
    obtain ⟨x, r, e, h1, h2⟩ := h
    exact ⟨x, r, e, Rep.mono k p x h1, Reps.mono k l r h2⟩
end

theorem Reps.len {K : Fg} {H : Hp} : ∀ {l : List PV} {xs : List V}, Reps K H l xs → xs.length = l.length
  | [], xs, h => by simp only [Reps] at h; subst h; rfl
  | p :: l, xs, h => by
    simp only [Reps] at h
    obtain ⟨x, r, rfl, _, h2⟩ := h
    simp [Reps.len h2]
theorem Reps.get {K : Fg} {H : Hp} : ∀ {l : List PV} {xs : List V} {i : Nat} {p : PV}, Reps K H l xs → l[i]? = some p → ∃ x, xs[i]? = some x ∧ Rep K H p x
  | [], xs, i, p, h, e => by simp at e
  | q :: l, xs, 0, p, h, e => by
    simp only [Reps] at h
    obtain ⟨x, r, rfl, h1, h2⟩ := h
    simp at e; subst e
    exact ⟨x, rfl, h1⟩
  | q :: l, xs, i + 1, p, h, e => by
    simp only [Reps] at h
    obtain ⟨x, r, rfl, h1, h2⟩ := h
    obtain ⟨y, e1, e2⟩ := Reps.get (i := i) h2 (by simpa using e)
    exact ⟨y, by simpa using e1, e2⟩
theorem Reps.app {K : Fg} {H : Hp} : ∀ {l l' : List PV} {xs xs' : List V}, Reps K H l xs → Reps K H l' xs' → Reps K H (l ++ l') (xs ++ xs')
  | [], l', xs, xs', h, h' => by simp only [Reps] at h; subst h; exact h'
  | p :: l, l', xs, xs', h, h' => by
    simp only [Reps] at h
    obtain ⟨x, r, rfl, h1, h2⟩ := h
    show Reps K H (p :: (l ++ l')) (x :: (r ++ xs'))
    simp only [Reps]
    exact ⟨x, r ++ xs', rfl, h1, Reps.app h2 h'⟩
theorem Reps.one {K : Fg} {H : Hp} {p : PV} {x : V} (h : Rep K H p x) : Reps K H [p] [x] := by
  simp only [Reps]; exact ⟨x, [], rfl, h, rfl⟩
theorem Reps.cons {K : Fg} {H : Hp} {p : PV} {x : V} {l : List PV} {xs : List V} (h : Rep K H p x) (h2 : Reps K H l xs) : Reps K H (p :: l) (x :: xs) := by
  simp only [Reps]; exact ⟨x, xs, rfl, h, h2⟩
theorem Reps.take {K : Fg} {H : Hp} : ∀ {l : List PV} {xs : List V} (n : Nat), Reps K H l xs → Reps K H (l.take n) (xs.take n)
  | _, _, 0, _ => by simp [Reps]
  | [], xs, n + 1, h => by simp only [Reps] at h; subst h; simp [Reps]
  | p :: l, xs, n + 1, h => by
    simp only [Reps] at h
    obtain ⟨x, r, rfl, h1, h2⟩ := h
    rw [List.take_succ_cons, List.take_succ_cons]
    exact .cons h1 (Reps.take n h2)
theorem Reps.drop {K : Fg} {H : Hp} : ∀ {l : List PV} {xs : List V} (n : Nat), Reps K H l xs → Reps K H (l.drop n) (xs.drop n)
  | l, xs, 0, h => by simpa using h
  | [], xs, n + 1, h => by simp only [Reps] at h; subst h; simp [Reps]
  | p :: l, xs, n + 1, h => by
    simp only [Reps] at h
    obtain ⟨x, r, rfl, h1, h2⟩ := h
    simpa using Reps.drop n h2
theorem Reps.rep {K : Fg} {H : Hp} {l : List PV} {xs : List V} (h : Reps K H l xs) : ∀ k : Nat, Reps K H (List.replicate k l).flatten (List.replicate k xs).flatten
  | 0 => by simp [Reps]
  | k + 1 => by
    rw [List.replicate_succ, List.replicate_succ, List.flatten_cons, List.flatten_cons]
    exact Reps.app h (Reps.rep h k)

/-! ### steps of the heap -/
abbrev US := Addr → Prop
abbrev U0 : US := fun _ => False
structure Stp (Hs : Hp) (U : US) (H : Hp) (Hs' : Hp) (U' : US) (H' : Hp) : Prop where
  hs : Same Hs Hs'
  fr : ∀ a o, H a = some o → NT o → ¬ U a → H' a = some o
  tb : ∀ P, TabG H P → TabG H' P
  ex : ∀ a, H a ≠ none → H' a ≠ none
  uu : ∀ a, U' a → U a ∨ H a = none
  an : ∀ a o, Hs' a = some o → Hs a = some o ∨ H a = none ∨ (∃ xs, o = .tup xs ∧ H a = some o) ∨ U a
  tp : ∀ a xs, H' a = some (.tup xs) → H a = none ∨ H a = some (.tup xs)

theorem Stp.refl (Hs : Hp) (U : US) (H : Hp) : Stp Hs U H Hs U H :=
  ⟨Same.refl _, fun _ _ e _ _ => e, fun _ h => h, fun _ h => h, fun _ h => .inl h, fun _ _ h => .inl h, fun _ _ h => .inr h⟩
theorem Stp.trans {Hs Hs1 Hs2 : Hp} {U U1 U2 : US} {H H1 H2 : Hp} (a : Stp Hs U H Hs1 U1 H1) (b : Stp Hs1 U1 H1 Hs2 U2 H2) : Stp Hs U H Hs2 U2 H2 where
  hs := a.hs.trans b.hs
  fr := fun x o e n u => b.fr x o (a.fr x o e n u) n fun u1 => by
    rcases a.uu x u1 with h | h
    · exact u h
    · rw [h] at e; cases e
  tb := fun P h => b.tb P (a.tb P h)
  ex := fun x h => b.ex x (a.ex x h)
  uu := fun x h => by
    rcases b.uu x h with h | h
    · exact a.uu x h
    · by_cases q : H x = none
      · exact .inr q
      · exact absurd h (a.ex x q)
  an := fun x o e => by
    rcases b.an x o e with h | h | ⟨xs, rfl, h⟩ | h
    · exact a.an x o h
    · by_cases q : H x = none
      · exact .inr (.inl q)
      · exact absurd h (a.ex x q)
    · rcases a.tp x xs h with h | h
      · exact .inr (.inl h)
      · exact .inr (.inr (.inl ⟨xs, rfl, h⟩))
    · rcases a.uu x h with h | h
      · exact .inr (.inr (.inr h))
      · exact .inr (.inl h)
  tp := fun x xs e => by
    rcases b.tp x xs e with h | h
    · by_cases q : H x = none
      · exact .inl q
      · exact absurd h (a.ex x q)
    · exact a.tp x xs h
/-- a step that changes nothing that was there -/
structure PStp (Hs H Hs' H' : Hp) : Prop where
  st : Stp Hs U0 H Hs' U0 H'
  sb : Sb Hs' H'
theorem PStp.refl {Hs H : Hp} (h : Sb Hs H) : PStp Hs H Hs H := ⟨.refl _ _ _, h⟩
theorem PStp.trans {Hs H Hs1 H1 Hs2 H2 : Hp} (a : PStp Hs H Hs1 H1) (b : PStp Hs1 H1 Hs2 H2) : PStp Hs H Hs2 H2 := ⟨a.st.trans b.st, b.sb⟩
theorem Stp.lift {Hs H Hs' H' : Hp} (h : Stp Hs U0 H Hs' U0 H') (U : US) : Stp Hs U H Hs' U H' :=
  ⟨h.hs, fun a o e n _ => h.fr a o e n (fun z => z), h.tb, h.ex, fun _ u => .inl u, fun a o e => (h.an a o e).imp id (.imp id (.imp id False.elim)), h.tp⟩

theorem tabG_upd {H : Hp} {p : Addr} {o : HO} (h : H p = none) : ∀ P, TabG H P → TabG (upd H p o) P := fun P t => t.map (fun ps e => by rw [upd_ne (ne_of_none e h)]; exact e) fun c q e => by rw [upd_ne (ne_of_none e h)]; exact e
theorem sb_none {Hs H : Hp} (h : Sb Hs H) {p : Addr} (e : H p = none) : Hs p = none := by
  cases q : Hs p with
  | none => rfl
  | some o => rw [(h p o q).2] at e; cases e
theorem same_upd {H : Hp} {p : Addr} {o : HO} (h : H p = none) : Same H (upd H p o) := fun b x e => by
  rw [upd_ne (ne_of_none e h)]; exact e
/-- a new object, kept for good -/
theorem PStp.alloc {Hs H : Hp} {p : Addr} {o : HO} (h : Sb Hs H) (e : H p = none) (n : NT o) : PStp Hs H (upd Hs p o) (upd H p o) := by
  have hn := sb_none h e
  refine ⟨⟨same_upd hn, fun a u q _ _ => same_upd e a u q, tabG_upd e, fun a q => ?_, fun _ z => z.elim, fun a u q => ?_, fun a xs q => ?_⟩, fun a u q => ?_⟩
  · unfold upd; split
    · simp
    · exact q
  · by_cases z : a = p
    · subst z; exact .inr (.inl e)
    · rw [upd_ne z] at q; exact .inl q
  · by_cases z : a = p
    · subst z; exact .inl e
    · rw [upd_ne z] at q; exact .inr q
  · by_cases z : a = p
    · subst z; rw [upd_same] at q ⊢; cases q; exact ⟨n, rfl⟩
    · rw [upd_ne z] at q ⊢; exact h a u q
/-- a new object that is not (yet) relied upon -/
theorem Stp.tmp {Hs H : Hp} {p : Addr} {o : HO} (e : H p = none) (nt : ∀ xs, o ≠ .tup xs) (U : US) : Stp Hs U H Hs U (upd H p o) := by
  refine ⟨Same.refl _, fun a u q _ _ => same_upd e a u q, tabG_upd e, fun a q => ?_, fun _ z => .inl z, fun a u q => .inl q, fun a xs q => ?_⟩
  · unfold upd; split
    · simp
    · exact q
  · by_cases z : a = p
    · subst z; exact .inl e
    · rw [upd_ne z] at q; exact .inr q

/-! ### the mirror's monad -/
abbrev M (S α : Type) := S → Option (α × S)
def ret {S α : Type} (a : α) : M S α := fun s => some (a, s)
def bnd {S α β : Type} (m : M S α) (f : α → M S β) : M S β := fun s => match m s with
  | none => none
  | some (a, s') => f a s'
def lft {S α : Type} (o : Option α) : M S α := fun s => match o with
  | none => none
  | some a => some (a, s)
theorem bnd_some {S α β : Type} {m : M S α} {f : α → M S β} {s : S} {r : β × S} (h : bnd m f s = some r) : ∃ a s', m s = some (a, s') ∧ f a s' = some r := by
  unfold bnd at h
  split at h
  · cases h
  · rename_i a s' e
    exact ⟨a, s', e, h⟩
theorem lft_some {S α : Type} {o : Option α} {s : S} {a : α} {s' : S} (h : lft o s = some (a, s')) : o = some a ∧ s' = s := by
  unfold lft at h
  split at h
  · cases h
  · cases h; exact ⟨rfl, rfl⟩
theorem ret_some {S α : Type} {x : α} {s : S} {a : α} {s' : S} (h : ret x s = some (a, s')) : a = x ∧ s' = s := by
  unfold ret at h
  cases h; exact ⟨rfl, rfl⟩

/-! ### modes: what a mirror's state says of the slots and the heap -/
structure Ops (S : Type) where
  get : S → Nat → Option PV
  wr : Nat → Bool
  set : S → Nat → PV → S
  clr : S → List Nat → S
  leave : S → S → List Nat → S
structure Md (K : Fg) {S : Type} (o : Ops S) where
  R : S → Hp → US → St → Hp → Prop
  sub : ∀ {st Hs U σ H}, R st Hs U σ H → Sb Hs H
  own : ∀ {st Hs U σ H a}, R st Hs U σ H → U a → Hs a = none ∧ ∃ u, H a = some u ∧ NT u ∧ ∀ xs, u ≠ .tup xs
  move : ∀ {st Hs U σ H Hs' H'}, R st Hs U σ H → Same Hs Hs' → Sb Hs' H' → (∀ a, U a → Hs' a = none ∧ ∀ u, H a = some u → H' a = some u) → (∀ P, TabG H P → TabG H' P) → R st Hs' U σ H'
  get_ok : ∀ {st Hs U σ H i pv}, R st Hs U σ H → o.get st i = some pv → ∃ v, σ[i]? = some (some v) ∧ Rep K Hs pv v
  set_ok : ∀ {st Hs U σ H i pv v}, R st Hs U σ H → o.wr i = true → Rep K Hs pv v → R (o.set st i pv) Hs U (σ.set i (some v)) H
  clr_ok : ∀ {st Hs U σ H own}, R st Hs U σ H → own.all o.wr = true → R (o.clr st own) Hs U (wipe σ own) H
  leave_ok : ∀ {st0 Hs0 U0 σ H0 stb Hs' U' H' own}, R st0 Hs0 U0 σ H0 → R stb Hs' U' (wipe σ own) H' → Same Hs0 Hs' → own.all o.wr = true → R (o.leave st0 stb own) Hs' U' σ H'
theorem Md.grow {K : Fg} {S : Type} {o : Ops S} (md : Md K o) {st : S} {Hs : Hp} {U : US} {σ : St} {H Hs' H' : Hp} (r : md.R st Hs U σ H) (p : PStp Hs H Hs' H') : md.R st Hs' U σ H' := by
  refine md.move r p.st.hs p.sb (fun a u => ?_) p.st.tb
  obtain ⟨h1, w, h2, h3, h4⟩ := md.own r u
  refine ⟨?_, fun x e => ?_⟩
  · cases q : Hs' a with
    | none => rfl
    | some x =>
      rcases p.st.an a x q with h | h | ⟨xs, rfl, h⟩ | h
      · rw [h1] at h; cases h
      · rw [h2] at h; cases h
      · rw [h2] at h; cases h; exact absurd rfl (h4 xs)
      · exact h.elim
  · rw [h2] at e; cases e
    exact p.st.fr a w h2 h3 (fun z => z)

section
variable {K : Fg} {S : Type} {o : Ops S}
/-- an expression's reading by a mirror -/
def tG (md : Md K o) (m : M S PV) : TE := fun σ H Q => ∃ Hs U st pv st', md.R st Hs U σ H ∧ m st = some (pv, st') ∧
  ∀ v Hs' U' H', md.R st' Hs' U' σ H' → Stp Hs U H Hs' U' H' → Rep K Hs' pv v → Q v H'
def tGT (md : Md K o) (m : M S Bool) : TT := fun σ H Q => ∃ Hs U st b st', md.R st Hs U σ H ∧ m st = some (b, st') ∧
  ∀ Hs' U' H', md.R st' Hs' U' σ H' → Stp Hs U H Hs' U' H' → Q b H'
def tGA (md : Md K o) (m : M S (List PV)) : TA := fun σ H Q => ∃ Hs U st l st', md.R st Hs U σ H ∧ m st = some (l, st') ∧
  ∀ vs Hs' U' H', md.R st' Hs' U' σ H' → Stp Hs U H Hs' U' H' → Reps K Hs' l vs → Q vs H'

theorem peImp {X : Cx} {e : Expr} {t t' : TE} (h : PE X e t) (i : ∀ σ H Q, t' σ H Q → t σ H Q) : PE X e t' := ⟨fun pins s σ H Q I q => h.run pins s σ H Q I (i σ H Q q)⟩
theorem ptImp {X : Cx} {e : Expr} {t t' : TT} (h : PT X e t) (i : ∀ σ H Q, t' σ H Q → t σ H Q) : PT X e t' := ⟨fun pins s σ H Q I q => h.run pins s σ H Q I (i σ H Q q)⟩
theorem pwImp {X : Cx} {e : Expr} {t t' : TT} (h : PW X e t) (i : ∀ σ H Q, t' σ H Q → t σ H Q) : PW X e t' := ⟨fun w pins s σ H Q I q => h.run w pins s σ H Q I (i σ H Q q)⟩
theorem paImp {X : Cx} {e : List Expr} {t t' : TA} (h : PA X e t) (i : ∀ σ H Q, t' σ H Q → t σ H Q) : PA X e t' := ⟨fun p pins s σ H Q I q => h.run p pins s σ H Q I (i σ H Q q)⟩
theorem psImp {X : Cx} {e : Stmt} {t t' : TS} (h : PS X e t) (i : ∀ D σ H, t' D σ H → t D σ H) : PS X e t' := ⟨fun pins s σ H D I q => h.run pins s σ H D I (i D σ H q)⟩
theorem pssImp {X : Cx} {e : List Stmt} {t t' : TS} (h : PSs X e t) (i : ∀ D σ H, t' D σ H → t D σ H) : PSs X e t' := ⟨fun pins s σ H D I q => h.run pins s σ H D I (i D σ H q)⟩
theorem piImp {X : Cx} {g e : Expr} {t t' : TI} (h : PI X g e t) (i : ∀ σ H Q, t' σ H Q → t σ H Q) : PI X g e t' := ⟨fun pins s σ H Q I q => h.run pins s σ H Q I (i σ H Q q)⟩
theorem pgImp {X : Cx} {e : Expr} {t t' : TG} (h : PG X e t) (i : ∀ v σ H Q, t' v σ H Q → t v σ H Q) : PG X e t' := ⟨fun pins s σ H v u Q I r q => h.run pins s σ H v u Q I r (i v σ H Q q)⟩

/-- one step of a chain: the sub-reading is used, the rest goes on from what it leaves -/
theorem tG_seq {md : Md K o} {α : Type} {m1 : M S PV} {f : PV → M S α} {Hs : Hp} {U : US} {st : S} {σ : St} {H : Hp} {r : α × S} {Q : VK}
    (hR : md.R st Hs U σ H) (h : bnd m1 f st = some r)
    (k : ∀ pv st1 v Hs1 U1 H1, m1 st = some (pv, st1) → f pv st1 = some r → md.R st1 Hs1 U1 σ H1 → Stp Hs U H Hs1 U1 H1 → Rep K Hs1 pv v → Q v H1) : tG md m1 σ H Q := by
  obtain ⟨pv, st1, e1, e2⟩ := bnd_some h
  exact ⟨Hs, U, st, pv, st1, hR, e1, fun v Hs1 U1 H1 r1 s1 p1 => k pv st1 v Hs1 U1 H1 e1 e2 r1 s1 p1⟩
theorem tGT_seq {md : Md K o} {α : Type} {m1 : M S Bool} {f : Bool → M S α} {Hs : Hp} {U : US} {st : S} {σ : St} {H : Hp} {r : α × S} {Q : Bool → Hp → Prop}
    (hR : md.R st Hs U σ H) (h : bnd m1 f st = some r)
    (k : ∀ b st1 Hs1 U1 H1, m1 st = some (b, st1) → f b st1 = some r → md.R st1 Hs1 U1 σ H1 → Stp Hs U H Hs1 U1 H1 → Q b H1) : tGT md m1 σ H Q := by
  obtain ⟨pv, st1, e1, e2⟩ := bnd_some h
  exact ⟨Hs, U, st, pv, st1, hR, e1, fun Hs1 U1 H1 r1 s1 => k pv st1 Hs1 U1 H1 e1 e2 r1 s1⟩
theorem tGA_seq {md : Md K o} {α : Type} {m1 : M S (List PV)} {f : List PV → M S α} {Hs : Hp} {U : US} {st : S} {σ : St} {H : Hp} {r : α × S} {Q : List V → Hp → Prop}
    (hR : md.R st Hs U σ H) (h : bnd m1 f st = some r)
    (k : ∀ l st1 vs Hs1 U1 H1, m1 st = some (l, st1) → f l st1 = some r → md.R st1 Hs1 U1 σ H1 → Stp Hs U H Hs1 U1 H1 → Reps K Hs1 l vs → Q vs H1) : tGA md m1 σ H Q := by
  obtain ⟨pv, st1, e1, e2⟩ := bnd_some h
  exact ⟨Hs, U, st, pv, st1, hR, e1, fun v Hs1 U1 H1 r1 s1 p1 => k pv st1 v Hs1 U1 H1 e1 e2 r1 s1 p1⟩

/-! ### what an operation by values asks, and a function of values -/
def OpA (K : Fg) (r : R2) (F : PV → PV → Option PV) : Prop := ∀ (Hs H : Hp) (x y z : PV) (v w : V) (Q : VK), F x y = some z → Rep K Hs x v → Rep K Hs y w → Sb Hs H →
  (∀ u Hs' H', PStp Hs H Hs' H' → Rep K Hs' z u → Q u H') → r v w H Q
def UnA (K : Fg) (r : V → Hp → VK → Prop) (F : PV → Option PV) : Prop := ∀ (Hs H : Hp) (x z : PV) (v : V) (Q : VK), F x = some z → Rep K Hs x v → Sb Hs H →
  (∀ u Hs' H', PStp Hs H Hs' H' → Rep K Hs' z u → Q u H') → r v H Q
def ClA (K : Fg) (r : List V → Hp → VK → Prop) (F : List PV → Option PV) : Prop := ∀ (Hs H : Hp) (l : List PV) (z : PV) (vs : List V) (Q : VK), F l = some z → Reps K Hs l vs → Sb Hs H →
  (∀ u Hs' H', PStp Hs H Hs' H' → Rep K Hs' z u → Q u H') → r vs H Q

/-- the end: a value by a pure step -/
theorem fin_step {md : Md K o} {st : S} {Hs : Hp} {U : US} {σ : St} {H : Hp} {pv : PV} {Q : VK} {Hs0 : Hp} {V0 : US} {H0 : Hp}
    (hR : md.R st Hs U σ H) (s0 : Stp Hs0 V0 H0 Hs U H) (k : ∀ v Hs' U' H', md.R st Hs' U' σ H' → Stp Hs0 V0 H0 Hs' U' H' → Rep K Hs' pv v → Q v H') :
    ∀ u Hs' H', PStp Hs H Hs' H' → Rep K Hs' pv u → Q u H' := fun u Hs' H' p r => k u Hs' U H' (md.grow hR p) (s0.trans (p.st.lift U)) r

def mOp {S : Type} (F : PV → PV → Option PV) (ma mb : M S PV) : M S PV := bnd ma fun x => bnd mb fun y => lft (F x y)
def mUn {S : Type} (F : PV → Option PV) (ma : M S PV) : M S PV := bnd ma fun x => lft (F x)
def mCl {S : Type} (F : List PV → Option PV) (ms : M S (List PV)) : M S PV := bnd ms fun l => lft (F l)

section
variable {X : Cx} {o : Ops S} {md : Md X.K o} {a b c e : Expr} {es : List Expr} {ma mb mc me : M S PV} {ms : M S (List PV)} {pos : Pos}

theorem tOp_ok {r : R2} {F : PV → PV → Option PV} (ad : OpA X.K r F) (σ : St) (H : Hp) (Q : VK) (h : tG md (mOp F ma mb) σ H Q) : tOp r (tG md ma) (tG md mb) σ H Q := by
  obtain ⟨Hs, U, st, pv, st', hR, hm, k⟩ := h
  refine tG_seq hR hm fun x st1 v Hs1 U1 H1 _ e2 r1 s1 p1 => ?_
  refine tG_seq r1 e2 fun y st2 w Hs2 U2 H2 _ e3 r2 s2 p2 => ?_
  obtain ⟨e4, e5⟩ := lft_some e3
  subst e5
  exact ad Hs2 H2 x y pv v w Q e4 (Rep.mono s2.hs x v p1) p2 (md.sub r2) (fin_step r2 (s1.trans s2) k)
theorem g_op {op : Operator} {r : R2} {F : PV → PV → Option PV} (ho : OpR X (binaryOp op) r) (ad : OpA X.K r F) (ha : PE X a (tG md ma)) (hb : PE X b (tG md mb)) : PE X (.BinOp a op b pos) (tG md (mOp F ma mb)) :=
  peImp (pe_op ho ha hb) (tOp_ok ad)
theorem g_un {op : UnaryOp} {r : V → Hp → VK → Prop} {F : PV → Option PV} (ho : UnR X (unaryOp op) r) (ad : UnA X.K r F) (ha : PE X a (tG md ma)) : PE X (.UnaryOp op a pos) (tG md (mUn F ma)) := by
  refine peImp (pe_un ho ha) fun σ H Q ⟨Hs, U, st, pv, st', hR, hm, k⟩ => ?_
  refine tG_seq hR hm fun x st1 v Hs1 U1 H1 _ e2 r1 s1 p1 => ?_
  obtain ⟨e4, e5⟩ := lft_some e2
  subst e5
  exact ad Hs1 H1 x pv v Q e4 p1 (md.sub r1) (fin_step r1 s1 k)
theorem g_cmp {op : CmpOp} {r : R2} {F : PV → PV → Option PV} (ho : OpR X (compareOp op) r) (ad : OpA X.K r F) (ha : PE X a (tG md ma)) (hb : PE X b (tG md mb)) (hm : behindInMarks op b = false) : PE X (.Compare a [op] [b] pos) (tG md (mOp F ma mb)) :=
  peImp (pe_cmpR ho ha hb hm) (tOp_ok ad)
theorem g_ix {r : R2} {F : PV → PV → Option PV} (hr : IxR X r) (ad : OpA X.K r F) (ha : PE X a (tG md ma)) (hb : PE X b (tG md mb)) (hs : PlainIx b) : PE X (.Subscript a b pos) (tG md (mOp F ma mb)) :=
  peImp (pe_ix hr ha hb hs) (tOp_ok ad)

/-- a name's slot -/
def mVar {S : Type} (o : Ops S) (i : Nat) : M S PV := fun st => match o.get st i with
  | none => none
  | some v => some (v, st)
theorem g_var (i : Nat) {x : Str} (hN : X.N[i]? = some x) (hv : Vis X.env.scope x) (hd : (x == ("__debug__" : Str)) = false := by decide) (hcd : (x == ("__classdict__" : Str)) = false := by decide) :
    PE X (.Name x pos) (tG md (mVar o i)) := by
  refine peImp (pe_var hN hv hd hcd) fun σ H Q ⟨Hs, U, st, pv, st', hR, hm, k⟩ => ?_
  unfold mVar at hm
  cases e : o.get st i with
  | none => rw [e] at hm; cases hm
  | some q =>
    rw [e] at hm; cases hm
    obtain ⟨v, e1, p⟩ := md.get_ok hR e
    exact ⟨v, e1, k v Hs U H hR (.refl _ _ _) p⟩
theorem tC_ok {pv : PV} {v : V} (hr : ∀ Hs, Rep X.K Hs pv v) (σ : St) (H : Hp) (Q : VK) (h : tG md (ret pv) σ H Q) : tC v σ H Q := by
  obtain ⟨Hs, U, st, pv', st', hR, hm, k⟩ := h
  obtain ⟨rfl, rfl⟩ := ret_some hm
  exact k v Hs U H hR (.refl _ _ _) (hr Hs)
theorem g_int {i : Int} {j} : PE X (.Constant (.int i) j pos) (tG md (ret (.int i))) := peImp pe_int (tC_ok fun _ => by simp only [Rep])
theorem g_bl {i : Bool} {j} : PE X (.Constant (.bool i) j pos) (tG md (ret (.bool i))) := peImp pe_bl (tC_ok fun _ => by simp only [Rep])
theorem g_non {j} : PE X (.Constant .none j pos) (tG md (ret .none)) := peImp pe_non (tC_ok fun _ => by simp only [Rep])
theorem g_str {i : Str} {j} : PE X (.Constant (.str i) j pos) (tG md (ret (.str i))) := peImp pe_str (tC_ok fun _ => by simp only [Rep])

/-! arguments -/
def mCons {S : Type} (m : M S PV) (ms : M S (List PV)) : M S (List PV) := bnd m fun x => bnd ms fun l => ret (x :: l)
theorem a_nil : PA X [] (tGA md (ret [])) := by
  refine paImp pa_nil fun σ H Q ⟨Hs, U, st, pv', st', hR, hm, k⟩ => ?_
  obtain ⟨rfl, rfl⟩ := ret_some hm
  exact k [] Hs U H hR (.refl _ _ _) (by simp only [Reps])
theorem a_cons (ha : PE X e (tG md me)) (hr : PA X es (tGA md ms)) (hs : starEach (e :: es) X.env = (false, eval e X.env) :: starEach es X.env := by rfl) : PA X (e :: es) (tGA md (mCons me ms)) := by
  refine paImp (pa_cons ha hr hs) fun σ H Q ⟨Hs, U, st, pv, st', hR, hm, k⟩ => ?_
  refine tG_seq hR hm fun x st1 v Hs1 U1 H1 _ e2 r1 s1 p1 => ?_
  refine tGA_seq r1 e2 fun y st2 w Hs2 U2 H2 _ e3 r2 s2 p2 => ?_
  obtain ⟨rfl, rfl⟩ := ret_some e3
  exact k (v :: w) Hs2 U2 H2 r2 (s1.trans s2) (.cons (Rep.mono s2.hs x v p1) p2)

/-! displays -/
def LIM : Nat := 100000
theorem lim_line {n : Nat} (h : n ≤ LIM) : n < sizeLine := Nat.lt_of_le_of_lt h (by decide)
def fTup (l : List PV) : Option PV := if l.length ≤ LIM then some (.tuple l) else none
def fLst (l : List PV) : Option PV := if l.length ≤ LIM then some (.list l) else none
theorem g_tup {x1} (h : PA X es (tGA md ms)) : PE X (.Tuple es x1 pos) (tG md (mCl fTup ms)) := by
  refine peImp (pe_tup h) fun σ H Q ⟨Hs, U, st, pv, st', hR, hm, k⟩ => ?_
  refine tGA_seq hR hm fun l st1 vs Hs1 U1 H1 _ e2 r1 s1 p1 => ?_
  obtain ⟨e4, e5⟩ := lft_some e2
  subst e5
  unfold fTup at e4
  split at e4
  · rename_i hl
    cases e4
    refine ⟨by rw [p1.len]; exact Nat.le_of_lt (lim_line hl), fun p hp => ?_⟩
    have al := PStp.alloc (o := .tup vs) (md.sub r1) hp trivial
    refine fin_step r1 s1 k _ _ _ al ?_
    simp only [Rep]
    exact ⟨p, vs, rfl, .inl upd_same, Reps.mono al.st.hs l vs p1⟩
  · cases e4
theorem g_lst (h : PA X es (tGA md ms)) : PE X (.List es pos) (tG md (mCl fLst ms)) := by
  refine peImp (pe_lst h) fun σ H Q ⟨Hs, U, st, pv, st', hR, hm, k⟩ => ?_
  refine tGA_seq hR hm fun l st1 vs Hs1 U1 H1 _ e2 r1 s1 p1 => ?_
  obtain ⟨e4, e5⟩ := lft_some e2
  subst e5
  unfold fLst at e4
  split at e4
  · rename_i hl
    cases e4
    refine ⟨by rw [p1.len]; exact Nat.le_of_lt (lim_line hl), fun p hp => ?_⟩
    have al := PStp.alloc (o := .lst vs) (md.sub r1) hp trivial
    refine fin_step r1 s1 k _ _ _ al ?_
    simp only [Rep]
    exact ⟨p, vs, rfl, .inl upd_same, Reps.mono al.st.hs l vs p1⟩
  · cases e4

/-! calls of what is built in -/
theorem tCB_ok {r : List V → Hp → VK → Prop} {F : List PV → Option PV} (ad : ClA X.K r F) (σ : St) (H : Hp) (Q : VK) (h : tG md (mCl F ms) σ H Q) : tCB r (tGA md ms) σ H Q := by
  obtain ⟨Hs, U, st, pv, st', hR, hm, k⟩ := h
  refine tGA_seq hR hm fun l st1 vs Hs1 U1 H1 _ e2 r1 s1 p1 => ?_
  obtain ⟨e4, e5⟩ := lft_some e2
  subst e5
  exact ad Hs1 H1 l pv vs Q e4 p1 (md.sub r1) (fin_step r1 s1 k)
theorem g_callB {id : String} {r : List V → Hp → VK → Prop} {F : List PV → Option PV} {x : Str} {p : Pos} (hc : CallR X (.builtin id) r) (ad : ClA X.K r F) (hg : Gl X x) (hm : X.mg x = none) (hv : bootBuiltins x = some (.builtin id)) (ha : PA X (e :: es) (tGA md ms)) (hn : x ≠ "__name__" := by decide) (hdb : (x == ("__debug__" : Str)) = false := by decide)
    (he : starEach (e :: es) X.env = (false, eval e X.env) :: starEach es X.env := by rfl) (hpl : (backTo pos (starEach es X.env)).any (·.1) = false := by rfl) : PE X (.Call (.Name x p) (e :: es) [] pos) (tG md (mCl F ms)) :=
  peImp (pe_callB hc hg hm hv ha hn hdb he hpl) (tCB_ok ad)
theorem g_callTy {T : String} {r : List V → Hp → VK → Prop} {F : List PV → Option PV} {x : Str} {p : Pos} (hc : CallR X (.type T) r) (ad : ClA X.K r F) (hg : Gl X x) (hm : X.mg x = none) (hv : bootBuiltins x = some (.type T)) (ha : PA X (e :: es) (tGA md ms)) (hn : x ≠ "__name__" := by decide) (hdb : (x == ("__debug__" : Str)) = false := by decide)
    (he : starEach (e :: es) X.env = (false, eval e X.env) :: starEach es X.env := by rfl) (hpl : (backTo pos (starEach es X.env)).any (·.1) = false := by rfl) : PE X (.Call (.Name x p) (e :: es) [] pos) (tG md (mCl F ms)) :=
  peImp (pe_callTy hc hg hm hv ha hn hdb he hpl) (tCB_ok ad)
theorem g_callF {id : String} {r : List V → Hp → VK → Prop} {F : List PV → Option PV} {x : Str} {p : Pos} (hc : CallR X (.builtin id) r) (ad : ClA X.K r F) (hg : Gl X x) (hm : X.mg x = some (.builtin id)) (ha : PA X (e :: es) (tGA md ms)) (hdb : (x == ("__debug__" : Str)) = false := by decide)
    (he : starEach (e :: es) X.env = (false, eval e X.env) :: starEach es X.env := by rfl) (hpl : (backTo pos (starEach es X.env)).any (·.1) = false := by rfl) : PE X (.Call (.Name x p) (e :: es) [] pos) (tG md (mCl F ms)) :=
  peImp (pe_callBfun hc hg hm ha hdb he hpl) (tCB_ok ad)
end
end
end L3

set_option Elab.async false
set_option linter.all false
set_option maxRecDepth 100000
namespace L3
open PySem PySem.Spec
open PyProof.Rows hiding St
open L2

/-! ### functions of values -/
def limT (l : List PV) : Option PV := if l.length ≤ LIM then some (.tuple l) else none
def limL (l : List PV) : Option PV := if l.length ≤ LIM then some (.list l) else none
def fAdd : PV → PV → Option PV
  | .int i, .int j => some (.int (i + j))
  | .str a, .str b => if a.length + b.length ≤ LIM then some (.str (a ++ b)) else none
  | .tuple a, .tuple b => limT (a ++ b)
  | .list a, .list b => limL (a ++ b)
  | _, _ => none
def fSub : PV → PV → Option PV
  | .int i, .int j => some (.int (i - j))
  | _, _ => none
def divOk (j : Int) : Bool := decide (j ≠ 0 ∧ j.natAbs.log2 < 9000)
def fDiv : PV → PV → Option PV
  | .int i, .int j => if divOk j = true then some (.int (i.fdiv j)) else none
  | _, _ => none
def fMod : PV → PV → Option PV
  | .int i, .int j => if j ≠ 0 then some (.int (i.fmod j)) else none
  | _, _ => none
def fPow : PV → PV → Option PV
  | .int i, .int j => if 0 ≤ j ∧ j ≤ 1000000 ∧ i.natAbs < 2 ^ 64 then some (.int (i ^ j.toNat)) else none
  | _, _ => none
def fNeg : PV → Option PV
  | .int i => some (.int (-i))
  | _ => none
def fLt : PV → PV → Option PV
  | .int i, .int j => some (.bool (decide (i < j)))
  | _, _ => none
def fLe : PV → PV → Option PV
  | .int i, .int j => some (.bool (decide (i ≤ j)))
  | _, _ => none
def fGt : PV → PV → Option PV
  | .int i, .int j => some (.bool (decide (j < i)))
  | _, _ => none
def fGe : PV → PV → Option PV
  | .int i, .int j => some (.bool (decide (j ≤ i)))
  | _, _ => none
def fEq (x y : PV) : Option PV := if (SeqAt.shaped x && SeqAt.shaped y) = true then some (.bool (PyData.eqv x y)) else none
def fNe (x y : PV) : Option PV := if (SeqAt.shaped x && SeqAt.shaped y) = true then some (.bool (!PyData.eqv x y)) else none
def isNone : PV → Bool
  | .none => true
  | _ => false
def fIs (x y : PV) : Option PV := if isNone y = true then some (.bool (isNone x)) else none
def fIsNot (x y : PV) : Option PV := if isNone y = true then some (.bool (!isNone x)) else none
def atP (l : List PV) (i : Int) : Option PV := if 0 ≤ i then l[i.toNat]? else if -i ≤ l.length then l[l.length - (-i).toNat]? else none
def fIx : PV → PV → Option PV
  | .tuple l, .int i => atP l i
  | .list l, .int i => atP l i
  | _, _ => none
def truthP : PV → Option Bool
  | .none => some false
  | .bool b => some b
  | .int i => some (i != 0)
  | .list l => some (!l.isEmpty)
  | .tuple l => some (!l.isEmpty)
  | .dict l => some (!l.isEmpty)
  | .str z => if z.length ≤ LIM then some ((z.length : Int) != 0) else none

section
variable {K : Fg}
theorem rep_int {H : Hp} {i : Int} {v : V} (h : Rep K H (.int i) v) : v = .int i := by simpa only [Rep] using h
theorem rep_bool {H : Hp} {i : Bool} {v : V} (h : Rep K H (.bool i) v) : v = .bl i := by simpa only [Rep] using h
theorem rep_str {H : Hp} {i : Str} {v : V} (h : Rep K H (.str i) v) : v = .str i := by simpa only [Rep] using h
theorem rep_none {H : Hp} {v : V} (h : Rep K H .none v) : v = .non := by simpa only [Rep] using h
theorem rep_tup {H : Hp} {l : List PV} {v : V} (h : Rep K H (.tuple l) v) : ∃ a xs, v = .ref a ∧ Tp K H a xs ∧ Reps K H l xs := by simpa only [Rep] using h
theorem rep_lst {H : Hp} {l : List PV} {v : V} (h : Rep K H (.list l) v) : ∃ a xs, v = .ref a ∧ Rd H a (.lst xs) ∧ Reps K H l xs := by simpa only [Rep] using h
theorem mk_int {H : Hp} {i : Int} : Rep K H (.int i) (.int i) := by simp only [Rep]
theorem mk_bool {H : Hp} {i : Bool} : Rep K H (.bool i) (.bl i) := by simp only [Rep]
theorem mk_str {H : Hp} {i : Str} : Rep K H (.str i) (.str i) := by simp only [Rep]
theorem mk_none {H : Hp} : Rep K H .none .non := by simp only [Rep]
theorem mk_tup {H : Hp} {l : List PV} {a : Addr} {xs : List V} (h : Tp K H a xs) (r : Reps K H l xs) : Rep K H (.tuple l) (.ref a) := by simp only [Rep]; exact ⟨a, xs, rfl, h, r⟩
theorem mk_lst {H : Hp} {l : List PV} {a : Addr} {xs : List V} (h : Rd H a (.lst xs)) (r : Reps K H l xs) : Rep K H (.list l) (.ref a) := by simp only [Rep]; exact ⟨a, xs, rfl, h, r⟩
theorem sb_rd {Hs H : Hp} {a : Addr} {u : HO} (sb : Sb Hs H) (h : Rd Hs a u) : Rd H a u := rd_mono sb.same h
theorem Rd.sq {H : Hp} {a : Addr} {xs : List V} (h : Rd H a (.lst xs)) : SqL K H a xs := .inl h

/-- a new tuple, a new list as the answer -/
theorem new_tup {Hs H : Hp} {l : List PV} {xs : List V} {z : PV} {Q : VK} (sb : Sb Hs H) (r : Reps K Hs l xs) (k : ∀ u Hs' H', PStp Hs H Hs' H' → Rep K Hs' (.tuple l) u → Q u H') :
    ∀ p, H p = none → Q (.ref p) (upd H p (.tup xs)) := fun p hp => by
  have al := PStp.alloc (o := .tup xs) sb hp trivial
  exact k _ _ _ al (mk_tup (.inl upd_same) (Reps.mono al.st.hs l xs r))
theorem new_lst {Hs H : Hp} {l : List PV} {xs : List V} {Q : VK} (sb : Sb Hs H) (r : Reps K Hs l xs) (k : ∀ u Hs' H', PStp Hs H Hs' H' → Rep K Hs' (.list l) u → Q u H') :
    ∀ p, H p = none → Q (.ref p) (upd H p (.lst xs)) := fun p hp => by
  have al := PStp.alloc (o := .lst xs) sb hp trivial
  exact k _ _ _ al (mk_lst (.inl upd_same) (Reps.mono al.st.hs l xs r))

end

/-! + -/
section
variable {X : Cx}
theorem inv_rdl {pins : List (Addr × Obj)} {σ : St} {H : Hp} {s : Shared} {l : Addr} {xs : List V} (I : Inv X pins σ H s) (hH : Rd H l (.lst xs)) :
    xs.length ≤ sizeLine ∧ ∃ (its : List Value) (n : Nat), Vals xs its ∧ xs.length = its.length ∧ s.heap.get? l = some { cls := .type "list", data := .seq its.toArray n } := by
  obtain ⟨z, its, n, r, e⟩ := hH.ok I.hok
  exact ⟨z, its, n, r, r.length, e⟩
/-- list + list, of lists that are read -/
def rCatR : R2 := fun x y H Q => ∃ l b xs zs, x = .ref l ∧ y = .ref b ∧ Rd H l (.lst xs) ∧ Rd H b (.lst zs) ∧ xs.length + zs.length ≤ sizeLine ∧ ∀ p, H p = none → Q (.ref p) (upd H p (.lst (xs ++ zs)))
theorem op_catR : OpR X (binaryOp .Add) rCatR := by
  intro pins s σ H x y v u Q I rx ry h
  obtain ⟨l, b, xs, zs, rfl, rfl, hH, hB, hz, q⟩ := h
  cases rx
  cases ry
  obtain ⟨z, its, n, r, hl, e⟩ := inv_rdl I hH
  obtain ⟨z2, its2, n2, r2, hl2, e2⟩ := inv_rdl I hB
  refine PySem.P.add_list e e2 ?_ (by rw [List.size_toArray, List.size_toArray]; omega)
  have ea : its.toArray ++ its2.toArray = (its ++ its2).toArray := by simp
  rw [ea]
  exact ⟨.ref _, _, I.lnew (t' := s.toks) (r.append r2) (by rw [List.length_append]; omega), rfl, q _ I.fresh⟩
def rAddAll (K : Fg) : R2 := fun x y H Q => (((rI0 fun i j => .int (i + j)) x y H Q ∨ (∃ i j, x = .str i ∧ y = .str j ∧ i.length + j.length ≤ sizeLine ∧ Q (.str (i ++ j)) H)) ∨ rCatA K x y H Q) ∨ rCatR x y H Q
theorem op_addAll : OpR X (binaryOp .Add) (rAddAll X.K) := ((op_add.or op_add_str).or op_catA).or op_catR
theorem ad_add {K : Fg} : OpA K (rAddAll K) fAdd := by
  intro Hs H x y z v w Q e rx ry sb k
  unfold fAdd at e
  split at e
  · cases e
    exact .inl (.inl (.inl ⟨_, _, rep_int rx, rep_int ry, k _ Hs H (.refl sb) mk_int⟩))
  · split at e
    · rename_i hl
      cases e
      exact .inl (.inl (.inr ⟨_, _, rep_str rx, rep_str ry, Nat.le_of_lt (lim_line hl), k _ Hs H (.refl sb) mk_str⟩))
    · cases e
  · unfold limT at e
    split at e
    · rename_i a b hl
      cases e
      obtain ⟨p, xs, rfl, h1, r1⟩ := rep_tup rx
      obtain ⟨q, ys, rfl, h2, r2⟩ := rep_tup ry
      refine .inl (.inr ⟨p, q, xs, ys, rfl, rfl, sqT_mono sb.same h1, sqT_mono sb.same h2, ?_, fun e => ?_, fun e1 e2 => ?_, fun e1 e2 => ?_⟩)
      · rw [r1.len, r2.len, ← List.length_append]; exact Nat.le_of_lt (lim_line hl)
      · have : a = [] := List.length_eq_zero_iff.mp (by rw [← r1.len, e]; rfl)
        subst this
        exact k _ Hs H (.refl sb) (mk_tup h2 r2)
      · have : b = [] := List.length_eq_zero_iff.mp (by rw [← r2.len, e2]; rfl)
        subst this
        rw [List.append_nil] at k
        exact k _ Hs H (.refl sb) (mk_tup h1 r1)
      · exact new_tup (z := .none) sb (Reps.app r1 r2) k
    · cases e
  · unfold limL at e
    split at e
    · rename_i a b hl
      cases e
      obtain ⟨p, xs, rfl, h1, r1⟩ := rep_lst rx
      obtain ⟨q, ys, rfl, h2, r2⟩ := rep_lst ry
      refine .inr ⟨p, q, xs, ys, rfl, rfl, sb_rd sb h1, sb_rd sb h2, ?_, ?_⟩
      · rw [r1.len, r2.len, ← List.length_append]; exact Nat.le_of_lt (lim_line hl)
      · exact new_lst sb (Reps.app r1 r2) k
    · cases e
  · cases e

theorem ad_sub {K : Fg} : OpA K (rI0 fun i j => .int (i - j)) fSub := by
  intro Hs H x y z v w Q e rx ry sb k
  unfold fSub at e
  split at e
  · cases e
    exact ⟨_, _, rep_int rx, rep_int ry, k _ Hs H (.refl sb) mk_int⟩
  · cases e

/-! * -/
def mulOk (i j : Int) : Bool := decide (i.natAbs.log2 + j.natAbs.log2 < 1000000)
def fMul : PV → PV → Option PV
  | .int i, .int j => if mulOk i j = true then some (.int (i * j)) else none
  | .list a, .int k => if 0 ≤ k ∧ k ≤ 100000 ∧ a.length * k.toNat ≤ LIM then some (.list (List.replicate k.toNat a).flatten) else none
  | .tuple a, .int k => if a ≠ [] ∧ 1 ≤ k ∧ k ≤ 1000 ∧ a.length ≤ 1000 then some (.tuple (List.replicate k.toNat a).flatten) else none
  | _, _ => none
theorem tuple_mul1 (l : Addr) (items : Array Value) (n : Nat) (dd : Option Addr) (sl : Array (Option Value)) (u : Tok) :
    Meets (Builtin.«tuple.__mul__» ⟨[.ref l, .int 1 u], []⟩) (fun _ R s => s.heap.get? l = some { cls := .type "tuple", dict := dd, data := .seq items n, slots := sl } ∧
      R (.ok (.ret (Value.ref l))) s) :=
  .of_wp fun prog w A R s h => by
    obtain ⟨hp, g, d, tk, os⟩ := s
    obtain ⟨hl, h⟩ := h
    have f1 := AutoSeq1.idx_int
    have c1 : (items.isEmpty || ((1:Int) == 1)) = true := by simp
    wp_walk using wpAny_loadPart' hl
    repeat (first
      | (refine wpAny_ite_false (decide_eq_false (by decide)) ?_; wp_walk using wpAny_loadPart' hl)
      | (refine wpAny_ite_true (decide_eq_true c1) ?_; wp_walk using wpAny_loadPart' hl)
      | (refine wpAny_ite_true (decide_eq_true (by decide)) ?_; wp_walk using wpAny_loadPart' hl))
    exact ⟨_, rfl, h⟩
def rRep1 (K : Fg) : R2 := fun x y H Q => ∃ l xs, x = .ref l ∧ y = .int 1 ∧ SqT K H l xs ∧ Q (.ref l) H
theorem op_rep1 : OpR X (binaryOp .Mult) (rRep1 X.K) := by
  intro pins s σ H x y v u Q I rx ry h
  obtain ⟨l, xs, rfl, rfl, hT, q⟩ := h
  cases rx
  obtain ⟨t, rfl⟩ := ry
  obtain ⟨its, r, ⟨⟨cls, dd, data, sl⟩, ho, hc, n, hd⟩, hs⟩ := I.tuple hT
  simp only at hc hd
  subst hc hd
  exact wpAny_binaryOp_repeat_ref (T := "tuple") (U := "int") (by decide) ⟨_, ho, rfl⟩ (fun s' => typeIs_int s' 1 t) noFill_tuple_mul F.fills_int_mul F.slot_int_rmul repeat_tuple F.slot_int_index.lookup
    (call_meets F.slot_int_rmul (typeIs_int s 1 t) F.entry_int_rmul (F.args_int_rmul_2 _ _) (int_rmul_tuple 1 t l its.toArray n dd sl)
      ⟨ho, rfl, ⟨_, ho, rfl⟩, call_meets F.slot_tuple_mul ⟨_, ho, rfl⟩ F.entry_tuple_mul (F.args_tuple_mul_2 _ _) (tuple_mul1 l its.toArray n dd sl t) ⟨ho, ⟨.ref l, H, I, rfl, q⟩⟩⟩)
def rRepR : R2 := fun x y H Q => ∃ l k xs, x = .ref l ∧ y = .int k ∧ Rd H l (.lst xs) ∧ -(2 ^ 63) ≤ k ∧ k < 2 ^ 63 ∧ xs.length * k.toNat ≤ sizeLine ∧
  ∀ p, H p = none → Q (.ref p) (upd H p (.lst (List.replicate k.toNat xs).flatten))
theorem op_repR : OpR X (binaryOp .Mult) rRepR := by
  intro pins s σ H x y v u Q I rx ry h
  obtain ⟨l, k, xs, rfl, rfl, hH, h1, h2, hz, q⟩ := h
  cases rx
  obtain ⟨t, rfl⟩ := ry
  obtain ⟨z, its, n, r, hl, e⟩ := inv_rdl I hH
  have hlen : its.toArray.size * k.toNat ≤ sizeLine := by rw [List.size_toArray, ← hl]; exact hz
  have hcap : ¬ its.toArray.size * k.toNat > (2 ^ 63 - 1) / 8 := by
    have : (sizeLine : Nat) ≤ (2 ^ 63 - 1) / 8 := by decide
    omega
  have hfit : ¬ (!Builtin.List.listFitsIndex k) = true := by
    rw [fitsIndex_both h1 h2]
    exact Bool.false_ne_true
  have hlong : ¬ Builtin.List.listTooLong (its.toArray.size * k.toNat) = true := by
    rw [notLongL hlen]
    exact Bool.false_ne_true
  have hnew : List.foldl (fun x1 x2 => x1 ++ x2) #[] (List.replicate (if its.toArray.isEmpty = true then 0 else k.toNat) its.toArray) = (List.replicate k.toNat its).flatten.toArray := by
    have f0 : ∀ m : Nat, List.foldl (fun x1 x2 => x1 ++ x2) #[] (List.replicate m its.toArray) = (List.replicate m its).flatten.toArray := fun m => by
      have := foldl_rep its m []
      rw [List.nil_append] at this
      exact this
    rw [f0]
    cases its with
    | nil => simp
    | cons a r' => rw [if_neg (by simp)]
  refine wpAny_binaryOp_repeat_ref (T := "list") (U := "int") (by decide) ⟨_, e, rfl⟩ (fun s' => typeIs_int s' k t) noFill_list_mul F.fills_int_mul F.slot_int_rmul repeat_list F.slot_int_index.lookup
    (call_meets F.slot_int_rmul (typeIs_int s k t) F.entry_int_rmul (F.args_int_rmul_2 _ _) (int___rmul___int_list k t l its.toArray n)
      ⟨e, rfl, ⟨_, e, rfl⟩, call_meets F.slot_list_mul ⟨_, e, rfl⟩ F.entry_list_mul (F.args_list_mul_2 _ _) (AutoListH.list___mul___list_int_3 l its.toArray n k t hfit hcap hlong) ⟨e, ?_⟩⟩)
  rw [hnew]
  exact ⟨.ref _, _, I.lnew (t' := s.toks) (r.rep k.toNat) (by rw [PyProof.Rows.lm_len_rep_flat, Nat.mul_comm]; exact hz), rfl, q _ I.fresh⟩
def rMulAll (K : Fg) : R2 := fun x y H Q => (((rI CMulW fun i j => .int (i * j)) x y H Q ∨ rRepR x y H Q) ∨ rRepT K x y H Q) ∨ rRep1 K x y H Q
theorem op_mulAll : OpR X (binaryOp .Mult) (rMulAll X.K) := ((op_mulW.or op_repR).or op_repT).or op_rep1
theorem ad_mul {K : Fg} : OpA K (rMulAll K) fMul := by
  intro Hs H x y z v w Q e rx ry sb k
  unfold fMul at e
  split at e
  · split at e
    · rename_i hl
      cases e
      unfold mulOk at hl
      have hl := of_decide_eq_true hl
      exact .inl (.inl (.inl ⟨_, _, rep_int rx, rep_int ry, hl, k _ Hs H (.refl sb) mk_int⟩))
    · cases e
  · split at e
    · rename_i a j hl
      cases e
      obtain ⟨p, xs, rfl, h1, r1⟩ := rep_lst rx
      refine .inl (.inl (.inr ⟨p, _, xs, rfl, rep_int ry, sb_rd sb h1, by omega, by omega, by rw [r1.len]; exact Nat.le_of_lt (lim_line hl.2.2), ?_⟩))
      exact new_lst sb (r1.rep _) k
    · cases e
  · split at e
    · rename_i a j hl
      cases e
      obtain ⟨p, xs, rfl, h1, r1⟩ := rep_tup rx
      by_cases h2 : j = 1
      · subst h2
        refine .inr ⟨p, xs, rfl, rep_int ry, sqT_mono sb.same h1, k _ Hs H (.refl sb) ?_⟩
        have e1 : (List.replicate (1 : Int).toNat a).flatten = a := by simp
        rw [e1]
        exact mk_tup h1 r1
      · refine .inl (.inr ⟨p, _, xs, rfl, rep_int ry, sqT_mono sb.same h1, fun e => hl.1 ?_, by omega, by omega, by rw [r1.len]; exact hl.2.2.2, ?_⟩)
        · exact List.length_eq_zero_iff.mp (by rw [← r1.len, e]; rfl)
        · exact new_tup (z := .none) sb (r1.rep _) k
    · cases e
  · cases e

/-! //, %, **, - -/
def CDivG (_ j : Int) : Prop := j ≠ 0 ∧ j.natAbs.log2 < 9000
theorem op_fdivG : OpR X (binaryOp .FloorDiv) (rI CDivG fun i j => .int (i.fdiv j)) := opI fun i j _ _ _ _ _ hc q => floordiv_int hc.1 q (.inl (PyProof.noPylong_of_log2 hc.2))
theorem ad_div {K : Fg} : OpA K (rI CDivG fun i j => .int (i.fdiv j)) fDiv := by
  intro Hs H x y z v w Q e rx ry sb k
  unfold fDiv at e
  split at e
  · split at e
    · rename_i hl
      cases e
      unfold divOk at hl
      have hl := of_decide_eq_true hl
      exact ⟨_, _, rep_int rx, rep_int ry, hl, k _ Hs H (.refl sb) mk_int⟩
    · cases e
  · cases e
theorem ad_mod {K : Fg} : OpA K (rI (fun _ j => j ≠ 0) fun i j => .int (i.fmod j)) fMod := by
  intro Hs H x y z v w Q e rx ry sb k
  unfold fMod at e
  split at e
  · split at e
    · rename_i hl
      cases e
      exact ⟨_, _, rep_int rx, rep_int ry, hl, k _ Hs H (.refl sb) mk_int⟩
    · cases e
  · cases e
theorem ad_pow {K : Fg} : OpA K (rI CPow fun i j => .int (i ^ j.toNat)) fPow := by
  intro Hs H x y z v w Q e rx ry sb k
  unfold fPow at e
  split at e
  · split at e
    · rename_i hl
      cases e
      exact ⟨_, _, rep_int rx, rep_int ry, hl, k _ Hs H (.refl sb) mk_int⟩
    · cases e
  · cases e
theorem ad_neg {K : Fg} : UnA K (rU fun i => .int (-i)) fNeg := by
  intro Hs H x z v Q e rx sb k
  unfold fNeg at e
  split at e
  · cases e
    exact ⟨_, rep_int rx, k _ Hs H (.refl sb) mk_int⟩
  · cases e
/-! comparisons -/
theorem ad_lt {K : Fg} : OpA K (rI0 fun i j => .bl (decide (i < j))) fLt := by
  intro Hs H x y z v w Q e rx ry sb k
  unfold fLt at e
  split at e
  · cases e; exact ⟨_, _, rep_int rx, rep_int ry, k _ Hs H (.refl sb) mk_bool⟩
  · cases e
theorem ad_le {K : Fg} : OpA K (rI0 fun i j => .bl (decide (i ≤ j))) fLe := by
  intro Hs H x y z v w Q e rx ry sb k
  unfold fLe at e
  split at e
  · cases e; exact ⟨_, _, rep_int rx, rep_int ry, k _ Hs H (.refl sb) mk_bool⟩
  · cases e
theorem ad_gt {K : Fg} : OpA K (rI0 fun i j => .bl (decide (j < i))) fGt := by
  intro Hs H x y z v w Q e rx ry sb k
  unfold fGt at e
  split at e
  · cases e; exact ⟨_, _, rep_int rx, rep_int ry, k _ Hs H (.refl sb) mk_bool⟩
  · cases e
theorem ad_ge {K : Fg} : OpA K (rI0 fun i j => .bl (decide (j ≤ i))) fGe := by
  intro Hs H x y z v w Q e rx ry sb k
  unfold fGe at e
  split at e
  · cases e; exact ⟨_, _, rep_int rx, rep_int ry, k _ Hs H (.refl sb) mk_bool⟩
  · cases e
mutual
theorem rep_dp {K : Fg} {H : Hp} : ∀ (p : PV) (v : V), Rep K H p v → p.canLay0 = true → Dp K H v p
  | .none, v, h, _ => by rw [rep_none h]; exact .non
  | .bool b, v, h, _ => by rw [rep_bool h]; exact .bl b
  | .int i, v, h, _ => by rw [rep_int h]; exact .int i
  | .str x, v, h, _ => by rw [rep_str h]; exact .str x
  | .list l, v, h, c => by
    obtain ⟨a, xs, rfl, s, r⟩ := rep_lst h
    exact .lst (.inl s) (reps_dp l xs r (by simp only [PyData.canLay0] at c; exact c))
  | .tuple l, v, h, c => by
    obtain ⟨a, xs, rfl, s, r⟩ := rep_tup h
    exact .tup (sqT_mono (Same.refl _) s) (reps_dp l xs r (by simp only [PyData.canLay0] at c; exact c))
  | .dict l, v, h, c => by simp [PyData.canLay0] at c
theorem reps_dp {K : Fg} {H : Hp} : ∀ (l : List PV) (xs : List V), Reps K H l xs → PyData.canLayAll0 l = true → DpAll K H xs l
  | [], xs, h, _ => by simp only [Reps] at h; subst h; exact .nil
  | p :: l, xs, h, c => by
    simp only [Reps] at h
    obtain ⟨x, r, rfl, h1, h2⟩ := h
    simp only [PyData.canLayAll0, Bool.and_eq_true] at c
    exact .cons (rep_dp p x h1 c.1) (reps_dp l r h2 c.2)
end
theorem ad_eq {K : Fg} : OpA K (rEqD K) fEq := by
  intro Hs H x y z v w Q e rx ry sb k
  unfold fEq at e
  split at e
  · rename_i c
    cases e
    rw [Bool.and_eq_true] at c
    exact ⟨x, y, rep_dp x v (Rep.mono sb.same x v rx) (SeqAt.canLay_of_shaped c.1), rep_dp y w (Rep.mono sb.same y w ry) (SeqAt.canLay_of_shaped c.2), c.1, c.2, k _ Hs H (.refl sb) mk_bool⟩
  · cases e
theorem ad_ne {K : Fg} : OpA K (rNeD K) fNe := by
  intro Hs H x y z v w Q e rx ry sb k
  unfold fNe at e
  split at e
  · rename_i c
    cases e
    rw [Bool.and_eq_true] at c
    exact ⟨x, y, rep_dp x v (Rep.mono sb.same x v rx) (SeqAt.canLay_of_shaped c.1), rep_dp y w (Rep.mono sb.same y w ry) (SeqAt.canLay_of_shaped c.2), c.1, c.2, k _ Hs H (.refl sb) mk_bool⟩
  · cases e
theorem rep_non_iff {K : Fg} {H : Hp} {x : PV} {v : V} (h : Rep K H x v) : decide (v = V.non) = isNone x := by
  cases x with
  | none => rw [rep_none h]; rfl
  | bool b => rw [rep_bool h]; rfl
  | int i => rw [rep_int h]; rfl
  | str b => rw [rep_str h]; rfl
  | list l => obtain ⟨a, xs, rfl, _⟩ := rep_lst h; rfl
  | tuple l => obtain ⟨a, xs, rfl, _⟩ := rep_tup h; rfl
  | dict l => simp only [Rep] at h; obtain ⟨_, a, rfl, _⟩ := h; rfl
theorem ad_is {K : Fg} : OpA K (fun x y H Q => y = .non ∧ Q (.bl (decide (x = .non))) H) fIs := by
  intro Hs H x y z v w Q e rx ry sb k
  unfold fIs at e
  split at e
  · rename_i c
    cases e
    refine ⟨of_decide_eq_true ((rep_non_iff ry).trans c), ?_⟩
    rw [rep_non_iff rx]
    exact k _ Hs H (.refl sb) mk_bool
  · cases e
theorem ad_isnot {K : Fg} : OpA K (fun x y H Q => y = .non ∧ Q (.bl (!decide (x = .non))) H) fIsNot := by
  intro Hs H x y z v w Q e rx ry sb k
  unfold fIsNot at e
  split at e
  · rename_i c
    cases e
    refine ⟨of_decide_eq_true ((rep_non_iff ry).trans c), ?_⟩
    rw [rep_non_iff rx]
    exact k _ Hs H (.refl sb) mk_bool
  · cases e
/-! subscripts -/
theorem atP_ok {K : Fg} {H : Hp} {l : List PV} {xs : List V} {i : Int} {p : PV} (r : Reps K H l xs) (h : atP l i = some p) : ∃ v, atI xs i = some v ∧ Rep K H p v := by
  have hl := r.len
  unfold atP at h
  split at h
  · rename_i h0
    obtain ⟨v, e, q⟩ := r.get h
    exact ⟨v, by have := atI_nat e; rwa [Int.toNat_of_nonneg h0] at this, q⟩
  · rename_i h0
    split at h
    · rename_i h1
      obtain ⟨v, e, q⟩ := r.get h
      refine ⟨v, ?_, q⟩
      unfold atI
      have e2 : ixN xs.length i = some (l.length - (-i).toNat) := by
        unfold ixN
        rw [if_neg h0, hl, if_pos (by omega)]
        congr 1
        omega
      rw [e2]
      exact e
    · cases h
theorem ad_ix {K : Fg} : OpA K (fun x y H Q => rIxL K x y H Q ∨ rIxT K x y H Q) fIx := by
  intro Hs H x y z v w Q e rx ry sb k
  unfold fIx at e
  split at e
  · obtain ⟨a, xs, rfl, s, r⟩ := rep_tup rx
    obtain ⟨u, e1, q⟩ := atP_ok r e
    exact .inr ⟨a, xs, _, u, rfl, rep_int ry, sqT_mono sb.same s, e1, k _ Hs H (.refl sb) q⟩
  · obtain ⟨a, xs, rfl, s, r⟩ := rep_lst rx
    obtain ⟨u, e1, q⟩ := atP_ok r e
    exact .inl ⟨a, xs, _, u, rfl, rep_int ry, .inl (sb_rd sb s), e1, k _ Hs H (.refl sb) q⟩
  · cases e
theorem ix_all : IxR X (fun x y H Q => rIxL X.K x y H Q ∨ rIxT X.K x y H Q) := ix_list.or ix_tup
/-! truth -/
theorem isEmpty_len {α β : Type} {l : List α} {xs : List β} (h : xs.length = l.length) : (!xs.isEmpty) = !l.isEmpty := by
  cases l <;> cases xs <;> simp_all
theorem tru_of {K : Fg} {Hs H : Hp} {x : PV} {v : V} {b : Bool} (e : truthP x = some b) (r : Rep K Hs x v) (sb : Sb Hs H) : TruV K v H b := by
  cases x with
  | none => rw [rep_none r]; cases e; rfl
  | bool b => rw [rep_bool r]; cases e; rfl
  | int i => rw [rep_int r]; cases e; rfl
  | str z =>
    rw [rep_str r]
    simp only [truthP] at e
    split at e
    · rename_i hl
      cases e
      exact ⟨Nat.le_of_lt (lim_line hl), rfl⟩
    · cases e
  | list l =>
    obtain ⟨a, xs, rfl, s, q⟩ := rep_lst r
    cases e
    exact .inl ⟨xs, .inl (sb_rd sb s), (isEmpty_len q.len).symm⟩
  | tuple l =>
    obtain ⟨a, xs, rfl, s, q⟩ := rep_tup r
    cases e
    exact .inr (.inl ⟨xs, sqT_mono sb.same s, (isEmpty_len q.len).symm⟩)
  | dict l =>
    simp only [Rep] at r
    obtain ⟨rfl, a, rfl, s⟩ := r
    cases e
    exact .inr (.inr ⟨[], (sb _ _ s).2, rfl⟩)
end
end L3

set_option Elab.async false
set_option linter.all false
set_option maxRecDepth 100000
namespace L3
open PySem PySem.Spec
open PyProof.Rows hiding St
open L2

/-! ### tests -/
def mTr {S : Type} (m : M S PV) : M S Bool := bnd m fun x => lft (truthP x)
def mAnd {S : Type} (a b : M S Bool) : M S Bool := bnd a fun c => match c with
  | true => b
  | false => ret false
def mOr {S : Type} (a b : M S Bool) : M S Bool := bnd a fun c => match c with
  | true => ret true
  | false => b
def mNot {S : Type} (a : M S Bool) : M S Bool := bnd a fun c => ret (!c)
def mIf {S α : Type} (c : M S Bool) (a b : M S α) : M S α := bnd c fun d => match d with
  | true => a
  | false => b
def mAndV {S : Type} (a b : M S PV) : M S PV := bnd a fun x => bnd (lft (truthP x)) fun c => match c with
  | true => b
  | false => ret x
def mOrV {S : Type} (a b : M S PV) : M S PV := bnd a fun x => bnd (lft (truthP x)) fun c => match c with
  | true => ret x
  | false => b
def fNot (x : PV) : Option PV := (truthP x).map fun b => .bool (!b)
def mChain {S : Type} (F F' : PV → PV → Option PV) (ma mb mc : M S PV) : M S PV := bnd ma fun x => bnd mb fun y => bnd (lft (F x y)) fun z => match z with
  | .bool true => bnd mc fun w => lft (F' y w)
  | .bool false => ret (.bool false)
  | _ => fun _ => none
/-- a function whose answers are truth values -/
def BoolF (F : PV → PV → Option PV) : Prop := ∀ x y z, F x y = some z → ∃ b, z = .bool b
theorem bf_lt : BoolF fLt := fun x y z h => by unfold fLt at h; split at h <;> cases h; exact ⟨_, rfl⟩
theorem bf_le : BoolF fLe := fun x y z h => by unfold fLe at h; split at h <;> cases h; exact ⟨_, rfl⟩
theorem bf_gt : BoolF fGt := fun x y z h => by unfold fGt at h; split at h <;> cases h; exact ⟨_, rfl⟩
theorem bf_ge : BoolF fGe := fun x y z h => by unfold fGe at h; split at h <;> cases h; exact ⟨_, rfl⟩
theorem bf_eq : BoolF fEq := fun x y z h => by unfold fEq at h; split at h <;> cases h; exact ⟨_, rfl⟩
theorem bf_ne : BoolF fNe := fun x y z h => by unfold fNe at h; split at h <;> cases h; exact ⟨_, rfl⟩
theorem bf_is : BoolF fIs := fun x y z h => by unfold fIs at h; split at h <;> cases h; exact ⟨_, rfl⟩
theorem bf_isnot : BoolF fIsNot := fun x y z h => by unfold fIsNot at h; split at h <;> cases h; exact ⟨_, rfl⟩

section
variable {S : Type} {X : Cx} {o : Ops S} {md : Md X.K o} {a b c e : Expr} {es rest : List Expr} {ma mb mc me : M S PV} {ta tb : M S Bool} {ms : M S (List PV)} {pos : Pos}

/-- a test from a value's reading: the value is a truth value -/
theorem tTest_ok {t : TE} {m : M S PV} (hb : ∀ st pv st', m st = some (pv, st') → ∃ b, pv = .bool b) (ht : ∀ σ H Q, tG md m σ H Q → t σ H Q) (σ : St) (H : Hp) (Q : Bool → Hp → Prop) (h : tGT md (mTr m) σ H Q) : tTest t σ H Q := by
  obtain ⟨Hs, U, st, bb, st', hR, hm, k⟩ := h
  refine ht σ H _ ?_
  refine tG_seq hR hm fun x st1 v Hs1 U1 H1 e1 e2 r1 s1 p1 => ?_
  obtain ⟨e4, e5⟩ := lft_some e2
  subst e5
  obtain ⟨b, rfl⟩ := hb _ _ _ e1
  cases e4
  exact ⟨_, rep_bool p1, k _ _ _ r1 s1⟩
theorem mOp_bool {F : PV → PV → Option PV} (hF : BoolF F) (st : S) (pv : PV) (st' : S) (h : mOp F ma mb st = some (pv, st')) : ∃ b, pv = .bool b := by
  obtain ⟨x, s1, _, h⟩ := bnd_some h
  obtain ⟨y, s2, _, h⟩ := bnd_some h
  exact hF _ _ _ (lft_some h).1
theorem g_cmpT {op : CmpOp} {r : R2} {F : PV → PV → Option PV} (ho : OpR X (compareOp op) r) (ad : OpA X.K r F) (hF : BoolF F) (ha : PE X a (tG md ma)) (hb : PE X b (tG md mb)) (hm : behindInMarks op b = false) : PT X (.Compare a [op] [b] pos) (tGT md (mTr (mOp F ma mb))) :=
  ptImp (pt_cmpR ho ha hb hm) (tTest_ok (mOp_bool hF) (tOp_ok ad))
theorem g_truth (ha : PE X a (tG md ma)) (he : ∀ whole, isTrue a X.env whole = (do let v ← whole; standAt a.pos; holding [v] (truthy v))) : PT X a (tGT md (mTr ma)) := by
  refine ptImp (pt_truth ha he) fun σ H Q ⟨Hs, U, st, bb, st', hR, hm, k⟩ => ?_
  refine tG_seq hR hm fun x st1 v Hs1 U1 H1 e1 e2 r1 s1 p1 => ?_
  obtain ⟨e4, e5⟩ := lft_some e2
  subst e5
  exact ⟨bb, tru_of e4 p1 (md.sub r1), k _ _ _ r1 s1⟩
theorem g_and1 (ha : PT X a (tGT md ta)) : PW X (.BoolOp .And [a] pos) (tGT md ta) := pw_and1 ha
theorem g_or1 (ha : PT X a (tGT md ta)) : PW X (.BoolOp .Or [a] pos) (tGT md ta) := pw_or1 ha
theorem g_and (ha : PT X a (tGT md ta)) (hb : PW X (.BoolOp .And (b :: rest) pos) (tGT md tb)) : PW X (.BoolOp .And (a :: b :: rest) pos) (tGT md (mAnd ta tb)) := by
  refine pwImp (pw_and ha hb) fun σ H Q ⟨Hs, U, st, bb, st', hR, hm, k⟩ => ?_
  refine tGT_seq hR hm fun x st1 Hs1 U1 H1 e1 e2 r1 s1 => ?_
  cases x with
  | true => exact iteT ⟨Hs1, U1, st1, bb, st', r1, e2, fun Hs' U' H' r s => k Hs' U' H' r (s1.trans s)⟩
  | false => cases e2; exact iteF (k _ _ _ r1 s1)
theorem g_or (ha : PT X a (tGT md ta)) (hb : PW X (.BoolOp .Or (b :: rest) pos) (tGT md tb)) : PW X (.BoolOp .Or (a :: b :: rest) pos) (tGT md (mOr ta tb)) := by
  refine pwImp (pw_or ha hb) fun σ H Q ⟨Hs, U, st, bb, st', hR, hm, k⟩ => ?_
  refine tGT_seq hR hm fun x st1 Hs1 U1 H1 e1 e2 r1 s1 => ?_
  cases x with
  | false => exact iteF ⟨Hs1, U1, st1, bb, st', r1, e2, fun Hs' U' H' r s => k Hs' U' H' r (s1.trans s)⟩
  | true => cases e2; exact iteT (k _ _ _ r1 s1)
theorem g_notT (ha : PT X a (tGT md ta)) : PT X (.UnaryOp .Not a pos) (tGT md (mNot ta)) := by
  refine ptImp (pt_not ha) fun σ H Q ⟨Hs, U, st, bb, st', hR, hm, k⟩ => ?_
  refine tGT_seq hR hm fun x st1 Hs1 U1 H1 e1 e2 r1 s1 => ?_
  cases e2
  exact k _ _ _ r1 s1
theorem g_one {op} (ha : PE X a (tG md ma)) : PE X (.BoolOp op [a] pos) (tG md ma) := pe_one ha
theorem g_andV (ha : PE X a (tG md ma)) (hb : PE X (.BoolOp .And (b :: rest) pos) (tG md mb)) : PE X (.BoolOp .And (a :: b :: rest) pos) (tG md (mAndV ma mb)) := by
  refine peImp (pe_andT ha hb) fun σ H Q ⟨Hs, U, st, pv, st', hR, hm, k⟩ => ?_
  refine tG_seq hR hm fun x st1 v Hs1 U1 H1 e1 e2 r1 s1 p1 => ?_
  obtain ⟨c, st2, e3, e4⟩ := bnd_some e2
  obtain ⟨e5, e6⟩ := lft_some e3
  subst e6
  refine ⟨c, tru_of e5 p1 (md.sub r1), ?_⟩
  cases c with
  | true => exact iteT ⟨Hs1, U1, _, pv, st', r1, e4, fun v Hs' U' H' r s => k v Hs' U' H' r (s1.trans s)⟩
  | false => cases e4; exact iteF (k _ _ _ _ r1 s1 p1)
theorem g_orV (ha : PE X a (tG md ma)) (hb : PE X (.BoolOp .Or (b :: rest) pos) (tG md mb)) : PE X (.BoolOp .Or (a :: b :: rest) pos) (tG md (mOrV ma mb)) := by
  refine peImp (pe_orT ha hb) fun σ H Q ⟨Hs, U, st, pv, st', hR, hm, k⟩ => ?_
  refine tG_seq hR hm fun x st1 v Hs1 U1 H1 e1 e2 r1 s1 p1 => ?_
  obtain ⟨c, st2, e3, e4⟩ := bnd_some e2
  obtain ⟨e5, e6⟩ := lft_some e3
  subst e6
  refine ⟨c, tru_of e5 p1 (md.sub r1), ?_⟩
  cases c with
  | false => exact iteF ⟨Hs1, U1, _, pv, st', r1, e4, fun v Hs' U' H' r s => k v Hs' U' H' r (s1.trans s)⟩
  | true => cases e4; exact iteT (k _ _ _ _ r1 s1 p1)
theorem g_notV (ha : PE X a (tG md ma)) : PE X (.UnaryOp .Not a pos) (tG md (mUn fNot ma)) := by
  refine peImp (pe_notT ha) fun σ H Q ⟨Hs, U, st, pv, st', hR, hm, k⟩ => ?_
  refine tG_seq hR hm fun x st1 v Hs1 U1 H1 e1 e2 r1 s1 p1 => ?_
  obtain ⟨e5, e6⟩ := lft_some e2
  subst e6
  unfold fNot at e5
  cases e7 : truthP x with
  | none => rw [e7] at e5; cases e5
  | some c =>
    rw [e7] at e5; cases e5
    exact ⟨c, tru_of e7 p1 (md.sub r1), k _ _ _ _ r1 s1 mk_bool⟩
theorem g_ifExp (hc : PT X c (tGT md ta)) (ha : PE X a (tG md ma)) (hb : PE X b (tG md mb)) : PE X (.IfExp c a b pos) (tG md (mIf ta ma mb)) := by
  refine peImp (pe_ifExp hc ha hb) fun σ H Q ⟨Hs, U, st, pv, st', hR, hm, k⟩ => ?_
  refine tGT_seq hR hm fun x st1 Hs1 U1 H1 e1 e2 r1 s1 => ?_
  cases x with
  | true => exact iteT ⟨Hs1, U1, _, pv, st', r1, e2, fun v Hs' U' H' r s => k v Hs' U' H' r (s1.trans s)⟩
  | false => exact iteF ⟨Hs1, U1, _, pv, st', r1, e2, fun v Hs' U' H' r s => k v Hs' U' H' r (s1.trans s)⟩
theorem tChain_ok {r r' : R2} {F F' : PV → PV → Option PV} (ad : OpA X.K r F) (ad' : OpA X.K r' F') (σ : St) (H : Hp) (Q : VK) (h : tG md (mChain F F' ma mb mc) σ H Q) : tChain r r' (tG md ma) (tG md mb) (tG md mc) σ H Q := by
  obtain ⟨Hs, U, st, pv, st', hR, hm, k⟩ := h
  refine tG_seq hR hm fun x st1 v Hs1 U1 H1 _ e2 r1 s1 p1 => ?_
  refine tG_seq r1 e2 fun y st2 w Hs2 U2 H2 _ e3 r2 s2 p2 => ?_
  obtain ⟨z, st3, e4, e5⟩ := bnd_some e3
  obtain ⟨e6, e7⟩ := lft_some e4
  subst e7
  refine ad Hs2 H2 x y z v w _ e6 (Rep.mono s2.hs x v p1) p2 (md.sub r2) fun u Hs3 H3 s3 p3 => ?_
  have r3 := md.grow r2 s3
  have s03 := (s1.trans s2).trans (s3.st.lift U2)
  split at e5
  · refine ⟨true, rep_bool p3, iteT ?_⟩
    refine tG_seq r3 e5 fun q st4 w' Hs4 U4 H4 _ e8 r4 s4 p4 => ?_
    obtain ⟨e9, e10⟩ := lft_some e8
    subst e10
    exact ad' Hs4 H4 y q pv w w' Q e9 (Rep.mono (s3.st.hs.trans s4.hs) y w p2) p4 (md.sub r4) (fin_step r4 (s03.trans s4) k)
  · cases e5
    exact ⟨false, rep_bool p3, iteF (k _ _ _ _ r3 s03 mk_bool)⟩
  · cases e5
theorem g_chain {op op' : CmpOp} {r r' : R2} {F F' : PV → PV → Option PV} (ho : OpR X (compareOp op) r) (ho' : OpR X (compareOp op') r') (ad : OpA X.K r F) (ad' : OpA X.K r' F') (ha : PE X a (tG md ma)) (hb : PE X b (tG md mb)) (hc : PE X c (tG md mc))
    (hm : lastMarks [op, op'] [b, c] = false := by with_unfolding_all rfl) : PE X (.Compare a [op, op'] [b, c] pos) (tG md (mChain F F' ma mb mc)) := peImp (pe_chain ho ho' ha hb hc hm) (tChain_ok ad ad')
theorem mChain_bool {F F' : PV → PV → Option PV} (hF : BoolF F') (st : S) (pv : PV) (st' : S) (h : mChain F F' ma mb mc st = some (pv, st')) : ∃ b, pv = .bool b := by
  obtain ⟨x, s1, _, h⟩ := bnd_some h
  obtain ⟨y, s2, _, h⟩ := bnd_some h
  obtain ⟨z, s3, _, h⟩ := bnd_some h
  split at h
  · obtain ⟨q, s4, _, h⟩ := bnd_some h
    exact hF _ _ _ (lft_some h).1
  · cases h; exact ⟨_, rfl⟩
  · cases h
theorem g_chainT {op op' : CmpOp} {r r' : R2} {F F' : PV → PV → Option PV} (ho : OpR X (compareOp op) r) (ho' : OpR X (compareOp op') r') (ad : OpA X.K r F) (ad' : OpA X.K r' F') (hF : BoolF F') (ha : PE X a (tG md ma)) (hb : PE X b (tG md mb)) (hc : PE X c (tG md mc))
    (hm : lastMarks [op, op'] [b, c] = false := by with_unfolding_all rfl) : PT X (.Compare a [op, op'] [b, c] pos) (tGT md (mTr (mChain F F' ma mb mc))) := ptImp (pt_chain ho ho' ha hb hc hm) (tTest_ok (mChain_bool hF) (tChain_ok ad ad'))

/-! slices -/
def tGO (md : Md X.K o) (m : M S (Option Int)) : TO := fun σ H Q => ∃ Hs U st b st', md.R st Hs U σ H ∧ m st = some (b, st') ∧
  ∀ Hs' U' H', md.R st' Hs' U' σ H' → Stp Hs U H Hs' U' H' → Q b H'
theorem poImp {e : Option Expr} {t t' : TO} (h : PO X e t) (i : ∀ σ H Q, t' σ H Q → t σ H Q) : PO X e t' := ⟨fun pins s σ H Q I q => h.run pins s σ H Q I (i σ H Q q)⟩
def asInt : PV → Option (Option Int)
  | .int i => some (some i)
  | _ => none
def mPart {S : Type} (m : M S PV) : M S (Option Int) := bnd m fun x => lft (asInt x)
theorem s_none : PO X none (tGO md (ret none)) := by
  refine poImp po_none fun σ H Q ⟨Hs, U, st, b, st', hR, hm, k⟩ => ?_
  cases hm
  exact k _ _ _ hR (.refl _ _ _)
theorem s_some (h : PE X e (tG md me)) : PO X (some e) (tGO md (mPart me)) := by
  refine poImp (po_some h) fun σ H Q ⟨Hs, U, st, b, st', hR, hm, k⟩ => ?_
  refine tG_seq hR hm fun x st1 v Hs1 U1 H1 e1 e2 r1 s1 p1 => ?_
  obtain ⟨e5, e6⟩ := lft_some e2
  subst e6
  unfold asInt at e5
  split at e5
  · cases e5
    exact ⟨_, rep_int p1, k _ _ _ r1 s1⟩
  · cases e5
def cutP (l : List PV) (lo hi : Option Int) : List PV := (l.drop (HT.sIx l.length 0 lo)).take (HT.sIx l.length l.length hi - HT.sIx l.length 0 lo)
def fSl (x : PV) (lo hi : Option Int) : Option PV := match x with
  | .list l => some (.list (cutP l lo hi))
  | .tuple l => some (.tuple (cutP l lo hi))
  | .str z => if z.length ≤ LIM then some (.str (cutS z lo hi)) else none
  | _ => none
def mSl {S : Type} (m : M S PV) (l h : M S (Option Int)) : M S PV := bnd m fun x => bnd l fun lo => bnd h fun hi => lft (fSl x lo hi)
theorem cut_rep {K : Fg} {H : Hp} {l : List PV} {xs : List V} (r : Reps K H l xs) (lo hi : Option Int) : Reps K H (cutP l lo hi) (cutV xs lo hi) := by
  unfold cutP cutV
  rw [r.len]
  exact (r.drop _).take _
theorem cut_whole {K : Fg} {H : Hp} {l : List PV} {xs : List V} (r : Reps K H l xs) {lo hi : Option Int} (h : HT.sIx xs.length 0 lo = 0 ∧ HT.sIx xs.length xs.length hi = xs.length) : cutP l lo hi = l := by
  unfold cutP
  rw [← r.len, h.1, h.2, r.len]
  simp
theorem sl_all : SlR X (fun x lo hi H Q => (rSlL X.K x lo hi H Q ∨ rSlA X.K x lo hi H Q) ∨ rSlS x lo hi H Q) := (sl_list.or sl_tupA).or sl_str
theorem ad_sl {K : Fg} {Hs H : Hp} {x z : PV} {v : V} {lo hi : Option Int} {Q : VK} (e : fSl x lo hi = some z) (rx : Rep K Hs x v) (sb : Sb Hs H) (k : ∀ u Hs' H', PStp Hs H Hs' H' → Rep K Hs' z u → Q u H') :
    (rSlL K v lo hi H Q ∨ rSlA K v lo hi H Q) ∨ rSlS v lo hi H Q := by
  unfold fSl at e
  split at e
  · cases e
    obtain ⟨a, xs, rfl, s, r⟩ := rep_lst rx
    exact .inl (.inl ⟨a, xs, rfl, .inl (sb_rd sb s), new_lst sb (cut_rep r lo hi) k⟩)
  · cases e
    obtain ⟨a, xs, rfl, s, r⟩ := rep_tup rx
    refine .inl (.inr ⟨a, xs, rfl, sqT_mono sb.same s, fun h => ?_, fun h => ?_⟩)
    · rw [cut_whole r h] at k
      exact k _ Hs H (.refl sb) (mk_tup s r)
    · exact new_tup (z := .none) sb (cut_rep r lo hi) k
  · split at e
    · rename_i hl
      cases e
      exact .inr ⟨_, rep_str rx, Nat.le_of_lt (lim_line hl), k _ Hs H (.refl sb) mk_str⟩
    · cases e
  · cases e
theorem g_slice {lo hi : Option Expr} {p2 : Pos} {ml mh : M S (Option Int)} (he : PE X e (tG md me)) (hl : PO X lo (tGO md ml)) (hu : PO X hi (tGO md mh)) : PE X (.Subscript e (.Slice lo hi none p2) pos) (tG md (mSl me ml mh)) := by
  refine peImp (pe_slice sl_all he hl hu) fun σ H Q ⟨Hs, U, st, pv, st', hR, hm, k⟩ => ?_
  refine tG_seq hR hm fun x st1 v Hs1 U1 H1 e1 e2 r1 s1 p1 => ?_
  obtain ⟨lo, st2, e3, e4⟩ := bnd_some e2
  refine ⟨Hs1, U1, st1, lo, st2, r1, e3, fun Hs2 U2 H2 r2 s2 => ?_⟩
  obtain ⟨hi, st3, e5, e6⟩ := bnd_some e4
  refine ⟨Hs2, U2, st2, hi, st3, r2, e5, fun Hs3 U3 H3 r3 s3 => ?_⟩
  obtain ⟨e7, e8⟩ := lft_some e6
  subst e8
  exact ad_sl e7 (Rep.mono (s2.hs.trans s3.hs) x v p1) (md.sub r3) (fin_step r3 ((s1.trans s2).trans s3) k)

/-! what is built in -/
def fLen : List PV → Option PV
  | [.list l] => some (.int l.length)
  | [.tuple l] => some (.int l.length)
  | [.str z] => if z.length ≤ LIM then some (.int z.length) else none
  | _ => none
theorem reps1 {K : Fg} {H : Hp} {p : PV} {vs : List V} (h : Reps K H [p] vs) : ∃ v, vs = [v] ∧ Rep K H p v := by
  simp only [Reps] at h
  obtain ⟨x, r, rfl, h1, rfl⟩ := h
  exact ⟨x, rfl, h1⟩
theorem reps2 {K : Fg} {H : Hp} {p q : PV} {vs : List V} (h : Reps K H [p, q] vs) : ∃ v w, vs = [v, w] ∧ Rep K H p v ∧ Rep K H q w := by
  simp only [Reps] at h
  obtain ⟨x, r, rfl, h1, y, r2, rfl, h2, rfl⟩ := h
  exact ⟨x, y, rfl, h1, h2⟩
theorem ad_len {K : Fg} : ClA K (fun xs H Q => ∃ x n, xs = [x] ∧ LenV K x H n ∧ Q (.int n) H) fLen := by
  intro Hs H l z vs Q e r sb k
  unfold fLen at e
  split at e
  · cases e
    obtain ⟨v, rfl, h⟩ := reps1 r
    obtain ⟨a, xs, rfl, s, q⟩ := rep_lst h
    refine ⟨_, xs.length, rfl, .inl ⟨xs, .inl (sb_rd sb s), rfl⟩, ?_⟩
    rw [q.len]
    exact k _ Hs H (.refl sb) mk_int
  · cases e
    obtain ⟨v, rfl, h⟩ := reps1 r
    obtain ⟨a, xs, rfl, s, q⟩ := rep_tup h
    refine ⟨_, xs.length, rfl, .inr ⟨xs, sqT_mono sb.same s, rfl⟩, ?_⟩
    rw [q.len]
    exact k _ Hs H (.refl sb) mk_int
  · split at e
    · rename_i hl
      cases e
      obtain ⟨v, rfl, h⟩ := reps1 r
      rw [rep_str h]
      exact ⟨_, _, rfl, ⟨Nat.le_of_lt (lim_line hl), rfl⟩, k _ Hs H (.refl sb) mk_int⟩
    · cases e
  · cases e
def fInt : List PV → Option PV
  | [.int i] => some (.int i)
  | [.bool b] => some (.int (if b then 1 else 0))
  | _ => none
theorem ad_cint {K : Fg} : ClA K (fun xs H Q => (∃ i, xs = [.int i] ∧ Q (.int i) H) ∨ ∃ k, xs = [.bl k] ∧ Q (.int (if k then 1 else 0)) H) fInt := by
  intro Hs H l z vs Q e r sb k
  unfold fInt at e
  split at e
  · cases e
    obtain ⟨v, rfl, h⟩ := reps1 r
    exact .inl ⟨_, by rw [rep_int h], k _ Hs H (.refl sb) mk_int⟩
  · cases e
    obtain ⟨v, rfl, h⟩ := reps1 r
    exact .inr ⟨_, by rw [rep_bool h], k _ Hs H (.refl sb) mk_int⟩
  · cases e
def fAbs : List PV → Option PV
  | [.int i] => some (.int (if i < 0 then -i else i))
  | _ => none
theorem ad_abs {K : Fg} : ClA K (fun xs H Q => ∃ i, xs = [.int i] ∧ Q (.int (if i < 0 then -i else i)) H) fAbs := by
  intro Hs H l z vs Q e r sb k
  unfold fAbs at e
  split at e
  · cases e
    obtain ⟨v, rfl, h⟩ := reps1 r
    exact ⟨_, by rw [rep_int h], k _ Hs H (.refl sb) mk_int⟩
  · cases e
def fGcd : List PV → Option PV
  | [.int i, .int j] => some (.int ((Nat.gcd i.natAbs j.natAbs : Nat) : Int))
  | _ => none
theorem ad_gcd {K : Fg} : ClA K rGcd fGcd := by
  intro Hs H l z vs Q e r sb k
  unfold fGcd at e
  split at e
  · cases e
    obtain ⟨v, w, rfl, h, h2⟩ := reps2 r
    exact ⟨_, _, by rw [rep_int h, rep_int h2], k _ Hs H (.refl sb) mk_int⟩
  · cases e
def fMax2 : List PV → Option PV
  | [.int i, .int j] => some (.int (if j > i then j else i))
  | _ => none
def fMin2 : List PV → Option PV
  | [.int i, .int j] => some (.int (if j < i then j else i))
  | _ => none
theorem ad_max2 {K : Fg} : ClA K (fun xs H Q => ∃ i j, xs = [.int i, .int j] ∧ Q (.int (if j > i then j else i)) H) fMax2 := by
  intro Hs H l z vs Q e r sb k
  unfold fMax2 at e
  split at e
  · cases e
    obtain ⟨v, w, rfl, h, h2⟩ := reps2 r
    exact ⟨_, _, by rw [rep_int h, rep_int h2], k _ Hs H (.refl sb) mk_int⟩
  · cases e
theorem ad_min2 {K : Fg} : ClA K (fun xs H Q => ∃ i j, xs = [.int i, .int j] ∧ Q (.int (if j < i then j else i)) H) fMin2 := by
  intro Hs H l z vs Q e r sb k
  unfold fMin2 at e
  split at e
  · cases e
    obtain ⟨v, w, rfl, h, h2⟩ := reps2 r
    exact ⟨_, _, by rw [rep_int h, rep_int h2], k _ Hs H (.refl sb) mk_int⟩
  · cases e
def fTuple : List PV → Option PV
  | [.list l] => some (.tuple l)
  | [.tuple l] => some (.tuple l)
  | _ => none
theorem ad_tuple {K : Fg} : ClA K (fun xs H Q => ∃ p ys, xs = [.ref p] ∧ ((SqL K H p ys ∧ ∀ l, H l = none → Q (.ref l) (upd H l (.tup ys))) ∨ (SqT K H p ys ∧ Q (.ref p) H))) fTuple := by
  intro Hs H l z vs Q e r sb k
  unfold fTuple at e
  split at e
  · cases e
    obtain ⟨v, rfl, h⟩ := reps1 r
    obtain ⟨a, xs, rfl, s, q⟩ := rep_lst h
    exact ⟨a, xs, rfl, .inl ⟨.inl (sb_rd sb s), new_tup (z := .none) sb q k⟩⟩
  · cases e
    obtain ⟨v, rfl, h⟩ := reps1 r
    obtain ⟨a, xs, rfl, s, q⟩ := rep_tup h
    exact ⟨a, xs, rfl, .inr ⟨sqT_mono sb.same s, k _ Hs H (.refl sb) (mk_tup s q)⟩⟩
  · cases e
def fList : List PV → Option PV
  | [.list l] => some (.list l)
  | [.tuple l] => some (.list l)
  | _ => none
theorem ad_list {K : Fg} : ClA K (fun xs H Q => ∃ p ys, xs = [.ref p] ∧ (SqL K H p ys ∨ SqT K H p ys) ∧ ∀ l, H l = none → Q (.ref l) (upd H l (.lst ys))) fList := by
  intro Hs H l z vs Q e r sb k
  unfold fList at e
  split at e
  · cases e
    obtain ⟨v, rfl, h⟩ := reps1 r
    obtain ⟨a, xs, rfl, s, q⟩ := rep_lst h
    exact ⟨a, xs, rfl, .inl (.inl (sb_rd sb s)), new_lst sb q k⟩
  · cases e
    obtain ⟨v, rfl, h⟩ := reps1 r
    obtain ⟨a, xs, rfl, s, q⟩ := rep_tup h
    exact ⟨a, xs, rfl, .inr (sqT_mono sb.same s), new_lst sb q k⟩
  · cases e
/-! sum -/
def intsP : List PV → Option (List Int)
  | [] => some []
  | .int i :: l => (intsP l).map (i :: ·)
  | _ :: _ => none
def fSum : List PV → Option PV
  | [.list l] => (intsP l).map fun ns => .int ns.sum
  | [.tuple l] => (intsP l).map fun ns => .int ns.sum
  | _ => none
theorem ints_rep {K : Fg} {H : Hp} : ∀ {l : List PV} {xs : List V} {ns : List Int}, Reps K H l xs → intsP l = some ns → xs = ns.map V.int
  | [], xs, ns, h, e => by cases e; simp only [Reps] at h; subst h; rfl
  | .int i :: l, xs, ns, h, e => by
    simp only [Reps] at h
    obtain ⟨x, r, rfl, h1, h2⟩ := h
    simp only [intsP] at e
    cases e2 : intsP l with
    | none => rw [e2] at e; cases e
    | some ms =>
      rw [e2] at e; cases e
      rw [rep_int h1, ints_rep h2 e2]
      rfl
  | .none :: l, xs, ns, h, e => by cases e
  | .bool _ :: l, xs, ns, h, e => by cases e
  | .str _ :: l, xs, ns, h, e => by cases e
  | .list _ :: l, xs, ns, h, e => by cases e
  | .tuple _ :: l, xs, ns, h, e => by cases e
  | .dict _ :: l, xs, ns, h, e => by cases e
def rSumT (K : Fg) : List V → Hp → VK → Prop := fun vs H Q => ∃ (a : Addr) (ns : List Int), vs = [V.ref a] ∧ SqT K H a (ns.map V.int) ∧ Q (.int ns.sum) H
theorem iter_intTup {prog : Program} {w : World} {A : Around} {E : Value → Shared → Prop} {s : Shared} {l : Addr} {items : Array Value} {Q : Value → Shared → Prop} (hl : s.heap.IsTuple l items)
    (h : ∀ s₂ : Shared, s₂ = { s with heap := s.heap.push { cls := .type "tuple_iterator", data := .fields #[.ref l, .int 0 0] } } →
      (s₂.heap.IsTupleIter s.heap.objs.size l 0 ∧ s₂.heap.IsTuple l items) → (∀ b ∈ [s.heap.objs.size, l], b < s₂.heap.objs.size) → l ≠ s.heap.objs.size → Q (.ref s.heap.objs.size) s₂) :
    wpAny (model prog w) A (pyIter (.ref l)) Q E s := by
  have hlt : l < s.heap.objs.size := by obtain ⟨_, e, _⟩ := hl; exact Heap.lt_size e
  refine wpAny_pyIter_tuple hl (h _ rfl ⟨⟨_, Heap.get?_push_size _ rfl, rfl, rfl⟩, hl.push _⟩ (fun b hb => ?_) (Nat.ne_of_lt hlt))
  show b < (s.heap.push _).objs.size
  rw [Heap.size_push]
  rcases List.mem_cons.mp hb with rfl | hb
  · exact Nat.lt_succ_self _
  · rcases List.mem_cons.mp hb with rfl | hb
    · exact Nat.lt_succ_of_lt hlt
    · cases hb
theorem sum_rawT {prog : Program} {w : World} {A : Around} {E : Value → Shared → Prop} {s : Shared} {l : Addr} {its : List Value} {ns : List Int} {Q : Value → Shared → Prop} (hh : A.handled = none) (hl : s.heap.IsTuple l its.toArray) (hi : IntsAre its ns)
    (h : ∀ h' tk t', (∀ b o, s.heap.get? b = some o → h'.get? b = some o) → Q (.int ns.sum t') { s with heap := h', toks := tk }) : wpAny (model prog w) A (call (.builtin "sum") [.ref l]) Q E s := by
  obtain ⟨xs, e⟩ := hi.allInts.items
  have hn : numsOf (intItems xs).toList = ns := by rw [← e]; exact hi.numsOf
  rw [nums_intItems] at hn
  rw [e] at hl
  refine call_sum_walkG (iter_intTup hl fun s₂ e2 st hfp hlI => ?_)
  subst e2
  refine ⟨_, _, _, _, _, _, numAt xs, rfl, Walks.tuple (A := A.in1) hh _ l hlI (intItems xs), st, hfp, (fun _ _ => intItems_at), fun h' tk t' hk => ?_⟩
  have := h h' tk t' (fun b o e => hk b o (fun hmem => by
    rcases List.mem_cons.mp hmem with e1 | hmem
    · exact absurd (e1 ▸ Heap.lt_size e) (Nat.lt_irrefl _)
    · cases hmem) (Heap.get?_push_of_some _ e))
  rw [show (intItems xs).size = xs.size by simp [intItems], preSum_eq, List.take_of_length_le (by simp), hn]
  exact this
theorem cr_sumT (hc : X.calm = true) : CallR X (.builtin "sum") (rSumT X.K) := by
  intro pins s σ H vs us Q I r h
  obtain ⟨a, ns, rfl, hs, q⟩ := h
  obtain ⟨its, rv, hl, _⟩ := I.tuple hs
  rw [Vals.ref1 r]
  exact sum_rawT (I.ok.hd hc) hl rv.ints fun h' tk t' hk => ⟨.int _, H, I.kept hk, ⟨_, rfl⟩, q⟩
theorem cr_sumA (hc : X.calm = true) : CallR X (.builtin "sum") (fun xs H Q => rSum X.K xs H Q ∨ rSumT X.K xs H Q) := (cr_sum hc).or (cr_sumT hc)
theorem ad_sum {K : Fg} : ClA K (fun xs H Q => rSum K xs H Q ∨ rSumT K xs H Q) fSum := by
  intro Hs H l z vs Q e r sb k
  unfold fSum at e
  split at e
  · rename_i l
    cases e2 : intsP l with
    | none => rw [e2] at e; cases e
    | some ns =>
      rw [e2] at e; cases e
      obtain ⟨v, rfl, h⟩ := reps1 r
      obtain ⟨a, xs, rfl, s, q⟩ := rep_lst h
      have := ints_rep q e2
      subst this
      exact .inl ⟨a, ns, rfl, .inl (sb_rd sb s), k _ Hs H (.refl sb) mk_int⟩
  · rename_i l
    cases e2 : intsP l with
    | none => rw [e2] at e; cases e
    | some ns =>
      rw [e2] at e; cases e
      obtain ⟨v, rfl, h⟩ := reps1 r
      obtain ⟨a, xs, rfl, s, q⟩ := rep_tup h
      have := ints_rep q e2
      subst this
      exact .inr ⟨a, ns, rfl, sqT_mono sb.same s, k _ Hs H (.refl sb) mk_int⟩
  · cases e
/-! isinstance(x, T) -/
def tyNm : PV → String
  | .none => "NoneType"
  | .bool _ => "bool"
  | .int _ => "int"
  | .str _ => "str"
  | .list _ => "list"
  | .tuple _ => "tuple"
  | .dict _ => "dict"
theorem tyx_of {K : Fg} {Hs H : Hp} {x : PV} {v : V} (r : Rep K Hs x v) (sb : Sb Hs H) : TyX K H v (.type (tyNm x)) := by
  cases x with
  | none => rw [rep_none r]; exact .base .non
  | bool b => rw [rep_bool r]; exact .base (.bl b)
  | int b => rw [rep_int r]; exact .base (.int b)
  | str b => rw [rep_str r]; exact .base (.str b)
  | list l =>
    obtain ⟨a, xs, rfl, s, q⟩ := rep_lst r
    rcases sb_rd sb s with h | ⟨o, h⟩
    · exact .base (.lst h)
    · exact .base (.frz h)
  | tuple l =>
    obtain ⟨a, xs, rfl, s, q⟩ := rep_tup r
    rcases sqT_mono sb.same s with (h | ⟨o, h⟩) | ⟨o, _, _, h, hc, _⟩
    · exact .base (.tup h)
    · exact .fTuple h
    · exact .kTuple h hc
  | dict l =>
    simp only [Rep] at r
    obtain ⟨rfl, a, rfl, s⟩ := r
    exact .base (.dK (sb _ _ s).2)
def isiT (T : String) (a : String) : Bool := a == T || (a == "bool" && T == "int")
def fIsi (T : String) (x : PV) : Option PV := some (.bool (isiT T (tyNm x)))
/-- the types that are asked -/
def okTy (T : String) : Bool := ["NoneType", "bool", "int", "str", "list", "tuple", "dict"].all fun a => kitB a T == some (isiT T a)
theorem kit_isi {K : Fg} {T : String} (h : okTy T = true) (x : PV) : PySem.W.kitOne K (.type (tyNm x)) (.type T) = some (isiT T (tyNm x)) := by
  refine kit_ty ?_
  have h2 := fun a ha => of_decide_eq_true (by simpa using List.all_eq_true.mp h a ha : decide (kitB a T = some (isiT T a)) = true)
  cases x <;> exact h2 _ (by simp [tyNm])
theorem g_isi {T : String} {p p2 : Pos} (hT : okTy T = true) (hg : Gl X "isinstance") (hm : X.mg "isinstance" = none) (hg2 : Gl X (Str.ofString T)) (hm2 : X.mg (Str.ofString T) = none) (hv2 : bootBuiltins (Str.ofString T) = some (.type T)) (ha : PE X a (tG md ma))
    (hn : (Str.ofString T) ≠ "__name__" := by decide) (hd : ((Str.ofString T) == ("__debug__" : Str)) = false := by decide) 
    (h1 : starEach [a, .Name (Str.ofString T) p2] X.env = (false, eval a X.env) :: starEach [.Name (Str.ofString T) p2] X.env := by rfl) (h2 : (backTo pos (starEach [.Name (Str.ofString T) p2] X.env)).any (·.1) = false := by rfl) :
    PE X (.Call (.Name "isinstance" p) [a, .Name (Str.ofString T) p2] [] pos) (tG md (mUn (fIsi T) ma)) := by
  refine peImp (pe_callB call_isi hg hm (by decide +kernel) (pa_cons ha (pa_cons (pe_bltn (v := .ty T) hg2 hm2 hv2 rfl hn hd) pa_nil) h1) (by decide) (by decide) h1 h2) fun σ H Q ⟨Hs, U, st, pv, st', hR, hm, k⟩ => ?_
  refine tG_seq hR hm fun x st1 v Hs1 U1 H1 e1 e2 r1 s1 p1 => ?_
  obtain ⟨e5, e6⟩ := lft_some e2
  subst e6
  cases e5
  exact ⟨v, .ty T, .type (tyNm x), .type T, _, rfl, .ty T, tyx_of p1 (md.sub r1), kit_isi hT x, k _ _ _ _ r1 s1 mk_bool⟩
end
end L3

set_option Elab.async false
set_option linter.all false
set_option maxRecDepth 100000
namespace L3
open PySem PySem.Spec
open PyProof.Rows hiding St
open L2
open RZ (ItzT pi_zipA)

/-! ### what is walked -/
/-- the walk J gives the values l, as long as what is relied upon stands -/
structure Wlk (K : Fg) (Hs : Hp) (J : It) (l : List PV) : Prop where
  go : ∀ Hs2 i H, Same Hs Hs2 → Sb Hs2 H → i < l.length → J.go i H
  yld : ∀ Hs2 i H x H' p, Same Hs Hs2 → Sb Hs2 H → l[i]? = some p → J.yld i H x H' → ∃ Hs', PStp Hs2 H Hs' H' ∧ Rep K Hs' p x
  stop : ∀ Hs2 H, Same Hs Hs2 → Sb Hs2 H → J.stop l.length H
theorem Wlk.mono {K : Fg} {Hs Hs' : Hp} {J : It} {l : List PV} (h : Wlk K Hs J l) (k : Same Hs Hs') : Wlk K Hs' J l :=
  ⟨fun Hs2 i H s => h.go Hs2 i H (k.trans s), fun Hs2 i H x H' p s => h.yld Hs2 i H x H' p (k.trans s), fun Hs2 H s => h.stop Hs2 H (k.trans s)⟩

section
variable {S : Type} {X : Cx} {o : Ops S} {md : Md X.K o} {a b c e : Expr} {es rest : List Expr} {ma mb mc me : M S PV} {ta tb : M S Bool} {ms : M S (List PV)} {pos : Pos}
def tI {K : Fg} {S : Type} {o : Ops S} (md : Md K o) (mi : M S (List PV)) : TI := fun σ H Rk => ∃ Hs U st l st', md.R st Hs U σ H ∧ mi st = some (l, st') ∧
  ∀ J Hs' U' H', md.R st' Hs' U' σ H' → Stp Hs U H Hs' U' H' → Wlk K Hs' J l → Rk J H'
def items : PV → Option (List PV)
  | .list l => some l
  | .tuple l => some l
  | _ => none
def mItems {S : Type} (m : M S PV) : M S (List PV) := bnd m fun x => lft (items x)
theorem sqL_inj {K : Fg} {H : Hp} {a : Addr} {xs ys : List V} (h : Rd H a (.lst xs)) (h2 : SqL K H a ys) (hd : Rd H a (.lst xs) → SqL K H a ys → xs = ys) : xs = ys := hd h h2
theorem PI.or {X : Cx} {tg e : Expr} {t t' : TI} (h : PI X tg e t) (h' : PI X tg e t') : PI X tg e (fun σ H R => t σ H R ∨ t' σ H R) := ⟨fun pins s σ H R I q => by
  rcases q with q | q
  · exact h.run pins s σ H R I q
  · exact h'.run pins s σ H R I q⟩
theorem wlk_list {K : Fg} {Hs : Hp} {a : Addr} {xs : List V} {l : List PV} (s : Rd Hs a (.lst xs)) (r : Reps K Hs l xs) : Wlk K Hs (Itl K a) l where
  go := fun Hs2 i H k sb hi => by
    obtain ⟨x, e, _⟩ := r.get (List.getElem?_eq_getElem hi)
    exact ⟨xs, x, .inl (sb_rd sb (rd_mono k s)), e⟩
  yld := fun Hs2 i H x H' p k sb e y => by
    obtain ⟨rfl, y⟩ := y
    obtain ⟨v, e2, q⟩ := r.get e
    have := y xs (.inl (sb_rd sb (rd_mono k s)))
    rw [e2] at this; cases this
    exact ⟨Hs2, .refl sb, Rep.mono k p _ q⟩
  stop := fun Hs2 H k sb => ⟨xs, .inl (sb_rd sb (rd_mono k s)), by rw [r.len]; exact Nat.le_refl _⟩
theorem wlk_tup {K : Fg} {Hs : Hp} {a : Addr} {xs : List V} {l : List PV} (s : Tp K Hs a xs) (r : Reps K Hs l xs) : Wlk K Hs (Itt K a) l where
  go := fun Hs2 i H k sb hi => by
    obtain ⟨x, e, _⟩ := r.get (List.getElem?_eq_getElem hi)
    exact ⟨xs, x, sqT_mono sb.same (tp_mono k s), e⟩
  yld := fun Hs2 i H x H' p k sb e y => by
    obtain ⟨rfl, y⟩ := y
    obtain ⟨v, e2, q⟩ := r.get e
    have := y xs (sqT_mono sb.same (tp_mono k s))
    rw [e2] at this; cases this
    exact ⟨Hs2, .refl sb, Rep.mono k p _ q⟩
  stop := fun Hs2 H k sb => ⟨xs, sqT_mono sb.same (tp_mono k s), by rw [r.len]; exact Nat.le_refl _⟩
theorem i_val {tg : Expr} (ha : PE X a (tG md ma)) : PI X tg a (tI md (mItems ma)) := by
  refine piImp (PI.or (pi_list ha) (pi_tup ha)) fun σ H Rk ⟨Hs, U, st, l, st', hR, hm, k⟩ => ?_
  obtain ⟨x, st1, e1, e2⟩ := bnd_some hm
  obtain ⟨e5, e6⟩ := lft_some e2
  subst e6
  unfold items at e5
  split at e5
  · cases e5
    refine .inl (tG_seq hR hm fun x st1 v Hs1 U1 H1 e3 e4 r1 s1 p1 => ?_)
    rw [e1] at e3; cases e3
    obtain ⟨a, xs, rfl, s, q⟩ := rep_lst p1
    exact ⟨a, rfl, ⟨xs, .inl (sb_rd (md.sub r1) s)⟩, k _ _ _ _ r1 s1 (wlk_list s q)⟩
  · cases e5
    refine .inr (tG_seq hR hm fun x st1 v Hs1 U1 H1 e3 e4 r1 s1 p1 => ?_)
    rw [e1] at e3; cases e3
    obtain ⟨a, xs, rfl, s, q⟩ := rep_tup p1
    exact ⟨a, rfl, ⟨xs, sqT_mono (md.sub r1).same s⟩, k _ _ _ _ r1 s1 (wlk_tup s q)⟩
  · cases e5
def rangeP (lo : Int) (n : Nat) : List PV := (List.range n).map fun (i : Nat) => .int (lo + (i : Int))
theorem wlk_range {K : Fg} {Hs : Hp} (lo : Int) (n : Nat) : Wlk K Hs (Itr lo n) (rangeP lo n) where
  go := fun Hs2 i H k sb hi => by
    show i < n
    simpa [rangeP] using hi
  yld := fun Hs2 i H x H' p k sb e y => by
    obtain ⟨rfl, rfl⟩ := y
    refine ⟨Hs2, .refl sb, ?_⟩
    unfold rangeP at e
    rw [List.getElem?_map] at e
    cases q : (List.range n)[i]? with
    | none => rw [q] at e; cases e
    | some j =>
      rw [q] at e; cases e
      have : j = i := by
        obtain ⟨h1, h2⟩ := List.getElem?_eq_some_iff.mp q
        simpa using h2.symm
      subst this
      exact mk_int
  stop := fun Hs2 H k sb => by simp [rangeP, Itr]
def inR (j : Int) : Bool := decide (j ≤ 4000000000000000000 ∧ -4000000000000000000 ≤ j)
def fRange1 : List PV → Option (List PV)
  | [.int j] => if inR j = true then some (rangeP 0 j.toNat) else none
  | _ => none
def fRange2 : List PV → Option (List PV)
  | [.int i, .int j] => if inR i = true ∧ inR j = true then some (rangeP i (j - i).toNat) else none
  | _ => none
def mLs {S : Type} (F : List PV → Option (List PV)) (ms : M S (List PV)) : M S (List PV) := bnd ms fun l => lft (F l)
theorem i_range1 {tg : Expr} {p : Pos} (hg : Gl X "range") (hm : X.mg "range" = none) (ha : PA X [a] (tGA md ms)) (hs : starEach [a] X.env = [(false, eval a X.env)] := by rfl) : PI X tg (.Call (.Name "range" p) [a] [] pos) (tI md (mLs fRange1 ms)) := by
  refine piImp (pi_range1 hg hm ha hs) fun σ H Rk ⟨Hs, U, st, l, st', hR, hm, k⟩ => ?_
  refine tGA_seq hR hm fun l0 st1 vs Hs1 U1 H1 e1 e2 r1 s1 p1 => ?_
  obtain ⟨e7, e8⟩ := lft_some e2
  subst e8
  unfold fRange1 at e7
  split at e7
  · split at e7
    · rename_i h0
      cases e7
      unfold inR at h0
      have h0 := of_decide_eq_true h0
      obtain ⟨v, rfl, h⟩ := reps1 p1
      exact ⟨_, by rw [rep_int h], by omega, by omega, k _ _ _ _ r1 s1 (wlk_range 0 _)⟩
    · cases e7
  · cases e7
theorem i_range2 {tg : Expr} {p : Pos} (hg : Gl X "range") (hm : X.mg "range" = none) (ha : PA X [a, b] (tGA md ms)) (hs : starEach [a, b] X.env = [(false, eval a X.env), (false, eval b X.env)] := by rfl) (hs2 : starEach [b] X.env = [(false, eval b X.env)] := by rfl) : PI X tg (.Call (.Name "range" p) [a, b] [] pos) (tI md (mLs fRange2 ms)) := by
  refine piImp (pi_range2 hg hm ha hs hs2) fun σ H Rk ⟨Hs, U, st, l, st', hR, hm, k⟩ => ?_
  refine tGA_seq hR hm fun l0 st1 vs Hs1 U1 H1 e1 e2 r1 s1 p1 => ?_
  obtain ⟨e7, e8⟩ := lft_some e2
  subst e8
  unfold fRange2 at e7
  split at e7
  · split at e7
    · rename_i h0
      cases e7
      unfold inR at h0
      obtain ⟨h1, h2⟩ := h0
      have h1 := of_decide_eq_true h1
      have h2 := of_decide_eq_true h2
      obtain ⟨v, w, rfl, h, h3⟩ := reps2 p1
      exact ⟨_, _, by rw [rep_int h, rep_int h3], by omega, k _ _ _ _ r1 s1 (wlk_range _ _)⟩
    · cases e7
  · cases e7
/-! pairs -/
def fEnum : List PV → Option (List PV)
  | [.list l] => some ((List.range l.length).zipWith (fun (i : Nat) x => .tuple [.int i, x]) l)
  | _ => none
theorem enum_get {l : List PV} {i : Nat} {p : PV} (h : ((List.range l.length).zipWith (fun (i : Nat) x => PyData.tuple [.int i, x]) l)[i]? = some p) : ∃ q, l[i]? = some q ∧ p = .tuple [.int i, q] := by
  rw [List.getElem?_zipWith] at h
  cases e : (List.range l.length)[i]? with
  | none => rw [e] at h; cases h
  | some j =>
    cases e2 : l[i]? with
    | none => rw [e, e2] at h; cases h
    | some q =>
      rw [e, e2] at h; cases h
      have : j = i := by
        obtain ⟨h1, h2⟩ := List.getElem?_eq_some_iff.mp e
        simpa using h2.symm
      subst this
      exact ⟨q, rfl, rfl⟩
theorem wlk_enum {K : Fg} {Hs : Hp} {a : Addr} {xs : List V} {l : List PV} (s : Rd Hs a (.lst xs)) (r : Reps K Hs l xs) : Wlk K Hs (Ite K a) ((List.range l.length).zipWith (fun (i : Nat) x => .tuple [.int i, x]) l) where
  go := fun Hs2 i H k sb hi => by
    have hi : i < l.length := by simpa using hi
    obtain ⟨x, e, _⟩ := r.get (List.getElem?_eq_getElem hi)
    exact ⟨xs, x, .inl (sb_rd sb (rd_mono k s)), e⟩
  yld := fun Hs2 i H x H' p k sb e y => by
    obtain ⟨T, x, rfl, hT, rfl, y⟩ := y
    obtain ⟨q, e1, rfl⟩ := enum_get e
    obtain ⟨v, e2, q⟩ := r.get e1
    have := y xs (.inl (sb_rd sb (rd_mono k s)))
    rw [e2] at this; cases this
    have al := PStp.alloc (o := .tup [.int i, x]) sb hT trivial
    exact ⟨_, al, mk_tup (.inl upd_same) (.cons mk_int (.cons (Rep.mono (k.trans al.st.hs) _ _ q) (by simp [Reps])))⟩
  stop := fun Hs2 H k sb => by
    have e : ((List.range l.length).zipWith (fun (i : Nat) x => PyData.tuple [.int i, x]) l).length = xs.length := by simp [r.len]
    rw [e]
    exact ⟨xs, .inl (sb_rd sb (rd_mono k s)), Nat.le_refl _⟩
theorem i_enum {p tpos : Pos} {elts : List Expr} {kk : Nat} (hg : Gl X "enumerate") (hm : X.mg "enumerate" = none) (ha : PA X [e] (tGA md ms)) (hs : starEach [e] X.env = [(false, eval e X.env)] := by rfl) : PI X (.Tuple elts kk tpos) (.Call (.Name "enumerate" p) [e] [] pos) (tI md (mLs fEnum ms)) := by
  refine piImp (pi_enum hg hm ha hs) fun σ H Rk ⟨Hs, U, st, l, st', hR, hm, k⟩ => ?_
  refine tGA_seq hR hm fun l0 st1 vs Hs1 U1 H1 e1 e2 r1 s1 p1 => ?_
  obtain ⟨e7, e8⟩ := lft_some e2
  subst e8
  unfold fEnum at e7
  split at e7
  · cases e7
    obtain ⟨v, rfl, h⟩ := reps1 p1
    obtain ⟨a, xs, rfl, s, q⟩ := rep_lst h
    exact ⟨a, xs, rfl, .inl (sb_rd (md.sub r1) s), k _ _ _ _ r1 s1 (wlk_enum s q)⟩
  · cases e7
def fZip : List PV → Option (List PV)
  | [.list l, .list m] => some (l.zipWith (fun x y => .tuple [x, y]) m)
  | [.tuple l, .tuple m] => some (l.zipWith (fun x y => .tuple [x, y]) m)
  | _ => none
theorem zip_get {l m : List PV} {i : Nat} {p : PV} (h : (l.zipWith (fun x y => PyData.tuple [x, y]) m)[i]? = some p) : ∃ q r, l[i]? = some q ∧ m[i]? = some r ∧ p = .tuple [q, r] := by
  rw [List.getElem?_zipWith] at h
  cases e : l[i]? with
  | none => rw [e] at h; cases h
  | some j =>
    cases e2 : m[i]? with
    | none => rw [e, e2] at h; cases h
    | some q => rw [e, e2] at h; cases h; exact ⟨j, q, rfl, rfl, rfl⟩
theorem wlk_zip {K : Fg} {Hs : Hp} {a b : Addr} {xs ys : List V} {l m : List PV} (s : Rd Hs a (.lst xs)) (r : Reps K Hs l xs) (s2 : Rd Hs b (.lst ys)) (r2 : Reps K Hs m ys) : Wlk K Hs (Itz K a b) (l.zipWith (fun x y => .tuple [x, y]) m) where
  go := fun Hs2 i H k sb hi => by
    have hi : i < l.length ∧ i < m.length := by simpa [Nat.lt_min] using hi
    obtain ⟨x, e, _⟩ := r.get (List.getElem?_eq_getElem hi.1)
    obtain ⟨y, e2, _⟩ := r2.get (List.getElem?_eq_getElem hi.2)
    exact ⟨xs, ys, x, y, .inl (sb_rd sb (rd_mono k s)), .inl (sb_rd sb (rd_mono k s2)), e, e2⟩
  yld := fun Hs2 i H x H' p k sb e y => by
    obtain ⟨T, x, z, rfl, hT, rfl, y, y2⟩ := y
    obtain ⟨q, q', e1, e2, rfl⟩ := zip_get e
    obtain ⟨v, e3, h1⟩ := r.get e1
    obtain ⟨w, e4, h2⟩ := r2.get e2
    have := y xs (.inl (sb_rd sb (rd_mono k s)))
    rw [e3] at this; cases this
    have := y2 ys (.inl (sb_rd sb (rd_mono k s2)))
    rw [e4] at this; cases this
    have al := PStp.alloc (o := .tup [x, z]) sb hT trivial
    exact ⟨_, al, mk_tup (.inl upd_same) (.cons (Rep.mono (k.trans al.st.hs) _ _ h1) (.cons (Rep.mono (k.trans al.st.hs) _ _ h2) (by simp [Reps])))⟩
  stop := fun Hs2 H k sb => by
    refine ⟨xs, ys, .inl (sb_rd sb (rd_mono k s)), .inl (sb_rd sb (rd_mono k s2)), ?_⟩
    rw [List.length_zipWith, r.len, r2.len]
    omega
theorem wlk_zipT {K : Fg} {Hs : Hp} {a b : Addr} {xs ys : List V} {l m : List PV} (s : Tp K Hs a xs) (r : Reps K Hs l xs) (s2 : Tp K Hs b ys) (r2 : Reps K Hs m ys) : Wlk K Hs (ItzT K a b) (l.zipWith (fun x y => .tuple [x, y]) m) where
  go := fun Hs2 i H k sb hi => by
    have hi : i < l.length ∧ i < m.length := by simpa [Nat.lt_min] using hi
    obtain ⟨x, e, _⟩ := r.get (List.getElem?_eq_getElem hi.1)
    obtain ⟨y, e2, _⟩ := r2.get (List.getElem?_eq_getElem hi.2)
    exact ⟨xs, ys, x, y, sqT_mono sb.same (tp_mono k s), sqT_mono sb.same (tp_mono k s2), e, e2⟩
  yld := fun Hs2 i H x H' p k sb e y => by
    obtain ⟨T, x, z, rfl, hT, rfl, y, y2⟩ := y
    obtain ⟨q, q', e1, e2, rfl⟩ := zip_get e
    obtain ⟨v, e3, h1⟩ := r.get e1
    obtain ⟨w, e4, h2⟩ := r2.get e2
    have := y xs (sqT_mono sb.same (tp_mono k s))
    rw [e3] at this; cases this
    have := y2 ys (sqT_mono sb.same (tp_mono k s2))
    rw [e4] at this; cases this
    have al := PStp.alloc (o := .tup [x, z]) sb hT trivial
    exact ⟨_, al, mk_tup (.inl upd_same) (.cons (Rep.mono (k.trans al.st.hs) _ _ h1) (.cons (Rep.mono (k.trans al.st.hs) _ _ h2) (by simp [Reps])))⟩
  stop := fun Hs2 H k sb => by
    refine ⟨xs, ys, sqT_mono sb.same (tp_mono k s), sqT_mono sb.same (tp_mono k s2), ?_⟩
    rw [List.length_zipWith, r.len, r2.len]
    omega
theorem i_zip {a2 : Expr} {p tpos : Pos} {elts : List Expr} {kk : Nat} (hg : Gl X "zip") (hm : X.mg "zip" = none) (ha : PA X [e, a2] (tGA md ms)) (hs : starEach [e, a2] X.env = (false, eval e X.env) :: starEach [a2] X.env := by rfl) (hpl : (backTo pos (starEach [a2] X.env)).any (·.1) = false := by rfl) :
    PI X (.Tuple elts kk tpos) (.Call (.Name "zip" p) [e, a2] [] pos) (tI md (mLs fZip ms)) := by
  refine piImp (pi_zipA hg hm ha hs hpl) fun σ H Rk ⟨Hs, U, st, l, st', hR, hm, k⟩ => ?_
  refine tGA_seq hR hm fun l0 st1 vs Hs1 U1 H1 e1 e2 r1 s1 p1 => ?_
  obtain ⟨e7, e8⟩ := lft_some e2
  subst e8
  unfold fZip at e7
  split at e7
  · cases e7
    obtain ⟨v, w, rfl, h, h2⟩ := reps2 p1
    obtain ⟨a, xs, rfl, s, q⟩ := rep_lst h
    obtain ⟨b, ys, rfl, s', q'⟩ := rep_lst h2
    exact ⟨a, b, xs, ys, rfl, .inl ⟨.inl (sb_rd (md.sub r1) s), .inl (sb_rd (md.sub r1) s'), k _ _ _ _ r1 s1 (wlk_zip s q s' q')⟩⟩
  · cases e7
    obtain ⟨v, w, rfl, h, h2⟩ := reps2 p1
    obtain ⟨a, xs, rfl, s, q⟩ := rep_tup h
    obtain ⟨b, ys, rfl, s', q'⟩ := rep_tup h2
    exact ⟨a, b, xs, ys, rfl, .inr ⟨sqT_mono (md.sub r1).same s, sqT_mono (md.sub r1).same s', k _ _ _ _ r1 s1 (wlk_zipT s q s' q')⟩⟩
  · cases e7

/-! ### targets -/
inductive Tg where
  | nm (i : Nat)
  | tp (is : List Nat)
def setN {S : Type} (o : Ops S) : List Nat → List PV → S → Option S
  | [], [], st => some st
  | i :: is, p :: l, st => if o.wr i = true then setN o is l (o.set st i p) else none
  | _, _, _ => none
def setT {S : Type} (o : Ops S) (tg : Tg) (p : PV) (st : S) : Option S := match tg with
  | .nm i => if o.wr i = true then some (o.set st i p) else none
  | .tp is => match p with
    | .tuple l => setN o is l st
    | _ => none
def setσ : List Nat → List V → St → St
  | i :: is, v :: vs, σ => setσ is vs (σ.set i (some v))
  | _, _, σ => σ
/-- a target's reading by a mirror -/
def TgIn (tg : Tg) (own : List Nat) : Prop := match tg with
  | .nm i => i ∈ own
  | .tp is => ∀ i ∈ is, i ∈ own
def tT {K : Fg} {S : Type} {o : Ops S} (md : Md K o) (tg : Tg) : TG := fun v σ H Q => ∃ Hs U st p st', md.R st Hs U σ H ∧ Rep K Hs p v ∧ setT o tg p st = some st' ∧
  ∀ σ', (∀ own : List Nat, TgIn tg own → wipe σ' own = wipe σ own ∧ ∀ j, j ∉ own → σ'[j]? = σ[j]?) → md.R st' Hs U σ' H → Q σ' H
theorem wipe_set_out {σ : St} {i : Nat} {x : Option V} : ∀ {own : List Nat}, i ∉ own → wipe (σ.set i x) own = (wipe σ own).set i x
  | [], _ => rfl
  | j :: own, h => by
    show (wipe (σ.set i x) own).set j none = ((wipe σ own).set j none).set i x
    rw [wipe_set_out fun z => h (List.mem_cons_of_mem _ z), List.set_comm]
    rintro rfl
    exact h List.mem_cons_self
theorem wipe_set {σ : St} {i : Nat} {x : Option V} : ∀ {own : List Nat}, i ∈ own → wipe (σ.set i x) own = wipe σ own
  | j :: own, h => by
    show (wipe (σ.set i x) own).set j none = (wipe σ own).set j none
    by_cases h2 : i ∈ own
    · rw [wipe_set h2]
    · have e : i = j := by
        rcases List.mem_cons.mp h with h | h
        · exact h
        · exact absurd h h2
      subst e
      rw [wipe_set_out h2, List.set_set]
theorem setσ_wipe : ∀ {is : List Nat} {vs : List V} {σ : St} {own : List Nat}, (∀ i ∈ is, i ∈ own) → wipe (setσ is vs σ) own = wipe σ own ∧ ∀ j, j ∉ own → (setσ is vs σ)[j]? = σ[j]?
  | [], vs, σ, own, _ => by unfold setσ; exact ⟨rfl, fun _ _ => rfl⟩
  | i :: is, [], σ, own, _ => by unfold setσ; exact ⟨rfl, fun _ _ => rfl⟩
  | i :: is, v :: vs, σ, own, h => by
    unfold setσ
    obtain ⟨h1, h2⟩ := setσ_wipe (is := is) (vs := vs) (σ := σ.set i (some v)) (own := own) fun k hk => h k (List.mem_cons_of_mem _ hk)
    refine ⟨h1.trans (wipe_set (h i List.mem_cons_self)), fun j hj => ?_⟩
    rw [h2 j hj, List.getElem?_set_ne]
    rintro rfl
    exact hj (h i List.mem_cons_self)
theorem t_name {i : Nat} {x : Str} (hN : X.N.Nodup) (hi : X.N[i]? = some x) (hx : Loc X.env.scope x) (hf : X.fn x = true ∨ X.env.scope.names.lookup x = some .local := by first | exact .inl rfl | exact .inr rfl | assumption) : PG X (.Name x pos) (tT md (.nm i)) := by
  refine pgImp (pg_name hN hi hx hf) fun v σ H Q ⟨Hs, U, st, p, st', hR, hr, hs, k⟩ => ?_
  unfold setT at hs
  simp only at hs
  split at hs
  · rename_i hw
    cases hs
    refine k _ (fun own h => ⟨wipe_set h, fun j hj => ?_⟩) (md.set_ok hR hw hr)
    rw [List.getElem?_set_ne]
    rintro rfl
    exact hj h
  · cases hs
/-- names in a row -/
def gNames : List Nat → TGs := fun is vs σ H Q => vs.length = is.length ∧ Q (setσ is vs σ) H
theorem ts_nil : PGs X [] (gNames []) := ⟨fun pins s σ H vs us Q I r h => by
  obtain ⟨h1, h2⟩ := h
  have : vs = [] := List.length_eq_zero_iff.mp h1
  subst this
  exact pgs_nil.run pins s σ H [] us Q I r ⟨rfl, h2⟩⟩
theorem ts_cons {i : Nat} {is : List Nat} {x : Str} {p : Pos} (hN : X.N.Nodup) (hi : X.N[i]? = some x) (hx : Loc X.env.scope x) (h2 : PGs X es (gNames is)) (hf : X.fn x = true ∨ X.env.scope.names.lookup x = some .local := by first | exact .inl rfl | exact .inr rfl | assumption)
    (hs : (assignEach (.Name x p :: es) X.env).map (·.2) = assign (.Name x p) X.env :: (assignEach es X.env).map (·.2) := by rfl) : PGs X (.Name x p :: es) (gNames (i :: is)) := ⟨fun pins s σ H vs us Q I r h => by
  obtain ⟨h1, h3⟩ := h
  cases vs with
  | nil => cases h1
  | cons v vs =>
    exact (pgs_cons (pg_name (i := i) hN hi hx hf) h2 hs).run pins s σ H (v :: vs) us Q I r ⟨v, vs, rfl, by simpa using h1, h3⟩⟩
theorem setN_ok : ∀ {is : List Nat} {l : List PV} {vs : List V} {st st' : S} {Hs : Hp} {U : US} {σ : St} {H : Hp}, md.R st Hs U σ H → Reps X.K Hs l vs → setN o is l st = some st' → vs.length = is.length ∧ md.R st' Hs U (setσ is vs σ) H
  | [], [], vs, st, st', Hs, U, σ, H, hR, hr, hs => by
    simp only [Reps] at hr; subst hr
    cases hs
    exact ⟨rfl, hR⟩
  | i :: is, p :: l, vs, st, st', Hs, U, σ, H, hR, hr, hs => by
    simp only [Reps] at hr
    obtain ⟨v, r, rfl, h1, h2⟩ := hr
    unfold setN at hs
    split at hs
    · rename_i hw
      obtain ⟨h3, h4⟩ := setN_ok (md.set_ok hR hw h1) h2 hs
      exact ⟨by simp [h3], h4⟩
    · cases hs
  | [], _ :: _, vs, st, st', Hs, U, σ, H, hR, hr, hs => by cases hs
  | _ :: _, [], vs, st, st', Hs, U, σ, H, hR, hr, hs => by cases hs
theorem t_tup {kk : Nat} {is : List Nat} (hc : X.calm = true) (h : PGs X es (gNames is))
    (hn : (assignEach es X.env).length = is.length := by rfl) (hst : (assignEach es X.env).findIdx? (·.1) = none := by rfl) : PG X (.Tuple es kk pos) (tT md (.tp is)) := by
  refine pgImp (pg_tup (n := is.length) hc h hn hst) fun v σ H Q ⟨Hs, U, st, p, st', hR, hr, hs, k⟩ => ?_
  unfold setT at hs
  simp only at hs
  split at hs
  · obtain ⟨a, xs, rfl, s, q⟩ := rep_tup hr
    obtain ⟨h1, h2⟩ := setN_ok hR q hs
    exact ⟨a, xs, rfl, sqT_mono (md.sub hR).same s, h1, h1, k _ (fun own h => setσ_wipe h) h2⟩
  · cases hs

/-! ### list comprehensions -/
def tgIn (tg : Tg) (own : List Nat) : Bool := match tg with
  | .nm i => own.contains i
  | .tp is => is.all fun i => own.contains i
def lcLoop {S : Type} (o : Ops S) (own : List Nat) (tg : Tg) (mt : M S Bool) (me : M S PV) : List PV → List PV → S → Option (List PV × S)
  | [], acc, st => some (acc, st)
  | p :: l, acc, st => match setT o tg p st with
    | none => none
    | some st1 => match mt st1 with
      | none => none
      | some (true, st2) => match me st2 with
        | none => none
        | some (v, st3) => lcLoop o own tg mt me l (acc ++ [v]) (o.clr st3 own)
      | some (false, st2) => lcLoop o own tg mt me l acc (o.clr st2 own)
def mLcC {S : Type} (o : Ops S) (own : List Nat) (tg : Tg) (mi : M S (List PV)) (mt : M S Bool) (me : M S PV) : M S (List PV) := fun st => match mi st with
  | none => none
  | some (l, st1) => if l.length ≤ LIM ∧ own.all o.wr = true ∧ tgIn tg own = true then match lcLoop o own tg mt me l [] (o.clr st1 own) with
      | none => none
      | some (acc, stb) => some (acc, o.leave st1 stb own)
    else none
def mLc {S : Type} (o : Ops S) (own : List Nat) (tg : Tg) (mi : M S (List PV)) (mt : M S Bool) (me : M S PV) : M S PV := bnd (mLcC o own tg mi mt me) fun l => ret (.list l)
theorem tabG_set {H : Hp} {D : Addr} {xs ys : List V} (h : H D = some (.lst xs)) : ∀ P, TabG H P → TabG (upd H D (.lst ys)) P := fun P t => t.map (fun ps e => by rw [upd_ne (ne_of e h (by intro z; cases z))]; exact e) fun c q e => by rw [upd_ne (ne_of e h codeO_lst)]; exact e
theorem stp_write {Hs Hs' : Hp} {U U' : US} {H H' : Hp} {D : Addr} {xs ys : List V} (s : Stp Hs U H Hs' U' H') (hn : H D = none) (hd : H' D = some (.lst xs)) : Stp Hs U H Hs' U' (upd H' D (.lst ys)) where
  hs := s.hs
  fr := fun a u e n hu => by
    rw [upd_ne (ne_of_none e hn)]
    exact s.fr a u e n hu
  tb := fun P h => tabG_set hd P (s.tb P h)
  ex := fun a h => by
    unfold upd
    split
    · simp
    · exact s.ex a h
  uu := s.uu
  an := s.an
  tp := fun a xs e => by
    by_cases z : a = D
    · subst z; rw [upd_same] at e; cases e
    · rw [upd_ne z] at e; exact s.tp a xs e
theorem wipe_wipe (σ : St) (own : List Nat) : wipe (wipe σ own) own = wipe σ own := by
  have h : ∀ l : List Nat, (∀ i ∈ l, i ∈ own) → wipe (wipe σ l) own = wipe σ own := fun l => by
    induction l with
    | nil => intro _; rfl
    | cons i l ih =>
      intro h
      show wipe ((wipe σ l).set i none) own = _
      rw [wipe_set (h i List.mem_cons_self), ih fun j hj => h j (List.mem_cons_of_mem _ hj)]
  exact h own fun _ h => h
theorem tLc_core {wi : TI} {g : TG} {tt : TT} {te : TE} {mi : M S (List PV)} {mt : M S Bool} {me : M S PV} {tg : Tg} {own : List Nat}
    (hi : ∀ σ H R, tI md mi σ H R → wi σ H R) (hg : ∀ v σ H Q, tT md tg v σ H Q → g v σ H Q) (ht : ∀ σ H Q, tGT md mt σ H Q → tt σ H Q) (he : ∀ σ H Q, tG md me σ H Q → te σ H Q)
    {σ : St} {H : Hp} {Q : VK} {Hs : Hp} {U : US} {st : S} {l : List PV} {st' : S} (hR : md.R st Hs U σ H) (hm : mLcC o own tg mi mt me st = some (l, st'))
    (k : ∀ D xs Hs' U' H', md.R st' Hs' U' σ H' → Stp Hs U H Hs' U' H' → H' D = some (.lst xs) → Hs' D = none → ¬ U' D → H D = none → Reps X.K Hs' l xs → Q (.ref D) H') : tLc wi g tt te own σ H Q := by
  unfold mLcC at hm
  split at hm
  · cases hm
  · rename_i l0 st1 e1
    split at hm
    · rename_i hc
      obtain ⟨hl, hw, hin⟩ := hc
      split at hm
      · cases hm
      · rename_i acc stb e2
        cases hm
        refine hi σ H _ ⟨Hs, U, st, l0, st1, hR, e1, fun J Hs1 U1 H1 r1 s1 wk D hD => ?_⟩
        have r0 := md.clr_ok r1 hw
        refine ⟨fun i m H2 => ∃ Hs2 U2 stt ac xs, i ≤ l0.length ∧ m = l0.length - i ∧ md.R stt Hs2 U2 (wipe σ own) H2 ∧ Stp Hs1 U1 H1 Hs2 U2 H2 ∧ H2 D = some (.lst xs) ∧ Hs2 D = none ∧ ¬ U2 D ∧ Reps X.K Hs2 ac xs ∧ ac.length ≤ i ∧
          lcLoop o own tg mt me (l0.drop i) ac stt = some (l, stb), ⟨l0.length, Hs1, U1, _, [], [], Nat.zero_le _, rfl, ?_, .tmp hD (fun _ z => by cases z) U1, upd_same, sb_none (md.sub r1) hD, fun u => ?_, by simp [Reps], Nat.le_refl _, by simpa using e2⟩, fun i m H2 hW => ?_⟩
        · refine md.move r0 (Same.refl _) (fun a u e => ?_) (fun a u => ⟨(md.own r0 u).1, fun x e => ?_⟩) (tabG_upd hD)
          · have := md.sub r0 a u e
            refine ⟨this.1, ?_⟩
            rw [upd_ne (ne_of_none this.2 hD)]; exact this.2
          · rw [upd_ne (ne_of_none e hD)]; exact e
        · obtain ⟨_, w, e, _⟩ := md.own r1 u
          rw [hD] at e; cases e
        · obtain ⟨Hs2, U2, stt, ac, xs, hi', rfl, r2, s2, hd, hsd, hu, hr, hac, hlp⟩ := hW
          have sb2 := md.sub r2
          by_cases hlt : i < l0.length
          · refine .inr ⟨wk.go Hs2 i H2 s2.hs sb2 hlt, fun H3 => ∃ Hs2 U2 stt ac xs, md.R stt Hs2 U2 (wipe σ own) H3 ∧ Stp Hs1 U1 H1 Hs2 U2 H3 ∧ H3 D = some (.lst xs) ∧ Hs2 D = none ∧ ¬ U2 D ∧ Reps X.K Hs2 ac xs ∧ ac.length ≤ i + 1 ∧
              lcLoop o own tg mt me (l0.drop (i + 1)) ac stt = some (l, stb), fun H3 h3 => ?_, fun x H3 hy => ?_⟩
            · obtain ⟨Hs3, U3, st3, ac3, xs3, a1, a2, a3, a4, a5, a6, a7, a8⟩ := h3
              exact ⟨l0.length - (i + 1), by omega, Hs3, U3, st3, ac3, xs3, by omega, rfl, a1, a2, a3, a4, a5, a6, a7, a8⟩
            · rw [List.drop_eq_getElem_cons hlt] at hlp
              unfold lcLoop at hlp
              obtain ⟨Hs3, ps, px⟩ := wk.yld Hs2 i H2 x H3 l0[i] s2.hs sb2 (List.getElem?_eq_getElem hlt) hy
              have r3 := md.grow r2 ps
              have hd3 : H3 D = some (.lst xs) := ps.st.fr D _ hd trivial (fun z => z)
              have hsd3 : Hs3 D = none := by
                cases q : Hs3 D with
                | none => rfl
                | some u =>
                  rcases ps.st.an D u q with h | h | ⟨ys, rfl, h⟩ | h
                  · rw [hsd] at h; cases h
                  · rw [hd] at h; cases h
                  · rw [hd] at h; cases h
                  · exact h.elim
              have s3 := s2.trans (ps.st.lift U2)
              split at hlp
              · cases hlp
              · rename_i stA eA
                refine hg x _ H3 _ ⟨Hs3, U2, stt, l0[i], stA, r3, px, eA, fun σ' hσ r4 => ?_⟩
                have hown : TgIn tg own := by
                  clear eA hσ hlp e2 hg
                  unfold tgIn at hin
                  unfold TgIn
                  cases tg with
                  | nm j => simpa using hin
                  | tp is => simpa using hin
                obtain ⟨hw1, hw2⟩ := hσ own hown
                rw [wipe_wipe] at hw1
                refine ⟨by rw [hw1], ?_⟩
                split at hlp
                · cases hlp
                · rename_i stB eB
                  refine ht σ' H3 _ ⟨Hs3, U2, stA, true, stB, r4, eB, fun Hs5 U5 H5 r5 s5 => ?_⟩
                  refine iteT ?_
                  split at hlp
                  · cases hlp
                  · rename_i v stC eC
                    refine he σ' H5 _ ⟨Hs5, U5, stB, v, stC, r5, eC, fun y Hs6 U6 H6 r6 s6 p6 => ?_⟩
                    have ss := s5.trans s6
                    have hd6 : H6 D = some (.lst xs) := ss.fr D _ hd3 trivial hu
                    have hsd6 : Hs6 D = none := by
                      cases q : Hs6 D with
                      | none => rfl
                      | some u =>
                        rcases ss.an D u q with h | h | ⟨ys, rfl, h⟩ | h
                        · rw [hsd3] at h; cases h
                        · rw [hd3] at h; cases h
                        · rw [hd3] at h; cases h
                        · exact absurd h hu
                    have hu6 : ¬ U6 D := fun z => by
                      rcases ss.uu D z with h | h
                      · exact hu h
                      · rw [hd3] at h; cases h
                    have sA := s3.trans ss
                    have hrr : Reps X.K Hs6 (ac ++ [v]) (xs ++ [y]) := Reps.app (Reps.mono (ps.st.hs.trans ss.hs) ac xs hr) (.one p6)
                    refine ⟨xs, hd6, ?_, Hs6, U6, _, ac ++ [v], xs ++ [y], ?_, stp_write sA hD hd6, upd_same, hsd6, hu6, hrr, by simp; omega, hlp⟩
                    · rw [hr.len]
                      exact lim_line (by omega)
                    · have r7 := md.clr_ok r6 hw
                      rw [hw1] at r7
                      refine md.move r7 (Same.refl _) (fun a u e => ?_) (fun a u => ⟨(md.own r7 u).1, fun x e => ?_⟩) (tabG_set hd6)
                      · have := md.sub r7 a u e
                        refine ⟨this.1, ?_⟩
                        rw [upd_ne (fun z => by subst z; rw [hsd6] at e; cases e)]; exact this.2
                      · rw [upd_ne (fun z => by subst z; exact hu6 u)]; exact e
                · rename_i stB eB
                  refine ht σ' H3 _ ⟨Hs3, U2, stA, false, stB, r4, eB, fun Hs5 U5 H5 r5 s5 => ?_⟩
                  refine iteF ?_
                  have hd6 : H5 D = some (.lst xs) := s5.fr D _ hd3 trivial hu
                  have hsd6 : Hs5 D = none := by
                    cases q : Hs5 D with
                    | none => rfl
                    | some u =>
                      rcases s5.an D u q with h | h | ⟨ys, rfl, h⟩ | h
                      · rw [hsd3] at h; cases h
                      · rw [hd3] at h; cases h
                      · rw [hd3] at h; cases h
                      · exact absurd h hu
                  have hu6 : ¬ U5 D := fun z => by
                    rcases s5.uu D z with h | h
                    · exact hu h
                    · rw [hd3] at h; cases h
                  have r7 := md.clr_ok r5 hw
                  rw [hw1] at r7
                  exact ⟨Hs5, U5, _, ac, xs, r7, s3.trans s5, hd6, hsd6, hu6, Reps.mono (ps.st.hs.trans s5.hs) ac xs hr, by omega, hlp⟩
          · have e : i = l0.length := by omega
            subst e
            rw [List.drop_length] at hlp
            cases hlp
            have rz := md.leave_ok (own := own) r1 r2 s2.hs hw
            exact .inl ⟨wk.stop Hs2 H2 s2.hs sb2, k D xs Hs2 U2 H2 rz (s1.trans s2) hd hsd hu (by
              cases q : H D with
              | none => rfl
              | some u => exact absurd hD (s1.ex D (by rw [q]; simp))) hr⟩
    · cases hm
/-- what is found relied upon from here on: an object that nobody owns -/
theorem md_keep {K : Fg} {o : Ops S} (md : Md K o) {st : S} {Hs : Hp} {U : US} {σ : St} {H : Hp} {D : Addr} {u : HO} (r : md.R st Hs U σ H) (hd : H D = some u) (hn : NT u) (hs : Hs D = none) (hu : ¬ U D) : md.R st (upd Hs D u) U σ H := by
  refine md.move r (fun a x e => ?_) (fun a x e => ?_) (fun a h => ⟨?_, fun x e => e⟩) (fun _ h => h)
  · rw [upd_ne (fun z => by subst z; rw [hs] at e; cases e)]; exact e
  · by_cases z : a = D
    · subst z; rw [upd_same] at e; cases e; exact ⟨hn, hd⟩
    · rw [upd_ne z] at e; exact md.sub r a x e
  · rw [upd_ne (fun z => by subst z; exact hu h)]
    exact (md.own r h).1
theorem stp_keep {Hs Hs' : Hp} {U U' : US} {H H' : Hp} {D : Addr} {u : HO} (s : Stp Hs U H Hs' U' H') (hn : H D = none) (hs : Hs' D = none) : Stp Hs U H (upd Hs' D u) U' H' where
  hs := fun a x e => by
    have := s.hs a x e
    rw [upd_ne (fun z => by subst z; rw [hs] at this; cases this)]; exact this
  fr := s.fr
  tb := s.tb
  ex := s.ex
  uu := s.uu
  an := fun a x e => by
    by_cases z : a = D
    · subst z; exact .inr (.inl hn)
    · rw [upd_ne z] at e; exact s.an a x e
  tp := s.tp
theorem tLc_ok {wi : TI} {g : TG} {tt : TT} {te : TE} {mi : M S (List PV)} {mt : M S Bool} {me : M S PV} {tg : Tg} {own : List Nat}
    (hi : ∀ σ H R, tI md mi σ H R → wi σ H R) (hg : ∀ v σ H Q, tT md tg v σ H Q → g v σ H Q) (ht : ∀ σ H Q, tGT md mt σ H Q → tt σ H Q) (he : ∀ σ H Q, tG md me σ H Q → te σ H Q)
    (σ : St) (H : Hp) (Q : VK) (h : tG md (mLc o own tg mi mt me) σ H Q) : tLc wi g tt te own σ H Q := by
  obtain ⟨Hs, U, st, pv, st', hR, hm, k⟩ := h
  obtain ⟨l, st1, e1, e2⟩ := bnd_some hm
  obtain ⟨rfl, rfl⟩ := ret_some e2
  refine tLc_core hi hg ht he hR e1 fun D xs Hs' U' H' r s hd hsd hu hn hr => ?_
  exact k _ _ U' H' (md_keep md r hd trivial hsd hu) (stp_keep s hn hsd) (mk_lst (.inl upd_same) (Reps.mono (fun a x e => by
    rw [upd_ne (fun z => by subst z; rw [hsd] at e; cases e)]; exact e) l xs hr))
theorem tYes_ok (σ : St) (H : Hp) (Q : Bool → Hp → Prop) (h : tGT md (ret true) σ H Q) : tYes σ H Q := by
  obtain ⟨Hs, U, st, pv, st', hR, hm, k⟩ := h
  obtain ⟨rfl, rfl⟩ := ret_some hm
  exact k _ _ _ hR (.refl _ _ _)
theorem ptsImp {X : Cx} {e : List Expr} {t t' : TT} (h : PTs X e t) (i : ∀ σ H Q, t' σ H Q → t σ H Q) : PTs X e t' := ⟨fun pins s σ H Q I q => h.run pins s σ H Q I (i σ H Q q)⟩
theorem c_nil : PTs X [] (tGT md (ret true)) := ptsImp pts_nil tYes_ok
theorem c_one {c : Expr} (h : PT X c (tGT md ta)) : PTs X [c] (tGT md ta) := pts_one h
theorem g_lc {elt tg iter : Expr} {ifs : List Expr} {scope : Scope} {own : List (Str × Nat)} {mi : M S (List PV)} {mt : M S Bool} {tt : Tg} (hc : X.calm = true) (hN : X.N.Nodup) (hi : PI X tg iter (tI md mi)) (ok : BlkOk X.N X.env.scope scope own)
    (hg : ∀ (s : Shared) (H : Hp) (C : Addr) (cl : List (Str × Addr)) (fp : List Addr), PG (X.blk s H scope (compEnvC scope cl C X.env) fp) tg (tT md tt)) (ht : ∀ (s : Shared) (H : Hp) (C : Addr) (cl : List (Str × Addr)) (fp : List Addr), PTs (X.blk s H scope (compEnvC scope cl C X.env) fp) ifs (tGT md mt))
    (he : ∀ (s : Shared) (H : Hp) (C : Addr) (cl : List (Str × Addr)) (fp : List Addr), PE (X.blk s H scope (compEnvC scope cl C X.env) fp) elt (tG md me)) (hs : ∀ x, foldedSetIterable iter X.env x = pure x := by intro _; rfl) :
    PE X (.ListComp elt [⟨tg, iter, ifs, 0⟩] scope pos) (tG md (mLc o (own.map (·.2)) tt mi mt me)) :=
  peImp (pe_lc hc hN hi ok hg ht he hs) (tLc_ok (fun _ _ _ h => h) (fun _ _ _ _ h => h) (fun _ _ _ h => h) (fun _ _ _ h => h))
end
end L3

set_option Elab.async false
set_option linter.all false
set_option maxRecDepth 100000
namespace L3
open PySem PySem.Spec
open PyProof.Rows hiding St
open L2

/-! ### the pure mode: every slot is a value -/
abbrev PE0 := List (Option PV)
abbrev pO (n : Nat) : Ops PE0 where
  get := fun st i => match st[i]? with
    | some (some v) => some v
    | _ => none
  wr := fun i => decide (i < n)
  set := fun st i v => st.set i (some v)
  clr := fun st own => own.foldr (fun i s => s.set i none) st
  leave := fun st0 _ _ => st0
theorem clr_get {α : Type} {st : List (Option α)} : ∀ {own : List Nat} {i : Nat} {x : α}, (own.foldr (fun i s => s.set i none) st)[i]? = some (some x) → st[i]? = some (some x) ∧ i ∉ own
  | [], i, x, h => ⟨h, by simp⟩
  | j :: own, i, x, h => by
    rw [List.foldr_cons] at h
    by_cases e : j = i
    · subst e
      by_cases hj : j < (own.foldr (fun i s => s.set i none) st).length
      · rw [List.getElem?_set_self hj] at h; cases h
      · rw [List.getElem?_eq_none (by simpa using hj)] at h; cases h
    · rw [List.getElem?_set_ne e] at h
      obtain ⟨h1, h2⟩ := clr_get h
      exact ⟨h1, by simp only [List.mem_cons, not_or]; exact ⟨fun z => e z.symm, h2⟩⟩
theorem clr_len {α : Type} {st : List (Option α)} : ∀ {own : List Nat}, (own.foldr (fun i s => s.set i none) st).length = st.length
  | [] => rfl
  | j :: own => by rw [List.foldr_cons, List.length_set, clr_len]
theorem wipe_keep {σ : St} : ∀ {own : List Nat} {j : Nat}, j ∉ own → (wipe σ own)[j]? = σ[j]?
  | [], j, _ => rfl
  | i :: own, j, h => by
    show ((wipe σ own).set i none)[j]? = _
    rw [List.getElem?_set_ne (fun z => h (by simp [z])), wipe_keep fun z => h (List.mem_cons_of_mem _ z)]
structure PR (K : Fg) (n : Nat) (T : List Addr) (st : PE0) (Hs : Hp) (U : US) (σ : St) (H : Hp) : Prop where
  sb : Sb Hs H
  nu : ∀ a, ¬ U a
  l1 : st.length = n
  l2 : σ.length = n
  slot : ∀ (i : Nat) (pv : PV), (st : List (Option PV))[i]? = some (some pv) → ∃ v, σ[i]? = some (some v) ∧ Rep K Hs pv v
  tabs : ∀ P ∈ T, TabG H P
abbrev pM (K : Fg) (n : Nat) (T : List Addr) : Md K (pO n) where
  R := PR K n T
  sub := fun h => h.sb
  own := fun h u => absurd u (h.nu _)
  move := fun h s sb _ tb => ⟨sb, h.nu, h.l1, h.l2, fun i pv e => let ⟨v, e1, r⟩ := h.slot i pv e; ⟨v, e1, Rep.mono s pv v r⟩, fun P hP => tb P (h.tabs P hP)⟩
  get_ok := fun {st Hs U σ H i pv} h e => by
    simp only [pO] at e
    split at e
    · rename_i v e2; cases e; exact h.slot i _ e2
    · cases e
  set_ok := fun {st Hs U σ H i pv v} h hw r => by
    have hi : i < n := of_decide_eq_true hw
    refine ⟨h.sb, h.nu, by simpa using h.l1, by simpa using h.l2, fun j q e => ?_, h.tabs⟩
    simp only [pO] at e
    by_cases z : i = j
    · subst z
      rw [List.getElem?_set_self (by rw [h.l1]; exact hi)] at e
      cases e
      exact ⟨v, List.getElem?_set_self (by rw [h.l2]; exact hi), r⟩
    · rw [List.getElem?_set_ne z] at e
      obtain ⟨w, e1, r1⟩ := h.slot j q e
      exact ⟨w, by rw [List.getElem?_set_ne z]; exact e1, r1⟩
  clr_ok := fun {st Hs U σ H own} h hw => by
    refine ⟨h.sb, h.nu, by simp only [pO]; rw [clr_len]; exact h.l1, by rw [wipe_length]; exact h.l2, fun j q e => ?_, h.tabs⟩
    simp only [pO] at e
    obtain ⟨e1, e2⟩ := clr_get e
    obtain ⟨w, e3, r1⟩ := h.slot j q e1
    exact ⟨w, by rw [wipe_keep e2]; exact e3, r1⟩
  leave_ok := fun h h' s hw => ⟨h'.sb, h'.nu, h.l1, h.l2, fun i pv e => let ⟨v, e1, r⟩ := h.slot i pv e; ⟨v, e1, Rep.mono s pv v r⟩, h'.tabs⟩

/-! ### values that are owned -/
inductive OV where
  | p (v : PV)
  | l (xs : List OV)
mutual
def OR (K : Fg) (H Hs : Hp) : OV → V → List Addr → Prop
  | .p pv, v, F => F = [] ∧ Rep K Hs pv v
  | .l xs, v, F => ∃ a vs F', v = .ref a ∧ F = a :: F' ∧ H a = some (.lst vs) ∧ ORs K H Hs xs vs F'
def ORs (K : Fg) (H Hs : Hp) : List OV → List V → List Addr → Prop
  | [], vs, F => vs = [] ∧ F = []
  | x :: xs, vs, F => ∃ v vr F1 F2, vs = v :: vr ∧ F = F1 ++ F2 ∧ OR K H Hs x v F1 ∧ ORs K H Hs xs vr F2
end
mutual
def toPV : OV → PV
  | .p v => v
  | .l xs => .list (toPVs xs)
def toPVs : List OV → List PV
  | [] => []
  | x :: xs => toPV x :: toPVs xs
end
mutual
theorem OR.move {K : Fg} {H Hs H' Hs' : Hp} (s : Same Hs Hs') : ∀ (ov : OV) (v : V) (F : List Addr), (∀ a ∈ F, ∀ u, H a = some u → H' a = some u) → OR K H Hs ov v F → OR K H' Hs' ov v F
  | .p pv, v, F, k, h => by
    simp only [OR] at h ⊢
    exact ⟨h.1, Rep.mono s pv v h.2⟩
  | .l xs, v, F, k, h => by
    simp only [OR] at h ⊢
    obtain ⟨a, vs, F', rfl, rfl, e, r⟩ := h
    exact ⟨a, vs, F', rfl, rfl, k a (by simp) _ e, ORs.move s xs vs F' (fun b hb => k b (List.mem_cons_of_mem _ hb)) r⟩
theorem ORs.move {K : Fg} {H Hs H' Hs' : Hp} (s : Same Hs Hs') : ∀ (xs : List OV) (vs : List V) (F : List Addr), (∀ a ∈ F, ∀ u, H a = some u → H' a = some u) → ORs K H Hs xs vs F → ORs K H' Hs' xs vs F
  | [], vs, F, k, h => by simpa only [ORs] using h
  | x :: xs, vs, F, k, h => by
    simp only [ORs] at h ⊢
    obtain ⟨v, vr, F1, F2, rfl, rfl, h1, h2⟩ := h
    exact ⟨v, vr, F1, F2, rfl, rfl, OR.move s x v F1 (fun b hb => k b (List.mem_append_left _ hb)) h1, ORs.move s xs vr F2 (fun b hb => k b (List.mem_append_right _ hb)) h2⟩
end
mutual
theorem OR.isl {K : Fg} {H Hs : Hp} : ∀ (ov : OV) (v : V) (F : List Addr), OR K H Hs ov v F → ∀ a ∈ F, ∃ vs, H a = some (.lst vs)
  | .p pv, v, F, h => by
    simp only [OR] at h
    rw [h.1]; intro a ha; cases ha
  | .l xs, v, F, h => by
    simp only [OR] at h
    obtain ⟨a, vs, F', rfl, rfl, e, r⟩ := h
    intro b hb
    rcases List.mem_cons.mp hb with rfl | hb
    · exact ⟨vs, e⟩
    · exact ORs.isl xs vs F' r b hb
theorem ORs.isl {K : Fg} {H Hs : Hp} : ∀ (xs : List OV) (vs : List V) (F : List Addr), ORs K H Hs xs vs F → ∀ a ∈ F, ∃ vs, H a = some (.lst vs)
  | [], vs, F, h => by
    simp only [ORs] at h
    rw [h.2]; intro a ha; cases ha
  | x :: xs, vs, F, h => by
    simp only [ORs] at h
    obtain ⟨v, vr, F1, F2, rfl, rfl, h1, h2⟩ := h
    intro b hb
    rcases List.mem_append.mp hb with hb | hb
    · exact OR.isl x v F1 h1 b hb
    · exact ORs.isl xs vr F2 h2 b hb
end
mutual
/-- seen as a value, over any heap that holds both -/
theorem OR.view {K : Fg} {H Hs Hv : Hp} (s : Same Hs Hv) : ∀ (ov : OV) (v : V) (F : List Addr), (∀ a ∈ F, ∀ u, H a = some u → Hv a = some u) → OR K H Hs ov v F → Rep K Hv (toPV ov) v
  | .p pv, v, F, k, h => by
    simp only [OR] at h
    simp only [toPV]
    exact Rep.mono s pv v h.2
  | .l xs, v, F, k, h => by
    simp only [OR] at h
    obtain ⟨a, vs, F', rfl, rfl, e, r⟩ := h
    simp only [toPV]
    exact mk_lst (.inl (k a (by simp) _ e)) (ORs.view s xs vs F' (fun b hb => k b (List.mem_cons_of_mem _ hb)) r)
theorem ORs.view {K : Fg} {H Hs Hv : Hp} (s : Same Hs Hv) : ∀ (xs : List OV) (vs : List V) (F : List Addr), (∀ a ∈ F, ∀ u, H a = some u → Hv a = some u) → ORs K H Hs xs vs F → Reps K Hv (toPVs xs) vs
  | [], vs, F, k, h => by
    simp only [ORs] at h
    simp only [toPVs, Reps]
    exact h.1
  | x :: xs, vs, F, k, h => by
    simp only [ORs] at h
    obtain ⟨v, vr, F1, F2, rfl, rfl, h1, h2⟩ := h
    simp only [toPVs]
    exact .cons (OR.view s x v F1 (fun b hb => k b (List.mem_append_left _ hb)) h1) (ORs.view s xs vr F2 (fun b hb => k b (List.mem_append_right _ hb)) h2)
end
theorem or_p {K : Fg} {H Hs : Hp} {pv : PV} {v : V} (r : Rep K Hs pv v) : OR K H Hs (.p pv) v [] := by simp only [OR]; exact ⟨trivial, r⟩
theorem ors_p {K : Fg} {H Hs : Hp} : ∀ {l : List PV} {vs : List V}, Reps K Hs l vs → ORs K H Hs (l.map .p) vs []
  | [], vs, h => by simp only [Reps] at h; simp only [List.map_nil, ORs]; exact ⟨h, trivial⟩
  | p :: l, vs, h => by
    simp only [Reps] at h
    obtain ⟨x, r, rfl, h1, h2⟩ := h
    simp only [List.map_cons, ORs]
    exact ⟨x, r, [], [], rfl, rfl, or_p h1, ors_p h2⟩
theorem or_l {K : Fg} {H Hs : Hp} {l : List PV} {vs : List V} {D : Addr} (e : H D = some (.lst vs)) (r : Reps K Hs l vs) : OR K H Hs (.l (l.map .p)) (.ref D) [D] := by
  simp only [OR]; exact ⟨D, vs, [], rfl, rfl, e, ors_p r⟩

/-! ### the mode of a body: some slots own what they hold -/
abbrev Env0 := List (Option OV)
def eGet (st : Env0) (i : Nat) : Option PV := match st[i]? with
  | some (some (.p v)) => some v
  | _ => none
def eBack (st0 : Env0) (i : Nat) : Option OV := match st0[i]? with
  | some (some (.p v)) => some (.p v)
  | _ => none
abbrev eO (n : Nat) (fx : List Nat) : Ops Env0 where
  get := eGet
  wr := fun i => decide (i < n) && !fx.contains i
  set := fun st i v => st.set i (some (.p v))
  clr := fun st own => own.foldr (fun i s => s.set i none) st
  leave := fun st0 stb own => own.foldr (fun i s => s.set i (eBack st0 i)) stb
structure ER (K : Fg) (n : Nat) (T : List Addr) (st : Env0) (Hs : Hp) (U : US) (σ : St) (H : Hp) (Fs : Nat → List Addr) : Prop where
  sb : Sb Hs H
  l1 : st.length = n
  l2 : σ.length = n
  tabs : ∀ P ∈ T, TabG H P
  us : ∀ a, U a → Hs a = none ∧ ∃ xs, H a = some (.lst xs)
  slot : ∀ (i : Nat) (ov : OV), (st : List (Option OV))[i]? = some (some ov) → ∃ v, σ[i]? = some (some v) ∧ OR K H Hs ov v (Fs i)
  nd : ∀ i, (Fs i).Nodup
  dj : ∀ i j a, a ∈ Fs i → a ∈ Fs j → i = j
  fu : ∀ i a, a ∈ Fs i → U a
/-- a slot gets a new content -/
theorem ER.put {K : Fg} {n : Nat} {T : List Addr} {st : Env0} {Hs : Hp} {U : US} {σ : St} {H : Hp} {Fs : Nat → List Addr} (h : ER K n T st Hs U σ H Fs) {i : Nat} {ov : OV} {v : V} {F : List Addr} (hi : i < n) (r : OR K H Hs ov v F)
    (hn : F.Nodup) (hf : ∀ a ∈ F, ¬ U a ∧ Hs a = none) : ER K n T (st.set i (some ov)) Hs (fun a => U a ∨ a ∈ F) (σ.set i (some v)) H (fun j => if j = i then F else Fs j) where
  sb := h.sb
  l1 := by simpa using h.l1
  l2 := by simpa using h.l2
  tabs := h.tabs
  us := fun a u => by
    rcases u with u | u
    · exact h.us a u
    · exact ⟨(hf a u).2, OR.isl ov v F r a u⟩
  slot := fun j q e => by
    by_cases z : i = j
    · subst z
      rw [List.getElem?_set_self (by rw [h.l1]; exact hi)] at e
      cases e
      refine ⟨v, List.getElem?_set_self (by rw [h.l2]; exact hi), ?_⟩
      rw [if_pos rfl]; exact r
    · rw [List.getElem?_set_ne z] at e
      obtain ⟨w, e1, r1⟩ := h.slot j q e
      refine ⟨w, by rw [List.getElem?_set_ne z]; exact e1, ?_⟩
      rw [if_neg (fun e => z e.symm)]; exact r1
  nd := fun j => by
    by_cases z : j = i
    · rw [if_pos z]; exact hn
    · rw [if_neg z]; exact h.nd j
  dj := fun j k a ha hb => by
    by_cases z : j = i <;> by_cases z2 : k = i
    · rw [z, z2]
    · rw [if_pos z] at ha; rw [if_neg z2] at hb; exact absurd (h.fu k a hb) (hf a ha).1
    · rw [if_neg z] at ha; rw [if_pos z2] at hb; exact absurd (h.fu j a ha) (hf a hb).1
    · rw [if_neg z] at ha; rw [if_neg z2] at hb; exact h.dj j k a ha hb
  fu := fun j a ha => by
    by_cases z : j = i
    · rw [if_pos z] at ha; exact .inr ha
    · rw [if_neg z] at ha; exact .inl (h.fu j a ha)
theorem ER.putp {K : Fg} {n : Nat} {T : List Addr} {st : Env0} {Hs : Hp} {U : US} {σ : St} {H : Hp} {Fs : Nat → List Addr} (h : ER K n T st Hs U σ H Fs) {i : Nat} {pv : PV} {v : V} (hi : i < n) (r : Rep K Hs pv v) :
    ER K n T (st.set i (some (.p pv))) Hs U (σ.set i (some v)) H (fun j => if j = i then [] else Fs j) := by
  have q := h.put hi (or_p (H := H) r) List.nodup_nil (fun a z => by cases z)
  have e : (fun a => U a ∨ a ∈ ([] : List Addr)) = U := by funext a; simp
  rw [e] at q
  exact q
/-- a slot's content is given up -/
theorem ER.drop {K : Fg} {n : Nat} {T : List Addr} {st : Env0} {Hs : Hp} {U : US} {σ : St} {H : Hp} {Fs : Nat → List Addr} (h : ER K n T st Hs U σ H Fs) (i : Nat) : ER K n T (st.set i none) Hs U σ H Fs where
  sb := h.sb
  l1 := by simpa using h.l1
  l2 := h.l2
  tabs := h.tabs
  us := h.us
  slot := fun j q e => by
    by_cases z : i = j
    · subst z
      by_cases hi : i < st.length
      · rw [List.getElem?_set_self hi] at e; cases e
      · rw [List.getElem?_eq_none (by simpa using hi)] at e; cases e
    · rw [List.getElem?_set_ne z] at e
      exact h.slot j q e
  nd := h.nd
  dj := h.dj
  fu := h.fu
/-- Hs, H have gone on; what is owned stands -/
theorem ER.move {K : Fg} {n : Nat} {T : List Addr} {st : Env0} {Hs Hs' : Hp} {U : US} {σ : St} {H H' : Hp} {Fs : Nat → List Addr} (h : ER K n T st Hs U σ H Fs) (s : Same Hs Hs') (sb : Sb Hs' H')
    (k : ∀ a, U a → Hs' a = none ∧ ∀ u, H a = some u → H' a = some u) (tb : ∀ P, TabG H P → TabG H' P) : ER K n T st Hs' U σ H' Fs where
  sb := sb
  l1 := h.l1
  l2 := h.l2
  tabs := fun P hP => tb P (h.tabs P hP)
  us := fun a u => let ⟨_, xs, e⟩ := h.us a u; ⟨(k a u).1, xs, (k a u).2 _ e⟩
  slot := fun i ov e => let ⟨v, e1, r⟩ := h.slot i ov e; ⟨v, e1, OR.move s ov v _ (fun a ha => (k a (h.fu i a ha)).2) r⟩
  nd := h.nd
  dj := h.dj
  fu := h.fu
/-- the slots read anew -/
theorem ER.slots {K : Fg} {n : Nat} {T : List Addr} {st st' : Env0} {Hs : Hp} {U : US} {σ σ' : St} {H : Hp} {Fs Fs' : Nat → List Addr} (h : ER K n T st Hs U σ H Fs) (l1 : st'.length = n) (l2 : σ'.length = n)
    (k : ∀ i ov, st'[i]? = some (some ov) → ∃ v, σ'[i]? = some (some v) ∧ OR K H Hs ov v (Fs' i)) (q : ∀ i, Fs' i = Fs i ∨ Fs' i = []) : ER K n T st' Hs U σ' H Fs' where
  sb := h.sb
  l1 := l1
  l2 := l2
  tabs := h.tabs
  us := h.us
  slot := k
  nd := fun i => by
    rcases q i with e | e
    · rw [e]; exact h.nd i
    · rw [e]; exact List.nodup_nil
  dj := fun i j a ha hb => by
    have e1 : Fs' i = Fs i := (q i).resolve_right fun e => by rw [e] at ha; cases ha
    have e2 : Fs' j = Fs j := (q j).resolve_right fun e => by rw [e] at hb; cases hb
    rw [e1] at ha; rw [e2] at hb
    exact h.dj i j a ha hb
  fu := fun i a ha => by
    have e1 : Fs' i = Fs i := (q i).resolve_right fun e => by rw [e] at ha; cases ha
    rw [e1] at ha
    exact h.fu i a ha
theorem back_get {st0 stb : Env0} : ∀ {own : List Nat} {i : Nat} {ov : OV}, (own.foldr (fun i s => s.set i (eBack st0 i)) stb)[i]? = some (some ov) → (i ∉ own ∧ stb[i]? = some (some ov)) ∨ (i ∈ own ∧ eBack st0 i = some ov)
  | [], i, ov, h => .inl ⟨by simp, h⟩
  | j :: own, i, ov, h => by
    rw [List.foldr_cons] at h
    by_cases e : j = i
    · subst e
      by_cases hj : j < (own.foldr (fun i s => s.set i (eBack st0 i)) stb).length
      · rw [List.getElem?_set_self hj] at h; exact .inr ⟨by simp, Option.some.inj h⟩
      · rw [List.getElem?_eq_none (by simpa using hj)] at h; cases h
    · rw [List.getElem?_set_ne e] at h
      rcases back_get h with ⟨h1, h2⟩ | ⟨h1, h2⟩
      · exact .inl ⟨by simp only [List.mem_cons, not_or]; exact ⟨fun z => e z.symm, h1⟩, h2⟩
      · exact .inr ⟨List.mem_cons_of_mem _ h1, h2⟩
theorem back_len {st0 stb : Env0} : ∀ {own : List Nat}, (own.foldr (fun i s => s.set i (eBack st0 i)) stb).length = stb.length
  | [] => rfl
  | j :: own => by rw [List.foldr_cons, List.length_set, back_len]
abbrev eM (K : Fg) (n : Nat) (fx : List Nat) (T : List Addr) : Md K (eO n fx) where
  R := fun st Hs U σ H => ∃ Fs, ER K n T st Hs U σ H Fs
  sub := fun ⟨_, h⟩ => h.sb
  own := fun ⟨_, h⟩ u => let ⟨e, xs, q⟩ := h.us _ u; ⟨e, _, q, trivial, fun _ z => by cases z⟩
  move := fun ⟨Fs, h⟩ s sb k tb => ⟨Fs, h.move s sb k tb⟩
  get_ok := fun {st Hs U σ H i pv} ⟨Fs, h⟩ e => by
    simp only [eO, eGet] at e
    split at e
    · rename_i v e2
      cases e
      obtain ⟨w, e1, r⟩ := h.slot i _ e2
      simp only [OR] at r
      exact ⟨w, e1, r.2⟩
    · cases e
  set_ok := fun {st Hs U σ H i pv v} ⟨Fs, h⟩ hw r => by
    simp only [eO, Bool.and_eq_true] at hw
    exact ⟨_, h.putp (of_decide_eq_true hw.1) r⟩
  clr_ok := fun {st Hs U σ H own} ⟨Fs, h⟩ hw => by
    refine ⟨Fs, h.slots (by simp only [eO]; rw [clr_len]; exact h.l1) (by rw [wipe_length]; exact h.l2) (fun i ov e => ?_) fun i => .inl rfl⟩
    simp only [eO] at e
    obtain ⟨e1, e2⟩ := clr_get e
    obtain ⟨w, e3, r1⟩ := h.slot i ov e1
    exact ⟨w, by rw [wipe_keep e2]; exact e3, r1⟩
  leave_ok := fun {st0 Hs0 U0 σ H0 stb Hs' U' H' own} ⟨F0, h⟩ ⟨F1, h'⟩ s hw => by
    refine ⟨fun i => if i ∈ own then [] else F1 i, h'.slots (by simp only [eO]; rw [back_len]; exact h'.l1) h.l2 (fun i ov e => ?_) fun i => ?_⟩
    · simp only [eO] at e
      rcases back_get e with ⟨h1, h2⟩ | ⟨h1, h2⟩
      · obtain ⟨w, e3, r1⟩ := h'.slot i ov h2
        rw [wipe_keep h1] at e3
        rw [if_neg h1]
        exact ⟨w, e3, r1⟩
      · unfold eBack at h2
        split at h2
        · rename_i v e2
          cases h2
          obtain ⟨w, e1, r⟩ := h.slot i _ e2
          simp only [OR] at r
          rw [if_pos h1]
          exact ⟨w, e1, or_p (Rep.mono s _ w r.2)⟩
        · cases h2
    · by_cases z : i ∈ own
      · rw [if_pos z]; exact .inr rfl
      · rw [if_neg z]; exact .inl rfl

/-! ### from the pure mode into a body's -/
def persE (st : Env0) : PE0 := st.map fun x => match x with
  | some (.p v) => some v
  | _ => none
def viewE (st : Env0) : PE0 := st.map fun x => match x with
  | some ov => some (toPV ov)
  | none => none
mutual
/-- no list, no dict within -/
def lf : PV → Bool
  | .list _ => false
  | .dict _ => false
  | .tuple l => lfs l
  | _ => true
def lfs : List PV → Bool
  | [] => true
  | p :: l => lf p && lfs l
end
def mP {α : Type} (m : M PE0 α) : M Env0 α := fun st => match m (persE st) with
  | none => none
  | some (v, _) => some (v, st)
def mV (m : M PE0 PV) : M Env0 PV := fun st => match m (viewE st) with
  | none => none
  | some (v, _) => if lf v = true then some (v, st) else none
def mVT (m : M PE0 Bool) : M Env0 Bool := fun st => match m (viewE st) with
  | none => none
  | some (v, _) => some (v, st)
def mVs (m : M PE0 (List PV)) : M Env0 (List PV) := fun st => match m (viewE st) with
  | none => none
  | some (v, _) => if lfs v = true then some (v, st) else none

section
variable {K : Fg} {n : Nat} {T : List Addr} {fx : List Nat}
theorem pers_R {st : Env0} {Hs : Hp} {U : US} {σ : St} {H : Hp} (h : (eM K n fx T).R st Hs U σ H) : PR K n T (persE st) Hs U0 σ H := by
  obtain ⟨Fs, h⟩ := h
  refine ⟨h.sb, fun _ z => z, by simpa [persE] using h.l1, h.l2, fun i pv e => ?_, h.tabs⟩
  unfold persE at e
  rw [List.getElem?_map] at e
  cases q : st[i]? with
  | none => rw [q] at e; cases e
  | some x =>
    rw [q] at e
    cases x with
    | none => cases e
    | some ov =>
      cases ov with
      | p v =>
        cases e
        obtain ⟨w, e1, r⟩ := h.slot i _ q
        simp only [OR] at r
        exact ⟨w, e1, r.2⟩
      | l xs => cases e
/-- all that stands but the tables -/
def noT (H : Hp) : Hp := fun a => match H a with
  | some (.tbl _) => none
  | x => x
theorem noT_sb (H : Hp) : Sb (noT H) H := fun a o e => by
  unfold noT at e
  split at e
  · cases e
  · rename_i x h2
    refine ⟨?_, e⟩
    cases o with
    | tbl ps => exact absurd e (h2 ps)
    | _ => trivial
theorem noT_of {H : Hp} {a : Addr} {o : HO} (e : H a = some o) (n : NT o) : noT H a = some o := by
  unfold noT
  rw [e]
  cases o with
  | tbl ps => exact n.elim
  | _ => rfl
theorem sb_noT {Hs H : Hp} (h : Sb Hs H) : Same Hs (noT H) := fun a o e => noT_of (h a o e).2 (h a o e).1
theorem view_R {st : Env0} {Hs : Hp} {U : US} {σ : St} {H : Hp} (h : (eM K n fx T).R st Hs U σ H) : PR K n T (viewE st) (noT H) U0 σ H := by
  obtain ⟨Fs, h⟩ := h
  refine ⟨noT_sb H, fun _ z => z, by simpa [viewE] using h.l1, h.l2, fun i pv e => ?_, h.tabs⟩
  unfold viewE at e
  rw [List.getElem?_map] at e
  cases q : st[i]? with
  | none => rw [q] at e; cases e
  | some x =>
    rw [q] at e
    cases x with
    | none => cases e
    | some ov =>
      cases e
      obtain ⟨w, e1, r⟩ := h.slot i _ q
      refine ⟨w, e1, OR.view (sb_noT h.sb) ov w _ (fun a ha u e => ?_) r⟩
      obtain ⟨xs, e2⟩ := OR.isl ov w _ r a ha
      rw [e2] at e; cases e
      exact noT_of e2 trivial
/-- Hs and the tuples of H, and what is new in H' -/
def frz (Hs H H' : Hp) : Hp := fun a => match Hs a with
  | some o => some o
  | none => match H a with
    | none => noT H' a
    | some (.tup xs) => some (.tup xs)
    | some _ => none
theorem frz_same (Hs H H' : Hp) : Same Hs (frz Hs H H') := fun a o e => by
  unfold frz; rw [e]
theorem frz_new {Hs H H' : Hp} {a : Addr} {o : HO} (sb : Sb Hs H) (e : H a = none) (e' : H' a = some o) (n : NT o) : frz Hs H H' a = some o := by
  unfold frz
  rw [sb_none sb e, e]
  exact noT_of e' n
theorem frz_tup {Hs H H' : Hp} {a : Addr} {xs : List V} (sb : Sb Hs H) (e : H a = some (.tup xs)) : frz Hs H H' a = some (.tup xs) := by
  unfold frz
  cases q : Hs a with
  | none => rw [e]
  | some o => rw [(sb a o q).2] at e; exact e
theorem frz_sb {Hs H H' Hv : Hp} (sb : Sb Hs H) (s : Stp (noT H) U0 H Hv U0 H') : Sb (frz Hs H H') H' := fun a o e => by
  unfold frz at e
  split at e
  · rename_i u q
    cases e
    obtain ⟨n1, q2⟩ := sb a _ q
    exact ⟨n1, s.fr a _ q2 n1 (fun z => z)⟩
  · split at e
    · exact noT_sb H' a o e
    · rename_i xs q
      cases e
      exact ⟨trivial, s.fr a _ q trivial (fun z => z)⟩
    · cases e
mutual
theorem lf_rep {Hs H H' Hv : Hp} (sb : Sb Hs H) (sbv : Sb Hv H') (s : Stp (noT H) U0 H Hv U0 H') : ∀ (p : PV) (v : V), lf p = true → Rep K Hv p v → (∀ a o, Hs a = some o → Hv a = some o) → Rep K (frz Hs H H') p v
  | .none, v, h, r, _ => by simpa only [Rep] using r
  | .bool _, v, h, r, _ => by simpa only [Rep] using r
  | .int _, v, h, r, _ => by simpa only [Rep] using r
  | .str _, v, h, r, _ => by simpa only [Rep] using r
  | .list _, v, h, r, _ => by simp [lf] at h
  | .dict _, v, h, r, _ => by simp [lf] at h
  | .tuple l, v, h, r, k => by
    obtain ⟨a, xs, rfl, q, rs⟩ := rep_tup r
    refine mk_tup ?_ (lfs_rep sb sbv s l xs (by simpa only [lf] using h) rs k)
    rcases q with q | q
    · have q2 := (sbv a _ q).2
      rcases s.tp a xs q2 with e | e
      · exact .inl (frz_new sb e q2 trivial)
      · exact .inl (frz_tup sb e)
    · exact .inr q
theorem lfs_rep {Hs H H' Hv : Hp} (sb : Sb Hs H) (sbv : Sb Hv H') (s : Stp (noT H) U0 H Hv U0 H') : ∀ (l : List PV) (xs : List V), lfs l = true → Reps K Hv l xs → (∀ a o, Hs a = some o → Hv a = some o) → Reps K (frz Hs H H') l xs
  | [], xs, h, r, _ => by simpa only [Reps] using r
  | p :: l, xs, h, r, k => by
    simp only [lfs, Bool.and_eq_true] at h
    simp only [Reps] at r
    obtain ⟨x, xr, rfl, h1, h2⟩ := r
    exact .cons (lf_rep sb sbv s p x h.1 h1 k) (lfs_rep sb sbv s l xr h.2 h2 k)
end
theorem Stp.nouse {Hs Hs' H H' : Hp} {U U' : US} (s : Stp Hs U H Hs' U' H') : Stp Hs U H Hs' U0 H' := ⟨s.hs, s.fr, s.tb, s.ex, fun _ z => z.elim, s.an, s.tp⟩
/-- behind a run that saw all: what was held is held -/
theorem view_back {st : Env0} {Hs Hv : Hp} {U : US} {σ : St} {H H' : Hp} (h : (eM K n fx T).R st Hs U σ H) (s : Stp (noT H) U0 H Hv U0 H') : (eM K n fx T).R st (frz Hs H H') U σ H' ∧ Stp Hs U H (frz Hs H H') U H' := by
  have sb := (eM K n fx T).sub h
  refine ⟨(eM K n fx T).move h (frz_same _ _ _) (frz_sb sb s) (fun a u => ?_) s.tb, ⟨frz_same _ _ _, fun a o e nt _ => s.fr a o e nt (fun z => z), s.tb, s.ex, fun _ u => .inl u, fun a o e => ?_, s.tp⟩⟩
  · obtain ⟨e1, w, e2, e3, e4⟩ := (eM K n fx T).own h u
    refine ⟨?_, fun x e => ?_⟩
    · unfold frz
      rw [e1, e2]
      cases w with
      | tup xs => exact absurd rfl (e4 xs)
      | _ => rfl
    · rw [e2] at e; cases e
      exact s.fr a w e2 e3 (fun z => z)
  · unfold frz at e
    split at e
    · rename_i u q
      cases e; exact .inl q
    · split at e
      · rename_i q; exact .inr (.inl q)
      · rename_i xs q; cases e; exact .inr (.inr (.inl ⟨xs, rfl, q⟩))
      · cases e
end
mutual
theorem lf_out {K : Fg} {Ha Hb : Hp} {D : Addr} : ∀ {p : PV} {v : V}, lf p = true → Rep K Ha p v → (∀ a xs, a ≠ D → Ha a = some (.tup xs) → Hb a = some (.tup xs)) → (∀ xs, Ha D ≠ some (.tup xs)) → Rep K Hb p v
  | .none, v, h, r, _, _ => by simpa only [Rep] using r
  | .bool _, v, h, r, _, _ => by simpa only [Rep] using r
  | .int _, v, h, r, _, _ => by simpa only [Rep] using r
  | .str _, v, h, r, _, _ => by simpa only [Rep] using r
  | .list _, v, h, r, _, _ => by simp [lf] at h
  | .dict _, v, h, r, _, _ => by simp [lf] at h
  | .tuple l, v, h, r, k, k2 => by
    obtain ⟨a, xs, rfl, q, rs⟩ := rep_tup r
    refine mk_tup ?_ (lfs_out (by simpa only [lf] using h) rs k k2)
    rcases q with q | q
    · exact .inl (k a xs (fun z => by subst z; exact k2 xs q) q)
    · exact .inr q
theorem lfs_out {K : Fg} {Ha Hb : Hp} {D : Addr} : ∀ {l : List PV} {xs : List V}, lfs l = true → Reps K Ha l xs → (∀ a xs, a ≠ D → Ha a = some (.tup xs) → Hb a = some (.tup xs)) → (∀ xs, Ha D ≠ some (.tup xs)) → Reps K Hb l xs
  | [], xs, h, r, _, _ => by simpa only [Reps] using r
  | p :: l, xs, h, r, k, k2 => by
    simp only [lfs, Bool.and_eq_true] at h
    simp only [Reps] at r
    obtain ⟨x, xr, rfl, h1, h2⟩ := r
    exact .cons (lf_out h.1 h1 k k2) (lfs_out h.2 h2 k k2)
end
section
variable {X : Cx} {n : Nat} {T : List Addr} {fx : List Nat}
theorem tP_ok {m : M PE0 PV} (σ : St) (H : Hp) (Q : VK) (h : tG (eM X.K n fx T) (mP m) σ H Q) : tG (pM X.K n T) m σ H Q := by
  obtain ⟨Hs, U, st, pv, st', hR, hm, k⟩ := h
  unfold mP at hm
  split at hm
  · cases hm
  · rename_i v st1 e
    cases hm
    refine ⟨Hs, U0, persE st, pv, st1, pers_R hR, e, fun w Hs' U' H' r s p => ?_⟩
    exact k w Hs' U H' ((eM X.K n fx T).grow hR ⟨s.nouse, r.sb⟩) (s.nouse.lift U) p
theorem tV_ok {m : M PE0 PV} (σ : St) (H : Hp) (Q : VK) (h : tG (eM X.K n fx T) (mV m) σ H Q) : tG (pM X.K n T) m σ H Q := by
  obtain ⟨Hs, U, st, pv, st', hR, hm, k⟩ := h
  unfold mV at hm
  split at hm
  · cases hm
  · rename_i v st1 e
    split at hm
    · rename_i hl
      cases hm
      refine ⟨noT H, U0, viewE st, pv, st1, view_R hR, e, fun w Hv U' H' r s p => ?_⟩
      obtain ⟨b1, b2⟩ := view_back hR s.nouse
      exact k w _ U H' b1 b2 (lf_rep ((eM X.K n fx T).sub hR) r.sb s.nouse pv w hl p (fun a o e => s.hs a o (sb_noT ((eM X.K n fx T).sub hR) a o e)))
    · cases hm
theorem tVT_ok {m : M PE0 Bool} (σ : St) (H : Hp) (Q : Bool → Hp → Prop) (h : tGT (eM X.K n fx T) (mVT m) σ H Q) : tGT (pM X.K n T) m σ H Q := by
  obtain ⟨Hs, U, st, pv, st', hR, hm, k⟩ := h
  unfold mVT at hm
  split at hm
  · cases hm
  · rename_i v st1 e
    cases hm
    refine ⟨noT H, U0, viewE st, pv, st1, view_R hR, e, fun Hv U' H' r s => ?_⟩
    obtain ⟨b1, b2⟩ := view_back hR s.nouse
    exact k _ U H' b1 b2
theorem tVs_ok {m : M PE0 (List PV)} (σ : St) (H : Hp) (Q : List V → Hp → Prop) (h : tGA (eM X.K n fx T) (mVs m) σ H Q) : tGA (pM X.K n T) m σ H Q := by
  obtain ⟨Hs, U, st, pv, st', hR, hm, k⟩ := h
  unfold mVs at hm
  split at hm
  · cases hm
  · rename_i v st1 e
    split at hm
    · rename_i hl
      cases hm
      refine ⟨noT H, U0, viewE st, pv, st1, view_R hR, e, fun w Hv U' H' r s p => ?_⟩
      obtain ⟨b1, b2⟩ := view_back hR s.nouse
      exact k w _ U H' b1 b2 (lfs_rep ((eM X.K n fx T).sub hR) r.sb s.nouse pv w hl p (fun a o e => s.hs a o (sb_noT ((eM X.K n fx T).sub hR) a o e)))
    · cases hm
theorem e_P {e : Expr} {m : M PE0 PV} (h : PE X e (tG (pM X.K n T) m)) : PE X e (tG (eM X.K n fx T) (mP m)) := peImp h tP_ok
theorem e_V {e : Expr} {m : M PE0 PV} (h : PE X e (tG (pM X.K n T) m)) : PE X e (tG (eM X.K n fx T) (mV m)) := peImp h tV_ok
theorem e_VT {e : Expr} {m : M PE0 Bool} (h : PT X e (tGT (pM X.K n T) m)) : PT X e (tGT (eM X.K n fx T) (mVT m)) := ptImp h tVT_ok
theorem e_Vs {es : List Expr} {m : M PE0 (List PV)} (h : PA X es (tGA (pM X.K n T) m)) : PA X es (tGA (eM X.K n fx T) (mVs m)) := paImp h tVs_ok

/-! ### expressions whose value is owned by whoever gets it -/
def OwnR (K : Fg) (ov : OV) (v : V) (F : List Addr) (Hs : Hp) (U : US) (H : Hp) : Prop := OR K H Hs ov v F ∧ F.Nodup ∧ ∀ a ∈ F, ¬ U a ∧ Hs a = none
def tO (K : Fg) (n : Nat) (fx : List Nat) (T : List Addr) (m : M Env0 OV) : TE := fun σ H Q => ∃ Hs U st ov st', (eM K n fx T).R st Hs U σ H ∧ m st = some (ov, st') ∧
  ∀ v F Hs' U' H', (eM K n fx T).R st' Hs' U' σ H' → Stp Hs U H Hs' (fun a => U' a ∨ a ∈ F) H' → OwnR K ov v F Hs' U' H' → Q v H'
theorem own_p {K : Fg} {pv : PV} {v : V} {Hs : Hp} {U : US} {H : Hp} (r : Rep K Hs pv v) : OwnR K (.p pv) v [] Hs U H := ⟨or_p r, List.nodup_nil, fun a z => by cases z⟩
theorem stp_nil {Hs Hs' H H' : Hp} {U U' : US} (s : Stp Hs U H Hs' U' H') : Stp Hs U H Hs' (fun a => U' a ∨ a ∈ ([] : List Addr)) H' := ⟨s.hs, s.fr, s.tb, s.ex, fun a u => s.uu a (u.resolve_right (by simp)), s.an, s.tp⟩
def mO (m : M Env0 PV) : M Env0 OV := bnd m fun v => ret (.p v)
theorem o_of {e : Expr} {m : M Env0 PV} (h : PE X e (tG (eM X.K n fx T) m)) : PE X e (tO X.K n fx T (mO m)) := by
  refine peImp h fun σ H Q ⟨Hs, U, st, ov, st', hR, hm, k⟩ => ?_
  refine tG_seq hR hm fun x st1 v Hs1 U1 H1 e1 e2 r1 s1 p1 => ?_
  obtain ⟨rfl, rfl⟩ := ret_some e2
  exact k v [] Hs1 U1 H1 r1 (stp_nil s1) (own_p p1)
/-- a new list's reading -/
def tF {K : Fg} {S : Type} {o : Ops S} (md : Md K o) (m : M S (List PV)) : TE := fun σ H Q => ∃ Hs U st l st', md.R st Hs U σ H ∧ m st = some (l, st') ∧
  ∀ D xs Hs' U' H', md.R st' Hs' U' σ H' → Stp Hs U H Hs' U' H' → H' D = some (.lst xs) → Hs' D = none → ¬ U' D → H D = none → Reps K Hs' l xs → Q (.ref D) H'
theorem same_upd' {Hs : Hp} {D : Addr} {u : HO} (h : Hs D = none) : Same Hs (upd Hs D u) := fun a x e => by
  rw [upd_ne (fun z => by subst z; rw [h] at e; cases e)]; exact e
theorem tF_G {S : Type} {o : Ops S} {md : Md X.K o} {m : M S (List PV)} (σ : St) (H : Hp) (Q : VK) (h : tG md (bnd m fun l => ret (.list l)) σ H Q) : tF md m σ H Q := by
  obtain ⟨Hs, U, st, pv, st', hR, hm, k⟩ := h
  obtain ⟨l, st1, e1, e2⟩ := bnd_some hm
  obtain ⟨rfl, rfl⟩ := ret_some e2
  refine ⟨Hs, U, st, l, st', hR, e1, fun D xs Hs' U' H' r s hd hsd hu hn hr => ?_⟩
  exact k _ _ U' H' (md_keep md r hd trivial hsd hu) (stp_keep s hn hsd) (mk_lst (.inl upd_same) (Reps.mono (same_upd' hsd) l xs hr))
def mFL (m : M Env0 (List PV)) : M Env0 OV := bnd m fun l => ret (.l (l.map .p))
def mFLV (m : M PE0 (List PV)) : M Env0 OV := fun st => match m (viewE st) with
  | none => none
  | some (l, _) => if lfs l = true then some (.l (l.map .p), st) else none
def mFLP (m : M PE0 (List PV)) : M Env0 OV := fun st => match m (persE st) with
  | none => none
  | some (l, _) => some (.l (l.map .p), st)
theorem own_D {K : Fg} {l : List PV} {xs : List V} {D : Addr} {Hs : Hp} {U : US} {H : Hp} (hd : H D = some (.lst xs)) (hsd : Hs D = none) (hu : ¬ U D) (hr : Reps K Hs l xs) : OwnR K (.l (l.map .p)) (.ref D) [D] Hs U H := by
  refine ⟨or_l hd hr, by simp, fun a ha => ?_⟩
  have : a = D := by simpa using ha
  subst this
  exact ⟨hu, hsd⟩
theorem stp_D {Hs Hs' H H' : Hp} {U U' : US} {D : Addr} (s : Stp Hs U H Hs' U' H') (hn : H D = none) : Stp Hs U H Hs' (fun a => U' a ∨ a ∈ [D]) H' := ⟨s.hs, s.fr, s.tb, s.ex, fun a u => by
  rcases u with u | u
  · exact s.uu a u
  · have : a = D := by simpa using u
    subst this; exact .inr hn, s.an, s.tp⟩
theorem tF_O {m : M Env0 (List PV)} (σ : St) (H : Hp) (Q : VK) (h : tO X.K n fx T (mFL m) σ H Q) : tF (eM X.K n fx T) m σ H Q := by
  obtain ⟨Hs, U, st, pv, st', hR, hm, k⟩ := h
  obtain ⟨l, st1, e1, e2⟩ := bnd_some hm
  obtain ⟨rfl, rfl⟩ := ret_some e2
  refine ⟨Hs, U, st, l, st', hR, e1, fun D xs Hs' U' H' r s hd hsd hu hn hr => ?_⟩
  exact k _ [D] Hs' U' H' r (stp_D s hn) (own_D hd hsd hu hr)
theorem tF_OP {m : M PE0 (List PV)} (σ : St) (H : Hp) (Q : VK) (h : tO X.K n fx T (mFLP m) σ H Q) : tF (pM X.K n T) m σ H Q := by
  obtain ⟨Hs, U, st, ov, st', hR, hm, k⟩ := h
  unfold mFLP at hm
  split at hm
  · cases hm
  · rename_i l st1 e
    cases hm
    refine ⟨Hs, U0, persE st, l, st1, pers_R hR, e, fun D xs Hs' U' H' r s hd hsd hu hn hr => ?_⟩
    have g := (eM X.K n fx T).grow hR ⟨s.nouse, r.sb⟩
    have nU : ¬ U D := fun u => by
      obtain ⟨_, w, e, _⟩ := (eM X.K n fx T).own hR u
      rw [hn] at e; cases e
    exact k _ [D] Hs' U H' g (stp_D (s.nouse.lift U) hn) (own_D hd hsd nU hr)
theorem tF_OV {m : M PE0 (List PV)} (σ : St) (H : Hp) (Q : VK) (h : tO X.K n fx T (mFLV m) σ H Q) : tF (pM X.K n T) m σ H Q := by
  obtain ⟨Hs, U, st, ov, st', hR, hm, k⟩ := h
  unfold mFLV at hm
  split at hm
  · cases hm
  · rename_i l st1 e
    split at hm
    · rename_i hl
      cases hm
      refine ⟨noT H, U0, viewE st, l, st1, view_R hR, e, fun D xs Hv U' H' r s hd hsd hu hn hr => ?_⟩
      obtain ⟨b1, b2⟩ := view_back hR s.nouse
      have sb := (eM X.K n fx T).sub hR
      have nU : ¬ U D := fun u => by
        obtain ⟨_, w, e, _⟩ := (eM X.K n fx T).own hR u
        rw [hn] at e; cases e
      -- D is not yet relied upon: leave it out
      have hout : ∀ a, (fun a => if a = D then none else frz Hs H H' a) a = if a = D then none else frz Hs H H' a := fun _ => rfl
      refine k _ [D] (fun a => if a = D then none else frz Hs H H' a) U H' ?_ (stp_D ?_ hn) (own_D hd (by simp) nU ?_)
      · refine (eM X.K n fx T).move hR (fun a o e => ?_) (fun a o e => ?_) (fun a u => ?_) s.tb
        · have hne : a ≠ D := fun z => by subst z; rw [(sb a o e).2] at hn; cases hn
          show (if a = D then none else frz Hs H H' a) = some o
          rw [if_neg hne]; exact frz_same _ _ _ a o e
        · have e : (if a = D then none else frz Hs H H' a) = some o := e
          split at e
          · cases e
          · exact frz_sb sb s.nouse a o e
        · obtain ⟨e1, w, e2, e3, e4⟩ := (eM X.K n fx T).own hR u
          refine ⟨?_, fun x e => ?_⟩
          · show (if a = D then none else frz Hs H H' a) = none
            split
            · rfl
            · unfold frz
              rw [e1, e2]
              cases w with
              | tup xs => exact absurd rfl (e4 xs)
              | _ => rfl
          · rw [e2] at e; cases e
            exact s.fr a w e2 e3 (fun z => z)
      · refine ⟨fun a o e => ?_, b2.fr, b2.tb, b2.ex, b2.uu, fun a o e => ?_, b2.tp⟩
        · have hne : a ≠ D := fun z => by subst z; rw [(sb a o e).2] at hn; cases hn
          show (if a = D then none else frz Hs H H' a) = some o
          rw [if_neg hne]; exact frz_same _ _ _ a o e
        · have e : (if a = D then none else frz Hs H H' a) = some o := e
          split at e
          · cases e
          · exact b2.an a o e
      · -- the items do not lean on D
        have key : ∀ (Hx : Hp), Sb Hx H' → Hx D = none → Stp (noT H) U0 H Hx U0 H' → Reps X.K Hx l xs → Reps X.K (fun a => if a = D then none else frz Hs H H' a) l xs := fun Hx sbx hx sx rx => by
          have q := lfs_rep sb sbx sx l xs hl rx (fun a o e => sx.hs a o (sb_noT sb a o e))
          exact lfs_out hl q (fun a xs2 hne e => by
            show (if a = D then none else frz Hs H H' a) = _
            rw [if_neg hne]; exact e) (fun xs2 e => by
              have := (frz_sb sb sx D _ e).2
              rw [hd] at this; cases this)
        exact key Hv r.sb hsd s.nouse hr
    · cases hm
end
end L3

set_option Elab.async false
set_option linter.all false
set_option maxRecDepth 100000
namespace L3
open PySem PySem.Spec
open PyProof.Rows hiding St
open L2

inductive Fl where
  | nx
  | rt (v : OV)
  | bk
  | ct
abbrev SM := Env0 → Option (Fl × Env0)
def FxEq (fx : List Nat) (σ σ' : St) : Prop := ∀ k ∈ fx, σ'[k]? = σ[k]?
theorem FxEq.refl (fx : List Nat) (σ : St) : FxEq fx σ σ := fun _ _ => rfl
theorem FxEq.trans {fx : List Nat} {σ σ1 σ2 : St} (a : FxEq fx σ σ1) (b : FxEq fx σ1 σ2) : FxEq fx σ σ2 := fun k h => (b k h).trans (a k h)
def FinS (K : Fg) (n : Nat) (fx : List Nat) (T : List Addr) (fl : Fl) (st' : Env0) (Hs : Hp) (U : US) (H : Hp) (D : Ends) (σ : St) : Prop := match fl with
  | .nx => ∀ σ' Hs' U' H', FxEq fx σ σ' → (eM K n fx T).R st' Hs' U' σ' H' → Stp Hs U H Hs' U' H' → D.nx σ' H'
  | .bk => ∀ σ' Hs' U' H', FxEq fx σ σ' → (eM K n fx T).R st' Hs' U' σ' H' → Stp Hs U H Hs' U' H' → D.bk σ' H'
  | .ct => ∀ σ' Hs' U' H', FxEq fx σ σ' → (eM K n fx T).R st' Hs' U' σ' H' → Stp Hs U H Hs' U' H' → D.ct σ' H'
  | .rt ov => ∀ σ' v F Hs' U' H', FxEq fx σ σ' → (eM K n fx T).R st' Hs' U' σ' H' → Stp Hs U H Hs' (fun a => U' a ∨ a ∈ F) H' → OwnR K ov v F Hs' U' H' → D.rt v H'
theorem FinS.pre {K : Fg} {n : Nat} {fx : List Nat} {T : List Addr} {fl : Fl} {st' : Env0} {Hs Hs1 : Hp} {U U1 : US} {H H1 : Hp} {D : Ends} {σ σ1 : St} (h : FinS K n fx T fl st' Hs U H D σ) (f : FxEq fx σ σ1) (s : Stp Hs U H Hs1 U1 H1) : FinS K n fx T fl st' Hs1 U1 H1 D σ1 := by
  cases fl with
  | nx => exact fun σ' Hs' U' H' f' r s' => h σ' Hs' U' H' (f.trans f') r (s.trans s')
  | bk => exact fun σ' Hs' U' H' f' r s' => h σ' Hs' U' H' (f.trans f') r (s.trans s')
  | ct => exact fun σ' Hs' U' H' f' r s' => h σ' Hs' U' H' (f.trans f') r (s.trans s')
  | rt ov => exact fun σ' v F Hs' U' H' f' r s' => h σ' v F Hs' U' H' (f.trans f') r (s.trans s')
/-- a statement's reading by a mirror -/
def tS (K : Fg) (n : Nat) (fx : List Nat) (T : List Addr) (m : SM) : TS := fun D σ H => ∃ Hs U st fl st', (eM K n fx T).R st Hs U σ H ∧ m st = some (fl, st') ∧ FinS K n fx T fl st' Hs U H D σ

def sNx : SM := fun st => some (.nx, st)
def sBk : SM := fun st => some (.bk, st)
def sCt : SM := fun st => some (.ct, st)
def sSeq (a b : SM) : SM := fun st => match a st with
  | none => none
  | some (.nx, st1) => b st1
  | some (.bk, st1) => some (.bk, st1)
  | some (.ct, st1) => some (.ct, st1)
  | some (.rt v, st1) => some (.rt v, st1)
def sIf (c : M Env0 Bool) (a b : SM) : SM := fun st => match c st with
  | none => none
  | some (true, st1) => a st1
  | some (false, st1) => b st1
def sRet (m : M Env0 OV) : SM := fun st => match m st with
  | none => none
  | some (v, st1) => some (.rt v, st1)
def sExpr (m : M Env0 PV) : SM := fun st => match m st with
  | none => none
  | some (_, st1) => some (.nx, st1)
def sSet (o : Ops Env0) (i : Nat) (m : M Env0 OV) : SM := fun st => match m st with
  | none => none
  | some (v, st1) => if o.wr i = true then some (.nx, st1.set i (some v)) else none
def sAsg (o : Ops Env0) (tg : Tg) (m : M Env0 PV) : SM := fun st => match m st with
  | none => none
  | some (v, st1) => match setT o tg v st1 with
    | none => none
    | some st2 => some (.nx, st2)
def sPar (o : Ops Env0) (i j : Nat) (ms : M Env0 (List PV)) : SM := fun st => match ms st with
  | some ([v, w], st1) => if o.wr i = true ∧ o.wr j = true then some (.nx, o.set (o.set st1 i v) j w) else none
  | _ => none
def forL (o : Ops Env0) (tg : Tg) (body : SM) : List PV → SM
  | [], st => some (.nx, st)
  | p :: l, st => match setT o tg p st with
    | none => none
    | some st1 => match body st1 with
      | none => none
      | some (.nx, st2) => forL o tg body l st2
      | some (.ct, st2) => forL o tg body l st2
      | some (.bk, st2) => some (.nx, st2)
      | some (.rt v, st2) => some (.rt v, st2)
def sFor (o : Ops Env0) (tg : Tg) (mi : M Env0 (List PV)) (body : SM) : SM := fun st => match mi st with
  | none => none
  | some (l, st1) => forL o tg body l st1
def whileL (c : M Env0 Bool) (body : SM) : Nat → SM
  | 0, _ => none
  | k + 1, st => match c st with
    | none => none
    | some (false, st1) => some (.nx, st1)
    | some (true, st1) => match body st1 with
      | none => none
      | some (.nx, st2) => whileL c body k st2
      | some (.ct, st2) => whileL c body k st2
      | some (.bk, st2) => some (.nx, st2)
      | some (.rt v, st2) => some (.rt v, st2)
/-- x.append(e), x[k] = e, x[k] op= e: x owned in slot i -/
def getL (st : Env0) (i : Nat) : Option (List OV) := match st[i]? with
  | some (some (.l xs)) => some xs
  | _ => none
def sApp (i : Nat) (m : M Env0 OV) : SM := fun st => match getL st i with
  | none => none
  | some _ => match m st with
    | none => none
    | some (v, st1) => match getL st1 i with
      | some xs => if xs.length ≤ LIM then some (.nx, st1.set i (some (.l (xs ++ [v])))) else none
      | none => none
def ixP (n : Nat) : PV → Option Nat
  | .int k => if 0 ≤ k then (if k.toNat < n then some k.toNat else none) else (if -k ≤ n then some (n - (-k).toNat) else none)
  | _ => none
def sSetI (i : Nat) (m : M Env0 OV) (mk : M Env0 PV) : SM := fun st => match m st with
  | none => none
  | some (v, st1) => match getL st1 i with
    | none => none
    | some _ => match mk st1 with
      | none => none
      | some (k, st2) => match getL st2 i with
        | some xs => match ixP xs.length k with
          | some j => some (.nx, st2.set i (some (.l (xs.set j v))))
          | none => none
        | none => none
def sAug (o : Ops Env0) (i : Nat) (F : PV → PV → Option PV) (m : M Env0 PV) : SM := fun st => match eGet st i with
  | none => none
  | some x => match m st with
    | none => none
    | some (y, st1) => match F x y with
      | none => none
      | some z => if o.wr i = true then some (.nx, o.set st1 i z) else none

section
variable {X : Cx} {n : Nat} {T : List Addr} {fx : List Nat} {a b : Stmt} {as bs : List Stmt} {ma mb : SM} {pos : Pos} {e : Expr}
theorem tgt_set {K : Fg} {tg : Tg} {p : PV} {st st' : Env0} (h : setT (eO n fx) tg p st = some st') : ∃ own : List Nat, TgIn tg own ∧ ∀ k ∈ fx, k ∉ own := by
  have hN : ∀ (is : List Nat) (l : List PV) (st : Env0), setN (eO n fx) is l st = some st' → ∀ k ∈ fx, k ∉ is := by
    intro is
    induction is with
    | nil => intro l st h k hk; simp
    | cons i is ih =>
      intro l st h k hk
      cases l with
      | nil => cases h
      | cons p l =>
        unfold setN at h
        split at h
        · rename_i hw
          simp only [eO, Bool.and_eq_true] at hw
          have h1 := ih _ _ h k hk
          simp only [List.mem_cons, not_or]
          refine ⟨fun z => ?_, h1⟩
          subst z
          have := hw.2
          simp at this
          exact this hk
        · cases h
  cases tg with
  | nm i =>
    unfold setT at h
    simp only at h
    split at h
    · rename_i hw
      simp only [eO, Bool.and_eq_true] at hw
      refine ⟨[i], by simp [TgIn], fun k hk => ?_⟩
      simp only [List.mem_singleton]
      rintro rfl
      have := hw.2
      simp at this
      exact this hk
    · cases h
  | tp is =>
    unfold setT at h
    simp only at h
    split at h
    · exact ⟨is, fun i hi => hi, hN is _ _ h⟩
    · cases h
theorem wr_fx {i : Nat} (hw : (eO n fx).wr i = true) : i < n ∧ i ∉ fx := by
  simp only [eO, Bool.and_eq_true] at hw
  exact ⟨of_decide_eq_true hw.1, by simpa using hw.2⟩
theorem fx_set {i : Nat} {v : Option V} {σ : St} (h : i ∉ fx) : FxEq fx σ (σ.set i v) := fun k hk => by
  rw [List.getElem?_set_ne]
  rintro rfl
  exact h hk

theorem ss_nil : PSs X [] (tS X.K n fx T sNx) := by
  refine pssImp pss_nil fun D σ H ⟨Hs, U, st, fl, st', hR, hm, k⟩ => ?_
  cases hm
  exact k _ _ _ _ (.refl _ _) hR (.refl _ _ _)
theorem tSeq_ok (D : Ends) (σ : St) (H : Hp) (h : tS X.K n fx T (sSeq ma mb) D σ H) : tSeq (tS X.K n fx T ma) (tS X.K n fx T mb) D σ H := by
  obtain ⟨Hs, U, st, fl, st', hR, hm, k⟩ := h
  unfold sSeq at hm
  split at hm
  · cases hm
  · rename_i st1 e1
    refine ⟨Hs, U, st, .nx, st1, hR, e1, fun σ1 Hs1 U1 H1 f1 r1 s1 => ?_⟩
    exact ⟨Hs1, U1, st1, fl, st', r1, hm, k.pre f1 s1⟩
  · rename_i st1 e1; cases hm
    exact ⟨Hs, U, st, _, _, hR, e1, k⟩
  · rename_i st1 e1; cases hm
    exact ⟨Hs, U, st, _, _, hR, e1, k⟩
  · rename_i v st1 e1; cases hm
    exact ⟨Hs, U, st, _, _, hR, e1, k⟩
theorem ss_cons (ha : PS X a (tS X.K n fx T ma)) (hb : PSs X as (tS X.K n fx T mb)) : PSs X (a :: as) (tS X.K n fx T (sSeq ma mb)) := pssImp (pss_cons ha hb) tSeq_ok
theorem ss_one (ha : PS X a (tS X.K n fx T ma)) : PSs X [a] (tS X.K n fx T ma) := pss_one ha
theorem s_pass : PS X (.Pass pos) (tS X.K n fx T sNx) := by
  refine psImp ps_pass fun D σ H ⟨Hs, U, st, fl, st', hR, hm, k⟩ => ?_
  cases hm
  exact k _ _ _ _ (.refl _ _) hR (.refl _ _ _)
theorem s_break : PS X (.Break pos) (tS X.K n fx T sBk) := by
  refine psImp ps_break fun D σ H ⟨Hs, U, st, fl, st', hR, hm, k⟩ => ?_
  cases hm
  exact k _ _ _ _ (.refl _ _) hR (.refl _ _ _)
theorem s_continue : PS X (.Continue pos) (tS X.K n fx T sCt) := by
  refine psImp ps_continue fun D σ H ⟨Hs, U, st, fl, st', hR, hm, k⟩ => ?_
  cases hm
  exact k _ _ _ _ (.refl _ _) hR (.refl _ _ _)
theorem s_doc {x : Str} {j : Option Nat} {pos' : Pos} {k} : PS X (.Expr (.Constant (.str x) k pos) pos') (tS X.K n fx T sNx) := by
  refine psImp ps_doc fun D σ H ⟨Hs, U, st, fl, st', hR, hm, k⟩ => ?_
  cases hm
  exact k _ _ _ _ (.refl _ _) hR (.refl _ _ _)
theorem s_if {c : Expr} {mc : M Env0 Bool} (hc : PT X c (tGT (eM X.K n fx T) mc)) (ha : PSs X as (tS X.K n fx T ma)) (hb : PSs X bs (tS X.K n fx T mb)) : PS X (.If c as bs pos) (tS X.K n fx T (sIf mc ma mb)) := by
  refine psImp (ps_if hc ha hb) fun D σ H ⟨Hs, U, st, fl, st', hR, hm, k⟩ => ?_
  unfold sIf at hm
  split at hm
  · cases hm
  · rename_i st1 e1
    exact ⟨Hs, U, st, true, st1, hR, e1, fun Hs1 U1 H1 r1 s1 => iteT ⟨Hs1, U1, st1, fl, st', r1, hm, k.pre (.refl _ _) s1⟩⟩
  · rename_i st1 e1
    exact ⟨Hs, U, st, false, st1, hR, e1, fun Hs1 U1 H1 r1 s1 => iteF ⟨Hs1, U1, st1, fl, st', r1, hm, k.pre (.refl _ _) s1⟩⟩
theorem s_ret {m : M Env0 OV} (h : PE X e (tO X.K n fx T m)) : PS X (.Return (some e) pos) (tS X.K n fx T (sRet m)) := by
  refine psImp (ps_ret h) fun D σ H ⟨Hs, U, st, fl, st', hR, hm, k⟩ => ?_
  unfold sRet at hm
  split at hm
  · cases hm
  · rename_i v st1 e1
    cases hm
    exact ⟨Hs, U, st, v, _, hR, e1, fun w F Hs1 U1 H1 r1 s1 o1 => k σ w F Hs1 U1 H1 (.refl _ _) r1 s1 o1⟩
theorem s_retN : PS X (.Return none pos) (tS X.K n fx T (fun st => some (.rt (.p .none), st))) := by
  refine psImp ps_retN fun D σ H ⟨Hs, U, st, fl, st', hR, hm, k⟩ => ?_
  cases hm
  exact k σ _ [] Hs U H (.refl _ _) hR (stp_nil (.refl _ _ _)) (own_p mk_none)
theorem s_expr {m : M Env0 PV} (h : PE X e (tG (eM X.K n fx T) m)) (hs : swapsWith e none pos.line X.env = pure false := by rfl) : PS X (.Expr e pos) (tS X.K n fx T (sExpr m)) := by
  refine psImp (ps_expr h hs) fun D σ H ⟨Hs, U, st, fl, st', hR, hm, k⟩ => ?_
  unfold sExpr at hm
  split at hm
  · cases hm
  · rename_i v st1 e1
    cases hm
    exact ⟨Hs, U, st, v, _, hR, e1, fun w Hs1 U1 H1 r1 s1 o1 => k σ Hs1 U1 H1 (.refl _ _) r1 s1⟩
/-- a name's store -/
theorem tAsg_set {te : TE} {i : Nat} {m : M Env0 OV} (hte : ∀ σ H Q, tO X.K n fx T m σ H Q → te σ H Q) (D : Ends) (σ : St) (H : Hp) (h : tS X.K n fx T (sSet (eO n fx) i m) D σ H) : tAsg te (gName i) D σ H := by
  obtain ⟨Hs, U, st, fl, st', hR, hm, k⟩ := h
  unfold sSet at hm
  split at hm
  · cases hm
  · rename_i v st1 e1
    split at hm
    · rename_i hw
      cases hm
      obtain ⟨hi, hf⟩ := wr_fx hw
      refine hte σ H _ ⟨Hs, U, st, v, st1, hR, e1, fun w F Hs1 U1 H1 r1 s1 o1 => ?_⟩
      obtain ⟨Fs, r1⟩ := r1
      exact k _ Hs1 _ H1 (fx_set hf) ⟨_, r1.put hi o1.1 o1.2.1 o1.2.2⟩ s1
    · cases hm
theorem s_set {i : Nat} {x : Str} {pos' : Pos} {m : M Env0 OV} (hN : X.N.Nodup) (hi : X.N[i]? = some x) (hx : Loc X.env.scope x) (he : PE X e (tO X.K n fx T m)) (hs : swapsWith e (some (.Name x pos')) pos.line X.env = pure false := by rfl) (hf : X.fn x = true ∨ X.env.scope.names.lookup x = some .local := by first | exact .inl rfl | exact .inr rfl | assumption) :
    PS X (.Assign [.Name x pos'] e pos) (tS X.K n fx T (sSet (eO n fx) i m)) := psImp (ps_set hN hi hx he hs hf) (tAsg_set fun _ _ _ h => h)
/-- x = [.. for ..] -/
theorem s_setLc {i : Nat} {y : Str} {py : Pos} {elt tg iter : Expr} {ifs : List Expr} {scope : Scope} {own : List (Str × Nat)} {spos : Pos} {mi : M Env0 (List PV)} {mt : M Env0 Bool} {me : M Env0 PV} {tt : Tg} (hc : X.calm = true) (hN : X.N.Nodup) (hy : X.N[i]? = some y) (hyl : X.env.scope.names.lookup y = some .local)
    (hsw : swapsWith (.ListComp elt [⟨tg, iter, ifs, 0⟩] scope pos) (some (.Name y py)) spos.line X.env = pure true) (hi : PI X tg iter (tI (eM X.K n fx T) mi)) (ok : BlkOk X.N X.env.scope scope own)
    (hg : ∀ (s : Shared) (H : Hp) (C : Addr) (cl : List (Str × Addr)) (fp : List Addr), PG (X.blk s H scope (compEnvC scope cl C X.env) fp) tg (tT (eM X.K n fx T) tt)) (ht : ∀ (s : Shared) (H : Hp) (C : Addr) (cl : List (Str × Addr)) (fp : List Addr), PTs (X.blk s H scope (compEnvC scope cl C X.env) fp) ifs (tGT (eM X.K n fx T) mt))
    (he : ∀ (s : Shared) (H : Hp) (C : Addr) (cl : List (Str × Addr)) (fp : List Addr), PE (X.blk s H scope (compEnvC scope cl C X.env) fp) elt (tG (eM X.K n fx T) me)) (hs : ∀ x, foldedSetIterable iter X.env x = pure x := by intro _; rfl) :
    PS X (.Assign [.Name y py] (.ListComp elt [⟨tg, iter, ifs, 0⟩] scope pos) spos) (tS X.K n fx T (sSet (eO n fx) i (mFL (mLcC (eO n fx) (own.map (·.2)) tt mi mt me)))) := by
  refine psImp (ps_setLc hc hN hy hyl hsw hi ok hg ht he hs) (tAsg_set fun σ H Q h => ?_)
  obtain ⟨Hs, U, st, l, st', hR, hm, k⟩ := tF_O σ H Q h
  exact tLc_core (fun _ _ _ h => h) (fun _ _ _ _ h => h) (fun _ _ _ h => h) (fun _ _ _ h => h) hR hm k
/-- the same, where no slot that owns anything is read -/
theorem s_setLcP {i : Nat} {y : Str} {py : Pos} {elt tg iter : Expr} {ifs : List Expr} {scope : Scope} {own : List (Str × Nat)} {spos : Pos} {mi : M PE0 (List PV)} {mt : M PE0 Bool} {me : M PE0 PV} {tt : Tg} (hc : X.calm = true) (hN : X.N.Nodup) (hy : X.N[i]? = some y) (hyl : X.env.scope.names.lookup y = some .local)
    (hsw : swapsWith (.ListComp elt [⟨tg, iter, ifs, 0⟩] scope pos) (some (.Name y py)) spos.line X.env = pure true) (hi : PI X tg iter (tI (pM X.K n T) mi)) (ok : BlkOk X.N X.env.scope scope own)
    (hg : ∀ (s : Shared) (H : Hp) (C : Addr) (cl : List (Str × Addr)) (fp : List Addr), PG (X.blk s H scope (compEnvC scope cl C X.env) fp) tg (tT (pM X.K n T) tt)) (ht : ∀ (s : Shared) (H : Hp) (C : Addr) (cl : List (Str × Addr)) (fp : List Addr), PTs (X.blk s H scope (compEnvC scope cl C X.env) fp) ifs (tGT (pM X.K n T) mt))
    (he : ∀ (s : Shared) (H : Hp) (C : Addr) (cl : List (Str × Addr)) (fp : List Addr), PE (X.blk s H scope (compEnvC scope cl C X.env) fp) elt (tG (pM X.K n T) me)) (hs : ∀ x, foldedSetIterable iter X.env x = pure x := by intro _; rfl) :
    PS X (.Assign [.Name y py] (.ListComp elt [⟨tg, iter, ifs, 0⟩] scope pos) spos) (tS X.K n fx T (sSet (eO n fx) i (mFLP (mLcC (pO n) (own.map (·.2)) tt mi mt me)))) := by
  refine psImp (ps_setLc hc hN hy hyl hsw hi ok hg ht he hs) (tAsg_set fun σ H Q h => ?_)
  obtain ⟨Hs, U, st, l, st', hR, hm, k⟩ := tF_OP σ H Q h
  exact tLc_core (fun _ _ _ h => h) (fun _ _ _ _ h => h) (fun _ _ _ h => h) (fun _ _ _ h => h) hR hm k
/-- .. where the items are no lists, whatever is read -/
theorem s_setLcV {i : Nat} {y : Str} {py : Pos} {elt tg iter : Expr} {ifs : List Expr} {scope : Scope} {own : List (Str × Nat)} {spos : Pos} {mi : M PE0 (List PV)} {mt : M PE0 Bool} {me : M PE0 PV} {tt : Tg} (hc : X.calm = true) (hN : X.N.Nodup) (hy : X.N[i]? = some y) (hyl : X.env.scope.names.lookup y = some .local)
    (hsw : swapsWith (.ListComp elt [⟨tg, iter, ifs, 0⟩] scope pos) (some (.Name y py)) spos.line X.env = pure true) (hi : PI X tg iter (tI (pM X.K n T) mi)) (ok : BlkOk X.N X.env.scope scope own)
    (hg : ∀ (s : Shared) (H : Hp) (C : Addr) (cl : List (Str × Addr)) (fp : List Addr), PG (X.blk s H scope (compEnvC scope cl C X.env) fp) tg (tT (pM X.K n T) tt)) (ht : ∀ (s : Shared) (H : Hp) (C : Addr) (cl : List (Str × Addr)) (fp : List Addr), PTs (X.blk s H scope (compEnvC scope cl C X.env) fp) ifs (tGT (pM X.K n T) mt))
    (he : ∀ (s : Shared) (H : Hp) (C : Addr) (cl : List (Str × Addr)) (fp : List Addr), PE (X.blk s H scope (compEnvC scope cl C X.env) fp) elt (tG (pM X.K n T) me)) (hs : ∀ x, foldedSetIterable iter X.env x = pure x := by intro _; rfl) :
    PS X (.Assign [.Name y py] (.ListComp elt [⟨tg, iter, ifs, 0⟩] scope pos) spos) (tS X.K n fx T (sSet (eO n fx) i (mFLV (mLcC (pO n) (own.map (·.2)) tt mi mt me)))) := by
  refine psImp (ps_setLc hc hN hy hyl hsw hi ok hg ht he hs) (tAsg_set fun σ H Q h => ?_)
  obtain ⟨Hs, U, st, l, st', hR, hm, k⟩ := tF_OV σ H Q h
  exact tLc_core (fun _ _ _ h => h) (fun _ _ _ _ h => h) (fun _ _ _ h => h) (fun _ _ _ h => h) hR hm k
theorem s_asg {tg : Expr} {m : M Env0 PV} {tt : Tg} (he : PE X e (tG (eM X.K n fx T) m)) (hg : PG X tg (tT (eM X.K n fx T) tt)) (hs : swapsWithSole [tg] e pos.line X.env = pure false := by rfl) (hw : swappedStores [tg] e X.env = pure none := by rfl)
    (h1 : (assignEach [tg] X.env).map (·.2) = [assign tg X.env] := by rfl) : PS X (.Assign [tg] e pos) (tS X.K n fx T (sAsg (eO n fx) tt m)) := by
  refine psImp (ps_asg he hg hs hw h1) fun D σ H ⟨Hs, U, st, fl, st', hR, hm, k⟩ => ?_
  unfold sAsg at hm
  split at hm
  · cases hm
  · rename_i v st1 e1
    split at hm
    · cases hm
    · rename_i st2 e2
      cases hm
      refine ⟨Hs, U, st, v, st1, hR, e1, fun w Hs1 U1 H1 r1 s1 p1 => ?_⟩
      obtain ⟨own, ho1, ho2⟩ := tgt_set (K := X.K) e2
      exact ⟨Hs1, U1, st1, v, _, r1, p1, e2, fun σ' hσ r2 => k σ' Hs1 U1 H1 (fun q hq => (hσ own ho1).2 q (ho2 q hq)) r2 s1⟩
theorem s_par {i j : Nat} {x y : Str} {e1 e2 : Expr} {ms : M Env0 (List PV)} {px py pt : Pos} {kt k2 pt2} (hc : X.calm = true) (hN : X.N.Nodup) (hi : X.N[i]? = some x) (hj : X.N[j]? = some y) (hij : i ≠ j)
    (hx : X.env.scope.names.lookup x = some .local) (hy : X.env.scope.names.lookup y = some .local) (ha : PA X [e1, e2] (tGA (eM X.K n fx T) ms))
    (hw : swappedStores [.Tuple [.Name x px, .Name y py] kt pt] (.Tuple [e1, e2] k2 pt2) X.env = pure (some [x, y]))
    (hs : swapsWithSole [.Tuple [.Name x px, .Name y py] kt pt] (.Tuple [e1, e2] k2 pt2) pos.line X.env = pure false := by rfl) :
    PS X (.Assign [.Tuple [.Name x px, .Name y py] kt pt] (.Tuple [e1, e2] k2 pt2) pos) (tS X.K n fx T (sPar (eO n fx) i j ms)) := by
  refine psImp (ps_par hc hN hi hj hij hx hy ha hw hs) fun D σ H ⟨Hs, U, st, fl, st', hR, hm, k⟩ => ?_
  unfold sPar at hm
  split at hm
  · rename_i v w st1 e1
    split at hm
    · rename_i hw
      cases hm
      refine ⟨Hs, U, st, [v, w], st1, hR, e1, fun vs Hs1 U1 H1 r1 s1 p1 => ?_⟩
      obtain ⟨x1, x2, rfl, q1, q2⟩ := reps2 p1
      refine ⟨x1, x2, rfl, k _ Hs1 U1 H1 ?_ ((eM X.K n fx T).set_ok ((eM X.K n fx T).set_ok r1 hw.1 q1) hw.2 q2) s1⟩
      exact (fx_set (wr_fx hw.1).2).trans (fx_set (wr_fx hw.2).2)
    · cases hm
  · cases hm
theorem s_for {iter tg : Expr} {mi : M Env0 (List PV)} {tt : Tg} {mb : SM} (hp : PassesOwn (model X.prog X.w) X.A X.env X.xe) (hc : X.calm = true) (hi : PI X tg iter (tI (eM X.K n fx T) mi)) (hg : PG X tg (tT (eM X.K n fx T) tt)) (hb : PSs X bs (tS X.K n fx T mb))
    (hs : ∀ x, foldedSetIterable iter X.env x = pure x := by intro _; rfl) : PS X (.For tg iter bs [] pos) (tS X.K n fx T (sFor (eO n fx) tt mi mb)) := by
  refine psImp (ps_for hp hc hi hg hb hs) fun D σ H ⟨Hs, U, st, fl, st', hR, hm, k⟩ => ?_
  unfold sFor at hm
  split at hm
  · cases hm
  · rename_i l st1 e1
    refine ⟨Hs, U, st, l, st1, hR, e1, fun J Hs1 U1 H1 r1 s1 wk => ?_⟩
    have k1 := k.pre (.refl _ _) s1
    refine ⟨fun i m σ2 H2 => ∃ Hs2 U2 st2, i ≤ l.length ∧ m = l.length - i ∧ (eM X.K n fx T).R st2 Hs2 U2 σ2 H2 ∧ Stp Hs1 U1 H1 Hs2 U2 H2 ∧ FxEq fx σ σ2 ∧ forL (eO n fx) tt mb (l.drop i) st2 = some (fl, st'),
      ⟨l.length, Hs1, U1, st1, Nat.zero_le _, rfl, r1, .refl _ _ _, .refl _ _, by simpa using hm⟩, fun i m σ2 H2 hW => ?_⟩
    obtain ⟨Hs2, U2, st2, hi', rfl, r2, s2, f2, hl⟩ := hW
    have sb2 := (eM X.K n fx T).sub r2
    by_cases hlt : i < l.length
    · refine .inr ⟨wk.go Hs2 i H2 s2.hs sb2 hlt, fun σ3 H3 => ∃ Hs3 U3 st3, (eM X.K n fx T).R st3 Hs3 U3 σ3 H3 ∧ Stp Hs1 U1 H1 Hs3 U3 H3 ∧ FxEq fx σ σ3 ∧ forL (eO n fx) tt mb (l.drop (i + 1)) st3 = some (fl, st'),
        fun σ3 H3 ⟨Hs3, U3, st3, a1, a2, a3, a4⟩ => ⟨l.length - (i + 1), by omega, Hs3, U3, st3, by omega, rfl, a1, a2, a3, a4⟩, fun x H3 hy => ?_⟩
      rw [List.drop_eq_getElem_cons hlt] at hl
      unfold forL at hl
      obtain ⟨Hs3, ps, px⟩ := wk.yld Hs2 i H2 x H3 l[i] s2.hs sb2 (List.getElem?_eq_getElem hlt) hy
      have r3 := (eM X.K n fx T).grow r2 ps
      have s3 := s2.trans (ps.st.lift U2)
      split at hl
      · cases hl
      · rename_i stA eA
        obtain ⟨own, ho1, ho2⟩ := tgt_set (K := X.K) eA
        refine ⟨Hs3, U2, st2, l[i], stA, r3, px, eA, fun σ4 hσ r4 => ?_⟩
        have f4 : FxEq fx σ σ4 := f2.trans fun q hq => (hσ own ho1).2 q (ho2 q hq)
        split at hl
        · cases hl
        · rename_i stB eB
          exact ⟨Hs3, U2, stA, .nx, stB, r4, eB, fun σ5 Hs5 U5 H5 f5 r5 s5 => ⟨Hs5, U5, stB, r5, s3.trans s5, f4.trans f5, hl⟩⟩
        · rename_i stB eB
          exact ⟨Hs3, U2, stA, .ct, stB, r4, eB, fun σ5 Hs5 U5 H5 f5 r5 s5 => ⟨Hs5, U5, stB, r5, s3.trans s5, f4.trans f5, hl⟩⟩
        · rename_i stB eB
          cases hl
          exact ⟨Hs3, U2, stA, .bk, _, r4, eB, fun σ5 Hs5 U5 H5 f5 r5 s5 => k1 σ5 Hs5 U5 H5 (f4.trans f5) r5 (s3.trans s5)⟩
        · rename_i v stB eB
          cases hl
          exact ⟨Hs3, U2, stA, .rt v, _, r4, eB, fun σ5 w F Hs5 U5 H5 f5 r5 s5 o5 => k1 σ5 w F Hs5 U5 H5 (f4.trans f5) r5 (s3.trans s5) o5⟩
    · have e : i = l.length := by omega
      subst e
      rw [List.drop_length] at hl
      cases hl
      exact .inl ⟨wk.stop Hs2 H2 s2.hs sb2, k1 σ2 Hs2 U2 H2 f2 r2 s2⟩
theorem s_while {c : Expr} {mc : M Env0 Bool} {mb : SM} (N : Nat) (hp : PassesOwn (model X.prog X.w) X.A X.env X.xe) (hc : PT X c (tGT (eM X.K n fx T) mc)) (hb : PSs X bs (tS X.K n fx T mb)) : PS X (.While c bs [] pos) (tS X.K n fx T (whileL mc mb N)) := by
  refine psImp (ps_while hp hc hb) fun D σ H ⟨Hs, U, st, fl, st', hR, hm, k⟩ => ?_
  refine ⟨fun m σ2 H2 => ∃ Hs2 U2 st2, (eM X.K n fx T).R st2 Hs2 U2 σ2 H2 ∧ Stp Hs U H Hs2 U2 H2 ∧ FxEq fx σ σ2 ∧ whileL mc mb m st2 = some (fl, st'), ⟨N, Hs, U, st, hR, .refl _ _ _, .refl _ _, hm⟩, fun m σ2 H2 hW => ?_⟩
  obtain ⟨Hs2, U2, st2, r2, s2, f2, hl⟩ := hW
  cases m with
  | zero => cases hl
  | succ m =>
    unfold whileL at hl
    split at hl
    · cases hl
    · rename_i st3 e3
      cases hl
      exact ⟨Hs2, U2, st2, false, _, r2, e3, fun Hs3 U3 H3 r3 s3 => iteF (k σ2 Hs3 U3 H3 f2 r3 (s2.trans s3))⟩
    · rename_i st3 e3
      refine ⟨Hs2, U2, st2, true, st3, r2, e3, fun Hs3 U3 H3 r3 s3 => iteT ⟨fun σ4 H4 => ∃ Hs4 U4 st4, (eM X.K n fx T).R st4 Hs4 U4 σ4 H4 ∧ Stp Hs U H Hs4 U4 H4 ∧ FxEq fx σ σ4 ∧ whileL mc mb m st4 = some (fl, st'),
        fun σ4 H4 ⟨Hs4, U4, st4, a1, a2, a3, a4⟩ => ⟨m, Nat.lt_succ_self _, Hs4, U4, st4, a1, a2, a3, a4⟩, ?_⟩⟩
      have s3' := s2.trans s3
      split at hl
      · cases hl
      · rename_i stB eB
        exact ⟨Hs3, U3, st3, .nx, stB, r3, eB, fun σ5 Hs5 U5 H5 f5 r5 s5 => ⟨Hs5, U5, stB, r5, s3'.trans s5, f2.trans f5, hl⟩⟩
      · rename_i stB eB
        exact ⟨Hs3, U3, st3, .ct, stB, r3, eB, fun σ5 Hs5 U5 H5 f5 r5 s5 => ⟨Hs5, U5, stB, r5, s3'.trans s5, f2.trans f5, hl⟩⟩
      · rename_i stB eB
        cases hl
        exact ⟨Hs3, U3, st3, .bk, _, r3, eB, fun σ5 Hs5 U5 H5 f5 r5 s5 => k σ5 Hs5 U5 H5 (f2.trans f5) r5 (s3'.trans s5)⟩
      · rename_i v stB eB
        cases hl
        exact ⟨Hs3, U3, st3, .rt v, _, r3, eB, fun σ5 w F Hs5 U5 H5 f5 r5 s5 o5 => k σ5 w F Hs5 U5 H5 (f2.trans f5) r5 (s3'.trans s5) o5⟩
end
end L3

set_option Elab.async false
set_option linter.all false
set_option maxRecDepth 100000
namespace L3
open PySem PySem.Spec
open PyProof.Rows hiding St
open L2

/-- reading a list's item at a place that is an int, by getItem alone -/
def sAugI (i : Nat) (mk : M Env0 PV) (F : PV → PV → Option PV) (m : M Env0 PV) : SM := fun st => match getL st i with
  | none => none
  | some _ => match mk st with
    | none => none
    | some (k, st1) => match getL st1 i with
      | none => none
      | some xs => match ixP xs.length k with
        | none => none
        | some j => match xs[j]? with
          | some (.p old) => match m st1 with
            | none => none
            | some (y, st2) => match F old y with
              | none => none
              | some z => match getL st2 i with
                | none => none
                | some ys => if ys.length = xs.length then some (.nx, st2.set i (some (.l (ys.set j (.p z))))) else none
          | _ => none
theorem ORs.len {K : Fg} {H Hs : Hp} : ∀ {xs : List OV} {vs : List V} {F : List Addr}, ORs K H Hs xs vs F → vs.length = xs.length
  | [], vs, F, h => by simp only [ORs] at h; rw [h.1]; rfl
  | x :: xs, vs, F, h => by
    simp only [ORs] at h
    obtain ⟨v, vr, F1, F2, rfl, rfl, _, h2⟩ := h
    simp [ORs.len h2]
theorem ORs.app1 {K : Fg} {H Hs : Hp} : ∀ {xs : List OV} {vs : List V} {F F' : List Addr} {y : OV} {w : V}, ORs K H Hs xs vs F → OR K H Hs y w F' → ORs K H Hs (xs ++ [y]) (vs ++ [w]) (F ++ F')
  | [], vs, F, F', y, w, h, h' => by
    simp only [ORs] at h
    rw [h.1, h.2]
    simp only [List.nil_append, ORs]
    exact ⟨w, [], F', [], rfl, by simp, h', by simp⟩
  | x :: xs, vs, F, F', y, w, h, h' => by
    simp only [ORs] at h
    obtain ⟨v, vr, F1, F2, rfl, rfl, h1, h2⟩ := h
    simp only [List.cons_append, ORs]
    exact ⟨v, vr ++ [w], F1, F2 ++ F', rfl, by simp, h1, ORs.app1 h2 h'⟩
/-- an item replaced: what it owned is let go -/
theorem ORs.set1 {K : Fg} {H Hs : Hp} : ∀ {xs : List OV} {vs : List V} {F F' : List Addr} {y : OV} {w : V} {j : Nat}, j < xs.length → ORs K H Hs xs vs F → OR K H Hs y w F' → F.Nodup → F'.Nodup → (∀ a ∈ F', a ∉ F) →
    ∃ G, ORs K H Hs (xs.set j y) (vs.set j w) G ∧ G.Nodup ∧ ∀ a ∈ G, a ∈ F ∨ a ∈ F'
  | [], vs, F, F', y, w, j, hj, h, h', _, _, _ => by simp at hj
  | x :: xs, vs, F, F', y, w, 0, hj, h, h', nf, nf', dj => by
    simp only [ORs] at h
    obtain ⟨v, vr, F1, F2, rfl, rfl, h1, h2⟩ := h
    refine ⟨F' ++ F2, ?_, ?_, fun a ha => ?_⟩
    · simp only [List.set_cons_zero, ORs]
      exact ⟨w, vr, F', F2, rfl, rfl, h', h2⟩
    · rw [List.nodup_append] at nf ⊢
      exact ⟨nf', nf.2.1, fun a ha b hb e => dj a ha (by subst e; exact List.mem_append_right _ hb)⟩
    · rcases List.mem_append.mp ha with q | q
      · exact .inr q
      · exact .inl (List.mem_append_right _ q)
  | x :: xs, vs, F, F', y, w, j + 1, hj, h, h', nf, nf', dj => by
    simp only [ORs] at h
    obtain ⟨v, vr, F1, F2, rfl, rfl, h1, h2⟩ := h
    rw [List.nodup_append] at nf
    obtain ⟨G, g1, g2, g3⟩ := ORs.set1 (j := j) (by simpa using hj) h2 h' nf.2.1 nf' (fun a ha z => dj a ha (List.mem_append_right _ z))
    refine ⟨F1 ++ G, ?_, ?_, fun a ha => ?_⟩
    · simp only [List.set_cons_succ, ORs]
      exact ⟨v, vr.set j w, F1, G, rfl, rfl, h1, g1⟩
    · rw [List.nodup_append]
      refine ⟨nf.1, g2, fun a ha b hb e => ?_⟩
      subst e
      rcases g3 a hb with q | q
      · exact nf.2.2 a ha a q rfl
      · exact dj a q (List.mem_append_left _ ha)
    · rcases List.mem_append.mp ha with q | q
      · exact .inl (List.mem_append_left _ q)
      · rcases g3 a q with q | q
        · exact .inl (List.mem_append_right _ q)
        · exact .inr q
section
variable {K : Fg} {n : Nat} {T : List Addr}
theorem getL_ok {st : Env0} {Hs : Hp} {U : US} {σ : St} {H : Hp} {Fs : Nat → List Addr} {i : Nat} {xs : List OV} (h : ER K n T st Hs U σ H Fs) (e : getL st i = some xs) :
    i < n ∧ ∃ a vs F', σ[i]? = some (some (.ref a)) ∧ Fs i = a :: F' ∧ H a = some (.lst vs) ∧ ORs K H Hs xs vs F' := by
  unfold getL at e
  split at e
  · rename_i ys e1
    cases e
    obtain ⟨v, e2, r⟩ := h.slot i _ e1
    simp only [OR] at r
    obtain ⟨a, vs, F', rfl, e3, e4, r⟩ := r
    refine ⟨?_, a, vs, F', e2, e3, e4, r⟩
    have := (List.getElem?_eq_some_iff.mp e1).1
    rwa [h.l1] at this
  · cases e
theorem upd_other {H : Hp} {a b : Addr} {o : HO} (h : b ≠ a) : upd H a o b = H b := upd_ne h
theorem dec_out {α : Type} {l : List α} {i : Nat} {x : α} (h : l[i]? = some x) : l.set i x = l := by
  apply List.ext_getElem?
  intro j
  by_cases e : i = j
  · subst e
    rw [List.getElem?_set_self (List.getElem?_eq_some_iff.mp h).1, h]
  · rw [List.getElem?_set_ne e]
/-- the list in slot i is written anew; G: what its items own -/
theorem ER.write {st : Env0} {Hs : Hp} {U : US} {σ : St} {H : Hp} {Fs : Nat → List Addr} {i : Nat} {a : Addr} {vs vs' : List V} {F' F G : List Addr} {ys : List OV} (h : ER K n T st Hs U σ H Fs) (hi : i < n)
    (e2 : σ[i]? = some (some (.ref a))) (e3 : Fs i = a :: F') (e4 : H a = some (.lst vs)) (hF : ∀ b ∈ F, ¬ U b ∧ Hs b = none) (hFl : ∀ b ∈ F, ∃ xs, H b = some (.lst xs)) (hG : ∀ b ∈ G, b ∈ F' ∨ b ∈ F) (nG : G.Nodup)
    (r : ORs K H Hs ys vs' G) :
    (∃ Fs', ER K n T (st.set i (some (.l ys))) Hs (fun b => U b ∨ b ∈ F) σ (upd H a (.lst vs')) Fs') ∧ Stp Hs U H Hs U (upd H a (.lst vs')) := by
  have ha : U a := h.fu i a (by rw [e3]; simp)
  have hsa : Hs a = none := (h.us a ha).1
  have ndi := h.nd i
  rw [e3] at ndi
  have naF : a ∉ F := fun z => (hF a z).1 ha
  have naG : a ∉ G := fun z => by
    rcases hG a z with q | q
    · exact (List.nodup_cons.mp ndi).1 q
    · exact naF q
  have keep : ∀ b, b ≠ a → upd H a (.lst vs') b = H b := fun b hb => upd_ne hb
  refine ⟨⟨fun j => if j = i then a :: G else Fs j, ⟨fun b o e => ?_, by simpa using h.l1, h.l2, fun P hP => tabG_set e4 P (h.tabs P hP), fun b u => ?_, fun j ov e => ?_, fun j => ?_, fun j k b hb hc => ?_, fun j b hb => ?_⟩⟩, ?_⟩
  · have := h.sb b o e
    refine ⟨this.1, ?_⟩
    rw [keep b (fun z => by subst z; rw [hsa] at e; cases e)]; exact this.2
  · by_cases hb : b = a
    · subst hb; exact ⟨hsa, vs', upd_same⟩
    · rw [keep b hb]
      rcases u with u | u
      · exact h.us b u
      · exact ⟨(hF b u).2, hFl b u⟩
  · by_cases z : i = j
    · subst z
      rw [List.getElem?_set_self (by rw [h.l1]; exact hi)] at e
      cases e
      refine ⟨.ref a, e2, ?_⟩
      rw [if_pos rfl]
      simp only [OR]
      exact ⟨a, vs', G, rfl, rfl, upd_same, ORs.move (Same.refl _) ys vs' G (fun b hb u e => by rw [keep b (fun z => by subst z; exact naG hb)]; exact e) r⟩
    · rw [List.getElem?_set_ne z] at e
      obtain ⟨w, e1, r1⟩ := h.slot j ov e
      refine ⟨w, e1, ?_⟩
      rw [if_neg (fun e => z e.symm)]
      refine OR.move (Same.refl _) ov w _ (fun b hb u e => ?_) r1
      rw [keep b (fun q => by subst q; exact z (h.dj i j _ (by rw [e3]; simp) hb))]; exact e
  · by_cases z : j = i
    · rw [if_pos z]; exact List.nodup_cons.mpr ⟨naG, nG⟩
    · rw [if_neg z]; exact h.nd j
  · have key : ∀ j, j ≠ i → b ∈ Fs j → b ∈ a :: G → False := fun j hj h1 h2 => by
      rcases List.mem_cons.mp h2 with q | q
      · subst q; exact hj (h.dj j i _ h1 (by rw [e3]; simp))
      · rcases hG b q with q | q
        · exact hj (h.dj j i b h1 (by rw [e3]; exact List.mem_cons_of_mem _ q))
        · exact (hF b q).1 (h.fu j b h1)
    by_cases z : j = i <;> by_cases z2 : k = i
    · rw [z, z2]
    · rw [if_pos z] at hb; rw [if_neg z2] at hc; exact (key k z2 hc hb).elim
    · rw [if_neg z] at hb; rw [if_pos z2] at hc; exact (key j z hb hc).elim
    · rw [if_neg z] at hb; rw [if_neg z2] at hc; exact h.dj j k b hb hc
  · by_cases z : j = i
    · rw [if_pos z] at hb
      rcases List.mem_cons.mp hb with q | q
      · subst q; exact .inl ha
      · rcases hG b q with q | q
        · exact .inl (h.fu i b (by rw [e3]; exact List.mem_cons_of_mem _ q))
        · exact .inr q
    · rw [if_neg z] at hb; exact .inl (h.fu j b hb)
  · refine ⟨Same.refl _, fun b o e nt hu => ?_, tabG_set e4, fun b hb => ?_, fun b u => .inl u, fun b o e => .inl e, fun b xs e => ?_⟩
    · rw [keep b (fun z => by subst z; exact hu ha)]; exact e
    · by_cases z : b = a
      · subst z; rw [upd_same]; simp
      · rw [keep b z]; exact hb
    · by_cases z : b = a
      · subst z; rw [upd_same] at e; cases e
      · rw [keep b z] at e; exact .inr e
end
section
variable {X : Cx} {n : Nat} {T : List Addr} {fx : List Nat} {pos : Pos} {e : Expr}
/-- x.append(e) -/
theorem s_app (i : Nat) {x : Str} {px apos cpos : Pos} {m : M Env0 OV} (hN : X.N[i]? = some x) (hv : Vis X.env.scope x) (he : PE X e (tO X.K n fx T m)) (hd : (x == ("__debug__" : Str)) = false := by decide) (hcd : (x == ("__classdict__" : Str)) = false := by decide)
    (hbase : attributeBase (.Name x px) "append" X.env (eval (.Name x px) X.env) = eval (.Name x px) X.env := by rfl)
    (hfew : ((backTo cpos (starEach [e] X.env)).all (fun x => !x.1) && (backToKw cpos (keywordEach [] X.env)).all (fun x => x.1.isSome)
      && decide ([e].length + ([] : List Keyword).length + (if ([] : List Keyword).isEmpty then 0 else 1) < 30)) = true := by rfl)
    (hline : (apos.endLine == cpos.line) = true := by rfl) (hs : starEach [e] X.env = (false, eval e X.env) :: starEach [] X.env := by rfl) (hplain : (backTo cpos (starEach [] X.env)).any (·.1) = false := by rfl)
    (hsw : swapsWith (.Call (.Attribute (.Name x px) "append" apos) [e] [] cpos) none pos.line X.env = pure false := by rfl) :
    PS X (.Expr (.Call (.Attribute (.Name x px) "append" apos) [e] [] cpos) pos) (tS X.K n fx T (sApp i m)) := by
  refine psImp (ps_expr (pe_bm PySem.F.plainAttrs_list PySem.F.slot_list_append PySem.F.type_list_append mt_append (pe_var hN hv hd hcd) (pa_cons he pa_nil hs) hbase hfew hline hs hplain) hsw) fun D σ H ⟨Hs, U, st, fl, st', hR, hm, k⟩ => ?_
  unfold sApp at hm
  split at hm
  · cases hm
  · rename_i xs0 e0
    split at hm
    · cases hm
    · rename_i ov st1 e1
      split at hm
      · rename_i xs e2
        split at hm
        · rename_i hl
          cases hm
          obtain ⟨Fs, hR'⟩ := hR
          obtain ⟨_, a, vs0, _, ea, _, ea2, _⟩ := getL_ok hR' e0
          refine ⟨.ref a, ea, .inl ⟨rfl, vs0, .inl (.inl ea2)⟩, Hs, U, st, ov, st1, ⟨Fs, hR'⟩, e1, fun w F Hs1 U1 H1 r1 s1 o1 => ?_⟩
          obtain ⟨Fs1, r1⟩ := r1
          obtain ⟨hi, a', vs, F', e3, e4, e5, r5⟩ := getL_ok r1 e2
          rw [ea] at e3; cases e3
          obtain ⟨o2, o3, o4⟩ := o1
          have ndi := r1.nd i
          rw [e4] at ndi
          have hw := ER.write (vs' := vs ++ [w]) (F := F) (G := F' ++ F) r1 hi ea e4 e5 o4 (OR.isl ov w F o2) (fun b hb => List.mem_append.mp hb)
            (List.nodup_append.mpr ⟨(List.nodup_cons.mp ndi).2, o3, fun b hb c hc z => (o4 c hc).1 (r1.fu i c (by rw [e4, ← z]; exact List.mem_cons_of_mem _ hb))⟩) (ORs.app1 r5 o2)
          obtain ⟨w1, w2⟩ := hw
          refine ⟨a, vs, w, rfl, rfl, e5, by rw [r5.len]; exact lim_line hl, ?_⟩
          refine k σ Hs1 _ _ (.refl _ _) w1 (s1.trans ⟨w2.hs, fun b o e nt hu => w2.fr b o e nt (fun z => hu (.inl z)), w2.tb, w2.ex, fun b u => .inl u, fun b o e => (w2.an b o e).imp id (.imp id (.imp id .inl)), w2.tp⟩)
        · cases hm
      · cases hm
theorem ixP_ok {xs : List OV} {k : PV} {j : Nat} {H : Hp} {K : Fg} {v : V} (e : ixP xs.length k = some j) (r : Rep K H k v) : ∃ i : Int, v = .int i ∧ ixN xs.length i = some j ∧ j < xs.length := by
  unfold ixP at e
  split at e
  · rename_i i
    refine ⟨i, rep_int r, ?_⟩
    split at e
    · rename_i h0
      split at e
      · rename_i h1
        cases e
        refine ⟨?_, h1⟩
        unfold ixN
        rw [if_pos h0, if_pos (by omega)]
      · cases e
    · rename_i h0
      split at e
      · rename_i h1
        cases e
        refine ⟨?_, by omega⟩
        unfold ixN
        rw [if_neg h0, if_pos (by omega)]
        congr 1
        omega
      · cases e
  · cases e
/-- x[k] = e -/
theorem s_setI (i : Nat) {x : Str} {px ps : Pos} {ke : Expr} {m : M Env0 OV} {mk : M Env0 PV} (hN : X.N[i]? = some x) (hv : Vis X.env.scope x) (he : PE X e (tO X.K n fx T m)) (hk : PE X ke (tG (eM X.K n fx T) mk)) (hd : (x == ("__debug__" : Str)) = false := by decide) (hcd : (x == ("__classdict__" : Str)) = false := by decide)
    (ha : ∀ v, assign (.Subscript (.Name x px) ke ps) X.env v = (do
      let ov ← holding [v] (eval (.Name x px) X.env)
      let iv ← holding [v, ov] (eval ke X.env)
      standAt ps
      holding [v, ov, iv] (setItem ov iv v)
      release [v, ov, iv] []) := by intro _; rfl)
    (hs : swapsWithSole [.Subscript (.Name x px) ke ps] e pos.line X.env = pure false := by rfl) (hw : swappedStores [.Subscript (.Name x px) ke ps] e X.env = pure none := by rfl)
    (h1 : (assignEach [.Subscript (.Name x px) ke ps] X.env).map (·.2) = [assign (.Subscript (.Name x px) ke ps) X.env] := by rfl) :
    PS X (.Assign [.Subscript (.Name x px) ke ps] e pos) (tS X.K n fx T (sSetI i m mk)) := by
  refine psImp (ps_asg he (pg_sub (pe_var hN hv hd hcd) hk set_list ha) hs hw h1) fun D σ H ⟨Hs, U, st, fl, st', hR, hm, k⟩ => ?_
  unfold sSetI at hm
  split at hm
  · cases hm
  · rename_i ov st1 e1
    split at hm
    · cases hm
    · rename_i xs0 e0
      split at hm
      · cases hm
      rename_i kv st2 e2
      split at hm
      · rename_i xs e3
        split at hm
        · rename_i j e4
          cases hm
          refine ⟨Hs, U, st, ov, st1, hR, e1, fun w F Hs1 U1 H1 r1 s1 o1 => ?_⟩
          obtain ⟨o2, o3, o4⟩ := o1
          -- what e gave is kept aside while the rest is read
          obtain ⟨Fs1, r1⟩ := r1
          have fl1 := OR.isl ov w F o2
          -- the index
          have main : ∀ (kw : V) (Hs2 : Hp) (U2 : US) (H2 : Hp), (eM X.K n fx T).R st2 Hs2 U2 σ H2 → Stp Hs1 U1 H1 Hs2 U2 H2 → Rep X.K Hs2 kv kw → ∀ a, σ[i]? = some (some (V.ref a)) →
              ∃ p xs k j, V.ref a = .ref p ∧ kw = .int k ∧ H2 p = some (.lst xs) ∧ ixN xs.length k = some j ∧ D.nx σ (upd H2 p (.lst (xs.set j w))) := fun kw Hs2 U2 H2 r2 s2 p2 a ea => by
            obtain ⟨Fs2, r2⟩ := r2
            obtain ⟨hi, a', vs, F', e5, e6, e7, r7⟩ := getL_ok r2 e3
            rw [ea] at e5; cases e5
            obtain ⟨q, rfl, hq, hj⟩ := ixP_ok e4 p2
            have ndi := r2.nd i
            rw [e6] at ndi
            have hF2 : ∀ b ∈ F, ¬ U2 b ∧ Hs2 b = none := fun b hb => by
              obtain ⟨ys, ey⟩ := fl1 b hb
              refine ⟨fun u => ?_, ?_⟩
              · rcases s2.uu b u with h | h
                · exact (o4 b hb).1 h
                · rw [ey] at h; cases h
              · cases z : Hs2 b with
                | none => rfl
                | some o =>
                  rcases s2.an b o z with h | h | ⟨zs, rfl, h⟩ | h
                  · rw [(o4 b hb).2] at h; cases h
                  · rw [ey] at h; cases h
                  · rw [ey] at h; cases h
                  · exact absurd h (o4 b hb).1
            have kp : ∀ b ∈ F, ∀ u, H1 b = some u → H2 b = some u := fun b hb u eu => by
              obtain ⟨ys, ey⟩ := fl1 b hb
              rw [ey] at eu; cases eu
              exact s2.fr b _ ey trivial (o4 b hb).1
            have o2' := OR.move s2.hs ov w F kp o2
            obtain ⟨G, g1, g2, g3⟩ := ORs.set1 (j := j) hj r7 o2' (List.nodup_cons.mp ndi).2 o3 (fun b hb z => (hF2 b hb).1 (r2.fu i b (by rw [e6]; exact List.mem_cons_of_mem _ z)))
            obtain ⟨w1, w2⟩ := ER.write (vs' := vs.set j w) (F := F) (G := G) r2 hi ea e6 e7 hF2 (OR.isl ov w F o2') g3 g2 g1
            refine ⟨a, vs, q, j, rfl, rfl, e7, by rw [r7.len]; exact hq, ?_⟩
            have st12 : Stp Hs U H Hs2 (fun b => U2 b ∨ b ∈ F) H2 := by
              refine s1.trans ⟨s2.hs, fun b o e nt hu => s2.fr b o e nt (fun z => hu (.inl z)), s2.tb, s2.ex, fun b u => ?_, fun b o e => (s2.an b o e).imp id (.imp id (.imp id .inl)), s2.tp⟩
              rcases u with u | u
              · rcases s2.uu b u with h | h
                · exact .inl (.inl h)
                · exact .inr h
              · exact .inl (.inr u)
            exact k σ Hs2 _ _ (.refl _ _) w1 (st12.trans ⟨w2.hs, fun b o e nt hu => w2.fr b o e nt (fun z => hu (.inl z)), w2.tb, w2.ex, fun b u => .inl u, fun b o e => (w2.an b o e).imp id (.imp id (.imp id .inl)), w2.tp⟩)
          -- the slot is read ahead of the index
          have e8 : ∃ a, σ[i]? = some (some (V.ref a)) := by
            obtain ⟨_, a, _, _, ea, _⟩ := getL_ok r1 e0
            exact ⟨a, ea⟩
          obtain ⟨a, ea⟩ := e8
          exact ⟨.ref a, ea, Hs1, U1, st1, kv, st2, ⟨Fs1, r1⟩, e2, fun kw Hs2 U2 H2 r2 s2 p2 => main kw Hs2 U2 H2 r2 s2 p2 a ea⟩
        · cases hm
      · cases hm
/-! op= -/
def IpA (K : Fg) (t : TIp) (F : PV → PV → Option PV) : Prop := OpA K t F
theorem s_aug {i : Nat} {x : Str} {op : Operator} {ti : TIp} {F : PV → PV → Option PV} {m : M Env0 PV} {pos' : Pos} (hN : X.N.Nodup) (hi : X.N[i]? = some x) (hx : Loc X.env.scope x) (he : PE X e (tG (eM X.K n fx T) m)) (ho : PIp X op ti) (ad : OpA X.K ti F) (hf : X.fn x = true ∨ X.env.scope.names.lookup x = some .local := by first | exact .inl rfl | exact .inr rfl | assumption) :
    PS X (.AugAssign (.Name x pos') op e pos) (tS X.K n fx T (sAug (eO n fx) i F m)) := by
  refine psImp (ps_aug hN hi hx he ho hf) fun D σ H ⟨Hs, U, st, fl, st', hR, hm, k⟩ => ?_
  unfold sAug at hm
  split at hm
  · cases hm
  · rename_i old e0
    split at hm
    · cases hm
    · rename_i y st1 e1
      split at hm
      · cases hm
      · rename_i z e2
        split at hm
        · rename_i hw
          cases hm
          obtain ⟨v, ev, rv⟩ := (eM X.K n fx T).get_ok hR e0
          refine ⟨v, ev, Hs, U, st, y, st1, hR, e1, fun w Hs1 U1 H1 r1 s1 p1 => ?_⟩
          refine ad Hs1 H1 old y z v w _ e2 (Rep.mono s1.hs old v rv) p1 ((eM X.K n fx T).sub r1) fun u Hs2 H2 p2 q2 => ?_
          exact k _ Hs2 U1 H2 (fx_set (wr_fx hw).2) ((eM X.K n fx T).set_ok ((eM X.K n fx T).grow r1 p2) hw q2) (s1.trans (p2.st.lift U1))
        · cases hm
def tGetL : V → V → Hp → VK → Prop := fun o i H Q => ∃ p xs k v, o = .ref p ∧ i = .int k ∧ H p = some (.lst xs) ∧ atI xs k = some v ∧ Q v H
theorem get_list : PGet X tGetL := by
  intro pins s σ H o i ov iv Q I ro ri h
  obtain ⟨p, xs, k, z, rfl, rfl, hq, he, q⟩ := h
  cases ro
  obtain ⟨t, rfl⟩ := ri
  obtain ⟨its, r, pl, hz⟩ := I.list (.inl (.inl hq))
  obtain ⟨j, h1, h2, h3, h4, h5⟩ := atI_get he
  obtain ⟨w, ew, rw'⟩ := r.get h2
  have hl := r.length
  have hn := line63
  have fin : EP X pins σ Q w s := ⟨z, H, I, rw', q⟩
  by_cases h0 : 0 ≤ k
  · have hj : k.toNat = j := by
      rw [seqIndex_of h0 h5] at h1
      exact Option.some.inj h1
    exact wpAny_getItem_list pl.isList h0 (by omega) (by rw [hj]; simpa using ew) fin
  · have hj : (k + (its.toArray.size : Int)).toNat = j := by
      rw [seqIndex_neg (by omega) h4] at h1
      rw [List.size_toArray, ← hl]
      exact Option.some.inj h1
    exact wpAny_getItem_list_neg pl.isList (by omega) (by rw [List.size_toArray] <;> omega) (by omega) (by rw [hj]; simpa using ew) fin
theorem ORs.at {K : Fg} {H Hs : Hp} : ∀ {xs : List OV} {vs : List V} {F : List Addr} {j : Nat} {pv : PV}, ORs K H Hs xs vs F → xs[j]? = some (.p pv) → ∃ v, vs[j]? = some v ∧ Rep K Hs pv v
  | [], vs, F, j, pv, h, e => by simp at e
  | x :: xs, vs, F, 0, pv, h, e => by
    simp only [ORs] at h
    obtain ⟨v, vr, F1, F2, rfl, rfl, h1, h2⟩ := h
    simp at e; subst e
    simp only [OR] at h1
    exact ⟨v, rfl, h1.2⟩
  | x :: xs, vs, F, j + 1, pv, h, e => by
    simp only [ORs] at h
    obtain ⟨v, vr, F1, F2, rfl, rfl, h1, h2⟩ := h
    obtain ⟨w, e1, r⟩ := ORs.at (j := j) h2 (by simpa using e)
    exact ⟨w, by simpa using e1, r⟩
theorem s_augI (i : Nat) {x : Str} {px tpos : Pos} {ke : Expr} {op : Operator} {ti : TIp} {F : PV → PV → Option PV} {m : M Env0 PV} {mk : M Env0 PV} (hN : X.N[i]? = some x) (hv : Vis X.env.scope x) (hk : PE X ke (tG (eM X.K n fx T) mk)) (he : PE X e (tG (eM X.K n fx T) m)) (ho : PIp X op ti) (ad : OpA X.K ti F)
    (hd : (x == ("__debug__" : Str)) = false := by decide) (hcd : (x == ("__classdict__" : Str)) = false := by decide)
    (ha : ∀ ov iv new, augStore ke ov iv new = (do holding [new, ov, iv] (setItem ov iv new); release [new, ov, iv] []; pure .next) := by intros; rfl) :
    PS X (.AugAssign (.Subscript (.Name x px) ke tpos) op e pos) (tS X.K n fx T (sAugI i mk F m)) := by
  refine psImp (ps_augS (pe_var hN hv hd hcd) hk get_list he ho set_list ha) fun D σ H ⟨Hs, U, st, fl, st', hR, hm, k⟩ => ?_
  unfold sAugI at hm
  split at hm
  · cases hm
  rename_i xs0 e0
  split at hm
  · cases hm
  · rename_i kv st1 e1
    split at hm
    · cases hm
    · rename_i xs e2
      split at hm
      · cases hm
      · rename_i j e3
        split at hm
        · rename_i old e4
          split at hm
          · cases hm
          · rename_i y st2 e5
            split at hm
            · cases hm
            · rename_i z e6
              split at hm
              · cases hm
              · rename_i ys e7
                split at hm
                · rename_i hlen
                  cases hm
                  have ea : ∃ a, σ[i]? = some (some (V.ref a)) := by
                    obtain ⟨Fs, hR'⟩ := hR
                    obtain ⟨_, a, _, _, ea, _⟩ := getL_ok hR' e0
                    exact ⟨a, ea⟩
                  obtain ⟨a, ea⟩ := ea
                  refine ⟨.ref a, ea, Hs, U, st, kv, st1, hR, e1, fun kw Hs1 U1 H1 r1 s1 p1 => ?_⟩
                  obtain ⟨Fs1, r1⟩ := r1
                  obtain ⟨hi, a', vs, F', e8, e9, e10, r10⟩ := getL_ok r1 e2
                  rw [ea] at e8; cases e8
                  obtain ⟨q, rfl, hq, hj⟩ := ixP_ok e3 p1
                  obtain ⟨v0, ev0, rv0⟩ := r10.at e4
                  refine ⟨a, vs, q, v0, rfl, rfl, e10, ?_, Hs1, U1, st1, y, st2, ⟨Fs1, r1⟩, e5, fun w Hs2 U2 H2 r2 s2 p2 => ?_⟩
                  · unfold atI; rw [r10.len, hq]; exact ev0
                  refine ad Hs2 H2 old y z v0 w _ e6 (Rep.mono s2.hs old v0 rv0) p2 ((eM X.K n fx T).sub r2) fun u Hs3 H3 p3 q3 => ?_
                  have r3 := (eM X.K n fx T).grow r2 p3
                  obtain ⟨Fs3, r3⟩ := r3
                  obtain ⟨_, a'', vs3, F3, e11, e12, e13, r13⟩ := getL_ok r3 e7
                  rw [ea] at e11; cases e11
                  have ndi := r3.nd i
                  rw [e12] at ndi
                  have hj3 : j < ys.length := by omega
                  obtain ⟨G, g1, g2, g3⟩ := ORs.set1 (j := j) hj3 r13 (or_p (H := H3) q3) (List.nodup_cons.mp ndi).2 List.nodup_nil (fun b hb => by cases hb)
                  obtain ⟨w1, w2⟩ := ER.write (vs' := vs3.set j u) (F := []) (G := G) r3 hi ea e12 e13 (fun b hb => by cases hb) (fun b hb => by cases hb) g3 g2 g1
                  obtain ⟨Fs4, w1⟩ := w1
                  have eU : (fun b => U2 b ∨ b ∈ ([] : List Addr)) = U2 := by funext b; simp
                  rw [eU] at w1
                  refine ⟨a, vs3, q, j, rfl, rfl, e13, by rw [r13.len, hlen]; exact hq, ?_⟩
                  exact k σ Hs3 U2 _ (.refl _ _) ⟨Fs4, w1⟩ (((s1.trans s2).trans (p3.st.lift U2)).trans w2)
                · cases hm
        · cases hm
end
end L3

set_option Elab.async false
set_option linter.all false
set_option maxRecDepth 100000
namespace L3
open PySem PySem.Spec
open PyProof.Rows hiding St
open L2

/-! ### defs -/
def entry (N : Nat) (l : List OV) : Env0 := l.map some ++ List.replicate (N - l.length) none
def runP (N : Nat) (m : SM) (l : List PV) : Option OV := match m (entry N (l.map .p)) with
  | some (.rt v, _) => some v
  | some (.nx, _) => some (.p .none)
  | _ => none
def slot0 (st : Env0) : Option OV := match st[0]? with
  | some (some v) => some v
  | _ => none
def runR (N : Nat) (m : SM) (ov : OV) (l : List PV) : Option (OV × OV) := match m (entry N (ov :: l.map .p)) with
  | some (.rt v, st) => (slot0 st).map fun w => (v, w)
  | some (.nx, st) => (slot0 st).map fun w => (.p .none, w)
  | _ => none
/-- a def of values: a new value, what is owned is new -/
def spP (K : Fg) (T : List Addr) (n : Nat) (g : List PV → Option OV) : Sp := fun vs H Q _ => ∃ Hs l r, Sb Hs H ∧ (∀ P ∈ T, TabG H P) ∧ Reps K Hs l vs ∧ l.length = n ∧ g l = some r ∧
  ∀ v F Hs' H', Stp Hs U0 H Hs' (fun a => a ∈ F) H' → Sb Hs' H' → OwnR K r v F Hs' U0 H' → Q v H'
/-- a def that changes its first argument -/
def spR (K : Fg) (T : List Addr) (n : Nat) (f : OV → List PV → Option (OV × OV)) : Sp := fun vs H Q _ => ∃ Hs v0 vr ov l F0 r ov', vs = v0 :: vr ∧ Sb Hs H ∧ (∀ P ∈ T, TabG H P) ∧ OR K H Hs ov v0 F0 ∧ F0.Nodup ∧ (∀ a ∈ F0, Hs a = none) ∧
  Reps K Hs l vr ∧ l.length + 1 = n ∧ f ov l = some (r, ov') ∧
  ∀ v F F' Hs' H', Stp Hs (fun a => a ∈ F0) H Hs' (fun a => a ∈ F' ∨ a ∈ F) H' → Sb Hs' H' → OR K H' Hs' ov' v0 F' → F'.Nodup → (∀ a ∈ F', Hs' a = none) → OwnR K r v F Hs' (fun a => a ∈ F') H' → Q v H'

theorem entry_get {N : Nat} {l : List OV} {i : Nat} {ov : OV} (h : (entry N l)[i]? = some (some ov)) : l[i]? = some ov := by
  unfold entry at h
  by_cases hi : i < l.length
  · rw [List.getElem?_append_left (by simpa using hi), List.getElem?_map] at h
    cases e : l[i]? with
    | none => rw [e] at h; cases h
    | some x => rw [e] at h; cases h; rfl
  · rw [List.getElem?_append_right (by simpa using hi), List.getElem?_replicate] at h
    split at h <;> cases h
theorem start_get {N : List Str} {vs : List V} {i : Nat} {v : V} (h : vs[i]? = some v) : (L2.start N vs)[i]? = some (some v) := by
  unfold L2.start
  have hi := (List.getElem?_eq_some_iff.mp h).1
  rw [List.getElem?_append_left (by simpa using hi), List.getElem?_map, h]
  rfl
section
variable {P : Program} {w : World} {K : Fg} {mg : Str → Option Value} {base : Heap}
/-- the body of a def of values -/
theorem okE {P : Program} {w : World} {K : Fg} {mg : Str → Option Value} {base : Heap} {x qual : Str} {st : Stmt} {f : Addr} {fd : FuncData} {N ps : List Str} {k : Nat} {sp : Sp} (F : Fun K x qual st f fd) (S : FnScope N ps (defScope st)) (len : ∀ vs H Q E, sp vs H Q E → vs.length = ps.length)
    (hbody : ∀ (cdv : Value), fd.code = cdv → ∀ (A : Around) (outer : List Env) (s : Shared) (H : Hp) (vs : List V) (Q : VK) (E : XK), Room k (A.deeper (envOfC qual (defScope st) s.heap.objs.size f cdv)) → sp vs H Q E →
      ∃ t, PSs (cxOf CX0 P w K mg base N qual (defScope st) f cdv A outer s H E).nox (defBody st) t ∧ t { nx := fun _ H' => Q .non H', rt := Q } (L2.start N vs) H) : FnOk P w K mg base CX0 (k + 1) f fd ps sp := by
  obtain ⟨oc, od, kV, doc, pm, an, cdv, ct, osl, rfl, lk, hcd⟩ := F.ex
  refine fn_of lk hcd S len fun A outer s H vs Q E hr hsp => ?_
  obtain ⟨t, h, q⟩ := hbody cdv rfl A outer s H vs Q E hr hsp
  exact ⟨t, h.nox, q⟩
theorem fn_pure {x qual : Str} {st : Stmt} {f : Addr} {fd : FuncData} {N ps : List Str} {k : Nat} {T : List Addr} {m : SM} (F : Fun K x qual st f fd) (S : FnScope N ps (defScope st))
    (hb : ∀ (cdv : Value), fd.code = cdv → ∀ (A : Around) (outer : List Env) (s : Shared) (H : Hp) (E : XK), Room k (A.deeper (envOfC qual (defScope st) s.heap.objs.size f cdv)) →
      PSs (cxOf CX0 P w K mg base N qual (defScope st) f cdv A outer s H E).nox (defBody st) (tS K N.length [] T m)) :
    FnOk P w K mg base CX0 (k + 1) f fd ps (spP K T ps.length (runP N.length m)) := by
  have hpl : ps.length ≤ N.length := by have := congrArg List.length S.pre; rw [List.length_take] at this; omega
  refine okE F S (fun vs H Q E ⟨Hs, l, r, _, _, h, hl, _⟩ => by rw [h.len, hl]) fun cdv hcd A outer s H vs Q E hr ⟨Hs, l, r, sb, tabs, hv, hl, hg, hk⟩ => ⟨_, hb cdv hcd A outer s H E hr, ?_⟩
  unfold runP at hg
  have hR : (eM K N.length [] T).R (entry N.length (l.map .p)) Hs U0 (L2.start N vs) H := by
    refine ⟨fun _ => [], ⟨sb, ?_, ?_, tabs, fun a u => u.elim, fun i ov e => ?_, fun _ => List.nodup_nil, (fun i j a ha => by cases ha), (fun i a ha => by cases ha)⟩⟩
    · unfold entry; simp; omega
    · unfold L2.start; simp [hv.len]; omega
    · have e := entry_get e
      rw [List.getElem?_map] at e
      cases e2 : l[i]? with
      | none => rw [e2] at e; cases e
      | some p =>
        rw [e2] at e; cases e
        obtain ⟨v, e3, r3⟩ := hv.get e2
        exact ⟨v, start_get e3, or_p r3⟩
  cases hm : m (entry N.length (l.map .p)) with
  | none => rw [hm] at hg; cases hg
  | some q =>
    obtain ⟨fl, st'⟩ := q
    rw [hm] at hg
    refine ⟨Hs, U0, _, fl, st', hR, hm, ?_⟩
    cases fl with
    | rt v =>
      cases hg
      intro σ' u G Hs' U' H' _ r' s' o'
      exact hk u G Hs' H' ⟨s'.hs, s'.fr, s'.tb, s'.ex, fun a z => s'.uu a (.inr z), s'.an, s'.tp⟩ ((eM K N.length [] T).sub r') ⟨o'.1, o'.2.1, fun a ha => ⟨fun z => z, (o'.2.2 a ha).2⟩⟩
    | nx =>
      cases hg
      intro σ' Hs' U' H' _ r' s'
      exact hk .non [] Hs' H' ⟨s'.hs, s'.fr, s'.tb, s'.ex, (fun a z => by cases z), s'.an, s'.tp⟩ ((eM K N.length [] T).sub r') (own_p mk_none)
    | bk => cases hg
    | ct => cases hg
/-- the body of a def that changes its first argument -/
theorem fn_ref {x qual : Str} {st : Stmt} {f : Addr} {fd : FuncData} {N ps : List Str} {k : Nat} {T : List Addr} {m : SM} (F : Fun K x qual st f fd) (S : FnScope N ps (defScope st))
    (hb : ∀ (cdv : Value), fd.code = cdv → ∀ (A : Around) (outer : List Env) (s : Shared) (H : Hp) (E : XK), Room k (A.deeper (envOfC qual (defScope st) s.heap.objs.size f cdv)) →
      PSs (cxOf CX0 P w K mg base N qual (defScope st) f cdv A outer s H E).nox (defBody st) (tS K N.length [0] T m)) :
    FnOk P w K mg base CX0 (k + 1) f fd ps (spR K T ps.length (runR N.length m)) := by
  have hpl : ps.length ≤ N.length := by have := congrArg List.length S.pre; rw [List.length_take] at this; omega
  refine okE F S (fun vs H Q E ⟨Hs, v0, vr, ov, l, F0, r, ov', e, _, _, _, _, _, h, hl, _⟩ => by rw [e]; simp [h.len, hl]) fun cdv hcd A outer s H vs Q E hr ⟨Hs, v0, vr, ov, l, F0, r, ov', ev, sb, tabs, ho, nF, hF, hv, hl, hg, hk⟩ => ⟨_, hb cdv hcd A outer s H E hr, ?_⟩
  subst ev
  unfold runR at hg
  have hR : (eM K N.length [0] T).R (entry N.length (ov :: l.map .p)) Hs (fun a => a ∈ F0) (L2.start N (v0 :: vr)) H := by
    refine ⟨fun i => if i = 0 then F0 else [], ⟨sb, ?_, ?_, tabs, fun a u => ⟨hF a u, OR.isl ov v0 F0 ho a u⟩, fun i ov2 e => ?_, fun i => ?_, fun i j a ha hb2 => ?_, fun i a ha => ?_⟩⟩
    · unfold entry; simp; omega
    · unfold L2.start; simp [hv.len]; omega
    · have e := entry_get e
      cases i with
      | zero =>
        simp at e; subst e
        exact ⟨v0, start_get (by simp), by rw [if_pos rfl]; exact ho⟩
      | succ i =>
        have e : (l.map OV.p)[i]? = some ov2 := by simpa using e
        rw [List.getElem?_map] at e
        cases e2 : l[i]? with
        | none => rw [e2] at e; cases e
        | some p =>
          rw [e2] at e; cases e
          obtain ⟨v, e3, r3⟩ := hv.get e2
          exact ⟨v, start_get (by simpa using e3), by rw [if_neg (by omega)]; exact or_p r3⟩
    · split
      · exact nF
      · exact List.nodup_nil
    · split at ha
      · split at hb2
        · omega
        · cases hb2
      · cases ha
    · split at ha
      · exact ha
      · cases ha
  have key : ∀ {fl : Fl} {st' : Env0} {σ' : L2.St} {Hs' : Hp} {U' : US} {H' : Hp} {w0 : OV}, FxEq [0] (L2.start N (v0 :: vr)) σ' → (eM K N.length [0] T).R st' Hs' U' σ' H' → slot0 st' = some w0 →
      ∃ F', OR K H' Hs' w0 v0 F' ∧ F'.Nodup ∧ (∀ a ∈ F', Hs' a = none) ∧ ∀ a ∈ F', U' a := fun {fl st' σ' Hs' U' H' w0} fx r' e => by
    obtain ⟨Fs, r'⟩ := r'
    unfold slot0 at e
    split at e
    · rename_i q e2
      cases e
      obtain ⟨v, e3, r3⟩ := r'.slot 0 _ e2
      have e4 := fx 0 (by simp)
      rw [e3, start_get (v := v0) (by simp)] at e4
      cases e4
      exact ⟨Fs 0, r3, r'.nd 0, fun a ha => (r'.us a (r'.fu 0 a ha)).1, fun a ha => r'.fu 0 a ha⟩
    · cases e
  cases hm : m (entry N.length (ov :: l.map .p)) with
  | none => rw [hm] at hg; cases hg
  | some q =>
    obtain ⟨fl, st'⟩ := q
    rw [hm] at hg
    refine ⟨Hs, _, _, fl, st', hR, hm, ?_⟩
    cases fl with
    | rt v =>
      simp only at hg
      cases es : slot0 st' with
      | none => rw [es] at hg; cases hg
      | some w0 =>
        rw [es] at hg; cases hg
        intro σ' u G Hs' U' H' fx r' s' o'
        obtain ⟨F', k1, k2, k3, k4⟩ := key (fl := .nx) fx r' es
        refine hk u G F' Hs' H' ⟨s'.hs, s'.fr, s'.tb, s'.ex, fun a z => s'.uu a ?_, s'.an, s'.tp⟩ ((eM K N.length [0] T).sub r') k1 k2 k3 ⟨o'.1, o'.2.1, fun a ha => ⟨fun z => (o'.2.2 a ha).1 (k4 a z), (o'.2.2 a ha).2⟩⟩
        exact z.imp (k4 a) id
    | nx =>
      simp only at hg
      cases es : slot0 st' with
      | none => rw [es] at hg; cases hg
      | some w0 =>
        rw [es] at hg; cases hg
        intro σ' Hs' U' H' fx r' s'
        obtain ⟨F', k1, k2, k3, k4⟩ := key (fl := .nx) fx r' es
        refine hk .non [] F' Hs' H' ⟨s'.hs, s'.fr, s'.tb, s'.ex, fun a z => s'.uu a (k4 a (z.resolve_right (by simp))), s'.an, s'.tp⟩ ((eM K N.length [0] T).sub r') k1 k2 k3 (own_p mk_none)
    | bk => cases hg
    | ct => cases hg
end

/-! ### calls -/
def mCall {S : Type} (n : Nat) (g : List PV → Option OV) (ms : M S (List PV)) : M S PV := bnd ms fun l => lft (if l.length = n then (g l).map toPV else none)
def mCallO (n : Nat) (g : List PV → Option OV) (ms : M Env0 (List PV)) : M Env0 OV := bnd ms fun l => lft (if l.length = n then g l else none)
def mCallR (k n : Nat) (f : OV → List PV → Option (OV × OV)) (ms : M Env0 (List PV)) : M Env0 OV := fun st => match st[k]? with
  | some (some _) => match ms st with
    | none => none
    | some (l, st1) => match st1[k]? with
      | some (some ov) => if l.length + 1 = n then (match f ov l with
          | none => none
          | some (r, ov') => some (r, st1.set k (some ov'))) else none
      | _ => none
  | _ => none
/-- from a body's promise to a value that is relied upon -/
theorem frees {K : Fg} {Hs H Hs' H' : Hp} {r : OV} {v : V} {F : List Addr} (s : Stp Hs U0 H Hs' (fun a => a ∈ F) H') (sb : Sb Hs' H') (o : OwnR K r v F Hs' U0 H') : ∃ Hs'', PStp Hs H Hs'' H' ∧ Rep K Hs'' (toPV r) v := by
  obtain ⟨o1, o2, o3⟩ := o
  have isl := OR.isl r v F o1
  refine ⟨fun a => if a ∈ F then H' a else Hs' a, ⟨⟨fun a u e => ?_, s.fr, s.tb, s.ex, fun a z => z.elim, fun a u e => ?_, s.tp⟩, fun a u e => ?_⟩, ?_⟩
  · have := s.hs a u e
    show (if a ∈ F then H' a else Hs' a) = some u
    split
    · rename_i ha
      rw [(o3 a ha).2] at this; cases this
    · exact this
  · have e : (if a ∈ F then H' a else Hs' a) = some u := e
    split at e
    · rename_i ha
      rcases s.uu a ha with z | z
      · exact z.elim
      · exact .inr (.inl z)
    · exact s.an a u e
  · have e : (if a ∈ F then H' a else Hs' a) = some u := e
    split at e
    · rename_i ha
      obtain ⟨xs, ex⟩ := isl a ha
      rw [ex] at e; cases e
      exact ⟨trivial, ex⟩
    · exact sb a u e
  · refine OR.view (fun a u e => ?_) r v F (fun a ha u e => ?_) o1
    · show (if a ∈ F then H' a else Hs' a) = some u
      rw [if_neg (fun ha => by rw [(o3 a ha).2] at e; cases e)]
      exact e
    · show (if a ∈ F then H' a else Hs' a) = some u
      rw [if_pos ha]; exact e
section
variable {X : Cx} {n k nn : Nat} {T : List Addr} {fx : List Nat} {pos p : Pos} {e : Expr} {es : List Expr} {f : Addr} {fd : FuncData} {ps : List Str} {x : Str} {E : XK} {S : Type} {o : Ops S} {md : Md X.K o}
/-- the tables that stand -/
def HasT {K : Fg} {S : Type} {o : Ops S} (md : Md K o) (T : List Addr) : Prop := ∀ {st Hs U σ H}, md.R st Hs U σ H → ∀ P ∈ T, TabG H P
theorem hasT_p {K : Fg} {n : Nat} {T : List Addr} : HasT (pM K n T) T := fun h => h.tabs
theorem hasT_e {K : Fg} {n : Nat} {fx : List Nat} {T : List Addr} : HasT (eM K n fx T) T := fun ⟨_, h⟩ => h.tabs
theorem tCall_ok {g : List PV → Option OV} {ms : M S (List PV)} (hT : HasT md T) (σ : St) (H : Hp) (Q : VK) (h : tG md (mCall nn g ms) σ H Q) : tCall (spP X.K T nn g) [] E (tGA md ms) σ H Q := by
  obtain ⟨Hs, U, st, pv, st', hR, hm, kk⟩ := h
  refine tGA_seq hR hm fun l st1 vs Hs1 U1 H1 e1 e2 r1 s1 p1 => ?_
  obtain ⟨e3, e4⟩ := lft_some e2
  subst e4
  split at e3
  · rename_i hl
    cases e5 : g l with
    | none => rw [e5] at e3; cases e3
    | some r =>
      rw [e5] at e3; cases e3
      rw [List.append_nil]
      refine ⟨Hs1, l, r, md.sub r1, hT r1, p1, hl, e5, fun v F Hs' H' s sb ow => ?_⟩
      obtain ⟨Hs'', ps, rp⟩ := frees s sb ow
      exact fin_step r1 s1 kk v Hs'' H' ps rp
  · cases e3
theorem g_call {g : List PV → Option OV} {ms : M S (List PV)} (hT : HasT md T) (F : FnOk X.prog X.w X.K X.mg X.base CX0 k f fd ps (spP X.K T nn g)) (hr : Room k X.A) (hg : Gl X x) (hm : X.mg x = some (.ref f)) (hk : PySem.W.keepIn X.K (.ref f) = true) (hb : Binds X.K fd ps [])
    (ha : PA X (e :: es) (tGA md ms)) (hdb : (x == ("__debug__" : Str)) = false := by decide) (he : starEach (e :: es) X.env = (false, eval e X.env) :: starEach es X.env := by rfl) (hpl : (backTo pos (starEach es X.env)).any (·.1) = false := by rfl) :
    PE X (.Call (.Name x p) (e :: es) [] pos) (tG md (mCall nn g ms)) :=
  peImp (pe_call F hr hg hm hk hb .nil pass0 ha hdb he hpl) (tCall_ok hT)
theorem g_call0 {g : List PV → Option OV} (hT : HasT md T) (F : FnOk X.prog X.w X.K X.mg X.base CX0 k f fd ps (spP X.K T nn g)) (hr : Room k X.A) (hg : Gl X x) (hm : X.mg x = some (.ref f)) (hk : PySem.W.keepIn X.K (.ref f) = true) (hb : Binds X.K fd ps [])
    (hdb : (x == ("__debug__" : Str)) = false := by decide) : PE X (.Call (.Name x p) [] [] pos) (tG md (mCall nn g (ret []))) := by
  refine peImp (pe_call0 F hr hg hm hk hb .nil pass0 hdb) fun σ H Q h => ?_
  obtain ⟨Hs, U, st, l, st', hR, hm, kk⟩ := tCall_ok (E := E0) hT σ H Q h
  obtain ⟨rfl, rfl⟩ := ret_some hm
  exact kk [] Hs U H hR (.refl _ _ _) (by simp [Reps])
theorem tCallO_ok {g : List PV → Option OV} {ms : M Env0 (List PV)} (σ : St) (H : Hp) (Q : VK) (h : tO X.K n fx T (mCallO nn g ms) σ H Q) : tCall (spP X.K T nn g) [] E (tGA (eM X.K n fx T) ms) σ H Q := by
  obtain ⟨Hs, U, st, ov, st', hR, hm, kk⟩ := h
  refine tGA_seq hR hm fun l st1 vs Hs1 U1 H1 e1 e2 r1 s1 p1 => ?_
  obtain ⟨e3, e4⟩ := lft_some e2
  subst e4
  split at e3
  · rename_i hl
    rw [List.append_nil]
    refine ⟨Hs1, l, ov, (eM X.K n fx T).sub r1, hasT_e r1, p1, hl, e3, fun v F Hs' H' s sb ow => ?_⟩
    have hu : ∀ a, U1 a → Hs' a = none ∧ ∀ u, H1 a = some u → H' a = some u := fun a u => by
      obtain ⟨e1, w, e2, e3, e4⟩ := (eM X.K n fx T).own r1 u
      refine ⟨?_, fun y ey => ?_⟩
      · cases q : Hs' a with
        | none => rfl
        | some y =>
          rcases s.an a y q with h | h | ⟨xs, rfl, h⟩ | h
          · rw [e1] at h; cases h
          · rw [e2] at h; cases h
          · rw [e2] at h; cases h; exact absurd rfl (e4 xs)
          · exact h.elim
      · rw [e2] at ey; cases ey
        exact s.fr a w e2 e3 (fun z => z)
    refine kk v F Hs' U1 H' ((eM X.K n fx T).move r1 s.hs sb hu s.tb) (s1.trans ⟨s.hs, fun a u e n _ => s.fr a u e n (fun z => z), s.tb, s.ex, fun a z => ?_, fun a u e => (s.an a u e).imp id (.imp id (.imp id False.elim)), s.tp⟩) ⟨ow.1, ow.2.1, fun a ha => ⟨fun u => ?_, (ow.2.2 a ha).2⟩⟩
    · rcases z with z | z
      · exact .inl z
      · rcases s.uu a z with q | q
        · exact q.elim
        · exact .inr q
    · obtain ⟨_, w, e2, _⟩ := (eM X.K n fx T).own r1 u
      rcases s.uu a ha with q | q
      · exact q.elim
      · rw [e2] at q; cases q
  · cases e3
theorem o_call {g : List PV → Option OV} {ms : M Env0 (List PV)} (F : FnOk X.prog X.w X.K X.mg X.base CX0 k f fd ps (spP X.K T nn g)) (hr : Room k X.A) (hg : Gl X x) (hm : X.mg x = some (.ref f)) (hk : PySem.W.keepIn X.K (.ref f) = true) (hb : Binds X.K fd ps [])
    (ha : PA X (e :: es) (tGA (eM X.K n fx T) ms)) (hdb : (x == ("__debug__" : Str)) = false := by decide) (he : starEach (e :: es) X.env = (false, eval e X.env) :: starEach es X.env := by rfl) (hpl : (backTo pos (starEach es X.env)).any (·.1) = false := by rfl) :
    PE X (.Call (.Name x p) (e :: es) [] pos) (tO X.K n fx T (mCallO nn g ms)) :=
  peImp (pe_call F hr hg hm hk hb .nil pass0 ha hdb he hpl) tCallO_ok
/-- f(x, ..): f changes the list in slot i -/
theorem o_callR {i : Nat} {y : Str} {py : Pos} {g : OV → List PV → Option (OV × OV)} {ms : M Env0 (List PV)} (F : FnOk X.prog X.w X.K X.mg X.base CX0 k f fd ps (spR X.K T nn g)) (hr : Room k X.A) (hg : Gl X x) (hm : X.mg x = some (.ref f)) (hk : PySem.W.keepIn X.K (.ref f) = true) (hb : Binds X.K fd ps [])
    (hN : X.N[i]? = some y) (hv : Vis X.env.scope y) (ha : PA X es (tGA (eM X.K n fx T) ms)) (hd : (y == ("__debug__" : Str)) = false := by decide) (hcd : (y == ("__classdict__" : Str)) = false := by decide) (hdb : (x == ("__debug__" : Str)) = false := by decide)
    (he : starEach (.Name y py :: es) X.env = (false, eval (.Name y py) X.env) :: starEach es X.env := by rfl) (hpl : (backTo pos (starEach es X.env)).any (·.1) = false := by rfl) :
    PE X (.Call (.Name x p) (.Name y py :: es) [] pos) (tO X.K n fx T (mCallR i nn g ms)) := by
  refine peImp (pe_call F hr hg hm hk hb .nil pass0 (pa_cons (pe_var hN hv hd hcd) ha he) hdb he hpl) fun σ H Q ⟨Hs, U, st, ov, st', hR, hmm, kk⟩ => ?_
  unfold mCallR at hmm
  split at hmm
  · rename_i ov0 e0
    split at hmm
    · cases hmm
    · rename_i l st1 e1
      split at hmm
      · rename_i ov1 e2
        split at hmm
        · rename_i hl
          split at hmm
          · cases hmm
          · rename_i r ov' e3
            cases hmm
            obtain ⟨Fs, hR'⟩ := id hR
            obtain ⟨v0, ev0, _⟩ := hR'.slot i ov0 e0
            refine ⟨v0, ev0, Hs, U, st, l, st1, hR, e1, fun vr Hs1 U1 H1 r1 s1 p1 => ?_⟩
            obtain ⟨Fs1, r1⟩ := r1
            obtain ⟨v0', ev0', ro⟩ := r1.slot i ov1 e2
            rw [ev0] at ev0'; cases ev0'
            rw [List.append_nil]
            have hi : i < n := by
              have := (List.getElem?_eq_some_iff.mp e2).1
              rwa [r1.l1] at this
            refine ⟨Hs1, v0, vr, ov1, l, Fs1 i, ov, ov', rfl, r1.sb, r1.tabs, ro, r1.nd i, fun a ha => (r1.us a (r1.fu i a ha)).1, p1, hl, e3, fun v G F' Hs' H' s sb ro' nF' hF' ow => ?_⟩
            have isF' := OR.isl ov' v0 F' ro'
            have old : ∀ a, U1 a → ∃ xs, H1 a = some (.lst xs) := fun a u => (r1.us a u).2
            have hu : ∀ a, U1 a → a ∉ Fs1 i → Hs' a = none ∧ ∀ u, H1 a = some u → H' a = some u := fun a u na => by
              obtain ⟨e1, xs, e2⟩ := r1.us a u
              refine ⟨?_, fun y ey => ?_⟩
              · cases q : Hs' a with
                | none => rfl
                | some y =>
                  rcases s.an a y q with h | h | ⟨zs, rfl, h⟩ | h
                  · rw [e1] at h; cases h
                  · rw [e2] at h; cases h
                  · rw [e2] at h; cases h
                  · exact absurd h na
              · rw [e2] at ey; cases ey
                exact s.fr a _ e2 trivial na
            have hout : ∀ a, a ∈ F' ∨ a ∈ G → U1 a → a ∈ Fs1 i := fun a ha u => by
              rcases s.uu a ha with q | q
              · exact q
              · obtain ⟨xs, e2⟩ := old a u
                rw [e2] at q; cases q
            refine kk v G Hs' (fun a => (U1 a ∧ a ∉ Fs1 i) ∨ a ∈ F') H' ⟨fun j => if j = i then F' else Fs1 j, ⟨sb, by simpa using r1.l1, r1.l2, fun P hP => s.tb P (r1.tabs P hP), fun a u => ?_, fun j q eq => ?_, fun j => ?_, fun j c a ha hc => ?_, fun j a ha => ?_⟩⟩ ?_ ⟨ow.1, ow.2.1, fun a ha => ⟨fun u => ?_, (ow.2.2 a ha).2⟩⟩
            · rcases u with ⟨u, na⟩ | u
              · obtain ⟨h1, h2⟩ := hu a u na
                obtain ⟨xs, e2⟩ := old a u
                exact ⟨h1, xs, h2 _ e2⟩
              · exact ⟨hF' a u, isF' a u⟩
            · by_cases z : i = j
              · subst z
                rw [List.getElem?_set_self (by rw [r1.l1]; exact hi)] at eq
                cases eq
                exact ⟨v0, ev0, by rw [if_pos rfl]; exact ro'⟩
              · rw [List.getElem?_set_ne z] at eq
                obtain ⟨w, ew, rw'⟩ := r1.slot j q eq
                refine ⟨w, ew, ?_⟩
                rw [if_neg (fun e => z e.symm)]
                exact OR.move s.hs q w _ (fun b hb u eu => (hu b (r1.fu j b hb) (fun c => z (r1.dj i j b c hb))).2 u eu) rw'
            · split
              · exact nF'
              · exact r1.nd j
            · by_cases z : j = i <;> by_cases z2 : c = i
              · rw [z, z2]
              · rw [if_pos z] at ha; rw [if_neg z2] at hc
                exact absurd (r1.dj c i a hc (hout a (.inl ha) (r1.fu c a hc))) z2
              · rw [if_neg z] at ha; rw [if_pos z2] at hc
                exact absurd (r1.dj j i a ha (hout a (.inl hc) (r1.fu j a ha))) z
              · rw [if_neg z] at ha; rw [if_neg z2] at hc; exact r1.dj j c a ha hc
            · by_cases z : j = i
              · rw [if_pos z] at ha; exact .inr ha
              · rw [if_neg z] at ha; exact .inl ⟨r1.fu j a ha, fun c => z (r1.dj j i a ha c)⟩
            · refine s1.trans ⟨s.hs, fun a u e nt nu => s.fr a u e nt (fun z => nu (r1.fu i a z)), s.tb, s.ex, fun a z => ?_, fun a u e => (s.an a u e).imp id (.imp id (.imp id (r1.fu i a))), s.tp⟩
              rcases z with (⟨z, _⟩ | z) | z
              · exact .inl z
              · rcases s.uu a (.inl z) with q | q
                · exact .inl (r1.fu i a q)
                · exact .inr q
              · rcases s.uu a (.inr z) with q | q
                · exact .inl (r1.fu i a q)
                · exact .inr q
            · rcases u with ⟨u, na⟩ | u
              · exact na (hout a (.inr ha) u)
              · exact (ow.2.2 a ha).1 u
        · cases hmm
      · cases hmm
  · cases hmm
/-- its value, for good -/
def mOut (m : M Env0 OV) : M Env0 PV := fun st => match m st with
  | some (v, st1) => some (toPV v, st1)
  | none => none
theorem e_O {m : M Env0 OV} (h : PE X e (tO X.K n fx T m)) : PE X e (tG (eM X.K n fx T) (mOut m)) := by
  refine peImp h fun σ H Q ⟨Hs, U, st, pv, st', hR, hm, kk⟩ => ?_
  unfold mOut at hm
  split at hm
  · rename_i v st1 e1
    cases hm
    refine ⟨Hs, U, st, _, _, hR, e1, fun w F Hs1 U1 H1 r1 s1 ⟨o1, o2, o3⟩ => ?_⟩
    have isl := OR.isl v w F o1
    have sb := (eM X.K n fx T).sub r1
    have key : Same Hs1 (fun a => if a ∈ F then H1 a else Hs1 a) := fun a u e => by
      show (if a ∈ F then H1 a else Hs1 a) = some u
      rw [if_neg (fun ha => by rw [(o3 a ha).2] at e; cases e)]; exact e
    refine kk w (fun a => if a ∈ F then H1 a else Hs1 a) U1 H1 ((eM X.K n fx T).move r1 key (fun a u e => ?_) (fun a u => ⟨?_, fun _ e => e⟩) (fun _ h => h)) ⟨s1.hs.trans key, s1.fr, s1.tb, s1.ex, fun a u => s1.uu a (.inl u), fun a u e => ?_, s1.tp⟩ (OR.view key v w F (fun a ha u e => ?_) o1)
    · have e : (if a ∈ F then H1 a else Hs1 a) = some u := e
      split at e
      · rename_i ha
        obtain ⟨xs, ex⟩ := isl a ha
        rw [ex] at e; cases e
        exact ⟨trivial, ex⟩
      · exact sb a u e
    · show (if a ∈ F then H1 a else Hs1 a) = none
      rw [if_neg (fun ha => (o3 a ha).1 u)]
      exact ((eM X.K n fx T).own r1 u).1
    · have e : (if a ∈ F then H1 a else Hs1 a) = some u := e
      split at e
      · rename_i ha
        rcases s1.uu a (.inr ha) with q | q
        · exact .inr (.inr (.inr q))
        · exact .inr (.inl q)
      · exact s1.an a u e
    · show (if a ∈ F then H1 a else Hs1 a) = some u
      rw [if_pos ha]; exact e
  · cases hm
end
end L3

set_option Elab.async false
set_option linter.all false
set_option maxRecDepth 100000
namespace L3
open PySem PySem.Spec
open PyProof.Rows hiding St
open L2

/-! ### new lists -/
def ClF (K : Fg) (r : List V → Hp → VK → Prop) (F : List PV → Option (List PV)) : Prop := ∀ (Hs H : Hp) (l l' : List PV) (vs : List V) (Q : VK), F l = some l' → Reps K Hs l vs → Sb Hs H →
  (∀ D xs, H D = none → Reps K Hs l' xs → Q (.ref D) (upd H D (.lst xs))) → r vs H Q
def OpF (K : Fg) (r : R2) (F : PV → PV → Option (List PV)) : Prop := ∀ (Hs H : Hp) (x y : PV) (l' : List PV) (v w : V) (Q : VK), F x y = some l' → Rep K Hs x v → Rep K Hs y w → Sb Hs H →
  (∀ D xs, H D = none → Reps K Hs l' xs → Q (.ref D) (upd H D (.lst xs))) → r v w H Q
section
variable {S : Type} {X : Cx} {o : Ops S} {md : Md X.K o} {a b c e : Expr} {es rest : List Expr} {ma mb mc me : M S PV} {ms : M S (List PV)} {pos : Pos}
/-- a list laid just now -/
theorem fin_F {st : S} {Hs : Hp} {U : US} {σ : St} {H : Hp} {l : List PV} {Q : VK} {Hs0 : Hp} {V0 : US} {H0 : Hp} (hR : md.R st Hs U σ H) (s0 : Stp Hs0 V0 H0 Hs U H)
    (k : ∀ D xs Hs' U' H', md.R st Hs' U' σ H' → Stp Hs0 V0 H0 Hs' U' H' → H' D = some (.lst xs) → Hs' D = none → ¬ U' D → H0 D = none → Reps X.K Hs' l xs → Q (.ref D) H') :
    ∀ D xs, H D = none → Reps X.K Hs l xs → Q (.ref D) (upd H D (.lst xs)) := fun D xs hD r => by
  have hu : ¬ U D := fun u => by
    obtain ⟨_, w, e, _⟩ := md.own hR u
    rw [hD] at e; cases e
  refine k D xs Hs U _ (md.move hR (Same.refl _) (fun a u e => ?_) (fun a u => ⟨(md.own hR u).1, fun x e => ?_⟩) (tabG_upd hD)) (s0.trans (.tmp hD (fun _ z => by cases z) U)) upd_same (sb_none (md.sub hR) hD) hu ?_ r
  · have := md.sub hR a u e
    refine ⟨this.1, ?_⟩
    rw [upd_ne (ne_of_none this.2 hD)]; exact this.2
  · rw [upd_ne (ne_of_none e hD)]; exact e
  · cases q : H0 D with
    | none => rfl
    | some u => exact absurd hD (s0.ex D (by rw [q]; simp))
def lLst (l : List PV) : Option (List PV) := if l.length ≤ LIM then some l else none
theorem f_lst (h : PA X es (tGA md ms)) : PE X (.List es pos) (tF md (mLs lLst ms)) := by
  refine peImp (pe_lst h) fun σ H Q ⟨Hs, U, st, pv, st', hR, hm, k⟩ => ?_
  refine tGA_seq hR hm fun l st1 vs Hs1 U1 H1 _ e2 r1 s1 p1 => ?_
  obtain ⟨e4, e5⟩ := lft_some e2
  subst e5
  unfold lLst at e4
  split at e4
  · rename_i hl
    cases e4
    exact ⟨by rw [p1.len]; exact Nat.le_of_lt (lim_line hl), fun p hp => fin_F r1 s1 k p vs hp p1⟩
  · cases e4
theorem tCB_F {r : List V → Hp → VK → Prop} {F : List PV → Option (List PV)} (ad : ClF X.K r F) (σ : St) (H : Hp) (Q : VK) (h : tF md (mLs F ms) σ H Q) : tCB r (tGA md ms) σ H Q := by
  obtain ⟨Hs, U, st, pv, st', hR, hm, k⟩ := h
  refine tGA_seq hR hm fun l st1 vs Hs1 U1 H1 _ e2 r1 s1 p1 => ?_
  obtain ⟨e4, e5⟩ := lft_some e2
  subst e5
  exact ad Hs1 H1 l pv vs Q e4 p1 (md.sub r1) (fin_F r1 s1 k)
theorem f_callB {id : String} {r : List V → Hp → VK → Prop} {F : List PV → Option (List PV)} {x : Str} {p : Pos} (hc : CallR X (.builtin id) r) (ad : ClF X.K r F) (hg : Gl X x) (hm : X.mg x = none) (hv : bootBuiltins x = some (.builtin id)) (ha : PA X (e :: es) (tGA md ms)) (hn : x ≠ "__name__" := by decide) (hdb : (x == ("__debug__" : Str)) = false := by decide)
    (he : starEach (e :: es) X.env = (false, eval e X.env) :: starEach es X.env := by rfl) (hpl : (backTo pos (starEach es X.env)).any (·.1) = false := by rfl) : PE X (.Call (.Name x p) (e :: es) [] pos) (tF md (mLs F ms)) :=
  peImp (pe_callB hc hg hm hv ha hn hdb he hpl) (tCB_F ad)
theorem f_callTy {T : String} {r : List V → Hp → VK → Prop} {F : List PV → Option (List PV)} {x : Str} {p : Pos} (hc : CallR X (.type T) r) (ad : ClF X.K r F) (hg : Gl X x) (hm : X.mg x = none) (hv : bootBuiltins x = some (.type T)) (ha : PA X (e :: es) (tGA md ms)) (hn : x ≠ "__name__" := by decide) (hdb : (x == ("__debug__" : Str)) = false := by decide)
    (he : starEach (e :: es) X.env = (false, eval e X.env) :: starEach es X.env := by rfl) (hpl : (backTo pos (starEach es X.env)).any (·.1) = false := by rfl) : PE X (.Call (.Name x p) (e :: es) [] pos) (tF md (mLs F ms)) :=
  peImp (pe_callTy hc hg hm hv ha hn hdb he hpl) (tCB_F ad)
def mOpF {S : Type} (F : PV → PV → Option (List PV)) (ma mb : M S PV) : M S (List PV) := bnd ma fun x => bnd mb fun y => lft (F x y)
theorem f_op {op : Operator} {r : R2} {F : PV → PV → Option (List PV)} (ho : OpR X (binaryOp op) r) (ad : OpF X.K r F) (ha : PE X a (tG md ma)) (hb : PE X b (tG md mb)) : PE X (.BinOp a op b pos) (tF md (mOpF F ma mb)) := by
  refine peImp (pe_op ho ha hb) fun σ H Q ⟨Hs, U, st, pv, st', hR, hm, k⟩ => ?_
  refine tG_seq hR hm fun x st1 v Hs1 U1 H1 _ e2 r1 s1 p1 => ?_
  refine tG_seq r1 e2 fun y st2 w Hs2 U2 H2 _ e3 r2 s2 p2 => ?_
  obtain ⟨e4, e5⟩ := lft_some e3
  subst e5
  exact ad Hs2 H2 x y pv v w Q e4 (Rep.mono s2.hs x v p1) p2 (md.sub r2) (fin_F r2 (s1.trans s2) k)
def lAdd : PV → PV → Option (List PV)
  | .list a, .list b => if (a ++ b).length ≤ LIM then some (a ++ b) else none
  | _, _ => none
theorem ad_lAdd {K : Fg} : OpF K rCatR lAdd := by
  intro Hs H x y l v w Q e rx ry sb k
  unfold lAdd at e
  split at e
  · split at e
    · rename_i a b hl
      cases e
      obtain ⟨p, xs, rfl, h1, r1⟩ := rep_lst rx
      obtain ⟨q, ys, rfl, h2, r2⟩ := rep_lst ry
      refine ⟨p, q, xs, ys, rfl, rfl, sb_rd sb h1, sb_rd sb h2, ?_, fun D hD => k D _ hD (Reps.app r1 r2)⟩
      rw [r1.len, r2.len, ← List.length_append]; exact Nat.le_of_lt (lim_line hl)
    · cases e
  · cases e
def lMul : PV → PV → Option (List PV)
  | .list a, .int k => if 0 ≤ k ∧ k ≤ 100000 ∧ a.length * k.toNat ≤ LIM then some (List.replicate k.toNat a).flatten else none
  | _, _ => none
theorem ad_lMul {K : Fg} : OpF K rRepR lMul := by
  intro Hs H x y l v w Q e rx ry sb k
  unfold lMul at e
  split at e
  · split at e
    · rename_i a b hl
      cases e
      obtain ⟨p, xs, rfl, h1, r1⟩ := rep_lst rx
      exact ⟨p, _, xs, rfl, rep_int ry, sb_rd sb h1, by omega, by omega, by rw [r1.len]; exact Nat.le_of_lt (lim_line hl.2.2), fun D hD => k D _ hD (r1.rep _)⟩
    · cases e
  · cases e
def lList : List PV → Option (List PV)
  | [.list l] => some l
  | [.tuple l] => some l
  | _ => none
theorem ad_lList {K : Fg} : ClF K (fun xs H Q => ∃ p ys, xs = [.ref p] ∧ (SqL K H p ys ∨ SqT K H p ys) ∧ ∀ l, H l = none → Q (.ref l) (upd H l (.lst ys))) lList := by
  intro Hs H l z vs Q e r sb k
  unfold lList at e
  split at e
  · cases e
    obtain ⟨v, rfl, h⟩ := reps1 r
    obtain ⟨a, xs, rfl, s, q⟩ := rep_lst h
    exact ⟨a, xs, rfl, .inl (.inl (sb_rd sb s)), fun D hD => k D xs hD q⟩
  · cases e
    obtain ⟨v, rfl, h⟩ := reps1 r
    obtain ⟨a, xs, rfl, s, q⟩ := rep_tup h
    exact ⟨a, xs, rfl, .inr (sqT_mono sb.same s), fun D hD => k D xs hD q⟩
  · cases e
def mSlF {S : Type} (m : M S PV) (l h : M S (Option Int)) : M S (List PV) := bnd m fun x => bnd l fun lo => bnd h fun hi => lft (match x with
  | .list l => some (cutP l lo hi)
  | _ => none)
theorem f_slice {lo hi : Option Expr} {p2 : Pos} {ml mh : M S (Option Int)} (he : PE X e (tG md me)) (hl : PO X lo (tGO md ml)) (hu : PO X hi (tGO md mh)) : PE X (.Subscript e (.Slice lo hi none p2) pos) (tF md (mSlF me ml mh)) := by
  refine peImp (pe_slice sl_list he hl hu) fun σ H Q ⟨Hs, U, st, pv, st', hR, hm, k⟩ => ?_
  refine tG_seq hR hm fun x st1 v Hs1 U1 H1 e1 e2 r1 s1 p1 => ?_
  obtain ⟨lo, st2, e3, e4⟩ := bnd_some e2
  refine ⟨Hs1, U1, st1, lo, st2, r1, e3, fun Hs2 U2 H2 r2 s2 => ?_⟩
  obtain ⟨hi, st3, e5, e6⟩ := bnd_some e4
  refine ⟨Hs2, U2, st2, hi, st3, r2, e5, fun Hs3 U3 H3 r3 s3 => ?_⟩
  obtain ⟨e7, e8⟩ := lft_some e6
  subst e8
  have p3 := Rep.mono (s2.hs.trans s3.hs) x v p1
  split at e7
  · cases e7
    obtain ⟨a, xs, rfl, s, r⟩ := rep_lst p3
    exact ⟨a, xs, rfl, .inl (sb_rd (md.sub r3) s), fun D hD => fin_F r3 ((s1.trans s2).trans s3) k D _ hD (cut_rep r lo hi)⟩
  · cases e7
theorem f_lc {elt tg iter : Expr} {ifs : List Expr} {scope : Scope} {own : List (Str × Nat)} {mi : M S (List PV)} {mt : M S Bool} {tt : Tg} (hc : X.calm = true) (hN : X.N.Nodup) (hi : PI X tg iter (tI md mi)) (ok : BlkOk X.N X.env.scope scope own)
    (hg : ∀ (s : Shared) (H : Hp) (C : Addr) (cl : List (Str × Addr)) (fp : List Addr), PG (X.blk s H scope (compEnvC scope cl C X.env) fp) tg (tT md tt)) (ht : ∀ (s : Shared) (H : Hp) (C : Addr) (cl : List (Str × Addr)) (fp : List Addr), PTs (X.blk s H scope (compEnvC scope cl C X.env) fp) ifs (tGT md mt))
    (he : ∀ (s : Shared) (H : Hp) (C : Addr) (cl : List (Str × Addr)) (fp : List Addr), PE (X.blk s H scope (compEnvC scope cl C X.env) fp) elt (tG md me)) (hs : ∀ x, foldedSetIterable iter X.env x = pure x := by intro _; rfl) :
    PE X (.ListComp elt [⟨tg, iter, ifs, 0⟩] scope pos) (tF md (mLcC o (own.map (·.2)) tt mi mt me)) := by
  refine peImp (pe_lc hc hN hi ok hg ht he hs) fun σ H Q ⟨Hs, U, st, l, st', hR, hm, k⟩ => ?_
  exact tLc_core (fun _ _ _ h => h) (fun _ _ _ _ h => h) (fun _ _ _ h => h) (fun _ _ _ h => h) hR hm k
end
section
variable {X : Cx} {n : Nat} {T : List Addr} {fx : List Nat} {pos : Pos} {e : Expr}
theorem o_F {m : M Env0 (List PV)} (h : PE X e (tF (eM X.K n fx T) m)) : PE X e (tO X.K n fx T (mFL m)) := peImp h tF_O
theorem o_FP {m : M PE0 (List PV)} (h : PE X e (tF (pM X.K n T) m)) : PE X e (tO X.K n fx T (mFLP m)) := peImp h tF_OP
theorem o_FV {m : M PE0 (List PV)} (h : PE X e (tF (pM X.K n T) m)) : PE X e (tO X.K n fx T (mFLV m)) := peImp h tF_OV
/-- a slot's content is handed on -/
def mTake (fx : List Nat) (i : Nat) : M Env0 OV := fun st => match st[i]? with
  | some (some v) => if fx.contains i = true then none else some (v, st.set i none)
  | _ => none
theorem o_take (i : Nat) {x : Str} (hN : X.N[i]? = some x) (hv : Vis X.env.scope x) (hd : (x == ("__debug__" : Str)) = false := by decide) (hcd : (x == ("__classdict__" : Str)) = false := by decide) : PE X (.Name x pos) (tO X.K n fx T (mTake fx i)) := by
  refine peImp (pe_var hN hv hd hcd) fun σ H Q ⟨Hs, U, st, ov, st', ⟨Fs, hR⟩, hm, k⟩ => ?_
  unfold mTake at hm
  split at hm
  · rename_i v e1
    split at hm
    · cases hm
    · cases hm
      obtain ⟨w, ew, r⟩ := hR.slot i _ e1
      refine ⟨w, ew, k w (Fs i) Hs (fun a => U a ∧ a ∉ Fs i) H ⟨fun j => if j = i then [] else Fs j, ⟨hR.sb, by simpa using hR.l1, hR.l2, hR.tabs, fun a u => hR.us a u.1, fun j q eq => ?_, fun j => ?_, fun j c a ha hc => ?_, fun j a ha => ?_⟩⟩ ?_ ⟨r, hR.nd i, fun a ha => ⟨fun u => u.2 ha, (hR.us a (hR.fu i a ha)).1⟩⟩⟩
      · by_cases z : i = j
        · subst z
          by_cases hi : i < st.length
          · rw [List.getElem?_set_self hi] at eq; cases eq
          · rw [List.getElem?_eq_none (by simpa using hi)] at eq; cases eq
        · rw [List.getElem?_set_ne z] at eq
          obtain ⟨w2, ew2, r2⟩ := hR.slot j q eq
          exact ⟨w2, ew2, by rw [if_neg (fun e => z e.symm)]; exact r2⟩
      · split
        · exact List.nodup_nil
        · exact hR.nd j
      · by_cases z : j = i
        · rw [if_pos z] at ha; cases ha
        · by_cases z2 : c = i
          · rw [if_pos z2] at hc; cases hc
          · rw [if_neg z] at ha; rw [if_neg z2] at hc; exact hR.dj j c a ha hc
      · by_cases z : j = i
        · rw [if_pos z] at ha; cases ha
        · rw [if_neg z] at ha; exact ⟨hR.fu j a ha, fun c => z (hR.dj j i a ha c)⟩
      · exact ⟨Same.refl _, fun a u e _ _ => e, fun _ h => h, fun _ h => h, fun a u => .inl (by
          rcases u with u | u
          · exact u.1
          · exact hR.fu i a u), fun a u e => .inl e, fun a xs e => .inr e⟩
  · cases hm
/-- from here on slot i is not changed any more: its content is a value -/
def frzS (i : Nat) (st : Env0) : Option Env0 := match st[i]? with
  | some (some v) => some (st.set i (some (.p (toPV v))))
  | _ => none
def sFrz (i : Nat) (m : SM) : SM := fun st => match frzS i st with
  | none => none
  | some st1 => m st1
theorem tFrz {m : SM} (i : Nat) (D : Ends) (σ : St) (H : Hp) (h : tS X.K n fx T (sFrz i m) D σ H) : tS X.K n fx T m D σ H := by
  obtain ⟨Hs, U, st, fl, st', ⟨Fs, hR⟩, hm, k⟩ := h
  unfold sFrz frzS at hm
  split at hm
  · cases hm
  · rename_i st1 e0
    split at e0
    · rename_i v e1
      cases e0
      obtain ⟨w, ew, r⟩ := hR.slot i _ e1
      have isl := OR.isl v w _ r
      have hn : ∀ a ∈ Fs i, Hs a = none := fun a ha => (hR.us a (hR.fu i a ha)).1
      have key : Same Hs (fun a => if a ∈ Fs i then H a else Hs a) := fun a u e => by
        show (if a ∈ Fs i then H a else Hs a) = some u
        rw [if_neg (fun ha => by rw [hn a ha] at e; cases e)]; exact e
      have sb : Sb (fun a => if a ∈ Fs i then H a else Hs a) H := fun a u e => by
        have e : (if a ∈ Fs i then H a else Hs a) = some u := e
        split at e
        · rename_i ha
          obtain ⟨xs, ex⟩ := isl a ha
          rw [ex] at e; cases e
          exact ⟨trivial, ex⟩
        · exact hR.sb a u e
      have rep := OR.view key v w (Fs i) (fun a ha u e => by
        show (if a ∈ Fs i then H a else Hs a) = some u
        rw [if_pos ha]; exact e) r
      have hin : i < n := by
        have := (List.getElem?_eq_some_iff.mp e1).1
        rwa [hR.l1] at this
      refine ⟨_, fun a => U a ∧ a ∉ Fs i, _, fl, st', ⟨fun j => if j = i then [] else Fs j, ⟨sb, by simpa using hR.l1, hR.l2, hR.tabs, fun a u => ⟨?_, (hR.us a u.1).2⟩, fun j q eq => ?_, fun j => ?_, fun j c a ha hc => ?_, fun j a ha => ?_⟩⟩, hm, k.pre (.refl _ _) ⟨key, fun a u e _ _ => e, fun _ h => h, fun _ h => h, fun a u => .inl u.1, fun a u e => ?_, fun a xs e => .inr e⟩⟩
      · show (if a ∈ Fs i then H a else Hs a) = none
        rw [if_neg u.2]; exact (hR.us a u.1).1
      · by_cases z : i = j
        · subst z
          rw [List.getElem?_set_self (by rw [hR.l1]; exact hin)] at eq
          cases eq
          exact ⟨w, ew, by rw [if_pos rfl]; exact or_p rep⟩
        · rw [List.getElem?_set_ne z] at eq
          obtain ⟨w2, ew2, r2⟩ := hR.slot j q eq
          exact ⟨w2, ew2, by rw [if_neg (fun e => z e.symm)]; exact OR.move key q w2 _ (fun a _ u e => e) r2⟩
      · split
        · exact List.nodup_nil
        · exact hR.nd j
      · by_cases z : j = i
        · rw [if_pos z] at ha; cases ha
        · by_cases z2 : c = i
          · rw [if_pos z2] at hc; cases hc
          · rw [if_neg z] at ha; rw [if_neg z2] at hc; exact hR.dj j c a ha hc
      · by_cases z : j = i
        · rw [if_pos z] at ha; cases ha
        · rw [if_neg z] at ha; exact ⟨hR.fu j a ha, fun c => z (hR.dj j i a ha c)⟩
      · have e : (if a ∈ Fs i then H a else Hs a) = some u := e
        split at e
        · rename_i ha
          exact .inr (.inr (.inr (hR.fu i a ha)))
        · exact .inl e
    · cases e0
theorem ss_frz {as : List Stmt} {m : SM} (i : Nat) (h : PSs X as (tS X.K n fx T m)) : PSs X as (tS X.K n fx T (sFrz i m)) := pssImp h (tFrz i)
end
end L3

set_option Elab.async false
set_option linter.all false
set_option maxRecDepth 100000
namespace L3
open PySem PySem.Spec
open PyProof.Rows hiding St
open L2
open RZ (ItzT pi_zipA)

/-! ### x += n -/
def fAddI : PV → PV → Option PV
  | .int i, .int j => some (.int (i + j))
  | _, _ => none
theorem ad_ipAdd {K : Fg} : OpA K (ipI fun i j => i + j) fAddI := by
  intro Hs H x y z v w Q e rx ry sb k
  unfold fAddI at e
  split at e
  · cases e
    exact ⟨_, _, rep_int rx, rep_int ry, k _ Hs H (.refl sb) mk_int⟩
  · cases e
theorem ad_ipSub {K : Fg} : OpA K (ipI fun i j => i - j) fSub := by
  intro Hs H x y z v w Q e rx ry sb k
  unfold fSub at e
  split at e
  · cases e
    exact ⟨_, _, rep_int rx, rep_int ry, k _ Hs H (.refl sb) mk_int⟩
  · cases e
/-! ### {} -/
section
variable {S : Type} {X : Cx} {o : Ops S} {md : Md X.K o} {e : Expr} {es : List Expr} {ms : M S (List PV)} {pos : Pos}
theorem g_dict0 : PE X (.Dict [] [] pos) (tG md (ret (.dict []))) := by
  refine peImp pe_dnewK fun σ H Q ⟨Hs, U, st, pv, st', hR, hm, k⟩ => ?_
  obtain ⟨rfl, rfl⟩ := ret_some hm
  intro d hd
  have al := PStp.alloc (o := .dK []) (md.sub hR) hd trivial
  exact fin_step hR (.refl _ _ _) k _ _ _ al (by simp only [Rep]; exact ⟨trivial, d, rfl, upd_same⟩)
/-- a module's whole number -/
theorem g_globI {x : Str} {i : Int} {t : Tok} {pos : Pos} (hg : Gl X x) (hm : X.mg x = some (.int i t)) (hd : (x == ("__debug__" : Str)) = false := by decide) : PE X (.Name x pos) (tG md (ret (.int i))) :=
  peImp (pe_glob (v := .int i) hg hm ⟨t, rfl⟩ hd) (tC_ok fun _ => mk_int)

/-! ### enumerate of a tuple -/
theorem enumNewT (l : Addr) (items : Array Value) (n : Nat) (dct : Option Addr) (sl : Array (Option Value)) :
    Meets (Builtin.«enumerate.__new__» ⟨[.type "enumerate", .ref l], []⟩) (fun _ R s => s.heap.get? l = some { cls := .type "tuple", dict := dct, data := .seq items n, slots := sl } ∧
      R (.ok (.ret (.ref (s.heap.push { cls := .type "tuple_iterator", data := .fields #[.ref l, .int 0 0] }).objs.size)))
        { s with heap := (s.heap.push { cls := .type "tuple_iterator", data := .fields #[.ref l, .int 0 0] }).push { cls := .type "enumerate", data := .fields #[.none, .bool false, .ref s.heap.objs.size, rawInt 0, .none, .none] } }) :=
  .of_wp fun prog w A R s h => by
    obtain ⟨hp, g, d, tk, os⟩ := s
    obtain ⟨hl, h⟩ := h
    have hsub := sub_enumerate
    have hT : Heap.IsTuple (Shared.heap ⟨hp, g, d, tk, os⟩) l items := ⟨_, hl, rfl, n, rfl⟩
    wp_walk using AutoSeq1.wpAny_loadPart' hl
    refine wpAny_stack_any fun st => wpAny_pure ?_
    split
    · rename_i c _ _ _ _ _
      cases (c == Value.type "enumerate") <;>
        (wp_walk using AutoSeq1.wpAny_loadPart' hl, wpAny_pyIter_tuple hT; exact ⟨_, rfl, h⟩)
    · wp_walk using AutoSeq1.wpAny_loadPart' hl, wpAny_pyIter_tuple hT
      exact ⟨_, rfl, h⟩
theorem enumCallT {prog : Program} {w : World} {A : Around} {E : Value → Shared → Prop} {s : Shared} {l : Addr} {items : Array Value} {Q : Value → Shared → Prop} (hL : s.heap.IsTuple l items)
    (h : ∀ h', IsEnum h' (s.heap.objs.size + 1) s.heap.objs.size 0 .none → h'.IsTupleIter s.heap.objs.size l 0 → h'.objs.size = s.heap.objs.size + 2 →
      (∀ b o, s.heap.get? b = some o → h'.get? b = some o) → Q (.ref (s.heap.objs.size + 1)) { s with heap := h' }) :
    wpAny (model prog w) A (call (.type "enumerate") [.ref l]) Q E s := by
  obtain ⟨⟨c, dct, dt, sl⟩, hl, hc, n, hd⟩ := hL
  obtain rfl : c = .type "tuple" := hc
  obtain rfl : dt = .seq items n := hd
  refine callType_new F.called_enumerate (by decide) (F.typeCall_enumerate_1 _) (F.newCall_enumerate_1 _) (fun obj => F.args_object_init_2 obj _) F.entry_enumerate_new (enumNewT l items n dct sl) ⟨hl, ?_⟩
  have z1 : (s.heap.push { cls := .type "tuple_iterator", data := .fields #[.ref l, .int 0 0] }).objs.size = s.heap.objs.size + 1 := Heap.size_push ..
  have he : IsEnum ((s.heap.push { cls := .type "tuple_iterator", data := .fields #[.ref l, .int 0 0] }).push { cls := .type "enumerate", data := .fields #[.none, .bool false, .ref s.heap.objs.size, rawInt 0, .none, .none] }) (s.heap.objs.size + 1) s.heap.objs.size 0 .none := by
    rw [← z1]
    exact Heap.get?_push_size _ rfl
  show _ ∧ _
  rw [z1]
  exact ⟨⟨_, he, rfl⟩, h _ he ⟨_, Heap.get?_push_of_some _ (Heap.get?_push_size _ rfl), rfl, rfl⟩ (by rw [Heap.size_push, z1]) fun b o x => Heap.get?_push_of_some _ (Heap.get?_push_of_some _ x)⟩
def IteT (K : Fg) (a : Addr) : It :=
  ⟨fun i H => ∃ (xs : List V) (x : V), SqT K H a xs ∧ xs[i]? = some x, fun i H v H' => ∃ T x, v = .ref T ∧ H T = none ∧ H' = upd H T (.tup [.int (i : Nat), x]) ∧ ∀ xs, SqT K H a xs → xs[i]? = some x, fun i H => ∃ xs : List V, SqT K H a xs ∧ xs.length = i⟩
theorem turnEnumT {P : Program} {w : World} {K : Fg} {elts : List Expr} {kk : Nat} {tpos : Pos} (a e it : Addr) (hae : a ≠ e) (hai : a ≠ it) :
    Turn P w K (.Tuple elts kk tpos) (IteT K a) [e, it] e (fun i h => (∃ old, IsEnum h e it ((i : Nat) : Int) old) ∧ h.IsTupleIter it a i ∧ e ≠ it) where
  mem := by simp
  obj := fun i h st b hb => by
    obtain ⟨⟨old, he⟩, ⟨o, ho, hc, hd⟩, _⟩ := st
    rcases List.mem_cons.mp hb with z | z
    · rw [z]; exact ⟨_, he, fun v q => nomatch q⟩
    · rw [List.mem_singleton.mp z]; exact ⟨o, ho, fun v q => by rw [hd] at q; cases q⟩
  keep := fun i h h' st k => let ⟨⟨old, he⟩, hi, hne⟩ := st; ⟨⟨old, k e (by simp) _ he⟩, hi.at fun o q => k it (by simp) o q, hne⟩
  item := by
    intro X hP hw hK hc i pins s σ H E I hf st hg
    subst hP hw hK
    obtain ⟨⟨old, he⟩, hit, hne⟩ := st
    obtain ⟨xs, x, hq, hx⟩ := hg
    obtain ⟨its, rv, p, hz⟩ := I.tuple hq
    obtain ⟨u, hu, ru⟩ := rv.get hx
    have hel : e < s.heap.objs.size := Heap.lt_size he
    have hil : it < s.heap.objs.size := by obtain ⟨_, q, _⟩ := hit; exact Heap.lt_size q
    have hli : i < its.toArray.size := by
      have := (List.getElem?_eq_some_iff.mp hu).1
      simpa using this
    have hlt : a < s.heap.objs.size := by obtain ⟨_, q, _⟩ := p; exact Heap.lt_size q
    have D := Draws.tuple (prog := X.prog) (w := X.w) (A := X.A.in1) (I.ok.hd hc) it a hai its.toArray
    refine wpAny_pyNext_enum_itemD D he ⟨hit, p⟩ hli hne (by simp; exact ⟨hne, fun z => hae z.symm⟩) fun y h' tk hy ho hst' hT hsz hk => ?_
    have hyu : y = u := by
      have : its[i]? = some y := by simpa using hy
      rw [hu] at this; exact (Option.some.inj this).symm
    subst hyu
    refine ⟨_, rfl, wpAny_letOwnedTupleGo_enum (s := { s with heap := h', toks := tk + 1 }) ho fun h'' he' sb => ?_⟩
    have hT2 : h''.get? s.heap.objs.size = some { cls := .type "tuple", data := .seq #[.int i tk, y] } := (sb.2 _ (Nat.ne_of_gt hel)).trans hT
    have new : ObjOk X.prog X.w (upd H s.heap.objs.size (.tup [.int (i : Nat), x])) h'' s.heap.objs.size (.tup [.int (i : Nat), x]) :=
      ⟨by show 2 ≤ sizeLine; decide, [.int i tk, y], .cons ⟨_, rfl⟩ (.cons ru .nil), ⟨_, hT2, rfl, _, rfl⟩⟩
    have I1 : Inv X pins σ (upd H s.heap.objs.size (.tup [.int (i : Nat), x])) { s with heap := h'', toks := tk + 1 } :=
      I.turnedNew (ch := [e, it]) (fun b ob hb q => (sb.2 b (fun z => hb (by simp [z]))).trans (hk b ob (fun z => hb (by simp [z])) (fun z => hb (by simp [z])) q)) hf (Nat.le_refl _) new
    refine ⟨.ref s.heap.objs.size, _, I1, rfl, ⟨_, x, rfl, I.hok.fresh (Nat.le_refl _), rfl, fun ys hy => by rw [I.tuple_inj hy hq]; exact hx⟩, ⟨⟨y, ?_⟩, hst'.1.at fun o q => (sb.2 it (Ne.symm hne)).trans q, hne⟩, fun b hb => ?_⟩
    · have e1 : ((i + 1 : Nat) : Int) = (i : Int) + 1 := by omega
      rw [e1]; exact he'
    · have hb' : b < s.heap.objs.size := by
        rcases List.mem_cons.mp hb with z | z
        · rw [z]; exact hel
        · rw [List.mem_singleton.mp z]; exact hil
      rw [upd_ne (Nat.ne_of_lt hb')]
      exact (hf b hb).1
  done := by
    intro X hP hw hK hc i pins s σ H E I hf st hg
    subst hP hw hK
    obtain ⟨⟨old, he⟩, hit, hne⟩ := st
    obtain ⟨xs, hq, hx⟩ := hg
    obtain ⟨its, rv, p, hz⟩ := I.tuple hq
    obtain ⟨f0, f1, f2, f3, f4, f5⟩ := hf it (by simp)
    have D := Draws.tuple (prog := X.prog) (w := X.w) (A := X.A.in1) (I.ok.hd hc) it a hai its.toArray
    have hi : its.toArray.size = i := by rw [← hx, rv.length]; simp
    exact wpAny_pyNext_enum_endD D he (by rw [hi]; exact ⟨hit, p⟩) fun h' eb => ⟨rfl, I.turned (t' := s.toks) (fun b o hb q => eb b o hb q) f0 f1 f3 f4 f5⟩
  self := fun A i s Q E st h => let ⟨⟨_, he⟩, _⟩ := st; wpAny_pyIter_enum he h
def iEnumT (K : Fg) (ta : TA) : TI := fun σ H R => ta σ H fun vs H1 => ∃ a xs, vs = [.ref a] ∧ SqT K H1 a xs ∧ R (IteT K a) H1
theorem pi_enumT {X : Cx} {e : Expr} {ta : TA} {p pos tpos : Pos} {elts : List Expr} {kk : Nat} (hg : Gl X "enumerate") (hm : X.mg "enumerate" = none) (ha : PA X [e] ta) (hs : starEach [e] X.env = [(false, eval e X.env)] := by rfl) :
    PI X (.Tuple elts kk tpos) (.Call (.Name "enumerate" p) [e] [] pos) (iEnumT X.K ta) := by
  refine ⟨fun pins s σ H R I h => ?_⟩
  refine Call_ (ld_blt I hg hm boot_enumerate (PyProof.Rows.callWith_type1 (thn (ha.run pos pins s σ H _ I h) fun us s1 ⟨vs, H1, I1, r1, q1⟩ => ?_) hs rfl))
  obtain ⟨a, xs, ex, hq, q⟩ := q1
  subst ex
  cases r1 with
  | cons r rr =>
    cases rr
    cases r
    obtain ⟨its, rv, pt, hz⟩ := I1.tuple hq
    have hlt : a < s1.heap.objs.size := by obtain ⟨_, q, _⟩ := pt; exact Heap.lt_size q
    refine enumCallT pt fun h' he hit hsz hk => wpAny_pyIter_enum he ?_
    have I2 : Inv X pins σ H1 { s1 with heap := h' } := I1.kept (t' := s1.toks) hk
    refine ⟨s1.heap.objs.size + 1, [s1.heap.objs.size + 1, s1.heap.objs.size], _, _, H1, rfl, I2, turnEnumT a (s1.heap.objs.size + 1) s1.heap.objs.size (Nat.ne_of_lt (Nat.lt_succ_of_lt hlt)) (Nat.ne_of_lt hlt), ⟨⟨.none, he⟩, hit, Nat.succ_ne_self _⟩, fun b hb => ?_, q⟩
    have hle : s1.heap.objs.size ≤ b := by
      rcases List.mem_cons.mp hb with z | z
      · rw [z]; exact Nat.le_succ _
      · rw [List.mem_singleton.mp z]; exact Nat.le_refl _
    exact I1.fpOk hle (I1.hok.fresh hle)
theorem wlk_enumT {K : Fg} {Hs : Hp} {a : Addr} {xs : List V} {l : List PV} (s : Tp K Hs a xs) (r : Reps K Hs l xs) : Wlk K Hs (IteT K a) ((List.range l.length).zipWith (fun (i : Nat) x => .tuple [.int i, x]) l) where
  go := fun Hs2 i H k sb hi => by
    have hi : i < l.length := by simpa using hi
    obtain ⟨x, e, _⟩ := r.get (List.getElem?_eq_getElem hi)
    exact ⟨xs, x, sqT_mono sb.same (tp_mono k s), e⟩
  yld := fun Hs2 i H x H' p k sb e y => by
    obtain ⟨T, x, rfl, hT, rfl, y⟩ := y
    obtain ⟨q, e1, rfl⟩ := enum_get e
    obtain ⟨v, e2, q⟩ := r.get e1
    have := y xs (sqT_mono sb.same (tp_mono k s))
    rw [e2] at this; cases this
    have al := PStp.alloc (o := .tup [.int i, x]) sb hT trivial
    exact ⟨_, al, mk_tup (.inl upd_same) (.cons mk_int (.cons (Rep.mono (k.trans al.st.hs) _ _ q) (by simp [Reps])))⟩
  stop := fun Hs2 H k sb => by
    have e : ((List.range l.length).zipWith (fun (i : Nat) x => PyData.tuple [.int i, x]) l).length = xs.length := by simp [r.len]
    rw [e]
    exact ⟨xs, sqT_mono sb.same (tp_mono k s), rfl⟩
def fEnumA : List PV → Option (List PV)
  | [.list l] => some ((List.range l.length).zipWith (fun (i : Nat) x => .tuple [.int i, x]) l)
  | [.tuple l] => some ((List.range l.length).zipWith (fun (i : Nat) x => .tuple [.int i, x]) l)
  | _ => none
theorem i_enumA {p tpos : Pos} {elts : List Expr} {kk : Nat} (hg : Gl X "enumerate") (hm : X.mg "enumerate" = none) (ha : PA X [e] (tGA md ms)) (hs : starEach [e] X.env = [(false, eval e X.env)] := by rfl) : PI X (.Tuple elts kk tpos) (.Call (.Name "enumerate" p) [e] [] pos) (tI md (mLs fEnumA ms)) := by
  refine piImp (PI.or (pi_enum hg hm ha hs) (pi_enumT hg hm ha hs)) fun σ H Rk ⟨Hs, U, st, l, st', hR, hm, k⟩ => ?_
  obtain ⟨l0, st1, e1, e2⟩ := bnd_some hm
  obtain ⟨e7, e8⟩ := lft_some e2
  subst e8
  unfold fEnumA at e7
  split at e7
  · cases e7
    refine .inl ⟨Hs, U, st, _, _, hR, e1, fun vs Hs1 U1 H1 r1 s1 p1 => ?_⟩
    obtain ⟨v, rfl, h⟩ := reps1 p1
    obtain ⟨a, xs, rfl, s, q⟩ := rep_lst h
    exact ⟨a, xs, rfl, .inl (sb_rd (md.sub r1) s), k _ _ _ _ r1 s1 (wlk_enum s q)⟩
  · cases e7
    refine .inr ⟨Hs, U, st, _, _, hR, e1, fun vs Hs1 U1 H1 r1 s1 p1 => ?_⟩
    obtain ⟨v, rfl, h⟩ := reps1 p1
    obtain ⟨a, xs, rfl, s, q⟩ := rep_tup h
    exact ⟨a, xs, rfl, sqT_mono (md.sub r1).same s, k _ _ _ _ r1 s1 (wlk_enumT s q)⟩
  · cases e7

/-! ### a, b = a list -/
def setTL {S : Type} (o : Ops S) (tg : Tg) (p : PV) (st : S) : Option S := match tg with
  | .nm i => if o.wr i = true then some (o.set st i p) else none
  | .tp is => match p with
    | .list l => setN o is l st
    | _ => none
theorem t_unl {kk : Nat} {is : List Nat} (hc : X.calm = true) (h : PGs X es (gNames is))
    (hn : (assignEach es X.env).length = is.length := by rfl) (hst : (assignEach es X.env).findIdx? (·.1) = none := by rfl) : PG X (.Tuple es kk pos) (fun v σ H Q => ∃ Hs U st l st', md.R st Hs U σ H ∧ Rep X.K Hs (.list l) v ∧ setN o is l st = some st' ∧
      ∀ σ', (∀ own : List Nat, TgIn (.tp is) own → wipe σ' own = wipe σ own ∧ ∀ j, j ∉ own → σ'[j]? = σ[j]?) → md.R st' Hs U σ' H → Q σ' H) := by
  refine pgImp (pg_unl (n := is.length) hc h hn hst) fun v σ H Q ⟨Hs, U, st, l, st', hR, hr, hs, k⟩ => ?_
  obtain ⟨a, xs, rfl, s, q⟩ := rep_lst hr
  obtain ⟨h1, h2⟩ := setN_ok hR q hs
  exact ⟨a, xs, rfl, .inl (sb_rd (md.sub hR) s), h1, h1, k _ (fun own h => setσ_wipe h) h2⟩
end
def sAsgL (o : Ops Env0) (is : List Nat) (m : M Env0 PV) : SM := fun st => match m st with
  | some (.list l, st1) => match setN o is l st1 with
    | none => none
    | some st2 => some (.nx, st2)
  | _ => none
section
variable {X : Cx} {n : Nat} {T : List Addr} {fx : List Nat} {pos : Pos} {e : Expr}
theorem s_asgL {m : M Env0 PV} {is : List Nat} {es : List Expr} {kk : Nat} {tpos : Pos} (he : PE X e (tG (eM X.K n fx T) m)) (hc : X.calm = true) (h : PGs X es (gNames is)) (hs : swapsWithSole [.Tuple es kk tpos] e pos.line X.env = pure false := by rfl) (hw : swappedStores [.Tuple es kk tpos] e X.env = pure none := by rfl)
    (h1 : (assignEach [.Tuple es kk tpos] X.env).map (·.2) = [assign (.Tuple es kk tpos) X.env] := by rfl)
    (hn : (assignEach es X.env).length = is.length := by rfl) (hst : (assignEach es X.env).findIdx? (·.1) = none := by rfl) : PS X (.Assign [.Tuple es kk tpos] e pos) (tS X.K n fx T (sAsgL (eO n fx) is m)) := by
  refine psImp (ps_asg he (t_unl (md := eM X.K n fx T) hc h hn hst) hs hw h1) fun D σ H ⟨Hs, U, st, fl, st', hR, hm, k⟩ => ?_
  unfold sAsgL at hm
  split at hm
  · rename_i l st1 e1
    split at hm
    · cases hm
    · rename_i st2 e2
      cases hm
      refine ⟨Hs, U, st, .list l, st1, hR, e1, fun w Hs1 U1 H1 r1 s1 p1 => ?_⟩
      have e3 : setT (eO n fx) (.tp is) (.tuple l) st1 = some st' := e2
      obtain ⟨own, ho1, ho2⟩ := tgt_set (K := X.K) e3
      exact ⟨Hs1, U1, st1, l, _, r1, p1, e2, fun σ' hσ r2 => k σ' Hs1 U1 H1 (fun q hq => (hσ own ho1).2 q (ho2 q hq)) r2 s1⟩
  · cases hm
end

/-! ### the law's frame: _law_pool(script) -/
def saltOf (ns : List Int) : Int := ns.foldl (fun salt cell => (salt * 31 + cell).fmod 1000003) 7
def pool0 (ns : List Int) : OV := .l [.l (ns.map fun i => .p (.int i)), .p (.int 0), .p (.int 0), .p (.int 0), .p (.int (saltOf ns))]
theorem salt_step (s c : Int) : 0 ≤ (s * 31 + c).fmod 1000003 ∧ (s * 31 + c).fmod 1000003 < 1000003 := by
  rw [Int.fmod_eq_emod_of_nonneg _ (by decide)]
  exact ⟨Int.emod_nonneg _ (by decide), Int.emod_lt_of_pos _ (by decide)⟩
theorem salt_bd (ns : List Int) : 0 ≤ saltOf ns ∧ saltOf ns < 1000003 := by
  unfold saltOf
  have key : ∀ (ns : List Int) (s : Int), 0 ≤ s ∧ s < 1000003 → 0 ≤ ns.foldl (fun salt cell => (salt * 31 + cell).fmod 1000003) s ∧ ns.foldl (fun salt cell => (salt * 31 + cell).fmod 1000003) s < 1000003 := by
    intro ns
    induction ns with
    | nil => intro s h; exact h
    | cons c ns ih => intro s h; exact ih _ (salt_step s c)
  exact key ns 7 (by decide)
/-- what _law_pool promises -/
def spPool (K : Fg) : Sp := fun vs H Q _ => ∃ (a : Addr) (ns : List Int), vs = [.ref a] ∧ SqL K H a (ns.map V.int) ∧ ns.length ≤ 63 ∧
  ∀ p q H', H p = none → H q = none → p ≠ q → H' p = some (.lst [.ref q, .int 0, .int 0, .int 0, .int (saltOf ns)]) → H' q = some (.lst (ns.map V.int)) → Same H H' → Q (.ref p) H'
/-- its body's reading -/
theorem pool_reads {K : Fg} {a : Addr} {ns : List Int} {H : Hp} {Q : VK} (hS : SqL K H a (ns.map V.int)) (hl : ns.length ≤ 63)
    (q : ∀ p q H', H p = none → H q = none → p ≠ q → H' p = some (.lst [.ref q, .int 0, .int 0, .int 0, .int (saltOf ns)]) → H' q = some (.lst (ns.map V.int)) → Same H H' → Q (.ref p) H') :
    tSeq (tAsg (tC (.int 7)) (gName 1)) (tSeq (tFor (iList K (tSl (rSlL K) (tVar 0) tNoPart (tPart (tC (.int 63))))) (gName 2)
      (tAsg (tOp (rI (fun _ j => j ≠ 0) fun i j => .int (i.fmod j)) (tCB (fun xs H Q => (∃ i, xs = [.int i] ∧ Q (.int i) H) ∨ ∃ k, xs = [.bl k] ∧ Q (.int (if k then 1 else 0)) H) (tCons (tOp (rI0 fun i j => .int (i + j)) (tOp (rI CMulW fun i j => .int (i * j)) (tVar 1) (tC (.int 31))) (tVar 2)) tNil)) (tC (.int 1000003))) (gName 1)))
      (tRet (tLst (tCons (tCB (fun xs H Q => ∃ p ys, xs = [.ref p] ∧ (SqL K H p ys ∨ SqT K H p ys) ∧ ∀ l, H l = none → Q (.ref l) (upd H l (.lst ys))) (tCons (tVar 0) tNil)) (tCons (tC (.int 0)) (tCons (tC (.int 0)) (tCons (tC (.int 0)) (tCons (tVar 1) tNil)))))))) { nx := fun _ H' => Q .non H', rt := Q } [some (.ref a), none, none] H := by
  have hcut : cutV (ns.map V.int) none (some 63) = ns.map V.int := by
    unfold cutV
    rw [HT.sIx_none, show HT.sIx (ns.map V.int).length (ns.map V.int).length (some 63) = min 63 (ns.map V.int).length from HT.sIx_nat _ _ 63, List.drop_zero, Nat.sub_zero]
    apply List.take_of_length_le
    simp only [List.length_map]
    omega
  refine ⟨.ref a, rfl, 63, rfl, a, ns.map V.int, rfl, hS, fun c nc => ?_⟩
  rw [hcut]
  refine ⟨c, rfl, ⟨ns.map V.int, .inl (.inl upd_same)⟩, fun i m σ H3 => ∃ x, σ = [some (.ref a), some (.int (saltOf (ns.take i))), x] ∧ i + m = ns.length ∧ H3 = upd H c (.lst (ns.map V.int)), ⟨ns.length, none, rfl, by omega, rfl⟩, fun i m σ H3 hW => ?_⟩
  obtain ⟨x, rfl, em, rfl⟩ := hW
  have hC : SqL K (upd H c (.lst (ns.map V.int))) c (ns.map V.int) := .inl (.inl upd_same)
  by_cases hi : i < ns.length
  · have g : (ns.map V.int)[i]? = some (.int ns[i]) := by
      rw [List.getElem?_map, List.getElem?_eq_getElem hi]; rfl
    refine .inr ⟨⟨_, _, hC, g⟩, fun σ' H' => ∃ x, σ' = [some (.ref a), some (.int (saltOf (ns.take (i + 1)))), x] ∧ H' = upd H c (.lst (ns.map V.int)), fun σ' H' ⟨y, e1, e2⟩ => ⟨m - 1, by omega, y, e1, by omega, e2⟩, fun v H' hy => ?_⟩
    obtain ⟨rfl, fv⟩ := hy
    have ev : v = .int ns[i] := Option.some.inj ((fv _ hC).symm.trans g)
    subst ev
    have sb := salt_bd (ns.take i)
    refine ⟨.int (saltOf (ns.take i)), rfl, _, _, rfl, rfl, ?_, .int ns[i], rfl, _, _, rfl, rfl, .inl ⟨_, rfl, _, _, rfl, rfl, (by show (1000003 : Int) ≠ 0; decide), some (.int ns[i]), ?_, rfl⟩⟩
    · refine wide_mul (a := 30) (b := 30) ?_ (by decide) (by decide) (by decide) (by decide)
      have : (2 : Nat) ^ 30 = 1073741824 := by decide
      omega
    · have e1 : saltOf (ns.take (i + 1)) = (saltOf (ns.take i) * 31 + ns[i]).fmod 1000003 := by
        unfold saltOf
        rw [List.take_succ_eq_append_getElem hi, List.foldl_append]
        rfl
      rw [e1]
      rfl
  · have e : i = ns.length := by omega
    subst e
    rw [List.take_length]
    refine .inl ⟨⟨_, hC, by simp⟩, ?_⟩
    have ac : SqL K (upd H c (.lst (ns.map V.int))) a (ns.map V.int) := (same_upd nc).seq hS
    refine ⟨.ref a, rfl, a, ns.map V.int, rfl, .inl ac, fun l hl2 => ⟨_, rfl, by show 5 ≤ sizeLine; decide, fun p hp => ?_⟩⟩
    have hlc : l ≠ c := fun z => by subst z; rw [upd_same] at hl2; cases hl2
    have hpl : p ≠ l := fun z => by subst z; rw [upd_same] at hp; cases hp
    rw [upd_ne hpl] at hp
    have s1 := same_upd (o := .lst (ns.map V.int)) nc
    have s2 := same_upd (o := .lst (ns.map V.int)) hl2
    have s3 : Same (upd (upd H c (.lst (ns.map V.int))) l (.lst (ns.map V.int))) (upd (upd (upd H c (.lst (ns.map V.int))) l (.lst (ns.map V.int))) p (.lst [.ref l, .int 0, .int 0, .int 0, .int (saltOf ns)])) := same_upd (by rw [upd_ne hpl]; exact hp)
    exact q p l _ (s1.free hp) (s1.free hl2) hpl upd_same (by rw [upd_ne (Ne.symm hpl)]; exact upd_same) ((s1.trans s2).trans s3)
/-- what the law promises -/
def spLaw (K : Fg) (T : List Addr) : Sp := fun vs H Q _ => ∃ (a : Addr) (ns : List Int), vs = [.ref a] ∧ SqL K H a (ns.map V.int) ∧ ns.length ≤ 63 ∧ (∀ P ∈ T, TabG H P) ∧ ∀ H', Q (.bl true) H'
def lawEnv (n : Nat) (ns : List Int) : Env0 := none :: some (pool0 ns) :: List.replicate (n - 2) none
theorem noT_tab {H : Hp} {p : Addr} (h : H p = none) : noT H p = none := by
  unfold noT; rw [h]
/-- behind pool = _law_pool(script) -/
theorem law_start {K : Fg} {n : Nat} {T : List Addr} {H H' : Hp} {p q a : Addr} {ns : List Int} (hn : 2 ≤ n) (tabs : ∀ P ∈ T, TabG H P) (hp : H p = none) (hq : H q = none) (hpq : p ≠ q)
    (ep : H' p = some (.lst [.ref q, .int 0, .int 0, .int 0, .int (saltOf ns)])) (eq : H' q = some (.lst (ns.map V.int))) (s : Same H H') :
    (eM K n [] T).R (lawEnv n ns) (noT H) (fun b => b = p ∨ b = q) (some (.ref a) :: some (.ref p) :: List.replicate (n - 2) none) H' := by
  have lst : ∀ ns : List Int, ORs K H' (noT H) (ns.map fun i => OV.p (.int i)) (ns.map V.int) [] := by
    intro ns
    induction ns with
    | nil => simp [ORs]
    | cons i ns ih =>
      simp only [List.map_cons, ORs]
      exact ⟨.int i, ns.map V.int, [], [], rfl, rfl, or_p mk_int, ih⟩
  refine ⟨fun i => if i = 1 then [p, q] else [], ⟨fun b o e => ?_, by simp [lawEnv]; omega, by simp; omega, fun P hP => ?_, fun b u => ?_, fun i ov e => ?_, fun i => ?_, fun i j b hb hc => ?_, fun i b hb => ?_⟩⟩
  · have := noT_sb H b o e
    exact ⟨this.1, s b o this.2⟩
  · exact (tabs P hP).map (fun ps e => s _ _ e) fun c q e => s _ _ e
  · rcases u with rfl | rfl
    · exact ⟨noT_tab hp, _, ep⟩
    · exact ⟨noT_tab hq, _, eq⟩
  · match i, e with
    | 0, e => simp [lawEnv] at e
    | 1, e =>
      simp only [lawEnv, List.getElem?_cons_succ, List.getElem?_cons_zero, Option.some.injEq] at e
      subst e
      refine ⟨.ref p, by simp, ?_⟩
      rw [if_pos rfl]
      unfold pool0
      simp only [OR]
      refine ⟨p, _, [q], rfl, rfl, ep, ?_⟩
      simp only [ORs, OR]
      exact ⟨.ref q, _, [q], [], rfl, rfl, ⟨q, _, [], rfl, rfl, eq, lst ns⟩, .int 0, _, [], [], rfl, rfl, ⟨rfl, mk_int⟩, .int 0, _, [], [], rfl, rfl, ⟨rfl, mk_int⟩, .int 0, _, [], [], rfl, rfl, ⟨rfl, mk_int⟩, .int (saltOf ns), _, [], [], rfl, rfl, ⟨rfl, mk_int⟩, rfl, rfl⟩
    | i + 2, e =>
      simp only [lawEnv, List.getElem?_cons_succ, List.getElem?_replicate] at e
      split at e <;> cases e
  · split
    · simp [hpq]
    · exact List.nodup_nil
  · split at hb
    · split at hc
      · omega
      · cases hc
    · cases hb
  · split at hb
    · simpa using hb
    · cases hb
section
variable {P : Program} {w : World} {K : Fg} {mg : Str → Option Value} {base : Heap}
theorem fn_none {f : Addr} {fd : FuncData} {ps : List Str} {k n : Nat} {T : List Addr} (h : ps.length = n) : FnOk P w K mg base CX0 k f fd ps (spP K T n fun _ => none) :=
  ⟨fun _ _ _ _ ⟨_, _, _, _, _, _, _, z, _⟩ => (by cases z), fun _ _ _ _ _ _ _ _ _ _ _ _ _ ⟨_, _, _, _, _, _, _, z, _⟩ => (by cases z)⟩
theorem fn_noneR {f : Addr} {fd : FuncData} {ps : List Str} {k n : Nat} {T : List Addr} (h : ps.length = n) : FnOk P w K mg base CX0 k f fd ps (spR K T n fun _ _ => none) :=
  ⟨fun _ _ _ _ ⟨_, _, _, _, _, _, _, _, _, _, _, _, _, _, _, _, z, _⟩ => (by cases z), fun _ _ _ _ _ _ _ _ _ _ _ _ _ ⟨_, _, _, _, _, _, _, _, _, _, _, _, _, _, _, _, z, _⟩ => (by cases z)⟩
theorem fn_law {qual : Str} {st : Stmt} {f : Addr} {fd : FuncData} {N : List Str} {k : Nat} {T : List Addr} {m : SM} {x : Str} (F : Fun K x qual st f fd) (S : FnScope N ["script"] (defScope st)) (hn : 2 ≤ N.length)
    (hm : ∀ ns : List Int, ns.length ≤ 63 → ∃ st', m (lawEnv N.length ns) = some (.rt (.p (.bool true)), st'))
    (hb : ∀ (cdv : Value), fd.code = cdv → ∀ (A : Around) (outer : List Env) (s : Shared) (H : Hp) (E : XK), Room k (A.deeper (envOfC qual (defScope st) s.heap.objs.size f cdv)) →
      PSs (cxOf CX0 P w K mg base N qual (defScope st) f cdv A outer s H E).nox (defBody st) (tSeq (tAsg (tCall (spPool K) [] E0 (tCons (tVar 0) tNil)) (gName 1)) (tS K N.length [] T m))) :
    FnOk P w K mg base CX0 (k + 1) f fd ["script"] (spLaw K T) := by
  refine okE F S (fun vs H Q E ⟨a, ns, e, _⟩ => by rw [e]; rfl) fun cdv hcd A outer s H vs Q E hr ⟨a, ns, ev, hS, hl, tabs, hk⟩ => ⟨_, hb cdv hcd A outer s H E hr, ?_⟩
  subst ev
  refine ⟨.ref a, by unfold L2.start; simp, a, ns, rfl, hS, hl, fun p q H' hp hq hpq ep eq sm => ?_⟩
  obtain ⟨st', e1⟩ := hm ns hl
  have hσ : (L2.start N [V.ref a]).set 1 (some (.ref p)) = some (.ref a) :: some (.ref p) :: List.replicate (N.length - 2) none := by
    unfold L2.start
    obtain ⟨m2, e2⟩ : ∃ m2, N.length - 1 = m2 + 1 := ⟨N.length - 2, by omega⟩
    have e3 : N.length - 2 = m2 := by omega
    simp only [List.map_cons, List.map_nil, List.length_cons, List.length_nil, Nat.zero_add, e2, e3, List.replicate_succ]
    rfl
  show (tS K N.length [] T m) _ ((L2.start N [V.ref a]).set 1 (some (.ref p))) H'
  rw [hσ]
  refine ⟨noT H, _, _, _, st', law_start hn tabs hp hq hpq ep eq sm, e1, ?_⟩
  intro σ' v F Hs' U' H'' _ _ _ o
  obtain ⟨o1, _, _⟩ := o
  simp only [OR] at o1
  rw [rep_bool o1.2]
  exact hk H''
end
end L3

set_option Elab.async false
set_option linter.all false
set_option maxRecDepth 100000
namespace L3
open PySem PySem.Spec
open PyProof.Rows hiding St
open L2

/-! ### working a mirror out -/
section
variable {S α β : Type}
@[simp] theorem ev_ret (a : α) (s : S) : (L3.ret a : M S α) s = some (a, s) := rfl
def bndK (r : Option (α × S)) (f : α → M S β) : Option (β × S) := match r with
  | none => none
  | some (a, s) => f a s
@[simp] theorem bndK_none (f : α → M S β) : bndK none f = none := rfl
@[simp] theorem bndK_some (a : α) (s : S) (f : α → M S β) : bndK (some (a, s)) f = f a s := rfl
@[simp] theorem ev_bnd (m : M S α) (f : α → M S β) (s : S) : bnd m f s = bndK (m s) f := by
  unfold bnd bndK
  cases m s with
  | none => rfl
  | some r => rfl
def lftK (r : Option α) (s : S) : Option (α × S) := match r with
  | none => none
  | some a => some (a, s)
@[simp] theorem lftK_none (s : S) : (lftK (none : Option α) s) = none := rfl
@[simp] theorem lftK_some (a : α) (s : S) : lftK (some a) s = some (a, s) := rfl
@[simp] theorem ev_lft (r : Option α) (s : S) : (lft r : M S α) s = lftK r s := by cases r <;> rfl
@[simp] theorem ev_mOp (F : PV → PV → Option PV) (a b : M S PV) (s : S) : mOp F a b s = bndK (a s) fun x => bnd b fun y => lft (F x y) := by unfold mOp; simp
@[simp] theorem ev_mUn (F : PV → Option PV) (a : M S PV) (s : S) : mUn F a s = bndK (a s) fun x => lft (F x) := by unfold mUn; simp
@[simp] theorem ev_mCl (F : List PV → Option PV) (a : M S (List PV)) (s : S) : mCl F a s = bndK (a s) fun x => lft (F x) := by unfold mCl; simp
@[simp] theorem ev_mCons (a : M S PV) (b : M S (List PV)) (s : S) : mCons a b s = bndK (a s) fun x => bnd b fun l => L3.ret (x :: l) := by unfold mCons; simp
@[simp] theorem ev_mTr (a : M S PV) (s : S) : mTr a s = bndK (a s) fun x => lft (truthP x) := by unfold mTr; simp
@[simp] theorem ev_mNot (a : M S Bool) (s : S) : mNot a s = bndK (a s) fun x => L3.ret (!x) := by unfold mNot; simp
@[simp] theorem ev_mAnd (a b : M S Bool) (s : S) : mAnd a b s = bndK (a s) fun x => if x = true then b else L3.ret false := by
  unfold mAnd; simp only [ev_bnd]; congr 1; funext c; cases c <;> rfl
@[simp] theorem ev_mOr (a b : M S Bool) (s : S) : mOr a b s = bndK (a s) fun x => if x = true then L3.ret true else b := by
  unfold mOr; simp only [ev_bnd]; congr 1; funext c; cases c <;> rfl
@[simp] theorem ev_mIf (c : M S Bool) (a b : M S α) (s : S) : mIf c a b s = bndK (c s) fun x => if x = true then a else b := by
  unfold mIf; simp only [ev_bnd]; congr 1; funext c; cases c <;> rfl
@[simp] theorem ev_mAndV (a b : M S PV) (s : S) : mAndV a b s = bndK (a s) fun x => bnd (lft (truthP x)) fun c => if c = true then b else L3.ret x := by
  unfold mAndV; simp only [ev_bnd]; congr 1; funext x; congr 1; funext c; cases c <;> rfl
@[simp] theorem ev_mOrV (a b : M S PV) (s : S) : mOrV a b s = bndK (a s) fun x => bnd (lft (truthP x)) fun c => if c = true then L3.ret x else b := by
  unfold mOrV; simp only [ev_bnd]; congr 1; funext x; congr 1; funext c; cases c <;> rfl
@[simp] theorem ev_ite {p : Prop} [Decidable p] (a b : M S α) (s : S) : (if p then a else b) s = if p then a s else b s := by split <;> rfl
@[simp] theorem ev_mLs (F : List PV → Option (List PV)) (a : M S (List PV)) (s : S) : mLs F a s = bndK (a s) fun x => lft (F x) := by unfold mLs; simp
@[simp] theorem ev_mItems (a : M S PV) (s : S) : mItems a s = bndK (a s) fun x => lft (items x) := by unfold mItems; simp
@[simp] theorem ev_mPart (a : M S PV) (s : S) : mPart a s = bndK (a s) fun x => lft (asInt x) := by unfold mPart; simp
@[simp] theorem ev_mSl (a : M S PV) (l h : M S (Option Int)) (s : S) : mSl a l h s = bndK (a s) fun x => bnd l fun lo => bnd h fun hi => lft (fSl x lo hi) := by unfold mSl; simp
@[simp] theorem ev_mOpF (F : PV → PV → Option (List PV)) (a b : M S PV) (s : S) : mOpF F a b s = bndK (a s) fun x => bnd b fun y => lft (F x y) := by unfold mOpF; simp
@[simp] theorem ev_mCall (n : Nat) (g : List PV → Option OV) (a : M S (List PV)) (s : S) : mCall n g a s = bndK (a s) fun l => lft (if l.length = n then (g l).map toPV else none) := by unfold mCall; simp
end
@[simp] theorem ev_mCallO (n : Nat) (g : List PV → Option OV) (a : M Env0 (List PV)) (s : Env0) : mCallO n g a s = bndK (a s) fun l => lft (if l.length = n then g l else none) := by unfold mCallO; simp
@[simp] theorem ev_varP (n i : Nat) (s : PE0) : mVar (pO n) i s = (match s[i]? with
  | some (some v) => some (v, s)
  | _ => none) := by
  unfold mVar
  rcases h : s[i]? with _ | _ | v <;> simp [h]
@[simp] theorem ev_varE (n : Nat) (fx : List Nat) (i : Nat) (s : Env0) : mVar (eO n fx) i s = (match s[i]? with
  | some (some (.p v)) => some (v, s)
  | _ => none) := by
  unfold mVar
  rcases h : s[i]? with _ | _ | _ | _ <;> simp [h, eGet]
@[simp] theorem ev_mO (m : M Env0 PV) (s : Env0) : mO m s = bndK (m s) fun v => L3.ret (.p v) := by unfold mO; simp
@[simp] theorem ev_mFL (m : M Env0 (List PV)) (s : Env0) : mFL m s = bndK (m s) fun l => L3.ret (.l (l.map .p)) := by unfold mFL; simp
def mpK {α : Type} (r : Option (α × PE0)) (s : Env0) : Option (α × Env0) := match r with
  | none => none
  | some (v, _) => some (v, s)
@[simp] theorem mpK_some {α : Type} (v : α) (x : PE0) (s : Env0) : mpK (some (v, x)) s = some (v, s) := rfl
@[simp] theorem mpK_none {α : Type} (s : Env0) : mpK (none : Option (α × PE0)) s = none := rfl
@[simp] theorem ev_mP {α : Type} (m : M PE0 α) (s : Env0) : mP m s = mpK (m (persE s)) s := by unfold mP mpK; cases m (persE s) <;> rfl
@[simp] theorem ev_mVT (m : M PE0 Bool) (s : Env0) : mVT m s = mpK (m (viewE s)) s := by unfold mVT mpK; cases m (viewE s) <;> rfl
def mvK (r : Option (PV × PE0)) (s : Env0) : Option (PV × Env0) := match r with
  | none => none
  | some (v, _) => if lf v = true then some (v, s) else none
@[simp] theorem mvK_some (v : PV) (x : PE0) (s : Env0) : mvK (some (v, x)) s = if lf v = true then some (v, s) else none := rfl
@[simp] theorem mvK_none (s : Env0) : mvK none s = none := rfl
@[simp] theorem ev_mV (m : M PE0 PV) (s : Env0) : mV m s = mvK (m (viewE s)) s := by unfold mV mvK; cases m (viewE s) <;> rfl
def mflK (r : Option (List PV × PE0)) (s : Env0) : Option (OV × Env0) := match r with
  | none => none
  | some (v, _) => some (.l (v.map .p), s)
@[simp] theorem mflK_some (v : List PV) (x : PE0) (s : Env0) : mflK (some (v, x)) s = some (.l (v.map .p), s) := rfl
@[simp] theorem ev_mFLP (m : M PE0 (List PV)) (s : Env0) : mFLP m s = mflK (m (persE s)) s := by unfold mFLP mflK; cases m (persE s) <;> rfl
def outK (r : Option (OV × Env0)) : Option (PV × Env0) := match r with
  | none => none
  | some (v, s) => some (toPV v, s)
@[simp] theorem outK_some (v : OV) (s : Env0) : outK (some (v, s)) = some (toPV v, s) := rfl
@[simp] theorem ev_mOut (m : M Env0 OV) (s : Env0) : mOut m s = outK (m s) := by unfold mOut outK; cases m s <;> rfl
def crK (r : Option (OV × OV)) (k : Nat) (s : Env0) : Option (OV × Env0) := match r with
  | none => none
  | some (r, w) => some (r, s.set k (some w))
@[simp] theorem crK_some (r w : OV) (k : Nat) (s : Env0) : crK (some (r, w)) k s = some (r, s.set k (some w)) := rfl
/-! statements -/
def sqK (r : Option (Fl × Env0)) (b : SM) : Option (Fl × Env0) := match r with
  | none => none
  | some (.nx, s) => b s
  | some (f, s) => some (f, s)
@[simp] theorem sqK_nx (s : Env0) (b : SM) : sqK (some (.nx, s)) b = b s := rfl
@[simp] theorem sqK_rt (v : OV) (s : Env0) (b : SM) : sqK (some (.rt v, s)) b = some (.rt v, s) := rfl
@[simp] theorem sqK_bk (s : Env0) (b : SM) : sqK (some (.bk, s)) b = some (.bk, s) := rfl
@[simp] theorem sqK_ct (s : Env0) (b : SM) : sqK (some (.ct, s)) b = some (.ct, s) := rfl
@[simp] theorem ev_sSeq (a b : SM) (s : Env0) : sSeq a b s = sqK (a s) b := by
  unfold sSeq sqK; split <;> simp_all
@[simp] theorem ev_sIf (c : M Env0 Bool) (a b : SM) (s : Env0) : sIf c a b s = bndK (c s) fun x => if x = true then a else b := by
  unfold sIf bndK; split <;> simp_all
@[simp] theorem ev_sNx (s : Env0) : sNx s = some (.nx, s) := rfl
@[simp] theorem ev_sBk (s : Env0) : sBk s = some (.bk, s) := rfl
@[simp] theorem ev_sCt (s : Env0) : sCt s = some (.ct, s) := rfl
@[simp] theorem ev_sRet (m : M Env0 OV) (s : Env0) : sRet m s = bndK (m s) fun v => (fun s1 => some (.rt v, s1) : M Env0 Fl) := by
  unfold sRet bndK; cases m s <;> rfl
@[simp] theorem ev_sExpr (m : M Env0 PV) (s : Env0) : sExpr m s = bndK (m s) fun v => (fun s1 => some (.nx, s1) : M Env0 Fl) := by
  unfold sExpr bndK; cases m s <;> rfl
@[simp] theorem ev_sSet (n : Nat) (fx : List Nat) (i : Nat) (m : M Env0 OV) (s : Env0) : sSet (eO n fx) i m s = bndK (m s) fun v => (fun s1 => if (decide (i < n) && !fx.contains i) = true then some (.nx, s1.set i (some v)) else none : M Env0 Fl) := by
  unfold sSet bndK; cases m s <;> rfl
def parK (i j : Nat) (l : List PV) (s : Env0) : Option (Fl × Env0) := match l with
  | [v, w] => some (.nx, (s.set i (some (.p v))).set j (some (.p w)))
  | _ => none
@[simp] theorem parK_2 (i j : Nat) (v w : PV) (s : Env0) : parK i j [v, w] s = some (.nx, (s.set i (some (.p v))).set j (some (.p w))) := rfl
@[simp] theorem ev_sPar (n : Nat) (fx : List Nat) (i j : Nat) (ms : M Env0 (List PV)) (s : Env0) : sPar (eO n fx) i j ms s = bndK (ms s) fun l => (fun s1 => if (decide (i < n) && !fx.contains i) = true ∧ (decide (j < n) && !fx.contains j) = true then parK i j l s1 else none : M Env0 Fl) := by
  unfold sPar bndK parK
  cases ms s with
  | none => simp
  | some r => obtain ⟨l, s1⟩ := r; match l with
    | [v, w] => rfl
    | [] => simp
    | [v] => simp
    | v :: w :: x :: l => simp
@[simp] theorem ev_sFor (o : Ops Env0) (tg : Tg) (mi : M Env0 (List PV)) (body : SM) (s : Env0) : sFor o tg mi body s = bndK (mi s) fun l => forL o tg body l := by
  unfold sFor bndK; cases mi s <;> rfl
def lOf (x : Option (Option OV)) : Option (List OV) := match x with
  | some (some (.l xs)) => some xs
  | _ => none
@[simp] theorem lOf_l (xs : List OV) : lOf (some (some (.l xs))) = some xs := rfl
@[simp] theorem ev_getL (s : Env0) (i : Nat) : getL s i = lOf s[i]? := rfl
def siW (j : Option Nat) (xs : List OV) (v : OV) (i : Nat) (s : Env0) : Option (Fl × Env0) := match j with
  | some j => some (.nx, s.set i (some (.l (xs.set j v))))
  | none => none
@[simp] theorem siW_some (j : Nat) (xs : List OV) (v : OV) (i : Nat) (s : Env0) : siW (some j) xs v i s = some (.nx, s.set i (some (.l (xs.set j v)))) := rfl
def siJ (g : Option (List OV)) (k : PV) (v : OV) (i : Nat) (s : Env0) : Option (Fl × Env0) := match g with
  | some xs => siW (ixP xs.length k) xs v i s
  | none => none
@[simp] theorem siJ_some (xs : List OV) (k : PV) (v : OV) (i : Nat) (s : Env0) : siJ (some xs) k v i s = siW (ixP xs.length k) xs v i s := rfl
def siK (g : Option (List OV)) (v : OV) (i : Nat) (mk : M Env0 PV) (s : Env0) : Option (Fl × Env0) := match g with
  | none => none
  | some _ => bndK (mk s) fun k => (fun s2 => siJ (getL s2 i) k v i s2 : M Env0 Fl)
@[simp] theorem siK_some (xs : List OV) (v : OV) (i : Nat) (mk : M Env0 PV) (s : Env0) : siK (some xs) v i mk s = bndK (mk s) fun k => (fun s2 => siJ (getL s2 i) k v i s2 : M Env0 Fl) := rfl
def setIK (r : Option (OV × Env0)) (i : Nat) (mk : M Env0 PV) : Option (Fl × Env0) := match r with
  | none => none
  | some (v, s) => siK (getL s i) v i mk s
@[simp] theorem setIK_some (v : OV) (s : Env0) (i : Nat) (mk : M Env0 PV) : setIK (some (v, s)) i mk = siK (getL s i) v i mk s := rfl
@[simp] theorem setIK_none (i : Nat) (mk : M Env0 PV) : setIK none i mk = none := rfl
@[simp] theorem ev_sSetI (i : Nat) (m : M Env0 OV) (mk : M Env0 PV) (s : Env0) : sSetI i m mk s = setIK (m s) i mk := by
  unfold sSetI setIK siK bndK siJ siW
  cases h0 : m s with
  | none => simp only
  | some r => cases h1 : getL r.2 i with
    | none => simp only [h1]
    | some g => cases h2 : mk r.2 with
      | none => simp only [h1, h2]
      | some q => cases h3 : getL q.2 i with
        | none => simp only [h1, h2, h3]
        | some xs => cases h4 : ixP xs.length q.1 <;> simp only [h1, h2, h3, h4]
@[simp] theorem ixP_nat (n k : Nat) : ixP n (.int (k : Int)) = if k < n then some k else none := by simp [ixP]
@[simp] theorem ixP_0 (n : Nat) : ixP n (.int 0) = if 0 < n then some 0 else none := ixP_nat n 0
@[simp] theorem ixP_1 (n : Nat) : ixP n (.int 1) = if 1 < n then some 1 else none := ixP_nat n 1
@[simp] theorem ixP_2 (n : Nat) : ixP n (.int 2) = if 2 < n then some 2 else none := ixP_nat n 2
@[simp] theorem ixP_3 (n : Nat) : ixP n (.int 3) = if 3 < n then some 3 else none := ixP_nat n 3
@[simp] theorem ixP_4 (n : Nat) : ixP n (.int 4) = if 4 < n then some 4 else none := ixP_nat n 4
def apW (g : Option (List OV)) (v : OV) (i : Nat) (s : Env0) : Option (Fl × Env0) := match g with
  | some xs => if xs.length ≤ LIM then some (.nx, s.set i (some (.l (xs ++ [v])))) else none
  | none => none
@[simp] theorem apW_some (xs : List OV) (v : OV) (i : Nat) (s : Env0) : apW (some xs) v i s = if xs.length ≤ LIM then some (.nx, s.set i (some (.l (xs ++ [v])))) else none := rfl
def apK (g : Option (List OV)) (m : M Env0 OV) (i : Nat) (s : Env0) : Option (Fl × Env0) := match g with
  | none => none
  | some _ => bndK (m s) fun v => (fun s1 => apW (getL s1 i) v i s1 : M Env0 Fl)
@[simp] theorem apK_some (xs : List OV) (m : M Env0 OV) (i : Nat) (s : Env0) : apK (some xs) m i s = bndK (m s) fun v => (fun s1 => apW (getL s1 i) v i s1 : M Env0 Fl) := rfl
@[simp] theorem ev_sApp (i : Nat) (m : M Env0 OV) (s : Env0) : sApp i m s = apK (getL s i) m i s := by
  unfold sApp apK bndK apW
  cases h0 : getL s i with
  | none => simp only
  | some g => cases h1 : m s with
    | none => simp only
    | some r => cases h2 : getL r.2 i <;> simp only [h2]
/-! a call that takes the owner: the owner is read behind the arguments -/
def crJ (x : Option (Option OV)) (k n : Nat) (f : OV → List PV → Option (OV × OV)) (l : List PV) (s : Env0) : Option (OV × Env0) := match x with
  | some (some ov) => if l.length + 1 = n then crK (f ov l) k s else none
  | _ => none
@[simp] theorem crJ_some (ov : OV) (k n : Nat) (f : OV → List PV → Option (OV × OV)) (l : List PV) (s : Env0) : crJ (some (some ov)) k n f l s = if l.length + 1 = n then crK (f ov l) k s else none := rfl
def crL (x : Option (Option OV)) (k n : Nat) (f : OV → List PV → Option (OV × OV)) (ms : M Env0 (List PV)) (s : Env0) : Option (OV × Env0) := match x with
  | some (some _) => bndK (ms s) fun l => (fun s1 => crJ s1[k]? k n f l s1 : M Env0 OV)
  | _ => none
@[simp] theorem crL_some (ov : OV) (k n : Nat) (f : OV → List PV → Option (OV × OV)) (ms : M Env0 (List PV)) (s : Env0) : crL (some (some ov)) k n f ms s = bndK (ms s) fun l => (fun s1 => crJ s1[k]? k n f l s1 : M Env0 OV) := rfl
@[simp] theorem ev_callR (k n : Nat) (f : OV → List PV → Option (OV × OV)) (ms : M Env0 (List PV)) (s : Env0) : mCallR k n f ms s = crL s[k]? k n f ms s := by
  unfold mCallR crL bndK crJ crK
  rcases h0 : s[k]? with _ | _ | ov
  · simp only
  · simp only
  · cases h1 : ms s with
    | none => simp only
    | some r =>
      rcases h2 : r.2[k]? with _ | _ | ov2
      · simp only [h2]
      · simp only [h2]
      · first
          | (simp only [h2]; done)
          | (simp only [h2]
             by_cases hl : r.1.length + 1 = n
             · simp only [hl, if_true]
               cases h3 : f ov2 r.1 <;> simp only
             · simp only [hl, if_false])
/-! values -/
@[simp] theorem v_add (i j : Int) : fAdd (.int i) (.int j) = some (.int (i + j)) := rfl
@[simp] theorem v_sub (i j : Int) : fSub (.int i) (.int j) = some (.int (i - j)) := rfl
@[simp] theorem v_mul (i j : Int) : fMul (.int i) (.int j) = if mulOk i j = true then some (.int (i * j)) else none := rfl
@[simp] theorem v_div (i j : Int) : fDiv (.int i) (.int j) = if divOk j = true then some (.int (i.fdiv j)) else none := rfl
@[simp] theorem v_mod (i j : Int) : fMod (.int i) (.int j) = if j ≠ 0 then some (.int (i.fmod j)) else none := rfl
@[simp] theorem v_neg (i : Int) : fNeg (.int i) = some (.int (-i)) := rfl
@[simp] theorem v_lt (i j : Int) : fLt (.int i) (.int j) = some (.bool (decide (i < j))) := rfl
@[simp] theorem v_le (i j : Int) : fLe (.int i) (.int j) = some (.bool (decide (i ≤ j))) := rfl
@[simp] theorem v_gt (i j : Int) : fGt (.int i) (.int j) = some (.bool (decide (j < i))) := rfl
@[simp] theorem v_ge (i j : Int) : fGe (.int i) (.int j) = some (.bool (decide (j ≤ i))) := rfl
@[simp] theorem v_ixT (l : List PV) (i : Int) : fIx (.tuple l) (.int i) = atP l i := rfl
@[simp] theorem v_ixL (l : List PV) (i : Int) : fIx (.list l) (.int i) = atP l i := rfl
@[simp] theorem v_trB (b : Bool) : truthP (.bool b) = some b := rfl
@[simp] theorem v_trI (i : Int) : truthP (.int i) = some (i != 0) := rfl
@[simp] theorem v_trL (l : List PV) : truthP (.list l) = some (!l.isEmpty) := rfl
@[simp] theorem v_trT (l : List PV) : truthP (.tuple l) = some (!l.isEmpty) := rfl
@[simp] theorem v_trN : truthP .none = some false := rfl
@[simp] theorem at_nat (l : List PV) (i : Nat) : atP l (i : Int) = l[i]? := by unfold atP; simp
@[simp] theorem at_0 (l : List PV) : atP l 0 = l[0]? := at_nat l 0
@[simp] theorem at_1 (l : List PV) : atP l 1 = l[1]? := at_nat l 1
@[simp] theorem at_2 (l : List PV) : atP l 2 = l[2]? := at_nat l 2
@[simp] theorem at_3 (l : List PV) : atP l 3 = l[3]? := at_nat l 3
@[simp] theorem at_4 (l : List PV) : atP l 4 = l[4]? := at_nat l 4
@[simp] theorem v_isN (x : PV) : fIs x .none = some (.bool (isNone x)) := rfl
@[simp] theorem v_isNN (x : PV) : fIsNot x .none = some (.bool (!isNone x)) := rfl
@[simp] theorem isNone_n : isNone .none = true := rfl
@[simp] theorem isNone_t (l : List PV) : isNone (.tuple l) = false := rfl
@[simp] theorem isNone_l (l : List PV) : isNone (.list l) = false := rfl
@[simp] theorem isNone_i (i : Int) : isNone (.int i) = false := rfl
@[simp] theorem isNone_b (i : Bool) : isNone (.bool i) = false := rfl
@[simp] theorem entry_def (N : Nat) (l : List OV) : entry N l = l.map some ++ List.replicate (N - l.length) none := rfl
def pE1 (x : Option OV) : Option PV := match x with
  | some (.p v) => some v
  | _ => none
def vE1 (x : Option OV) : Option PV := match x with
  | some v => some (toPV v)
  | none => none
@[simp] theorem pE1_p (v : PV) : pE1 (some (.p v)) = some v := rfl
@[simp] theorem pE1_l (v : List OV) : pE1 (some (.l v)) = none := rfl
@[simp] theorem pE1_n : pE1 none = none := rfl
@[simp] theorem vE1_s (v : OV) : vE1 (some v) = some (toPV v) := rfl
@[simp] theorem vE1_n : vE1 none = none := rfl
@[simp] theorem pers_nil : persE [] = [] := rfl
@[simp] theorem pers_cons (x : Option OV) (l : Env0) : persE (x :: l) = pE1 x :: persE l := rfl
@[simp] theorem view_nil : viewE [] = [] := rfl
@[simp] theorem view_cons (x : Option OV) (l : Env0) : viewE (x :: l) = vE1 x :: viewE l := rfl
@[simp] theorem toPV_p (v : PV) : toPV (.p v) = v := by simp [toPV]
@[simp] theorem toPV_l (l : List OV) : toPV (.l l) = .list (toPVs l) := by simp [toPV]
@[simp] theorem toPVs_nil : toPVs [] = [] := by simp [toPVs]
@[simp] theorem toPVs_cons (x : OV) (l : List OV) : toPVs (x :: l) = toPV x :: toPVs l := by simp [toPVs]
def runK (r : Option (Fl × Env0)) : Option OV := match r with
  | some (.rt v, _) => some v
  | some (.nx, _) => some (.p .none)
  | _ => none
@[simp] theorem runK_rt (v : OV) (s : Env0) : runK (some (.rt v, s)) = some v := rfl
@[simp] theorem runK_nx (s : Env0) : runK (some (.nx, s)) = some (.p .none) := rfl
@[simp] theorem ev_runP (N : Nat) (m : SM) (l : List PV) : runP N m l = runK (m (entry N (l.map .p))) := by
  unfold runP runK; split <;> simp_all
def runRK (r : Option (Fl × Env0)) : Option (OV × OV) := match r with
  | some (.rt v, st) => (slot0 st).map fun w => (v, w)
  | some (.nx, st) => (slot0 st).map fun w => (.p .none, w)
  | _ => none
@[simp] theorem runRK_rt (v w : OV) (s : Env0) : runRK (some (.rt v, some w :: s)) = some (v, w) := rfl
@[simp] theorem runRK_nx (w : OV) (s : Env0) : runRK (some (.nx, some w :: s)) = some (.p .none, w) := rfl
@[simp] theorem ev_runR (N : Nat) (m : SM) (ov : OV) (l : List PV) : runR N m ov l = runRK (m (entry N (ov :: l.map .p))) := by
  unfold runR runRK; split <;> simp_all
@[simp] theorem lf_int (i : Int) : lf (.int i) = true := by simp [lf]
@[simp] theorem lf_bool (i : Bool) : lf (.bool i) = true := by simp [lf]
@[simp] theorem lf_none : lf .none = true := by simp [lf]
@[simp] theorem lf_tup (l : List PV) : lf (.tuple l) = lfs l := by simp [lf]
@[simp] theorem lfs_nil : lfs [] = true := by simp [lfs]
@[simp] theorem lfs_cons (x : PV) (l : List PV) : lfs (x :: l) = (lf x && lfs l) := by simp [lfs]
@[simp] theorem v_gcd (i j : Int) : fGcd [.int i, .int j] = some (.int (Int.gcd i j : Nat)) := rfl
@[simp] theorem v_tup (l : List PV) : fTup l = if l.length ≤ LIM then some (.tuple l) else none := rfl
@[simp] theorem v_lst (l : List PV) : fLst l = if l.length ≤ LIM then some (.list l) else none := rfl
theorem LIM_eq : LIM = 100000 := rfl
/-! comparing -/
def ShD (k : Nat) (x : PV) : Prop := x.canLay0 = true ∧ x.depth ≤ k
theorem shD_int {k : Nat} (i : Int) : ShD k (.int i) := ⟨by simp [PyData.canLay0], by simp [PyData.depth]⟩
theorem shD_bool {k : Nat} (i : Bool) : ShD k (.bool i) := ⟨by simp [PyData.canLay0], by simp [PyData.depth]⟩
theorem shD_none {k : Nat} : ShD k .none := ⟨by simp [PyData.canLay0], by simp [PyData.depth]⟩
theorem shD_all {k : Nat} : ∀ {l : List PV}, (∀ x ∈ l, ShD k x) → PyData.canLayAll0 l = true ∧ PyData.depthAll l ≤ k
  | [], h => ⟨by simp [PyData.canLayAll0], by simp [PyData.depthAll]⟩
  | x :: l, h => by
    have h1 := h x (by simp)
    have h2 := shD_all (l := l) fun y hy => h y (by simp [hy])
    exact ⟨by simp [PyData.canLayAll0, h1.1, h2.1], by simp only [PyData.depthAll]; exact Nat.max_le.mpr ⟨h1.2, h2.2⟩⟩
theorem shD_tup {k : Nat} {l : List PV} (h : ∀ x ∈ l, ShD k x) : ShD (k + 1) (.tuple l) := ⟨by simp [PyData.canLay0, (shD_all h).1], by simp only [PyData.depth]; exact Nat.succ_le_succ (shD_all h).2⟩
theorem shD_lst {k : Nat} {l : List PV} (h : ∀ x ∈ l, ShD k x) : ShD (k + 1) (.list l) := ⟨by simp [PyData.canLay0, (shD_all h).1], by simp only [PyData.depth]; exact Nat.succ_le_succ (shD_all h).2⟩
theorem shD_mono {k m : Nat} {x : PV} (h : ShD k x) (hm : k ≤ m) : ShD m x := ⟨h.1, Nat.le_trans h.2 hm⟩
theorem shaped_of {k : Nat} {x : PV} (h : ShD k x) (hk : k ≤ 64 := by decide) : SeqAt.shaped x = true := by
  unfold SeqAt.shaped; simp [h.1, Nat.le_trans h.2 hk]
theorem shD_ints {k : Nat} (l : List Int) : ∀ x ∈ l.map PyData.int, ShD k x := by
  intro x hx
  simp only [List.mem_map] at hx
  obtain ⟨i, _, rfl⟩ := hx
  exact shD_int i
@[simp] theorem shp_int (i : Int) : SeqAt.shaped (.int i) = true := shaped_of (k := 0) (shD_int i)
@[simp] theorem shp_bool (i : Bool) : SeqAt.shaped (.bool i) = true := shaped_of (k := 0) (shD_bool i)
@[simp] theorem shp_none : SeqAt.shaped .none = true := shaped_of (k := 0) shD_none
@[simp] theorem eqv_int (i j : Int) : PyData.eqv (.int i) (.int j) = decide (i = j) := by simp only [PyData.eqv]; rw [Bool.eq_iff_iff]; simp
@[simp] theorem eqv_bool (i j : Bool) : PyData.eqv (.bool i) (.bool j) = (i == j) := by simp only [PyData.eqv]
@[simp] theorem eqv_tup (l m : List PV) : PyData.eqv (.tuple l) (.tuple m) = PyData.eqvAll l m := by simp only [PyData.eqv]
@[simp] theorem eqv_lst (l m : List PV) : PyData.eqv (.list l) (.list m) = PyData.eqvAll l m := by simp only [PyData.eqv]
@[simp] theorem eqvA_nil : PyData.eqvAll [] [] = true := by simp [PyData.eqvAll]
@[simp] theorem eqvA_cons (x y : PV) (l m : List PV) : PyData.eqvAll (x :: l) (y :: m) = (PyData.eqv x y && PyData.eqvAll l m) := by simp [PyData.eqvAll]
theorem v_eq {x y : PV} (h : SeqAt.shaped x = true) (h' : SeqAt.shaped y = true) : fEq x y = some (.bool (PyData.eqv x y)) := by unfold fEq; simp [h, h']
theorem v_ne {x y : PV} (h : SeqAt.shaped x = true) (h' : SeqAt.shaped y = true) : fNe x y = some (.bool (!PyData.eqv x y)) := by unfold fNe; simp [h, h']
@[simp] theorem v_eqI (i j : Int) : fEq (.int i) (.int j) = some (.bool (decide (i = j))) := by rw [v_eq (shp_int i) (shp_int j), eqv_int]
@[simp] theorem v_neI (i j : Int) : fNe (.int i) (.int j) = some (.bool (!decide (i = j))) := by rw [v_ne (shp_int i) (shp_int j), eqv_int]
@[simp] theorem v_eqB (i j : Bool) : fEq (.bool i) (.bool j) = some (.bool (i == j)) := by rw [v_eq (shp_bool i) (shp_bool j), eqv_bool]
@[simp] theorem v_neB (i j : Bool) : fNe (.bool i) (.bool j) = some (.bool (!(i == j))) := by rw [v_ne (shp_bool i) (shp_bool j), eqv_bool]
@[simp] theorem fl_one (o : Ops Env0) (tg : Tg) (body : SM) (s : Env0) : forL o tg body [] s = some (.nx, s) := rfl
@[simp] theorem st_nm (n : Nat) (fx : List Nat) (i : Nat) (p : PV) (s : Env0) : setT (eO n fx) (.nm i) p s = if (decide (i < n) && !fx.contains i) = true then some (s.set i (some (.p p))) else none := rfl
theorem forL_nx {o : Ops Env0} {tg : Tg} {body : SM} {p : PV} {l : List PV} {s s1 s2 : Env0} (h1 : setT o tg p s = some s1) (h2 : body s1 = some (.nx, s2)) : forL o tg body (p :: l) s = forL o tg body l s2 := by simp only [forL, h1, h2]
theorem forL_ct {o : Ops Env0} {tg : Tg} {body : SM} {p : PV} {l : List PV} {s s1 s2 : Env0} (h1 : setT o tg p s = some s1) (h2 : body s1 = some (.ct, s2)) : forL o tg body (p :: l) s = forL o tg body l s2 := by simp only [forL, h1, h2]
theorem forL_rt {o : Ops Env0} {tg : Tg} {body : SM} {p : PV} {l : List PV} {s s1 s2 : Env0} {v : OV} (h1 : setT o tg p s = some s1) (h2 : body s1 = some (.rt v, s2)) : forL o tg body (p :: l) s = some (.rt v, s2) := by simp only [forL, h1, h2]
theorem forL_bk {o : Ops Env0} {tg : Tg} {body : SM} {p : PV} {l : List PV} {s s1 s2 : Env0} (h1 : setT o tg p s = some s1) (h2 : body s1 = some (.bk, s2)) : forL o tg body (p :: l) s = some (.nx, s2) := by simp only [forL, h1, h2]

/-! comprehensions -/
section
variable {S : Type} {o : Ops S} {own : List Nat} {tg : Tg} {mi : M S (List PV)} {mt : M S Bool} {me : M S PV}
@[simp] theorem ev_mLc (s : S) : mLc o own tg mi mt me s = bndK (mLcC o own tg mi mt me s) fun l => L3.ret (.list l) := by unfold mLc; simp
def lcE (st1 : S) (r : Option (List PV × S)) (o : Ops S) (own : List Nat) : Option (List PV × S) := match r with
  | none => none
  | some (acc, stb) => some (acc, o.leave st1 stb own)
@[simp] theorem lcE_some (st1 stb : S) (acc : List PV) : lcE st1 (some (acc, stb)) o own = some (acc, o.leave st1 stb own) := rfl
def lcK (r : Option (List PV × S)) (o : Ops S) (own : List Nat) (tg : Tg) (mt : M S Bool) (me : M S PV) : Option (List PV × S) := match r with
  | none => none
  | some (l, s1) => if l.length ≤ LIM ∧ own.all o.wr = true ∧ tgIn tg own = true then lcE s1 (lcLoop o own tg mt me l [] (o.clr s1 own)) o own else none
@[simp] theorem lcK_some (l : List PV) (s1 : S) : lcK (some (l, s1)) o own tg mt me = if l.length ≤ LIM ∧ own.all o.wr = true ∧ tgIn tg own = true then lcE s1 (lcLoop o own tg mt me l [] (o.clr s1 own)) o own else none := rfl
@[simp] theorem ev_mLcC (s : S) : mLcC o own tg mi mt me s = lcK (mi s) o own tg mt me := by
  unfold mLcC lcK lcE
  cases h0 : mi s with
  | none => simp only
  | some r =>
    first
      | (simp only; done)
      | (simp only
         by_cases hc : r.1.length ≤ LIM ∧ own.all o.wr = true ∧ tgIn tg own = true
         · first
             | (rw [if_pos hc, if_pos hc]; done)
             | (rw [if_pos hc, if_pos hc]; cases lcLoop o own tg mt me r.1 [] (o.clr r.2 own) <;> rfl)
         · rw [if_neg hc, if_neg hc])
theorem lcLoop_pure {s0 : S} (t : PV → Bool) (f : PV → PV) : ∀ (l acc : List PV), (∀ p ∈ l, ∃ s1, setT o tg p s0 = some s1 ∧ mt s1 = some (t p, s1) ∧ (t p = true → me s1 = some (f p, s1)) ∧ o.clr s1 own = s0) →
    lcLoop o own tg mt me l acc s0 = some (acc ++ (l.filter t).map f, s0)
  | [], acc, h => by simp [lcLoop]
  | p :: l, acc, h => by
    obtain ⟨s1, e1, e2, e3, e4⟩ := h p (by simp)
    cases hp : t p with
    | false =>
      rw [hp] at e2
      simp only [lcLoop, e1, e2, e4]
      rw [lcLoop_pure t f l acc fun q hq => h q (by simp [hq])]
      simp [hp]
    | true =>
      rw [hp] at e2
      simp only [lcLoop, e1, e2, e3 hp, e4]
      rw [lcLoop_pure t f l (acc ++ [f p]) fun q hq => h q (by simp [hq])]
      simp [hp]
/-- a comprehension without a condition, whose items change what is owned -/
theorem lcLoop_ind (I : Nat → S → Prop) (P : PV → PV → Prop) (ht : ∀ s, mt s = some (true, s)) : ∀ (l acc : List PV) (s : S), (∀ p ∈ l, ∀ k s, I (k + 1) s → ∃ s1 v s2, setT o tg p s = some s1 ∧ me s1 = some (v, s2) ∧ P p v ∧ I k (o.clr s2 own)) → ∀ k, I (l.length + k) s →
    ∃ vs s', lcLoop o own tg mt me l acc s = some (acc ++ vs, s') ∧ vs.length = l.length ∧ I k s' ∧ ∀ (i : Nat) (p v : PV), l[i]? = some p → vs[i]? = some v → P p v
  | [], acc, s, h, k, hI => ⟨[], s, by simp [lcLoop], rfl, by simpa using hI, by simp⟩
  | p :: l, acc, s, h, k, hI => by
    obtain ⟨s1, v, s2, e1, e2, hp, h2⟩ := h p (by simp) (l.length + k) s (by rw [show l.length + k + 1 = (p :: l).length + k by simp only [List.length_cons]; omega]; exact hI)
    obtain ⟨vs, s', e3, e4, e5, e6⟩ := lcLoop_ind I P ht l (acc ++ [v]) _ (fun q hq => h q (by simp [hq])) k h2
    refine ⟨v :: vs, s', ?_, by simp [e4], e5, ?_⟩
    · simp only [lcLoop, e1, ht, e2, e3]
      simp
    · intro i q w hq hw
      cases i with
      | zero => simp at hq hw; subst hq hw; exact hp
      | succ i => simp at hq hw; exact e6 i q w hq hw
end
@[simp] theorem st_nmP (n : Nat) (i : Nat) (p : PV) (s : PE0) : setT (pO n) (.nm i) p s = if i < n then some (s.set i (some p)) else none := by
  unfold setT; simp [pO]
@[simp] theorem it_t (l : List PV) : items (.tuple l) = some l := rfl
@[simp] theorem it_l (l : List PV) : items (.list l) = some l := rfl
/-! slices -/
theorem take_min (l : List PV) (k : Nat) : l.take (min k l.length) = l.take k := by
  rcases Nat.le_total k l.length with h | h
  · rw [Nat.min_eq_left h]
  · rw [Nat.min_eq_right h, List.take_of_length_le (Nat.le_refl _), List.take_of_length_le h]
theorem drop_min (l : List PV) (k : Nat) : l.drop (min k l.length) = l.drop k := by
  rcases Nat.le_total k l.length with h | h
  · rw [Nat.min_eq_left h]
  · rw [Nat.min_eq_right h, List.drop_of_length_le (Nat.le_refl _), List.drop_of_length_le h]
@[simp] theorem cut_hi (l : List PV) (k : Nat) : cutP l none (some (k : Int)) = l.take k := by
  unfold cutP
  rw [HT.sIx_none, HT.sIx_nat, List.drop_zero, Nat.sub_zero, take_min]
@[simp] theorem cut_lo (l : List PV) (k : Nat) : cutP l (some (k : Int)) none = l.drop k := by
  unfold cutP
  rw [HT.sIx_none, HT.sIx_nat, drop_min, List.take_of_length_le]
  rw [List.length_drop]
  rcases Nat.le_total k l.length with h | h
  · rw [Nat.min_eq_left h]; exact Nat.le_refl _
  · omega
@[simp] theorem v_slT (l : List PV) (a b : Option Int) : fSl (.tuple l) a b = some (.tuple (cutP l a b)) := rfl
@[simp] theorem v_slL (l : List PV) (a b : Option Int) : fSl (.list l) a b = some (.list (cutP l a b)) := rfl
@[simp] theorem v_asI (i : Int) : asInt (.int i) = some (some i) := rfl
@[simp] theorem isi_tuple_n  : fIsi "tuple" .none = some (.bool false) := by simp [fIsi, tyNm, isiT]
@[simp] theorem isi_tuple_b (b : Bool) : fIsi "tuple" (.bool b) = some (.bool false) := by simp [fIsi, tyNm, isiT]
@[simp] theorem isi_tuple_i (i : Int) : fIsi "tuple" (.int i) = some (.bool false) := by simp [fIsi, tyNm, isiT]
@[simp] theorem isi_tuple_s (z : Str) : fIsi "tuple" (.str z) = some (.bool false) := by simp [fIsi, tyNm, isiT]
@[simp] theorem isi_tuple_l (l : List PV) : fIsi "tuple" (.list l) = some (.bool false) := by simp [fIsi, tyNm, isiT]
@[simp] theorem isi_tuple_t (l : List PV) : fIsi "tuple" (.tuple l) = some (.bool true) := by simp [fIsi, tyNm, isiT]
@[simp] theorem isi_list_n  : fIsi "list" .none = some (.bool false) := by simp [fIsi, tyNm, isiT]
@[simp] theorem isi_list_b (b : Bool) : fIsi "list" (.bool b) = some (.bool false) := by simp [fIsi, tyNm, isiT]
@[simp] theorem isi_list_i (i : Int) : fIsi "list" (.int i) = some (.bool false) := by simp [fIsi, tyNm, isiT]
@[simp] theorem isi_list_s (z : Str) : fIsi "list" (.str z) = some (.bool false) := by simp [fIsi, tyNm, isiT]
@[simp] theorem isi_list_l (l : List PV) : fIsi "list" (.list l) = some (.bool true) := by simp [fIsi, tyNm, isiT]
@[simp] theorem isi_list_t (l : List PV) : fIsi "list" (.tuple l) = some (.bool false) := by simp [fIsi, tyNm, isiT]
@[simp] theorem isi_bool_n  : fIsi "bool" .none = some (.bool false) := by simp [fIsi, tyNm, isiT]
@[simp] theorem isi_bool_b (b : Bool) : fIsi "bool" (.bool b) = some (.bool true) := by simp [fIsi, tyNm, isiT]
@[simp] theorem isi_bool_i (i : Int) : fIsi "bool" (.int i) = some (.bool false) := by simp [fIsi, tyNm, isiT]
@[simp] theorem isi_bool_s (z : Str) : fIsi "bool" (.str z) = some (.bool false) := by simp [fIsi, tyNm, isiT]
@[simp] theorem isi_bool_l (l : List PV) : fIsi "bool" (.list l) = some (.bool false) := by simp [fIsi, tyNm, isiT]
@[simp] theorem isi_bool_t (l : List PV) : fIsi "bool" (.tuple l) = some (.bool false) := by simp [fIsi, tyNm, isiT]
@[simp] theorem isi_int_n  : fIsi "int" .none = some (.bool false) := by simp [fIsi, tyNm, isiT]
@[simp] theorem isi_int_b (b : Bool) : fIsi "int" (.bool b) = some (.bool true) := by simp [fIsi, tyNm, isiT]
@[simp] theorem isi_int_i (i : Int) : fIsi "int" (.int i) = some (.bool true) := by simp [fIsi, tyNm, isiT]
@[simp] theorem isi_int_s (z : Str) : fIsi "int" (.str z) = some (.bool false) := by simp [fIsi, tyNm, isiT]
@[simp] theorem isi_int_l (l : List PV) : fIsi "int" (.list l) = some (.bool false) := by simp [fIsi, tyNm, isiT]
@[simp] theorem isi_int_t (l : List PV) : fIsi "int" (.tuple l) = some (.bool false) := by simp [fIsi, tyNm, isiT]
@[simp] theorem isi_str_n  : fIsi "str" .none = some (.bool false) := by simp [fIsi, tyNm, isiT]
@[simp] theorem isi_str_b (b : Bool) : fIsi "str" (.bool b) = some (.bool false) := by simp [fIsi, tyNm, isiT]
@[simp] theorem isi_str_i (i : Int) : fIsi "str" (.int i) = some (.bool false) := by simp [fIsi, tyNm, isiT]
@[simp] theorem isi_str_s (z : Str) : fIsi "str" (.str z) = some (.bool true) := by simp [fIsi, tyNm, isiT]
@[simp] theorem isi_str_l (l : List PV) : fIsi "str" (.list l) = some (.bool false) := by simp [fIsi, tyNm, isiT]
@[simp] theorem isi_str_t (l : List PV) : fIsi "str" (.tuple l) = some (.bool false) := by simp [fIsi, tyNm, isiT]
@[simp] theorem isi_dict_n  : fIsi "dict" .none = some (.bool false) := by simp [fIsi, tyNm, isiT]
@[simp] theorem isi_dict_b (b : Bool) : fIsi "dict" (.bool b) = some (.bool false) := by simp [fIsi, tyNm, isiT]
@[simp] theorem isi_dict_i (i : Int) : fIsi "dict" (.int i) = some (.bool false) := by simp [fIsi, tyNm, isiT]
@[simp] theorem isi_dict_s (z : Str) : fIsi "dict" (.str z) = some (.bool false) := by simp [fIsi, tyNm, isiT]
@[simp] theorem isi_dict_l (l : List PV) : fIsi "dict" (.list l) = some (.bool false) := by simp [fIsi, tyNm, isiT]
@[simp] theorem isi_dict_t (l : List PV) : fIsi "dict" (.tuple l) = some (.bool false) := by simp [fIsi, tyNm, isiT]
@[simp] theorem isNone_s (z : Str) : isNone (.str z) = false := rfl
@[simp] theorem v_tupL (l : List PV) : fTuple [.list l] = some (.tuple l) := rfl
@[simp] theorem v_tupT (l : List PV) : fTuple [.tuple l] = some (.tuple l) := rfl
@[simp] theorem v_listL (l : List PV) : fList [.list l] = some (.list l) := rfl
@[simp] theorem v_listT (l : List PV) : fList [.tuple l] = some (.list l) := rfl
@[simp] theorem ints_map (l : List Int) : intsP (l.map PyData.int) = some l := by
  induction l with
  | nil => rfl
  | cons i l ih => simp [intsP, ih]
@[simp] theorem v_sum (l : List Int) : fSum [.list (l.map PyData.int)] = some (.int l.sum) := by simp [fSum]
@[simp] theorem v_sumT (l : List Int) : fSum [.tuple (l.map PyData.int)] = some (.int l.sum) := by simp [fSum]
/-! plain values, and what compares two of them -/
def Pl0 (x : PV) : Prop := x = .none ∨ (∃ b, x = .bool b) ∨ ∃ i, x = .int i
def Pl : Nat → PV → Prop
  | 0, x => Pl0 x
  | k + 1, x => Pl0 x ∨ ∃ l : List PV, (x = .tuple l ∨ x = .list l) ∧ l.length ≤ LIM ∧ ∀ y ∈ l, Pl k y
theorem Pl.of0 {x : PV} (h : Pl0 x) : ∀ k, Pl k x
  | 0 => h
  | k + 1 => .inl h
theorem pl_int (k : Nat) (i : Int) : Pl k (.int i) := .of0 (.inr (.inr ⟨i, rfl⟩)) k
theorem pl_bool (k : Nat) (i : Bool) : Pl k (.bool i) := .of0 (.inr (.inl ⟨i, rfl⟩)) k
theorem pl_none (k : Nat) : Pl k .none := .of0 (.inl rfl) k
theorem Pl.succ : ∀ {k : Nat} {x : PV}, Pl k x → Pl (k + 1) x
  | 0, x, h => .inl h
  | k + 1, x, h => by
    rcases h with h | ⟨l, e, hl, h⟩
    · exact .inl h
    · exact .inr ⟨l, e, hl, fun y hy => Pl.succ (h y hy)⟩
theorem Pl.mono {k m : Nat} {x : PV} (h : Pl k x) (hm : k ≤ m) : Pl m x := by
  induction hm with
  | refl => exact h
  | step _ ih => exact ih.succ
theorem pl_tup {k : Nat} {l : List PV} (hl : l.length ≤ LIM) (h : ∀ y ∈ l, Pl k y) : Pl (k + 1) (.tuple l) := .inr ⟨l, .inl rfl, hl, h⟩
theorem pl_lst {k : Nat} {l : List PV} (hl : l.length ≤ LIM) (h : ∀ y ∈ l, Pl k y) : Pl (k + 1) (.list l) := .inr ⟨l, .inr rfl, hl, h⟩
@[simp] theorem clrP (n : Nat) (s : PE0) (own : List Nat) : (pO n).clr s own = own.foldr (fun i s => s.set i none) s := rfl
@[simp] theorem wrP (n i : Nat) : (pO n).wr i = decide (i < n) := rfl
@[simp] theorem leaveP (n : Nat) (a b : PE0) (own : List Nat) : (pO n).leave a b own = a := rfl
@[simp] theorem clrE (n : Nat) (fx : List Nat) (s : Env0) (own : List Nat) : (eO n fx).clr s own = own.foldr (fun i s => s.set i none) s := rfl
@[simp] theorem wrE (n : Nat) (fx : List Nat) (i : Nat) : (eO n fx).wr i = (decide (i < n) && !fx.contains i) := rfl
def bk1 (x : Option (Option OV)) : Option OV := match x with
  | some (some (.p v)) => some (.p v)
  | _ => none
@[simp] theorem bk1_p (v : PV) : bk1 (some (some (.p v))) = some (.p v) := rfl
@[simp] theorem bk1_l (v : List OV) : bk1 (some (some (.l v))) = none := rfl
@[simp] theorem bk1_n : bk1 (some none) = none := rfl
@[simp] theorem bk1_nn : bk1 none = none := rfl
@[simp] theorem leaveE (n : Nat) (fx : List Nat) (a b : Env0) (own : List Nat) : (eO n fx).leave a b own = own.foldr (fun i s => s.set i (bk1 a[i]?)) b := rfl
@[simp] theorem tgIn_nm (i : Nat) (own : List Nat) : tgIn (.nm i) own = own.contains i := rfl
@[simp] theorem tgIn_tp (is own : List Nat) : tgIn (.tp is) own = is.all fun i => own.contains i := rfl
theorem rng_some {n : Int} (h : n ≤ 1000000 := by decide) (h' : 0 ≤ n := by decide) : fRange1 [.int n] = some (rangeP 0 n.toNat) := by
  unfold fRange1
  exact if_pos (by unfold L3.inR; exact decide_eq_true ⟨by omega, by omega⟩)
theorem rng_nat {n : Nat} (h : n ≤ LIM) : fRange1 [.int (n : Int)] = some (rangeP 0 n) := by
  have := rng_some (n := (n : Int)) (by rw [LIM_eq] at h; omega) (by omega)
  simpa using this
@[simp] theorem rng_len (lo : Int) (n : Nat) : (rangeP lo n).length = n := by simp [rangeP]
theorem rng_mem {lo : Int} {n : Nat} {p : PV} (h : p ∈ rangeP lo n) : ∃ i : Nat, i < n ∧ p = .int (lo + i) := by
  unfold rangeP at h
  simp only [List.mem_map, List.mem_range] at h
  obtain ⟨i, hi, rfl⟩ := h
  exact ⟨i, hi, rfl⟩
def frK (x : Option (Option OV)) (i : Nat) (m : SM) (s : Env0) : Option (Fl × Env0) := match x with
  | some (some v) => m (s.set i (some (.p (toPV v))))
  | _ => none
@[simp] theorem frK_some (v : OV) (i : Nat) (m : SM) (s : Env0) : frK (some (some v)) i m s = m (s.set i (some (.p (toPV v)))) := rfl
@[simp] theorem ev_sFrz (i : Nat) (m : SM) (s : Env0) : sFrz i m s = frK s[i]? i m s := by
  unfold sFrz frzS frK
  rcases h : s[i]? with _ | _ | v <;> simp only
@[simp] theorem toPVs_p (l : List PV) : toPVs (l.map OV.p) = l := by
  induction l with
  | nil => simp
  | cons x l ih => simp [ih]
@[simp] theorem toPVs_pc {α : Type} (f : α → PV) (l : List α) : toPVs (l.map (OV.p ∘ f)) = l.map f := by
  rw [← List.map_map, toPVs_p]
@[simp] theorem ev_eBack (s : Env0) (i : Nat) : eBack s i = bk1 s[i]? := by
  unfold eBack bk1
  split <;> simp_all
@[simp] theorem ev_eGet (s : Env0) (i : Nat) : eGet s i = (match s[i]? with
  | some (some (.p v)) => some v
  | _ => none) := rfl
/-- numbers from i on, by recursion -/
def rgF : Nat → Nat → List PV
  | _, 0 => []
  | i, n + 1 => .int (i : Int) :: rgF (i + 1) n
theorem rgF_eq : ∀ (n i : Nat), (List.range' i n).map (fun (j : Nat) => PyData.int (0 + (j : Int))) = rgF i n
  | 0, i => rfl
  | n + 1, i => by
    rw [List.range'_succ, List.map_cons, rgF_eq n (i + 1), Int.zero_add]
    rfl
theorem rangeP_rgF (n : Nat) : rangeP 0 n = rgF 0 n := by
  unfold rangeP
  rw [List.range_eq_range', rgF_eq]
def enF (i : Nat) : List PV → List PV
  | [] => []
  | x :: l => .tuple [.int (i : Int), x] :: enF (i + 1) l
theorem enF_eq : ∀ (l : List PV) (i : Nat), (List.range' i l.length).zipWith (fun (j : Nat) x => PyData.tuple [.int j, x]) l = enF i l
  | [], i => rfl
  | x :: l, i => by
    rw [List.length_cons, List.range'_succ, List.zipWith_cons_cons, enF_eq l (i + 1)]
    rfl
@[simp] theorem v_enT (l : List PV) : fEnumA [.tuple l] = some (enF 0 l) := by
  unfold fEnumA
  simp only [Option.some.injEq]
  rw [List.range_eq_range', enF_eq]
@[simp] theorem v_enL (l : List PV) : fEnumA [.list l] = some (enF 0 l) := by
  unfold fEnumA
  simp only [Option.some.injEq]
  rw [List.range_eq_range', enF_eq]
@[simp] theorem st_tp2 (n : Nat) (fx : List Nat) (i j : Nat) (p q : PV) (s : Env0) : setT (eO n fx) (.tp [i, j]) (.tuple [p, q]) s = if (decide (i < n) && !fx.contains i) = true then (if (decide (j < n) && !fx.contains j) = true then some ((s.set i (some (.p p))).set j (some (.p q))) else none) else none := rfl
@[simp] theorem cut_hi0 (l : List PV) : cutP l none (some 0) = [] := by simpa using cut_hi l 0
@[simp] theorem cut_hi1 (l : List PV) : cutP l none (some 1) = l.take 1 := cut_hi l 1
@[simp] theorem cut_lo0 (l : List PV) : cutP l (some 0) none = l := by simpa using cut_lo l 0
@[simp] theorem cut_lo1 (l : List PV) : cutP l (some 1) none = l.drop 1 := cut_lo l 1
def alJ (r : Option Env0) : Option (Fl × Env0) := match r with
  | none => none
  | some s => some (.nx, s)
@[simp] theorem alJ_some (s : Env0) : alJ (some s) = some (.nx, s) := rfl
def alK (o : Ops Env0) (is : List Nat) (r : Option (PV × Env0)) : Option (Fl × Env0) := match r with
  | some (.list l, st1) => alJ (setN o is l st1)
  | _ => none
@[simp] theorem alK_some (o : Ops Env0) (is : List Nat) (l : List PV) (s : Env0) : alK o is (some (.list l, s)) = alJ (setN o is l s) := rfl
@[simp] theorem ev_sAsgL (o : Ops Env0) (is : List Nat) (m : M Env0 PV) (s : Env0) : sAsgL o is m s = alK o is (m s) := by
  unfold sAsgL alK alJ
  rcases h : m s with _ | ⟨v, s1⟩
  · simp only
  · cases v with
    | list l => first
        | rfl
        | (cases h2 : setN o is l s1 <;> simp only [h2])
    | none => simp only
    | bool b => simp only
    | int i => simp only
    | str z => simp only
    | tuple l => simp only
    | dict l => simp only
@[simp] theorem setN_nil {S : Type} (o : Ops S) (s : S) : setN o [] [] s = some s := rfl
@[simp] theorem setN_cons {S : Type} (o : Ops S) (i : Nat) (is : List Nat) (p : PV) (l : List PV) (s : S) : setN o (i :: is) (p :: l) s = if o.wr i = true then setN o is l (o.set s i p) else none := rfl
def asgK (o : Ops Env0) (tg : Tg) (r : Option (PV × Env0)) : Option (Fl × Env0) := match r with
  | none => none
  | some (v, s) => alJ (setT o tg v s)
@[simp] theorem asgK_some (o : Ops Env0) (tg : Tg) (v : PV) (s : Env0) : asgK o tg (some (v, s)) = alJ (setT o tg v s) := rfl
@[simp] theorem ev_sAsg (o : Ops Env0) (tg : Tg) (m : M Env0 PV) (s : Env0) : sAsg o tg m s = asgK o tg (m s) := by
  unfold sAsg asgK alJ
  rcases h : m s with _ | ⟨v, s1⟩
  · simp only
  · cases h2 : setT o tg v s1 <;> simp only [h2]
@[simp] theorem st_tpE (n : Nat) (fx is : List Nat) (l : List PV) (s : Env0) : setT (eO n fx) (.tp is) (.tuple l) s = setN (eO n fx) is l s := rfl
@[simp] theorem st_tpP (n : Nat) (is : List Nat) (l : List PV) (s : PE0) : setT (pO n) (.tp is) (.tuple l) s = setN (pO n) is l s := rfl
@[simp] theorem v_addL (a b : List PV) : fAdd (.list a) (.list b) = if (a ++ b).length ≤ LIM then some (.list (a ++ b)) else none := rfl
@[simp] theorem v_addT (a b : List PV) : fAdd (.tuple a) (.tuple b) = if (a ++ b).length ≤ LIM then some (.tuple (a ++ b)) else none := rfl
end L3

set_option Elab.async false
set_option linter.all false
set_option maxRecDepth 100000
set_option maxHeartbeats 2000000
namespace L5
open PySem PySem.Spec
open PyProof.Rows hiding St
open L2 L3
open GxR (TabB inv_tab)

/-! ### a generator expression's own context -/
abbrev gcx (X : Cx) (A : Around) (s : Shared) (H : Hp) (scope : Scope) (cenv : Env) (fp : List Addr) : Cx :=
  { X with A := A, s_0 := s, H_0 := H, env := cenv, outer := X.stack, stack := cenv :: X.stack, ex := fp, fn := fun x => scope.names.lookup x == some .cell, pn := [], xe := fun _ _ => False }
abbrev genv (X : Cx) (scope : Scope) (C : Addr) (code : Value) : Env := genEnv scope (cloFrom X.env.cells scope.names []) C code builtinsNs X.env
section
variable {X : Cx} {pins : List (Addr × Obj)} {σ : L2.St} {H : Hp} {s : Shared}
theorem gen_start {scope : Scope} {own : List (Str × Nat)} {fp : List Addr} {code : Value} {A : Around} {h' : Heap} {g' : Array GenState} {t' : Nat} {m : Str → Option Value} (I : Inv X pins σ H s) (ok : BlkOk X.N X.env.scope scope own) (hcell : ∀ y ∈ scope.names, y.2 ≠ .cell) (hN : X.N.Nodup)
    (hfp : ∀ b ∈ fp, FpOk X pins H b ∧ b < s.heap.objs.size) (hA : A.frames = some (genv X scope s.heap.objs.size code :: X.stack)) (hd : X.calm = true → A.handled = none)
    (hn : h'.Ns s.heap.objs.size m) (kp : ∀ b o, s.heap.get? b = some o → h'.get? b = some o) (hg : AllBare g') :
    Inv (gcx X A s H scope (genv X scope s.heap.objs.size code) fp) [] (wipe σ (own.map (·.2))) H { s with heap := h', gens := g', toks := t' } := by
  have hfree : ∀ y ∈ scope.names, y.2 = .free → ∃ c, X.env.cells.lookup y.1 = some c := fun y hy e => by
    rcases ok.free y hy e with k | k
    · exact I.ok.has _ (.inl k)
    · exact I.ok.has _ (.inr k)
  generalize hcenv : genv X scope s.heap.objs.size code = cenv at hA ⊢
  have hL : cenv.locals = s.heap.objs.size := by rw [← hcenv]; rfl
  have hcl : cenv.cells = cloFrom X.env.cells scope.names [] := by rw [← hcenv]; rfl
  have hsc : cenv.scope = scope := by rw [← hcenv]; rfl
  have cm : ∀ {y c}, (y, c) ∈ cloFrom X.env.cells scope.names [] → X.env.cells.lookup y = some c ∧ c < s.heap.objs.size := fun {y c} hm => by
    rcases cloFrom_mem hm with hm | ⟨h1, rfl⟩
    · cases hm
    · obtain ⟨c, hc⟩ := hfree _ h1 rfl
      rw [hc]
      obtain ⟨w, z⟩ := I.cell _ _ hc
      exact ⟨rfl, z.lt⟩
  have mem : ∀ {y c}, cenv.cells.lookup y = some c → X.env.cells.lookup y = some c ∧ c < s.heap.objs.size := fun {y c} e => by
    rw [hcl] at e
    exact cm (PySem.mem_of_lookup e)
  have look : ∀ {y}, scope.names.lookup y = some .free → ∃ c, cenv.cells.lookup y = some c ∧ X.env.cells.lookup y = some c := fun {y} hl => by
    have hy : (y, NameKind.free) ∈ scope.names := PySem.mem_of_lookup hl
    obtain ⟨c', e'⟩ := mem_lookup (cloFrom_has (cells := X.env.cells) (acc := []) hy)
    rw [← hcl] at e'
    exact ⟨c', e', (mem e').1⟩
  have nocell : ∀ y, scope.names.lookup y ≠ some .cell := fun y z => hcell _ (PySem.mem_of_lookup z) rfl
  have okB : (gcx X A s H scope cenv fp).Ok := by
    refine ⟨I.ok.mod, by show cenv.scope.kind = _; rw [hsc]; exact ok.kind, by show cenv.globals = _; rw [← hcenv]; exact I.ok.glob, by show cenv.builtins = _; rw [← hcenv]; rfl, by show s.heap.objs.size ≤ cenv.locals; rw [hL]; exact Nat.le_refl _,
      fun y z c e1 e2 => ?_, fun y hy => ?_, fun y c z e => ?_, hd, hA, .inr ⟨rfl, by show cenv.frame = some cenv.locals; rw [← hcenv]; rfl⟩, fun b hb => ⟨?_, fun y c e z => ?_⟩, I.bs, Nat.le_trans I.ok.bsz I.sz, fun b o e hb => ?_, fun b hb z => ?_, I.stack, I.stkFree⟩
    · exact I.ok.inj y z c (mem e1).1 (mem e2).1
    · have hy : cenv.scope.names.lookup y = some .cell ∨ cenv.scope.names.lookup y = some .free := hy
      rw [hsc] at hy
      rcases hy with hy | hy
      · exact absurd hy (nocell y)
      · obtain ⟨c, h1, _⟩ := look hy
        exact ⟨c, h1⟩
    · have z : (scope.names.lookup y == some NameKind.cell) = true := z
      exact absurd (by simpa using z) (nocell y)
    · show b ≠ cenv.locals
      rw [hL]; exact Nat.ne_of_lt (hfp b hb).2
    · exact (hfp b hb).1.2.2.2.2.1 y c (mem e).1 z
    · rcases (hfp b hb).1.2.2.2.1 with z | z
      · exact I.ok.noex b o e z
      · exact absurd (Nat.lt_of_lt_of_le (Heap.lt_size e) (Nat.le_trans I.ok.bsz z)) (Nat.lt_irrefl _)
    · rcases List.mem_cons.mp (I.stkSub b z) with z | z
      · exact (hfp b hb).1.2.1 z
      · exact (hfp b hb).1.2.2.1 z
  refine ⟨okB, rfl, hg, Un.kept kp, ⟨m, by show Heap.Ns _ cenv.locals _; rw [hL]; exact hn, fun i y av e1 e2 e3 => ?_⟩, fun y c e => ?_, ?_, fun y c e => ?_, fun p hp => ?_, I.hok.kept kp, by rw [wipe_length]; exact I.len⟩
  · obtain ⟨e2, hne⟩ := wipe_some e2
    have e3 : Vis cenv.scope y := e3
    rw [hsc] at e3
    have no : ¬ (scope.names.lookup y = some .local) := fun hh => by
      rcases ok.own _ (PySem.mem_of_lookup hh) (.inl rfl) with e' | e'
      · obtain ⟨p, hp, hpy⟩ := List.mem_map.mp e'
        have e3 := ok.ix p hp
        have : p.1 = y := hpy
        rw [this] at e3
        exact hne (List.mem_map.mpr ⟨p, hp, nodup_ix hN e3 e1⟩)
      · exact e' (List.mem_of_getElem? e1)
    have hfr : scope.names.lookup y = some .free := by
      rcases e3 with e3 | e3 | e3
      · exact absurd e3 no
      · exact absurd e3 (nocell y)
      · exact e3
    obtain ⟨m2, hn2, hl⟩ := I.loc
    have hvis : Vis X.env.scope y := (ok.free _ (PySem.mem_of_lookup hfr) rfl).elim (fun k => .inr (.inl k)) (fun k => .inr (.inr k))
    obtain ⟨w, r, q⟩ := hl i y av e1 e2 hvis
    refine ⟨w, r, .inr ⟨.inr (by show cenv.scope.names.lookup y = _; rw [hsc]; exact hfr), ?_⟩⟩
    obtain ⟨c, h1, h2⟩ := look hfr
    rcases q with ⟨k, _⟩ | ⟨_, c', e', z⟩
    · have k : X.env.scope.names.lookup y = some .local := k
      rcases ok.free _ (PySem.mem_of_lookup hfr) rfl with k' | k' <;> rw [show X.env.scope.names.lookup y = _ from k'] at k <;> cases k
    · rw [h2] at e'; cases e'
      exact ⟨c, h1, z.keeps kp⟩
  · have e : cenv.cells.lookup y = some c := e
    obtain ⟨w, z⟩ := I.cell y c (mem e).1
    exact ⟨w, z.keeps kp⟩
  · show H cenv.locals = none
    rw [hL]; exact I.hok.fresh (Nat.le_refl _)
  · have e : cenv.cells.lookup y = some c := e
    exact I.freeC y c (mem e).1
  · exact absurd (show p ∈ ([] : List (Addr × Obj)) ++ [] from hp) (by simp)
end
end L5

set_option Elab.async false
set_option linter.all false
set_option maxRecDepth 100000
set_option maxHeartbeats 2000000
namespace L5
open PySem PySem.Spec
open PyProof.Rows hiding St
open L2 L3
open GxR (TabB inv_tab)
/-! ### the generator's turns -/
/-- what the one who draws asks, does and wants -/
structure Drw (Y : Cx) (fp : List Addr) where
  pc : List V → List (Addr × Obj) → Prop
  con : List V → V → Hp → Prop → Prop
  wk : List V → Value → Shared → Shared → Prop
  fin : List V → Hp → Prop
  wake : ∀ {ys : List V} {y : V} {v : Value} {σ : L2.St} {H : Hp} {s s' : Shared} {pl : List (Addr × Obj)}, pc ys pl → (∀ p ∈ pl, p.1 ∉ fp) → Inv Y pl σ H s → RelV y v → wk ys v s s' →
    ∃ pl', pc (ys ++ [y]) pl' ∧ (∀ p ∈ pl', p.1 ∉ fp) ∧ Inv Y pl' σ H s' ∧ ∀ b ∈ fp, ∀ o, s.heap.get? b = some o → s'.heap.get? b = some o
variable {Y : Cx} {fp : List Addr}
def Drw.prot (D : Drw Y fp) : Protocol := fun n s₀ v s kap =>
  ∃ ys y σ H pl Kn, D.pc ys pl ∧ (∀ p ∈ pl, p.1 ∉ fp) ∧ Inv Y pl σ H s ∧ RelV y v ∧ D.con ys y H Kn ∧ ∀ s', D.wk ys v s s' → Kn → kap (.send .none) s'
def Drw.endp (D : Drw Y fp) : GenEnd := fun n s₀ r s => r = .ok .next ∧ ∃ ys σ H pl, D.pc ys pl ∧ (∀ p ∈ pl, p.1 ∉ fp) ∧ Inv Y pl σ H s ∧ D.fin ys H
/-- what the turns need: W by what is out, the turn and a measure -/
def Turns (D : Drw Y fp) (J : It) (g : TG) (tt : TT) (te : TE) (vs : List Nat) (σw : L2.St) (W : List V → Nat → Nat → Hp → Prop) : Prop :=
  ∀ ys i m H, W ys i m H → (J.stop i H ∧ D.fin ys H) ∨ (J.go i H ∧ ∃ Nx : List V → Hp → Prop, (∀ ys' H', Nx ys' H' → ∃ m', m' < m ∧ W ys' (i + 1) m' H') ∧ ∀ x H', J.yld i H x H' →
    g x σw H' fun σ2 H2 => wipe σ2 vs = σw ∧ tt σ2 H2 fun b H3 => if b = true then te σ2 H3 fun y H4 => D.con ys y H4 (Nx (ys ++ [y]) H4) else Nx ys H3)
theorem seg_turns {G : Around} {elt tg iter : Expr} {ifs : List Expr} {scope : Scope} {pos : Pos} {it : Addr} {tn : Nat → Heap → Prop} {J : It} {g : TG} {tt : TT} {te : TE} {vs : List Nat} {σw : L2.St} {W : List V → Nat → Nat → Hp → Prop} (D : Drw Y fp)
    (hover : G.over (.compLoop (.GeneratorExp elt [⟨tg, iter, ifs, 0⟩] scope pos) 0 (.ref it) .none Y.env) [] = Y.A) (hc : Y.calm = true) (hex : Y.ex = fp) (hpn : Y.pn = []) (hxe : Y.xe = fun _ _ => False) (hco : Y.env.scope.isCoroutine = false)
    (T : Turn Y.prog Y.w Y.K tg J fp it tn) (pg : PG Y tg g) (pt : PTs Y ifs tt) (pe : PE Y elt te) (turn : Turns D J g tt te vs σw W) :
    ∀ (m n : Nat) (ys : List V) (i : Nat) (H : Hp) (s₀ s : Shared) (pl : List (Addr × Obj)), m < n → W ys i m H → D.pc ys pl → (∀ p ∈ pl, p.1 ∉ fp) → Inv Y pl σw H s → tn i s.heap → (∀ b ∈ fp, H b = none) →
      Seg (model Y.prog Y.w) G D.endp D.prot n s₀ (.compLoop (.GeneratorExp elt [⟨tg, iter, ifs, 0⟩] scope pos) 0 (.ref it) .none Y.env)
        ((model Y.prog Y.w).den (.compLoop (.GeneratorExp elt [⟨tg, iter, ifs, 0⟩] scope pos) 0 (.ref it) .none Y.env)) [] s := by
  intro m
  induction m using Nat.strongRecOn with
  | ind m ih =>
    intro n ys i H s₀ s pl hmn hW hpc hpl I st nfp
    have stat : ∀ {σ' : L2.St} {H' : Hp} {s' : Shared} {pl' : List (Addr × Obj)}, Inv Y pl' σ' H' s' → (∀ p ∈ pl', p.1 ∉ fp) → (∀ b ∈ fp, H' b = none) → ∀ b ∈ fp, FpOk Y pl' H' b := fun {σ' H' s' pl'} I' hp hn b hb =>
      ⟨hn b hb, (I'.ok.exf b (hex ▸ hb)).1, I'.ok.exfs b (hex ▸ hb), .inl (hex ▸ hb), fun x c e => (I'.ok.exf b (hex ▸ hb)).2 x c e, fun p hp' z => by
        rw [hpn] at hp'
        exact hp p (by simpa using hp') (z ▸ hb)⟩
    show Seg _ G _ _ _ s₀ _ ((compTurn (.GeneratorExp elt [⟨tg, iter, ifs, 0⟩] scope pos) 0 (.ref it) .none Y.env).onRaise (leaving Y.env)) [] s
    rw [compTurn_gen, Sem.onRaise_eq_wrap]
    refine seg_bind_wrap (wpAny_standAt ?_)
    rcases turn ys i m H hW with ⟨stop, qq⟩ | ⟨go, Nx, hNx, step⟩
    · refine seg_bind_wrap ?_
      rw [hover]
      refine wpAny_mono (T.done Y rfl rfl rfl hc i pl s σw H (fun _ _ => False) I (stat I hpl nfp) st stop) (fun r s6 hr => ?_) fun _ _ z => z.elim
      obtain ⟨rfl, I6⟩ := hr
      exact seg_end (.ok .next) ⟨rfl, ys, σw, H, pl, hpc, hpl, I6, qq⟩
    · refine seg_bind_wrap ?_
      rw [hover]
      refine wpAny_mono (T.item Y rfl rfl rfl hc i pl s σw H (fun _ _ => False) I (stat I hpl nfp) st go) (fun r s6 hr => ?_) fun _ _ z => z.elim
      obtain ⟨u, rfl, h6⟩ := hr
      refine seg_bind_wrap ?_
      rw [hover]
      refine wpAny_mono h6 (fun _ s7 h7 => ?_) fun _ _ z => z.elim
      obtain ⟨x, H7, I7, r7, y7, st7, n7⟩ := h7
      have I7' := I7.pinned (stat I7 hpl n7) (T.obj _ _ st7)
      refine seg_bind_wrap ?_
      rw [hover]
      refine wpAny_mono (pg.run _ s7 _ H7 x u _ I7' r7 (step x H7 y7)) (fun _ s8 h8 => ?_) fun e s z => by rw [hxe] at z; exact z.elim
      obtain ⟨σ8, H8, I8, hw8, q8⟩ := h8
      refine seg_bind_wrap ?_
      rw [hover]
      refine wpAny_mono (pt.run _ s8 σ8 H8 _ I8 q8) (fun b s9 h9 => ?_) fun e s z => by rw [hxe] at z; exact z.elim
      obtain ⟨H9, I9, q9⟩ := h9
      have back : ∀ {s' : Shared} {H' : Hp}, Inv Y (pl ++ pinsAt fp s7.heap) σ8 H' s' → Inv Y pl σw H' s' ∧ tn (i + 1) s'.heap ∧ ∀ b ∈ fp, H' b = none := fun {s' H'} I' => by
        have pin' : ∀ b ∈ fp, ∀ o, s7.heap.get? b = some o → s'.heap.get? b = some o ∧ H' b = none := fun b hb o e =>
          let z := I'.pin (b, o) (List.mem_append_right _ (List.mem_append_right _ (mem_pinsAt hb e)))
          ⟨z.1, z.2.1⟩
        have hl : σw.length = σ8.length := by rw [← hw8, wipe_length]
        refine ⟨(I'.unpinned).weak hl (fun j v e => ?_), T.keep _ _ _ st7 fun b hb o e => (pin' b hb o e).1, fun b hb => ?_⟩
        · rw [← hw8] at e
          exact (wipe_some e).1
        · obtain ⟨o, e, _⟩ := T.obj _ _ st7 b hb
          exact (pin' b hb o e).2
      cases b with
      | false =>
        simp only [Bool.false_eq_true, if_false] at q9 ⊢
        obtain ⟨m', hm, w'⟩ := hNx ys H9 q9
        obtain ⟨J1, J2, J3⟩ := back I9
        exact seg_again rfl (ih m' hm n ys (i + 1) H9 s₀ s9 pl (by omega) w' hpc hpl J1 J2 J3)
      | true =>
        simp only [if_true] at q9 ⊢
        have hy : ∀ v, yieldOut Y.env v = yieldValue v := fun v => by simp only [yieldOut, hco, Bool.false_eq_true, if_false]
        simp only [hy]
        rw [Sem.bind_eq_wrap', Sem.bind_eq_wrap', Sem.wrap_wrap, Sem.wrap_wrap]
        refine seg_wrap ?_
        rw [hover]
        refine wpAny_mono (pe.run _ s9 σ8 H9 _ I9 q9) (fun yv s10 h10 => ?_) fun e s z => by rw [hxe] at z; exact z.elim
        obtain ⟨y, H10, I10, r10, q10⟩ := h10
        obtain ⟨J1, J2, J3⟩ := back I10
        have key : ∀ s', D.wk ys yv s10 s' → Nx (ys ++ [y]) H10 → ∃ m', m' < m ∧ ∀ (n' : Nat) (s₀' : Shared), m' < n' → Seg (model Y.prog Y.w) G D.endp D.prot n' s₀' (.compLoop (.GeneratorExp elt [⟨tg, iter, ifs, 0⟩] scope pos) 0 (.ref it) .none Y.env)
            ((model Y.prog Y.w).den (.compLoop (.GeneratorExp elt [⟨tg, iter, ifs, 0⟩] scope pos) 0 (.ref it) .none Y.env)) [] s' := fun s' hw nx => by
          obtain ⟨m', hm, w'⟩ := hNx (ys ++ [y]) H10 nx
          obtain ⟨pl', z1, z2, z3, z4⟩ := D.wake hpc hpl J1 r10 hw
          exact ⟨m', hm, fun n' s₀' hn' => ih m' hm n' (ys ++ [y]) (i + 1) H10 s₀' s' pl' hn' w' z1 z2 z3 (T.keep _ _ _ J2 z4) J3⟩
        cases n with
        | zero => exact absurd hmn (Nat.not_lt_zero _)
        | succ n =>
          refine seg_at (seg_yield rfl rfl rfl ⟨ys, y, σw, H10, pl, _, hpc, hpl, J1, r10, q10, fun s' hw nx => ?_⟩)
          obtain ⟨m', hm, k⟩ := key s' hw nx
          exact seg_again rfl (k n s' (by omega))
end L5

set_option Elab.async false
set_option linter.all false
set_option maxRecDepth 100000
set_option maxHeartbeats 2000000
namespace L5
open PySem PySem.Spec
open PyProof.Rows hiding St
open L2 L3
open GxR (TabB inv_tab)
theorem over_gen {A : Around} {elt tg iter : Expr} {ifs : List Expr} {scope : Scope} {pos : Pos} {it acc : Value} {env : Env} : A.over (.compLoop (.GeneratorExp elt [⟨tg, iter, ifs, 0⟩] scope pos) 0 it acc env) [] = A.deeper env := by
  first
    | rfl
    | (obtain ⟨hd, d, fr, gs, u⟩ := A; simp [Around.over, Around.deeper, marksOver, frameCount, unitsOf, envsOf, guardsOf, pushEnvs, pushGuards, Code.envs, Code.env?, Code.isFrame, Code.guards, Code.isGuard, Code.weight, Code.frames, Code.isCreation, Code.isCaller, Code.cUnits])
theorem deeper_frames {A : Around} {env : Env} {l : List Env} (h : A.frames = some l) : (A.deeper env).frames = some (env :: l) := by
  obtain ⟨hd, d, fr, gs, u⟩ := A
  have h : fr = some l := h
  subst h
  rfl
theorem room_gen {k : Nat} {A : Around} (r : Room (k + 1) A) (env : Env) : Room k (A.in1.in1.deeper env) :=
  ⟨r.hd, by have := r.dp; show A.depth + 1 + 3 * k + 5 < _; omega, by have := r.un; show A.units + 1 + 1 + 3 + 16 * k + 200 < _; omega⟩
theorem inv_gens {Y : Cx} {pl : List (Addr × Obj)} {σ : L2.St} {H : Hp} {s : Shared} {g' : Array GenState} (I : Inv Y pl σ H s) (hg : AllBare g') : Inv Y pl σ H { s with gens := g' } :=
  ⟨I.ok, I.os, hg, I.base, I.loc, I.cell, I.free, I.freeC, I.pin, I.hok, I.len⟩
theorem inv_keep {Y : Cx} {pl : List (Addr × Obj)} {σ : L2.St} {H : Hp} {s s' : Shared} (I : Inv Y pl σ H s) (ho : s'.os = s.os) (hg : AllBare s'.gens) (hk : ∀ b o, s.heap.get? b = some o → s'.heap.get? b = some o) : Inv Y pl σ H s' := by
  exact I.call' (ch := []) ho (Un.kept hk) (I.hok.kept hk) hg fun b hb => absurd hb (by simp)
/-! ### the one who draws: all, any -/
/-- stop: the answer at which the drawing ends -/
def drwB (Y : Cx) (fp : List Addr) (a : Addr) (ob : Obj) (ha : a ∉ fp) (stop : Bool) (Q : Bool → Hp → Prop) : Drw Y fp where
  pc := fun _ pl => pl = [(a, ob)]
  con := fun _ y H Kn => ∃ c : Bool, y = .bl c ∧ (c = stop → Q stop H) ∧ (c ≠ stop → Kn)
  wk := fun _ _ s s' => s'.os = s.os ∧ AllBare s'.gens ∧ s'.heap = s.heap
  fin := fun _ H => Q (!stop) H
  wake := fun {ys y v σ H s s' pl} hp hf I _ ⟨h1, h2, h3⟩ => ⟨pl, hp, hf, inv_keep I h1 h2 fun b o e => by rw [h3]; exact e, fun b _ o e => by rw [h3]; exact e⟩
section
variable {P : Program} {w : World} {Y : Cx} {fp : List Addr} {a : Addr} {g : Nat} {ob : Obj} {ha : a ∉ fp} {Q : Bool → Hp → Prop} {R : Result → Shared → Prop} {A : Around}
theorem gens_at {s : Shared} {g : Nat} {x : GenState} (h : g < s.gens.size) : (s.setGen g x).gens[g]? = some x := L2.setGen_at h
theorem all_loop (hP : Y.prog = P) (hw : Y.w = w) (hh : A.handled = none) (hd : A.depth < recursionLimit) (hob : ∀ h : Heap, h.get? a = some ob → h.IsGen a g)
    (hR : ∀ (b : Bool) (σ : L2.St) (H : Hp) (s' : Shared), Inv Y [(a, ob)] σ H s' → Q b H → R (.ok (.ret (.bool b))) s') :
    ∀ (n : Nat) (s : Shared), s.heap.get? a = some ob → s.heap.NoLimit → AllBare s.gens →
      (∃ gs, s.gens[g]? = some gs ∧ gs.Goes (model P w) A.in1.in1 (drwB Y fp a ob ha false Q).endp (drwB Y fp a ob ha false Q).prot n (.send .none) (s.setGen g .running)) →
      codeAny (model P w) A (.builtin "all.loop" ⟨[.ref a], []⟩) R s := by
  intro n
  induction n with
  | zero =>
    intro s hs hl hb ⟨gs, hgs, hgo⟩
    have hgl : g < s.gens.size := (Array.getElem?_eq_some_iff.mp hgs).1
    refine codeAny_builtin F.entry_all_loop ?_
    rw [Around.under_plainId F.plain_all_loop _]
    show wpAny _ A.in1 (pyNext (.ref a) >>= _) _ _ s
    refine wpAny_bind (GenW.wpAny_gsz (n := g + 1) hgl (wpAny_pyNext_genexpQ (A := A.in1) (P := fun n s₀ s₁ => ∃ ys σ H pl, (drwB Y fp a ob ha false Q).pc ys pl ∧ (∀ p ∈ pl, p.1 ∉ fp) ∧ Inv Y pl σ H s₁ ∧ (drwB Y fp a ob ha false Q).fin ys H) hh hl hd (hob _ hs) hgs hgo (fun v s₁ gs' hbare hv => ?_) (fun s₁ hp h' hk => ?_)))
    · intro hsz
      obtain ⟨ys, y, σ, H, pl, Kn, hpc, hpl, I, rv, ⟨c, rfl, q1, q2⟩, hk⟩ := hv
      obtain rfl : pl = [(a, ob)] := hpc
      have hgs1 : g < s₁.gens.size := by
        have := hsz
        rw [GenW.setGen_size] at this
        omega
      obtain rfl : v = .bool c := rv
      have hb1 : AllBare (s₁.setGen g gs').gens := L2.allBare_setGen I.bare hbare
      have I1 : Inv Y [(a, ob)] σ H (s₁.setGen g gs') := inv_gens I hb1
      refine wpAny_bind (wpAny_holding (wpAny_truthy_bool ?_))
      refine wpAny_bind (wpAny_letGo ?_)
      cases c with
      | true =>
        simp only [if_true]
        have kn : Kn := q2 (by decide)
        exact False.elim (hk s₁ ⟨rfl, I.bare, rfl⟩ kn)
      | false =>
        simp only [Bool.false_eq_true, if_false]
        refine wpAny_bind (wpAny_rule (wpAny_pure ?_))
        exact hR false σ H _ I1 (q1 rfl)
    · intro hsz
      obtain ⟨ys, σ, H, pl, hpc, hpl, I, q⟩ := hp
      obtain rfl : pl = [(a, ob)] := hpc
      refine wpAny_bind (wpAny_rule (wpAny_pure ?_))
      exact hR true σ H _ (inv_keep I rfl (L2.allBare_setGen I.bare rfl) hk) q
  | succ n ih =>
    intro s hs hl hb ⟨gs, hgs, hgo⟩
    have hgl : g < s.gens.size := (Array.getElem?_eq_some_iff.mp hgs).1
    refine codeAny_builtin F.entry_all_loop ?_
    rw [Around.under_plainId F.plain_all_loop _]
    show wpAny _ A.in1 (pyNext (.ref a) >>= _) _ _ s
    refine wpAny_bind (GenW.wpAny_gsz (n := g + 1) hgl (wpAny_pyNext_genexpQ (A := A.in1) (P := fun n s₀ s₁ => ∃ ys σ H pl, (drwB Y fp a ob ha false Q).pc ys pl ∧ (∀ p ∈ pl, p.1 ∉ fp) ∧ Inv Y pl σ H s₁ ∧ (drwB Y fp a ob ha false Q).fin ys H) hh hl hd (hob _ hs) hgs hgo (fun v s₁ gs' hbare hv => ?_) (fun s₁ hp h' hk => ?_)))
    · intro hsz
      obtain ⟨ys, y, σ, H, pl, Kn, hpc, hpl, I, rv, ⟨c, rfl, q1, q2⟩, hk⟩ := hv
      obtain rfl : pl = [(a, ob)] := hpc
      have hgs1 : g < s₁.gens.size := by
        have := hsz
        rw [GenW.setGen_size] at this
        omega
      obtain rfl : v = .bool c := rv
      have hb1 : AllBare (s₁.setGen g gs').gens := L2.allBare_setGen I.bare hbare
      have I1 : Inv Y [(a, ob)] σ H (s₁.setGen g gs') := inv_gens I hb1
      refine wpAny_bind (wpAny_holding (wpAny_truthy_bool ?_))
      refine wpAny_bind (wpAny_letGo ?_)
      cases c with
      | true =>
        simp only [if_true]
        have kn : Kn := q2 (by decide)
        refine wpAny_pure ⟨plainId_quiet F.plain_all_loop _, ih _ ?_ I1.nolimit hb1 ⟨gs', gens_at hgs1, ?_⟩⟩
        · exact (I1.pin (a, ob) (by simp)).1
        · exact hk _ ⟨rfl, L2.allBare_setGen (L2.allBare_setGen I.bare hbare) rfl, rfl⟩ kn
      | false =>
        simp only [Bool.false_eq_true, if_false]
        refine wpAny_bind (wpAny_rule (wpAny_pure ?_))
        exact hR false σ H _ I1 (q1 rfl)
    · intro hsz
      obtain ⟨ys, σ, H, pl, hpc, hpl, I, q⟩ := hp
      obtain rfl : pl = [(a, ob)] := hpc
      refine wpAny_bind (wpAny_rule (wpAny_pure ?_))
      exact hR true σ H _ (inv_keep I rfl (L2.allBare_setGen I.bare rfl) hk) q
theorem any_loop (hP : Y.prog = P) (hw : Y.w = w) (hh : A.handled = none) (hd : A.depth < recursionLimit) (hob : ∀ h : Heap, h.get? a = some ob → h.IsGen a g)
    (hR : ∀ (b : Bool) (σ : L2.St) (H : Hp) (s' : Shared), Inv Y [(a, ob)] σ H s' → Q b H → R (.ok (.ret (.bool b))) s') :
    ∀ (n : Nat) (s : Shared), s.heap.get? a = some ob → s.heap.NoLimit → AllBare s.gens →
      (∃ gs, s.gens[g]? = some gs ∧ gs.Goes (model P w) A.in1.in1 (drwB Y fp a ob ha true Q).endp (drwB Y fp a ob ha true Q).prot n (.send .none) (s.setGen g .running)) →
      codeAny (model P w) A (.builtin "any.loop" ⟨[.ref a], []⟩) R s := by
  intro n
  induction n with
  | zero =>
    intro s hs hl hb ⟨gs, hgs, hgo⟩
    have hgl : g < s.gens.size := (Array.getElem?_eq_some_iff.mp hgs).1
    refine codeAny_builtin F.entry_any_loop ?_
    rw [Around.under_plainId F.plain_any_loop _]
    show wpAny _ A.in1 (pyNext (.ref a) >>= _) _ _ s
    refine wpAny_bind (GenW.wpAny_gsz (n := g + 1) hgl (wpAny_pyNext_genexpQ (A := A.in1) (P := fun n s₀ s₁ => ∃ ys σ H pl, (drwB Y fp a ob ha true Q).pc ys pl ∧ (∀ p ∈ pl, p.1 ∉ fp) ∧ Inv Y pl σ H s₁ ∧ (drwB Y fp a ob ha true Q).fin ys H) hh hl hd (hob _ hs) hgs hgo (fun v s₁ gs' hbare hv => ?_) (fun s₁ hp h' hk => ?_)))
    · intro hsz
      obtain ⟨ys, y, σ, H, pl, Kn, hpc, hpl, I, rv, ⟨c, rfl, q1, q2⟩, hk⟩ := hv
      obtain rfl : pl = [(a, ob)] := hpc
      have hgs1 : g < s₁.gens.size := by
        have := hsz
        rw [GenW.setGen_size] at this
        omega
      obtain rfl : v = .bool c := rv
      have hb1 : AllBare (s₁.setGen g gs').gens := L2.allBare_setGen I.bare hbare
      have I1 : Inv Y [(a, ob)] σ H (s₁.setGen g gs') := inv_gens I hb1
      refine wpAny_bind (wpAny_holding (wpAny_truthy_bool ?_))
      refine wpAny_bind (wpAny_letGo ?_)
      cases c with
      | false =>
        simp only [Bool.false_eq_true, if_false]
        have kn : Kn := q2 (by decide)
        exact False.elim (hk s₁ ⟨rfl, I.bare, rfl⟩ kn)
      | true =>
        simp only [if_true]
        refine wpAny_bind (wpAny_rule (wpAny_pure ?_))
        exact hR true σ H _ I1 (q1 rfl)
    · intro hsz
      obtain ⟨ys, σ, H, pl, hpc, hpl, I, q⟩ := hp
      obtain rfl : pl = [(a, ob)] := hpc
      refine wpAny_bind (wpAny_rule (wpAny_pure ?_))
      exact hR false σ H _ (inv_keep I rfl (L2.allBare_setGen I.bare rfl) hk) q
  | succ n ih =>
    intro s hs hl hb ⟨gs, hgs, hgo⟩
    have hgl : g < s.gens.size := (Array.getElem?_eq_some_iff.mp hgs).1
    refine codeAny_builtin F.entry_any_loop ?_
    rw [Around.under_plainId F.plain_any_loop _]
    show wpAny _ A.in1 (pyNext (.ref a) >>= _) _ _ s
    refine wpAny_bind (GenW.wpAny_gsz (n := g + 1) hgl (wpAny_pyNext_genexpQ (A := A.in1) (P := fun n s₀ s₁ => ∃ ys σ H pl, (drwB Y fp a ob ha true Q).pc ys pl ∧ (∀ p ∈ pl, p.1 ∉ fp) ∧ Inv Y pl σ H s₁ ∧ (drwB Y fp a ob ha true Q).fin ys H) hh hl hd (hob _ hs) hgs hgo (fun v s₁ gs' hbare hv => ?_) (fun s₁ hp h' hk => ?_)))
    · intro hsz
      obtain ⟨ys, y, σ, H, pl, Kn, hpc, hpl, I, rv, ⟨c, rfl, q1, q2⟩, hk⟩ := hv
      obtain rfl : pl = [(a, ob)] := hpc
      have hgs1 : g < s₁.gens.size := by
        have := hsz
        rw [GenW.setGen_size] at this
        omega
      obtain rfl : v = .bool c := rv
      have hb1 : AllBare (s₁.setGen g gs').gens := L2.allBare_setGen I.bare hbare
      have I1 : Inv Y [(a, ob)] σ H (s₁.setGen g gs') := inv_gens I hb1
      refine wpAny_bind (wpAny_holding (wpAny_truthy_bool ?_))
      refine wpAny_bind (wpAny_letGo ?_)
      cases c with
      | false =>
        simp only [Bool.false_eq_true, if_false]
        have kn : Kn := q2 (by decide)
        refine wpAny_pure ⟨plainId_quiet F.plain_any_loop _, ih _ ?_ I1.nolimit hb1 ⟨gs', gens_at hgs1, ?_⟩⟩
        · exact (I1.pin (a, ob) (by simp)).1
        · exact hk _ ⟨rfl, L2.allBare_setGen (L2.allBare_setGen I.bare hbare) rfl, rfl⟩ kn
      | true =>
        simp only [if_true]
        refine wpAny_bind (wpAny_rule (wpAny_pure ?_))
        exact hR true σ H _ I1 (q1 rfl)
    · intro hsz
      obtain ⟨ys, σ, H, pl, hpc, hpl, I, q⟩ := hp
      obtain rfl : pl = [(a, ob)] := hpc
      refine wpAny_bind (wpAny_rule (wpAny_pure ?_))
      exact hR false σ H _ (inv_keep I rfl (L2.allBare_setGen I.bare rfl) hk) q
end
end L5

set_option Elab.async false
set_option linter.all false
set_option maxRecDepth 100000
set_option maxHeartbeats 2000000
namespace L5
open PySem PySem.Spec
open PyProof.Rows hiding St
open L2 L3
open GxR (TabB inv_tab)
section
variable {X : Cx} {pins : List (Addr × Obj)} {σ : L2.St} {H : Hp} {s : Shared}
/-- the generator has come, at a; H2: the table may have grown -/
structure Come (X : Cx) (pins : List (Addr × Obj)) (σ : L2.St) (P : Addr) (elt tg iter : Expr) (ifs : List Expr) (scope : Scope) (gpos : Pos) (J : It) (H1 H2 : Hp) (it : Addr) (fp : List Addr) (tn : Nat → Heap → Prop) (code : Value) (a g : Nat) (ob : Obj) (s4 s5 : Shared) : Prop where
  tab : Tabbed P H1 H2
  inv : Inv X pins σ H2 s4
  turn : Turn X.prog X.w X.K tg J fp it tn
  fp : ∀ b ∈ fp, FpOk X pins H2 b ∧ b < s4.heap.objs.size
  tn : tn 0 s5.heap
  ns : s5.heap.Ns s4.heap.objs.size (fun y => if y = ".0" then some (.ref it) else none)
  keep : ∀ b o, s4.heap.get? b = some o → s5.heap.get? b = some o
  obj : s5.heap.get? a = some ob
  gen : ∀ h : Heap, h.get? a = some ob → h.IsGen a g
  big : s4.heap.objs.size < a
  cell : ∀ v, ob.data ≠ .cell v
  os : s5.os = s4.os
  drawn : s5.drawn = s4.drawn
  bare : AllBare s5.gens
  gens : s5.gens[g]? = some (.fresh (.compStart (.GeneratorExp elt [⟨tg, iter, ifs, 0⟩] scope gpos) 0 (.ref it) .none (genv X scope s4.heap.objs.size code)))
theorem lam_off {p g : Pos} (h : lamP p = true) (k : lamP g = false) : ¬ (g.line = p.line ∧ g.col = p.col) := fun ⟨e1, e2⟩ => by
  unfold lamP at h k
  rw [e1, e2, h] at k
  cases k
theorem among_off {p g : Pos} {c cv : Value} {l : List Value} (h : TriplesOk l) (n : ¬ (g.line = p.line ∧ g.col = p.col)) (hc : codeAmong p (l ++ [rawInt g.line, rawInt g.col, c]) = some cv) : codeAmong p l = some cv := by
  fun_induction TriplesOk l with
  | case1 =>
    simp only [List.nil_append, rawInt, codeAmong] at hc
    split at hc
    · rename_i z
      simp only [Bool.and_eq_true, beq_iff_eq] at z
      exact absurd ⟨by omega, by omega⟩ n
    · cases hc
  | case2 a t b u x rest ih =>
    simp only [List.cons_append, codeAmong] at hc ⊢
    split at hc
    · rename_i q
      rw [if_pos q]
      exact hc
    · rename_i q
      rw [if_neg q]
      exact ih h hc
  | case3 l h1 h2 => exact h.elim
theorem gen_make {c P : Addr} {elt tg iter : Expr} {ifs : List Expr} {scope : Scope} {own : List (Str × Nat)} {gpos : Pos} {wi : TI} {k : Nat} {Q' : Value → Shared → Prop} {R : It → Hp → Prop}
    (hr : Room k X.A) (TB : TabB X.base X.mg c P) (hcode : X.env.code = .ref c) (ok : BlkOk X.N X.env.scope scope own) (hcell : ∀ y ∈ scope.names, y.2 ≠ .cell) (h0 : scope.names.lookup (".0" : Str) = some NameKind.local) (hco : scope.isCoroutine = false)
    (hi : PI X tg iter wi) (hs : ∀ v, genFold iter X.env v = pure v) (hlam : lamP gpos = false) (I : Inv X pins σ H s) (h : wi σ H fun J H1 => TabG H1 P ∧ R J H1)
    (hQ : ∀ J H1 H2 it fp tn code a g ob s4 s5, R J H1 → Come X pins σ P elt tg iter ifs scope gpos J H1 H2 it fp tn code a g ob s4 s5 → Q' (.ref a) s5) :
    wpAny (model X.prog X.w) X.A (eval (.GeneratorExp elt [⟨tg, iter, ifs, 0⟩] scope gpos) X.env) Q' X.xe s := by
  have hfree : ∀ y ∈ scope.names, y.2 = .free → ∃ c, X.env.cells.lookup y.1 = some c := fun y hy e => by
    rcases ok.free y hy e with k | k
    · exact I.ok.has _ (.inl k)
    · exact I.ok.has _ (.inr k)
  refine wpAny_GeneratorExp_make hco (closure_ok hfree) hcell h0 ok.kind (by have := hr.dp; omega) ?_ hs
  refine thn (hi.run pins s σ H _ I h) fun xv s1 hx => thn hx fun itv s2 h2 => ?_
  obtain ⟨it, fp, tn, J, H1, rfl, I2, T, st2, f2, ⟨ps, hP, ht, hl⟩, q⟩ := h2
  have hPs : s2.heap.get? P = some { cls := .none, data := .fields ps } := I2.hok P _ hP
  have cd : PySem.W.CodeHd s2.heap c P := TB.code.keeps I2.bk
  have sz : ∀ b ∈ fp, b < s2.heap.objs.size := fun b hb => by
    obtain ⟨o, e, _⟩ := T.obj _ _ st2 b hb
    exact Heap.lt_size e
  have nP : ∀ b ∈ fp, b ≠ P := fun b hb z => by
    have := (f2 b hb).1
    rw [z, hP] at this; cases this
  have cont : ∀ (code : Value) (h3 : Heap) (tk : Nat) (more : Array Value), Heap.ExtBut P s2.heap h3 → s2.heap.objs.size ≤ h3.objs.size → h3.get? P = some { cls := .none, data := .fields (ps ++ more) } → TriplesOk (ps ++ more).toList → (∀ (p : Pos) (cv : Value), lamP p = true → codeAmong p (ps ++ more).toList = some cv → codeAmong p ps.toList = some cv) →
      wpAny (model X.prog X.w) X.A (builtinsFor X.env.globals X.env.builtins) (fun bi s₄ => ∀ h', h'.Ns s₄.heap.objs.size (fun y => if y = ".0" then some (Value.ref it) else none) → Heap.SameBut s₄.heap.objs.size (s₄.heap.push { cls := .type "frame", data := .dict #[] }) h' →
          Q' (.ref h'.objs.size) { s₄ with
            gens := s₄.gens.push (.fresh (.compStart (.GeneratorExp elt [⟨tg, iter, ifs, 0⟩] scope gpos) 0 (.ref it) .none (genEnv scope (cloFrom X.env.cells scope.names []) s₄.heap.objs.size code bi X.env))),
            toks := s₄.toks + 1 + 1 + 1,
            heap := h'.push { cls := .type "generator", data := .fields #[.int s₄.gens.size 0, .str "<genexpr>" (s₄.toks + 1), .str (X.env.qual ++ "<genexpr>") (s₄.toks + 1 + 1)] } }) X.xe { s2 with heap := h3, toks := tk } := by
    intro code h3 tk more hx hsz hP3 ht3 hmore
    obtain ⟨bm, ob, e1, e2, e3, e4, e5, e6, e7, e8⟩ := TB.bm
    have J3 : Inv X pins σ (upd H1 P (.tbl (ps ++ more))) { s2 with heap := h3, toks := tk } :=
      inv_tab (h' := h3) (g' := s2.gens) (d' := s2.drawn) (t' := tk) I2 hP (fun b o hb e => hx b o hb e) hP3 I2.bare
    refine wpAny_builtinsFor (m := X.mg) (by rw [J3.ok.glob]; exact J3.mod.glob.keeps J3.bk) e1 e2 (J3.bk _ _ e5) e6 e7 e8 ?_
    intro h' hn' hs'
    have hsz' : h'.objs.size = h3.objs.size + 1 := by rw [hs'.1, Heap.size_push]
    have keep' : ∀ b o, h3.get? b = some o → h'.get? b = some o := fun b o e => hs'.extBut b o (Nat.ne_of_lt (Heap.lt_size e)) (Heap.get?_push_of_some _ e)
    have keep5 : ∀ (ob : Obj) b o, h3.get? b = some o → (h'.push ob).get? b = some o := fun ob b o e => Heap.get?_push_of_some _ (keep' b o e)
    refine hQ J H1 (upd H1 P (.tbl (ps ++ more))) it fp tn code h'.objs.size s2.gens.size _ { s2 with heap := h3, toks := tk } _ q ⟨⟨⟨_, upd_same, ht3, fun p cv h1 h2 => let ⟨c0, q0, e1, e2⟩ := hl p cv h1 (hmore p cv h1 h2); ⟨c0, q0, e1, by rw [upd_ne (ne_of e2 hP codeO_tbl)]; exact e2⟩⟩, fun b hb => upd_ne hb⟩, J3, T, fun b hb => ⟨⟨?_, (f2 b hb).2⟩, Nat.lt_of_lt_of_le (sz b hb) hsz⟩, ?_, ?_, ?_, Heap.get?_push_size _ rfl, fun h e => ⟨_, _, _, e, rfl, rfl, rfl⟩, ?_, fun v z => (by cases z), rfl, rfl, ?_, ?_⟩
    · rw [upd_ne (nP b hb)]; exact (f2 b hb).1
    · exact T.keep _ _ _ st2 fun b hb o e => keep5 _ b o (hx b o (nP b hb) e)
    · exact hn'.push _
    · exact fun b o e => keep5 _ b o e
    · show h3.objs.size < h'.objs.size
      omega
    · exact AllBare.push I2.bare rfl
    · exact Array.getElem?_push_size ..
  refine ⟨I2.nolimit, ?_⟩
  cases hf : codeAmong gpos ps.toList with
  | none =>
    refine wpAny_genexprCodeX hcode (cd.code hPs ht) (cd.tab hPs) hf fun c' h' tk hx hge hlt hco' _ htab' _ => ?_
    obtain ⟨o1, vs, f1, tf, fl, tg', inF, tx, tt, op, _, _, _, _, _, _, _, _, _, htr, _⟩ := hco'
    exact cont _ h' tk _ hx (Nat.le_trans hge (Nat.le_of_lt hlt)) htab'.2 htr fun p cv h1 h2 => among_off ht (lam_off h1 hlam) (by simpa using h2)
  | some cv =>
    refine wpAny_genexprCode_hit hcode (cd.code hPs ht) hf ?_
    exact cont cv s2.heap s2.toks #[] (Heap.ExtBut.refl _ _) (Nat.le_refl _) (by simpa using hPs) (by simpa using ht) (fun p cv _ h2 => by simpa using h2)
end
end L5

set_option Elab.async false
set_option linter.all false
set_option maxRecDepth 100000
set_option maxHeartbeats 2000000
namespace L5
open PySem PySem.Spec
open PyProof.Rows hiding St
open L2 L3
open GxR (TabB inv_tab)
section
variable {X : Cx} {pins : List (Addr × Obj)} {σ : L2.St} {H : Hp} {s : Shared}
/-- the generator's context, as all and any draw it -/
abbrev gY (X : Cx) (s : Shared) (H : Hp) (scope : Scope) (code : Value) (fp : List Addr) : Cx := gcx X (X.A.in1.in1.deeper (genv X scope s.heap.objs.size code)) s H scope (genv X scope s.heap.objs.size code) fp
theorem come_inv {P : Addr} {elt tg iter : Expr} {ifs : List Expr} {scope : Scope} {own : List (Str × Nat)} {gpos : Pos} {J : It} {H1 H2 : Hp} {it : Addr} {fp : List Addr} {tn : Nat → Heap → Prop} {code : Value} {a g : Nat} {ob : Obj} {s4 s5 : Shared}
    (hc : X.calm = true) (hN : X.N.Nodup) (ok : BlkOk X.N X.env.scope scope own) (hcell : ∀ y ∈ scope.names, y.2 ≠ .cell) (C : Come X pins σ P elt tg iter ifs scope gpos J H1 H2 it fp tn code a g ob s4 s5) :
    Inv (gY X s4 H2 scope code fp) [(a, ob)] (wipe σ (own.map (·.2))) H2 s5 := by
  have hd : X.A.handled = none := C.inv.ok.hd hc
  have hns := C.ns
  have hkp := C.keep
  have hbr := C.bare
  have hos := C.os
  have hdr := C.drawn
  have e5 : s5 = { s4 with heap := s5.heap, gens := s5.gens, toks := s5.toks } := by
    obtain ⟨h', g', d', t', o'⟩ := s5
    have e1 : o' = s4.os := hos
    have e2 : d' = s4.drawn := hdr
    subst e1; subst e2
    rfl
  have I := gen_start (A := X.A.in1.in1.deeper (genv X scope s4.heap.objs.size code)) (h' := s5.heap) (g' := s5.gens) (t' := s5.toks) (code := code) C.inv ok hcell hN C.fp (deeper_frames C.inv.ok.frames) (fun _ => hd) hns hkp hbr
  rw [← e5] at I
  refine I.pins_of fun p hp => ?_
  obtain rfl := List.mem_singleton.mp hp
  have hbig := C.big
  have sz : s4.heap.objs.size ≤ a := Nat.le_of_lt hbig
  refine ⟨C.obj, C.inv.hok.fresh sz, ?_, ?_, C.cell⟩
  · show a ≠ s4.heap.objs.size
    exact Nat.ne_of_gt hbig
  · intro z
    have z2 := C.inv.stkSub a z
    rcases List.mem_cons.mp z2 with z2 | z2
    · exact absurd (z2 ▸ C.inv.lt) (Nat.not_lt.mpr sz)
    · exact C.inv.nofs sz z2
theorem come_goes {P : Addr} {elt tg iter : Expr} {ifs : List Expr} {scope : Scope} {own : List (Str × Nat)} {gpos : Pos} {J : It} {H1 H2 : Hp} {it : Addr} {fp : List Addr} {tn : Nat → Heap → Prop} {code : Value} {a g : Nat} {ob : Obj} {s4 s5 : Shared} {gt : TG} {tt : TT} {te : TE} {W : List V → Nat → Nat → Hp → Prop} {m : Nat}
    (hc : X.calm = true) (hN : X.N.Nodup) (ok : BlkOk X.N X.env.scope scope own) (hcell : ∀ y ∈ scope.names, y.2 ≠ .cell) (hco : scope.isCoroutine = false) (C : Come X pins σ P elt tg iter ifs scope gpos J H1 H2 it fp tn code a g ob s4 s5)
    (D : Drw (gY X s4 H2 scope code fp) fp) (hpc : D.pc [] [(a, ob)])
    (pg : PG (gY X s4 H2 scope code fp) tg gt) (pt : PTs (gY X s4 H2 scope code fp) ifs tt) (pe : PE (gY X s4 H2 scope code fp) elt te) (turn : Turns D J gt tt te (own.map (·.2)) (wipe σ (own.map (·.2))) W) (w0 : W [] 0 m H2) :
    ∃ gs, s5.gens[g]? = some gs ∧ gs.Goes (model X.prog X.w) X.A.in1.in1 D.endp D.prot (m + 1) (.send .none) (s5.setGen g .running) := by
  refine ⟨_, C.gens, rfl, ?_⟩
  have I := come_inv hc hN ok hcell C
  have hfp := C.fp
  have hbig := C.big
  have afp : ∀ p ∈ ([(a, ob)] : List (Addr × Obj)), p.1 ∉ fp := fun p hp z => by
    obtain rfl := List.mem_singleton.mp hp
    exact absurd (hfp _ z).2 (Nat.not_lt.mpr (Nat.le_of_lt hbig))
  have I2 : Inv (gY X s4 H2 scope code fp) [(a, ob)] (wipe σ (own.map (·.2))) H2 (s5.setGen g .running) := inv_gens I (L2.allBare_setGen I.bare rfl)
  have loop := seg_turns (G := X.A.in1.in1) (scope := scope) (pos := gpos) (iter := iter) D over_gen hc rfl rfl rfl hco C.turn pg pt pe turn m (m + 1) [] 0 H2 (s5.setGen g .running) (s5.setGen g .running) [(a, ob)] (Nat.lt_succ_self m) w0 hpc afp I2 C.tn fun b hb => (hfp b hb).1.1
  show Seg _ _ _ _ _ _ _ ((compStart (.GeneratorExp elt [⟨tg, iter, ifs, 0⟩] scope gpos) 0 (.ref it) .none (genv X scope s4.heap.objs.size code)).onRaise (leaving (genv X scope s4.heap.objs.size code))) [] _
  unfold compStart
  rw [Sem.onRaise_eq_wrap]
  show Seg _ _ _ _ _ _ _ ((ask >>= _).wrap _ _ _ _) [] _
  refine seg_bind_wrap (wpAny_askSetting ?_)
  split
  · exact seg_again rfl loop
  · first
      | exact seg_bind_wrap (wpAny_rule (seg_bind_wrap (wpAny_standAt (seg_bind_wrap (C.turn.self _ 0 _ _ _ C.tn (seg_again rfl loop))))))
      | (refine seg_bind_wrap (wpAny_rule ?_); show Seg _ _ _ _ _ _ _ ((standAt iter.pos >>= _).wrap _ _ _ _) [] _; exact seg_bind_wrap (wpAny_standAt (seg_bind_wrap (C.turn.self _ 0 _ _ _ C.tn (seg_again rfl loop)))))
/-- all, any of a generator expression; what is read: the turns with the answer at which they end -/
def tAny (P : Addr) (stop : Bool) (wi : TI) (gt : TG) (tt : TT) (te : TE) (vs : List Nat) : TE := fun σ H Q => wi σ H fun J H1 => TabG H1 P ∧ ∀ H2, Tabbed P H1 H2 → ∃ (W : Nat → Nat → Hp → Prop) (m : Nat), W 0 m H2 ∧
  ∀ i m H, W i m H → (J.stop i H ∧ Q (.bl (!stop)) H) ∨ (J.go i H ∧ ∃ Nx : Hp → Prop, (∀ H', Nx H' → ∃ m', m' < m ∧ W (i + 1) m' H') ∧ ∀ x H', J.yld i H x H' →
    gt x (wipe σ vs) H' fun σ2 H2 => wipe σ2 vs = wipe σ vs ∧ tt σ2 H2 fun b H3 => if b = true then te σ2 H3 fun y H4 => ∃ c : Bool, y = .bl c ∧ (c = stop → Q (.bl stop) H4) ∧ (c ≠ stop → Nx H4) else Nx H3)
theorem pe_allG {c P : Addr} {elt tg iter : Expr} {ifs : List Expr} {scope : Scope} {own : List (Str × Nat)} {p pos gpos : Pos} {wi : TI} {gt : TG} {tt : TT} {te : TE} {k : Nat}
    (hc : X.calm = true) (hN : X.N.Nodup) (hr : Room (k + 1) X.A) (hg : Gl X "all") (hm : X.mg "all" = none) (TB : TabB X.base X.mg c P) (hcode : X.env.code = .ref c)
    (hi : PI X tg iter wi) (ok : BlkOk X.N X.env.scope scope own) (hcell : ∀ y ∈ scope.names, y.2 ≠ .cell) (h0 : scope.names.lookup (".0" : Str) = some NameKind.local) (hco : scope.isCoroutine = false)
    (hgt : ∀ (A : Around) (s : Shared) (H : Hp) (C : Addr) (code : Value) (fp : List Addr), Room k A → PG (gcx X A s H scope (genv X scope C code) fp) tg gt)
    (htt : ∀ (A : Around) (s : Shared) (H : Hp) (C : Addr) (code : Value) (fp : List Addr), Room k A → PTs (gcx X A s H scope (genv X scope C code) fp) ifs tt)
    (hte : ∀ (A : Around) (s : Shared) (H : Hp) (C : Addr) (code : Value) (fp : List Addr), Room k A → PE (gcx X A s H scope (genv X scope C code) fp) elt te)
    (hs : ∀ v, genFold iter X.env v = pure v)
    (he : starEach [.GeneratorExp elt [⟨tg, iter, ifs, 0⟩] scope gpos] X.env = (false, eval (.GeneratorExp elt [⟨tg, iter, ifs, 0⟩] scope gpos) X.env) :: starEach [] X.env := by rfl) (hlam : lamP gpos = false := by rfl) :
    PE X (.Call (.Name "all" p) [.GeneratorExp elt [⟨tg, iter, ifs, 0⟩] scope gpos] [] pos) (tAny P false wi gt tt te (own.map (·.2))) := by
  refine ⟨fun pins s σ H Q I h => ?_⟩
  have hd : X.A.handled = none := I.ok.hd hc
  refine wpAny_Call_Name_kw (ld_blt I hg hm (show bootBuiltins "all" = some (.builtin "all") by first | rfl | kernel_rfl | decide +kernel) ?_)
  refine PyProof.Rows.callWith_builtin1 ?_ he (by rfl)
  rw [he]
  show wpAny _ _ (spliced ((false, eval (.GeneratorExp elt [⟨tg, iter, ifs, 0⟩] scope gpos) X.env) :: backTo pos (starEach [] X.env))) _ _ s
  refine Calls.spliced_cons (gen_make hr TB hcode ok hcell h0 hco hi hs hlam I h fun J H1 H2 it fp tn code a g ob s4 s5 hR C => ?_)
  refine Calls.spliced_nil ?_
  obtain ⟨W, m, w0, turn⟩ := hR H2 C.tab
  have afp : a ∉ fp := fun z => absurd (C.fp a z).2 (Nat.not_lt.mpr (Nat.le_of_lt C.big))
  have room := room_gen hr (genv X scope s4.heap.objs.size code)
  have goes := come_goes (own := own) (W := fun _ i m H => W i m H) hc hN ok hcell hco C (drwB (gY X s4 H2 scope code fp) fp a ob afp false fun b H => Q (.bl b) H) rfl
    (hgt _ s4 H2 _ code fp room) (htt _ s4 H2 _ code fp room) (hte _ s4 H2 _ code fp room) (fun ys i m' H' hW => by
      rcases turn i m' H' hW with z | ⟨go, Nx, hNx, step⟩
      · exact .inl z
      · exact .inr ⟨go, fun _ H' => Nx H', fun _ H' n => hNx H' n, step⟩) w0
  refine call_function_tree F.kind_all F.plain_all F.entry_all (F.args_all1 _) ?_
  unfold Builtin.«all»
  refine wpAny_bind (m := oneArg "all" _) (wpAny_pure ?_)
  refine wpAny_bind (wpAny_pyIter_gen (C.gen _ C.obj) ?_)
  refine wpAny_pure ⟨plainId_quiet F.plain_all_loop _, all_loop (Y := gY X s4 H2 scope code fp) (fp := fp) (ob := ob) (ha := afp) (Q := fun b H => Q (.bl b) H) rfl rfl hd hr.depth C.gen (fun b σ' H' s' I' q => ?_) (m + 1) s5 C.obj (come_inv hc hN ok hcell C).nolimit C.bare goes⟩
  exact ⟨.bl b, H', C.inv.call' (ch := fp) I'.os I'.base I'.hok I'.bare fun b hb => ⟨(C.fp b hb).1.2.2.2.1, (C.fp b hb).1.2.1, (C.fp b hb).1.2.2.2.2.1, (C.fp b hb).1.2.2.2.2.2⟩, rfl, q⟩
theorem pe_anyG {c P : Addr} {elt tg iter : Expr} {ifs : List Expr} {scope : Scope} {own : List (Str × Nat)} {p pos gpos : Pos} {wi : TI} {gt : TG} {tt : TT} {te : TE} {k : Nat}
    (hc : X.calm = true) (hN : X.N.Nodup) (hr : Room (k + 1) X.A) (hg : Gl X "any") (hm : X.mg "any" = none) (TB : TabB X.base X.mg c P) (hcode : X.env.code = .ref c)
    (hi : PI X tg iter wi) (ok : BlkOk X.N X.env.scope scope own) (hcell : ∀ y ∈ scope.names, y.2 ≠ .cell) (h0 : scope.names.lookup (".0" : Str) = some NameKind.local) (hco : scope.isCoroutine = false)
    (hgt : ∀ (A : Around) (s : Shared) (H : Hp) (C : Addr) (code : Value) (fp : List Addr), Room k A → PG (gcx X A s H scope (genv X scope C code) fp) tg gt)
    (htt : ∀ (A : Around) (s : Shared) (H : Hp) (C : Addr) (code : Value) (fp : List Addr), Room k A → PTs (gcx X A s H scope (genv X scope C code) fp) ifs tt)
    (hte : ∀ (A : Around) (s : Shared) (H : Hp) (C : Addr) (code : Value) (fp : List Addr), Room k A → PE (gcx X A s H scope (genv X scope C code) fp) elt te)
    (hs : ∀ v, genFold iter X.env v = pure v)
    (he : starEach [.GeneratorExp elt [⟨tg, iter, ifs, 0⟩] scope gpos] X.env = (false, eval (.GeneratorExp elt [⟨tg, iter, ifs, 0⟩] scope gpos) X.env) :: starEach [] X.env := by rfl) (hlam : lamP gpos = false := by rfl) :
    PE X (.Call (.Name "any" p) [.GeneratorExp elt [⟨tg, iter, ifs, 0⟩] scope gpos] [] pos) (tAny P true wi gt tt te (own.map (·.2))) := by
  refine ⟨fun pins s σ H Q I h => ?_⟩
  have hd : X.A.handled = none := I.ok.hd hc
  refine wpAny_Call_Name_kw (ld_blt I hg hm (show bootBuiltins "any" = some (.builtin "any") by first | rfl | kernel_rfl | decide +kernel) ?_)
  refine PyProof.Rows.callWith_builtin1 ?_ he (by rfl)
  rw [he]
  show wpAny _ _ (spliced ((false, eval (.GeneratorExp elt [⟨tg, iter, ifs, 0⟩] scope gpos) X.env) :: backTo pos (starEach [] X.env))) _ _ s
  refine Calls.spliced_cons (gen_make hr TB hcode ok hcell h0 hco hi hs hlam I h fun J H1 H2 it fp tn code a g ob s4 s5 hR C => ?_)
  refine Calls.spliced_nil ?_
  obtain ⟨W, m, w0, turn⟩ := hR H2 C.tab
  have afp : a ∉ fp := fun z => absurd (C.fp a z).2 (Nat.not_lt.mpr (Nat.le_of_lt C.big))
  have room := room_gen hr (genv X scope s4.heap.objs.size code)
  have goes := come_goes (own := own) (W := fun _ i m H => W i m H) hc hN ok hcell hco C (drwB (gY X s4 H2 scope code fp) fp a ob afp true fun b H => Q (.bl b) H) rfl
    (hgt _ s4 H2 _ code fp room) (htt _ s4 H2 _ code fp room) (hte _ s4 H2 _ code fp room) (fun ys i m' H' hW => by
      rcases turn i m' H' hW with z | ⟨go, Nx, hNx, step⟩
      · exact .inl z
      · exact .inr ⟨go, fun _ H' => Nx H', fun _ H' n => hNx H' n, step⟩) w0
  refine call_function_tree F.kind_any F.plain_any F.entry_any (F.args_any1 _) ?_
  unfold Builtin.«any»
  refine wpAny_bind (m := oneArg "any" _) (wpAny_pure ?_)
  refine wpAny_bind (wpAny_pyIter_gen (C.gen _ C.obj) ?_)
  refine wpAny_pure ⟨plainId_quiet F.plain_any_loop _, any_loop (Y := gY X s4 H2 scope code fp) (fp := fp) (ob := ob) (ha := afp) (Q := fun b H => Q (.bl b) H) rfl rfl hd hr.depth C.gen (fun b σ' H' s' I' q => ?_) (m + 1) s5 C.obj (come_inv hc hN ok hcell C).nolimit C.bare goes⟩
  exact ⟨.bl b, H', C.inv.call' (ch := fp) I'.os I'.base I'.hok I'.bare fun b hb => ⟨(C.fp b hb).1.2.2.2.1, (C.fp b hb).1.2.1, (C.fp b hb).1.2.2.2.2.1, (C.fp b hb).1.2.2.2.2.2⟩, rfl, q⟩
end
end L5

set_option Elab.async false
set_option linter.all false
set_option maxRecDepth 100000
set_option maxHeartbeats 2000000
namespace L5
open PySem PySem.Spec
open PyProof.Rows hiding St
open L2 L3
open GxR (TabB inv_tab)
/-! ### the mirrors of all and any -/
def anyLoop {S : Type} (o : Ops S) (own : List Nat) (tg : Tg) (mt : M S Bool) (me : M S PV) (stop : Bool) : List PV → S → Option (Bool × S)
  | [], st => some (!stop, st)
  | p :: l, st => match setT o tg p st with
    | none => none
    | some st1 => match mt st1 with
      | none => none
      | some (true, st2) => match me st2 with
        | some (.bool c, st3) => if c = stop then some (stop, o.clr st3 own) else anyLoop o own tg mt me stop l (o.clr st3 own)
        | _ => none
      | some (false, st2) => anyLoop o own tg mt me stop l (o.clr st2 own)
def mAny {S : Type} (stop : Bool) (o : Ops S) (own : List Nat) (tg : Tg) (mi : M S (List PV)) (mt : M S Bool) (me : M S PV) : M S PV := fun st => match mi st with
  | none => none
  | some (l, st1) => if own.all o.wr = true ∧ tgIn tg own = true then match anyLoop o own tg mt me stop l (o.clr st1 own) with
      | none => none
      | some (b, stb) => some (.bool b, o.leave st1 stb own)
    else none
section
variable {X : Cx} {S : Type} {o : Ops S} {md : Md X.K o}
theorem sb_tab {Hs H1 H2 : Hp} {P : Addr} (h : Sb Hs H1) (t : TabG H1 P) (z : Tabbed P H1 H2) : Sb Hs H2 := fun a u e => by
  obtain ⟨h1, h2⟩ := h a u e
  refine ⟨h1, ?_⟩
  obtain ⟨ps, e1, _⟩ := t
  rw [z.2 a (fun q => by subst q; rw [e1] at h2; cases h2; exact h1)]
  exact h2
theorem stp_tab {Hs H1 H2 : Hp} {U : US} {P : Addr} (t : TabG H1 P) (z : Tabbed P H1 H2) : Stp Hs U H1 Hs U H2 where
  hs := Same.refl _
  fr := fun a u e n _ => by
    obtain ⟨ps, e1, _⟩ := t
    rw [z.2 a (fun q => by subst q; rw [e1] at e; cases e; exact n)]
    exact e
  tb := fun P' h => by
    by_cases q : P' = P
    · subst q; exact z.1
    · obtain ⟨ps, e1, _⟩ := t
      exact h.map (fun _ e => by rw [z.2 P' q]; exact e) fun c q e => by rw [z.2 c (ne_of e e1 codeO_tbl)]; exact e
  ex := fun a h => by
    by_cases q : a = P
    · subst q; obtain ⟨ps, e, _⟩ := z.1; rw [e]; simp
    · rw [z.2 a q]; exact h
  uu := fun _ h => .inl h
  an := fun _ _ h => .inl h
  tp := fun a xs e => by
    by_cases q : a = P
    · subst q; obtain ⟨ps, e2, _⟩ := z.1; rw [e2] at e; cases e
    · rw [z.2 a q] at e; exact .inr e
theorem r_tab {st : S} {Hs : Hp} {U : US} {σ : L2.St} {H1 H2 : Hp} {P : Addr} (r : md.R st Hs U σ H1) (t : TabG H1 P) (z : Tabbed P H1 H2) : md.R st Hs U σ H2 := by
  have sp := stp_tab (Hs := Hs) (U := U) t z
  refine md.move r (Same.refl _) (sb_tab (md.sub r) t z) (fun a u => ⟨(md.own r u).1, fun x e => ?_⟩) sp.tb
  obtain ⟨_, w, e2, n, _⟩ := md.own r u
  rw [e2] at e; cases e
  obtain ⟨ps, e1, _⟩ := t
  rw [z.2 a (fun q => by subst q; rw [e1] at e2; cases e2; exact n)]
  exact e2
theorem tAny_ok {T : List Addr} {P : Addr} {stop : Bool} {mi : M S (List PV)} {mt : M S Bool} {me : M S PV} {tg : Tg} {own : List Nat} (hT : HasT md T) (hP : P ∈ T)
    (σ : L2.St) (H : Hp) (Q : VK) (h : tG md (mAny stop o own tg mi mt me) σ H Q) : tAny P stop (tI md mi) (tT md tg) (tGT md mt) (tG md me) own σ H Q := by
  obtain ⟨Hs, U, st, pv, st', hR, hm, k⟩ := h
  unfold mAny at hm
  split at hm
  · cases hm
  · rename_i l0 st1 e1
    split at hm
    · rename_i hc
      obtain ⟨hw, hin⟩ := hc
      split at hm
      · cases hm
      · rename_i b stb e2
        cases hm
        refine ⟨Hs, U, st, l0, st1, hR, e1, fun J Hs1 U1 H1 r1 s1 wk => ?_⟩
        have tP := hT r1 P hP
        refine ⟨tP, fun H2 hz => ?_⟩
        have r2 := r_tab r1 tP hz
        have s2 := s1.trans (stp_tab (Hs := Hs1) (U := U1) tP hz)
        have r0 := md.clr_ok r2 hw
        refine ⟨fun i m H3 => ∃ Hs3 U3 stt, i ≤ l0.length ∧ m = l0.length - i ∧ md.R stt Hs3 U3 (wipe σ own) H3 ∧ Stp Hs1 U1 H2 Hs3 U3 H3 ∧ anyLoop o own tg mt me stop (l0.drop i) stt = some (b, stb), l0.length, ⟨Hs1, U1, _, Nat.zero_le _, rfl, r0, .refl _ _ _, by simpa using e2⟩, fun i m H3 hW => ?_⟩
        obtain ⟨Hs3, U3, stt, hi', rfl, r3, s3, hlp⟩ := hW
        have sb3 := md.sub r3
        have fin : ∀ {Hs' : Hp} {U' : US} {H' : Hp} {v : Bool}, md.R stb Hs' U' (wipe σ own) H' → Stp Hs1 U1 H2 Hs' U' H' → v = b → Q (.bl v) H' := fun {Hs' U' H' v} r s e => by
          subst e
          exact k _ Hs' U' H' (md.leave_ok (own := own) r2 r s.hs hw) (s2.trans s) (by simp only [Rep])
        by_cases hlt : i < l0.length
        · refine .inr ⟨wk.go Hs3 i H3 s3.hs sb3 hlt, fun H4 => ∃ Hs4 U4 stt, md.R stt Hs4 U4 (wipe σ own) H4 ∧ Stp Hs1 U1 H2 Hs4 U4 H4 ∧ anyLoop o own tg mt me stop (l0.drop (i + 1)) stt = some (b, stb), fun H4 ⟨Hs4, U4, st4, a1, a2, a3⟩ => ⟨l0.length - (i + 1), by omega, Hs4, U4, st4, by omega, rfl, a1, a2, a3⟩, fun x H4 hy => ?_⟩
          rw [List.drop_eq_getElem_cons hlt] at hlp
          unfold anyLoop at hlp
          obtain ⟨Hs4, ps, px⟩ := wk.yld Hs3 i H3 x H4 l0[i] s3.hs sb3 (List.getElem?_eq_getElem hlt) hy
          have r4 := md.grow r3 ps
          have s4 := s3.trans (ps.st.lift U3)
          split at hlp
          · cases hlp
          · rename_i stA eA
            refine ⟨Hs4, U3, stt, l0[i], stA, r4, px, eA, fun σ' hσ r5 => ?_⟩
            have hown : TgIn tg own := by
              clear eA hσ hlp e2
              unfold tgIn at hin
              unfold TgIn
              cases tg with
              | nm j => simpa using hin
              | tp is => simpa using hin
            obtain ⟨hw1, hw2⟩ := hσ own hown
            rw [wipe_wipe] at hw1
            refine ⟨by rw [hw1], ?_⟩
            split at hlp
            · cases hlp
            · rename_i stB eB
              refine ⟨Hs4, U3, stA, true, stB, r5, eB, fun Hs5 U5 H5 r6 s5 => ?_⟩
              refine iteT ?_
              split at hlp
              · rename_i c stC eC
                refine ⟨Hs5, U5, stB, .bool c, stC, r6, eC, fun y Hs6 U6 H6 r7 s6 p6 => ?_⟩
                have sA := s4.trans (s5.trans s6)
                have r8 := md.clr_ok r7 hw
                rw [hw1] at r8
                refine ⟨c, rep_bool p6, fun hcs => ?_, fun hcs => ?_⟩
                · rw [if_pos hcs] at hlp
                  cases hlp
                  exact fin r8 sA rfl
                · rw [if_neg hcs] at hlp
                  exact ⟨Hs6, U6, _, r8, sA, hlp⟩
              · cases hlp
            · rename_i stB eB
              refine ⟨Hs4, U3, stA, false, stB, r5, eB, fun Hs5 U5 H5 r6 s5 => ?_⟩
              refine iteF ?_
              have r7 := md.clr_ok r6 hw
              rw [hw1] at r7
              exact ⟨Hs5, U5, _, r7, s4.trans s5, hlp⟩
        · have e : i = l0.length := by omega
          subst e
          rw [List.drop_length] at hlp
          cases hlp
          exact .inl ⟨wk.stop Hs3 H3 s3.hs sb3, fin r3 s3 rfl⟩
    · cases hm
end
end L5

set_option Elab.async false
set_option linter.all false
set_option maxRecDepth 100000
set_option maxHeartbeats 2000000
namespace L5
open PySem PySem.Spec
open PyProof.Rows hiding St
open L2 L3
open GxR (TabB inv_tab)
section
variable {X : Cx} {S : Type} {o : Ops S} {md : Md X.K o}
theorem g_allG {T : List Addr} {c P : Addr} {elt tg iter : Expr} {ifs : List Expr} {scope : Scope} {own : List (Str × Nat)} {p pos gpos : Pos} {k : Nat} {mi : M S (List PV)} {mt : M S Bool} {me : M S PV} {tt : Tg}
    (hT : HasT md T) (hP : P ∈ T) (hc : X.calm = true) (hN : X.N.Nodup) (hr : Room (k + 1) X.A) (hg : Gl X "all") (hm : X.mg "all" = none) (TB : TabB X.base X.mg c P) (hcode : X.env.code = .ref c)
    (hi : PI X tg iter (tI md mi)) (ok : BlkOk X.N X.env.scope scope own) (hcell : (scope.names.all fun y => y.2 != .cell) = true) (h0 : scope.names.lookup (".0" : Str) = some NameKind.local) (hco : scope.isCoroutine = false)
    (hgt : ∀ (A : Around) (s : Shared) (H : Hp) (C : Addr) (code : Value) (fp : List Addr), Room k A → PG (gcx X A s H scope (genv X scope C code) fp) tg (tT md tt))
    (htt : ∀ (A : Around) (s : Shared) (H : Hp) (C : Addr) (code : Value) (fp : List Addr), Room k A → PTs (gcx X A s H scope (genv X scope C code) fp) ifs (tGT md mt))
    (hte : ∀ (A : Around) (s : Shared) (H : Hp) (C : Addr) (code : Value) (fp : List Addr), Room k A → PE (gcx X A s H scope (genv X scope C code) fp) elt (tG md me))
    (hs : ∀ v, genFold iter X.env v = pure v := by intro _; rfl)
    (he : starEach [.GeneratorExp elt [⟨tg, iter, ifs, 0⟩] scope gpos] X.env = (false, eval (.GeneratorExp elt [⟨tg, iter, ifs, 0⟩] scope gpos) X.env) :: starEach [] X.env := by rfl) (hlam : lamP gpos = false := by rfl) :
    PE X (.Call (.Name "all" p) [.GeneratorExp elt [⟨tg, iter, ifs, 0⟩] scope gpos] [] pos) (tG md (mAny false o (own.map (·.2)) tt mi mt me)) :=
  peImp (pe_allG hc hN hr hg hm TB hcode hi ok (fun y hy => by
    have := List.all_eq_true.mp hcell y hy
    intro z
    rw [z] at this
    cases this) h0 hco hgt htt hte hs he hlam) (tAny_ok hT hP)
theorem g_anyG {T : List Addr} {c P : Addr} {elt tg iter : Expr} {ifs : List Expr} {scope : Scope} {own : List (Str × Nat)} {p pos gpos : Pos} {k : Nat} {mi : M S (List PV)} {mt : M S Bool} {me : M S PV} {tt : Tg}
    (hT : HasT md T) (hP : P ∈ T) (hc : X.calm = true) (hN : X.N.Nodup) (hr : Room (k + 1) X.A) (hg : Gl X "any") (hm : X.mg "any" = none) (TB : TabB X.base X.mg c P) (hcode : X.env.code = .ref c)
    (hi : PI X tg iter (tI md mi)) (ok : BlkOk X.N X.env.scope scope own) (hcell : (scope.names.all fun y => y.2 != .cell) = true) (h0 : scope.names.lookup (".0" : Str) = some NameKind.local) (hco : scope.isCoroutine = false)
    (hgt : ∀ (A : Around) (s : Shared) (H : Hp) (C : Addr) (code : Value) (fp : List Addr), Room k A → PG (gcx X A s H scope (genv X scope C code) fp) tg (tT md tt))
    (htt : ∀ (A : Around) (s : Shared) (H : Hp) (C : Addr) (code : Value) (fp : List Addr), Room k A → PTs (gcx X A s H scope (genv X scope C code) fp) ifs (tGT md mt))
    (hte : ∀ (A : Around) (s : Shared) (H : Hp) (C : Addr) (code : Value) (fp : List Addr), Room k A → PE (gcx X A s H scope (genv X scope C code) fp) elt (tG md me))
    (hs : ∀ v, genFold iter X.env v = pure v := by intro _; rfl)
    (he : starEach [.GeneratorExp elt [⟨tg, iter, ifs, 0⟩] scope gpos] X.env = (false, eval (.GeneratorExp elt [⟨tg, iter, ifs, 0⟩] scope gpos) X.env) :: starEach [] X.env := by rfl) (hlam : lamP gpos = false := by rfl) :
    PE X (.Call (.Name "any" p) [.GeneratorExp elt [⟨tg, iter, ifs, 0⟩] scope gpos] [] pos) (tG md (mAny true o (own.map (·.2)) tt mi mt me)) :=
  peImp (pe_anyG hc hN hr hg hm TB hcode hi ok (fun y hy => by
    have := List.all_eq_true.mp hcell y hy
    intro z
    rw [z] at this
    cases this) h0 hco hgt htt hte hs he hlam) (tAny_ok hT hP)
end
/-! ### the end, with the tables of all defs -/
def tabOf (K : PySem.W.Frag) (c : Addr) : Addr := match K.lookup c with
  | some ⟨_, _, .fields vs, _⟩ => (match vs.getD 11 .none with
    | .ref P => P
    | _ => 0)
  | _ => 0
theorem own_empty {K : PySem.W.Frag} {fa c P : Addr} {h : Heap} {o : Obj} {fd : FuncData} (own : LamX.OwnTab K fa h) (lk : K.lookup fa = some o) (hd : o.data = .func fd) (hc : fd.code = .ref c) (hh : PySem.W.codeHdIn K c P = true) : h.get? P = some { cls := .none, data := .fields #[] } := by
  unfold PySem.W.codeHdIn at hh
  split at hh
  · rename_i d vs sl hk
    simp only [Bool.and_eq_true] at hh
    obtain ⟨⟨⟨⟨⟨e1, _⟩, _⟩, _⟩, _⟩, _⟩ := hh
    split at e1
    · rename_i P' hv
      have : P' = P := by simpa using e1
      subst this
      exact own c P' o fd _ _ vs _ lk hd hc hk hv
    · cases e1
  · cases hh
theorem walk_all {l : PySem.W.OpenLaw} {n k : Nat} {q : Program} {loose : List Str} {XP : (Str → Option Value) → Heap → Prop} {YP : World → Heap → Prop} {d : DefRec} {K : Params → PySem.W.Frag} {CX : World → CXT} {x : Str}
    (hn : l.most = some n) (hn2 : n ≤ sizeLine) (hdf : d.params.defaults = []) (hr : Room k callerA) (hY : ∀ (w : World) (h : Heap), YP w h → (K w.params).In h)
    (F : ∀ (w : World) (mg : Str → Option Value) (fa : Addr) (h : Heap), (K w.params).In h → h.Ns mainGlobals mg → mg d.name = some (.ref fa) → (∀ (y : Str) (fb : Addr), ((recsOf q).any fun e => e.name == y) = true → mg y = some (.ref fb) → LamX.OwnTab (K w.params) fb h) → LamX.LawAtS l w (K w.params) (CX w) k n x mg fa h)
    (hCX : ∀ (w : World) (H : Hp) (s : Shared) (e : Value) (s' : Shared), CX w [] H s (fun _ _ _ => False) e s' → False) :
    PySem.W.WalkO q loose XP YP l.row.toRowW d [] (fun f vs => PySem.call f vs) := by
  refine Att.attach_callB hn hdf fun w s₀ s₁ mg mb fa o pm cd doc a vs ns G Y ho hd hcd hmg hobj hints hlen hbits hg => ?_
  have KX := hY w _ Y
  have own : ∀ (y : Str) (fb : Addr), ((recsOf q).any fun e => e.name == y) = true → mg y = some (.ref fb) → LamX.OwnTab (K w.params) fb s₁.heap := fun y fb hrec hmy c P o1 fd1 e dd vs1 sl k1 k2 k3 k4 k5 => by
    obtain ⟨dL, hm, hn1⟩ := List.any_eq_true.mp hrec
    have hn2 : dL.name = y := beq_iff_eq.mp hn1
    obtain ⟨a', o', fd', c', P', h1, h2, h3, h4, h5, h6⟩ := G.T.tab dL hm
    rw [hn2, hmy] at h1
    cases h1
    have g1 := KX _ _ k1
    rw [g1] at h2
    cases h2
    rw [k2] at h3
    cases h3
    rw [k3] at h4
    cases h4
    obtain ⟨⟨oc, vc, e1, _, e3, e4⟩, hP⟩ := h6
    have g2 := KX _ _ k4
    rw [g2] at e1
    cases e1
    cases e3
    rw [k5] at e4
    cases e4
    exact hP
  obtain ⟨fd, cs, sp, hT, nT, C, hb, hsp, hF⟩ := F w mg fa _ KX G.T.g hmg own
  exact LamX.law_callTs KX G.T.g G.T.b G.T.builtins G.T.nolimit hg hT nT C G.T.bmain hobj hints (Nat.le_trans hlen hn2) hr hF hb (fun H hH hS => hsp H a ns hlen hbits hH hS) fun H e s' => hCX w H s₁ e s'
/-- the law's promise with tables -/
theorem law_at {l : PySem.W.OpenLaw} {w : World} {K : PySem.W.Frag} {k n : Nat} {mg : Str → Option Value} {fa : Addr} {h : Heap} {fd : FuncData} (cs : List (Addr × Addr)) (hn : n ≤ 63) (X : K.In h)
    (hT : ∀ p ∈ cs, h.get? p.2 = some { cls := .none, data := .fields #[] }) (nT : ∀ p ∈ cs, K.lookup p.2 = none) (hC : ∀ p ∈ cs, PySem.W.codeHdIn K p.1 p.2 = true) (hb : ∀ (s : Shared) (v : Value), BindsTo s fd ⟨[v], []⟩ [("script", v)])
    (hF : ∀ base : Heap, K.In base → base.Ns mainGlobals mg → (∀ p ∈ cs, TabB base mg p.1 p.2) → FnOk l.prog w K mg base CX0 k fa fd ["script"] (spLaw K (cs.map (·.2)))) : LamX.LawAtS l w K CX0 k n "script" mg fa h := by
  refine ⟨fd, cs, spLaw K (cs.map (·.2)), hT, nT, fun p hp => PySem.W.codeHd_of_K X (hC p hp), hb, fun H a ns hl _ hH hS => ⟨a, ns, rfl, hS, Nat.le_trans hl hn, fun P hP => ?_, fun H' => rfl⟩, fun base k1 k2 k3 => hF base k1 k2 fun p hp => let t := k3 p hp; ⟨t.code, t.bm, t.gP⟩⟩
  obtain ⟨p, hp, rfl⟩ := List.mem_map.mp hP
  exact ⟨#[], hH p hp, trivial, fun _ _ _ z => by cases z⟩
end L5

set_option Elab.async false
set_option linter.all false
set_option maxRecDepth 100000
set_option maxHeartbeats 2000000
namespace L6
open PySem PySem.Spec
open PyProof.Rows hiding St
open L2 L3 PySem.W
/-! max, min of one list or tuple of whole numbers -/
def rMaxT (K : Fg) : List V → Hp → VK → Prop := fun vs H Q => ∃ (a : Addr) (n : Int) (ns : List Int), vs = [V.ref a] ∧ SqT K H a ((n :: ns).map V.int) ∧ Q (.int (ns.foldl max n)) H
def rMinT (K : Fg) : List V → Hp → VK → Prop := fun vs H Q => ∃ (a : Addr) (n : Int) (ns : List Int), vs = [V.ref a] ∧ SqT K H a ((n :: ns).map V.int) ∧ Q (.int (ns.foldl min n)) H
def rMaxLs (K : Fg) : List V → Hp → VK → Prop := fun vs H Q => ∃ (a : Addr) (n : Int) (ns : List Int), vs = [V.ref a] ∧ SqL K H a ((n :: ns).map V.int) ∧ Q (.int (ns.foldl max n)) H
def rMinLs (K : Fg) : List V → Hp → VK → Prop := fun vs H Q => ∃ (a : Addr) (n : Int) (ns : List Int), vs = [V.ref a] ∧ SqL K H a ((n :: ns).map V.int) ∧ Q (.int (ns.foldl min n)) H
theorem depth_ints : ∀ ns : List Int, PyData.depthAll (ns.map PyData.int) = 0
  | [] => rfl
  | n :: ns => by simp [PyData.depthAll, PyData.depth, depth_ints ns]
theorem alike_ints (ns : List Int) : AlikeAll (ns.map PyData.int) := by
  refine ⟨fun x hx y hy => ?_, fun x hx => ?_⟩
  · simp only [List.mem_map] at hx hy
    obtain ⟨i, _, rfl⟩ := hx
    obtain ⟨j, _, rfl⟩ := hy
    rfl
  · simp only [List.mem_map] at hx
    obtain ⟨i, _, rfl⟩ := hx
    intro z; cases z
section
variable {X : Cx}
theorem cr_maxT (hc : X.calm = true) (hu : X.A.units + 64 < cLine) : CallR X (.builtin "max") (rMaxT X.K) := by
  intro pins s σ H vs us Q I r h
  obtain ⟨a, n, ns, rfl, hs, q⟩ := h
  obtain ⟨its, rv, hl, _⟩ := I.tuple hs
  rw [Vals.ref1 r]
  refine max_tuple_data (I.ok.hd hc) hl (by simpa using rv.ints.reads s.heap) (alike_ints (n :: ns)) ?_ fun i v h' tk bs hv hr hk => ?_
  · have := depth_ints (n :: ns)
    simp only [List.map_cons] at this
    rw [this]
    omega
  · rw [maxD_ints] at hr
    cases hr
    exact ⟨.int _, H, I.kept hk, ⟨_, rfl⟩, q⟩
theorem cr_maxLs (hc : X.calm = true) (hu : X.A.units + 64 < cLine) : CallR X (.builtin "max") (rMaxLs X.K) := by
  intro pins s σ H vs us Q I r h
  obtain ⟨a, n, ns, rfl, hs, q⟩ := h
  obtain ⟨its, rv, hl, _⟩ := I.list hs
  rw [Vals.ref1 r]
  refine max_list_data (I.ok.hd hc) hl.isList (by simpa using rv.ints.reads s.heap) (alike_ints (n :: ns)) ?_ fun i v h' tk bs hv hr hk => ?_
  · have := depth_ints (n :: ns)
    simp only [List.map_cons] at this
    rw [this]
    omega
  · rw [maxD_ints] at hr
    cases hr
    exact ⟨.int _, H, I.kept hk, ⟨_, rfl⟩, q⟩
theorem cr_minT (hc : X.calm = true) (hu : X.A.units + 64 < cLine) : CallR X (.builtin "min") (rMinT X.K) := by
  intro pins s σ H vs us Q I r h
  obtain ⟨a, n, ns, rfl, hs, q⟩ := h
  obtain ⟨its, rv, hl, _⟩ := I.tuple hs
  rw [Vals.ref1 r]
  refine min_tuple_data (I.ok.hd hc) hl (by simpa using rv.ints.reads s.heap) (alike_ints (n :: ns)) ?_ fun i v h' tk bs hv hr hk => ?_
  · have := depth_ints (n :: ns)
    simp only [List.map_cons] at this
    rw [this]
    omega
  · rw [minD_ints] at hr
    cases hr
    exact ⟨.int _, H, I.kept hk, ⟨_, rfl⟩, q⟩
theorem cr_minLs (hc : X.calm = true) (hu : X.A.units + 64 < cLine) : CallR X (.builtin "min") (rMinLs X.K) := by
  intro pins s σ H vs us Q I r h
  obtain ⟨a, n, ns, rfl, hs, q⟩ := h
  obtain ⟨its, rv, hl, _⟩ := I.list hs
  rw [Vals.ref1 r]
  refine min_list_data (I.ok.hd hc) hl.isList (by simpa using rv.ints.reads s.heap) (alike_ints (n :: ns)) ?_ fun i v h' tk bs hv hr hk => ?_
  · have := depth_ints (n :: ns)
    simp only [List.map_cons] at this
    rw [this]
    omega
  · rw [minD_ints] at hr
    cases hr
    exact ⟨.int _, H, I.kept hk, ⟨_, rfl⟩, q⟩
end
def foldI (f : Int → Int → Int) : List PV → Option PV
  | [.list l] => match intsP l with
    | some (n :: ns) => some (.int (ns.foldl f n))
    | _ => none
  | [.tuple l] => match intsP l with
    | some (n :: ns) => some (.int (ns.foldl f n))
    | _ => none
  | _ => none
def fMax1 : List PV → Option PV := foldI max
def fMin1 : List PV → Option PV := foldI min
theorem ad_max1 {K : Fg} : ClA K (fun xs H Q => rMaxLs K xs H Q ∨ rMaxT K xs H Q) fMax1 := by
  intro Hs H l z vs Q e r sb k
  unfold fMax1 foldI at e
  split at e
  · split at e
    · rename_i l n ns e2
      cases e
      obtain ⟨v, rfl, h⟩ := reps1 r
      obtain ⟨a, xs, rfl, s, q⟩ := rep_lst h
      have := ints_rep q e2
      subst this
      exact .inl ⟨a, n, ns, rfl, .inl (sb_rd sb s), k _ Hs H (.refl sb) mk_int⟩
    · cases e
  · split at e
    · rename_i l n ns e2
      cases e
      obtain ⟨v, rfl, h⟩ := reps1 r
      obtain ⟨a, xs, rfl, s, q⟩ := rep_tup h
      have := ints_rep q e2
      subst this
      exact .inr ⟨a, n, ns, rfl, sqT_mono sb.same s, k _ Hs H (.refl sb) mk_int⟩
    · cases e
  · cases e
theorem cr_max1 {X : Cx} (hu : X.A.units + 64 < cLine) (hc : X.calm = true) : CallR X (.builtin "max") (fun xs H Q => rMaxLs X.K xs H Q ∨ rMaxT X.K xs H Q) := (cr_maxLs hc hu).or (cr_maxT hc hu)
theorem ad_min1 {K : Fg} : ClA K (fun xs H Q => rMinLs K xs H Q ∨ rMinT K xs H Q) fMin1 := by
  intro Hs H l z vs Q e r sb k
  unfold fMin1 foldI at e
  split at e
  · split at e
    · rename_i l n ns e2
      cases e
      obtain ⟨v, rfl, h⟩ := reps1 r
      obtain ⟨a, xs, rfl, s, q⟩ := rep_lst h
      have := ints_rep q e2
      subst this
      exact .inl ⟨a, n, ns, rfl, .inl (sb_rd sb s), k _ Hs H (.refl sb) mk_int⟩
    · cases e
  · split at e
    · rename_i l n ns e2
      cases e
      obtain ⟨v, rfl, h⟩ := reps1 r
      obtain ⟨a, xs, rfl, s, q⟩ := rep_tup h
      have := ints_rep q e2
      subst this
      exact .inr ⟨a, n, ns, rfl, sqT_mono sb.same s, k _ Hs H (.refl sb) mk_int⟩
    · cases e
  · cases e
theorem cr_min1 {X : Cx} (hu : X.A.units + 64 < cLine) (hc : X.calm = true) : CallR X (.builtin "min") (fun xs H Q => rMinLs X.K xs H Q ∨ rMinT X.K xs H Q) := (cr_minLs hc hu).or (cr_minT hc hu)
end L6

set_option Elab.async false
set_option linter.all false
set_option maxRecDepth 100000
namespace L6
open PySem PySem.Spec
open PyProof.Rows hiding St
open L2 L3 L5
/-! working all and any out -/
section
variable {S : Type} {o : Ops S} {own : List Nat} {tg : Tg} {mi : M S (List PV)} {mt : M S Bool} {me : M S PV} {stop : Bool}
def anK (r : Option (Bool × S)) (s1 : S) (o : Ops S) (own : List Nat) : Option (PV × S) := match r with
  | none => none
  | some (b, stb) => some (.bool b, o.leave s1 stb own)
@[simp] theorem anK_some (b : Bool) (stb s1 : S) : anK (some (b, stb)) s1 o own = some (.bool b, o.leave s1 stb own) := rfl
def anL (r : Option (List PV × S)) (stop : Bool) (o : Ops S) (own : List Nat) (tg : Tg) (mt : M S Bool) (me : M S PV) : Option (PV × S) := match r with
  | none => none
  | some (l, s1) => if own.all o.wr = true ∧ tgIn tg own = true then anK (anyLoop o own tg mt me stop l (o.clr s1 own)) s1 o own else none
@[simp] theorem anL_some (l : List PV) (s1 : S) : anL (some (l, s1)) stop o own tg mt me = if own.all o.wr = true ∧ tgIn tg own = true then anK (anyLoop o own tg mt me stop l (o.clr s1 own)) s1 o own else none := rfl
@[simp] theorem ev_mAny (s : S) : mAny stop o own tg mi mt me s = anL (mi s) stop o own tg mt me := by
  unfold mAny anL anK
  cases h0 : mi s with
  | none => simp only
  | some r =>
    first
      | (simp only; done)
      | (simp only
         by_cases hc : own.all o.wr = true ∧ tgIn tg own = true
         · first
             | (rw [if_pos hc, if_pos hc]; done)
             | (rw [if_pos hc, if_pos hc]; cases anyLoop o own tg mt me stop r.1 (o.clr r.2 own) <;> rfl)
         · rw [if_neg hc, if_neg hc])
/-- without a test -/
theorem anyLoop_pure {s0 : S} (f : PV → Bool) : ∀ (l : List PV), (∀ p ∈ l, ∃ s1, setT o tg p s0 = some s1 ∧ mt s1 = some (true, s1) ∧ me s1 = some (.bool (f p), s1) ∧ o.clr s1 own = s0) →
    anyLoop o own tg mt me stop l s0 = some ((if stop = true then l.any f else l.all f), s0)
  | [], h => by cases stop <;> simp [anyLoop]
  | p :: l, h => by
    obtain ⟨s1, e1, e2, e3, e4⟩ := h p (by simp)
    have ih := anyLoop_pure f l fun q hq => h q (by simp [hq])
    unfold anyLoop
    simp only [e1, e2, e3, e4]
    by_cases hs : f p = stop
    · rw [if_pos hs]
      cases stop <;> simp [hs]
    · rw [if_neg hs, ih]
      cases stop <;> simp at hs <;> simp [hs]
end
end L6

set_option Elab.async false
set_option linter.all false
set_option maxRecDepth 100000
set_option maxHeartbeats 2000000
namespace L7
open PySem PySem.Spec
open PyProof.Rows hiding St
open L2 L3 L5 GenW
open GxR (TabB inv_tab)
/-! ### a tuple from a generator expression: the one who draws is list.extend.loop -/
def drwT (Y : Cx) (fp : List Addr) (a : Addr) (ob : Obj) (S : Addr) (ha : a ∉ fp) (hS : S ∉ fp) (haS : a ≠ S) (hA : Apart Y S) (hpn : Y.pn = []) (Q : List V → Hp → Prop) : Drw Y fp where
  pc := fun ys pl => ∃ (acc : Array Value) (c : Nat), Vals ys acc.toList ∧ pl = [(S, lstObj acc c), (a, ob)]
  con := fun ys _ _ Kn => ys.length < sizeLine ∧ Kn
  wk := fun _ v s s' => Slept S v s s'
  fin := fun ys H => Q ys H
  wake := fun {ys y v σ H s s' pl} hp hf I rv z => by
    obtain ⟨acc, c, r, rfl⟩ := hp
    have G : GI Y S [(a, ob)] ys σ H s := ⟨acc, c, r, I⟩
    obtain ⟨acc', c', r', I'⟩ := GI.woken (by rw [hpn]; intro p hp; cases hp) (fun p hp => by obtain rfl := List.mem_singleton.mp hp; exact haS) hA G rv z
    refine ⟨_, ⟨acc', c', r', rfl⟩, fun p hp => ?_, I', fun b hb o e => z.keep b o (fun q => hS (q ▸ hb)) e⟩
    rcases List.mem_cons.mp hp with rfl | hp
    · exact hS
    · obtain rfl := List.mem_singleton.mp hp
      exact ha
section
variable {P : Program} {w : World} {Y : Cx} {fp : List Addr} {a S : Addr} {g : Nat} {ob : Obj} {ha : a ∉ fp} {hSf : S ∉ fp} {haS : a ≠ S} {hA : Apart Y S} {hpn : Y.pn = []} {Q : List V → Hp → Prop} {R : Result → Shared → Prop} {A : Around} {res : Value}
theorem ext_loop (hP : Y.prog = P) (hw : Y.w = w) (hh : A.handled = none) (hd : A.depth < recursionLimit) (hob : ∀ h : Heap, h.get? a = some ob → h.IsGen a g)
    (hR : ∀ (ys : List V) (acc : Array Value) (c : Nat) (σ : L2.St) (H : Hp) (s' : Shared), Vals ys acc.toList → Inv Y [(S, lstObj acc c), (a, ob)] σ H s' → Q ys H → R (.ok (.ret res)) s') :
    ∀ (n : Nat) (s : Shared), s.heap.get? a = some ob → s.heap.NoLimit → AllBare s.gens →
      (∃ gs, s.gens[g]? = some gs ∧ gs.Goes (model P w) A.in1.in1 (drwT Y fp a ob S ha hSf haS hA hpn Q).endp (drwT Y fp a ob S ha hSf haS hA hpn Q).prot n (.send .none) (s.setGen g .running)) →
      codeAny (model P w) A (.builtin "list.extend.loop" ⟨[.ref S, .ref a, res], []⟩) R s := by
  intro n
  induction n with
  | zero =>
    intro s hs hl hb ⟨gs, hgs, hgo⟩
    have hgl : g < s.gens.size := (Array.getElem?_eq_some_iff.mp hgs).1
    refine codeAny_builtin F.entry_extend_loop ?_
    rw [Around.under_plainId F.plain_extend_loop _]
    show wpAny _ A.in1 (pyNext (.ref a) >>= _) _ _ s
    refine wpAny_bind (GenW.wpAny_gsz (n := g + 1) hgl (wpAny_pyNext_genexpQ (A := A.in1) (P := fun n s₀ s₁ => ∃ ys σ H pl, (drwT Y fp a ob S ha hSf haS hA hpn Q).pc ys pl ∧ (∀ p ∈ pl, p.1 ∉ fp) ∧ Inv Y pl σ H s₁ ∧ (drwT Y fp a ob S ha hSf haS hA hpn Q).fin ys H) hh hl hd (hob _ hs) hgs hgo (fun v s₁ gs' hbare hv => ?_) (fun s₁ hp h' hk => ?_)))
    · intro hsz
      obtain ⟨ys, y, σ, H, pl, Kn, ⟨acc, c, r, rfl⟩, hpl, I, rv, ⟨hlen, kn⟩, hk⟩ := hv
      have hS1 : s₁.heap.get? S = some (lstObj acc c) := (I.pin (S, lstObj acc c) (List.mem_append_right _ List.mem_cons_self)).1
      exact False.elim (hk _ (Slept.push hS1 I.bare) kn)
    · intro hsz
      obtain ⟨ys, σ, H, pl, ⟨acc, c, r, rfl⟩, hpl, I, q⟩ := hp
      exact wpAny_pure (hR ys acc c σ H _ r (inv_keep I rfl (L2.allBare_setGen I.bare rfl) hk) q)
  | succ n ih =>
    intro s hs hl hb ⟨gs, hgs, hgo⟩
    have hgl : g < s.gens.size := (Array.getElem?_eq_some_iff.mp hgs).1
    refine codeAny_builtin F.entry_extend_loop ?_
    rw [Around.under_plainId F.plain_extend_loop _]
    show wpAny _ A.in1 (pyNext (.ref a) >>= _) _ _ s
    refine wpAny_bind (GenW.wpAny_gsz (n := g + 1) hgl (wpAny_pyNext_genexpQ (A := A.in1) (P := fun n s₀ s₁ => ∃ ys σ H pl, (drwT Y fp a ob S ha hSf haS hA hpn Q).pc ys pl ∧ (∀ p ∈ pl, p.1 ∉ fp) ∧ Inv Y pl σ H s₁ ∧ (drwT Y fp a ob S ha hSf haS hA hpn Q).fin ys H) hh hl hd (hob _ hs) hgs hgo (fun v s₁ gs' hbare hv => ?_) (fun s₁ hp h' hk => ?_)))
    · intro hsz
      obtain ⟨ys, y, σ, H, pl, Kn, ⟨acc, c, r, rfl⟩, hpl, I, rv, ⟨hlen, kn⟩, hk⟩ := hv
      have hS1 : s₁.heap.get? S = some (lstObj acc c) := (I.pin (S, lstObj acc c) (List.mem_append_right _ List.mem_cons_self)).1
      have ha1 : s₁.heap.get? a = some ob := (I.pin (a, ob) (List.mem_append_right _ (List.mem_cons_of_mem _ List.mem_cons_self))).1
      have hsz1 : g < s₁.gens.size := by
        have := hsz
        rw [GenW.setGen_size] at this
        omega
      have hl2 : acc.size < sizeLine := by
        have e1 : ys.length = acc.toList.length := r.length
        have e2 : acc.toList.length = acc.size := Array.length_toList
        rw [← e2, ← e1]
        exact hlen
      show wpAny _ A.in1 (updateSeq S (·.push v) >>= _) _ _ _
      refine wpAny_bind ?_
      refine wpAny_updateSeq hS1 rfl (wpAny_pure ⟨plainId_quiet F.plain_extend_loop _, ?_⟩) (Nat.le_of_lt hl2) (by show (acc.push v).size ≤ sizeLine + 1; rw [Array.size_push]; omega)
      have keep3 : ∀ b o, b ≠ S → s₁.heap.get? b = some o → (s₁.heap.update S (Obj.mapSeq (·.push v))).get? b = some o := fun b o hbS e => (Heap.get?_update_other _ _ (Ne.symm hbS)).trans e
      have SL := Slept.push hS1 (L2.allBare_setGen (s := s₁.setGen g gs') (g := g) (x := .running) (L2.allBare_setGen I.bare hbare) rfl) (v := v)
      obtain ⟨pl', hpc', hpl', I', _⟩ := (drwT Y fp a ob S ha hSf haS hA hpn Q).wake (ys := ys) ⟨acc, c, r, rfl⟩ hpl I rv SL
      refine ih { s₁.setGen g gs' with heap := s₁.heap.update S (Obj.mapSeq (·.push v)) } ?_ ?_ ?_ ⟨gs', L2.setGen_at hsz1, ?_⟩
      · exact keep3 a ob haS ha1
      · exact I'.nolimit
      · exact L2.allBare_setGen I.bare hbare
      · exact hk _ SL kn
    · intro hsz
      obtain ⟨ys, σ, H, pl, ⟨acc, c, r, rfl⟩, hpl, I, q⟩ := hp
      exact wpAny_pure (hR ys acc c σ H _ r (inv_keep I rfl (L2.allBare_setGen I.bare rfl) hk) q)
end
/-! ### collect, tuple(g) -/
section
variable {P : Program} {w : World} {A : Around} {E : Value → Shared → Prop} {s : Shared} {a : Addr} {g : Nat} {Good : Array Value → Shared → Prop}
theorem collect_gen {Q : List Value → Shared → Prop} (hg : s.heap.IsGen a g)
    (loop : ∀ (h' : Heap) (c : Nat) (R : Result → Shared → Prop), (∀ b o, s.heap.get? b = some o → h'.get? b = some o) → h'.get? s.heap.objs.size = some (lstObj #[] c) →
      (∀ s' acc c', s'.heap.get? s.heap.objs.size = some (lstObj acc c') → Good acc s' → R (.ok (.ret (.ref s.heap.objs.size))) s') →
      codeAny (model P w) A (.builtin "list.extend.loop" ⟨[.ref s.heap.objs.size, .ref a, .ref s.heap.objs.size], []⟩) R { s with heap := h' })
    (hQ : ∀ s' acc, Good acc s' → Q acc.toList s') : wpAny (model P w) A (collect (.ref a)) Q E s := by
  have hSa : s.heap.objs.size ≠ a := by
    obtain ⟨o, nm, qn, ho, _⟩ := hg
    exact Nat.ne_of_gt (Heap.lt_size ho)
  unfold collect
  refine wpAny_bind (wpAny_runValue (codeAny_builtin F.entry_proto_collect ?_))
  rw [Around.under_plainId F.plain_proto_collect _]
  show wpAny _ A.in1 (newList [] >>= fun l => again (.builtin "list.__iadd__" ⟨[l, .ref a], []⟩)) _ _ s
  refine wpAny_bind (wpAny_newObj_type ?_)
  refine wpAny_pure ⟨plainId_quiet F.plain_list_iadd _, codeAny_builtin F.entry_list_iadd ?_⟩
  rw [Around.under_plainId F.plain_list_iadd _]
  show wpAny _ A.in1 (Builtin.List.listExtendWith (.ref s.heap.objs.size) (.ref a) (.ref s.heap.objs.size)) _ _ _
  have hS : (s.heap.push { cls := .type "list", data := .seq ([] : List Value).toArray }).get? s.heap.objs.size = some (lstObj #[] 0) := Heap.get?_push_size _ rfl
  unfold Builtin.List.listExtendWith
  have up : ∀ (h : Heap) (f : Obj → Obj), (∀ b o, s.heap.get? b = some o → h.get? b = some o) → ∀ b o, s.heap.get? b = some o → (h.update s.heap.objs.size f).get? b = some o := fun h f q b o e =>
    (Heap.get?_update_other _ _ (Ne.symm (Nat.ne_of_lt (Heap.lt_size e)))).trans (q b o e)
  have k1 : ∀ b o, s.heap.get? b = some o → (s.heap.push { cls := .type "list", data := .seq ([] : List Value).toArray }).get? b = some o := fun b o e => Heap.get?_push_of_some _ e
  have gty : ∀ {h : Heap}, (∀ b o, s.heap.get? b = some o → h.get? b = some o) → h.IsGen a g := fun {h} q => hg.keeps q
  refine wpAny_bind (wpAny_typeOf (Heap.IsGen.typeIs (s := { s with heap := _ }) (gty k1)) ?_)
  have h1 : Builtin.List.listSameRef (.ref s.heap.objs.size) (.ref a) = false := by simp [Builtin.List.listSameRef, hSa]
  have h2 : (Value.type "generator" == Value.type "list") = false := by decide
  have h3 : (Value.type "generator" == Value.type "tuple") = false := by decide
  simp only [h1, h2, h3, Bool.or_false, Bool.false_eq_true, if_false]
  refine wpAny_bind (wpAny_pyIter_gen (s := { s with heap := _ }) (gty k1) ?_)
  refine wpAny_bind (wpAny_holding ?_)
  unfold Builtin.List.listLengthHint
  refine wpAny_bind (wpAny_specialOf (Heap.IsGen.typeIs (s := { s with heap := _ }) (gty k1)) F.gen_no_len ?_)
  show wpAny _ A.in1 (specialOf (Value.ref a) (Str.ofString "__length_hint__") >>= _) _ _ _
  refine wpAny_bind (wpAny_specialOf (Heap.IsGen.typeIs (s := { s with heap := _ }) (gty k1)) F.gen_no_hint ?_)
  refine wpAny_pure ?_
  show wpAny _ A.in1 (rule "list.extend.makes-room" >>= fun _ => Builtin.List.listTouch (.ref s.heap.objs.size) >>= fun _ =>
    again (.builtin "list.extend.loop" ⟨[.ref s.heap.objs.size, .ref a, .ref s.heap.objs.size], []⟩)) _ _ _
  refine wpAny_bind (wpAny_rule ?_)
  refine wpAny_bind ?_
  show wpAny _ A.in1 (updateSeq s.heap.objs.size (·.push .none) >>= fun _ => updateSeq s.heap.objs.size (·.pop)) _ _ _
  refine wpAny_bind (wpAny_updateSeq hS rfl ?_)
  have hS3 := Heap.get?_update_self (Obj.mapSeq (·.push Value.none)) hS rfl
  refine wpAny_updateSeq (hz := by seq_fits) hS3 rfl ?_
  have hS4 := Heap.get?_update_self (Obj.mapSeq (·.pop)) hS3 rfl
  have k4 := up _ (Obj.mapSeq (·.pop)) (up _ (Obj.mapSeq (·.push Value.none)) k1)
  refine wpAny_pure ⟨plainId_quiet F.plain_extend_loop _, ?_⟩
  refine loop _ _ _ k4 hS4 fun s' acc c' hS' good => ?_
  show wpAny _ A (load s.heap.objs.size >>= _) _ _ _
  exact wpAny_bind (wpAny_load hS' (wpAny_pure (hQ s' acc good)))
end
end L7

set_option Elab.async false
set_option linter.all false
set_option maxRecDepth 100000
set_option maxHeartbeats 2000000
namespace L7
open PySem PySem.Spec
open PyProof.Rows hiding St
open L2 L3 L5 GenW
open GxR (TabB inv_tab)
section
variable {P : Program} {w : World} {A : Around} {E : Value → Shared → Prop} {s : Shared} {a : Addr} {g : Nat} {Good : Array Value → Shared → Prop}
/-- the loop that fills the list S -/
def LoopG (P : Program) (w : World) (A : Around) (s : Shared) (a : Addr) (Good : Array Value → Shared → Prop) : Prop :=
  ∀ (h' : Heap) (c : Nat) (R : Result → Shared → Prop), (∀ b o, s.heap.get? b = some o → h'.get? b = some o) → h'.get? s.heap.objs.size = some (lstObj #[] c) →
      (∀ s' acc c', s'.heap.get? s.heap.objs.size = some (lstObj acc c') → Good acc s' → R (.ok (.ret (.ref s.heap.objs.size))) s') →
      codeAny (model P w) A (.builtin "list.extend.loop" ⟨[.ref s.heap.objs.size, .ref a, .ref s.heap.objs.size], []⟩) R { s with heap := h' }
theorem collect_genG {Q : List Value → Shared → Prop} (hg : s.heap.IsGen a g) (loop : LoopG P w A s a Good) (hQ : ∀ s' acc, Good acc s' → Q acc.toList s') : wpAny (model P w) A (collect (.ref a)) Q E s := collect_gen hg loop hQ
theorem code_tuple_new_gen {Q₁ : Value → Shared → Prop} (hg : s.heap.IsGen a g) (loop : LoopG P w A.in1 s a Good) (hsz : ∀ acc s', Good acc s' → acc.size ≤ sizeLine)
    (h : ∀ s' acc, Good acc s' → Q₁ (.ref s'.heap.objs.size) { s' with heap := s'.heap.push { cls := .type "tuple", data := .seq acc } }) :
    codeAny (model P w) A (.call (.builtin "tuple.__new__") ⟨[.type "tuple", .ref a], []⟩) (wants Q₁ E) s := by
  refine codeAny_of_tree ?_
  show wpAny _ A.in1 (do checkBuiltinCall "tuple.__new__" ⟨[.type "tuple", .ref a], []⟩; again (.builtin "tuple.__new__" ⟨[.type "tuple", .ref a], []⟩)) _ _ s
  refine wpAny_bind (wpAny_of_eq (F.newCall_tuple_1 _) (wpAny_pure ⟨plainId_quiet F.plain_tuple_new _, codeAny_builtin F.entry_tuple_new ?_⟩))
  rw [Around.under_plainId F.plain_tuple_new _]
  have hsub := sub_tuple_self
  have hinit := init_tuple_lookup
  have hmh := madeHere_tuple
  have hTI : s.TypeIs (.ref a) "generator" := Heap.IsGen.typeIs hg
  wp_walk using wpAny_typeOf hTI, collect_genG (A := A.in1) hg loop
  intro s' acc good
  show wpAny _ _ (Builtin.Tuple.tupleExact acc.toList.toArray >>= fun v => ret v) _ _ _
  unfold Builtin.Tuple.tupleExact
  have e : acc.toList.toArray = acc := by simp
  rw [e]
  refine wpAny_bind (wpAny_newObj_type ?_ (hsz acc s' good))
  exact wpAny_pure (h s' acc good)
theorem call_tuple_gen {Q : Value → Shared → Prop} (hg : s.heap.IsGen a g) (loop : LoopG P w A.in1.in1 s a Good) (hsz : ∀ acc s', Good acc s' → acc.size ≤ sizeLine)
    (hQ : ∀ s' acc, Good acc s' → Q (.ref s'.heap.objs.size) { s' with heap := s'.heap.push { cls := .type "tuple", data := .seq acc } }) :
    wpAny (model P w) A (call (.type "tuple") [.ref a]) Q E s := by
  refine callType_codes (Q₁ := fun obj s₁ => s₁.TypeIs obj "tuple" ∧ Q obj s₁) F.called_tuple (F.typeCall_tuple_1 _) F.entry_object_init
    (code_tuple_new_gen (A := A.in1) hg loop hsz fun s' acc good => ⟨⟨_, Heap.get?_push_size _ rfl, rfl⟩, hQ s' acc good⟩) fun obj s₁ h₁ => ?_
  exact ⟨h₁.1, F.args_object_init_2 obj _, object_init_meets F.called_tuple.init.lookup F.called_tuple.made (by decide) P w A.in1 _ s₁ ⟨h₁.1, rfl, h₁.2⟩⟩
end
section
variable {X : Cx} {pins : List (Addr × Obj)} {σ : L2.St} {H : Hp} {s : Shared}
/-- the generator's context, drawn at A0 -/
abbrev gYA (X : Cx) (A0 : Around) (s : Shared) (H : Hp) (scope : Scope) (code : Value) (fp : List Addr) : Cx := gcx X (A0.in1.in1.deeper (genv X scope s.heap.objs.size code)) s H scope (genv X scope s.heap.objs.size code) fp
theorem come_invA {A0 : Around} {P : Addr} {elt tg iter : Expr} {ifs : List Expr} {scope : Scope} {own : List (Str × Nat)} {gpos : Pos} {J : It} {H1 H2 : Hp} {it : Addr} {fp : List Addr} {tn : Nat → Heap → Prop} {code : Value} {a g : Nat} {ob : Obj} {s4 s5 : Shared}
    (hfr : A0.frames = some X.stack) (hd : A0.handled = none) (hN : X.N.Nodup) (ok : BlkOk X.N X.env.scope scope own) (hcell : ∀ y ∈ scope.names, y.2 ≠ .cell) (C : Come X pins σ P elt tg iter ifs scope gpos J H1 H2 it fp tn code a g ob s4 s5) :
    Inv (gYA X A0 s4 H2 scope code fp) [(a, ob)] (wipe σ (own.map (·.2))) H2 s5 := by
  have hns := C.ns
  have hkp := C.keep
  have hbr := C.bare
  have hos := C.os
  have hdr := C.drawn
  have e5 : s5 = { s4 with heap := s5.heap, gens := s5.gens, toks := s5.toks } := by
    obtain ⟨h', g', d', t', o'⟩ := s5
    have e1 : o' = s4.os := hos
    have e2 : d' = s4.drawn := hdr
    subst e1; subst e2
    rfl
  have I := gen_start (A := A0.in1.in1.deeper (genv X scope s4.heap.objs.size code)) (h' := s5.heap) (g' := s5.gens) (t' := s5.toks) (code := code) C.inv ok hcell hN C.fp (deeper_frames hfr) (fun _ => hd) hns hkp hbr
  rw [← e5] at I
  refine I.pins_of fun p hp => ?_
  obtain rfl := List.mem_singleton.mp hp
  have hbig := C.big
  have sz : s4.heap.objs.size ≤ a := Nat.le_of_lt hbig
  refine ⟨C.obj, C.inv.hok.fresh sz, ?_, ?_, C.cell⟩
  · show a ≠ s4.heap.objs.size
    exact Nat.ne_of_gt hbig
  · intro z
    have z2 := C.inv.stkSub a z
    rcases List.mem_cons.mp z2 with z2 | z2
    · exact absurd (z2 ▸ C.inv.lt) (Nat.not_lt.mpr sz)
    · exact C.inv.nofs sz z2
theorem come_goesA {A0 : Around} {P : Addr} {elt tg iter : Expr} {ifs : List Expr} {scope : Scope} {own : List (Str × Nat)} {gpos : Pos} {J : It} {H1 H2 : Hp} {it : Addr} {fp : List Addr} {tn : Nat → Heap → Prop} {code : Value} {a g : Nat} {ob : Obj} {s4 s5 s6 : Shared} {gt : TG} {tt : TT} {te : TE} {W : List V → Nat → Nat → Hp → Prop} {m : Nat} {pl : List (Addr × Obj)}
    (hc : X.calm = true) (hco : scope.isCoroutine = false) (C : Come X pins σ P elt tg iter ifs scope gpos J H1 H2 it fp tn code a g ob s4 s5) (I : Inv (gYA X A0 s4 H2 scope code fp) pl (wipe σ (own.map (·.2))) H2 s6) (hg6 : s6.gens = s5.gens) (k56 : ∀ b o, s5.heap.get? b = some o → s6.heap.get? b = some o) (afp : ∀ p ∈ pl, p.1 ∉ fp)
    (D : Drw (gYA X A0 s4 H2 scope code fp) fp) (hpc : D.pc [] pl)
    (pg : PG (gYA X A0 s4 H2 scope code fp) tg gt) (pt : PTs (gYA X A0 s4 H2 scope code fp) ifs tt) (pe : PE (gYA X A0 s4 H2 scope code fp) elt te) (turn : Turns D J gt tt te (own.map (·.2)) (wipe σ (own.map (·.2))) W) (w0 : W [] 0 m H2) :
    ∃ gs, s6.gens[g]? = some gs ∧ gs.Goes (model X.prog X.w) A0.in1.in1 D.endp D.prot (m + 1) (.send .none) (s6.setGen g .running) := by
  have e6 : s6.gens[g]? = some (.fresh (.compStart (.GeneratorExp elt [⟨tg, iter, ifs, 0⟩] scope gpos) 0 (.ref it) .none (genv X scope s4.heap.objs.size code))) := by rw [hg6]; exact C.gens
  refine ⟨_, e6, rfl, ?_⟩
  have hfp := C.fp
  have I2 : Inv (gYA X A0 s4 H2 scope code fp) pl (wipe σ (own.map (·.2))) H2 (s6.setGen g .running) := inv_gens I (L2.allBare_setGen I.bare rfl)
  have t6 : tn 0 (s6.setGen g .running).heap := C.turn.keep _ _ _ C.tn fun b hb o e => k56 b o e
  have loop := seg_turns (G := A0.in1.in1) (scope := scope) (pos := gpos) (iter := iter) D over_gen hc rfl rfl rfl hco C.turn pg pt pe turn m (m + 1) [] 0 H2 (s6.setGen g .running) (s6.setGen g .running) pl (Nat.lt_succ_self m) w0 hpc afp I2 t6 fun b hb => (hfp b hb).1.1
  show Seg _ _ _ _ _ _ _ ((compStart (.GeneratorExp elt [⟨tg, iter, ifs, 0⟩] scope gpos) 0 (.ref it) .none (genv X scope s4.heap.objs.size code)).onRaise (leaving (genv X scope s4.heap.objs.size code))) [] _
  unfold compStart
  rw [Sem.onRaise_eq_wrap]
  show Seg _ _ _ _ _ _ _ ((ask >>= _).wrap _ _ _ _) [] _
  refine seg_bind_wrap (wpAny_askSetting ?_)
  split
  · exact seg_again rfl loop
  · first
      | exact seg_bind_wrap (wpAny_rule (seg_bind_wrap (wpAny_standAt (seg_bind_wrap (C.turn.self _ 0 _ _ _ t6 (seg_again rfl loop))))))
      | (refine seg_bind_wrap (wpAny_rule ?_); show Seg _ _ _ _ _ _ _ ((standAt iter.pos >>= _).wrap _ _ _ _) [] _; exact seg_bind_wrap (wpAny_standAt (seg_bind_wrap (C.turn.self _ 0 _ _ _ t6 (seg_again rfl loop)))))
/-- tuple of a generator expression; what is read: the turns with what is out -/
def tTupG (P : Addr) (wi : TI) (gt : TG) (tt : TT) (te : TE) (vs : List Nat) : TE := fun σ H Q => wi σ H fun J H1 => TabG H1 P ∧ ∀ H2, Tabbed P H1 H2 → ∃ (W : List V → Nat → Nat → Hp → Prop) (m : Nat), W [] 0 m H2 ∧
  ∀ ys i m H, W ys i m H → (J.stop i H ∧ ys.length ≤ sizeLine ∧ ∀ p, H p = none → Q (.ref p) (upd H p (.tup ys))) ∨ (J.go i H ∧ ∃ Nx : List V → Hp → Prop, (∀ ys' H', Nx ys' H' → ∃ m', m' < m ∧ W ys' (i + 1) m' H') ∧ ∀ x H', J.yld i H x H' →
    gt x (wipe σ vs) H' fun σ2 H2 => wipe σ2 vs = wipe σ vs ∧ tt σ2 H2 fun b H3 => if b = true then te σ2 H3 fun y H4 => ys.length < sizeLine ∧ Nx (ys ++ [y]) H4 else Nx ys H3)
theorem room_genA {k : Nat} {A : Around} (r : Room (k + 1) A) (env : Env) : Room k (A.in1.in1.in1.in1.deeper env) :=
  ⟨r.hd, by have := r.dp; show A.depth + 1 + 3 * k + 5 < _; omega, by have := r.un; show A.units + 1 + 1 + 1 + 1 + 3 + 16 * k + 200 < _; omega⟩
theorem pe_tupG {c P : Addr} {elt tg iter : Expr} {ifs : List Expr} {scope : Scope} {own : List (Str × Nat)} {p pos gpos : Pos} {wi : TI} {gt : TG} {tt : TT} {te : TE} {k : Nat}
    (hc : X.calm = true) (hN : X.N.Nodup) (hr : Room (k + 1) X.A) (hg : Gl X "tuple") (hm : X.mg "tuple" = none) (TB : TabB X.base X.mg c P) (hcode : X.env.code = .ref c)
    (hi : PI X tg iter wi) (ok : BlkOk X.N X.env.scope scope own) (hcell : ∀ y ∈ scope.names, y.2 ≠ .cell) (h0 : scope.names.lookup (".0" : Str) = some NameKind.local) (hco : scope.isCoroutine = false)
    (hgt : ∀ (A : Around) (s : Shared) (H : Hp) (C : Addr) (code : Value) (fp : List Addr), Room k A → PG (gcx X A s H scope (genv X scope C code) fp) tg gt)
    (htt : ∀ (A : Around) (s : Shared) (H : Hp) (C : Addr) (code : Value) (fp : List Addr), Room k A → PTs (gcx X A s H scope (genv X scope C code) fp) ifs tt)
    (hte : ∀ (A : Around) (s : Shared) (H : Hp) (C : Addr) (code : Value) (fp : List Addr), Room k A → PE (gcx X A s H scope (genv X scope C code) fp) elt te)
    (hs : ∀ v, genFold iter X.env v = pure v)
    (he : starEach [.GeneratorExp elt [⟨tg, iter, ifs, 0⟩] scope gpos] X.env = (false, eval (.GeneratorExp elt [⟨tg, iter, ifs, 0⟩] scope gpos) X.env) :: starEach [] X.env := by rfl) (hlam : lamP gpos = false := by rfl) :
    PE X (.Call (.Name "tuple" p) [.GeneratorExp elt [⟨tg, iter, ifs, 0⟩] scope gpos] [] pos) (tTupG P wi gt tt te (own.map (·.2))) := by
  refine ⟨fun pins s σ H Q I h => ?_⟩
  have hd : X.A.handled = none := I.ok.hd hc
  refine wpAny_Call_Name_kw (ld_blt I hg hm boot_tuple ?_)
  refine PyProof.Rows.callWith_type1 ?_ he (by rfl)
  rw [he]
  show wpAny _ _ (spliced ((false, eval (.GeneratorExp elt [⟨tg, iter, ifs, 0⟩] scope gpos) X.env) :: backTo pos (starEach [] X.env))) _ _ s
  refine Calls.spliced_cons (gen_make hr TB hcode ok hcell h0 hco hi hs hlam I h fun J H1 H2 it fp tn code a g ob s4 s5 hR C => ?_)
  refine Calls.spliced_nil ?_
  obtain ⟨W, m, w0, turn⟩ := hR H2 C.tab
  have afp : a ∉ fp := fun z => absurd (C.fp a z).2 (Nat.not_lt.mpr (Nat.le_of_lt C.big))
  have room := room_genA hr (genv X scope s4.heap.objs.size code)
  have hfr : X.A.in1.in1.frames = some X.stack := C.inv.ok.frames
  have I5 := come_invA (A0 := X.A.in1.in1) (own := own) hfr hd hN ok hcell C
  refine call_tuple_gen (A := X.A) (g := g) (Good := fun acc s' => ∃ (ys : List V) (σ' : L2.St) (H' : Hp) (c : Nat), Vals ys acc.toList ∧ Inv (gYA X X.A.in1.in1 s4 H2 scope code fp) [(s5.heap.objs.size, lstObj acc c), (a, ob)] σ' H' s' ∧ ys.length ≤ sizeLine ∧ ∀ p, H' p = none → Q (.ref p) (upd H' p (.tup ys))) (C.gen _ C.obj) ?_ (fun acc s' ⟨ys, σ', H', c, r, _, hl, _⟩ => ?_) fun s' acc good => ?_
  · intro h' c' R hk hS hR'
    have big4 : s4.heap.objs.size < s5.heap.objs.size := Nat.lt_trans C.big (Heap.lt_size C.obj)
    have I5' : Inv (gYA X X.A.in1.in1 s4 H2 scope code fp) [(a, ob)] (wipe σ (own.map (·.2))) H2 { s5 with heap := h' } := I5.kept (t' := s5.toks) hk
    have Sfp : s5.heap.objs.size ∉ fp := fun z => absurd (C.fp _ z).2 (Nat.not_lt.mpr (Nat.le_of_lt big4))
    have haS : a ≠ s5.heap.objs.size := Nat.ne_of_lt (Heap.lt_size C.obj)
    have SL : s5.heap.objs.size ≠ s4.heap.objs.size := Nat.ne_of_gt big4
    have I6 : Inv (gYA X X.A.in1.in1 s4 H2 scope code fp) [(s5.heap.objs.size, lstObj #[] c'), (a, ob)] (wipe σ (own.map (·.2))) H2 { s5 with heap := h' } := by
      refine I5'.pins_of fun p hp => ?_
      rcases List.mem_cons.mp hp with rfl | hp
      · refine ⟨hS, I5.hok.fresh (Nat.le_refl _), SL, fun z => ?_, fun v z => by cases z⟩
        have z2 := C.inv.stkSub _ z
        rcases List.mem_cons.mp z2 with z2 | z2
        · have z3 : s5.heap.objs.size = X.env.locals := z2
          have lt := C.inv.lt
          rw [← z3] at lt
          exact absurd lt (Nat.not_lt.mpr (Nat.le_of_lt big4))
        · exact C.inv.nofs (Nat.le_of_lt big4) z2
      · exact I5'.pin p (List.mem_append_right _ hp)
    have hA : Apart (gYA X X.A.in1.in1 s4 H2 scope code fp) s5.heap.objs.size := ⟨Nat.le_of_lt big4, SL, fun x c e z => by
      obtain ⟨v, o, ho, hd⟩ := I5.cell x c e
      rw [z] at ho
      exact absurd (Heap.lt_size ho) (Nat.lt_irrefl _)⟩
    have goes := come_goesA (own := own) (W := W) hc hco C I6 rfl (fun b o e => hk b o e) (fun p hp => by
        rcases List.mem_cons.mp hp with rfl | hp
        · exact Sfp
        · obtain rfl := List.mem_singleton.mp hp
          exact afp) (drwT (gYA X X.A.in1.in1 s4 H2 scope code fp) fp a ob s5.heap.objs.size afp Sfp haS hA rfl fun ys H => ys.length ≤ sizeLine ∧ ∀ p, H p = none → Q (.ref p) (upd H p (.tup ys))) ⟨#[], c', .nil, rfl⟩
      (hgt _ s4 H2 _ code fp room) (htt _ s4 H2 _ code fp room) (hte _ s4 H2 _ code fp room) turn w0
    refine ext_loop (A := X.A.in1.in1) (Y := gYA X X.A.in1.in1 s4 H2 scope code fp) (fp := fp) (ob := ob) (ha := afp) (hSf := Sfp) (haS := haS) (hA := hA) (hpn := rfl) rfl rfl hd (by have := hr.dp; show X.A.depth < _; omega) C.gen (fun ys acc c σ' H' s' r I' q => ?_) (m + 1) _ (hk _ _ C.obj) I6.nolimit C.bare goes
    exact hR' s' acc c ((I'.pin _ (List.mem_append_right _ List.mem_cons_self)).1) ⟨ys, σ', H', c, r, I', q⟩
  · have e1 : ys.length = acc.toList.length := r.length
    have e2 : acc.toList.length = acc.size := Array.length_toList
    rw [← e2, ← e1]
    exact hl
  · obtain ⟨ys, σ', H', c, r, I', hl, q⟩ := good
    have I9 : Inv X pins σ H' s' := C.inv.call' (ch := fp) I'.os I'.base I'.hok I'.bare fun b hb => ⟨(C.fp b hb).1.2.2.2.1, (C.fp b hb).1.2.1, (C.fp b hb).1.2.2.2.2.1, (C.fp b hb).1.2.2.2.2.2⟩
    exact ⟨.ref s'.heap.objs.size, upd H' s'.heap.objs.size (.tup ys), I9.laid (t' := s'.toks) (fun c o e => Heap.get?_push_of_some _ e) (Nat.le_refl _) (show ObjOk X.prog X.w _ _ _ (.tup ys) from ⟨hl, acc.toList, r, by rw [Array.toArray_toList]; exact IsTup.new _ _⟩), rfl, q _ (I9.hok.fresh (Nat.le_refl _))⟩
end
end L7

set_option Elab.async false
set_option linter.all false
set_option maxRecDepth 100000
set_option maxHeartbeats 2000000
namespace L7
open PySem PySem.Spec
open PyProof.Rows hiding St
open L2 L3 L5 GenW
open GxR (TabB inv_tab)
def mTupG {S : Type} (o : Ops S) (own : List Nat) (tg : Tg) (mi : M S (List PV)) (mt : M S Bool) (me : M S PV) : M S PV := bnd (mLcC o own tg mi mt me) fun l => L3.ret (.tuple l)
section
variable {X : Cx} {S : Type} {o : Ops S} {md : Md X.K o}
theorem tTupG_ok {T : List Addr} {P : Addr} {mi : M S (List PV)} {mt : M S Bool} {me : M S PV} {tg : Tg} {own : List Nat} (hT : HasT md T) (hP : P ∈ T)
    (σ : L2.St) (H : Hp) (Q : VK) (h : tG md (mTupG o own tg mi mt me) σ H Q) : tTupG P (tI md mi) (tT md tg) (tGT md mt) (tG md me) own σ H Q := by
  obtain ⟨Hs, U, st, pv, st', hR, hm, k⟩ := h
  obtain ⟨lr, st9, hm, e9⟩ := bnd_some hm
  obtain ⟨rfl, rfl⟩ := ret_some e9
  unfold mLcC at hm
  split at hm
  · cases hm
  · rename_i l0 st1 e1
    split at hm
    · rename_i hc
      obtain ⟨hl, hw, hin⟩ := hc
      split at hm
      · cases hm
      · rename_i acc stb e2
        cases hm
        refine ⟨Hs, U, st, l0, st1, hR, e1, fun J Hs1 U1 H1 r1 s1 wk => ?_⟩
        have tP := hT r1 P hP
        refine ⟨tP, fun H2 hz => ?_⟩
        have r2 := r_tab r1 tP hz
        have s2 := s1.trans (stp_tab (Hs := Hs1) (U := U1) tP hz)
        have r0 := md.clr_ok r2 hw
        refine ⟨fun ys i m H3 => ∃ Hs3 U3 stt ac, i ≤ l0.length ∧ m = l0.length - i ∧ md.R stt Hs3 U3 (wipe σ own) H3 ∧ Stp Hs1 U1 H2 Hs3 U3 H3 ∧ Reps X.K Hs3 ac ys ∧ ac.length ≤ i ∧ lcLoop o own tg mt me (l0.drop i) ac stt = some (lr, stb), l0.length, ⟨Hs1, U1, _, [], Nat.zero_le _, rfl, r0, .refl _ _ _, by simp [Reps], Nat.le_refl _, by simpa using e2⟩, fun ys i m H3 hW => ?_⟩
        obtain ⟨Hs3, U3, stt, ac, hi', rfl, r3, s3, hr, hac, hlp⟩ := hW
        have sb3 := md.sub r3
        have yl : ys.length ≤ i := by rw [hr.len]; exact hac
        by_cases hlt : i < l0.length
        · refine .inr ⟨wk.go Hs3 i H3 s3.hs sb3 hlt, fun ys' H4 => ∃ Hs4 U4 stt ac, md.R stt Hs4 U4 (wipe σ own) H4 ∧ Stp Hs1 U1 H2 Hs4 U4 H4 ∧ Reps X.K Hs4 ac ys' ∧ ac.length ≤ i + 1 ∧ lcLoop o own tg mt me (l0.drop (i + 1)) ac stt = some (lr, stb), fun ys' H4 ⟨Hs4, U4, st4, ac4, a1, a2, a3, a4, a5⟩ => ⟨l0.length - (i + 1), by omega, Hs4, U4, st4, ac4, by omega, rfl, a1, a2, a3, a4, a5⟩, fun x H4 hy => ?_⟩
          rw [List.drop_eq_getElem_cons hlt] at hlp
          unfold lcLoop at hlp
          obtain ⟨Hs4, ps, px⟩ := wk.yld Hs3 i H3 x H4 l0[i] s3.hs sb3 (List.getElem?_eq_getElem hlt) hy
          have r4 := md.grow r3 ps
          have s4 := s3.trans (ps.st.lift U3)
          split at hlp
          · cases hlp
          · rename_i stA eA
            refine ⟨Hs4, U3, stt, l0[i], stA, r4, px, eA, fun σ' hσ r5 => ?_⟩
            have hown : TgIn tg own := by
              clear eA hσ hlp e2
              unfold tgIn at hin
              unfold TgIn
              cases tg with
              | nm j => simpa using hin
              | tp is => simpa using hin
            obtain ⟨hw1, hw2⟩ := hσ own hown
            rw [wipe_wipe] at hw1
            refine ⟨by rw [hw1], ?_⟩
            split at hlp
            · cases hlp
            · rename_i stB eB
              refine ⟨Hs4, U3, stA, true, stB, r5, eB, fun Hs5 U5 H5 r6 s5 => ?_⟩
              refine iteT ?_
              split at hlp
              · cases hlp
              · rename_i v stC eC
                refine ⟨Hs5, U5, stB, v, stC, r6, eC, fun y Hs6 U6 H6 r7 s6 p6 => ?_⟩
                have sA := s4.trans (s5.trans s6)
                have r8 := md.clr_ok r7 hw
                rw [hw1] at r8
                refine ⟨Nat.lt_of_le_of_lt yl (lim_line (by omega)), Hs6, U6, _, ac ++ [v], r8, sA, ?_, by simp; omega, hlp⟩
                exact Reps.app (Reps.mono (ps.st.hs.trans (s5.trans s6).hs) ac ys hr) (.one p6)
            · rename_i stB eB
              refine ⟨Hs4, U3, stA, false, stB, r5, eB, fun Hs5 U5 H5 r6 s5 => ?_⟩
              refine iteF ?_
              have r7 := md.clr_ok r6 hw
              rw [hw1] at r7
              exact ⟨Hs5, U5, _, ac, r7, s4.trans s5, Reps.mono (ps.st.hs.trans s5.hs) ac ys hr, by omega, hlp⟩
        · have e : i = l0.length := by omega
          subst e
          rw [List.drop_length] at hlp
          cases hlp
          refine .inl ⟨wk.stop Hs3 H3 s3.hs sb3, Nat.le_trans yl (Nat.le_of_lt (lim_line hl)), fun p hp => ?_⟩
          have rl := md.leave_ok (own := own) r2 r3 s3.hs hw
          have al := PStp.alloc (o := .tup ys) (md.sub rl) hp trivial
          refine k _ _ _ _ (md.grow rl al) (s2.trans (s3.trans (al.st.lift U3))) (mk_tup (.inl upd_same) (Reps.mono al.st.hs _ ys hr))
    · cases hm
theorem g_tupleG {T : List Addr} {c P : Addr} {elt tg iter : Expr} {ifs : List Expr} {scope : Scope} {own : List (Str × Nat)} {p pos gpos : Pos} {k : Nat} {mi : M S (List PV)} {mt : M S Bool} {me : M S PV} {tt : Tg}
    (hT : HasT md T) (hP : P ∈ T) (hc : X.calm = true) (hN : X.N.Nodup) (hr : Room (k + 1) X.A) (hg : Gl X "tuple") (hm : X.mg "tuple" = none) (TB : TabB X.base X.mg c P) (hcode : X.env.code = .ref c)
    (hi : PI X tg iter (tI md mi)) (ok : BlkOk X.N X.env.scope scope own) (hcell : (scope.names.all fun y => y.2 != .cell) = true) (h0 : scope.names.lookup (".0" : Str) = some NameKind.local) (hco : scope.isCoroutine = false)
    (hgt : ∀ (A : Around) (s : Shared) (H : Hp) (C : Addr) (code : Value) (fp : List Addr), Room k A → PG (gcx X A s H scope (genv X scope C code) fp) tg (tT md tt))
    (htt : ∀ (A : Around) (s : Shared) (H : Hp) (C : Addr) (code : Value) (fp : List Addr), Room k A → PTs (gcx X A s H scope (genv X scope C code) fp) ifs (tGT md mt))
    (hte : ∀ (A : Around) (s : Shared) (H : Hp) (C : Addr) (code : Value) (fp : List Addr), Room k A → PE (gcx X A s H scope (genv X scope C code) fp) elt (tG md me))
    (hs : ∀ v, genFold iter X.env v = pure v := by intro _; rfl)
    (he : starEach [.GeneratorExp elt [⟨tg, iter, ifs, 0⟩] scope gpos] X.env = (false, eval (.GeneratorExp elt [⟨tg, iter, ifs, 0⟩] scope gpos) X.env) :: starEach [] X.env := by rfl) (hlam : lamP gpos = false := by rfl) :
    PE X (.Call (.Name "tuple" p) [.GeneratorExp elt [⟨tg, iter, ifs, 0⟩] scope gpos] [] pos) (tG md (mTupG o (own.map (·.2)) tt mi mt me)) :=
  peImp (pe_tupG hc hN hr hg hm TB hcode hi ok (fun y hy => by
    have := List.all_eq_true.mp hcell y hy
    intro z
    rw [z] at this
    cases this) h0 hco hgt htt hte hs he hlam) (tTupG_ok hT hP)
/-! ### list(range(..)), tuple(range(..)) -/
def fRg2 (x y : PV) : Option (List PV) := match x, y with
  | .int i, .int j => if -100000 ≤ i ∧ i ≤ 100000 ∧ -100000 ≤ j ∧ j ≤ 100000 ∧ (j - i).toNat ≤ LIM then some (rangeP i (j - i).toNat) else none
  | _, _ => none
def fRg1 (y : PV) : Option (List PV) := fRg2 (.int 0) y
def mRg1 (m : M S PV) : M S (List PV) := bnd m fun x => lft (fRg1 x)
def mRg2 (m m2 : M S PV) : M S (List PV) := bnd m fun x => bnd m2 fun y => lft (fRg2 x y)
theorem rg_reps {K : Fg} {H : Hp} (i : Int) : ∀ (n : Nat), Reps K H (rangeP i n) ((List.range n).map fun k => V.int (i + (k : Nat))) := by
  intro n
  unfold rangeP
  generalize List.range n = l
  induction l with
  | nil => simp [Reps]
  | cons a l ih => exact Reps.cons mk_int ih
theorem rg_ok {i j : Int} {l : List PV} (h : fRg2 (.int i) (.int j) = some l) : RgOk i j ∧ l = rangeP i (j - i).toNat := by
  have h : (if -100000 ≤ i ∧ i ≤ 100000 ∧ -100000 ≤ j ∧ j ≤ 100000 ∧ (j - i).toNat ≤ LIM then some (rangeP i (j - i).toNat) else none) = some l := h
  by_cases hc : -100000 ≤ i ∧ i ≤ 100000 ∧ -100000 ≤ j ∧ j ≤ 100000 ∧ (j - i).toNat ≤ LIM
  · rw [if_pos hc] at h
    cases h
    rw [show LIM = 100000 from rfl] at hc
    exact ⟨⟨by omega, by omega, by omega, by omega, by omega⟩, rfl⟩
  · rw [if_neg hc] at h
    cases h
theorem rg_int {x y : PV} {l : List PV} (h : fRg2 x y = some l) : ∃ i j, x = .int i ∧ y = .int j := by
  unfold fRg2 at h
  split at h
  · exact ⟨_, _, rfl, rfl⟩
  · cases h
variable {a b : Expr} {ma mb : M S PV}
theorem tRg1_ok {te : TE} {ka : Int → Int → Hp → Prop} {σ : L2.St} {H : Hp} {l : List PV} {Hs : Hp} {U : US} {st st' : S} (hte : ∀ Q, tG md ma σ H Q → te σ H Q) (hR : md.R st Hs U σ H) (hm : mRg1 ma st = some (l, st'))
    (k : ∀ i j Hs' U' H', RgOk i j → l = rangeP i (j - i).toNat → md.R st' Hs' U' σ H' → Stp Hs U H Hs' U' H' → ka i j H') : tRg1 te σ H ka := by
  obtain ⟨x, st1, e1, e2⟩ := bnd_some hm
  obtain ⟨e3, rfl⟩ := lft_some e2
  refine hte _ ⟨Hs, U, st, x, _, hR, e1, fun v Hs' U' H' r s p => ?_⟩
  obtain ⟨i, j, h1, rfl⟩ := rg_int e3
  cases h1
  obtain ⟨ok, e⟩ := rg_ok e3
  exact ⟨j, rep_int p, k 0 j Hs' U' H' ok e r s⟩
theorem tRg2_ok {ta tb : TE} {ka : Int → Int → Hp → Prop} {σ : L2.St} {H : Hp} {l : List PV} {Hs : Hp} {U : US} {st st' : S} (hta : ∀ H Q, tG md ma σ H Q → ta σ H Q) (htb : ∀ H Q, tG md mb σ H Q → tb σ H Q) (hR : md.R st Hs U σ H) (hm : mRg2 ma mb st = some (l, st'))
    (k : ∀ i j Hs' U' H', RgOk i j → l = rangeP i (j - i).toNat → md.R st' Hs' U' σ H' → Stp Hs U H Hs' U' H' → ka i j H') : tRg2 ta tb σ H ka := by
  obtain ⟨x, st1, e1, e2⟩ := bnd_some hm
  obtain ⟨y, st2, e3, e4⟩ := bnd_some e2
  obtain ⟨e5, rfl⟩ := lft_some e4
  obtain ⟨i, j, rfl, rfl⟩ := rg_int e5
  refine hta _ _ ⟨Hs, U, st, _, _, hR, e1, fun v Hs' U' H' r s p => ?_⟩
  refine htb _ _ ⟨Hs', U', _, _, _, r, e3, fun v2 Hs2 U2 H2 r2 s2 p2 => ?_⟩
  obtain ⟨ok, e⟩ := rg_ok e5
  exact ⟨i, j, rep_int p, rep_int p2, k i j Hs2 U2 H2 ok e r2 (s.trans s2)⟩
theorem f_listRg1 {p p2 pos pos2 : Pos} (hc : X.calm = true) (hg : Gl X "list") (hm : X.mg "list" = none) (hg2 : Gl X "range") (hm2 : X.mg "range" = none) (ha : PE X a (tG md ma))
    (na : starEach [.Call (.Name "range" p2) [a] [] pos2] X.env = (false, eval (.Call (.Name "range" p2) [a] [] pos2) X.env) :: starEach [] X.env := by rfl) (na2 : starEach [a] X.env = (false, eval a X.env) :: starEach [] X.env := by rfl) :
    PE X (.Call (.Name "list" p) [.Call (.Name "range" p2) [a] [] pos2] [] pos) (tF md (mRg1 ma)) := by
  refine peImp (pe_listRg hc hg hm (prg_1 hg2 hm2 ha na2) na) fun σ H Q ⟨Hs, U, st, l, st', hR, hm, k⟩ => ?_
  refine tRg1_ok (fun _ h => h) hR hm fun i j Hs' U' H' ok e r s => ⟨ok, fun q hq => ?_⟩
  subst e
  exact fin_F r s k q _ hq (rg_reps i _)
theorem f_listRg2 {p p2 pos pos2 : Pos} (hc : X.calm = true) (hg : Gl X "list") (hm : X.mg "list" = none) (hg2 : Gl X "range") (hm2 : X.mg "range" = none) (ha : PE X a (tG md ma)) (hb : PE X b (tG md mb))
    (na : starEach [.Call (.Name "range" p2) [a, b] [] pos2] X.env = (false, eval (.Call (.Name "range" p2) [a, b] [] pos2) X.env) :: starEach [] X.env := by rfl) (na2 : starEach [a, b] X.env = (false, eval a X.env) :: starEach [b] X.env := by rfl) (nb : starEach [b] X.env = (false, eval b X.env) :: starEach [] X.env := by rfl) (hp : (backTo pos2 (starEach [b] X.env)).any (·.1) = false := by rfl) :
    PE X (.Call (.Name "list" p) [.Call (.Name "range" p2) [a, b] [] pos2] [] pos) (tF md (mRg2 ma mb)) := by
  refine peImp (pe_listRg hc hg hm (prg_2 hg2 hm2 ha hb na2 nb hp) na) fun σ H Q ⟨Hs, U, st, l, st', hR, hm, k⟩ => ?_
  refine tRg2_ok (fun _ _ h => h) (fun _ _ h => h) hR hm fun i j Hs' U' H' ok e r s => ⟨ok, fun q hq => ?_⟩
  subst e
  exact fin_F r s k q _ hq (rg_reps i _)
/-- a new list as a value -/
def mLv (m : M S (List PV)) : M S PV := bnd m fun l => L3.ret (.list l)
def mTv (m : M S (List PV)) : M S PV := bnd m fun l => L3.ret (.tuple l)
theorem g_ofF {e : Expr} {m : M S (List PV)} (h : PE X e (tF md m)) : PE X e (tG md (mLv m)) := peImp h tF_G
theorem tupRg_fin {σ : L2.St} {H0 H : Hp} {Q : VK} {i : Int} {n : Nat} {Hs0 Hs : Hp} {U0' U : US} {st' : S} (r : md.R st' Hs U σ H) (s : Stp Hs0 U0' H0 Hs U H) (k : ∀ v Hs' U' H', md.R st' Hs' U' σ H' → Stp Hs0 U0' H0 Hs' U' H' → Rep X.K Hs' (.tuple (rangeP i n)) v → Q v H') :
    ∀ q, H q = none → Q (.ref q) (upd H q (.tup ((List.range n).map fun k => V.int (i + (k : Nat))))) := fun q hq => by
  have al := PStp.alloc (o := .tup ((List.range n).map fun k => V.int (i + (k : Nat)))) (md.sub r) hq trivial
  exact k _ _ _ _ (md.grow r al) (s.trans (al.st.lift U)) (mk_tup (.inl upd_same) (rg_reps i n))
theorem g_tupRg1 {p p2 pos pos2 : Pos} (hc : X.calm = true) (hg : Gl X "tuple") (hm : X.mg "tuple" = none) (hg2 : Gl X "range") (hm2 : X.mg "range" = none) (ha : PE X a (tG md ma))
    (na : starEach [.Call (.Name "range" p2) [a] [] pos2] X.env = (false, eval (.Call (.Name "range" p2) [a] [] pos2) X.env) :: starEach [] X.env := by rfl) (na2 : starEach [a] X.env = (false, eval a X.env) :: starEach [] X.env := by rfl) :
    PE X (.Call (.Name "tuple" p) [.Call (.Name "range" p2) [a] [] pos2] [] pos) (tG md (mTv (mRg1 ma))) := by
  refine peImp (pe_tupRg hc hg hm (prg_1 hg2 hm2 ha na2) na) fun σ H Q ⟨Hs, U, st, pv, st', hR, hm, k⟩ => ?_
  obtain ⟨l, st1, e1, e2⟩ := bnd_some hm
  obtain ⟨rfl, rfl⟩ := ret_some e2
  refine tRg1_ok (fun _ h => h) hR e1 fun i j Hs' U' H' ok e r s => ⟨ok, ?_⟩
  subst e
  exact tupRg_fin r s k
theorem g_tupRg2 {p p2 pos pos2 : Pos} (hc : X.calm = true) (hg : Gl X "tuple") (hm : X.mg "tuple" = none) (hg2 : Gl X "range") (hm2 : X.mg "range" = none) (ha : PE X a (tG md ma)) (hb : PE X b (tG md mb))
    (na : starEach [.Call (.Name "range" p2) [a, b] [] pos2] X.env = (false, eval (.Call (.Name "range" p2) [a, b] [] pos2) X.env) :: starEach [] X.env := by rfl) (na2 : starEach [a, b] X.env = (false, eval a X.env) :: starEach [b] X.env := by rfl) (nb : starEach [b] X.env = (false, eval b X.env) :: starEach [] X.env := by rfl) (hp : (backTo pos2 (starEach [b] X.env)).any (·.1) = false := by rfl) :
    PE X (.Call (.Name "tuple" p) [.Call (.Name "range" p2) [a, b] [] pos2] [] pos) (tG md (mTv (mRg2 ma mb))) := by
  refine peImp (pe_tupRg hc hg hm (prg_2 hg2 hm2 ha hb na2 nb hp) na) fun σ H Q ⟨Hs, U, st, pv, st', hR, hm, k⟩ => ?_
  obtain ⟨l, st1, e1, e2⟩ := bnd_some hm
  obtain ⟨rfl, rfl⟩ := ret_some e2
  refine tRg2_ok (fun _ _ h => h) (fun _ _ h => h) hR e1 fun i j Hs' U' H' ok e r s => ⟨ok, ?_⟩
  subst e
  exact tupRg_fin r s k
end
end L7

set_option Elab.async false
set_option linter.all false
set_option maxRecDepth 100000
set_option maxHeartbeats 2000000
namespace L7
open PySem PySem.Spec
open PyProof.Rows hiding St
open L2 L3 L5
/-! ### comprehensions with two for -/
def lcLoop2 {S : Type} (o : Ops S) (own own1 : List Nat) (tg tg1 : Tg) (mt : M S Bool) (mi1 : M S (List PV)) (mt1 : M S Bool) (me : M S PV) : List PV → List PV → S → Option (List PV × S)
  | [], acc, st => some (acc, st)
  | p :: l, acc, st => match setT o tg p st with
    | none => none
    | some st1 => match mt st1 with
      | none => none
      | some (true, st2) => match mi1 st2 with
        | none => none
        | some (l1, st3) => if acc.length + l1.length ≤ LIM then match lcLoop o own1 tg1 mt1 me l1 acc (o.clr st3 own1) with
            | none => none
            | some (acc', st4) => lcLoop2 o own own1 tg tg1 mt mi1 mt1 me l acc' (o.clr st4 own)
          else none
      | some (false, st2) => lcLoop2 o own own1 tg tg1 mt mi1 mt1 me l acc (o.clr st2 own)
def mLc2C {S : Type} (o : Ops S) (own own1 : List Nat) (tg tg1 : Tg) (mi : M S (List PV)) (mt : M S Bool) (mi1 : M S (List PV)) (mt1 : M S Bool) (me : M S PV) : M S (List PV) := fun st => match mi st with
  | none => none
  | some (l, st1) => if (own.all o.wr = true ∧ tgIn tg own = true) ∧ (own1.all o.wr = true ∧ tgIn tg1 own1 = true) ∧ (own1.all fun i => own.contains i) = true then match lcLoop2 o own own1 tg tg1 mt mi1 mt1 me l [] (o.clr st1 own) with
      | none => none
      | some (acc, stb) => some (acc, o.leave st1 stb own)
    else none
def mLc2 {S : Type} (o : Ops S) (own own1 : List Nat) (tg tg1 : Tg) (mi : M S (List PV)) (mt : M S Bool) (mi1 : M S (List PV)) (mt1 : M S Bool) (me : M S PV) : M S PV := bnd (mLc2C o own own1 tg tg1 mi mt mi1 mt1 me) fun l => L3.ret (.list l)
theorem wipe_sub (σ : L2.St) (own : List Nat) : ∀ l : List Nat, (∀ i ∈ l, i ∈ own) → wipe (wipe σ l) own = wipe σ own := fun l => by
  induction l with
  | nil => intro _; rfl
  | cons i l ih =>
    intro h
    show wipe ((wipe σ l).set i none) own = _
    rw [wipe_set (h i List.mem_cons_self), ih fun j hj => h j (List.mem_cons_of_mem _ hj)]
section
variable {S : Type} {X : Cx} {o : Ops S} {md : Md X.K o}
theorem none_keep {Hs Hs' H H' : Hp} {U U' : US} {D : Addr} {xs : List V} (s : Stp Hs U H Hs' U' H') (h1 : Hs D = none) (h2 : H D = some (.lst xs)) (h3 : ¬ U D) : Hs' D = none ∧ ¬ U' D := by
  refine ⟨?_, fun z => ?_⟩
  · cases q : Hs' D with
    | none => rfl
    | some u =>
      rcases s.an D u q with h | h | ⟨ys, rfl, h⟩ | h
      · rw [h1] at h; cases h
      · rw [h2] at h; cases h
      · rw [h2] at h; cases h
      · exact absurd h h3
  · rcases s.uu D z with h | h
    · exact h3 h
    · rw [h2] at h; cases h
theorem own_in {tg : Tg} {own : List Nat} (hin : tgIn tg own = true) : TgIn tg own := by
  unfold tgIn at hin
  unfold TgIn
  cases tg with
  | nm j => simpa using hin
  | tp is => simpa using hin
theorem tLc2_core {wi wi1 : TI} {g g1 : TG} {tt tt1 : TT} {te : TE} {mi mi1 : M S (List PV)} {mt mt1 : M S Bool} {me : M S PV} {tg tg1 : Tg} {own own1 : List Nat}
    (hi : ∀ σ H R, tI md mi σ H R → wi σ H R) (hg : ∀ v σ H Q, tT md tg v σ H Q → g v σ H Q) (ht : ∀ σ H Q, tGT md mt σ H Q → tt σ H Q)
    (hi1 : ∀ σ H R, tI md mi1 σ H R → wi1 σ H R) (hg1 : ∀ v σ H Q, tT md tg1 v σ H Q → g1 v σ H Q) (ht1 : ∀ σ H Q, tGT md mt1 σ H Q → tt1 σ H Q) (he : ∀ σ H Q, tG md me σ H Q → te σ H Q)
    {σ : L2.St} {H : Hp} {Q : VK} {Hs : Hp} {U : US} {st : S} {l : List PV} {st' : S} (hR : md.R st Hs U σ H) (hm : mLc2C o own own1 tg tg1 mi mt mi1 mt1 me st = some (l, st'))
    (k : ∀ D xs Hs' U' H', md.R st' Hs' U' σ H' → Stp Hs U H Hs' U' H' → H' D = some (.lst xs) → Hs' D = none → ¬ U' D → H D = none → Reps X.K Hs' l xs → Q (.ref D) H') : tLc2 wi g tt wi1 g1 tt1 te own own1 σ H Q := by
  unfold mLc2C at hm
  split at hm
  · cases hm
  · rename_i l0 st1 e1
    split at hm
    · rename_i hc
      obtain ⟨⟨hw, hin⟩, ⟨hw1, hin1⟩, hsub⟩ := hc
      have hsub : ∀ i ∈ own1, i ∈ own := fun i h => by
        have := List.all_eq_true.mp hsub i h
        simpa using this
      split at hm
      · cases hm
      · rename_i acc stb e2
        cases hm
        refine hi σ H _ ⟨Hs, U, st, l0, st1, hR, e1, fun J Hs1 U1 H1 r1 s1 wk D hD => ?_⟩
        have r0 := md.clr_ok r1 hw
        refine ⟨fun i m H2 => ∃ Hs2 U2 stt ac xs, i ≤ l0.length ∧ m = l0.length - i ∧ md.R stt Hs2 U2 (wipe σ own) H2 ∧ Stp Hs1 U1 H1 Hs2 U2 H2 ∧ H2 D = some (.lst xs) ∧ Hs2 D = none ∧ ¬ U2 D ∧ Reps X.K Hs2 ac xs ∧
          lcLoop2 o own own1 tg tg1 mt mi1 mt1 me (l0.drop i) ac stt = some (l, stb), ⟨l0.length, Hs1, U1, _, [], [], Nat.zero_le _, rfl, ?_, .tmp hD (fun _ z => by cases z) U1, upd_same, sb_none (md.sub r1) hD, fun u => ?_, by simp [Reps], by simpa using e2⟩, fun i m H2 hW => ?_⟩
        · refine md.move r0 (Same.refl _) (fun a u e => ?_) (fun a u => ⟨(md.own r0 u).1, fun x e => ?_⟩) (tabG_upd hD)
          · have := md.sub r0 a u e
            refine ⟨this.1, ?_⟩
            rw [upd_ne (ne_of_none this.2 hD)]; exact this.2
          · rw [upd_ne (ne_of_none e hD)]; exact e
        · obtain ⟨_, w, e, _⟩ := md.own r1 u
          rw [hD] at e; cases e
        · obtain ⟨Hs2, U2, stt, ac, xs, hi', rfl, r2, s2, hd, hsd, hu, hr, hlp⟩ := hW
          have sb2 := md.sub r2
          by_cases hlt : i < l0.length
          · refine .inr ⟨wk.go Hs2 i H2 s2.hs sb2 hlt, fun H3 => ∃ Hs2 U2 stt ac xs, md.R stt Hs2 U2 (wipe σ own) H3 ∧ Stp Hs1 U1 H1 Hs2 U2 H3 ∧ H3 D = some (.lst xs) ∧ Hs2 D = none ∧ ¬ U2 D ∧ Reps X.K Hs2 ac xs ∧
              lcLoop2 o own own1 tg tg1 mt mi1 mt1 me (l0.drop (i + 1)) ac stt = some (l, stb), fun H3 h3 => ?_, fun x H3 hy => ?_⟩
            · obtain ⟨Hs3, U3, st3, ac3, xs3, a1, a2, a3, a4, a5, a6, a8⟩ := h3
              exact ⟨l0.length - (i + 1), by omega, Hs3, U3, st3, ac3, xs3, by omega, rfl, a1, a2, a3, a4, a5, a6, a8⟩
            · rw [List.drop_eq_getElem_cons hlt] at hlp
              unfold lcLoop2 at hlp
              obtain ⟨Hs3, ps, px⟩ := wk.yld Hs2 i H2 x H3 l0[i] s2.hs sb2 (List.getElem?_eq_getElem hlt) hy
              have r3 := md.grow r2 ps
              have hd3 : H3 D = some (.lst xs) := ps.st.fr D _ hd trivial (fun z => z)
              have hsd3 : Hs3 D = none := (none_keep ps.st hsd hd (fun z => z)).1
              have s3 := s2.trans (ps.st.lift U2)
              split at hlp
              · cases hlp
              · rename_i stA eA
                refine hg x _ H3 _ ⟨Hs3, U2, stt, l0[i], stA, r3, px, eA, fun σ' hσ r4 => ?_⟩
                obtain ⟨hv1, hv2⟩ := hσ own (own_in hin)
                rw [wipe_wipe] at hv1
                refine ⟨by rw [hv1], ?_⟩
                split at hlp
                · cases hlp
                · rename_i stB eB
                  refine ht σ' H3 _ ⟨Hs3, U2, stA, true, stB, r4, eB, fun Hs5 U5 H5 r5 s5 => ?_⟩
                  refine iteT ?_
                  split at hlp
                  · cases hlp
                  · rename_i l1 stC eC
                    split at hlp
                    · rename_i hlen
                      split at hlp
                      · cases hlp
                      · rename_i acN stN eN
                        refine hi1 σ' H5 _ ⟨Hs5, U5, stB, l1, stC, r5, eC, fun J1 Hs6 U6 H6 r6 s6 wk1 => ?_⟩
                        have ss6 := s5.trans s6
                        have hd6 : H6 D = some (.lst xs) := ss6.fr D _ hd3 trivial hu
                        obtain ⟨hsd6, hu6⟩ := none_keep ss6 hsd3 hd3 hu
                        have r6c := md.clr_ok r6 hw1
                        have s6' := s3.trans ss6
                        refine ⟨fun j m1 H7 => ∃ Hs7 U7 st7 ac7 xs7, j ≤ l1.length ∧ m1 = l1.length - j ∧ md.R st7 Hs7 U7 (wipe σ' own1) H7 ∧ Stp Hs1 U1 H1 Hs7 U7 H7 ∧ Same Hs6 Hs7 ∧ H7 D = some (.lst xs7) ∧ Hs7 D = none ∧ ¬ U7 D ∧ Reps X.K Hs7 ac7 xs7 ∧ ac7.length ≤ ac.length + j ∧
                          lcLoop o own1 tg1 mt1 me (l1.drop j) ac7 st7 = some (acN, stN), ⟨l1.length, Hs6, U6, _, ac, xs, Nat.zero_le _, rfl, r6c, s6', Same.refl _, hd6, hsd6, hu6, Reps.mono (ps.st.hs.trans ss6.hs) ac xs hr, Nat.le_refl _, by simpa using eN⟩, fun j m1 H7 hW1 => ?_⟩
                        obtain ⟨Hs7, U7, st7, ac7, xs7, hj, rfl, r7, s7, h67, hd7, hsd7, hu7, hr7, hac7, hlp7⟩ := hW1
                        have sb7 := md.sub r7
                        by_cases hlt1 : j < l1.length
                        · refine .inr ⟨wk1.go Hs7 j H7 h67 sb7 hlt1, fun H8 => ∃ Hs7 U7 st7 ac7 xs7, md.R st7 Hs7 U7 (wipe σ' own1) H8 ∧ Stp Hs1 U1 H1 Hs7 U7 H8 ∧ Same Hs6 Hs7 ∧ H8 D = some (.lst xs7) ∧ Hs7 D = none ∧ ¬ U7 D ∧ Reps X.K Hs7 ac7 xs7 ∧ ac7.length ≤ ac.length + (j + 1) ∧
                            lcLoop o own1 tg1 mt1 me (l1.drop (j + 1)) ac7 st7 = some (acN, stN), fun H8 ⟨Hs8, U8, st8, ac8, xs8, a1, a2, a3, a4, a5, a6, a7, a8, a9⟩ => ⟨l1.length - (j + 1), by omega, Hs8, U8, st8, ac8, xs8, by omega, rfl, a1, a2, a3, a4, a5, a6, a7, a8, a9⟩, fun y H8 hy1 => ?_⟩
                          rw [List.drop_eq_getElem_cons hlt1] at hlp7
                          unfold lcLoop at hlp7
                          obtain ⟨Hs8, ps1, px1⟩ := wk1.yld Hs7 j H7 y H8 l1[j] h67 sb7 (List.getElem?_eq_getElem hlt1) hy1
                          have r8 := md.grow r7 ps1
                          have hd8 : H8 D = some (.lst xs7) := ps1.st.fr D _ hd7 trivial (fun z => z)
                          have hsd8 : Hs8 D = none := (none_keep ps1.st hsd7 hd7 (fun z => z)).1
                          have s8 := s7.trans (ps1.st.lift U7)
                          split at hlp7
                          · cases hlp7
                          · rename_i stD eD
                            refine hg1 y _ H8 _ ⟨Hs8, U7, st7, l1[j], stD, r8, px1, eD, fun σ2 hσ2 r9 => ?_⟩
                            obtain ⟨hz1, hz2⟩ := hσ2 own1 (own_in hin1)
                            rw [wipe_wipe] at hz1
                            refine ⟨by rw [hz1], ?_⟩
                            split at hlp7
                            · cases hlp7
                            · rename_i stE eE
                              refine ht1 σ2 H8 _ ⟨Hs8, U7, stD, true, stE, r9, eE, fun Hs9 U9 H9 r10 s9 => ?_⟩
                              refine iteT ?_
                              split at hlp7
                              · cases hlp7
                              · rename_i v stF eF
                                refine he σ2 H9 _ ⟨Hs9, U9, stE, v, stF, r10, eF, fun z Hs10 U10 H10 r11 s10 p10 => ?_⟩
                                have ss := s9.trans s10
                                have hd10 : H10 D = some (.lst xs7) := ss.fr D _ hd8 trivial hu7
                                obtain ⟨hsd10, hu10⟩ := none_keep ss hsd8 hd8 hu7
                                have sA := s8.trans ss
                                have hrr : Reps X.K Hs10 (ac7 ++ [v]) (xs7 ++ [z]) := Reps.app (Reps.mono (ps1.st.hs.trans ss.hs) ac7 xs7 hr7) (.one p10)
                                refine ⟨xs7, hd10, ?_, Hs10, U10, _, ac7 ++ [v], xs7 ++ [z], ?_, stp_write sA hD hd10, h67.trans (ps1.st.hs.trans ss.hs), upd_same, hsd10, hu10, hrr, by simp; omega, hlp7⟩
                                · rw [hr7.len]
                                  exact lim_line (by omega)
                                · have r12 := md.clr_ok r11 hw1
                                  rw [hz1] at r12
                                  refine md.move r12 (Same.refl _) (fun a u e => ?_) (fun a u => ⟨(md.own r12 u).1, fun x e => ?_⟩) (tabG_set hd10)
                                  · have := md.sub r12 a u e
                                    refine ⟨this.1, ?_⟩
                                    rw [upd_ne (fun q => by subst q; rw [hsd10] at e; cases e)]; exact this.2
                                  · rw [upd_ne (fun q => by subst q; exact hu10 u)]; exact e
                            · rename_i stE eE
                              refine ht1 σ2 H8 _ ⟨Hs8, U7, stD, false, stE, r9, eE, fun Hs9 U9 H9 r10 s9 => ?_⟩
                              refine iteF ?_
                              have hd10 : H9 D = some (.lst xs7) := s9.fr D _ hd8 trivial hu7
                              obtain ⟨hsd10, hu10⟩ := none_keep s9 hsd8 hd8 hu7
                              have r12 := md.clr_ok r10 hw1
                              rw [hz1] at r12
                              exact ⟨Hs9, U9, _, ac7, xs7, r12, s8.trans s9, h67.trans (ps1.st.hs.trans s9.hs), hd10, hsd10, hu10, Reps.mono (ps1.st.hs.trans s9.hs) ac7 xs7 hr7, by omega, hlp7⟩
                        · have e : j = l1.length := by omega
                          subst e
                          rw [List.drop_length] at hlp7
                          cases hlp7
                          refine .inl ⟨wk1.stop Hs7 H7 h67 sb7, Hs7, U7, _, _, xs7, ?_, s7, hd7, hsd7, hu7, hr7, hlp⟩
                          have r12 := md.clr_ok r7 hw
                          rw [wipe_sub σ' own own1 hsub, hv1] at r12
                          exact r12
                    · cases hlp
                · rename_i stB eB
                  refine ht σ' H3 _ ⟨Hs3, U2, stA, false, stB, r4, eB, fun Hs5 U5 H5 r5 s5 => ?_⟩
                  refine iteF ?_
                  have hd6 : H5 D = some (.lst xs) := s5.fr D _ hd3 trivial hu
                  obtain ⟨hsd6, hu6⟩ := none_keep s5 hsd3 hd3 hu
                  have r7 := md.clr_ok r5 hw
                  rw [hv1] at r7
                  exact ⟨Hs5, U5, _, ac, xs, r7, s3.trans s5, hd6, hsd6, hu6, Reps.mono (ps.st.hs.trans s5.hs) ac xs hr, hlp⟩
          · have e : i = l0.length := by omega
            subst e
            rw [List.drop_length] at hlp
            cases hlp
            have rz := md.leave_ok (own := own) r1 r2 s2.hs hw
            exact .inl ⟨wk.stop Hs2 H2 s2.hs sb2, k D xs Hs2 U2 H2 rz (s1.trans s2) hd hsd hu (by
              cases q : H D with
              | none => rfl
              | some u => exact absurd hD (s1.ex D (by rw [q]; simp))) hr⟩
    · cases hm
theorem f_lc2 {elt tg iter tg1 iter1 : Expr} {ifs ifs1 : List Expr} {scope : Scope} {own : List (Str × Nat)} {vs1 : List Nat} {pos : Pos} {mi mi1 : M S (List PV)} {mt mt1 : M S Bool} {me : M S PV} {tt tt1 : Tg} (hc : X.calm = true) (hN : X.N.Nodup) (hi : PI X tg iter (tI md mi)) (ok : BlkOk X.N X.env.scope scope own) (hv : (vs1.all fun i => (own.map (·.2)).contains i) = true)
    (hg : ∀ (s : Shared) (H : Hp) (C : Addr) (cl : List (Str × Addr)) (fp : List Addr), PG (X.blk s H scope (compEnvC scope cl C X.env) fp) tg (tT md tt)) (ht : ∀ (s : Shared) (H : Hp) (C : Addr) (cl : List (Str × Addr)) (fp : List Addr), PTs (X.blk s H scope (compEnvC scope cl C X.env) fp) ifs (tGT md mt))
    (hi1 : ∀ (s : Shared) (H : Hp) (C : Addr) (cl : List (Str × Addr)) (fp : List Addr), PI (X.blk s H scope (compEnvC scope cl C X.env) fp) tg1 iter1 (tI md mi1))
    (hg1 : ∀ (s : Shared) (H : Hp) (C : Addr) (cl : List (Str × Addr)) (fp : List Addr), PG (X.blk s H scope (compEnvC scope cl C X.env) fp) tg1 (tT md tt1)) (ht1 : ∀ (s : Shared) (H : Hp) (C : Addr) (cl : List (Str × Addr)) (fp : List Addr), PTs (X.blk s H scope (compEnvC scope cl C X.env) fp) ifs1 (tGT md mt1))
    (he : ∀ (s : Shared) (H : Hp) (C : Addr) (cl : List (Str × Addr)) (fp : List Addr), PE (X.blk s H scope (compEnvC scope cl C X.env) fp) elt (tG md me)) (hs : ∀ x, foldedSetIterable iter X.env x = pure x := by intro _; rfl) (hs1 : ∀ env x, foldedSetIterable iter1 env x = pure x := by intro _ _; rfl) :
    PE X (.ListComp elt [⟨tg, iter, ifs, 0⟩, ⟨tg1, iter1, ifs1, 0⟩] scope pos) (tF md (mLc2C o (own.map (·.2)) vs1 tt tt1 mi mt mi1 mt1 me)) := by
  refine peImp (pe_lc2 (vs1 := vs1) hc hN hi ok (fun i h => by have := List.all_eq_true.mp hv i h; simpa using this) hg ht hi1 hg1 ht1 he hs hs1) fun σ H Q ⟨Hs, U, st, l, st', hR, hm, k⟩ => ?_
  exact tLc2_core (fun _ _ _ h => h) (fun _ _ _ _ h => h) (fun _ _ _ h => h) (fun _ _ _ h => h) (fun _ _ _ _ h => h) (fun _ _ _ h => h) (fun _ _ _ h => h) hR hm k
section
variable {X : Cx}
theorem s_setLc2 {i : Nat} {y : Str} {py : Pos} {elt tg iter tg1 iter1 : Expr} {ifs ifs1 : List Expr} {scope : Scope} {own : List (Str × Nat)} {vs1 : List Nat} {pos spos : Pos} {n : Nat} {fx : List Nat} {T : List Addr} {mi mi1 : M Env0 (List PV)} {mt mt1 : M Env0 Bool} {me : M Env0 PV} {tt tt1 : Tg} (hc : X.calm = true) (hN : X.N.Nodup) (hy : X.N[i]? = some y) (hyl : X.env.scope.names.lookup y = some .local)
    (hsw : swapsWith (.ListComp elt [⟨tg, iter, ifs, 0⟩, ⟨tg1, iter1, ifs1, 0⟩] scope pos) (some (.Name y py)) spos.line X.env = pure true) (hi : PI X tg iter (tI (eM X.K n fx T) mi)) (ok : BlkOk X.N X.env.scope scope own) (hv : (vs1.all fun i => (own.map (·.2)).contains i) = true)
    (hg : ∀ (s : Shared) (H : Hp) (C : Addr) (cl : List (Str × Addr)) (fp : List Addr), PG (X.blk s H scope (compEnvC scope cl C X.env) fp) tg (tT (eM X.K n fx T) tt)) (ht : ∀ (s : Shared) (H : Hp) (C : Addr) (cl : List (Str × Addr)) (fp : List Addr), PTs (X.blk s H scope (compEnvC scope cl C X.env) fp) ifs (tGT (eM X.K n fx T) mt))
    (hi1 : ∀ (s : Shared) (H : Hp) (C : Addr) (cl : List (Str × Addr)) (fp : List Addr), PI (X.blk s H scope (compEnvC scope cl C X.env) fp) tg1 iter1 (tI (eM X.K n fx T) mi1))
    (hg1 : ∀ (s : Shared) (H : Hp) (C : Addr) (cl : List (Str × Addr)) (fp : List Addr), PG (X.blk s H scope (compEnvC scope cl C X.env) fp) tg1 (tT (eM X.K n fx T) tt1)) (ht1 : ∀ (s : Shared) (H : Hp) (C : Addr) (cl : List (Str × Addr)) (fp : List Addr), PTs (X.blk s H scope (compEnvC scope cl C X.env) fp) ifs1 (tGT (eM X.K n fx T) mt1))
    (he : ∀ (s : Shared) (H : Hp) (C : Addr) (cl : List (Str × Addr)) (fp : List Addr), PE (X.blk s H scope (compEnvC scope cl C X.env) fp) elt (tG (eM X.K n fx T) me)) (hs : ∀ x, foldedSetIterable iter X.env x = pure x := by intro _; rfl) (hs1 : ∀ env x, foldedSetIterable iter1 env x = pure x := by intro _ _; rfl) :
    PS X (.Assign [.Name y py] (.ListComp elt [⟨tg, iter, ifs, 0⟩, ⟨tg1, iter1, ifs1, 0⟩] scope pos) spos) (tS X.K n fx T (sSet (eO n fx) i (mFL (mLc2C (eO n fx) (own.map (·.2)) vs1 tt tt1 mi mt mi1 mt1 me)))) := by
  refine psImp (ps_setLc2 (vs1 := vs1) hc hN hy hyl hsw hi ok (fun i h => by have := List.all_eq_true.mp hv i h; simpa using this) hg ht hi1 hg1 ht1 he hs hs1) (tAsg_set fun σ H Q h => ?_)
  obtain ⟨Hs, U, st, l, st', hR, hm, k⟩ := tF_O σ H Q h
  exact tLc2_core (fun _ _ _ h => h) (fun _ _ _ _ h => h) (fun _ _ _ h => h) (fun _ _ _ h => h) (fun _ _ _ _ h => h) (fun _ _ _ h => h) (fun _ _ _ h => h) hR hm k
theorem s_setLc2P {i : Nat} {y : Str} {py : Pos} {elt tg iter tg1 iter1 : Expr} {ifs ifs1 : List Expr} {scope : Scope} {own : List (Str × Nat)} {vs1 : List Nat} {pos spos : Pos} {n : Nat} {fx : List Nat} {T : List Addr} {mi mi1 : M PE0 (List PV)} {mt mt1 : M PE0 Bool} {me : M PE0 PV} {tt tt1 : Tg} (hc : X.calm = true) (hN : X.N.Nodup) (hy : X.N[i]? = some y) (hyl : X.env.scope.names.lookup y = some .local)
    (hsw : swapsWith (.ListComp elt [⟨tg, iter, ifs, 0⟩, ⟨tg1, iter1, ifs1, 0⟩] scope pos) (some (.Name y py)) spos.line X.env = pure true) (hi : PI X tg iter (tI (pM X.K n T) mi)) (ok : BlkOk X.N X.env.scope scope own) (hv : (vs1.all fun i => (own.map (·.2)).contains i) = true)
    (hg : ∀ (s : Shared) (H : Hp) (C : Addr) (cl : List (Str × Addr)) (fp : List Addr), PG (X.blk s H scope (compEnvC scope cl C X.env) fp) tg (tT (pM X.K n T) tt)) (ht : ∀ (s : Shared) (H : Hp) (C : Addr) (cl : List (Str × Addr)) (fp : List Addr), PTs (X.blk s H scope (compEnvC scope cl C X.env) fp) ifs (tGT (pM X.K n T) mt))
    (hi1 : ∀ (s : Shared) (H : Hp) (C : Addr) (cl : List (Str × Addr)) (fp : List Addr), PI (X.blk s H scope (compEnvC scope cl C X.env) fp) tg1 iter1 (tI (pM X.K n T) mi1))
    (hg1 : ∀ (s : Shared) (H : Hp) (C : Addr) (cl : List (Str × Addr)) (fp : List Addr), PG (X.blk s H scope (compEnvC scope cl C X.env) fp) tg1 (tT (pM X.K n T) tt1)) (ht1 : ∀ (s : Shared) (H : Hp) (C : Addr) (cl : List (Str × Addr)) (fp : List Addr), PTs (X.blk s H scope (compEnvC scope cl C X.env) fp) ifs1 (tGT (pM X.K n T) mt1))
    (he : ∀ (s : Shared) (H : Hp) (C : Addr) (cl : List (Str × Addr)) (fp : List Addr), PE (X.blk s H scope (compEnvC scope cl C X.env) fp) elt (tG (pM X.K n T) me)) (hs : ∀ x, foldedSetIterable iter X.env x = pure x := by intro _; rfl) (hs1 : ∀ env x, foldedSetIterable iter1 env x = pure x := by intro _ _; rfl) :
    PS X (.Assign [.Name y py] (.ListComp elt [⟨tg, iter, ifs, 0⟩, ⟨tg1, iter1, ifs1, 0⟩] scope pos) spos) (tS X.K n fx T (sSet (eO n fx) i (mFLP (mLc2C (pO n) (own.map (·.2)) vs1 tt tt1 mi mt mi1 mt1 me)))) := by
  refine psImp (ps_setLc2 (vs1 := vs1) hc hN hy hyl hsw hi ok (fun i h => by have := List.all_eq_true.mp hv i h; simpa using this) hg ht hi1 hg1 ht1 he hs hs1) (tAsg_set fun σ H Q h => ?_)
  obtain ⟨Hs, U, st, l, st', hR, hm, k⟩ := tF_OP σ H Q h
  exact tLc2_core (fun _ _ _ h => h) (fun _ _ _ _ h => h) (fun _ _ _ h => h) (fun _ _ _ h => h) (fun _ _ _ _ h => h) (fun _ _ _ h => h) (fun _ _ _ h => h) hR hm k
theorem s_setLc2V {i : Nat} {y : Str} {py : Pos} {elt tg iter tg1 iter1 : Expr} {ifs ifs1 : List Expr} {scope : Scope} {own : List (Str × Nat)} {vs1 : List Nat} {pos spos : Pos} {n : Nat} {fx : List Nat} {T : List Addr} {mi mi1 : M PE0 (List PV)} {mt mt1 : M PE0 Bool} {me : M PE0 PV} {tt tt1 : Tg} (hc : X.calm = true) (hN : X.N.Nodup) (hy : X.N[i]? = some y) (hyl : X.env.scope.names.lookup y = some .local)
    (hsw : swapsWith (.ListComp elt [⟨tg, iter, ifs, 0⟩, ⟨tg1, iter1, ifs1, 0⟩] scope pos) (some (.Name y py)) spos.line X.env = pure true) (hi : PI X tg iter (tI (pM X.K n T) mi)) (ok : BlkOk X.N X.env.scope scope own) (hv : (vs1.all fun i => (own.map (·.2)).contains i) = true)
    (hg : ∀ (s : Shared) (H : Hp) (C : Addr) (cl : List (Str × Addr)) (fp : List Addr), PG (X.blk s H scope (compEnvC scope cl C X.env) fp) tg (tT (pM X.K n T) tt)) (ht : ∀ (s : Shared) (H : Hp) (C : Addr) (cl : List (Str × Addr)) (fp : List Addr), PTs (X.blk s H scope (compEnvC scope cl C X.env) fp) ifs (tGT (pM X.K n T) mt))
    (hi1 : ∀ (s : Shared) (H : Hp) (C : Addr) (cl : List (Str × Addr)) (fp : List Addr), PI (X.blk s H scope (compEnvC scope cl C X.env) fp) tg1 iter1 (tI (pM X.K n T) mi1))
    (hg1 : ∀ (s : Shared) (H : Hp) (C : Addr) (cl : List (Str × Addr)) (fp : List Addr), PG (X.blk s H scope (compEnvC scope cl C X.env) fp) tg1 (tT (pM X.K n T) tt1)) (ht1 : ∀ (s : Shared) (H : Hp) (C : Addr) (cl : List (Str × Addr)) (fp : List Addr), PTs (X.blk s H scope (compEnvC scope cl C X.env) fp) ifs1 (tGT (pM X.K n T) mt1))
    (he : ∀ (s : Shared) (H : Hp) (C : Addr) (cl : List (Str × Addr)) (fp : List Addr), PE (X.blk s H scope (compEnvC scope cl C X.env) fp) elt (tG (pM X.K n T) me)) (hs : ∀ x, foldedSetIterable iter X.env x = pure x := by intro _; rfl) (hs1 : ∀ env x, foldedSetIterable iter1 env x = pure x := by intro _ _; rfl) :
    PS X (.Assign [.Name y py] (.ListComp elt [⟨tg, iter, ifs, 0⟩, ⟨tg1, iter1, ifs1, 0⟩] scope pos) spos) (tS X.K n fx T (sSet (eO n fx) i (mFLV (mLc2C (pO n) (own.map (·.2)) vs1 tt tt1 mi mt mi1 mt1 me)))) := by
  refine psImp (ps_setLc2 (vs1 := vs1) hc hN hy hyl hsw hi ok (fun i h => by have := List.all_eq_true.mp hv i h; simpa using this) hg ht hi1 hg1 ht1 he hs hs1) (tAsg_set fun σ H Q h => ?_)
  obtain ⟨Hs, U, st, l, st', hR, hm, k⟩ := tF_OV σ H Q h
  exact tLc2_core (fun _ _ _ h => h) (fun _ _ _ _ h => h) (fun _ _ _ h => h) (fun _ _ _ h => h) (fun _ _ _ _ h => h) (fun _ _ _ h => h) (fun _ _ _ h => h) hR hm k
end
/-! ### star in displays and calls -/
def mStar {S : Type} (m : M S PV) (ms : M S (List PV)) : M S (List PV) := bnd m fun x => bnd (lft (items x)) fun l => bnd ms fun l2 => L3.ret (l ++ l2)
theorem a_star {e : Expr} {es : List Expr} {p : Pos} {me : M S PV} {ms : M S (List PV)} (ha : PE X e (tG md me)) (hr : PA X es (tGA md ms)) (hs : starEach (.Starred e p :: es) X.env = (true, eval e X.env) :: starEach es X.env := by rfl) : PA X (.Starred e p :: es) (tGA md (mStar me ms)) := by
  refine paImp (StX.pa_star ha hr hs) fun σ H Q ⟨Hs, U, st, lz, st', hR, hm, k⟩ => ?_
  refine tG_seq hR hm fun x st1 v Hs1 U1 H1 e1 e2 r1 s1 p1 => ?_
  obtain ⟨l, st2, e3, e4⟩ := bnd_some e2
  obtain ⟨e5, rfl⟩ := lft_some e3
  obtain ⟨l2, st3, e6, e7⟩ := bnd_some e4
  obtain ⟨rfl, rfl⟩ := ret_some e7
  have key : ∃ q xs, v = V.ref q ∧ (SqT X.K H1 q xs ∨ SqL X.K H1 q xs) ∧ Reps X.K Hs1 l xs := by
    unfold items at e5
    split at e5
    · cases e5
      obtain ⟨a, xs, rfl, s, r⟩ := rep_lst p1
      exact ⟨a, xs, rfl, .inr (.inl (sb_rd (md.sub r1) s)), r⟩
    · cases e5
      obtain ⟨a, xs, rfl, s, r⟩ := rep_tup p1
      exact ⟨a, xs, rfl, .inl (sqT_mono (md.sub r1).same s), r⟩
    · cases e5
  obtain ⟨q, xs, rfl, hq, r⟩ := key
  exact ⟨q, xs, rfl, hq, Hs1, U1, _, _, _, r1, e6, fun vs Hs2 U2 H2 r2 s2 p2 => k _ Hs2 U2 H2 r2 (s1.trans s2) (Reps.app (Reps.mono s2.hs l xs r) p2)⟩
end
end L7

set_option Elab.async false
set_option linter.all false
set_option maxRecDepth 100000
namespace HT
open PySem PySem.Spec PyProof.Rows PySem.W
section
variable {prog : Program} {w : World} {A : Around} {E : Value → Shared → Prop} {s : Shared}
theorem adjust_rev (n : Nat) : Builtin.Slice.sliceAdjust none none (-1) (n : Int) = ((n : Int) - 1, -1) := rfl
theorem places_rev (n : Nat) : Builtin.Slice.slicePlaces ((n : Int) - 1) (-1) (-1) = n := by
  unfold Builtin.Slice.slicePlaces
  rw [if_neg (by decide)]
  by_cases h : (n : Int) - 1 > -1
  · rw [if_pos h, show (- -1 : Int) = 1 from rfl, Int.ediv_one]; omega
  · rw [if_neg h]; omega
theorem sliceApplied_rev {sl : Addr} {vs : Value} {n : Nat} {Q : Int × Int × Nat → Shared → Prop} (hs : s.heap.IsSliceOf sl .none .none vs) (ps : IsPart vs (some (-1)))
    (h : Q ((n : Int) - 1, -1, n) s) : wpAny (model prog w) A (Builtin.Slice.sliceApplied (.ref sl) (pure (n : Int))) Q E s := by
  obtain ⟨os, hos, hcs, hds⟩ := id hs
  unfold Builtin.Slice.sliceApplied Builtin.Slice.sliceFields
  refine wpAny_bind (wpAny_bind (wpAny_field hos hds (x := .none) rfl (wpAny_bind (wpAny_field hos hds (x := .none) rfl (wpAny_bind (wpAny_field hos hds (x := vs) rfl (wpAny_bind (wpAny_pure ?_))))))))
  refine wpAny_pure ?_
  refine wpAny_bind (slicePart_ ps ?_)
  show wpAny _ _ (if ((-1 : Int) == 0) = true then _ else _) _ _ s
  rw [if_neg (by decide)]
  refine wpAny_bind (slicePart_none (wpAny_bind (slicePart_none (wpAny_bind (wpAny_pure ?_)))))
  show wpAny _ _ (match Builtin.Slice.sliceAdjust none none (-1) (n : Int) with | (lo, hi) => pure (lo, (-1 : Int), Builtin.Slice.slicePlaces lo hi (-1))) _ _ s
  rw [adjust_rev n]
  show wpAny _ _ (pure ((n : Int) - 1, (-1 : Int), Builtin.Slice.slicePlaces ((n : Int) - 1) (-1) (-1))) _ _ s
  rw [places_rev]
  exact wpAny_pure h
theorem fm_congr {α β : Type} {f g : α → Option β} : ∀ {l : List α}, (∀ a ∈ l, f a = g a) → l.filterMap f = l.filterMap g
  | [], _ => rfl
  | a :: l, h => by
    rw [List.filterMap_cons, List.filterMap_cons, h a List.mem_cons_self, fm_congr fun b hb => h b (List.mem_cons_of_mem _ hb)]
theorem pick_rev (xs : Array Value) : ((List.range xs.size).filterMap fun (m : Nat) => xs[(((xs.size : Int) - 1) + (m : Int) * (-1)).toNat]?).toArray = xs.toList.reverse.toArray := by
  rw [← krv_pick]
  unfold slicePick
  rw [krv_bounds]
  show _ = ((sliceRange ((xs.size : Int) - 1) (-1) (-1)).filterMap (xs[·]?)).toArray
  rw [krv_sliceRange, List.filterMap_map]
  congr 1
  apply fm_congr
  intro m hm
  have := List.mem_range.mp hm
  show _ = xs[xs.size - 1 - m]?
  congr 1
  omega
theorem getItem_tuple_rev {t sl : Addr} {items : Array Value} {vs : Value} {Q : Value → Shared → Prop} (ht : IsTup s.heap t items) (hs : s.heap.IsSliceOf sl .none .none vs) (ps : IsPart vs (some (-1)))
    (h : Q (.ref s.heap.objs.size) { s with heap := s.heap.push { cls := .type "tuple", data := .seq items.toList.reverse.toArray } })
    (hsz : items.size ≤ sizeLine) : wpAny (model prog w) A (getItem (.ref t) (.ref sl)) Q E s := by
  have htake : sizeOk (.seq items.toList.reverse.toArray) := by
    show items.toList.reverse.toArray.size ≤ sizeLine
    rw [List.size_toArray, List.length_reverse, Array.length_toList]
    exact hsz
  obtain ⟨os, hos, hcs, hds⟩ := id hs
  have hTs : s.TypeIs (.ref sl) "slice" := ⟨os, hos, hcs⟩
  unfold getItem
  try with_reducible refine wpAny_holding ?_
  first | refine wpAny_bind (wpAny_pure ?_) | skip
  refine wpAny_bind (wpAny_sequenceKey ht.typeIs (by decide) ?_)
  refine wpAny_bind (wpAny_callSpecial?_slot (name := Str.ofString "__getitem__") ht.typeIs PyProof.Rows.slot_tuple_getitem
    (wpAny_call_entry PyProof.Rows.slot_tuple_getitem ht.typeIs entry_tuple_getitem ?_ (args_tuple_getitem _ _)))
  show wpAny _ _ (Builtin.Tuple.tupleItemsOf (.ref t) >>= _) _ _ s
  refine wpAny_bind (tupleItemsOf_ ht ?_)
  refine wpAny_bind (wpAny_typeOf hTs ?_)
  rw [if_pos (by decide)]
  refine wpAny_bind (sliceApplied_rev hs ps ?_)
  have hno : ¬ ((((items.size : Int) - 1) == 0 && (-1 : Int) == 1 && items.size == items.size) = true) := by
    intro q
    rw [Bool.and_eq_true, Bool.and_eq_true] at q
    exact absurd q.1.2 (by decide)
  show wpAny _ _ (if (((items.size : Int) - 1) == 0 && (-1 : Int) == 1 && items.size == items.size) = true then _ else _) _ _ s
  rw [if_neg hno, pick_rev]
  first
    | exact wpAny_bind (m := Builtin.Tuple.tupleExact _) (wpAny_newObj_type (wpAny_pure ⟨_, rfl, wpAny_pure h⟩) htake)
    | exact wpAny_bind (m := Builtin.Tuple.tupleExact _) (wpAny_newObj_type (wpAny_bind (wpAny_pure (wpAny_pure ⟨_, rfl, wpAny_pure h⟩))) htake)
    | exact wpAny_bind (wpAny_bind (m := Builtin.Tuple.tupleExact _) (wpAny_newObj_type (wpAny_pure (wpAny_pure ⟨_, rfl, wpAny_pure h⟩)) htake))
    | exact wpAny_bind (wpAny_bind (m := Builtin.Tuple.tupleExact _) (wpAny_newObj_type (wpAny_pure ⟨_, rfl, wpAny_pure h⟩) htake))
end
end HT
namespace L9
open PySem PySem.Spec
open PyProof.Rows hiding St
open L2 L3
/-! ### xs[::-1] -/
def tRevA (K : PySem.W.Frag) (te : TE) : TE := fun σ H Q => te σ H fun x H1 => ∃ a xs, x = .ref a ∧ ((SqL K H1 a xs ∧ ∀ p, H1 p = none → Q (.ref p) (upd H1 p (.lst xs.reverse))) ∨ (SqT K H1 a xs ∧ ∀ p, H1 p = none → Q (.ref p) (upd H1 p (.tup xs.reverse))))
theorem pe_revA {X : Cx} {e : Expr} {te : TE} {k : Nat} {p1 p2 p3 pos : Pos} (he : PE X e te) : PE X (.Subscript e (.Slice none none (some (.UnaryOp .USub (.Constant (.int 1) k p1) p2)) p3) pos) (tRevA X.K te) := by
  refine ⟨fun pins s σ H Q I h => ?_⟩
  refine Subscript_ (thn (he.run pins s σ H _ I h) fun v s1 ⟨x, H1, I1, r1, q1⟩ => ?_)
  obtain ⟨a, xs, ex, q1⟩ := q1
  subst ex
  cases r1
  have hst : PO X (some (.UnaryOp .USub (.Constant (.int 1) k p1) p2)) (tPart (tUn (rU fun i => .int (-i)) (tC (.int 1)))) := po_some (pe_un un_neg pe_int)
  refine wpAny_Slice (thn (po_none.run pins s1 σ H1 (fun o H2 => o = none ∧ H2 = H1) I1 ⟨rfl, rfl⟩) fun vl s2 ⟨l, H2, I2, pl, el, e2⟩ => ?_)
  subst el e2
  refine thn (po_none.run pins s2 σ H2 (fun o H3 => o = none ∧ H3 = H2) I2 ⟨rfl, rfl⟩) fun vu s3 ⟨u, H3, I3, pu, eu, e3⟩ => ?_
  subst eu e3
  refine thn (hst.run pins s3 σ H3 (fun o H4 => o = some (-1) ∧ H4 = H3) I3 ⟨1, rfl, -1, rfl, rfl, rfl⟩) fun vs s4 ⟨o, H4, I4, ps, eo, e4⟩ => ?_
  subst eo e4
  have I5 : Inv X pins σ H4 { s4 with heap := s4.heap.push { cls := .type "slice", data := .fields #[vl, vu, vs] } } := I4.kept (t' := s4.toks) fun b ob q => Heap.get?_push_of_some _ q
  show wpAny (model X.prog X.w) X.A (subscriptTail e (.Slice none none (some (.UnaryOp .USub (.Constant (.int 1) k p1) p2)) p3) (.ref a) (.ref s4.heap.objs.size)) (EP X pins σ Q) X.xe { s4 with heap := s4.heap.push { cls := .type "slice", data := .fields #[vl, vu, vs] } }
  rcases q1 with ⟨hx, q⟩ | ⟨hx, q⟩
  · obtain ⟨its, r, ht, hz⟩ := I5.list hx
    have hlen := r.length
    refine tail_any (ops := [.ref a, .ref s4.heap.objs.size]) ht.isList.typeIs (PySem.slot_list_getitem.lookup) ?_ (by with_unfolding_all rfl)
    refine wpAny_getItem_list_slice ht.isList (Heap.IsSliceOf.new _ vl vu vs) pl pu ps (by decide) ?_ (by rw [List.size_toArray]; omega)
    rw [PySem.W.krv_pick]
    refine ⟨.ref _, _, I5.laid (t' := s4.toks) (o := .lst xs.reverse) (fun b ob q => Heap.get?_push_of_some _ q) (Nat.le_refl _) ?_, rfl, q _ (I5.hok.fresh (Nat.le_refl _))⟩
    exact ⟨by rw [List.length_reverse]; exact hz, _, 0, r.reverse, Heap.get?_push_size _ rfl⟩
  · obtain ⟨its, r, ht, hz⟩ := I5.tuple hx
    have hlen : its.toArray.size = xs.length := by rw [List.size_toArray]; exact r.length.symm
    cases pl
    cases pu
    refine tail_any (ops := [.ref a, .ref s4.heap.objs.size]) ht.typeIs (PyProof.Rows.slot_tuple_getitem.lookup) ?_ (by with_unfolding_all rfl)
    refine HT.getItem_tuple_rev ht (Heap.IsSliceOf.new _ .none .none vs) ps ?_ (by rw [hlen]; exact hz)
    refine ⟨.ref _, _, I5.laid (t' := s4.toks) (o := .tup xs.reverse) (fun b ob q => Heap.get?_push_of_some _ q) (Nat.le_refl _) ?_, rfl, q _ (I5.hok.fresh (Nat.le_refl _))⟩
    exact ⟨by rw [List.length_reverse]; exact hz, _, r.reverse, IsTup.new _ _⟩
def fRev : PV → Option PV
  | .list l => some (.list l.reverse)
  | .tuple l => some (.tuple l.reverse)
  | _ => none
theorem Reps.rev {K : Fg} {H : Hp} : ∀ {l : List PV} {xs : List V}, Reps K H l xs → Reps K H l.reverse xs.reverse
  | [], xs, h => by
    simp only [L3.Reps] at h
    subst h
    simp [L3.Reps]
  | p :: l, xs, h => by
    simp only [L3.Reps] at h
    obtain ⟨x, r, rfl, h1, h2⟩ := h
    simp only [List.reverse_cons]
    exact L3.Reps.app (Reps.rev h2) (.one h1)
section
variable {S : Type} {X : Cx} {o : Ops S} {md : Md X.K o} {e : Expr} {ma : M S PV}
theorem g_rev {k : Nat} {p1 p2 p3 pos : Pos} (ha : PE X e (tG md ma)) : PE X (.Subscript e (.Slice none none (some (.UnaryOp .USub (.Constant (.int 1) k p1) p2)) p3) pos) (tG md (mUn fRev ma)) := by
  refine peImp (pe_revA ha) fun σ H Q ⟨Hs, U, st, pv, st', hR, hm, k⟩ => ?_
  refine tG_seq hR hm fun x st1 v Hs1 U1 H1 e1 e2 r1 s1 p1 => ?_
  obtain ⟨e5, e6⟩ := lft_some e2
  subst e6
  have sb := md.sub r1
  unfold fRev at e5
  split at e5
  · cases e5
    obtain ⟨a, xs, rfl, s, r⟩ := rep_lst p1
    exact ⟨a, xs, rfl, .inl ⟨.inl (sb_rd sb s), new_lst sb (Reps.rev r) fun u Hs' H' s3 p3 => k _ _ _ _ (md.grow r1 s3) (s1.trans (s3.st.lift U1)) p3⟩⟩
  · cases e5
    obtain ⟨a, xs, rfl, s, r⟩ := rep_tup p1
    exact ⟨a, xs, rfl, .inr ⟨sqT_mono sb.same s, new_tup (z := .none) sb (Reps.rev r) fun u Hs' H' s3 p3 => k _ _ _ _ (md.grow r1 s3) (s1.trans (s3.st.lift U1)) p3⟩⟩
  · cases e5
end
end L9

set_option Elab.async false
set_option linter.all false
set_option maxRecDepth 100000
namespace L9
open PySem PySem.Spec
open PyProof.Rows hiding St
open L2 L3
/-! ### str(int), repr(int) -/
def fStr : List PV → Option PV
  | [.int i] => if i.natAbs.log2 < 1920 then some (.str (toString i)) else none
  | _ => none
theorem ad_str {K : Fg} : ClA K (fun xs H Q => ∃ i, xs = [.int i] ∧ i.natAbs.log2 < 1920 ∧ Q (.str (toString i)) H) fStr := by
  intro Hs H l z vs Q e r sb k
  unfold fStr at e
  split at e
  · split at e
    · rename_i hl
      cases e
      obtain ⟨v, rfl, h⟩ := reps1 r
      exact ⟨_, by rw [rep_int h], hl, k _ Hs H (.refl sb) mk_str⟩
    · cases e
  · cases e
/-! ### x in xs -/
def flatP : PV → Bool
  | .none => true
  | .bool _ => true
  | .int _ => true
  | .str _ => true
  | _ => false
def eqP : PV → PV → Bool
  | .none, .none => true
  | .bool a, .bool b => a == b
  | .bool a, .int b => (if a then 1 else 0) == b
  | .int a, .bool b => a == (if b then 1 else 0)
  | .int a, .int b => a == b
  | .str a, .str b => a == b
  | _, _ => false
def hasP (x : PV) (l : List PV) : Option Bool := if (flatP x && l.all flatP) = true then some (l.any fun y => eqP y x) else none
/-- is it in the sequence? -/
def inB (x : PV) : PV → Option Bool
  | .tuple l => hasP x l
  | .list l => if (flatP x && l.all flatP) = true then some (l.any fun y => eqP y x) else if (SeqAt.shaped x && SeqAt.shaped (.list l)) = true then some (l.any fun y => PyData.eqv y x) else none
  | _ => none
def fIn (x y : PV) : Option PV := (inB x y).map PyData.bool
def fNotIn (x y : PV) : Option PV := (inB x y).map fun b => .bool (!b)
theorem bf_in : BoolF fIn := fun x y z h => by
  unfold fIn at h
  cases e : inB x y with
  | none => rw [e] at h; cases h
  | some b => rw [e] at h; cases h; exact ⟨_, rfl⟩
theorem bf_notin : BoolF fNotIn := fun x y z h => by
  unfold fNotIn at h
  cases e : inB x y with
  | none => rw [e] at h; cases h
  | some b => rw [e] at h; cases h; exact ⟨_, rfl⟩
section
variable {K : Fg}
theorem flat_rep {H : Hp} {x : PV} {v : V} (h : Rep K H x v) (f : flatP x = true) : flatV v = true := by
  cases x with
  | none => rw [rep_none h]; rfl
  | bool b => rw [rep_bool h]; rfl
  | int b => rw [rep_int h]; rfl
  | str b => rw [rep_str h]; rfl
  | tuple l => cases f
  | list l => cases f
  | dict l => cases f
theorem eq_rep {H : Hp} {x y : PV} {v w : V} (h : Rep K H x v) (h2 : Rep K H y w) (f : flatP x = true) (f2 : flatP y = true) : eqV v w = eqP x y := by
  cases x <;> first | cases f | skip
  all_goals cases y <;> first | cases f2 | skip
  all_goals simp only [Rep] at h h2
  all_goals subst h
  all_goals subst h2
  all_goals rfl
theorem all_rep {H : Hp} : ∀ {l : List PV} {xs : List V}, Reps K H l xs → l.all flatP = true → xs.all flatV = true
  | [], xs, h, _ => by simp only [Reps] at h; subst h; rfl
  | p :: l, xs, h, f => by
    simp only [Reps] at h
    obtain ⟨x, r, rfl, h1, h2⟩ := h
    simp only [List.all_cons, Bool.and_eq_true] at f ⊢
    exact ⟨flat_rep h1 f.1, all_rep h2 f.2⟩
theorem any_rep {H : Hp} {y : PV} {w : V} (hy : Rep K H y w) (fy : flatP y = true) : ∀ {l : List PV} {xs : List V}, Reps K H l xs → l.all flatP = true → inV w xs = l.any fun x => eqP x y
  | [], xs, h, _ => by simp only [Reps] at h; subst h; rfl
  | p :: l, xs, h, f => by
    simp only [Reps] at h
    obtain ⟨x, r, rfl, h1, h2⟩ := h
    simp only [List.all_cons, Bool.and_eq_true] at f
    have := any_rep hy fy h2 f.2
    unfold inV at this ⊢
    rw [List.any_cons, List.any_cons, this, eq_rep h1 hy f.1 fy]
theorem in_core {Hs H : Hp} {x y : PV} {b : Bool} {v w : V} (e : inB x y = some b) (rx : Rep K Hs x v) (ry : Rep K Hs y w) (sb : Sb Hs H) :
    (∃ p xs, w = .ref p ∧ (SqL K H p xs ∨ SqT K H p xs) ∧ flatV v = true ∧ xs.all flatV = true ∧ inV v xs = b) ∨ ∃ d ds, Dp K H v d ∧ Dp K H w (.list ds) ∧ SeqAt.shaped d = true ∧ SeqAt.shaped (.list ds) = true ∧ (ds.any fun z => PyData.eqv z d) = b := by
  unfold inB at e
  split at e
  · unfold hasP at e
    split at e
    · rename_i c
      cases e
      rw [Bool.and_eq_true] at c
      obtain ⟨a, xs, rfl, s, r⟩ := rep_tup ry
      exact .inl ⟨a, xs, rfl, .inr (sqT_mono sb.same s), flat_rep rx c.1, all_rep r c.2, any_rep rx c.1 r c.2⟩
    · cases e
  · split at e
    · rename_i c
      cases e
      rw [Bool.and_eq_true] at c
      obtain ⟨a, xs, rfl, s, r⟩ := rep_lst ry
      exact .inl ⟨a, xs, rfl, .inl (.inl (sb_rd sb s)), flat_rep rx c.1, all_rep r c.2, any_rep rx c.1 r c.2⟩
    · split at e
      · rename_i c
        cases e
        rw [Bool.and_eq_true] at c
        exact .inr ⟨x, _, rep_dp x v (Rep.mono sb.same x v rx) (SeqAt.canLay_of_shaped c.1), rep_dp _ w (Rep.mono sb.same _ w ry) (SeqAt.canLay_of_shaped c.2), c.1, c.2, rfl⟩
      · cases e
  · cases e
end
theorem u65 {k : Nat} {A : Around} (r : Room k A) : A.units + 65 < cLine := by have := r.un; omega
theorem u66 {k : Nat} {A : Around} (r : Room k A) : A.units + 66 < cLine := by have := r.un; omega
def rInA (K : Fg) : R2 := fun x y H Q => rIn K false x y H Q ∨ rInD K x y H Q
def rNotInA (K : Fg) : R2 := fun x y H Q => rIn K true x y H Q ∨ rNotInD K x y H Q
theorem op_inA {X : Cx} (hu : X.A.units + 65 < cLine) : OpR X (compareOp .In) (rInA X.K) := op_in_seq.or (op_inD hu)
theorem op_notInA {X : Cx} (hu : X.A.units + 65 < cLine) : OpR X (compareOp .NotIn) (rNotInA X.K) := op_notIn_seq.or (op_notInD hu)
theorem ad_in {K : Fg} : OpA K (rInA K) fIn := by
  intro Hs H x y z v w Q e rx ry sb k
  unfold fIn at e
  cases e2 : inB x y with
  | none => rw [e2] at e; cases e
  | some b =>
    rw [e2] at e
    cases e
    have hk := k _ Hs H (.refl sb) (mk_bool (i := b))
    rcases in_core e2 rx ry sb with ⟨p, xs, rfl, s, f1, f2, f3⟩ | ⟨d, ds, h1, h2, h3, h4, h5⟩
    · exact .inl ⟨p, xs, rfl, s, f1, f2, by simpa [f3] using hk⟩
    · exact .inr ⟨d, ds, h1, h2, h3, h4, by rw [h5]; exact hk⟩
theorem ad_notin {K : Fg} : OpA K (rNotInA K) fNotIn := by
  intro Hs H x y z v w Q e rx ry sb k
  unfold fNotIn at e
  cases e2 : inB x y with
  | none => rw [e2] at e; cases e
  | some b =>
    rw [e2] at e
    cases e
    have hk := k _ Hs H (.refl sb) (mk_bool (i := !b))
    rcases in_core e2 rx ry sb with ⟨p, xs, rfl, s, f1, f2, f3⟩ | ⟨d, ds, h1, h2, h3, h4, h5⟩
    · exact .inl ⟨p, xs, rfl, s, f1, f2, by simpa [f3] using hk⟩
    · exact .inr ⟨d, ds, h1, h2, h3, h4, by rw [h5]; exact hk⟩
end L9

set_option Elab.async false
set_option linter.all false
set_option maxRecDepth 100000
namespace L9
open PySem PySem.Spec
open PyProof.Rows hiding St
open L2 L3 L5 LamX
/-! ### a law's run from its caller, of which more is known than its room: no repr is under way -/
def RunAt (P : Program) (w : World) (K : PySem.W.Frag) (mg : Str → Option Value) (base : Heap) (CX : CXT) (A : Around) (f : Addr) (fd : FuncData) (ps : List Str) (sp : Sp) : Prop :=
  ∀ (outer : List Env) (s : Shared) (H : Hp) (args : Args) (us : List Value) (vs : List V) (Q : VK) (E : XK), Env0 P w K mg base A outer s H → BindsTo s fd args (ps.zip us) → Vals vs us → sp vs H Q E →
    codeAny (model P w) A (.call (.ref f) args) (CR CX outer P w H s Q E) s
theorem run_of {CX : CXT} {P : Program} {w : World} {K : PySem.W.Frag} {mg : Str → Option Value} {base : Heap} {A : Around} {k : Nat} {f : Addr} {name qual : Str} {params : Arguments} {body : List Stmt} {scope : Scope} {dV kV doc pm cdv ct oc : Value} {an od : Option Addr}
    {osl : Array (Option Value)} {N ps : List Str} {sp : Sp} (lk : K.lookup f = some ⟨oc, od, .func (PySem.W.fnOf name qual params body scope dV kV doc pm an cdv ct), osl⟩) (hcd : PySem.W.codeIn K cdv qual = true) (S : FnScope N ps scope)
    (len : ∀ vs H Q E, sp vs H Q E → vs.length = ps.length) (hr : Room (k + 1) A)
    (hbody : ∀ (outer : List Env) (s : Shared) (H : Hp) (vs : List V) (Q : VK) (E : XK), Room k (A.deeper (envOfC qual scope s.heap.objs.size f cdv)) → sp vs H Q E →
      ∃ t, PSs (cxOf CX P w K mg base N qual scope f cdv A outer s H E) body t ∧ t { nx := fun _ H' => Q .non H', rt := Q } (L2.start N vs) H) :
    RunAt P w K mg base CX A f (PySem.W.fnOf name qual params body scope dV kV doc pm an cdv ct) ps sp := by
  intro outer s H args us vs Q E e0 hb r hsp
  have keep : ∀ b o, base.get? b = some o → s.heap.get? b = some o := fun b o e => (e0.bs b o e).1
  refine codeAny_call_function hr.depth (e0.mod.kin.keeps keep _ _ lk) rfl S.co S.gen rfl (PySem.W.codeRec_of (e0.mod.kin.keeps keep) hcd) (hb _ _ _ _ ?_)
  refine wpAny_newFunctionEnv_cells S.kind (fun ⟨n, v⟩ hy => ?_) fun env he s1 x => ?_
  · cases S.par n (List.of_mem_zip hy).1 with
    | inl q => exact .inl q
    | inr q => exact .inr ⟨q, PySem.W.cellsFrom_some _ _ _ (.inl q)⟩
  subst he
  refine ⟨(e0.mod.nolimit.keeps keep).keeps x.toInCall.keep, codeAny_func ?_⟩
  obtain ⟨t, ht, hq⟩ := hbody outer s H vs Q E (hr.deeper _) hsp
  refine wpAny_mono (ht.run [] s1 (L2.start N vs) H _ (inv_start S hr.hd e0 (len _ _ _ _ hsp) r x) hq) (fun fl s' hs => ?_) fun e s' hs => hs
  cases fl with
  | ret u =>
    obtain ⟨v, σ', H', J, rv, q⟩ := hs
    exact ⟨v, H', J.os, J.bare, J.base, J.hok, rv, q⟩
  | next =>
    obtain ⟨σ', H', J, q⟩ := hs
    exact ⟨V.non, H', J.os, J.bare, J.base, J.hok, rfl, q⟩
  | brk => exact hs.elim fun _ ⟨_, _, q⟩ => q.elim
  | cont => exact hs.elim fun _ ⟨_, _, q⟩ => q.elim
section
variable {P : Program} {w : World} {K : PySem.W.Frag} {mg mb : Str → Option Value} {a : Addr} {T : List Addr} {s₁ : Shared} {vs : List Value} {ns : List Int}
/-- what is tracked when the law begins: the tables, and the script where it is not of the frame -/
def lawH (K : PySem.W.Frag) (a : Addr) (T : List Addr) (vs : List Value) (ns : List Int) : Hp := fun b =>
  if b ∈ T then some (.tbl #[]) else if b = a ∧ K.lookup a = none then some (.frz { cls := .type "list", data := .seq vs.toArray } (.lst (ns.map V.int))) else none
theorem lawH_some {b : Addr} {u : HO} (h : lawH K a T vs ns b = some u) : (b ∈ T ∧ u = .tbl #[]) ∨ (b ∉ T ∧ b = a ∧ K.lookup a = none ∧ u = .frz { cls := .type "list", data := .seq vs.toArray } (.lst (ns.map V.int))) := by
  unfold lawH at h
  by_cases hb : b ∈ T
  · rw [if_pos hb] at h
    exact .inl ⟨hb, (Option.some.inj h).symm⟩
  · rw [if_neg hb] at h
    by_cases hc : b = a ∧ K.lookup a = none
    · rw [if_pos hc] at h
      exact .inr ⟨hb, hc.1, hc.2, (Option.some.inj h).symm⟩
    · rw [if_neg hc] at h
      cases h
/-- a law called where no repr is under way -/
theorem callG {CX : CXT} {fa : Addr} {cs : List (Addr × Addr)} {fd : FuncData} {x : Str} {sp : Sp}
    (KX : K.In s₁.heap) (hns : s₁.heap.Ns mainGlobals mg) (hb : s₁.heap.Ns builtinsNs mb) (hbb : ∀ x : Str, x ≠ "__name__" → mb x = bootBuiltins x) (hlim : s₁.heap.NoLimit) (hg : s₁.gens = #[])
    (hT : ∀ p ∈ cs, s₁.heap.get? p.2 = some { cls := .none, data := .fields #[] }) (nT : ∀ p ∈ cs, K.lookup p.2 = none) (C : ∀ p ∈ cs, PySem.W.CodeHd s₁.heap p.1 p.2)
    (hbm : ∃ (bm : Addr) (ob : Obj), mg "__builtins__" = some (.ref bm) ∧ bm ≠ builtinsNs ∧ s₁.heap.get? bm = some ob ∧ ob.cls = .type "module" ∧ ob.dict = some builtinsNs ∧ ob.data = .plain)
    (ha : s₁.heap.get? a = some { cls := .type "list", data := .seq vs.toArray }) (hi : IntsAre vs ns) (hl : ns.length ≤ sizeLine)
    (F : ∀ base : Heap, K.In base → base.Ns mainGlobals mg → (∀ p ∈ cs, TabB base mg p.1 p.2) → RunAt P w K mg base CX callerA fa fd [x] sp) (hbind : ∀ (s : Shared) (u : Value), BindsTo s fd ⟨[u], []⟩ [(x, u)])
    (hsp : ∀ H : Hp, (∀ p ∈ cs, H p.2 = some (.tbl #[])) → SqL K H a (ns.map V.int) → sp [.ref a] H (fun v _ => v = .bl true) fun _ _ _ => False)
    (hCX : ∀ H e s', CX [] H s₁ (fun _ _ _ => False) e s' → False) :
    codeAny (model P w) callerA (.call (.ref fa) ⟨[.ref a], []⟩) (fun r s' => r = .ok (.ret (.bool true)) ∧ OldK s₁.heap s'.heap ∧ s'.os = s₁.os ∧ AllBare s'.gens) s₁ := by
  have rv := vals_ints hi
  have lenV := hi.length
  have mem : ∀ p ∈ cs, p.2 ∈ cs.map (·.2) := fun p hp => List.mem_map.mpr ⟨p, hp, rfl⟩
  have tab : ∀ b : Addr, b ∈ cs.map (·.2) → s₁.heap.get? b = some { cls := .none, data := .fields #[] } := fun b hb => by
    obtain ⟨p, hp, e⟩ := List.mem_map.mp hb
    rw [← e]
    exact hT p hp
  have notT : ∀ {b : Addr} {o : Obj}, s₁.heap.get? b = some o → o.data ≠ .fields #[] → b ∉ cs.map (·.2) := fun {b o} e hd z => by
    rw [tab b z] at e
    cases e
    exact hd rfl
  have aT : a ∉ cs.map (·.2) := notT ha (by intro z; cases z)
  have hH : ∀ p ∈ cs, lawH K a (cs.map (·.2)) vs ns p.2 = some (.tbl #[]) := fun p hp => if_pos (mem p hp)
  have free : ∀ {b : Addr} {o : Obj}, s₁.heap.get? b = some o → o.data ≠ .fields #[] → (∀ v n, o.data ≠ .seq v n) → lawH K a (cs.map (·.2)) vs ns b = none := fun {b o} e h1 h2 => by
    cases q : lawH K a (cs.map (·.2)) vs ns b with
    | none => rfl
    | some u =>
      rcases lawH_some q with ⟨z, _⟩ | ⟨_, z, _, _⟩
      · exact absurd z (notT e h1)
      · subst z
        rw [ha] at e
        cases e
        exact absurd rfl (h2 _ _)
  have kept : ∀ {b : Addr} {o : Obj}, s₁.heap.get? b = some o → lawH K a (cs.map (·.2)) vs ns b = none → (hidT s₁.heap (lawH K a (cs.map (·.2)) vs ns)).get? b = some o := fun e n => hidT_get e n
  have nsB : ∀ {b : Addr} {m : Str → Option Value}, s₁.heap.Ns b m → (hidT s₁.heap (lawH K a (cs.map (·.2)) vs ns)).Ns b m := fun {b m} ⟨o, es, ep, e, d, r⟩ =>
    ⟨o, es, ep, kept e (free e (by rw [d]; intro z; cases z) (by rw [d]; intro v n z; cases z)), d, r⟩
  have hKb : K.In (hidT s₁.heap (lawH K a (cs.map (·.2)) vs ns)) := fun b o e => kept (KX b o e) (by
    cases q : lawH K a (cs.map (·.2)) vs ns b with
    | none => rfl
    | some u =>
      rcases lawH_some q with ⟨z, _⟩ | ⟨_, z, z2, _⟩
      · obtain ⟨p, hp, ep⟩ := List.mem_map.mp z
        rw [← ep, nT p hp] at e
        cases e
      · rw [z, z2] at e
        cases e)
  have hM : L2.Mod K mg (hidT s₁.heap (lawH K a (cs.map (·.2)) vs ns)) := ⟨hKb, nsB hns, ⟨mb, nsB hb, hbb⟩, let ⟨mc, h1, h2⟩ := hlim; ⟨mc, nsB h1, h2⟩⟩
  have TB : ∀ p ∈ cs, TabB (hidT s₁.heap (lawH K a (cs.map (·.2)) vs ns)) mg p.1 p.2 := fun p hp => by
    refine ⟨?_, ?_, fun z => ?_⟩
    · obtain ⟨o, us, file, tf, flags, tg, inF, text, tt, e1, r1, r2, r3, r4, r5, r6, r7, r8, hne⟩ := C p hp
      refine ⟨o, us, file, tf, flags, tg, inF, text, tt, kept e1 (free e1 (fun z => ?_) fun v n z => ?_), r1, r2, r3, r4, r5, r6, r7, r8, hne⟩
      · rw [r2] at z; cases z; simp at r3
      · rw [r2] at z; cases z
    · obtain ⟨bm, ob, b1, b2, b3, b4, b5, b6⟩ := hbm
      refine ⟨bm, ob, b1, b2, fun q => ?_, fun q => ?_, kept b3 (free b3 (by rw [b6]; intro z; cases z) (by rw [b6]; intro v n z; cases z)), b4, b5, b6⟩
      · obtain ⟨o, es, ep, e, hd, _⟩ := hns
        rw [q, e] at b3
        cases b3
        rw [hd] at b6
        cases b6
      · rw [q, hT p hp] at b3
        cases b3
        cases b6
    · obtain ⟨o, es, ep, e, hd, _⟩ := hns
      rw [z, hT p hp] at e
      cases e
      cases hd
  have hS : SqL K (lawH K a (cs.map (·.2)) vs ns) a (ns.map V.int) := by
    cases hk : K.lookup a with
    | none =>
      refine .inl (.inr ⟨{ cls := .type "list", data := .seq vs.toArray }, ?_⟩)
      unfold lawH
      rw [if_neg aT, if_pos ⟨rfl, hk⟩]
    | some o =>
      have e := KX a o hk
      rw [ha] at e
      cases e
      exact .inr ⟨_, vs.toArray, _, hk, rfl, rfl, rfl, by rw [List.size_toArray, lenV]; exact hl, by simpa using rv⟩
  have hok : HOk P w (lawH K a (cs.map (·.2)) vs ns) s₁.heap := fun b u z => by
    rcases lawH_some z with ⟨q, rfl⟩ | ⟨_, rfl, _, rfl⟩
    · exact tab b q
    · exact ⟨ha, by rw [List.length_map]; exact hl, vs, _, rv, ha⟩
  have e0 : Env0 P w K mg (hidT s₁.heap (lawH K a (cs.map (·.2)) vs ns)) callerA [] s₁ (lawH K a (cs.map (·.2)) vs ns) := ⟨rfl, hM, fun b o e => of_hidT e, Nat.le_of_eq (hidT_size _ _), trivial, fun b hb => absurd (show b ∈ ([] : List Addr) from hb) (by simp), hok, .of_eq hg⟩
  refine codeAny_mono (F _ hKb (nsB hns) TB [] s₁ _ ⟨[.ref a], []⟩ [.ref a] [.ref a] _ _ e0 (hbind s₁ (.ref a)) (.cons rfl .nil) (hsp _ hH hS)) fun r s' h => ?_
  cases r with
  | error e => exact (hCX _ e s' h).elim
  | ok fl =>
    cases fl with
    | next => exact h.elim
    | brk => exact h.elim
    | cont => exact h.elim
    | ret u =>
      obtain ⟨v, H', os, bare, un, hok', r', q⟩ := h
      have q' : v = .bl true := q
      subst q'
      obtain rfl : u = Value.bool true := r'
      have stays : ∀ b o, b ∉ cs.map (·.2) → s₁.heap.get? b = some o → s'.heap.get? b = some o := fun b o nb e => by
        cases q : lawH K a (cs.map (·.2)) vs ns b with
        | none => exact un.keep b o e q (by intro z; exact absurd (show b ∈ ([] : List Addr) from z) (by simp)) (by simp)
        | some u =>
          rcases lawH_some q with ⟨z, _⟩ | ⟨_, _, _, rfl⟩
          · exact absurd z nb
          · obtain ⟨e1, _⟩ := hok b _ q
            obtain ⟨e2, _⟩ := hok' b _ (un.frzs b _ _ q)
            rw [e] at e1
            cases e1
            exact e2
      have grown : ∀ p ∈ cs, ∃ more : Array Value, s'.heap.get? p.2 = some { cls := .none, data := .fields more } := fun p hp => by
        obtain ⟨more, z⟩ := un.tbls p.2 #[] (hH p hp)
        exact ⟨_, hok' p.2 _ z⟩
      refine ⟨rfl, ⟨fun b o e => ?_, fun b o e => ?_⟩, os, bare⟩
      · by_cases hb : b ∈ cs.map (·.2)
        · obtain ⟨p, hp, ep⟩ := List.mem_map.mp hb
          obtain ⟨more, hm⟩ := grown p hp
          subst ep
          rw [hT p hp] at e
          cases e
          exact .inr (.inl ⟨((C p hp).tab (hT p hp)).isCodeTable, rfl, #[], more, rfl, by rw [Array.empty_append]; exact hm⟩)
        · exact .inl (stays b o hb e)
      · by_cases hb : b ∈ cs.map (·.2)
        · obtain ⟨p, hp, ep⟩ := List.mem_map.mp hb
          obtain ⟨more, hm⟩ := grown p hp
          subst ep
          exact ⟨_, hm⟩
        · exact ⟨o, stays b o hb e⟩
end
/-! ### the walk of a law that shows values -/
def LawAtG (l : PySem.W.OpenLaw) (w : World) (K : PySem.W.Frag) (CX : CXT) (n : Nat) (x : Str) (mg : Str → Option Value) (fa : Addr) (h : Heap) : Prop :=
  ∃ (fd : FuncData) (cs : List (Addr × Addr)) (sp : Sp), (∀ p ∈ cs, h.get? p.2 = some { cls := .none, data := .fields #[] }) ∧ (∀ p ∈ cs, K.lookup p.2 = none) ∧ (∀ p ∈ cs, PySem.W.CodeHd h p.1 p.2) ∧ (∀ (s : Shared) (u : Value), BindsTo s fd ⟨[u], []⟩ [(x, u)]) ∧
    (∀ (H : Hp) (a : Addr) (ns : List Int), ns.length ≤ n → (∀ p ∈ cs, H p.2 = some (.tbl #[])) → SqL K H a (ns.map V.int) → sp [.ref a] H (fun v _ => v = .bl true) fun _ _ _ => False) ∧
    ∀ base : Heap, K.In base → base.Ns mainGlobals mg → (∀ p ∈ cs, TabB base mg p.1 p.2) → RunAt l.prog w K mg base CX callerA fa fd [x] sp
theorem walk_allG {l : PySem.W.OpenLaw} {n : Nat} {q : Program} {loose : List Str} {XP : (Str → Option Value) → Heap → Prop} {YP : World → Heap → Prop} {d : DefRec} {K : Params → PySem.W.Frag} {CX : World → CXT} {x : Str}
    (hn : l.most = some n) (hn2 : n ≤ sizeLine) (hdf : d.params.defaults = []) (hY : ∀ (w : World) (h : Heap), YP w h → (K w.params).In h)
    (F : ∀ (w : World) (mg : Str → Option Value) (fa : Addr) (h : Heap), (K w.params).In h → h.Ns mainGlobals mg → mg d.name = some (.ref fa) → (∀ (y : Str) (fb : Addr), ((recsOf q).any fun e => e.name == y) = true → mg y = some (.ref fb) → LamX.OwnTab (K w.params) fb h) → LawAtG l w (K w.params) (CX w) n x mg fa h)
    (hCX : ∀ (w : World) (H : Hp) (s : Shared) (e : Value) (s' : Shared), CX w [] H s (fun _ _ _ => False) e s' → False) :
    PySem.W.WalkO q loose XP YP l.row.toRowW d [] (fun f vs => PySem.call f vs) := by
  refine Att.attach_callB hn hdf fun w s₀ s₁ mg mb fa o pm cd doc a vs ns G Y ho hd hcd hmg hobj hints hlen hbits hg => ?_
  have KX := hY w _ Y
  have own : ∀ (y : Str) (fb : Addr), ((recsOf q).any fun e => e.name == y) = true → mg y = some (.ref fb) → LamX.OwnTab (K w.params) fb s₁.heap := fun y fb hrec hmy c P o1 fd1 e dd vs1 sl k1 k2 k3 k4 k5 => by
    obtain ⟨dL, hm, hn1⟩ := List.any_eq_true.mp hrec
    have hn2 : dL.name = y := beq_iff_eq.mp hn1
    obtain ⟨a', o', fd', c', P', h1, h2, h3, h4, h5, h6⟩ := G.T.tab dL hm
    rw [hn2, hmy] at h1
    cases h1
    have g1 := KX _ _ k1
    rw [g1] at h2
    cases h2
    rw [k2] at h3
    cases h3
    rw [k3] at h4
    cases h4
    obtain ⟨⟨oc, vc, e1, _, e3, e4⟩, hP⟩ := h6
    have g2 := KX _ _ k4
    rw [g2] at e1
    cases e1
    cases e3
    rw [k5] at e4
    cases e4
    exact hP
  obtain ⟨fd, cs, sp, hT, nT, C, hb, hsp, hF⟩ := F w mg fa _ KX G.T.g hmg own
  exact callG KX G.T.g G.T.b G.T.builtins G.T.nolimit hg hT nT C G.T.bmain hobj hints (Nat.le_trans hlen hn2) hF hb (fun H hH hS => hsp H a ns hlen hH hS) fun H e s' => hCX w H s₁ e s'
theorem law_atG {l : PySem.W.OpenLaw} {w : World} {K : PySem.W.Frag} {n : Nat} {mg : Str → Option Value} {fa : Addr} {h : Heap} {fd : FuncData} (cs : List (Addr × Addr)) (hn : n ≤ 63) (X : K.In h)
    (hT : ∀ p ∈ cs, h.get? p.2 = some { cls := .none, data := .fields #[] }) (nT : ∀ p ∈ cs, K.lookup p.2 = none) (hC : ∀ p ∈ cs, PySem.W.codeHdIn K p.1 p.2 = true) (hb : ∀ (s : Shared) (v : Value), BindsTo s fd ⟨[v], []⟩ [("script", v)])
    (hF : ∀ base : Heap, K.In base → base.Ns mainGlobals mg → (∀ p ∈ cs, GxR.TabB base mg p.1 p.2) → RunAt l.prog w K mg base CX0 callerA fa fd ["script"] (spLaw K (cs.map (·.2)))) : LawAtG l w K CX0 n "script" mg fa h := by
  refine ⟨fd, cs, spLaw K (cs.map (·.2)), hT, nT, fun p hp => PySem.W.codeHd_of_K X (hC p hp), hb, fun H a ns hl hH hS => ⟨a, ns, rfl, hS, Nat.le_trans hl hn, fun P hP => ?_, fun H' => rfl⟩, fun base k1 k2 k3 => hF base k1 k2 fun p hp => let t := k3 p hp; ⟨t.code, t.bm, t.gP⟩⟩
  obtain ⟨p, hp, rfl⟩ := List.mem_map.mp hP
  exact ⟨#[], hH p hp, trivial, fun _ _ _ z => by cases z⟩
section
variable {P : Program} {w : World} {K : PySem.W.Frag} {mg : Str → Option Value} {base : Heap}
/-- the law itself -/
theorem run_law {qual : Str} {st : Stmt} {f : Addr} {fd : FuncData} {N : List Str} {k : Nat} {T : List Addr} {m : SM} {x : Str} (F : Fun K x qual st f fd) (S : FnScope N ["script"] (defScope st)) (hn : 2 ≤ N.length) (hk : Room (k + 1) callerA)
    (hm : ∀ ns : List Int, ns.length ≤ 63 → ∃ st', m (lawEnv N.length ns) = some (.rt (.p (.bool true)), st'))
    (hb : ∀ (cdv : Value), fd.code = cdv → ∀ (outer : List Env) (s : Shared) (H : Hp) (E : XK), Room k (callerA.deeper (envOfC qual (defScope st) s.heap.objs.size f cdv)) →
      PSs (cxOf CX0 P w K mg base N qual (defScope st) f cdv callerA outer s H E).nox (defBody st) (tSeq (tAsg (tCall (spPool K) [] E0 (tCons (tVar 0) tNil)) (gName 1)) (tS K N.length [] T m))) :
    RunAt P w K mg base CX0 callerA f fd ["script"] (spLaw K T) := by
  obtain ⟨oc, od, kV, doc, pm, an, cdv, ct, osl, rfl, lk, hcd⟩ := F.ex
  refine run_of lk hcd S (fun vs H Q E ⟨a, ns, e, _⟩ => by rw [e]; rfl) hk fun outer s H vs Q E hr ⟨a, ns, ev, hS, hl, tabs, hend⟩ => ⟨_, (hb cdv rfl outer s H E hr).nox, ?_⟩
  subst ev
  refine ⟨.ref a, by unfold L2.start; simp, a, ns, rfl, hS, hl, fun p q H' hp hq hpq ep eq sm => ?_⟩
  obtain ⟨st', e1⟩ := hm ns hl
  have hσ : (L2.start N [V.ref a]).set 1 (some (.ref p)) = some (.ref a) :: some (.ref p) :: List.replicate (N.length - 2) none := by
    unfold L2.start
    obtain ⟨m2, e2⟩ : ∃ m2, N.length - 1 = m2 + 1 := ⟨N.length - 2, by omega⟩
    have e3 : N.length - 2 = m2 := by omega
    simp only [List.map_cons, List.map_nil, List.length_cons, List.length_nil, Nat.zero_add, e2, e3, List.replicate_succ]
    rfl
  show (tS K N.length [] T m) _ ((L2.start N [V.ref a]).set 1 (some (.ref p))) H'
  rw [hσ]
  refine ⟨noT H, _, _, _, st', law_start hn tabs hp hq hpq ep eq sm, e1, ?_⟩
  intro σ' v F Hs' U' H'' _ _ _ o
  obtain ⟨o1, _, _⟩ := o
  simp only [OR] at o1
  rw [rep_bool o1.2]
  exact hend H''
end
end L9

set_option Elab.async false
set_option linter.all false
set_option maxRecDepth 100000
namespace L9
open PySem PySem.Spec
open PyProof.Rows hiding St
open L2 L3
/-! ### repr(value) -/
def rReprD (K : Fg) : List V → Hp → VK → Prop := fun xs H Q => ∃ (x : V) (d : PyData), xs = [x] ∧ ((Dp K H x d ∧ d.showable = true ∧ d.hasDict = false ∧ d.depth ≤ 64 ∧ d.shown.length ≤ sizeLine) ∨ (d = .dict [] ∧ ∃ a, x = .ref a ∧ H a = some (.dK []))) ∧ Q (.str d.shown) H
theorem cr_repr {X : Cx} (hg : X.A.guards = some []) (hu : X.A.units + 66 < cLine) : CallR X (.builtin "repr") (rReprD X.K) := by
  intro pins s σ H xs us Q I r h
  obtain ⟨x, d, rfl, hd, q⟩ := h
  obtain ⟨u, rfl, rx⟩ := vals1 r
  have fin : ∀ (v : V) (u' : Tok) (h' : Heap) (tk : Nat), v = .str d.shown → (∀ b o, s.heap.get? b = some o → h'.get? b = some o) → EP X pins σ Q (.str d.shown u') { heap := h', gens := s.gens, drawn := s.drawn, toks := tk, os := s.os } := fun v u' h' tk e hk => by
    subst e
    exact ⟨.str d.shown, H, I.kept (t' := tk) hk, ⟨u', rfl⟩, q⟩
  rcases hd with ⟨hd, hs, hn, hdep, hsz⟩ | ⟨rfl, a, rfl, ha⟩
  · obtain ⟨as, rd⟩ := Dp.reads I d x u hd rx
    have at_ref : ∀ a, u = .ref a → wpAny (model X.prog X.w) X.A (call (.builtin "repr") [u]) (EP X pins σ Q) X.xe s := fun a e => by
      subst e
      exact repr_of_reads' rd hs (fun z => by rw [hn] at z; cases z) hg (by omega) (fun _ _ e => e) (fun h' u' tk hk => fin _ u' h' tk rfl hk) hsz
    cases rd with
    | none => exact PySem.P.repr_of_none ⟨.str (PyData.shown .none), H, I.tok _, ⟨_, rfl⟩, q⟩
    | bool b => exact PySem.P.repr_of_bool ⟨.str (PyData.shown (.bool b)), H, I.tok _, ⟨_, by cases b <;> rfl⟩, q⟩
    | int i t => exact PySem.P.repr_of_int (of_decide_eq_true hs) ⟨.str (PyData.shown (.int i)), H, I.tok _, ⟨_, rfl⟩, q⟩
    | str z t => exact PySem.P.repr_of_str ⟨.str (PyData.shown (.str z)), H, I.tok _, ⟨_, rfl⟩, q⟩ hsz
    | list _ _ _ _ => exact at_ref _ rfl
    | tuple _ _ _ _ => exact at_ref _ rfl
    | dict _ _ _ _ _ => cases hn
  · obtain ⟨_, hsm, vs, kv, o, es, ep, ho, hx, hde, _, hp, _⟩ := dk_of I.hok ha
    cases rx
    cases kv
    have hes : es.toList = [] := by
      cases hz : es.toList with
      | nil => rfl
      | cons e l => rw [hz] at hp; cases hp
    have rd : Reads s.heap (.ref a) (.dict []) (a :: [] ++ []) := .dict ho hx.1 hde (by rw [hes]; exact .nil) (by rw [hes]; exact .nil)
    refine repr_of_reads' rd rfl (fun _ z => ?_) hg (by show X.A.units + (PyData.depth (.dict []) + 1) < cLine; have : PyData.depth (.dict []) ≤ 64 := by decide
                                                        omega) (fun _ _ e => e) (fun h' u' tk hk => fin _ u' h' tk rfl hk) (by decide)
    simp only [List.append_nil, List.mem_singleton] at z
    rw [← z] at hsm
    simp at hsm
def isD0 : PV → Bool
  | .dict [] => true
  | _ => false
def showOk (x : PV) : Bool := SeqAt.shaped x && x.showable && !x.hasDict && decide (x.shown.length ≤ 10000000)
def fRepr : List PV → Option PV
  | [x] => if (showOk x || isD0 x) = true then some (.str x.shown) else none
  | _ => none
theorem ad_repr {K : Fg} : ClA K (rReprD K) fRepr := by
  intro Hs H l z vs Q e r sb k
  unfold fRepr at e
  split at e
  · rename_i x
    split at e
    · rename_i c
      cases e
      obtain ⟨v, rfl, h⟩ := reps1 r
      refine ⟨v, x, rfl, ?_, k _ Hs H (.refl sb) mk_str⟩
      by_cases c1 : showOk x = true
      · left
        unfold showOk at c1
        simp only [Bool.and_eq_true, Bool.not_eq_true', decide_eq_true_eq] at c1
        exact ⟨rep_dp x v (Rep.mono sb.same x v h) (SeqAt.canLay_of_shaped c1.1.1.1), c1.1.1.2, c1.1.2, SeqAt.depth_of_shaped c1.1.1.1, Nat.le_trans c1.2 (by decide)⟩
      · right
        have c2 : isD0 x = true := by
          rw [Bool.or_eq_true] at c
          exact c.resolve_left c1
        have hx : x = .dict [] := by
          unfold isD0 at c2
          split at c2
          · rfl
          · cases c2
        subst hx
        refine ⟨rfl, ?_⟩
        have h2 := Rep.mono sb.same _ v h
        simp only [Rep] at h2
        obtain ⟨_, a, rfl, ha⟩ := h2
        exact ⟨a, rfl, ha⟩
    · cases e
  · cases e
/-! ### two texts -/
def fNeS (x y : PV) : Option PV := match x, y with
  | .str a, .str b => some (.bool (!decide (a = b)))
  | _, _ => none
theorem bf_neS : BoolF fNeS := fun x y z h => by
  unfold fNeS at h
  split at h
  · cases h; exact ⟨_, rfl⟩
  · cases h
theorem ad_neS {K : Fg} : OpA K rNe fNeS := by
  intro Hs H x y z v w Q e rx ry sb k
  unfold fNeS at e
  split at e
  · rename_i a b
    cases e
    rw [rep_str rx, rep_str ry]
    refine ⟨rfl, ?_⟩
    have : decide (V.str a = V.str b) = decide (a = b) := by
      rw [decide_eq_decide]
      exact ⟨fun h => by cases h; rfl, fun h => by rw [h]⟩
    rw [this]
    exact k _ Hs H (.refl sb) mk_bool
  · cases e
end L9

set_option Elab.async false
set_option linter.all false
set_option maxRecDepth 100000
set_option maxHeartbeats 4000000
namespace L9
open PySem PySem.Spec
open PyProof.Rows hiding St
open L2 L3
/-! ### zip of any two walks: each walk's step is a premise -/
structure Nxt (prog : Program) (w : World) (P : Heap → Nat → Prop) (Ls : Heap → Array Value → Prop) (i l : Addr) : Prop where
  ext : ∀ {h h' : Heap} {k : Nat}, P h k → (∀ o, h.get? i = some o → h'.get? i = some o) → P h' k
  lext : ∀ {h h' : Heap} {xs : Array Value}, Ls h xs → (∀ o, h.get? l = some o → h'.get? l = some o) → Ls h' xs
  lt : ∀ {h : Heap} {k : Nat}, P h k → i < h.objs.size
  cell : ∀ {h : Heap} {k : Nat}, P h k → ∃ o, h.get? i = some o ∧ ∀ v, o.data ≠ .cell v
  item : ∀ {A : Around} {E : Value → Shared → Prop} {s : Shared} {k : Nat} {xs : Array Value} {x : Value} {Q : Value → Shared → Prop}, P s.heap k → Ls s.heap xs → xs[k]? = some x →
    (∀ h', P h' (k + 1) → Heap.SameBut i s.heap h' → Q x { s with heap := h' }) → wpAny (model prog w) A (Builtin.SmallTypes.nextOf (.ref i)) Q E s
  stop : ∀ {A : Around} {E : Value → Shared → Prop} {s : Shared} {k : Nat} {xs : Array Value} {Q : Value → Shared → Prop}, A.handled = none → P s.heap k → Ls s.heap xs → xs[k]? = none →
    (∀ h' e, Heap.ExtBut i s.heap h' → (∃ o, h'.get? e = some o ∧ o.cls = .type "StopIteration") → E (.ref e) { s with heap := h' }) → wpAny (model prog w) A (Builtin.SmallTypes.nextOf (.ref i)) Q E s
theorem nxt_list {prog : Program} {w : World} {i l : Addr} : Nxt prog w (fun h k => h.IsListIter i l k) (fun h xs => h.IsList l xs) i l where
  ext := fun ⟨o, e, r⟩ k => ⟨o, k o e, r⟩
  lext := fun ⟨o, e, r⟩ k => ⟨o, k o e, r⟩
  lt := fun ⟨_, e, _⟩ => Heap.lt_size e
  cell := fun ⟨o, e, _, d⟩ => ⟨o, e, fun v q => by rw [d] at q; cases q⟩
  item := fun h1 h2 h3 q => wpAny_nextOf_list_item h1 h2 h3 q
  stop := fun h0 h1 h2 h3 q => wpAny_nextOf_list_end h0 h1 h2 h3 q
theorem nxt_tup {prog : Program} {w : World} {i l : Addr} : Nxt prog w (fun h k => h.IsTupleIter i l k) (fun h xs => h.IsTuple l xs) i l where
  ext := fun ⟨o, e, r⟩ k => ⟨o, k o e, r⟩
  lext := fun ⟨o, e, r⟩ k => ⟨o, k o e, r⟩
  lt := fun ⟨_, e, _⟩ => Heap.lt_size e
  cell := fun ⟨o, e, _, d⟩ => ⟨o, e, fun v q => by rw [d] at q; cases q⟩
  item := fun h1 h2 h3 q => RZ.nextOf_tuple_item h1 h2 h3 q
  stop := fun h0 h1 h2 h3 q => RZ.nextOf_tuple_end h0 h1 h2 h3 q
section
variable {prog : Program} {w : World} {A : Around} {s : Shared} {z TI TO i1 i2 l1 l2 : Addr} {P1 P2 : Heap → Nat → Prop} {L1 L2 : Heap → Array Value → Prop} {k1 k2 : Nat} {xs ys : Array Value} {x y a b : Value}
theorem zipG_item {E : Value → Shared → Prop} {Q : Value → Shared → Prop} (D : ZipApart z TI TO i1 i2 l1 l2) (N1 : Nxt prog w P1 L1 i1 l1) (N2 : Nxt prog w P2 L2 i2 l2)
    (hz : IsZip s.heap z TI TO .none) (hTI : IsPair s.heap TI (.ref i1) (.ref i2)) (hTO : IsPair s.heap TO a b)
    (h1 : P1 s.heap k1) (h2 : P2 s.heap k2) (hl1 : L1 s.heap xs) (hl2 : L2 s.heap ys) (hx : xs[k1]? = some x) (hy : ys[k2]? = some y)
    (hQ : ∀ h', IsZip h' z TI TO (rawInt s.heap.objs.size) → IsPair h' TO x y → P1 h' (k1 + 1) → P2 h' (k2 + 1) → IsPair h' s.heap.objs.size x y → h'.objs.size = s.heap.objs.size + 1 →
      (∀ c o, c ≠ z → c ≠ TO → c ≠ i1 → c ≠ i2 → s.heap.get? c = some o → h'.get? c = some o) → Q (.ref s.heap.objs.size) { s with heap := h' }) :
    wpAny (model prog w) A (Builtin.«zip.__next__» ⟨[.ref z], []⟩) (fun fin s' => ∃ v, fin = .done (.ret v) ∧ Q v s') E s := by
  show wpAny _ _ (field (.ref z) 2 >>= _) _ _ _
  refine wpAny_bind (wpAny_field hz rfl (x := .bool false) rfl ?_)
  show wpAny _ _ (field (.ref z) 3 >>= _) _ _ _
  refine wpAny_bind (wpAny_field hz rfl (x := .ref TI) rfl ?_)
  refine wpAny_bind (wpAny_seqItems hTI rfl ?_)
  show wpAny _ _ (Builtin.SmallTypes.ownedTupleIsFree (.ref z) >>= _) _ _ _
  refine wpAny_bind ?_
  unfold Builtin.SmallTypes.ownedTupleIsFree
  refine wpAny_bind (wpAny_field hz rfl (x := .none) rfl (wpAny_pure ?_))
  simp only [if_true]
  refine wpAny_bind (wpAny_rule ?_)
  refine wpAny_bind (wpAny_field hz rfl (x := .ref TO) rfl ?_)
  refine wpAny_bind (wpAny_setField_rec hz (by simp) fun ha hza hsa => ?_)
  replace hza : IsZip ha z TI TO .ellipsis := hza
  have ka := hsa.extBut
  refine wpAny_bind ?_
  simp only [List.zipIdx_cons, List.zipIdx_nil, List.forIn_cons, List.forIn_nil]
  refine wpAny_bind (wpAny_bind (wpAny_onRaise ?_))
  show wpAny _ _ (Builtin.SmallTypes.nextOf (.ref i1) >>= _) _ _ _
  refine wpAny_bind (N1.item (N1.ext h1 fun o => ka _ o D.i1z) (N1.lext hl1 fun o => ka _ o D.l1z) hx fun hb h1b hsb => wpAny_pure ?_)
  have kb := hsb.extBut
  have hTOb : IsPair hb TO a b := kb _ _ D.TOi1 (ka _ _ D.TOz hTO)
  refine wpAny_bind (wpAny_seqItems hTOb rfl ?_)
  refine wpAny_bind (wpAny_updateSeq_pair hTOb fun hc hTOc hsc => ?_)
  replace hTOc : IsPair hc TO x b := hTOc
  have kc := hsc.extBut
  refine wpAny_bind (wpAny_letGo (wpAny_pure ?_))
  refine wpAny_bind (wpAny_bind (wpAny_onRaise ?_))
  show wpAny _ _ (Builtin.SmallTypes.nextOf (.ref i2) >>= _) _ _ _
  refine wpAny_bind (N2.item (N2.ext h2 fun o e => kc _ o D.TOi2.symm (kb _ o D.i12.symm (ka _ o D.i2z e))) (N2.lext hl2 fun o e => kc _ o D.l2TO (kb _ o D.l2i1 (ka _ o D.l2z e))) hy fun hd h2d hsd => wpAny_pure ?_)
  have kd := hsd.extBut
  have hTOd : IsPair hd TO x b := kd _ _ D.TOi2 hTOc
  refine wpAny_bind (wpAny_seqItems hTOd rfl ?_)
  refine wpAny_bind (wpAny_updateSeq_pair hTOd fun he hTOe hse => ?_)
  replace hTOe : IsPair he TO x y := hTOe
  have ke := hse.extBut
  refine wpAny_bind (wpAny_letGo (wpAny_pure (wpAny_pure ?_)))
  refine wpAny_bind (wpAny_seqItems hTOe rfl ?_)
  refine wpAny_bind (wpAny_newTuple ?_)
  have size : he.objs.size = s.heap.objs.size := by rw [hse.1, hsd.1, hsc.1, hsb.1, hsa.1]
  have all : ∀ c o, c ≠ z → c ≠ TO → c ≠ i1 → c ≠ i2 → s.heap.get? c = some o → he.get? c = some o := fun c o c1 c2 c3 c4 e => ke _ _ c2 (kd _ _ c4 (kc _ _ c2 (kb _ _ c3 (ka _ _ c1 e))))
  have hze : IsZip he z TI TO .ellipsis := ke _ _ D.TOz.symm (kd _ _ D.i2z.symm (kc _ _ D.TOz.symm (kb _ _ D.i1z.symm hza)))
  have h1e : P1 he (k1 + 1) := N1.ext h1b fun o e => ke _ o D.TOi1.symm (kd _ o D.i12 (kc _ o D.TOi1.symm e))
  have h2e : P2 he (k2 + 1) := N2.ext h2d fun o e => ke _ o D.TOi2.symm e
  show wpAny _ _ (Builtin.SmallTypes.ownedTupleHandOut (.ref z) (.ref he.objs.size) >>= _) _ _ _
  refine wpAny_bind ?_
  unfold Builtin.SmallTypes.ownedTupleHandOut
  have hzf : IsZip (he.push { cls := .type "tuple", data := .seq #[x, y] }) z TI TO .ellipsis := Heap.get?_push_of_some _ hze
  refine wpAny_bind (wpAny_setField_rec hzf (by simp) fun hg hzg hsg => ?_)
  replace hzg : IsZip hg z TI TO (rawInt he.objs.size) := hzg
  refine wpAny_setField_rec hzg (by simp) fun hk hzk hsk => ?_
  replace hzk : IsZip hk z TI TO (rawInt he.objs.size) := hzk
  have up : ∀ c o, c ≠ z → he.get? c = some o → hk.get? c = some o := fun c o c1 e => hsk.extBut _ _ c1 (hsg.extBut _ _ c1 (Heap.get?_push_of_some _ e))
  have apart : he.objs.size ≠ z := Nat.ne_of_gt (Heap.lt_size hze)
  have hTk : IsPair hk he.objs.size x y := hsk.extBut _ _ apart (hsg.extBut _ _ apart (Heap.get?_push_size _ rfl))
  have sizek : hk.objs.size = he.objs.size + 1 := by rw [hsk.1, hsg.1, Heap.size_push]
  rw [size] at hzk hTk sizek
  refine wpAny_pure ⟨_, rfl, ?_⟩
  show Q (.ref he.objs.size) _
  rw [size]
  exact hQ hk hzk (up _ _ D.TOz hTOe) (N1.ext h1e fun o => up _ o D.i1z) (N2.ext h2e fun o => up _ o D.i2z) hTk sizek fun c o c1 c2 c3 c4 e => up c o c1 (all c o c1 c2 c3 c4 e)
theorem zipG_end {E : Value → Shared → Prop} {Q : Fin → Shared → Prop} (hh : A.handled = none) (D : ZipApart z TI TO i1 i2 l1 l2) (N1 : Nxt prog w P1 L1 i1 l1) (N2 : Nxt prog w P2 L2 i2 l2)
    (hz : IsZip s.heap z TI TO .none) (hTI : IsPair s.heap TI (.ref i1) (.ref i2)) (hTO : IsPair s.heap TO a b)
    (h1 : P1 s.heap k1) (h2 : P2 s.heap k2) (hl1 : L1 s.heap xs) (hl2 : L2 s.heap ys) (hend : xs[k1]? = none ∨ ys[k2]? = none)
    (hE : ∀ h' e, (∀ c o, c ≠ z → c ≠ TO → c ≠ i1 → c ≠ i2 → s.heap.get? c = some o → h'.get? c = some o) → (∃ o, h'.get? e = some o ∧ o.cls = .type "StopIteration") → E (.ref e) { s with heap := h' }) :
    wpAny (model prog w) A (Builtin.«zip.__next__» ⟨[.ref z], []⟩) Q E s := by
  have close : ∀ {h : Heap} {e : Addr}, IsZip h z TI TO .ellipsis → (∃ o, h.get? e = some o ∧ o.cls = .type "StopIteration") → e ≠ z := fun {h e} hz ⟨oe, hoe, hce⟩ q => by
    subst q
    rw [hz] at hoe
    cases hoe
    simp at hce
  show wpAny _ _ (field (.ref z) 2 >>= _) _ _ _
  refine wpAny_bind (wpAny_field hz rfl (x := .bool false) rfl ?_)
  show wpAny _ _ (field (.ref z) 3 >>= _) _ _ _
  refine wpAny_bind (wpAny_field hz rfl (x := .ref TI) rfl ?_)
  refine wpAny_bind (wpAny_seqItems hTI rfl ?_)
  show wpAny _ _ (Builtin.SmallTypes.ownedTupleIsFree (.ref z) >>= _) _ _ _
  refine wpAny_bind ?_
  unfold Builtin.SmallTypes.ownedTupleIsFree
  refine wpAny_bind (wpAny_field hz rfl (x := .none) rfl (wpAny_pure ?_))
  simp only [if_true]
  refine wpAny_bind (wpAny_rule ?_)
  refine wpAny_bind (wpAny_field hz rfl (x := .ref TO) rfl ?_)
  refine wpAny_bind (wpAny_setField_rec hz (by simp) fun ha hza hsa => ?_)
  replace hza : IsZip ha z TI TO .ellipsis := hza
  have ka := hsa.extBut
  refine wpAny_bind ?_
  simp only [List.zipIdx_cons, List.zipIdx_nil, List.forIn_cons, List.forIn_nil]
  refine wpAny_bind (wpAny_bind (wpAny_onRaise ?_))
  show wpAny _ _ (Builtin.SmallTypes.nextOf (.ref i1) >>= _) _ _ _
  have h1a : P1 ha k1 := N1.ext h1 fun o => ka _ o D.i1z
  have l1a : L1 ha xs := N1.lext hl1 fun o => ka _ o D.l1z
  cases hx : xs[k1]? with
  | none =>
    refine wpAny_bind (N1.stop hh h1a l1a hx fun hb e kb he => ?_)
    have hzb : IsZip hb z TI TO .ellipsis := kb _ _ D.i1z.symm hza
    have ez := close hzb he
    obtain ⟨oe, hoe, hce⟩ := he
    exact wpAny_setField_rec hzb (by simp) fun hf _ hsf => hE hf e (fun c o c1 _ c3 _ q => hsf.extBut _ _ c1 (kb _ _ c3 (ka _ _ c1 q))) ⟨oe, hsf.extBut _ _ ez hoe, hce⟩
  | some x =>
    have hy : ys[k2]? = none := hend.resolve_left (by rw [hx]; exact nofun)
    refine wpAny_bind (N1.item h1a l1a hx fun hb h1b hsb => wpAny_pure ?_)
    have kb := hsb.extBut
    have hTOb : IsPair hb TO a b := kb _ _ D.TOi1 (ka _ _ D.TOz hTO)
    refine wpAny_bind (wpAny_seqItems hTOb rfl ?_)
    refine wpAny_bind (wpAny_updateSeq_pair hTOb fun hc hTOc hsc => ?_)
    have kc := hsc.extBut
    refine wpAny_bind (wpAny_letGo (wpAny_pure ?_))
    refine wpAny_bind (wpAny_bind (wpAny_onRaise ?_))
    show wpAny _ _ (Builtin.SmallTypes.nextOf (.ref i2) >>= _) _ _ _
    refine wpAny_bind (N2.stop hh (N2.ext h2 fun o e => kc _ o D.TOi2.symm (kb _ o D.i12.symm (ka _ o D.i2z e))) (N2.lext hl2 fun o e => kc _ o D.l2TO (kb _ o D.l2i1 (ka _ o D.l2z e))) hy fun hd e kd he => ?_)
    have hzd : IsZip hd z TI TO .ellipsis := kd _ _ D.i2z.symm (kc _ _ D.TOz.symm (kb _ _ D.i1z.symm hza))
    have ez := close hzd he
    obtain ⟨oe, hoe, hce⟩ := he
    exact wpAny_setField_rec hzd (by simp) fun hf _ hsf => hE hf e (fun c o c1 c2 c3 c4 q => hsf.extBut _ _ c1 (kd _ _ c4 (kc _ _ c2 (kb _ _ c3 (ka _ _ c1 q))))) ⟨oe, hsf.extBut _ _ ez hoe, hce⟩
theorem nextG_item {E : Value → Shared → Prop} {Q : Option Value → Shared → Prop} (D : ZipApart z TI TO i1 i2 l1 l2) (N1 : Nxt prog w P1 L1 i1 l1) (N2 : Nxt prog w P2 L2 i2 l2)
    (hz : IsZip s.heap z TI TO .none) (hTI : IsPair s.heap TI (.ref i1) (.ref i2)) (hTO : IsPair s.heap TO a b)
    (h1 : P1 s.heap k1) (h2 : P2 s.heap k2) (hl1 : L1 s.heap xs) (hl2 : L2 s.heap ys) (hx : xs[k1]? = some x) (hy : ys[k2]? = some y)
    (hQ : ∀ h', IsZip h' z TI TO (rawInt s.heap.objs.size) → IsPair h' TO x y → P1 h' (k1 + 1) → P2 h' (k2 + 1) → IsPair h' s.heap.objs.size x y → h'.objs.size = s.heap.objs.size + 1 →
      (∀ c o, c ≠ z → c ≠ TO → c ≠ i1 → c ≠ i2 → s.heap.get? c = some o → h'.get? c = some o) → Q (some (.ref s.heap.objs.size)) { s with heap := h' }) :
    wpAny (model prog w) A (pyNext (.ref z)) Q E s := by
  have hT : s.TypeIs (.ref z) "zip" := ⟨_, hz, rfl⟩
  unfold pyNext
  exact wpAny_bind (wpAny_attempt (wpAny_callSpecial?_slot (name := Str.ofString "__next__") hT F.slot_zip_next
    (wpAny_call_entry F.slot_zip_next hT F.entry_zip_next (zipG_item D N1 N2 hz hTI hTO h1 h2 hl1 hl2 hx hy fun h' a1 a2 a3 a4 a5 a6 a7 => wpAny_pure (hQ h' a1 a2 a3 a4 a5 a6 a7)) (F.args_zip_next_1 _))))
theorem nextG_end {E : Value → Shared → Prop} {Q : Option Value → Shared → Prop} (hh : A.handled = none) (D : ZipApart z TI TO i1 i2 l1 l2) (N1 : Nxt prog w P1 L1 i1 l1) (N2 : Nxt prog w P2 L2 i2 l2)
    (hz : IsZip s.heap z TI TO .none) (hTI : IsPair s.heap TI (.ref i1) (.ref i2)) (hTO : IsPair s.heap TO a b)
    (h1 : P1 s.heap k1) (h2 : P2 s.heap k2) (hl1 : L1 s.heap xs) (hl2 : L2 s.heap ys) (hend : xs[k1]? = none ∨ ys[k2]? = none)
    (hQ : ∀ h', (∀ c o, c ≠ z → c ≠ TO → c ≠ i1 → c ≠ i2 → s.heap.get? c = some o → h'.get? c = some o) → Q none { s with heap := h' }) : wpAny (model prog w) A (pyNext (.ref z)) Q E s := by
  have hT : s.TypeIs (.ref z) "zip" := ⟨_, hz, rfl⟩
  unfold pyNext
  refine wpAny_bind (wpAny_attempt (wpAny_callSpecial?_slot (name := Str.ofString "__next__") hT F.slot_zip_next
    (wpAny_call_entry F.slot_zip_next hT F.entry_zip_next (zipG_end hh D N1 N2 hz hTI hTO h1 h2 hl1 hl2 hend fun h' e hk he => ?_) (F.args_zip_next_1 _))))
  obtain ⟨o, ho, hc⟩ := he
  exact wpAny_bind (wpAny_isInstance (T := "StopIteration") (b := true) ⟨o, ho, hc⟩ isSubtype_stop (wpAny_pure (hQ _ hk)))
end
/-! ### a tuple and a list -/
abbrev zA (h : Heap) (l1 : Addr) : Heap := h.push { cls := .type "tuple_iterator", data := .fields #[.ref l1, .int 0 0] }
abbrev zB (h : Heap) (l1 l2 : Addr) : Heap := (zA h l1).push { cls := .type "list_iterator", data := .fields #[.ref l2, .int 0 0] }
abbrev zC (h : Heap) (l1 l2 : Addr) : Heap := (zB h l1 l2).push { cls := .type "tuple", data := .seq #[.ref h.objs.size, .ref (zA h l1).objs.size] }
abbrev zD (h : Heap) (l1 l2 : Addr) : Heap := (zC h l1 l2).push { cls := .type "tuple", data := .seq #[.none, .none] }
abbrev zE (h : Heap) (l1 l2 : Addr) : Heap := (zD h l1 l2).push { cls := .type "zip", data := .fields #[.none, .bool false, .bool false, .ref (zB h l1 l2).objs.size, .ref (zC h l1 l2).objs.size] }
theorem meetsG (l1 l2 : Addr) (xs ys : Array Value) :
    Meets (Builtin.«zip.__new__» ⟨[.type "zip", .ref l1, .ref l2], []⟩) (fun _ R s => s.heap.IsTuple l1 xs ∧ s.heap.IsList l2 ys ∧
      R (.ok (.ret (.ref (zD s.heap l1 l2).objs.size))) { s with heap := zE s.heap l1 l2 }) :=
  .of_wp fun prog w A R s h => by
    obtain ⟨hp, g, d, tk, os⟩ := s
    obtain ⟨hl1, hl2, h⟩ := h
    have hsub := sub_zip
    have hL1 : Heap.IsTuple (Shared.heap ⟨hp, g, d, tk, os⟩) l1 xs := hl1
    have hL2 : Heap.IsList (Shared.heap ⟨hp.push { cls := .type "tuple_iterator", data := .fields #[.ref l1, .int 0 0] }, g, d, tk, os⟩) l2 ys := Heap.IsList.push hl2 _
    wp_walk using wpAny_pyIter_tuple hL1, wpAny_pyIter_list hL2
    exact ⟨_, rfl, h⟩
theorem call_zipG {prog : Program} {w : World} {A : Around} {E : Value → Shared → Prop} {s : Shared} {l1 l2 : Addr} {xs ys : Array Value} {Q : Value → Shared → Prop} (hl1 : s.heap.IsTuple l1 xs) (hl2 : s.heap.IsList l2 ys)
    (h : ∀ h', IsZip h' (s.heap.objs.size + 4) (s.heap.objs.size + 2) (s.heap.objs.size + 3) .none → IsPair h' (s.heap.objs.size + 2) (.ref s.heap.objs.size) (.ref (s.heap.objs.size + 1)) →
      IsPair h' (s.heap.objs.size + 3) .none .none → h'.IsTupleIter s.heap.objs.size l1 0 → h'.IsListIter (s.heap.objs.size + 1) l2 0 → (∀ c o, s.heap.get? c = some o → h'.get? c = some o) → Q (.ref (s.heap.objs.size + 4)) { s with heap := h' }) :
    wpAny (model prog w) A (call (.type "zip") [.ref l1, .ref l2]) Q E s := by
  refine callType_new F.called_zip (by decide) (F.typeCall_zip_2 _ _) (F.newCall_zip_2 _ _) (fun obj => F.args_object_init_3 obj _ _) F.entry_zip_new (meetsG l1 l2 xs ys) ⟨hl1, hl2, ?_⟩
  have e1 : (zA s.heap l1).objs.size = s.heap.objs.size + 1 := Heap.size_push ..
  have e2 : (zB s.heap l1 l2).objs.size = s.heap.objs.size + 2 := by rw [Heap.size_push, e1]
  have e3 : (zC s.heap l1 l2).objs.size = s.heap.objs.size + 3 := by rw [Heap.size_push, e2]
  have e4 : (zD s.heap l1 l2).objs.size = s.heap.objs.size + 4 := by rw [Heap.size_push, e3]
  have up : ∀ {h : Heap} {o' : Obj} {c : Addr} {o : Obj}, h.get? c = some o → (h.push o').get? c = some o := fun e => Heap.get?_push_of_some _ e
  have g5 : (zE s.heap l1 l2).get? (zD s.heap l1 l2).objs.size = some _ := Heap.get?_push_size _ rfl
  have g4 : (zE s.heap l1 l2).get? (zC s.heap l1 l2).objs.size = some _ := up (Heap.get?_push_size _ rfl)
  have g3 : (zE s.heap l1 l2).get? (zB s.heap l1 l2).objs.size = some _ := up (up (Heap.get?_push_size _ rfl))
  have g2 : (zE s.heap l1 l2).get? (zA s.heap l1).objs.size = some _ := up (up (up (Heap.get?_push_size _ rfl)))
  have g1 : (zE s.heap l1 l2).get? s.heap.objs.size = some _ := up (up (up (up (Heap.get?_push_size _ rfl))))
  show _ ∧ _
  rw [e2, e3, e4] at g5
  rw [e1, e2] at g3
  rw [e3] at g4
  rw [e1] at g2
  rw [e4]
  exact ⟨⟨_, g5, rfl⟩, h _ g5 g3 g4 ⟨_, g1, rfl, rfl⟩ ⟨_, g2, rfl, rfl⟩ fun c o e => up (up (up (up (up e))))⟩
/-- a tuple's and a list's items at each turn -/
def ItzM (K : Fg) (a b : Addr) : It :=
  ⟨fun i H => ∃ (xs ys : List V) (x y : V), SqT K H a xs ∧ SqL K H b ys ∧ xs[i]? = some x ∧ ys[i]? = some y,
    fun i H v H' => ∃ T x y, v = .ref T ∧ H T = none ∧ H' = upd H T (.tup [x, y]) ∧ (∀ xs, SqT K H a xs → xs[i]? = some x) ∧ ∀ ys, SqL K H b ys → ys[i]? = some y,
    fun i H => ∃ xs ys : List V, SqT K H a xs ∧ SqL K H b ys ∧ (xs.length ≤ i ∨ ys.length ≤ i)⟩
theorem turn_zipM {P : Program} {w : World} {K : Fg} {elts : List Expr} {kk : Nat} {tpos : Pos} {a b z TI TO i1 i2 : Addr} (D : ZipApart z TI TO i1 i2 a b) :
    Turn P w K (.Tuple elts kk tpos) (ItzM K a b) [z, TI, TO, i1, i2] z (fun i h => IsZip h z TI TO .none ∧ IsPair h TI (.ref i1) (.ref i2) ∧ (∃ x y, IsPair h TO x y) ∧ h.IsTupleIter i1 a i ∧ h.IsListIter i2 b i) where
  mem := by simp
  obj := fun i h ⟨hz, hTI, ⟨x, y, hTO⟩, h1, h2⟩ c hc => by
    have e' : c = z ∨ c = TI ∨ c = TO ∨ c = i1 ∨ c = i2 := by simpa using hc
    rcases e' with rfl | rfl | rfl | rfl | rfl
    · exact ⟨_, hz, nofun⟩
    · exact ⟨_, hTI, nofun⟩
    · exact ⟨_, hTO, nofun⟩
    · exact (nxt_tup (prog := P) (w := w)).cell h1
    · exact (nxt_list (prog := P) (w := w)).cell h2
  keep := fun i h h' ⟨hz, hTI, ⟨x, y, hTO⟩, h1, h2⟩ k => ⟨k z (by simp) _ hz, k TI (by simp) _ hTI, ⟨x, y, k TO (by simp) _ hTO⟩, (nxt_tup (prog := P) (w := w)).ext h1 fun o q => k i1 (by simp) o q, (nxt_list (prog := P) (w := w)).ext h2 fun o q => k i2 (by simp) o q⟩
  item := by
    intro X hP hw hK hc i pins s σ H E I hf st hg
    subst hP hw hK
    obtain ⟨hz, hTI, ⟨x0, y0, hTO⟩, h1, h2⟩ := st
    obtain ⟨xs, ys, x, y, hqx, hqy, hx, hy⟩ := hg
    obtain ⟨its, rv, p, _⟩ := I.tuple hqx
    obtain ⟨its2, rv2, p2, _⟩ := I.list hqy
    obtain ⟨u, hu, ru⟩ := rv.get hx
    obtain ⟨u2, hu2, ru2⟩ := rv2.get hy
    have hzl : z < s.heap.objs.size := Heap.lt_size hz
    refine nextG_item D nxt_tup nxt_list hz hTI hTO h1 h2 p p2.isList (x := u) (y := u2) (by simpa using hu) (by simpa using hu2) fun h' z' TO' h1' h2' hT hsz hk => ?_
    refine ⟨_, rfl, wpAny_letOwnedTupleGo_zip (s := { s with heap := h' }) z' fun h'' z'' sb => ?_⟩
    have hT2 : h''.get? s.heap.objs.size = some { cls := .type "tuple", data := .seq #[u, u2] } := (sb.2 _ (Nat.ne_of_gt hzl)).trans hT
    have new : ObjOk X.prog X.w (upd H s.heap.objs.size (.tup [x, y])) h'' s.heap.objs.size (.tup [x, y]) :=
      ⟨by show 2 ≤ sizeLine; decide, [u, u2], .cons ru (.cons ru2 .nil), ⟨_, hT2, rfl, _, rfl⟩⟩
    have I1 : Inv X pins σ (upd H s.heap.objs.size (.tup [x, y])) { s with heap := h'' } :=
      I.turnedNew (t' := s.toks) (ch := [z, TI, TO, i1, i2]) (fun c o hb q => (sb.2 c (fun q' => hb (by simp [q']))).trans (hk c o (fun q' => hb (by simp [q'])) (fun q' => hb (by simp [q'])) (fun q' => hb (by simp [q'])) (fun q' => hb (by simp [q'])) q)) hf (Nat.le_refl _) new
    refine ⟨.ref s.heap.objs.size, _, I1, rfl, ⟨_, x, y, rfl, I.hok.fresh (Nat.le_refl _), rfl, fun l hl => by rw [I.tuple_inj hl hqx]; exact hx, fun l hl => by rw [I.list_inj hl hqy]; exact hy⟩, ⟨z'', ?_, ⟨u, u2, ?_⟩, ?_, ?_⟩, fun c hcm => ?_⟩
    · exact (sb.2 _ D.TIz).trans (hk _ _ D.TIz D.TITO D.TIi1 D.TIi2 hTI)
    · exact (sb.2 _ D.TOz).trans TO'
    · exact (nxt_tup (prog := X.prog) (w := X.w)).ext h1' fun o q => (sb.2 _ D.i1z).trans q
    · exact (nxt_list (prog := X.prog) (w := X.w)).ext h2' fun o q => (sb.2 _ D.i2z).trans q
    · have hlt : c < s.heap.objs.size := by
        have e' : c = z ∨ c = TI ∨ c = TO ∨ c = i1 ∨ c = i2 := by simpa using hcm
        rcases e' with rfl | rfl | rfl | rfl | rfl
        · exact hzl
        · exact Heap.lt_size hTI
        · exact Heap.lt_size hTO
        · exact (nxt_tup (prog := X.prog) (w := X.w)).lt h1
        · exact (nxt_list (prog := X.prog) (w := X.w)).lt h2
      rw [upd_ne (Nat.ne_of_lt hlt)]
      exact (hf c hcm).1
  done := by
    intro X hP hw hK hc i pins s σ H E I hf st hg
    subst hP hw hK
    obtain ⟨hz, hTI, ⟨x0, y0, hTO⟩, h1, h2⟩ := st
    obtain ⟨xs, ys, hqx, hqy, hend⟩ := hg
    obtain ⟨its, rv, p, _⟩ := I.tuple hqx
    obtain ⟨its2, rv2, p2, _⟩ := I.list hqy
    have l1 := rv.length
    have l2 := rv2.length
    have he : its.toArray[i]? = none ∨ its2.toArray[i]? = none := hend.imp (fun q => by simp; omega) fun q => by simp; omega
    exact nextG_end (I.ok.hd hc) D nxt_tup nxt_list hz hTI hTO h1 h2 p p2.isList he fun h' hk => ⟨rfl, I.turnedL (t' := s.toks) (ch := [z, TI, TO, i1, i2]) (fun c o hb q =>
      hk c o (fun q' => hb (by simp [q'])) (fun q' => hb (by simp [q'])) (fun q' => hb (by simp [q'])) (fun q' => hb (by simp [q'])) q) hf⟩
  self := fun A i s Q E st h => wpAny_pyIter_zip st.1 h
def iZipB (K : Fg) (ta : TA) : TI := fun σ H R => ta σ H fun vs H1 => ∃ a b xs ys, vs = [.ref a, .ref b] ∧ ((SqL K H1 a xs ∧ SqL K H1 b ys ∧ R (Itz K a b) H1) ∨ (SqT K H1 a xs ∧ SqT K H1 b ys ∧ R (RZ.ItzT K a b) H1) ∨ (SqT K H1 a xs ∧ SqL K H1 b ys ∧ R (ItzM K a b) H1))
theorem pi_zipB {X : Cx} {e e2 : Expr} {ta : TA} {p pos tpos : Pos} {elts : List Expr} {kk : Nat} (hg : Gl X "zip") (hm : X.mg "zip" = none) (ha : PA X [e, e2] ta)
    (hs : starEach [e, e2] X.env = (false, eval e X.env) :: starEach [e2] X.env := by rfl) (hpl : (backTo pos (starEach [e2] X.env)).any (·.1) = false := by rfl) :
    PI X (.Tuple elts kk tpos) (.Call (.Name "zip" p) [e, e2] [] pos) (iZipB X.K ta) := by
  refine ⟨fun pins s σ H R I h => ?_⟩
  refine Call_ (ld_blt I hg hm PyProof.Rows.boot_zip (PyProof.Rows.callWith_type1 (thn (ha.run pos pins s σ H _ I h) fun us s1 ⟨vs, H1, I1, r1, q1⟩ => ?_) hs hpl))
  obtain ⟨a, b, xs, ys, ex, q1⟩ := q1
  subst ex
  obtain ⟨u, u', rfl, r, r'⟩ := vals2 r1
  cases r
  cases r'
  have fresh : ∀ c, c ∈ [s1.heap.objs.size + 4, s1.heap.objs.size + 2, s1.heap.objs.size + 3, s1.heap.objs.size, s1.heap.objs.size + 1] → FpOk X pins H1 c := fun c hcm => by
    have hle : s1.heap.objs.size ≤ c := by
      simp only [List.mem_cons, List.not_mem_nil, or_false] at hcm
      omega
    exact I1.fpOk hle (I1.hok.fresh hle)
  have kept : ∀ {h' : Heap}, (∀ c o, s1.heap.get? c = some o → h'.get? c = some o) → Inv X pins σ H1 { s1 with heap := h' } := fun hk => I1.kept (t' := s1.toks) hk
  rcases q1 with ⟨hqx, hqy, q⟩ | ⟨hqx, hqy, q⟩ | ⟨hqx, hqy, q⟩
  · obtain ⟨its, rv, p1, _⟩ := I1.list hqx
    obtain ⟨its2, rv2, p2, _⟩ := I1.list hqy
    exact call_zip_2 p1.isList p2.isList fun h' hz hTI hTO h1 h2 hsz hk => wpAny_pyIter_zip hz
      ⟨s1.heap.objs.size + 4, _, _, _, H1, rfl, kept hk, turn_zip (PySem.W.ktu_apart s1.heap.objs.size a b p1.lt p2.lt), ⟨hz, hTI, ⟨_, _, hTO⟩, h1, h2⟩, fresh, q⟩
  · obtain ⟨its, rv, p1, _⟩ := I1.tuple hqx
    obtain ⟨its2, rv2, p2, _⟩ := I1.tuple hqy
    obtain ⟨o1, ho1, _⟩ := id p1
    obtain ⟨o2, ho2, _⟩ := id p2
    exact RZ.call_zipT (show s1.heap.IsTuple a its.toArray from p1) (show s1.heap.IsTuple b its2.toArray from p2) fun h' hz hTI hTO h1 h2 hsz hk => wpAny_pyIter_zip hz
      ⟨s1.heap.objs.size + 4, _, _, _, H1, rfl, kept hk, RZ.turn_zipT (PySem.W.ktu_apart s1.heap.objs.size a b (Heap.lt_size ho1) (Heap.lt_size ho2)), ⟨hz, hTI, ⟨_, _, hTO⟩, h1, h2⟩, fresh, q⟩
  · obtain ⟨its, rv, p1, _⟩ := I1.tuple hqx
    obtain ⟨its2, rv2, p2, _⟩ := I1.list hqy
    obtain ⟨o1, ho1, _⟩ := id p1
    exact call_zipG (show s1.heap.IsTuple a its.toArray from p1) p2.isList fun h' hz hTI hTO h1 h2 hk => wpAny_pyIter_zip hz
      ⟨s1.heap.objs.size + 4, _, _, _, H1, rfl, kept hk, turn_zipM (PySem.W.ktu_apart s1.heap.objs.size a b (Heap.lt_size ho1) p2.lt), ⟨hz, hTI, ⟨_, _, hTO⟩, h1, h2⟩, fresh, q⟩
def fZipB : List PV → Option (List PV)
  | [.list l, .list m] => some (l.zipWith (fun x y => .tuple [x, y]) m)
  | [.tuple l, .tuple m] => some (l.zipWith (fun x y => .tuple [x, y]) m)
  | [.tuple l, .list m] => some (l.zipWith (fun x y => .tuple [x, y]) m)
  | _ => none
theorem wlk_zipM {K : Fg} {Hs : Hp} {a b : Addr} {xs ys : List V} {l m : List PV} (s : Tp K Hs a xs) (r : Reps K Hs l xs) (s2 : Rd Hs b (.lst ys)) (r2 : Reps K Hs m ys) : Wlk K Hs (ItzM K a b) (l.zipWith (fun x y => .tuple [x, y]) m) where
  go := fun Hs2 i H k sb hi => by
    have hi : i < l.length ∧ i < m.length := by simpa [Nat.lt_min] using hi
    obtain ⟨x, e, _⟩ := r.get (List.getElem?_eq_getElem hi.1)
    obtain ⟨y, e2, _⟩ := r2.get (List.getElem?_eq_getElem hi.2)
    exact ⟨xs, ys, x, y, sqT_mono sb.same (tp_mono k s), .inl (sb_rd sb (rd_mono k s2)), e, e2⟩
  yld := fun Hs2 i H x H' p k sb e y => by
    obtain ⟨T, x, z, rfl, hT, rfl, y, y2⟩ := y
    obtain ⟨q, q', e1, e2, rfl⟩ := L3.zip_get e
    obtain ⟨v, e3, h1⟩ := r.get e1
    obtain ⟨w, e4, h2⟩ := r2.get e2
    have := y xs (sqT_mono sb.same (tp_mono k s))
    rw [e3] at this; cases this
    have := y2 ys (.inl (sb_rd sb (rd_mono k s2)))
    rw [e4] at this; cases this
    have al := PStp.alloc (o := .tup [x, z]) sb hT trivial
    exact ⟨_, al, mk_tup (.inl upd_same) (.cons (Rep.mono (k.trans al.st.hs) _ _ h1) (.cons (Rep.mono (k.trans al.st.hs) _ _ h2) (by simp [Reps])))⟩
  stop := fun Hs2 H k sb => by
    refine ⟨xs, ys, sqT_mono sb.same (tp_mono k s), .inl (sb_rd sb (rd_mono k s2)), ?_⟩
    rw [List.length_zipWith, r.len, r2.len]
    omega
section
variable {S : Type} {X : Cx} {o : Ops S} {md : Md X.K o} {e : Expr} {ms : M S (List PV)} {pos : Pos}
theorem i_zipB {a2 : Expr} {p tpos : Pos} {elts : List Expr} {kk : Nat} (hg : Gl X "zip") (hm : X.mg "zip" = none) (ha : PA X [e, a2] (tGA md ms)) (hs : starEach [e, a2] X.env = (false, eval e X.env) :: starEach [a2] X.env := by rfl) (hpl : (backTo pos (starEach [a2] X.env)).any (·.1) = false := by rfl) :
    PI X (.Tuple elts kk tpos) (.Call (.Name "zip" p) [e, a2] [] pos) (tI md (mLs fZipB ms)) := by
  refine piImp (pi_zipB hg hm ha hs hpl) fun σ H Rk ⟨Hs, U, st, l, st', hR, hm, k⟩ => ?_
  refine tGA_seq hR hm fun l0 st1 vs Hs1 U1 H1 e1 e2 r1 s1 p1 => ?_
  obtain ⟨e7, e8⟩ := lft_some e2
  subst e8
  unfold fZipB at e7
  split at e7
  · cases e7
    obtain ⟨v, w, rfl, h, h2⟩ := reps2 p1
    obtain ⟨a, xs, rfl, s, q⟩ := rep_lst h
    obtain ⟨b, ys, rfl, s', q'⟩ := rep_lst h2
    exact ⟨a, b, xs, ys, rfl, .inl ⟨.inl (sb_rd (md.sub r1) s), .inl (sb_rd (md.sub r1) s'), k _ _ _ _ r1 s1 (wlk_zip s q s' q')⟩⟩
  · cases e7
    obtain ⟨v, w, rfl, h, h2⟩ := reps2 p1
    obtain ⟨a, xs, rfl, s, q⟩ := rep_tup h
    obtain ⟨b, ys, rfl, s', q'⟩ := rep_tup h2
    exact ⟨a, b, xs, ys, rfl, .inr (.inl ⟨sqT_mono (md.sub r1).same s, sqT_mono (md.sub r1).same s', k _ _ _ _ r1 s1 (wlk_zipT s q s' q')⟩)⟩
  · cases e7
    obtain ⟨v, w, rfl, h, h2⟩ := reps2 p1
    obtain ⟨a, xs, rfl, s, q⟩ := rep_tup h
    obtain ⟨b, ys, rfl, s', q'⟩ := rep_lst h2
    exact ⟨a, b, xs, ys, rfl, .inr (.inr ⟨sqT_mono (md.sub r1).same s, .inl (sb_rd (md.sub r1) s'), k _ _ _ _ r1 s1 (wlk_zipM s q s' q')⟩)⟩
  · cases e7
end
end L9

set_option Elab.async false
set_option linter.all false
set_option maxRecDepth 100000
namespace L9
open PySem PySem.Spec
open PyProof.Rows hiding St
open L2 L3
/-! ### xs.remove(k), xs.pop(k), xs.pop() of a list of ints that a slot owns -/
def intsO : List OV → Option (List Int)
  | [] => some []
  | .p (.int i) :: l => (intsO l).map fun r => i :: r
  | _ => none
theorem intsO_some : ∀ {xs : List OV} {ns : List Int}, intsO xs = some ns → xs = ns.map fun i => .p (.int i)
  | [], ns, h => by cases h; rfl
  | x :: xs, ns, h => by
    unfold intsO at h
    split at h
    · rename_i e; cases e
    · rename_i i l e
      cases e
      cases h2 : intsO xs with
      | none => rw [h2] at h; cases h
      | some r =>
        rw [h2] at h
        cases h
        rw [intsO_some h2]
        rfl
    · cases h
@[simp] theorem intsO_map : ∀ ns : List Int, intsO (ns.map fun i => .p (.int i)) = some ns
  | [] => rfl
  | i :: ns => by simp only [List.map_cons, intsO, intsO_map ns, Option.map_some]
theorem ors_ints {K : Fg} {H Hs : Hp} : ∀ {ns : List Int} {vs : List V} {F : List Addr}, ORs K H Hs (ns.map fun i => .p (.int i)) vs F → vs = ns.map V.int ∧ F = []
  | [], vs, F, h => by simpa [ORs] using h
  | i :: ns, vs, F, h => by
    simp only [List.map_cons, ORs] at h
    obtain ⟨v, vr, F1, F2, rfl, rfl, h1, h2⟩ := h
    obtain ⟨e1, e2⟩ := ors_ints h2
    simp only [OR] at h1
    rw [h1.1, e2, e1, rep_int h1.2]
    exact ⟨rfl, rfl⟩
theorem mk_ors {K : Fg} {H Hs : Hp} : ∀ ns : List Int, ORs K H Hs (ns.map fun i => .p (.int i)) (ns.map V.int) []
  | [] => by simp [ORs]
  | i :: ns => by
    simp only [List.map_cons, ORs]
    exact ⟨_, _, [], [], rfl, rfl, by simp only [OR]; exact ⟨trivial, mk_int⟩, mk_ors ns⟩
theorem erase_map : ∀ (ns : List Int) (k : Nat), (ns.map V.int).eraseIdx k = (ns.eraseIdx k).map V.int
  | [], _ => rfl
  | _ :: _, 0 => rfl
  | n :: ns, k + 1 => by simp only [List.map_cons, List.eraseIdx_cons_succ, erase_map ns k]
def sRem (i : Nat) (m : M Env0 PV) : SM := fun st => match getL st i with
  | none => none
  | some _ => match m st with
    | none => none
    | some (v, st1) => match getL st1 i with
      | none => none
      | some xs => match intsO xs, v with
        | some ns, .int k => if k ∈ ns then some (.nx, st1.set i (some (.l ((ns.eraseIdx (ns.idxOf k)).map fun i => .p (.int i))))) else none
        | _, _ => none
section
variable {X : Cx} {n : Nat} {T : List Addr} {fx : List Nat} {pos : Pos} {e : Expr}
theorem s_rem (i : Nat) {x : Str} {px apos cpos : Pos} {m : M Env0 PV} (hN : X.N[i]? = some x) (hv : Vis X.env.scope x) (he : PE X e (tG (eM X.K n fx T) m)) (hd : (x == ("__debug__" : Str)) = false := by decide) (hcd : (x == ("__classdict__" : Str)) = false := by decide)
    (hbase : attributeBase (.Name x px) "remove" X.env (eval (.Name x px) X.env) = eval (.Name x px) X.env := by rfl)
    (hfew : ((backTo cpos (starEach [e] X.env)).all (fun x => !x.1) && (backToKw cpos (keywordEach [] X.env)).all (fun x => x.1.isSome)
      && decide ([e].length + ([] : List Keyword).length + (if ([] : List Keyword).isEmpty then 0 else 1) < 30)) = true := by rfl)
    (hline : (apos.endLine == cpos.line) = true := by rfl) (hs : starEach [e] X.env = (false, eval e X.env) :: starEach [] X.env := by rfl) (hplain : (backTo cpos (starEach [] X.env)).any (·.1) = false := by rfl)
    (hsw : swapsWith (.Call (.Attribute (.Name x px) "remove" apos) [e] [] cpos) none pos.line X.env = pure false := by rfl) :
    PS X (.Expr (.Call (.Attribute (.Name x px) "remove" apos) [e] [] cpos) pos) (tS X.K n fx T (sRem i m)) := by
  refine psImp (ps_expr (pe_bm PySem.F.plainAttrs_list PySem.F.slot_list_remove PySem.F.type_list_remove L2.mt_remove (pe_var hN hv hd hcd) (pa_cons he pa_nil hs) hbase hfew hline hs hplain) hsw) fun D σ H ⟨Hs, U, st, fl, st', hR, hm, k⟩ => ?_
  unfold sRem at hm
  split at hm
  · cases hm
  · rename_i xs0 e0
    split at hm
    · cases hm
    · rename_i pv st1 e1
      split at hm
      · cases hm
      · rename_i xs e2
        split at hm
        · rename_i ns kk e3
          split at hm
          · rename_i hmem
            cases hm
            have exs := intsO_some e3
            subst exs
            obtain ⟨Fs, hR'⟩ := hR
            obtain ⟨_, a, vs0, _, ea, _, ea2, _⟩ := getL_ok hR' e0
            refine ⟨.ref a, ea, .inl ⟨rfl, vs0, .inl (.inl ea2)⟩, Hs, U, st, .int kk, st1, ⟨Fs, hR'⟩, e1, fun w Hs1 U1 H1 r1 s1 o1 => ?_⟩
            obtain ⟨Fs1, r1⟩ := r1
            obtain ⟨hi, a', vs, F', e4, e5, e6, r5⟩ := getL_ok r1 e2
            rw [ea] at e4; cases e4
            obtain ⟨ev, eF⟩ := ors_ints r5
            subst ev eF
            have hlt : ns.idxOf kk < ns.length := List.idxOf_lt_length_of_mem hmem
            have hw := ER.write (vs' := (ns.eraseIdx (ns.idxOf kk)).map V.int) (F := []) (G := []) r1 hi ea e5 e6 (by simp) (by simp) (by simp) List.nodup_nil (mk_ors (ns.eraseIdx (ns.idxOf kk)))
            obtain ⟨w1, w2⟩ := hw
            have w1 := (show (fun b => U1 b ∨ b ∈ ([] : List Addr)) = U1 by funext b; simp) ▸ w1
            refine ⟨a, ns, kk, ns.idxOf kk, rfl, by rw [rep_int o1], e6, by rw [List.getElem?_eq_getElem hlt]; simp, fun mm hmm q => ?_, ?_⟩
            · have : mm < ns.length := by omega
              rw [List.getElem?_eq_getElem this] at q
              have h2 := List.not_of_lt_findIdx (p := (· == kk)) (xs := ns) (i := mm) hmm
              simp [Option.some.inj q] at h2
            · exact k σ Hs1 _ _ (.refl _ _) w1 (s1.trans w2)
          · cases hm
        · cases hm
/-- what a pop gives and leaves: the k-th of ns -/
def popE (i : Nat) (st : Env0) (k : Int) : Option (PV × Env0) := match getL st i with
  | none => none
  | some xs => match intsO xs with
    | none => none
    | some ns => if 0 ≤ k ∧ k < ns.length ∧ k < 9223372036854775808 then some (.int (ns.getD k.toNat 0), st.set i (some (.l ((ns.eraseIdx k.toNat).map fun i => .p (.int i))))) else none
def mPopAt (i : Nat) (m : M Env0 PV) : M Env0 PV := fun st => match getL st i with
  | none => none
  | some _ => match m st with
    | none => none
    | some (v, st1) => match v with
      | .int k => popE i st1 k
      | _ => none
theorem g_popAt (i : Nat) {x : Str} {px apos cpos : Pos} {m : M Env0 PV} (hN : X.N[i]? = some x) (hv : Vis X.env.scope x) (he : PE X e (tG (eM X.K n fx T) m)) (hd : (x == ("__debug__" : Str)) = false := by decide) (hcd : (x == ("__classdict__" : Str)) = false := by decide)
    (hbase : attributeBase (.Name x px) "pop" X.env (eval (.Name x px) X.env) = eval (.Name x px) X.env := by rfl)
    (hfew : ((backTo cpos (starEach [e] X.env)).all (fun x => !x.1) && (backToKw cpos (keywordEach [] X.env)).all (fun x => x.1.isSome)
      && decide ([e].length + ([] : List Keyword).length + (if ([] : List Keyword).isEmpty then 0 else 1) < 30)) = true := by rfl)
    (hline : (apos.endLine == cpos.line) = true := by rfl) (hs : starEach [e] X.env = (false, eval e X.env) :: starEach [] X.env := by rfl) (hplain : (backTo cpos (starEach [] X.env)).any (·.1) = false := by rfl) :
    PE X (.Call (.Attribute (.Name x px) "pop" apos) [e] [] cpos) (tG (eM X.K n fx T) (mPopAt i m)) := by
  refine peImp (pe_bm PySem.F.plainAttrs_list PySem.F.slot_list_pop PySem.F.type_list_pop mt_popAt (pe_var hN hv hd hcd) (pa_cons he pa_nil hs) hbase hfew hline hs hplain) fun σ H Q ⟨Hs, U, st, pv, st', hR, hm, k⟩ => ?_
  unfold mPopAt at hm
  split at hm
  · cases hm
  · rename_i xs0 e0
    split at hm
    · cases hm
    · rename_i pv0 st1 e1
      split at hm
      · rename_i kk
        unfold popE at hm
        split at hm
        · cases hm
        · rename_i xs e2
          split at hm
          · cases hm
          · rename_i ns e3
            split at hm
            · rename_i hk
              cases hm
              have exs := intsO_some e3
              subst exs
              obtain ⟨Fs, hR'⟩ := hR
              obtain ⟨_, a, vs0, _, ea, _, ea2, _⟩ := getL_ok hR' e0
              refine ⟨.ref a, ea, .inl ⟨rfl, vs0, .inl (.inl ea2)⟩, Hs, U, st, .int kk, st1, ⟨Fs, hR'⟩, e1, fun w Hs1 U1 H1 r1 s1 o1 => ?_⟩
              obtain ⟨Fs1, r1⟩ := r1
              obtain ⟨hi, a', vs, F', e4, e5, e6, r5⟩ := getL_ok r1 e2
              rw [ea] at e4; cases e4
              obtain ⟨ev, eF⟩ := ors_ints r5
              subst ev eF
              have hlt : kk.toNat < ns.length := by omega
              have hw := ER.write (vs' := (ns.eraseIdx kk.toNat).map V.int) (F := []) (G := []) r1 hi ea e5 e6 (by simp) (by simp) (by simp) List.nodup_nil (mk_ors (ns.eraseIdx kk.toNat))
              obtain ⟨w1, w2⟩ := hw
              have w1 := (show (fun b => U1 b ∨ b ∈ ([] : List Addr)) = U1 by funext b; simp) ▸ w1
              have hg : ns.getD kk.toNat 0 = ns[kk.toNat] := by rw [List.getD_eq_getElem?_getD, List.getElem?_eq_getElem hlt]; rfl
              have hsi : seqIndex? kk (ns.map V.int).length = some kk.toNat := by
                unfold seqIndex?
                have h0 : ¬ kk < 0 := by omega
                have h1 : kk < ((ns.map V.int).length : Int) := by simp; omega
                simp only [h0, if_false]
                simp [hk.1, h1, hk.2.1]
              refine ⟨a, ns.map V.int, kk, kk.toNat, .int (ns.getD kk.toNat 0), rfl, by rw [rep_int o1], e6, by omega, by
                have : (2:Int)^63 = 9223372036854775808 := by decide
                omega, hsi, by rw [List.getElem?_map, List.getElem?_eq_getElem hlt, hg]; rfl, ?_⟩
              have hem : (ns.map V.int).eraseIdx kk.toNat = (ns.eraseIdx kk.toNat).map V.int := erase_map _ _
              rw [hem]
              exact k _ Hs1 _ _ w1 (s1.trans w2) mk_int
            · cases hm
      · cases hm
end
end L9

set_option Elab.async false
set_option linter.all false
set_option maxRecDepth 100000
namespace L9
open PySem PySem.Spec
open PyProof.Rows hiding St
open L2 L3
/-! ### xs.index(x) of a list that is a value -/
def idxW (p : PV → Bool) (l : List PV) : Option PV := if l.findIdx p < l.length then some (.int (l.findIdx p : Nat)) else none
def fIdx (x y : PV) : Option PV := match x with
  | .list l => if (flatP y && l.all flatP) = true then idxW (fun z => eqP z y) l else if (SeqAt.shaped y && SeqAt.shaped (.list l)) = true then idxW (fun z => PyData.eqv z y) l else none
  | _ => none
theorem idxW_some {p : PV → Bool} {l : List PV} {z : PV} (h : idxW p l = some z) : ∃ (j : Nat) (w : PV), z = .int (j : Nat) ∧ l[j]? = some w ∧ p w = true ∧ ∀ (m : Nat) (w' : PV), m < j → l[m]? = some w' → p w' = false := by
  unfold idxW at h
  split at h
  · rename_i hl
    cases h
    refine ⟨l.findIdx p, l[l.findIdx p], rfl, List.getElem?_eq_getElem hl, List.findIdx_getElem, fun m w' hm hw => ?_⟩
    have h2 := List.not_of_lt_findIdx (p := p) (xs := l) (i := m) hm
    have hml : m < l.length := by omega
    rw [List.getElem?_eq_getElem hml] at hw
    rw [← Option.some.inj hw]
    simpa using h2
  · cases h
theorem reps_at {K : Fg} {H : Hp} : ∀ {l : List PV} {xs : List V}, Reps K H l xs → ∀ {j : Nat} {v : V}, xs[j]? = some v → ∃ p, l[j]? = some p ∧ Rep K H p v
  | [], xs, h, j, v, e => by simp only [Reps] at h; subst h; simp at e
  | p :: l, xs, h, j, v, e => by
    simp only [Reps] at h
    obtain ⟨x, r, rfl, h1, h2⟩ := h
    cases j with
    | zero => simp at e; subst e; exact ⟨p, by simp, h1⟩
    | succ j => simp at e; obtain ⟨q, e1, e2⟩ := reps_at h2 e; exact ⟨q, by simpa using e1, e2⟩
theorem reps_to {K : Fg} {H : Hp} : ∀ {l : List PV} {xs : List V}, Reps K H l xs → ∀ {j : Nat} {p : PV}, l[j]? = some p → ∃ v, xs[j]? = some v ∧ Rep K H p v
  | [], xs, h, j, v, e => by simp at e
  | p :: l, xs, h, j, q, e => by
    simp only [Reps] at h
    obtain ⟨x, r, rfl, h1, h2⟩ := h
    cases j with
    | zero => simp at e; subst e; exact ⟨x, by simp, h1⟩
    | succ j => simp at e; obtain ⟨v, e1, e2⟩ := reps_to h2 e; exact ⟨v, by simpa using e1, e2⟩
theorem flat_of {l : List PV} (f : l.all flatP = true) {j : Nat} {z : PV} (h : l[j]? = some z) : flatP z = true := List.all_eq_true.mp f z (List.mem_of_getElem? h)
def rIdxA (K : Fg) : V → List V → Hp → VK → Prop := fun x xs H Q => rIndex K x xs H Q ∨ rIndexD K x xs H Q
theorem mt_idxA {X : Cx} (hu : X.A.units + 65 < cLine) : MtR X "list.index" (rIdxA X.K) := mt_index.or (mt_indexD hu)
theorem ad_idx {K : Fg} {Hs H : Hp} {x y z : PV} {v w : V} {Q : VK} (e : fIdx x y = some z) (rx : Rep K Hs x v) (ry : Rep K Hs y w) (sb : Sb Hs H)
    (k : ∀ u Hs' H', PStp Hs H Hs' H' → Rep K Hs' z u → Q u H') : rIdxA K v [w] H Q := by
  unfold fIdx at e
  split at e
  · rename_i l
    split at e
    · rename_i c
      rw [Bool.and_eq_true] at c
      obtain ⟨j, z0, rfl, e1, e2, e3⟩ := idxW_some e
      obtain ⟨a, xs, rfl, s, r⟩ := rep_lst rx
      obtain ⟨u, e4, e5⟩ := reps_to r e1
      refine .inl ⟨a, xs, w, j, u, rfl, rfl, .inl (sb_rd sb s), flat_rep ry c.1, all_rep r c.2, e4, ?_, fun m z' hm hz => ?_, k _ Hs H (.refl sb) mk_int⟩
      · rw [eq_rep e5 ry (flat_of c.2 e1) c.1]; exact e2
      · obtain ⟨p, q1, q2⟩ := reps_at r hz
        rw [eq_rep q2 ry (flat_of c.2 q1) c.1]; exact e3 m p hm q1
    · split at e
      · rename_i c
        rw [Bool.and_eq_true] at c
        obtain ⟨j, z0, rfl, e1, e2, e3⟩ := idxW_some e
        obtain ⟨a, xs, rfl, s, r⟩ := rep_lst rx
        exact .inr ⟨a, w, y, l, j, z0, rfl, rfl, rep_dp _ _ (Rep.mono sb.same _ _ rx) (SeqAt.canLay_of_shaped c.2), rep_dp y w (Rep.mono sb.same y w ry) (SeqAt.canLay_of_shaped c.1), c.2, c.1, e1, e2, e3, k _ Hs H (.refl sb) mk_int⟩
      · cases e
  · cases e
theorem fIdx_list {x y z : PV} (h : fIdx x y = some z) : ∃ l, x = .list l := by
  unfold fIdx at h
  split at h
  · exact ⟨_, rfl⟩
  · cases h
section
variable {X : Cx} {S : Type} {o : Ops S} {md : Md X.K o} {a b : Expr} {ma mb : M S PV} {apos cpos : Pos}
theorem g_idx (hu : X.A.units + 65 < cLine) (ha : PE X a (tG md ma)) (hb : PE X b (tG md mb)) (hbase : attributeBase a "index" X.env (eval a X.env) = eval a X.env := by rfl)
    (hfew : ((backTo cpos (starEach [b] X.env)).all (fun x => !x.1) && (backToKw cpos (keywordEach [] X.env)).all (fun x => x.1.isSome)
      && decide ([b].length + ([] : List Keyword).length + (if ([] : List Keyword).isEmpty then 0 else 1) < 30)) = true := by rfl)
    (hline : (apos.endLine == cpos.line) = true := by rfl) (hs : starEach [b] X.env = (false, eval b X.env) :: starEach [] X.env := by rfl) (hplain : (backTo cpos (starEach [] X.env)).any (·.1) = false := by rfl) :
    PE X (.Call (.Attribute a "index" apos) [b] [] cpos) (tG md (mOp fIdx ma mb)) := by
  refine peImp (pe_bm PySem.F.plainAttrs_list PySem.F.slot_list_index PySem.F.type_list_index (mt_idxA hu) ha (pa_cons hb pa_nil hs) hbase hfew hline hs hplain) fun σ H Q ⟨Hs, U, st, pv, st', hR, hm, k⟩ => ?_
  refine tG_seq hR hm fun x st1 v Hs1 U1 H1 _ e2 r1 s1 p1 => ?_
  have hq : ∃ q : PV × S, mb st1 = some q ∧ lft (fIdx x q.1) q.2 = some (pv, st') := by
    cases e : mb st1 with
    | none => simp [bnd, e] at e2
    | some q => exact ⟨q, rfl, by simpa [bnd, e] using e2⟩
  obtain ⟨⟨y, st2⟩, e3, e4⟩ := hq
  obtain ⟨e5, e6⟩ := lft_some e4
  subst e6
  obtain ⟨l, rfl⟩ := fIdx_list e5
  obtain ⟨p, xs, rfl, s, r⟩ := rep_lst p1
  refine ⟨.inl ⟨rfl, xs, .inl (sb_rd (md.sub r1) s)⟩, Hs1, U1, st1, y, _, r1, e3, fun w Hs2 U2 H2 r2 s2 p2 => ?_⟩
  exact ad_idx e5 (Rep.mono s2.hs _ _ p1) p2 (md.sub r2) (fin_step r2 (s1.trans s2) k)
end
end L9

set_option Elab.async false
set_option linter.all false
set_option maxRecDepth 100000
namespace L9
open PySem PySem.Spec
open PyProof.Rows hiding St
open L2 L3
/-! ### sorted(list of ints) -/
def intsP : List PV → Option (List Int)
  | [] => some []
  | .int i :: l => (intsP l).map fun r => i :: r
  | _ => none
theorem intsP_some : ∀ {xs : List PV} {ns : List Int}, intsP xs = some ns → xs = ns.map .int
  | [], ns, h => by cases h; rfl
  | x :: xs, ns, h => by
    unfold intsP at h
    split at h
    · rename_i e; cases e
    · rename_i i l e
      cases e
      cases h2 : intsP xs with
      | none => rw [h2] at h; cases h
      | some r =>
        rw [h2] at h
        cases h
        rw [intsP_some h2]
        rfl
    · cases h
@[simp] theorem intsP_map : ∀ ns : List Int, intsP (ns.map .int) = some ns
  | [] => rfl
  | i :: ns => by simp only [List.map_cons, intsP, intsP_map ns, Option.map_some]
theorem reps_ints {K : Fg} {H : Hp} : ∀ {ns : List Int} {vs : List V}, Reps K H (ns.map .int) vs → vs = ns.map V.int
  | [], vs, h => by simpa [Reps] using h
  | i :: ns, vs, h => by
    simp only [List.map_cons, Reps] at h
    obtain ⟨v, vr, rfl, h1, h2⟩ := h
    rw [reps_ints h2, rep_int h1]
    rfl
theorem mk_reps {K : Fg} {H : Hp} : ∀ ns : List Int, Reps K H (ns.map .int) (ns.map V.int)
  | [] => by simp [Reps]
  | i :: ns => by
    simp only [List.map_cons, Reps]
    exact ⟨_, _, rfl, mk_int, mk_reps ns⟩
def srt (ns : List Int) : List Int := ns.mergeSort fun a b => decide (a ≤ b)
theorem srt_perm (ns : List Int) : (srt ns).Perm ns := List.mergeSort_perm _ _
theorem srt_le (ns : List Int) : (srt ns).Pairwise (· ≤ ·) := by
  have h := List.pairwise_mergeSort (le := fun (a b : Int) => decide (a ≤ b)) (fun a b c h1 h2 => by simp at h1 h2 ⊢; omega) (fun a b => by simp; omega) ns
  exact h.imp (fun h => by simpa using h)
theorem srt_eq {ns ms : List Int} (h1 : ms.Perm ns) (h2 : ms.Pairwise (· ≤ ·)) : ms = srt ns :=
  List.Perm.eq_of_pairwise (le := (· ≤ ·)) (fun a b _ _ h3 h4 => by omega) h2 (srt_le ns) (h1.trans (srt_perm ns).symm)
def fSortI : List PV → Option PV
  | [.list l] => (intsP l).map fun ns => .list ((srt ns).map .int)
  | _ => none
theorem ad_sortI {K : Fg} : ClA K (rSortedI K) fSortI := by
  intro Hs H l z vs Q e r sb k
  unfold fSortI at e
  split at e
  · rename_i l0
    cases h2 : intsP l0 with
    | none => rw [h2] at e; cases e
    | some ns =>
      rw [h2] at e
      cases e
      have := intsP_some h2
      subst this
      obtain ⟨v, rfl, h⟩ := reps1 r
      obtain ⟨a, xs, rfl, s, r1⟩ := rep_lst h
      have := reps_ints r1
      subst this
      refine ⟨a, ns, rfl, .inl (sb_rd sb s), fun ns' p hp hs hn => ?_⟩
      have := srt_eq hp hs
      subst this
      exact k _ _ _ (PStp.alloc (o := .lst ((srt ns).map V.int)) sb hn trivial) (mk_lst (.inl upd_same) (mk_reps _))
  · cases e
def lSortI : List PV → Option (List PV)
  | [.list l] => (intsP l).map fun ns => (srt ns).map .int
  | _ => none
theorem ad_lSortI {K : Fg} : ClF K (rSortedI K) lSortI := by
  intro Hs H l z vs Q e r sb k
  unfold lSortI at e
  split at e
  · rename_i l0
    cases h2 : intsP l0 with
    | none => rw [h2] at e; cases e
    | some ns =>
      rw [h2] at e
      cases e
      have := intsP_some h2
      subst this
      obtain ⟨v, rfl, h⟩ := reps1 r
      obtain ⟨a, xs, rfl, s, r1⟩ := rep_lst h
      have := reps_ints r1
      subst this
      refine ⟨a, ns, rfl, .inl (sb_rd sb s), fun ns' p hp hs hn => ?_⟩
      have := srt_eq hp hs
      subst this
      exact k p _ hn (mk_reps _)
  · cases e
/-! ### sorted(tuple of ints) -/
section
variable {prog : Program} {w : World} {A : Around} {E : Value → Shared → Prop} {s : Shared}
theorem collect_tuple {l : Addr} {vs : List Value} {Q : List Value → Shared → Prop} (hl : s.heap.IsTuple l vs.toArray)
    (h : Q vs { s with heap := (s.heap.push (seqObj "list" #[] 0)).update s.heap.objs.size (Obj.mapSeq (· ++ vs.toArray)) }) (hsz : vs.length ≤ sizeLine) :
    wpAny (model prog w) A (collect (.ref l)) Q E s := by
  obtain ⟨o, ho, hc, n, hd⟩ := id hl
  unfold collect
  refine wpAny_bind (wpAny_runValue (codeAny_builtin entry_proto_collect' ?_))
  show wpAny _ _ (do again (.builtin "list.__iadd__" ⟨[← newList [], .ref l], []⟩)) _ _ s
  refine wpAny_bind (wpAny_newList (wpAny_pure ⟨Code.quiet_builtin _ (by decide +kernel), codeAny_builtin entry_list_iadd' ?_⟩))
  show wpAny _ _ (Builtin.List.listExtendWith (.ref s.heap.objs.size) (.ref l) (.ref s.heap.objs.size)) _ _ { s with heap := s.heap.push (seqObj "list" #[] 0) }
  unfold Builtin.List.listExtendWith
  have ho' : (s.heap.push (seqObj "list" #[] 0)).get? l = some o := Heap.get?_push_of_some _ ho
  refine wpAny_bind (wpAny_typeOf (T := "tuple") ⟨o, ho', hc⟩ ?_)
  have ht : (Value.type "tuple" == Value.type "tuple") = true := by rfl
  rw [if_pos (by rw [ht]; simp)]
  refine wpAny_bind (listItems_at ho' hd ?_)
  refine wpAny_bind (listItems_at (xs := #[]) (n := 0) (Heap.get?_push_size _ rfl) rfl ?_)
  rw [if_neg (by simp)]
  refine wpAny_bind (listUpdate_at (xs := #[]) (n := 0) (Heap.get?_push_size _ rfl) rfl ?_ (Nat.zero_le _) (by show (#[] ++ vs.toArray).size ≤ sizeLine + 1; simp only [Array.size_append, List.size_toArray, List.length_nil]; omega))
  refine wpAny_pure ?_
  show wpAny (model prog w) A (do
      let o ← load s.heap.objs.size
      match o.data with
      | .seq xs _ => pure xs.toList
      | _ => unsupported "internal:collect") Q E { s with heap := (s.heap.push (seqObj "list" #[] 0)).update s.heap.objs.size (Obj.mapSeq (· ++ vs.toArray)) }
  refine wpAny_bind (wpAny_load (get?_update_seq (Heap.get?_push_size _ rfl) _) ?_)
  show wpAny _ _ (pure ((#[] : Array Value) ++ vs.toArray).toList) Q E _
  rw [show ((#[] : Array Value) ++ vs.toArray).toList = vs by simp]
  exact wpAny_pure h
theorem sortedT_ints {l : Addr} {vs : List Value} {ns : List Int} {Q : Value → Shared → Prop} (hl : s.heap.IsTuple l vs.toArray) (hI : IntsAre vs ns) (hL : vs.length ≤ sizeLine)
    (h : ∀ (out : Array Value) (ns' : List Int), IntsAre out.toList ns' → ns'.Perm ns → ns'.Pairwise (· ≤ ·) → Q (.ref (s.heap.objs.size + 1)) { s with heap := sortedAll s.heap vs out }) :
    wpAny (model prog w) A (call (.builtin "sorted") [.ref l]) Q E s := by
  refine Calls.call_function_entry kind_sorted plain_sorted entry_sorted (args_sorted1 _) ?_
  unfold Builtin.«sorted»
  refine wpAny_bind (m := checkCount "sorted" 1 1 _) (wpAny_pure ?_)
  refine wpAny_bind (collect_tuple hl ?_ hL)
  refine wpAny_bind (wpAny_newList ?_ hL)
  have hsz : ((s.heap.push (seqObj "list" #[] 0)).update s.heap.objs.size (Obj.mapSeq (· ++ vs.toArray))).objs.size = s.heap.objs.size + 1 := by
    rw [Heap.size_update, size_push']
  have hoL : (((s.heap.push (seqObj "list" #[] 0)).update s.heap.objs.size (Obj.mapSeq (· ++ vs.toArray))).push (seqObj "list" vs.toArray 0)).get? (s.heap.objs.size + 1) = some (seqObj "list" vs.toArray 0) := by
    rw [← hsz]; exact Heap.get?_push_size _ rfl
  show wpAny _ _ _ _ _ { s with heap := ((s.heap.push (seqObj "list" #[] 0)).update s.heap.objs.size (Obj.mapSeq (· ++ vs.toArray))).push (seqObj "list" vs.toArray 0) }
  rw [hsz]
  refine wpAny_bind (wpAny_holding (wpAny_call_entry slot_list_sort ⟨_, hoL, rfl⟩ entry_list_sort (list_sort_treeAny hoL hI hL fun out ns' a1 a2 a3 => ⟨_, rfl, ?_⟩) (args_list_sort _)))
  exact wpAny_pure ⟨_, rfl, h out ns' a1 a2 a3⟩
end
def rSortedIT (K : Fg) : List V → Hp → VK → Prop := fun vs H Q => ∃ (a : Addr) (ns : List Int), vs = [V.ref a] ∧ SqT K H a (ns.map V.int) ∧
  ∀ (ns' : List Int) (p : Addr), ns'.Perm ns → ns'.Pairwise (· ≤ ·) → H p = none → Q (.ref p) (upd H p (.lst (ns'.map V.int)))
theorem cr_sortedIT {X : Cx} : CallR X (.builtin "sorted") (rSortedIT X.K) := by
  intro pins s σ H vs us Q I r h
  obtain ⟨a, ns, rfl, hs, q⟩ := h
  obtain ⟨its, rv, hl, hz⟩ := I.tuple hs
  rw [Vals.ref1 r]
  have hi := rv.ints
  refine sortedT_ints hl (by simpa using hi) (by rw [← rv.length]; exact hz) fun out ns' h1 h2 h3 => ?_
  obtain ⟨ep, he'⟩ := PyProof.Rows.sortedAll_at s.heap its out
  have hlen : (ns'.map V.int).length ≤ sizeLine := by
    rw [List.length_map, h2.length_eq]
    rw [List.length_map] at hz
    exact hz
  exact ⟨.ref _, upd H (s.heap.objs.size + 1) (.lst (ns'.map V.int)), I.laid (t' := s.toks) (fun _ _ => PyProof.Rows.sortedAll_old) (Nat.le_succ _) ⟨hlen, out.toList, ep, vals_of_ints h1, by rw [Array.toArray_toList]; exact he'⟩, rfl, q _ _ h2 h3 (I.hok.fresh (Nat.le_succ _))⟩
end L9

set_option Elab.async false
set_option linter.all false
set_option maxRecDepth 100000
namespace L9
open PySem PySem.Spec
open PyProof.Rows hiding St
open L2 L3
/-! ### sorted(list of pairs of ints): the pairs may be constants too -/
def All2 (G : V → Int × Int → Prop) : List V → List (Int × Int) → Prop
  | [], [] => True
  | x :: xs, p :: ps => G x p ∧ All2 G xs ps
  | _, _ => False
theorem all2_map {G : V → Int × Int → Prop} {k : V → Int × Int} : ∀ {ys : List V}, (∀ y ∈ ys, G y (k y)) → All2 G ys (ys.map k)
  | [], _ => trivial
  | y :: ys, h => ⟨h y List.mem_cons_self, all2_map fun z hz => h z (List.mem_cons_of_mem _ hz)⟩
theorem all2_k {G : V → Int × Int → Prop} {k : V → Int × Int} (u : ∀ x p, G x p → k x = p) : ∀ {xs : List V} {ps : List (Int × Int)}, All2 G xs ps → xs.map k = ps ∧ ∀ x ∈ xs, G x (k x)
  | [], [], _ => ⟨rfl, fun x h => by cases h⟩
  | x :: xs, p :: ps, h => by
    obtain ⟨h1, h2⟩ := h
    obtain ⟨e1, e2⟩ := all2_k u h2
    have e := u x p h1
    refine ⟨by rw [List.map_cons, e1, e], fun y hy => ?_⟩
    rcases List.mem_cons.mp hy with rfl | hy
    · rw [e]; exact h1
    · exact e2 y hy
  | [], _ :: _, h => h.elim
  | _ :: _, [], h => h.elim
/-- by the first, then by the second -/
def lexLe (a b : Int × Int) : Bool := decide (a.1 < b.1 ∨ (a.1 = b.1 ∧ a.2 ≤ b.2))
def srtP (ps : List (Int × Int)) : List (Int × Int) := ps.mergeSort lexLe
theorem srtP_perm (ps : List (Int × Int)) : (srtP ps).Perm ps := List.mergeSort_perm _ _
theorem srtP_le (ps : List (Int × Int)) : (srtP ps).Pairwise fun a b => lexLe a b = true :=
  List.pairwise_mergeSort (fun a b c h1 h2 => by simp only [lexLe, decide_eq_true_eq] at h1 h2 ⊢; omega) (fun a b => by simp only [lexLe, Bool.or_eq_true, decide_eq_true_eq]; omega) ps
theorem srtP_eq {ps qs : List (Int × Int)} (h1 : qs.Perm ps) (h2 : qs.Pairwise fun a b => lexLe a b = true) : qs = srtP ps :=
  List.Perm.eq_of_pairwise (le := fun a b => lexLe a b = true) (fun a b _ _ h3 h4 => by
    simp only [lexLe, decide_eq_true_eq] at h3 h4
    exact Prod.ext (by omega) (by omega)) h2 (srtP_le ps) (h1.trans (srtP_perm ps).symm)
def rSortedT (K : Fg) : List V → Hp → VK → Prop := fun vs H Q => ∃ (a : Addr) (xs : List V) (ps : List (Int × Int)) (G : V → Int × Int → Prop), vs = [V.ref a] ∧ SqL K H a xs ∧ All2 G xs ps ∧
  (∀ x p, G x p → ∃ t, x = V.ref t ∧ SqT K H t [.int p.1, .int p.2]) ∧ ∀ ys l, All2 G ys (srtP ps) → H l = none → Q (.ref l) (upd H l (.lst ys))
theorem cr_sortedT {X : Cx} : CallR X (.builtin "sorted") (rSortedT X.K) := by
  intro pins s σ H vs us Q I r h
  obtain ⟨a, xs, ps, G, rfl, hs, ha, hG, q⟩ := h
  classical
  let k : V → Int × Int := fun x => if h : ∃ p, G x p then h.choose else (0, 0)
  have hk : ∀ x p, G x p → k x = p := by
    intro x p g
    have hx : ∃ p, G x p := ⟨p, g⟩
    have e : k x = hx.choose := dif_pos hx
    have g2 := hx.choose_spec
    rw [← e] at g2
    obtain ⟨t, rfl, t1⟩ := hG x p g
    obtain ⟨t', e', t2⟩ := hG _ _ g2
    cases e'
    have := I.tuple_inj t1 t2
    simp only [List.cons.injEq, V.int.injEq, and_true] at this
    exact Prod.ext this.1.symm this.2.symm
  obtain ⟨em, eg⟩ := all2_k hk ha
  obtain ⟨its, rv, hl, hz⟩ := I.list hs
  have hu := Vals.ref1 r
  subst hu
  obtain ⟨e1, e2⟩ := refs_back rv fun x m => by
    obtain ⟨t, e, _⟩ := hG _ _ (eg x m)
    exact ⟨t, e⟩
  refine SrtO.sorted_pairsO (k := fun u => k (backV u)) hl.isList (by rw [← rv.length]; exact hz) (fun v hv => ?_) fun h' d out h1 h2 kp hd hn => ?_
  · obtain ⟨t, rfl⟩ := e2 v hv
    have hm : V.ref t ∈ xs := by rw [e1]; exact List.mem_map.mpr ⟨_, hv, rfl⟩
    obtain ⟨t', e, ht⟩ := hG _ _ (eg _ hm)
    cases e
    obtain ⟨its2, r2, ⟨o, ho, hc, n, hd⟩, _⟩ := I.tuple ht
    obtain ⟨u1, u2, rfl, ri, rj⟩ := vals2 r2
    obtain ⟨t1, rfl⟩ := ri
    obtain ⟨t2, rfl⟩ := rj
    exact ⟨t, o, t1, t2, n, rfl, ho, hc, hd⟩
  · have h3 : ∀ u ∈ out, ∃ a, u = Value.ref a := fun u hu => e2 u (h2.perm.mem_iff.mp hu)
    obtain ⟨n, hn⟩ := hn
    have hb : SrtO.Stb (ltP k) (out.map backV) xs := by
      rw [e1]
      exact SrtO.Stb.map (ltP_swo k) backV h2
    have hsd : SrtO.Srtd (ltP k) (out.map backV) := SrtO.srtd_map h1
    have hy : (out.map backV).map k = srtP ps := by
      refine srtP_eq ?_ ?_
      · rw [← em]; exact hb.perm.map k
      · rw [List.pairwise_map]
        refine List.Pairwise.imp (fun {x y} hxy => ?_) hsd
        have := SrtO.lexB_no.mp hxy
        simp only [lexLe, decide_eq_true_eq]
        omega
    refine ⟨.ref d, upd H d (.lst (out.map backV)), I.laid (t' := s.toks) kp hd ⟨?_, out, n, vals_back h3, hn⟩, rfl, q _ d ?_ (I.hok.fresh hd)⟩
    · rw [hb.len]
      exact hz
    · rw [← hy]
      exact all2_map fun y m => eg y (hb.perm.mem_iff.mp m)
def prT (p : Int × Int) : PV := .tuple [.int p.1, .int p.2]
def pairsP : List PV → Option (List (Int × Int))
  | [] => some []
  | .tuple [.int i, .int j] :: l => (pairsP l).map fun r => (i, j) :: r
  | _ => none
theorem pairsP_some : ∀ {xs : List PV} {ps : List (Int × Int)}, pairsP xs = some ps → xs = ps.map prT
  | [], ps, h => by cases h; rfl
  | x :: xs, ps, h => by
    unfold pairsP at h
    split at h
    · rename_i e; cases e
    · rename_i i j l e
      cases e
      cases h2 : pairsP xs with
      | none => rw [h2] at h; cases h
      | some r =>
        rw [h2] at h
        cases h
        rw [pairsP_some h2]
        rfl
    · cases h
@[simp] theorem pairsP_map : ∀ ps : List (Int × Int), pairsP (ps.map prT) = some ps
  | [] => rfl
  | p :: ps => by simp only [List.map_cons, prT, pairsP, pairsP_map ps, Option.map_some]
theorem reps_all2 {K : Fg} {H : Hp} : ∀ {ps : List (Int × Int)} {vs : List V}, Reps K H (ps.map prT) vs ↔ All2 (fun v p => Rep K H (prT p) v) vs ps
  | [], vs => by cases vs <;> simp [Reps, All2]
  | p :: ps, [] => by simp [Reps, All2]
  | p :: ps, v :: vs => by
    simp only [List.map_cons, Reps, All2]
    constructor
    · rintro ⟨x, r, e, h1, h2⟩
      cases e
      exact ⟨h1, reps_all2.mp h2⟩
    · rintro ⟨h1, h2⟩
      exact ⟨v, vs, rfl, h1, reps_all2.mpr h2⟩
def rSortedA (K : Fg) : List V → Hp → VK → Prop := fun vs H Q => (rSortedI K vs H Q ∨ rSortedT K vs H Q) ∨ rSortedIT K vs H Q
theorem cr_sortedA {X : Cx} : CallR X (.builtin "sorted") (rSortedA X.K) := fun pins s σ H vs us Q I r h => h.elim (fun h => h.elim (cr_sortedI pins s σ H vs us Q I r) (cr_sortedT pins s σ H vs us Q I r)) (cr_sortedIT pins s σ H vs us Q I r)
def lSortA : List PV → Option (List PV)
  | [.list l] => match intsP l with
    | some ns => some ((srt ns).map .int)
    | none => (pairsP l).map fun ps => (srtP ps).map prT
  | [.tuple l] => (intsP l).map fun ns => (srt ns).map .int
  | _ => none
theorem ad_lSortA {K : Fg} : ClF K (rSortedA K) lSortA := by
  intro Hs H l z vs Q e r sb k
  unfold lSortA at e
  split at e
  · rename_i l0
    split at e
    · rename_i ns h2
      refine .inl (.inl (ad_lSortI Hs H _ z vs Q (by unfold lSortI; simp only [h2, Option.map_some]; exact e) r sb k))
    · cases h2 : pairsP l0 with
      | none => rw [h2] at e; cases e
      | some ps =>
        rw [h2] at e
        cases e
        have := pairsP_some h2
        subst this
        obtain ⟨v, rfl, h⟩ := reps1 r
        obtain ⟨a, xs, rfl, s, r1⟩ := rep_lst h
        refine .inl (.inr ⟨a, xs, ps, fun v p => Rep K Hs (prT p) v, rfl, .inl (sb_rd sb s), reps_all2.mp r1, fun x p g => ?_, fun ys l h1 h2 => ?_⟩)
        · obtain ⟨t, zs, rfl, s2, r2⟩ := rep_tup g
          have := reps_ints (ns := [p.1, p.2]) r2
          subst this
          exact ⟨t, rfl, sqT_mono sb.same s2⟩
        · exact k l _ h2 (reps_all2.mpr h1)
  · rename_i l0
    cases h2 : intsP l0 with
    | none => rw [h2] at e; cases e
    | some ns =>
      rw [h2] at e
      cases e
      have := intsP_some h2
      subst this
      obtain ⟨v, rfl, h⟩ := reps1 r
      obtain ⟨a, xs, rfl, s, r1⟩ := rep_tup h
      have := reps_ints r1
      subst this
      refine .inr ⟨a, ns, rfl, sqT_mono sb.same s, fun ns' p hp hs hn => ?_⟩
      have := srt_eq hp hs
      subst this
      exact k p _ hn (mk_reps _)
  · cases e
def fSortA (l : List PV) : Option PV := (lSortA l).map .list
theorem ad_sortA {K : Fg} : ClA K (rSortedA K) fSortA := by
  intro Hs H l z vs Q e r sb k
  unfold fSortA at e
  cases h : lSortA l with
  | none => rw [h] at e; cases e
  | some zs =>
    rw [h] at e
    cases e
    refine ad_lSortA Hs H l zs vs Q h r sb fun D xs hD q => ?_
    exact k _ _ _ (PStp.alloc (o := .lst xs) sb hD trivial) (mk_lst (.inl upd_same) (Reps.mono (PStp.alloc (o := .lst xs) sb hD trivial).st.hs _ _ q))
end L9

set_option Elab.async false
set_option linter.all false
set_option maxRecDepth 100000
namespace L9
open PySem PySem.Spec
open PyProof.Rows hiding St
open L2 L3
/-! ### len(set(xs)): xs a list or a tuple of ints -/
/-- each once -/
def dd : List Int → List Int
  | [] => []
  | a :: l => if a ∈ l then dd l else a :: dd l
theorem dd_mem : ∀ (l : List Int) (x : Int), x ∈ dd l ↔ x ∈ l
  | [], x => by simp [dd]
  | a :: l, x => by
    unfold dd
    split
    · rename_i h
      rw [dd_mem l x, List.mem_cons]
      exact ⟨.inr, fun h2 => h2.elim (fun e => e ▸ h) id⟩
    · rw [List.mem_cons, List.mem_cons, dd_mem l x]
theorem dd_nodup : ∀ l : List Int, (dd l).Nodup
  | [] => List.nodup_nil
  | a :: l => by
    unfold dd
    split
    · exact dd_nodup l
    · rename_i h
      exact List.nodup_cons.mpr ⟨fun h2 => h ((dd_mem l a).mp h2), dd_nodup l⟩
theorem dd_le : ∀ l : List Int, (dd l).length ≤ l.length
  | [] => Nat.le_refl _
  | a :: l => by
    have := dd_le l
    unfold dd
    split <;> simp only [List.length_cons] <;> omega
theorem dd_all : ∀ l : List Int, (dd l).length = l.length ↔ l.Nodup
  | [] => by simp [dd]
  | a :: l => by
    have h1 := dd_le l
    have h2 := dd_all l
    unfold dd
    rw [List.nodup_cons]
    split
    · rename_i h
      simp only [List.length_cons]
      exact ⟨fun e => absurd e (by omega), fun ⟨e, _⟩ => absurd h e⟩
    · rename_i h
      simp only [List.length_cons, Nat.add_right_cancel_iff]
      exact ⟨fun e => ⟨h, h2.mp e⟩, fun ⟨_, e⟩ => h2.mpr e⟩
theorem nd_len {α : Type} [DecidableEq α] : ∀ (l D : List α), l.Nodup → (∀ x ∈ l, x ∈ D) → l.length ≤ D.length
  | [], D, _, _ => Nat.zero_le _
  | a :: l, D, h, hs => by
    obtain ⟨h1, h2⟩ := List.nodup_cons.mp h
    have ha := hs a List.mem_cons_self
    have := nd_len l (D.erase a) h2 fun x hx => (List.mem_erase_of_ne fun e => h1 (by rw [← e]; exact hx)).mpr (hs x (List.mem_cons_of_mem _ hx))
    rw [List.length_erase_of_mem ha] at this
    have := List.length_pos_of_mem ha
    simp only [List.length_cons]
    omega
theorem nd_len2 {l D : List Int} (h1 : l.Nodup) (h2 : D.Nodup) (h : ∀ x, x ∈ l ↔ x ∈ D) : l.length = D.length :=
  Nat.le_antisymm (nd_len l D h1 fun x => (h x).mp) (nd_len D l h2 fun x => (h x).mpr)
theorem fold_dd : ∀ (l acc : List Int), acc.Nodup → (l.foldl step_dedup acc).Nodup ∧ ∀ x, x ∈ l.foldl step_dedup acc ↔ x ∈ acc ∨ x ∈ l
  | [], acc, h => ⟨h, by simp⟩
  | a :: l, acc, h => by
    have e : step_dedup acc a = if a ∈ acc then acc else acc ++ [a] := by
      unfold step_dedup
      have : (acc.any (· == a)) = true ↔ a ∈ acc := by
        rw [List.any_eq_true]
        exact ⟨fun ⟨x, h1, h2⟩ => by rw [← beq_iff_eq.mp h2]; exact h1, fun h => ⟨a, h, by simp⟩⟩
      by_cases h2 : a ∈ acc
      · rw [if_pos (this.mpr h2), if_pos h2]
      · rw [if_neg (fun h3 => h2 (this.mp h3)), if_neg h2]
    rw [List.foldl_cons, e]
    split
    · rename_i ha
      obtain ⟨h1, h2⟩ := fold_dd l acc h
      refine ⟨h1, fun x => ?_⟩
      rw [h2 x, List.mem_cons]
      exact ⟨fun h3 => h3.elim .inl fun h4 => .inr (.inr h4), fun h3 => h3.elim .inl fun h4 => h4.elim (fun e => .inl (e ▸ ha)) .inr⟩
    · rename_i ha
      obtain ⟨h1, h2⟩ := fold_dd l (acc ++ [a]) (List.nodup_append.mpr ⟨h, by simp, by
        intro x hx y hy
        rw [List.mem_singleton.mp hy]
        rintro rfl
        exact ha hx⟩)
      refine ⟨h1, fun x => ?_⟩
      rw [h2 x]
      simp only [List.mem_append, List.mem_cons, List.not_mem_nil, or_false]
      exact or_assoc
theorem fm_list (ns : List Int) : (List.range ns.length).map (fun i => ns.getD i 0) = ns := by
  apply List.ext_getElem
  · simp
  · intro i h1 h2
    simp [List.getD_eq_getElem?_getD, List.getElem?_eq_getElem h2]
theorem fm_len (ns : List Int) : (firstMet (fun i => ns.getD i 0) ns.length).length = (dd ns).length := by
  unfold firstMet
  rw [fm_list]
  obtain ⟨h1, h2⟩ := fold_dd ns [] List.nodup_nil
  exact nd_len2 h1 (dd_nodup ns) fun x => by rw [h2 x, dd_mem]; simp
section
variable {X : Cx}
def tLenSetA (K : Fg) (ta : TE) : TE := fun σ H Q => ta σ H fun x H1 => ∃ (l : Addr) (ns : List Int), x = V.ref l ∧ (SqL K H1 l (ns.map V.int) ∨ SqT K H1 l (ns.map V.int)) ∧ ns.length < 64 ∧ Q (.int (dd ns).length) H1
theorem pe_lenSetA {a : Expr} {ta : TE} {p p2 q pos : Pos} (hc : X.calm = true) (hg : Gl X "len") (hm : X.mg "len" = none) (hg2 : Gl X "set") (hm2 : X.mg "set" = none) (ha : PE X a ta)
    (na : starEach [a] X.env = (false, eval a X.env) :: starEach [] X.env := by rfl) : PE X (.Call (.Name "len" p) [.Call (.Name "set" p2) [a] [] q] [] pos) (tLenSetA X.K ta) := by
  refine ⟨fun pins s σ H Q I h => ?_⟩
  refine Call_ (ld_blt I hg hm PySem.boot_len ?_)
  refine PyProof.Rows.callWith_builtin1 (PyProof.Rows.args_cons ?_ rfl) rfl rfl
  refine Call_ (ld_blt I hg2 hm2 PyProof.Rows.boot_set ?_)
  refine PyProof.Rows.callWith_type1 (PyProof.Rows.args_cons (thn (ha.run pins s σ H _ I h) fun v s1 ⟨x, H1, I1, r1, q1⟩ => PyProof.Rows.args_nil ?_) na) na rfl
  obtain ⟨l, ns, rfl, hq, h1, q1⟩ := q1
  cases r1
  have hdl := dd_le ns
  rcases hq with hq | hq
  · obtain ⟨its, r, pl, hz⟩ := I1.list hq
    have hl : its.toArray.size = ns.length := by rw [List.size_toArray, ← r.length, List.length_map]
    refine call_set_list (I1.ok.hd hc) pl.isList (ns := ns) (by simpa using r.ints) (by unfold scanBound; omega) fun h' tk hS hk => ?_
    rw [hl, fm_len] at hS
    refine PyProof.Rows.args_nil ?_
    obtain ⟨o, es, ep, t, ho, hex, hd, _, _, _, hf, hn⟩ := hS
    have I2 : Inv X pins σ H1 { s1 with heap := h', toks := tk } := I1.kept fun b o e => hk b o (Heap.lt_size e) e
    refine call_len_set ho hex hd hf (by rw [hn] <;> omega) ⟨.int (dd ns).length, H1, I2.tok _, ⟨_, by rw [hn]⟩, q1⟩
  · obtain ⟨its, r, pl, hz⟩ := I1.tuple hq
    refine call_set_tupI ns (I1.ok.hd hc) pl (by simpa using r.ints) (by unfold scanBound; omega) fun h' tk c hS hcl hk => ?_
    refine PyProof.Rows.args_nil ?_
    obtain ⟨o, es, ep, t, ho, hex, hd, _, hnd, hmem, _, hf, hn, _⟩ := hS
    have hcn : es.size = (dd ns).length := by
      have := nd_len2 hnd (dd_nodup ns) fun x => by rw [← hmem x, dd_mem]; simp
      rw [← this]; simp
    have I2 : Inv X pins σ H1 { s1 with heap := h', toks := tk } := I1.kept fun b o e => hk b o e
    refine call_len_set ho hex hd hf (by rw [hcn] <;> omega) ⟨.int (dd ns).length, H1, I2.tok _, ⟨_, by rw [hcn]⟩, q1⟩
end
def lenSetI (l : List PV) : Option PV := match intsP l with
  | some ns => if ns.length < 64 then some (.int ((dd ns).length : Nat)) else none
  | none => none
def fLenSet : PV → Option PV
  | .list l => lenSetI l
  | .tuple l => lenSetI l
  | _ => none
theorem lenSetI_ints {ns : List Int} (h : ns.length < 64) : lenSetI (ns.map .int) = some (.int ((dd ns).length : Nat)) := by
  unfold lenSetI
  rw [intsP_map]
  simp [h]
section
variable {X : Cx} {S : Type} {o : Ops S} {md : Md X.K o} {a : Expr} {m : M S PV}
theorem g_lenSet {p p2 q pos : Pos} (hc : X.calm = true) (hg : Gl X "len") (hm : X.mg "len" = none) (hg2 : Gl X "set") (hm2 : X.mg "set" = none) (ha : PE X a (tG md m))
    (na : starEach [a] X.env = (false, eval a X.env) :: starEach [] X.env := by rfl) : PE X (.Call (.Name "len" p) [.Call (.Name "set" p2) [a] [] q] [] pos) (tG md (mUn fLenSet m)) := by
  refine peImp (pe_lenSetA hc hg hm hg2 hm2 ha na) fun σ H Q ⟨Hs, U, st, pv, st', hR, hm, k⟩ => ?_
  refine tG_seq hR hm fun x st1 v Hs1 U1 H1 e1 e2 r1 s1 p1 => ?_
  obtain ⟨e5, e6⟩ := lft_some e2
  subst e6
  have sb := md.sub r1
  unfold fLenSet at e5
  split at e5
  · rename_i l
    unfold lenSetI at e5
    split at e5
    · rename_i ns h2
      split at e5
      · cases e5
        have := intsP_some h2
        subst this
        obtain ⟨a, xs, rfl, s, r⟩ := rep_lst p1
        have := reps_ints r
        subst this
        exact ⟨a, ns, rfl, .inl (.inl (sb_rd sb s)), by assumption, fin_step r1 s1 k _ _ _ (.refl sb) mk_int⟩
      · cases e5
    · cases e5
  · rename_i l
    unfold lenSetI at e5
    split at e5
    · rename_i ns h2
      split at e5
      · cases e5
        have := intsP_some h2
        subst this
        obtain ⟨a, xs, rfl, s, r⟩ := rep_tup p1
        have := reps_ints r
        subst this
        exact ⟨a, ns, rfl, .inr (sqT_mono sb.same s), by assumption, fin_step r1 s1 k _ _ _ (.refl sb) mk_int⟩
      · cases e5
    · cases e5
  · cases e5
end
end L9

set_option Elab.async false
set_option linter.all false
set_option maxRecDepth 100000
namespace L9
open PySem PySem.Spec
open PyProof.Rows hiding St
open L2 L3
/-! ### tuple(reversed(xs)), x *= n -/
def fTupRev : PV → Option PV
  | .list l => some (.tuple l.reverse)
  | _ => none
section
variable {X : Cx} {S : Type} {o : Ops S} {md : Md X.K o} {e : Expr} {m : M S PV}
theorem g_tupRev {p p2 pos pos2 : Pos} (hc : X.calm = true) (hg : Gl X "tuple") (hm : X.mg "tuple" = none) (hg2 : Gl X "reversed") (hm2 : X.mg "reversed" = none) (he : PE X e (tG md m))
    (hs : starEach [e] X.env = (false, eval e X.env) :: starEach [] X.env := by rfl)
    (hs2 : starEach [.Call (.Name "reversed" p2) [e] [] pos2] X.env = (false, eval (.Call (.Name "reversed" p2) [e] [] pos2) X.env) :: starEach [] X.env := by rfl) :
    PE X (.Call (.Name "tuple" p) [.Call (.Name "reversed" p2) [e] [] pos2] [] pos) (tG md (mUn fTupRev m)) := by
  refine peImp (RT.pe_tupRev hc hg hm hg2 hm2 he hs hs2) fun σ H Q ⟨Hs, U, st, pv, st', hR, hm, k⟩ => ?_
  refine tG_seq hR hm fun x st1 v Hs1 U1 H1 e1 e2 r1 s1 p1 => ?_
  obtain ⟨e5, e6⟩ := lft_some e2
  subst e6
  have sb := md.sub r1
  unfold fTupRev at e5
  split at e5
  · cases e5
    obtain ⟨a, xs, rfl, s, r⟩ := rep_lst p1
    exact ⟨a, xs, rfl, .inl (sb_rd sb s), new_tup (z := .none) sb (Reps.rev r) (fin_step r1 s1 k)⟩
  · cases e5
end
theorem ip_mulW {X : Cx} : OpR X (inplaceOp .Mult) (rI CMulW fun i j => .int (i * j)) := opI fun _ _ _ _ _ _ _ hc q => imul_int q hc.ok
def fMulI : PV → PV → Option PV
  | .int i, .int j => if mulOk i j = true then some (.int (i * j)) else none
  | _, _ => none
theorem ad_ipMul {K : Fg} : OpA K (rI CMulW fun i j => .int (i * j)) fMulI := by
  intro Hs H x y z v w Q e rx ry sb k
  unfold fMulI at e
  split at e
  · split at e
    · rename_i hl
      cases e
      unfold mulOk at hl
      have hl := of_decide_eq_true hl
      exact ⟨_, _, rep_int rx, rep_int ry, hl, k _ Hs H (.refl sb) mk_int⟩
    · cases e
  · cases e
@[simp] theorem v_mulI (i j : Int) : fMulI (.int i) (.int j) = if mulOk i j = true then some (.int (i * j)) else none := rfl
@[simp] theorem v_tupRev (l : List PV) : fTupRev (.list l) = some (.tuple l.reverse) := rfl
end L9
namespace L9
open PySem PySem.Spec
open PyProof.Rows hiding St
open L2 L3
theorem ip_mulP {X : Cx} : PIp X .Mult (rI CMulW fun i j => .int (i * j)) := fun pins s σ H x y v u Q I r1 r2 h => by
  exact ip_mulW pins s σ H x y v u Q I r1 r2 h
end L9

set_option Elab.async false
set_option linter.all false
set_option maxRecDepth 100000
namespace L9
open PySem PySem.Spec
open PyProof.Rows hiding St
open L2 L3
/-! ### an owned list + e, e read as it is -/
def psOf : List OV → Option (List PV)
  | [] => some []
  | .p v :: xs => match psOf xs with
    | some l => some (v :: l)
    | none => none
  | .l _ :: _ => none
@[simp] theorem psOf_p : ∀ l : List PV, psOf (l.map .p) = some l
  | [] => rfl
  | v :: l => by simp only [List.map_cons, psOf, psOf_p l]
theorem psOf_ok : ∀ {xs : List OV} {l : List PV}, psOf xs = some l → xs = l.map .p
  | [], l, h => by cases h; rfl
  | .p v :: xs, l, h => by
    unfold psOf at h
    split at h
    · rename_i l' e
      cases h
      rw [psOf_ok e]; rfl
    · cases h
  | .l _ :: _, l, h => by cases h
theorem ors_reps {K : Fg} {H Hs : Hp} : ∀ {l : List PV} {vs : List V} {F : List Addr}, ORs K H Hs (l.map .p) vs F → Reps K Hs l vs
  | [], vs, F, h => by
    simp only [List.map_nil, ORs] at h
    obtain ⟨rfl, _⟩ := h
    simp [Reps]
  | v :: l, vs, F, h => by
    simp only [List.map_cons, ORs, OR] at h
    obtain ⟨x, vr, F1, F2, rfl, _, ⟨_, h1⟩, h2⟩ := h
    exact .cons h1 (ors_reps h2)
def mCat (i : Nat) (m : M Env0 PV) : M Env0 (List PV) := fun st => match getL st i with
  | none => none
  | some _ => match m st with
    | some (.list b, st1) => match getL st1 i with
      | some xs => match psOf xs with
        | some a => if (a ++ b).length ≤ LIM then some (a ++ b, st1) else none
        | none => none
      | none => none
    | _ => none
section
variable {X : Cx} {n : Nat} {T : List Addr} {fx : List Nat} {pos : Pos} {e : Expr}
theorem f_cat (i : Nat) {x : Str} {px : Pos} {m : M Env0 PV} (hN : X.N[i]? = some x) (hv : Vis X.env.scope x) (he : PE X e (tG (eM X.K n fx T) m)) (hd : (x == ("__debug__" : Str)) = false := by decide) (hcd : (x == ("__classdict__" : Str)) = false := by decide) :
    PE X (.BinOp (.Name x px) .Add e pos) (tF (eM X.K n fx T) (mCat i m)) := by
  refine peImp (pe_op op_catR (pe_var hN hv hd hcd) he) fun σ H Q ⟨Hs, U, st, l, st', hR, hm, k⟩ => ?_
  unfold mCat at hm
  split at hm
  · cases hm
  · rename_i xs0 e0
    split at hm
    · rename_i b st1 e1
      split at hm
      · rename_i xs e2
        split at hm
        · rename_i a e3
          split at hm
          · rename_i hl
            cases hm
            have hx := psOf_ok e3
            subst hx
            have hR0 := hR
            obtain ⟨Fs, hR'⟩ := hR
            obtain ⟨_, ad, vs0, _, ea, _, ea2, _⟩ := getL_ok hR' e0
            refine ⟨.ref ad, ea, Hs, U, st, _, _, hR0, e1, fun w Hs1 U1 H1 r1 s1 p1 => ?_⟩
            have r1' := r1
            obtain ⟨Fs1, r1⟩ := r1
            obtain ⟨hi, a', vs, F', q3, q4, q5, r5⟩ := getL_ok r1 e2
            rw [ea] at q3; cases q3
            obtain ⟨q, ys, rfl, h2, r2⟩ := rep_lst p1
            have r6 := ors_reps r5
            refine ⟨ad, q, vs, ys, rfl, rfl, .inl q5, sb_rd ((eM X.K n fx T).sub r1') h2, ?_, fun D hD => fin_F r1' s1 k D _ hD (Reps.app r6 r2)⟩
            rw [r6.len, r2.len, ← List.length_append]; exact Nat.le_of_lt (lim_line hl)
          · cases hm
        · cases hm
      · cases hm
    · cases hm
end
end L9

set_option Elab.async false
set_option linter.all false
set_option maxRecDepth 100000
set_option maxHeartbeats 2000000
namespace PeK
open PySem PySem.Spec
open Sem (wp)
/-! ### itertools.permutations: facts -/
theorem mro_pm : mroOf (.type "itertools.permutations") = pure [.type "itertools.permutations", .type "object"] := by rw [mroOf_type]; kernel_rfl
theorem lookup_pm_new : typeLookup (.type "itertools.permutations") "__new__" = pure (some (.builtin "itertools.permutations.__new__")) := by rw [typeLookup_type, builtinLookup_eq_fast]; kernel_rfl
theorem sub_pm : isSubtype (.type "itertools.permutations") (.type "itertools.permutations") = pure true := by rw [isSubtype_type]; kernel_rfl
theorem slot_pm_init : Slot "itertools.permutations" "__init__" "object.__init__" :=
  .of (owner := "object") (n := "__init__") (by rw [typeLookup_type, builtinLookup_eq_fast]; kernel_rfl) (by decide +kernel) (by decide +kernel) (by decide +kernel)
    (by first | exact .inl (by decide +kernel) | exact .inr (by decide +kernel)) (by rw [isSubtype_type]; kernel_rfl)
theorem called_pm : TypeCalled "itertools.permutations" "itertools.permutations.__new__" "object.__init__" :=
  ⟨by decide +kernel, by decide +kernel, ⟨_, _, mro_pm⟩, madeBy_type mro_pm lookup_pm_new (by decide +kernel), by decide +kernel, sub_pm, slot_pm_init⟩
theorem typeCall_pm (a : Value) : checkTypeCall "itertools.permutations" ⟨[a], []⟩ = pure () := by kernel_rfl
theorem newCall_pm (a : Value) : checkBuiltinCall "itertools.permutations.__new__" ⟨[.type "itertools.permutations", a], []⟩ = pure () := by kernel_rfl
theorem entry_pm_new : entryFor table "itertools.permutations.__new__" = some Builtin.«itertools.permutations.__new__» := entryFor_of_tree (by kernel_rfl)
theorem plain_pm_new : plainId "itertools.permutations.__new__" = true := by decide +kernel
theorem slot_pm_iter : Slot "itertools.permutations" "__iter__" "itertools.permutations.__iter__" :=
  .of (owner := "itertools.permutations") (n := "__iter__") (by rw [typeLookup_type, builtinLookup_eq_fast]; kernel_rfl) (by decide +kernel) (by decide +kernel) (by decide +kernel)
    (by first | exact .inl (by decide +kernel) | exact .inr (by decide +kernel)) sub_pm
theorem slot_pm_next : Slot "itertools.permutations" "__next__" "itertools.permutations.__next__" :=
  .of (owner := "itertools.permutations") (n := "__next__") (by rw [typeLookup_type, builtinLookup_eq_fast]; kernel_rfl) (by decide +kernel) (by decide +kernel) (by decide +kernel)
    (by first | exact .inl (by decide +kernel) | exact .inr (by decide +kernel)) sub_pm
theorem entry_pm_iter : entryFor table "itertools.permutations.__iter__" = some Builtin.«dict_keyiterator.__iter__» :=
  entryFor_alias (id' := "dict_keyiterator.__iter__") (by kernel_rfl) (by first | rfl | decide +kernel | (unfold String.splitOn; simp +decide [String.splitOnAux])) (by decide +kernel) (by kernel_rfl)
theorem entry_pm_next : entryFor table "itertools.permutations.__next__" = some Builtin.«itertools.permutations.__next__» := entryFor_of_tree (by kernel_rfl)
theorem owner_pm : Manifest.owners.lookup (String.ofList ['s', 'n', 'o', 'i', 't', 'a', 't', 'u', 'm', 'r', 'e', 'p', '.', 's', 'l', 'o', 'o', 't', 'r', 'e', 't', 'i'].reverse) = some Manifest.sig_itertools_permutations := by kernel_rfl
theorem args_pm_iter (a : Value) : argsOk "itertools.permutations.__iter__" ⟨[a], []⟩ := by
  unfold argsOk; rw [signature?_of (id := "itertools.permutations.__iter__") (n := ['_', '_', 'r', 'e', 't', 'i', '_', '_']) (o := ['s', 'n', 'o', 'i', 't', 'a', 't', 'u', 'm', 'r', 'e', 'p', '.', 's', 'l', 'o', 'o', 't', 'r', 'e', 't', 'i']) (by kernel_rfl) owner_pm]; kernel_rfl
theorem args_pm_next (a : Value) : argsOk "itertools.permutations.__next__" ⟨[a], []⟩ := by
  unfold argsOk; rw [signature?_of (id := "itertools.permutations.__next__") (n := ['_', '_', 't', 'x', 'e', 'n', '_', '_']) (o := ['s', 'n', 'o', 'i', 't', 'a', 't', 'u', 'm', 'r', 'e', 'p', '.', 's', 'l', 'o', 'o', 't', 'r', 'e', 't', 'i']) (by kernel_rfl) owner_pm]; kernel_rfl
theorem noDict_pm : typeHasDict (.type "itertools.permutations") = false := by decide +kernel
theorem nolen_pm : typeLookup (.type "itertools.permutations") "__len__" = pure none := by rw [typeLookup_type, builtinLookup_eq_fast]; kernel_rfl
theorem nohint_pm : typeLookup (.type "itertools.permutations") "__length_hint__" = pure none := by rw [typeLookup_type, builtinLookup_eq_fast]; kernel_rfl
/-- the next order: the program's own step, over numbers alone -/
def nxt (n : Nat) : (place : Nat) → (indices cycles : List Nat) → Option (List Nat × List Nat)
  | 0, _, _ => none
  | i + 1, indices, cycles =>
    let c := cycles.getD i 0 - 1
    if c == 0 then nxt n i (indices.take i ++ indices.drop (i + 1) ++ [indices.getD i 0]) (cycles.set i (n - i))
    else some ((indices.set i (indices.getD (n - c) 0)).set (n - c) (indices.getD i 0), cycles.set i c)
def nextT : Builtin := fun args => do
  let (self, _) ← slotArgs "__next__" 0 args
  let items ← Builtin.Itertools.itPoolItems (← field self 0)
  let n := items.size
  let r := (← Builtin.Itertools.itIntField self 2).toNat
  let numbers ← Builtin.Itertools.itNumbersFrom self 4
  let result (indices : List Nat) : Sem PySem.Fin := do
    let t ← newTuple ((indices.take r).map fun i => items.getD i .none)
    let before ← field self 3
    setField self 3 t
    letGo [before] [t]
    ret t
  match ← Builtin.Itertools.itIntField self 1 with
  | 0 => setField self 1 (rawInt 1); result numbers
  | 1 =>
    match nxt n r (numbers.take n) (numbers.drop n) with
    | some (indices, cycles) => Builtin.Itertools.itSetNumbersFrom self 4 (indices ++ cycles); result indices
    | none => setField self 1 (rawInt 2); Builtin.Itertools.itStop
  | _ => rule "itertools.permutations.ended"; Builtin.Itertools.itStop
theorem next_eq : Builtin.«itertools.permutations.__next__» = nextT := by kernel_rfl
end PeK

namespace PeK
open PySem PySem.Spec
open Sem (wp)
def pmF (pool : Addr) (st n : Nat) (last : Value) (nums : List Nat) : Array Value := (([.ref pool, rawInt st, rawInt n, last] : List Value) ++ nums.map fun (i : Nat) => rawInt i).toArray
abbrev IsPm (h : Heap) (it pool : Addr) (st n : Nat) (last : Value) (nums : List Nat) : Prop := h.get? it = some { cls := .type "itertools.permutations", dict := none, data := .fields (pmF pool st n last nums), slots := #[] }
abbrev IsPl (h : Heap) (pool : Addr) (items : List Value) : Prop := h.get? pool = some { cls := .type "tuple", dict := none, data := .seq items.toArray, slots := #[] }
theorem pm_set1 (pool : Addr) (st st' n : Nat) (last : Value) (nums : List Nat) : (pmF pool st n last nums).setIfInBounds 1 (rawInt st') = pmF pool st' n last nums := by
  unfold pmF; simp
theorem pm_set3 (pool : Addr) (st n : Nat) (last x : Value) (nums : List Nat) : (pmF pool st n last nums).setIfInBounds 3 x = pmF pool st n x nums := by
  unfold pmF; simp
theorem pm_size (pool : Addr) (st n : Nat) (last : Value) (nums : List Nat) : (pmF pool st n last nums).size = 4 + nums.length := by
  unfold pmF; simp; omega
theorem pm_nums (pool : Addr) (st n : Nat) (last : Value) (nums : List Nat) : ((pmF pool st n last nums).toList.drop 4).map (fun | .int n _ => n.toNat | _ => 0) = nums := by
  unfold pmF
  simp only [List.cons_append, List.nil_append, List.drop_succ_cons, List.drop_zero, List.map_map]
  rw [List.map_congr_left (g := id) (fun i _ => by simp [rawInt])]
  simp
theorem pm_numsF (pool : Addr) (st n : Nat) (last : Value) (nums : List Nat) (f : Value → Nat) (hf : ∀ i : Nat, f (rawInt i) = i) : ((pmF pool st n last nums).toList.drop 4).map f = nums := by
  unfold pmF
  simp only [List.cons_append, List.nil_append, List.drop_succ_cons, List.drop_zero, List.map_map]
  rw [show (f ∘ fun (i : Nat) => rawInt i) = id from funext fun i => hf i, List.map_id]
theorem pm_put (pool : Addr) (st n : Nat) (last : Value) (nums nums' : List Nat) : (pmF pool st n last nums).extract 0 4 ++ (nums'.map fun (n : Nat) => rawInt n).toArray = pmF pool st n last nums' := by
  unfold pmF
  apply Array.ext'
  simp
section
variable {prog : Program} {w : World} {A : Around} {E : Value → Shared → Prop} {s : Shared}
def resT (self : Value) (items : Array Value) (r : Nat) (indices : List Nat) : Sem PySem.Fin := do
  let t ← newTuple ((indices.take r).map fun i => items.getD i .none)
  let before ← field self 3
  setField self 3 t
  letGo [before] [t]
  ret t
def picked (items : List Value) (r : Nat) (ind : List Nat) : List Value := (ind.take r).map fun i => items.toArray.getD i .none
theorem wp_res {it pool : Addr} {st n r : Nat} {last : Value} {nums ind : List Nat} {items : List Value} {Q : PySem.Fin → Shared → Prop} (hit : IsPm s.heap it pool st n last nums) (hr : r ≤ 100)
    (h : ∀ h', IsPm h' it pool st n (.ref s.heap.objs.size) nums → IsPl h' s.heap.objs.size (picked items r ind) → (∀ b o, b ≠ it → s.heap.get? b = some o → h'.get? b = some o) → Q (.done (.ret (.ref s.heap.objs.size))) { s with heap := h' }) :
    wpAny (model prog w) A (resT (.ref it) items.toArray r ind) Q E s := by
  unfold resT
  refine wpAny_bind (wpAny_newTuple ?_ (by rw [List.length_map]; have := List.length_take_le r ind; rw [sizeLine_eq]; omega))
  have hne : it ≠ s.heap.objs.size := Nat.ne_of_lt (Heap.lt_size hit)
  have hit1 : IsPm (s.heap.push { cls := .type "tuple", data := .seq (picked items r ind).toArray }) it pool st n last nums := Heap.get?_push_of_some _ hit
  have ht1 : IsPl (s.heap.push { cls := .type "tuple", data := .seq (picked items r ind).toArray }) s.heap.objs.size (picked items r ind) := Heap.get?_push_size _ rfl
  refine wpAny_bind (wpAny_field (s := { s with heap := s.heap.push { cls := .type "tuple", data := .seq (picked items r ind).toArray } }) hit1 rfl (x := last) (by unfold pmF; simp) ?_)
  refine wpAny_bind (wpAny_setField (s := { s with heap := s.heap.push { cls := .type "tuple", data := .seq (picked items r ind).toArray } }) hit1 rfl (by rw [pm_size]; omega) ?_)
  refine wpAny_bind (wpAny_letGo (wpAny_pure (h _ ?_ ?_ ?_)))
  · have e := Heap.get?_update_self (Obj.mapFields (·.setIfInBounds 3 (.ref s.heap.objs.size))) hit1 rfl
    rw [IsPm, e]
    simp [Obj.mapFields, pm_set3]
  · exact (Heap.get?_update_other _ _ hne).trans ht1
  · intro b o hb e
    exact (Heap.get?_update_other _ _ (Ne.symm hb)).trans (Heap.get?_push_of_some _ e)
end
end PeK

namespace PeK
open PySem PySem.Spec
open Sem (wp)
section
variable {prog : Program} {w : World} {A : Around} {E : Value → Shared → Prop} {s : Shared}
theorem IsPm.typeIs {it pool : Addr} {st n : Nat} {last : Value} {nums : List Nat} (h : IsPm s.heap it pool st n last nums) : s.TypeIs (.ref it) "itertools.permutations" := ⟨_, h, rfl⟩
theorem next_first {it pool : Addr} {n : Nat} {last : Value} {nums : List Nat} {items : List Value} {Q : PySem.Fin → Shared → Prop} (hit : IsPm s.heap it pool 0 n last nums) (hpl : IsPl s.heap pool items) (hr : n ≤ 100)
    (h : ∀ h', IsPm h' it pool 1 n (.ref s.heap.objs.size) nums → IsPl h' s.heap.objs.size (picked items n nums) → (∀ b o, b ≠ it → s.heap.get? b = some o → h'.get? b = some o) → Q (.done (.ret (.ref s.heap.objs.size))) { s with heap := h' }) :
    wpAny (model prog w) A (Builtin.«itertools.permutations.__next__» ⟨[.ref it], []⟩) Q E s := by
  rw [next_eq]
  unfold nextT
  refine wpAny_bind (wpAny_of_eq (a := (Value.ref it, [])) rfl ?_)
  try dsimp only
  refine wpAny_bind (wpAny_field hit rfl (x := .ref pool) (by unfold pmF; simp) ?_)
  refine wpAny_bind ?_
  unfold Builtin.Itertools.itPoolItems
  refine wpAny_bind (wpAny_seqItems hpl rfl (wpAny_pure ?_))
  try dsimp only
  refine wpAny_bind ?_
  unfold Builtin.Itertools.itIntField
  refine wpAny_bind (wpAny_field hit rfl (x := rawInt n) (by unfold pmF; simp) ?_)
  refine wpAny_pure ?_
  refine wpAny_bind ?_
  unfold Builtin.Itertools.itNumbersFrom
  refine wpAny_bind (wpAny_load hit ?_)
  refine wpAny_pure ?_
  refine wpAny_bind ?_
  refine wpAny_bind (wpAny_field hit rfl (x := rawInt (0 : Nat)) (by unfold pmF; simp) ?_)
  refine wpAny_pure ?_
  rw [pm_numsF _ _ _ _ _ _ (fun i => rfl)]
  rw [show (((n : Nat) : Int)).toNat = n from Int.toNat_natCast n]
  show wpAny _ _ (setField (.ref it) 1 (rawInt 1) >>= fun _ => resT (.ref it) items.toArray n nums) _ _ _
  refine wpAny_bind (wpAny_setField hit rfl (by rw [pm_size]; omega) ?_)
  have e := Heap.get?_update_self (Obj.mapFields (·.setIfInBounds 1 (rawInt ((1 : Nat) : Int)))) hit rfl
  have hit1 : IsPm (s.heap.update it (Obj.mapFields (·.setIfInBounds 1 (rawInt ((1 : Nat) : Int))))) it pool 1 n last nums := by
    rw [IsPm, e]
    simp only [Obj.mapFields, pm_set1]
  have hsz : (s.heap.update it (Obj.mapFields (·.setIfInBounds 1 (rawInt ((1 : Nat) : Int))))).objs.size = s.heap.objs.size := by simp [Heap.update]
  refine wp_res (s := { s with heap := s.heap.update it (Obj.mapFields (·.setIfInBounds 1 (rawInt ((1 : Nat) : Int)))) }) hit1 hr fun h' a1 a2 a3 => ?_
  simp only [hsz] at a1 a2 a3 ⊢
  exact h h' a1 a2 fun b o hb eb => a3 b o hb ((Heap.get?_update_other _ _ (Ne.symm hb)).trans eb)
theorem next_more {it pool : Addr} {n : Nat} {last : Value} {nums ind cyc : List Nat} {items : List Value} {Q : PySem.Fin → Shared → Prop} (hit : IsPm s.heap it pool 1 n last nums) (hpl : IsPl s.heap pool items) (hr : n ≤ 100)
    (hn : nxt items.length n (nums.take items.length) (nums.drop items.length) = some (ind, cyc)) (hz : (ind ++ cyc).length ≤ 1000) (hz2 : nums.length ≤ 1000)
    (h : ∀ h', IsPm h' it pool 1 n (.ref s.heap.objs.size) (ind ++ cyc) → IsPl h' s.heap.objs.size (picked items n ind) → (∀ b o, b ≠ it → s.heap.get? b = some o → h'.get? b = some o) → Q (.done (.ret (.ref s.heap.objs.size))) { s with heap := h' }) :
    wpAny (model prog w) A (Builtin.«itertools.permutations.__next__» ⟨[.ref it], []⟩) Q E s := by
  rw [next_eq]
  unfold nextT
  refine wpAny_bind (wpAny_of_eq (a := (Value.ref it, [])) rfl ?_)
  try dsimp only
  refine wpAny_bind (wpAny_field hit rfl (x := .ref pool) (by unfold pmF; simp) ?_)
  refine wpAny_bind ?_
  unfold Builtin.Itertools.itPoolItems
  refine wpAny_bind (wpAny_seqItems hpl rfl (wpAny_pure ?_))
  try dsimp only
  refine wpAny_bind ?_
  unfold Builtin.Itertools.itIntField
  refine wpAny_bind (wpAny_field hit rfl (x := rawInt n) (by unfold pmF; simp) ?_)
  refine wpAny_pure ?_
  refine wpAny_bind ?_
  unfold Builtin.Itertools.itNumbersFrom
  refine wpAny_bind (wpAny_load hit ?_)
  refine wpAny_pure ?_
  refine wpAny_bind ?_
  refine wpAny_bind (wpAny_field hit rfl (x := rawInt (1 : Nat)) (by unfold pmF; simp) ?_)
  refine wpAny_pure ?_
  rw [pm_numsF _ _ _ _ _ _ (fun i => rfl)]
  rw [show (((n : Nat) : Int)).toNat = n from Int.toNat_natCast n]
  have hs2 : items.toArray.size = items.length := List.size_toArray
  rw [hs2]
  show wpAny _ _ (match nxt items.length n (nums.take items.length) (nums.drop items.length) with
        | some (indices, cycles) => (Builtin.Itertools.itSetNumbersFrom (.ref it) 4 (indices ++ cycles) >>= fun _ => resT (.ref it) items.toArray n indices)
        | none => (setField (.ref it) 1 (rawInt 2) >>= fun _ => Builtin.Itertools.itStop)) _ _ _
  rw [hn]
  show wpAny _ _ (updateFields it (fun fs => fs.extract 0 4 ++ ((ind ++ cyc).map fun (n : Nat) => rawInt n).toArray) >>= fun _ => resT (.ref it) items.toArray n ind) _ _ _
  refine wpAny_bind (wpAny_updateFields hit rfl ?_ (by rw [pm_put, pm_size, sizeLine_eq]; omega))
  have e := Heap.get?_update_self (Obj.mapFields (fun fs => fs.extract 0 4 ++ ((ind ++ cyc).map fun (n : Nat) => rawInt n).toArray)) hit rfl
  have hit1 : IsPm (s.heap.update it (Obj.mapFields (fun fs => fs.extract 0 4 ++ ((ind ++ cyc).map fun (n : Nat) => rawInt n).toArray))) it pool 1 n last (ind ++ cyc) := by
    rw [IsPm, e]
    simp only [Obj.mapFields, pm_put]
  have hsz : (s.heap.update it (Obj.mapFields (fun fs => fs.extract 0 4 ++ ((ind ++ cyc).map fun (n : Nat) => rawInt n).toArray))).objs.size = s.heap.objs.size := by simp [Heap.update]
  refine wp_res (s := { s with heap := s.heap.update it (Obj.mapFields (fun fs => fs.extract 0 4 ++ ((ind ++ cyc).map fun (n : Nat) => rawInt n).toArray)) }) hit1 hr fun h' a1 a2 a3 => ?_
  simp only [hsz] at a1 a2 a3 ⊢
  exact h h' a1 a2 fun b o hb eb => a3 b o hb ((Heap.get?_update_other _ _ (Ne.symm hb)).trans eb)
end
end PeK

namespace PeK
open PySem PySem.Spec PyProof.Rows
open Sem (wp)
section
variable {prog : Program} {w : World} {A : Around} {E : Value → Shared → Prop} {s : Shared}
theorem py_first {it pool : Addr} {n : Nat} {last : Value} {nums : List Nat} {items : List Value} {Q : Option Value → Shared → Prop} (hit : IsPm s.heap it pool 0 n last nums) (hpl : IsPl s.heap pool items) (hr : n ≤ 100)
    (h : ∀ h', IsPm h' it pool 1 n (.ref s.heap.objs.size) nums → IsPl h' s.heap.objs.size (picked items n nums) → (∀ b o, b ≠ it → s.heap.get? b = some o → h'.get? b = some o) → Q (some (.ref s.heap.objs.size)) { s with heap := h' }) :
    wpAny (model prog w) A (pyNext (.ref it)) Q E s := by
  unfold pyNext
  refine wpAny_bind (wpAny_attempt (wpAny_callSpecial?_slot (name := Str.ofString "__next__") (IsPm.typeIs hit) slot_pm_next
    (wpAny_call_entry slot_pm_next (IsPm.typeIs hit) entry_pm_next ?_ (args_pm_next _))))
  refine next_first hit hpl hr fun h' a1 a2 a3 => ?_
  exact ⟨_, rfl, wpAny_pure (h h' a1 a2 a3)⟩
theorem py_more {it pool : Addr} {n : Nat} {last : Value} {nums ind cyc : List Nat} {items : List Value} {Q : Option Value → Shared → Prop} (hit : IsPm s.heap it pool 1 n last nums) (hpl : IsPl s.heap pool items) (hr : n ≤ 100)
    (hn : nxt items.length n (nums.take items.length) (nums.drop items.length) = some (ind, cyc)) (hz : (ind ++ cyc).length ≤ 1000) (hz2 : nums.length ≤ 1000)
    (h : ∀ h', IsPm h' it pool 1 n (.ref s.heap.objs.size) (ind ++ cyc) → IsPl h' s.heap.objs.size (picked items n ind) → (∀ b o, b ≠ it → s.heap.get? b = some o → h'.get? b = some o) → Q (some (.ref s.heap.objs.size)) { s with heap := h' }) :
    wpAny (model prog w) A (pyNext (.ref it)) Q E s := by
  unfold pyNext
  refine wpAny_bind (wpAny_attempt (wpAny_callSpecial?_slot (name := Str.ofString "__next__") (IsPm.typeIs hit) slot_pm_next
    (wpAny_call_entry slot_pm_next (IsPm.typeIs hit) entry_pm_next ?_ (args_pm_next _))))
  refine next_more hit hpl hr hn hz hz2 fun h' a1 a2 a3 => ?_
  exact ⟨_, rfl, wpAny_pure (h h' a1 a2 a3)⟩
theorem py_end {it pool : Addr} {n : Nat} {last : Value} {nums : List Nat} {items : List Value} {Q : Option Value → Shared → Prop} (hh : A.handled = none) (hit : IsPm s.heap it pool 1 n last nums) (hpl : IsPl s.heap pool items)
    (hn : nxt items.length n (nums.take items.length) (nums.drop items.length) = none)
    (h : ∀ h', (∀ b o, b ≠ it → s.heap.get? b = some o → h'.get? b = some o) → Q none { s with heap := h' }) :
    wpAny (model prog w) A (pyNext (.ref it)) Q E s := by
  unfold pyNext
  refine wpAny_bind (wpAny_attempt (wpAny_callSpecial?_slot (name := Str.ofString "__next__") (IsPm.typeIs hit) slot_pm_next
    (wpAny_call_entry slot_pm_next (IsPm.typeIs hit) entry_pm_next ?_ (args_pm_next _))))
  rw [next_eq]
  unfold nextT
  refine wpAny_bind (wpAny_of_eq (a := (Value.ref it, [])) rfl ?_)
  try dsimp only
  refine wpAny_bind (wpAny_field hit rfl (x := .ref pool) (by unfold pmF; simp) ?_)
  refine wpAny_bind ?_
  unfold Builtin.Itertools.itPoolItems
  refine wpAny_bind (wpAny_seqItems hpl rfl (wpAny_pure ?_))
  try dsimp only
  refine wpAny_bind ?_
  unfold Builtin.Itertools.itIntField
  refine wpAny_bind (wpAny_field hit rfl (x := rawInt n) (by unfold pmF; simp) ?_)
  refine wpAny_pure ?_
  refine wpAny_bind ?_
  unfold Builtin.Itertools.itNumbersFrom
  refine wpAny_bind (wpAny_load hit ?_)
  refine wpAny_pure ?_
  refine wpAny_bind ?_
  refine wpAny_bind (wpAny_field hit rfl (x := rawInt (1 : Nat)) (by unfold pmF; simp) ?_)
  refine wpAny_pure ?_
  rw [pm_numsF _ _ _ _ _ _ (fun i => rfl)]
  rw [show (((n : Nat) : Int)).toNat = n from Int.toNat_natCast n]
  have hs2 : items.toArray.size = items.length := List.size_toArray
  rw [hs2]
  show wpAny _ _ (match nxt items.length n (nums.take items.length) (nums.drop items.length) with
        | some (indices, cycles) => (Builtin.Itertools.itSetNumbersFrom (.ref it) 4 (indices ++ cycles) >>= fun _ => resT (.ref it) items.toArray n indices)
        | none => (setField (.ref it) 1 (rawInt 2) >>= fun _ => Builtin.Itertools.itStop)) _ _ _
  rw [hn]
  show wpAny _ _ (setField (.ref it) 1 (rawInt 2) >>= fun _ => Builtin.Itertools.itStop) _ _ _
  refine wpAny_bind (wpAny_setField hit rfl (by rw [pm_size]; omega) ?_)
  unfold Builtin.Itertools.itStop
  refine wpAny_bind ?_
  simp only [newExc, newTuple]
  refine wpAny_bind (wpAny_newObj_type ?_ (by size_fits))
  refine wpAny_bind (m := firstArgMember _ _) (wpAny_of_eq (a := Value.none) (by first | rfl | (simp only [firstArgMember]; rfl)) ?_)
  refine wpAny_newObj_type ?_ (by size_fits)
  simp only [raiseNew]
  refine wpAny_bind (wpAny_handled ?_)
  first | rw [show A.in1.handled = none from hh] | rw [hh]
  refine wpAny_bind (wpAny_pure (wpAny_throw ?_))
  refine wpAny_bind (wpAny_isInstance (T := "StopIteration") (b := true) ⟨_, Heap.get?_push_size _ rfl, rfl⟩ isSubtype_stop ?_)
  refine wpAny_pure (h _ ?_)
  intro b o hb e
  exact Heap.get?_push_of_some _ (Heap.get?_push_of_some _ ((Heap.get?_update_other _ _ (Ne.symm hb)).trans e))
theorem iter_pm {it pool : Addr} {st n : Nat} {last : Value} {nums : List Nat} {Q : Value → Shared → Prop} (hit : IsPm s.heap it pool st n last nums) (h : Q (.ref it) s) : wpAny (model prog w) A (pyIter (.ref it)) Q E s := by
  refine wpAny_pyIter_slot (IsPm.typeIs hit) slot_pm_iter (wpAny_call_entry slot_pm_iter (IsPm.typeIs hit) entry_pm_iter ?_ (args_pm_iter _))
  show wpAny _ _ (ret (.ref it)) _ _ s
  exact wpAny_pure ⟨_, rfl, "itertools.permutations", _, IsPm.typeIs hit, slot_pm_next.lookup, h⟩
end
end PeK

namespace PeK
open PySem PySem.Spec PyProof.Rows
open Sem (wp)
/-- the orders behind nums -/
def runP (m : Nat) : Nat → List Nat → Option (List (List Nat))
  | 0, _ => none
  | f + 1, nums => match nxt m m (nums.take m) (nums.drop m) with
    | none => some []
    | some (ind, cyc) => if (ind ++ cyc).length ≤ 1000 then (runP m f (ind ++ cyc)).map (ind :: ·) else none
def Got (items : List Value) (m : Nat) (h : Heap) : List Addr → List (List Nat) → Prop
  | [], [] => True
  | a :: as, l :: ls => IsPl h a (picked items m l) ∧ Got items m h as ls
  | _, _ => False
theorem Got.keep {items : List Value} {m : Nat} {h h' : Heap} : ∀ {as : List Addr} {ls : List (List Nat)}, (∀ b o, b ∈ as → h.get? b = some o → h'.get? b = some o) → Got items m h as ls → Got items m h' as ls
  | [], [], _, _ => trivial
  | a :: as, l :: ls, k, ⟨h1, h2⟩ => ⟨k a _ (by simp) h1, Got.keep (fun b o hb => k b o (by simp [hb])) h2⟩
  | [], _ :: _, _, h => h.elim
  | _ :: _, [], _, h => h.elim
theorem Got.length {items : List Value} {m : Nat} {h : Heap} : ∀ {as : List Addr} {ls : List (List Nat)}, Got items m h as ls → as.length = ls.length
  | [], [], _ => rfl
  | a :: as, l :: ls, ⟨_, h2⟩ => by simp [Got.length h2]
  | [], _ :: _, h => h.elim
  | _ :: _, [], h => h.elim
def Asc : Nat → List Addr → Prop
  | _, [] => True
  | lo, a :: as => lo ≤ a ∧ Asc (a + 1) as
theorem Asc.mono : ∀ {lo lo' : Nat} {as : List Addr}, lo' ≤ lo → Asc lo as → Asc lo' as
  | _, _, [], _, _ => trivial
  | _, _, a :: as, h, ⟨h1, h2⟩ => ⟨Nat.le_trans h h1, h2⟩
theorem Asc.ge : ∀ {lo : Nat} {as : List Addr}, Asc lo as → ∀ a ∈ as, lo ≤ a
  | _, a :: as, ⟨h1, h2⟩, b, hb => by
    rcases List.mem_cons.mp hb with rfl | hb
    · exact h1
    · have := Asc.ge h2 b hb; omega
section
variable {prog : Program} {w : World} {A : Around} {s : Shared} {R : Result → Shared → Prop}
abbrev LS (acc : Array Value) (c : Nat) : Obj := { cls := .type "list", dict := none, data := .seq acc c, slots := #[] }
theorem ext_loop {it pool S : Addr} {m : Nat} {items : List Value} {res : Value} (hh : A.handled = none) (hm : m ≤ 100) (hSi : S ≠ it) (hSp : S ≠ pool) (hip : it ≠ pool) (hil : items.length = m) :
    ∀ (f : Nat) (nums : List Nat) (l : List (List Nat)) (s : Shared) (acc : Array Value) (c : Nat) (last : Value), runP m f nums = some l → nums.length ≤ 1000 → IsPm s.heap it pool 1 m last nums → IsPl s.heap pool items →
    s.heap.get? S = some (LS acc c) → acc.size + l.length ≤ 100000 →
    (∀ h' as c', (∀ b o, b ≠ S → b ≠ it → s.heap.get? b = some o → h'.get? b = some o) → h'.get? S = some (LS (acc ++ (as.map Value.ref).toArray) c') → Got items m h' as l → Asc s.heap.objs.size as → R (.ok (.ret res)) { s with heap := h' }) →
    codeAny (model prog w) A (.builtin "list.extend.loop" ⟨[.ref S, .ref it, res], []⟩) R s := by
  intro f
  induction f with
  | zero => intro nums l s acc c last hr; cases hr
  | succ f ih =>
    intro nums l s acc c last hr hz hit hpl hS hsz hR
    refine codeAny_builtin F.entry_extend_loop ?_
    rw [Around.under_plainId F.plain_extend_loop _]
    show wpAny _ A.in1 (pyNext (.ref it) >>= _) _ _ s
    unfold runP at hr
    cases hn : nxt m m (nums.take m) (nums.drop m) with
    | none =>
      rw [hn] at hr
      cases hr
      refine wpAny_bind (py_end (A := A.in1) hh hit hpl (by rw [hil]; exact hn) fun h' hk => ?_)
      refine wpAny_pure ?_
      refine hR h' [] c (fun b o _ hb e => hk b o hb e) ?_ trivial trivial
      have := hk S _ hSi hS
      simpa using this
    | some p =>
      obtain ⟨ind, cyc⟩ := p
      rw [hn] at hr
      simp only at hr
      split at hr
      · rename_i hle
        cases hq : runP m f (ind ++ cyc) with
        | none => rw [hq] at hr; cases hr
        | some l' =>
          rw [hq] at hr
          cases hr
          simp only [List.length_cons] at hsz
          refine wpAny_bind (py_more (A := A.in1) hit hpl hm (by rw [hil]; exact hn) hle hz fun h' a1 a2 a3 => ?_)
          have hS' := a3 S _ hSi hS
          show wpAny _ A.in1 (updateSeq S (·.push (Value.ref s.heap.objs.size)) >>= _) _ _ _
          refine wpAny_bind ?_
          have hneT : S ≠ s.heap.objs.size := Nat.ne_of_lt (Heap.lt_size hS)
          have hneI : it ≠ s.heap.objs.size := Nat.ne_of_lt (Heap.lt_size hit)
          have kS : ∀ b o, b ≠ S → h'.get? b = some o → (h'.update S (Obj.mapSeq (·.push (Value.ref s.heap.objs.size)))).get? b = some o := fun b o hb e => (Heap.get?_update_other _ _ (Ne.symm hb)).trans e
          have hsz' : (h'.update S (Obj.mapSeq (·.push (Value.ref s.heap.objs.size)))).objs.size = h'.objs.size := by simp [Heap.update]
          refine wpAny_updateSeq hS' rfl (wpAny_pure ⟨plainId_quiet F.plain_extend_loop _, ih (ind ++ cyc) l' _ (acc.push (.ref s.heap.objs.size)) _ _ hq hle (kS _ _ (Ne.symm hSi) a1) (kS _ _ (Ne.symm hSp) (a3 _ _ (Ne.symm hip) hpl)) (Heap.get?_update_self _ hS' rfl) (by rw [Array.size_push]; omega) fun h2 as c' b1 b2 b3 b4 => ?_⟩) (by rw [sizeLine_eq]; omega) (by show (acc.push _).size ≤ sizeLine + 1; rw [Array.size_push, sizeLine_eq]; omega)
          have hT : s.heap.objs.size < h'.objs.size := Heap.lt_size a2
          refine hR h2 (s.heap.objs.size :: as) c' (fun b o hb hb2 e => b1 b o hb hb2 (kS b o hb (a3 b o hb2 e))) ?_ ⟨b1 _ _ (Ne.symm hneT) (Ne.symm hneI) (kS _ _ (Ne.symm hneT) a2), b3⟩ ⟨Nat.le_refl _, ?_⟩
          · have e : acc.push (.ref s.heap.objs.size) ++ (as.map Value.ref).toArray = acc ++ ((s.heap.objs.size :: as).map Value.ref).toArray := by
              apply Array.ext'; simp
            rw [← e]; exact b2
          · refine Asc.mono ?_ b4
            show s.heap.objs.size + 1 ≤ _
            rw [hsz']; omega
      · cases hr
end
end PeK

namespace PeK
open PySem PySem.Spec PyProof.Rows
open Sem (wp)
section
variable {prog : Program} {w : World} {A : Around} {s : Shared} {R : Result → Shared → Prop}
/-- all orders of the places below m -/
def permP (m f : Nat) : Option (List (List Nat)) := (runP m f (List.range m ++ (List.range m).map fun i => m - i)).map (List.range m :: ·)
theorem ext_all {it pool S : Addr} {m f : Nat} {items : List Value} {res : Value} {l : List (List Nat)} (hh : A.handled = none) (hm : m ≤ 100) (hSi : S ≠ it) (hSp : S ≠ pool) (hip : it ≠ pool) (hil : items.length = m)
    (hl : permP m f = some l) (hll : l.length ≤ 100000)
    {last : Value} {c : Nat} (hit : IsPm s.heap it pool 0 m last (List.range m ++ (List.range m).map fun i => m - i)) (hpl : IsPl s.heap pool items) (hS : s.heap.get? S = some (LS #[] c))
    (hR : ∀ h' as c', (∀ b o, b ≠ S → b ≠ it → s.heap.get? b = some o → h'.get? b = some o) → h'.get? S = some (LS (as.map Value.ref).toArray c') → Got items m h' as l → Asc s.heap.objs.size as → R (.ok (.ret res)) { s with heap := h' }) :
    codeAny (model prog w) A (.builtin "list.extend.loop" ⟨[.ref S, .ref it, res], []⟩) R s := by
  unfold permP at hl
  cases hq : runP m f (List.range m ++ (List.range m).map fun i => m - i) with
  | none => rw [hq] at hl; cases hl
  | some l' =>
    rw [hq] at hl
    cases hl
    simp only [List.length_cons] at hll
    have hnl : (List.range m ++ (List.range m).map fun i => m - i).length ≤ 1000 := by simp; omega
    generalize hN : (List.range m ++ (List.range m).map fun i => m - i) = N at *
    have hpk : picked items m N = picked items m (List.range m) := by
      unfold picked
      rw [← hN, List.take_append_of_le_length (by simp)]
    refine codeAny_builtin F.entry_extend_loop ?_
    rw [Around.under_plainId F.plain_extend_loop _]
    show wpAny _ A.in1 (pyNext (.ref it) >>= _) _ _ s
    refine wpAny_bind (py_first (A := A.in1) hit hpl hm fun h' a1 a2 a3 => ?_)
    rw [hpk] at a2
    have hS' := a3 S _ hSi hS
    show wpAny _ A.in1 (updateSeq S (·.push (Value.ref s.heap.objs.size)) >>= _) _ _ _
    refine wpAny_bind ?_
    have hneT : S ≠ s.heap.objs.size := Nat.ne_of_lt (Heap.lt_size hS)
    have hneI : it ≠ s.heap.objs.size := Nat.ne_of_lt (Heap.lt_size hit)
    have kS : ∀ b o, b ≠ S → h'.get? b = some o → (h'.update S (Obj.mapSeq (·.push (Value.ref s.heap.objs.size)))).get? b = some o := fun b o hb e => (Heap.get?_update_other _ _ (Ne.symm hb)).trans e
    have hsz' : (h'.update S (Obj.mapSeq (·.push (Value.ref s.heap.objs.size)))).objs.size = h'.objs.size := by simp [Heap.update]
    refine wpAny_updateSeq hS' rfl (wpAny_pure ⟨plainId_quiet F.plain_extend_loop _, ext_loop hh hm hSi hSp hip hil f N l' _ (#[].push (.ref s.heap.objs.size)) _ _ hq hnl (kS _ _ (Ne.symm hSi) a1) (kS _ _ (Ne.symm hSp) (a3 _ _ (Ne.symm hip) hpl)) (Heap.get?_update_self _ hS' rfl) (by simp; omega) fun h2 as c' b1 b2 b3 b4 => ?_⟩) (by rw [sizeLine_eq]; simp) (by show (#[].push _).size ≤ sizeLine + 1; rw [Array.size_push, sizeLine_eq]; simp)
    have hT : s.heap.objs.size < h'.objs.size := Heap.lt_size a2
    refine hR h2 (s.heap.objs.size :: as) c' (fun b o hb hb2 e => b1 b o hb hb2 (kS b o hb (a3 b o hb2 e))) ?_ ⟨b1 _ _ (Ne.symm hneT) (Ne.symm hneI) (kS _ _ (Ne.symm hneT) a2), b3⟩ ⟨Nat.le_refl _, ?_⟩
    · have e : (#[].push (.ref s.heap.objs.size) ++ (as.map Value.ref).toArray : Array Value) = ((s.heap.objs.size :: as).map Value.ref).toArray := by
        apply Array.ext'; simp
      rw [← e]; exact b2
    · refine Asc.mono ?_ b4
      show s.heap.objs.size + 1 ≤ _
      rw [hsz']; omega
theorem ext_pm {it pool S : Addr} {m f : Nat} {items : List Value} {res : Value} {l : List (List Nat)} (hh : A.handled = none) (hm : m ≤ 100) (hSi : S ≠ it) (hSp : S ≠ pool) (hip : it ≠ pool) (hil : items.length = m)
    (hl : permP m f = some l) (hll : l.length ≤ 100000)
    {last : Value} {c : Nat} (hit : IsPm s.heap it pool 0 m last (List.range m ++ (List.range m).map fun i => m - i)) (hpl : IsPl s.heap pool items) (hS : s.heap.get? S = some (LS #[] c))
    (hR : ∀ h' as c', (∀ b o, b ≠ S → b ≠ it → s.heap.get? b = some o → h'.get? b = some o) → h'.get? S = some (LS (as.map Value.ref).toArray c') → Got items m h' as l → Asc s.heap.objs.size as → R (.ok (.ret res)) { s with heap := h' }) :
    wpAny (model prog w) A.in1 (Builtin.List.listExtendWith (.ref S) (.ref it) res)
      (fun fin s' => match fin with | .done f => R (.ok f) s' | .again c' => c'.quiet = true ∧ codeAny (model prog w) A c' R s') (fun e s' => R (.error e) s') s := by
  have hT : s.TypeIs (.ref it) "itertools.permutations" := ⟨_, hit, rfl⟩
  unfold Builtin.List.listExtendWith
  refine wpAny_bind (wpAny_typeOf hT ?_)
  have h1 : Builtin.List.listSameRef (.ref S) (.ref it) = false := by simp [Builtin.List.listSameRef, hSi]
  have h2 : (Value.type "itertools.permutations" == Value.type "list") = false := by decide
  have h3 : (Value.type "itertools.permutations" == Value.type "tuple") = false := by decide
  simp only [h1, h2, h3, Bool.or_false, Bool.false_eq_true, if_false]
  refine wpAny_bind (iter_pm hit ?_)
  refine wpAny_bind (wpAny_holding ?_)
  unfold Builtin.List.listLengthHint
  refine wpAny_bind (wpAny_specialOf hT nolen_pm ?_)
  show wpAny _ A.in1 (specialOf (Value.ref it) (Str.ofString "__length_hint__") >>= _) _ _ _
  refine wpAny_bind (wpAny_specialOf hT nohint_pm ?_)
  refine wpAny_pure ?_
  show wpAny _ A.in1 (rule "list.extend.makes-room" >>= fun _ => Builtin.List.listTouch (.ref S) >>= fun _ =>
    again (.builtin "list.extend.loop" ⟨[.ref S, .ref it, res], []⟩)) _ _ _
  refine wpAny_bind (wpAny_rule ?_)
  refine wpAny_bind ?_
  show wpAny _ A.in1 (updateSeq S (·.push .none) >>= fun _ => updateSeq S (·.pop)) _ _ _
  refine wpAny_bind (wpAny_updateSeq hS rfl ?_)
  have hS₂ := Heap.get?_update_self (Obj.mapSeq (·.push Value.none)) hS rfl
  refine wpAny_updateSeq (hz := by seq_fits) hS₂ rfl ?_
  have hS₃ := Heap.get?_update_self (Obj.mapSeq (·.pop)) hS₂ rfl
  have oth : ∀ b o, b ≠ S → s.heap.get? b = some o → ((s.heap.update S (Obj.mapSeq (·.push Value.none))).update S (Obj.mapSeq (·.pop))).get? b = some o :=
    fun b o hb e => (Heap.get?_update_other _ _ (Ne.symm hb)).trans ((Heap.get?_update_other _ _ (Ne.symm hb)).trans e)
  have hsz : ((s.heap.update S (Obj.mapSeq (·.push Value.none))).update S (Obj.mapSeq (·.pop))).objs.size = s.heap.objs.size := by simp [Heap.update]
  refine wpAny_pure ⟨plainId_quiet F.plain_extend_loop _, ext_all hh hm hSi hSp hip hil hl hll (oth _ _ (Ne.symm hSi) hit) (oth _ _ (Ne.symm hSp) hpl) hS₃ fun h' as c' k1 k2 k3 k4 => ?_⟩
  exact hR h' as c' (fun b o hb hb2 e => k1 b o hb hb2 (oth b o hb e)) k2 k3 (by rw [← hsz]; exact k4)
theorem init_pm {it pool S : Addr} {m f : Nat} {items : List Value} {l : List (List Nat)} (hh : A.handled = none) (hm : m ≤ 100) (hSi : S ≠ it) (hSp : S ≠ pool) (hip : it ≠ pool) (hil : items.length = m)
    (hl : permP m f = some l) (hll : l.length ≤ 100000)
    {last : Value} (hit : IsPm s.heap it pool 0 m last (List.range m ++ (List.range m).map fun i => m - i)) (hpl : IsPl s.heap pool items) (hS : s.heap.get? S = some { cls := .type "list", data := .seq #[] })
    (hR : ∀ h' as c', (∀ b o, b ≠ S → b ≠ it → s.heap.get? b = some o → h'.get? b = some o) → h'.get? S = some (LS (as.map Value.ref).toArray c') → Got items m h' as l → Asc s.heap.objs.size as → R (.ok (.ret .none)) { s with heap := h' }) :
    wpAny (model prog w) A.in1 (Builtin.«list.__init__» ⟨[.ref S, .ref it], []⟩)
      (fun fin s' => match fin with | .done f => R (.ok f) s' | .again c' => c'.quiet = true ∧ codeAny (model prog w) A c' R s') (fun e s' => R (.error e) s') s := by
  show wpAny _ A.in1 (do let old ← Builtin.List.listItems (.ref S); Builtin.List.listUpdate (.ref S) (fun _ => #[]); letGo old.toList.reverse; Builtin.List.listExtendWith (.ref S) (.ref it) .none) _ _ s
  refine wpAny_bind ?_
  unfold Builtin.List.listItems
  refine wpAny_bind (wpAny_seqItems hS rfl (wpAny_pure ?_))
  show wpAny _ A.in1 (updateSeq S (fun _ => #[]) >>= fun _ => letGo (#[] : Array Value).toList.reverse >>= fun _ => Builtin.List.listExtendWith (.ref S) (.ref it) .none) _ _ s
  refine wpAny_bind (wpAny_updateSeq hS rfl ?_)
  have hS₂ := Heap.get?_update_self (Obj.mapSeq (fun _ => (#[] : Array Value))) hS rfl
  have oth : ∀ b o, b ≠ S → s.heap.get? b = some o → (s.heap.update S (Obj.mapSeq (fun _ => (#[] : Array Value)))).get? b = some o :=
    fun b o hb e => (Heap.get?_update_other _ _ (Ne.symm hb)).trans e
  have hsz : (s.heap.update S (Obj.mapSeq (fun _ => (#[] : Array Value)))).objs.size = s.heap.objs.size := by simp [Heap.update]
  refine wpAny_bind (wpAny_letGo ?_)
  refine ext_pm hh hm hSi hSp hip hil hl hll (oth _ _ (Ne.symm hSi) hit) (oth _ _ (Ne.symm hSp) hpl) hS₂ fun h' as c' k1 k2 k3 k4 => ?_
  exact hR h' as c' (fun b o hb hb2 e => k1 b o hb hb2 (oth b o hb e)) k2 k3 (by rw [← hsz]; exact k4)
end
section
variable {prog : Program} {w : World} {A : Around} {E : Value → Shared → Prop} {s : Shared}
theorem call_list_pm {it pool : Addr} {m f : Nat} {items : List Value} {l : List (List Nat)} {Q : Value → Shared → Prop} (hh : A.handled = none) (hm : m ≤ 100) (hip : it ≠ pool) (hil : items.length = m)
    (hl : permP m f = some l) (hll : l.length ≤ 100000)
    {last : Value} (hit : IsPm s.heap it pool 0 m last (List.range m ++ (List.range m).map fun i => m - i)) (hpl : IsPl s.heap pool items)
    (hQ : ∀ h' as c', (∀ b o, b ≠ it → s.heap.get? b = some o → h'.get? b = some o) → h'.get? s.heap.objs.size = some (LS (as.map Value.ref).toArray c') → Got items m h' as l → Asc (s.heap.objs.size + 1) as → Q (.ref s.heap.objs.size) { s with heap := h' }) :
    wpAny (model prog w) A (call (.type "list") [.ref it]) Q E s := by
  have hSi : s.heap.objs.size ≠ it := Nat.ne_of_gt (Heap.lt_size hit)
  have hSp : s.heap.objs.size ≠ pool := Nat.ne_of_gt (Heap.lt_size hpl)
  refine callType_codes (Q₁ := fun obj s₁ => obj = .ref s.heap.objs.size ∧ s₁ = { s with heap := s.heap.push { cls := .type "list", data := .seq #[] } }) F.called_list (F.typeCall_list_1 _) F.entry_list_init
    (code_list_new _ ⟨rfl, rfl⟩) fun obj s₁ h₁ => ?_
  obtain ⟨rfl, rfl⟩ := h₁
  have hS : (s.heap.push { cls := .type "list", data := .seq #[] }).get? s.heap.objs.size = some { cls := .type "list", data := .seq #[] } := Heap.get?_push_size _ rfl
  refine ⟨⟨_, hS, rfl⟩, F.args_list_init_2 _ _, init_pm (A := A.in1) hh hm hSi hSp hip hil hl hll (Heap.get?_push_of_some _ hit) (Heap.get?_push_of_some _ hpl) hS fun h' as c' k1 k2 k3 k4 => ?_⟩
  refine ⟨rfl, hQ h' as c' (fun b o hb e => k1 b o (Nat.ne_of_lt (Heap.lt_size e)) hb (Heap.get?_push_of_some _ e)) k2 k3 ?_⟩
  have e : (s.heap.push { cls := .type "list", data := .seq #[] }).objs.size = s.heap.objs.size + 1 := by simp [Heap.push]
  exact e ▸ k4
end
end PeK

namespace PeK
open PySem PySem.Spec PyProof.Rows
open Sem (wp)
section
variable {prog : Program} {w : World} {A : Around} {E : Value → Shared → Prop} {s : Shared}
theorem code_pm_new {r : Addr} {a b c : Int} {t u v : Tok} {m : Nat} {Q₁ : Value → Shared → Prop} (hh : A.handled = none) (hr : IsRange s.heap r a b c t u v) (hsmall : Builtin.Range.small a b c = true) (hn : Builtin.Range.rangeSize a b c = m) (hlen : m ≤ 100)
    (h : ∀ (h' : Heap) (tk : Nat) (acc : Array Value), (∀ b o, s.heap.get? b = some o → h'.get? b = some o) → ItemsOf (fun i v => ∃ t, v = .int (a + i * c) t) acc m →
      Q₁ (.ref (h'.objs.size + 1)) { s with heap := (h'.push { cls := .type "tuple", data := .seq acc.toList.toArray }).push { cls := .type "itertools.permutations", data := .fields (pmF h'.objs.size 0 m .none (List.range m ++ (List.range m).map fun i => m - i)) }, toks := tk }) :
    codeAny (model prog w) A (.call (.builtin "itertools.permutations.__new__") ⟨[.type "itertools.permutations", .ref r], []⟩) (wants Q₁ E) s := by
  refine codeAny_of_tree ?_
  show wpAny _ A.in1 (do checkBuiltinCall "itertools.permutations.__new__" ⟨[.type "itertools.permutations", .ref r], []⟩; again (.builtin "itertools.permutations.__new__" ⟨[.type "itertools.permutations", .ref r], []⟩)) _ _ s
  refine wpAny_bind (wpAny_of_eq (newCall_pm _) (wpAny_pure ⟨plainId_quiet plain_pm_new _, codeAny_builtin entry_pm_new ?_⟩))
  rw [Around.under_plainId plain_pm_new _]
  have hsub := sub_pm
  have hh1 : A.in1.handled = none := hh
  unfold Builtin.«itertools.permutations.__new__»
  refine wpAny_bind (m := Builtin.Itertools.itClassAndRest "permutations" ⟨[.type "itertools.permutations", .ref r], []⟩) (wpAny_of_eq (a := (Value.type "itertools.permutations", [Value.ref r])) ?_ ?_)
  · first
    | kernel_rfl
    | (unfold Builtin.Itertools.itClassAndRest; simp [hsub]; kernel_rfl)
  refine wpAny_bind (wpAny_of_eq (a := [some (Value.ref r), none]) ?_ ?_)
  · kernel_rfl
  try dsimp only
  refine wpAny_bind (L2.collect_range (A := A.in1) hh1 hr hsmall hn (by omega) fun h' tk acc hk hi => ?_)
  refine wpAny_bind (wpAny_pure ?_)
  have el : acc.toList.length = m := by rw [Array.length_toList]; exact hi.1
  rw [if_neg (by omega), if_neg (by rw [el]; unfold Builtin.Itertools.itTooMany; simp; omega)]
  refine wpAny_bind (wpAny_newTuple ?_ (by rw [el, sizeLine_eq]; omega))
  unfold Builtin.Itertools.itNewRecord
  rw [noDict_pm]
  refine wpAny_bind ?_
  rw [if_pos (by decide)]
  refine wpAny_newObj_type ?_ ?_
  · refine wpAny_pure ?_
    have eF : (([Value.ref h'.objs.size, rawInt (if (acc.toList.length : Int).toNat > acc.toList.length then 2 else 0), rawInt (acc.toList.length : Int).toNat, Value.none] ++ List.map (fun (i : Nat) => rawInt i) (List.range acc.toList.length)) ++ List.map (fun (i : Nat) => rawInt ((acc.toList.length : Int) - i)) (List.range (acc.toList.length : Int).toNat)).toArray = pmF h'.objs.size 0 m .none (List.range m ++ (List.range m).map fun i => m - i) := by
      unfold pmF
      rw [el, Int.toNat_natCast, if_neg (by omega)]
      apply Array.ext'
      simp only [List.toList_toArray, List.map_append, List.map_map, List.append_assoc]
      congr 2
      refine List.map_congr_left fun i hi2 => ?_
      have := List.mem_range.mp hi2
      simp only [Function.comp, rawInt]
      congr 1
      omega
    have hs : (h'.push { cls := .type "tuple", data := .seq acc.toList.toArray }).objs.size = h'.objs.size + 1 := by simp [Heap.push]
    have q := h h' tk acc hk hi
    rw [← eF, ← hs] at q
    exact q
  · show (_ : Array Value).size ≤ _
    simp only [List.size_toArray, List.length_append, List.length_map, List.length_range, List.length_cons, List.length_nil, Int.toNat_natCast, el, sizeLine_eq]
    omega
theorem call_pm {r : Addr} {a b c : Int} {t u v : Tok} {m : Nat} {Q : Value → Shared → Prop} (hh : A.handled = none) (hr : IsRange s.heap r a b c t u v) (hsmall : Builtin.Range.small a b c = true) (hn : Builtin.Range.rangeSize a b c = m) (hlen : m ≤ 100)
    (h : ∀ (h' : Heap) (tk : Nat) (it pool : Addr) (items : List Value), (∀ b o, s.heap.get? b = some o → h'.get? b = some o) → items.length = m → (∀ (i : Nat) v, items[i]? = some v → ∃ t, v = Value.int (a + i * c) t) → it ≠ pool → IsPl h' pool items → IsPm h' it pool 0 m .none (List.range m ++ (List.range m).map fun i => m - i) →
      s.heap.get? it = none → s.heap.get? pool = none → Q (.ref it) { s with heap := h', toks := tk }) :
    wpAny (model prog w) A (call (.type "itertools.permutations") [.ref r]) Q E s := by
  refine callType_codes (Q₁ := fun obj s₁ => s₁.TypeIs obj "itertools.permutations" ∧ Q obj s₁) called_pm (typeCall_pm _) F.entry_object_init
    (code_pm_new (A := A.in1) hh hr hsmall hn hlen fun h' tk acc hk hi => ?_) fun obj s₁ h₁ => ?_
  · have hs : (h'.push { cls := .type "tuple", data := .seq acc.toList.toArray }).objs.size = h'.objs.size + 1 := by simp [Heap.push]
    have e1 : ((h'.push { cls := .type "tuple", data := .seq acc.toList.toArray }).push { cls := .type "itertools.permutations", data := .fields (pmF h'.objs.size 0 m .none (List.range m ++ (List.range m).map fun i => m - i)) }).get? (h'.objs.size + 1) = some { cls := .type "itertools.permutations", data := .fields (pmF h'.objs.size 0 m .none (List.range m ++ (List.range m).map fun i => m - i)) } := by
      rw [← hs]; exact Heap.get?_push_size _ rfl
    have fr : ∀ b, h'.objs.size ≤ b → s.heap.get? b = none := fun b hb => by
      cases q : s.heap.get? b with
      | none => rfl
      | some o => exact absurd (Heap.lt_size (hk b o q)) (Nat.not_lt.mpr hb)
    refine ⟨⟨_, e1, rfl⟩, h _ tk (h'.objs.size + 1) h'.objs.size acc.toList (fun b o e => Heap.get?_push_of_some _ (Heap.get?_push_of_some _ (hk b o e))) (by rw [Array.length_toList]; exact hi.1) (fun i v hv => hi.2 i v (by rw [← hv, Array.getElem?_toList])) (Nat.succ_ne_self _) (Heap.get?_push_of_some _ (Heap.get?_push_size _ rfl)) e1 (fr _ (Nat.le_succ _)) (fr _ (Nat.le_refl _))⟩
  · exact ⟨h₁.1, F.args_object_init_2 obj _, object_init_meets called_pm.init.lookup called_pm.made (by decide) prog w A.in1 _ s₁ ⟨h₁.1, rfl, h₁.2⟩⟩
end
end PeK

namespace PeK
open PySem PySem.Spec PyProof.Rows
open L2
section
variable {P : Program} {w : World} {H H' : Hp} {h h' : Heap} {a : Addr} {o : HO}
theorem okThere (x : ObjOk P w H h a o) : ∃ ob, h.get? a = some ob := by
  cases o with
  | lst xs => obtain ⟨_, _, _, _, e⟩ := x; exact ⟨_, e⟩
  | tup xs => obtain ⟨_, _, _, ob, e, _⟩ := x; exact ⟨_, e⟩
  | dK kvs => obtain ⟨_, _, _, _, o, _, _, e, _⟩ := x; exact ⟨_, e⟩
  | dT kvs => obtain ⟨_, _, _, _, o, _, _, e, _⟩ := x; exact ⟨_, e⟩
  | set S n => obtain ⟨o, _, _, _, e, _⟩ := x; exact ⟨_, e⟩
  | ins C dx fs => obtain ⟨_, _, _, e, _⟩ := x; exact ⟨_, e⟩
  | own y => obtain ⟨_, e⟩ := x; exact ⟨_, e⟩
  | xd fs => obtain ⟨_, ⟨_, _, _, e, _⟩, _⟩ := x; exact ⟨_, e⟩
  | rng lo hi => obtain ⟨_, _, _, e⟩ := x; exact ⟨_, e⟩
  | frz ob u => obtain ⟨e, _⟩ := x; exact ⟨_, e⟩
  | tbl ps => exact ⟨_, (show h.get? a = some _ from x)⟩
  | met f y => exact ⟨_, (show h.get? a = some _ from x)⟩
  | ext φ => obtain ⟨_, ⟨_, e⟩, _⟩ := x; exact ⟨_, e⟩
end
section
variable {X : Cx} {pins : List (Addr × Obj)} {σ : L2.St} {H H' : Hp} {s : Shared} {h' : Heap}
theorem adopt {t' : Nat} (I : Inv X pins σ H s) (k : ∀ b o, s.heap.get? b = some o → h'.get? b = some o) (hag : ∀ b o, s.heap.get? b = some o → H' b = H b) (new : ∀ b u, s.heap.get? b = none → H' b = some u → ObjOk X.prog X.w H' h' b u) : Inv X pins σ H' { s with heap := h', toks := t' } := by
  have th : ∀ b u, H b = some u → ∃ o, s.heap.get? b = some o := fun b u e => okThere (I.hok b u e)
  have ag : ∀ b u, H b = some u → H' b = some u := fun b u e => by
    obtain ⟨o, q⟩ := th b u e
    rw [hag b o q]; exact e
  refine I.un ⟨fun b o q _ _ _ => k b o q, fun b o q _ _ _ => ⟨o.slots, k b o q⟩, fun b o q n _ => (hag b o q).trans n, fun b o q _ => ⟨o, k b o q⟩, fun b xs q => ag b _ q, fun b o u q => ag b _ q, fun b ps q => ⟨#[], by rw [ag b _ q]; simp⟩⟩ ?_
  intro b u e
  cases q : s.heap.get? b with
  | none => exact new b u q e
  | some o =>
    rw [hag b o q] at e
    exact (I.hok b u e).stay (fun c v _ z => k c v z) (fun c z => ag c _ z) fun c xs z => ag c _ z
end
/-- new tuples laid, one behind another -/
def layT : List (List V) → (List Addr → Hp → Prop) → Hp → Prop
  | [], k, H => k [] H
  | xs :: r, k, H => ∀ p, H p = none → layT r (fun as H' => k (p :: as) H') (upd H p (.tup xs))
def updAll : Hp → List Addr → List (List V) → Hp
  | H, a :: as, xs :: r => updAll (upd H a (.tup xs)) as r
  | H, _, _ => H
theorem updAll_not : ∀ {as : List Addr} {r : List (List V)} {H : Hp} {b : Addr}, b ∉ as → updAll H as r b = H b
  | [], _, H, b, _ => by unfold updAll; rfl
  | a :: as, [], H, b, _ => by unfold updAll; rfl
  | a :: as, xs :: r, H, b, h => by
    simp only [List.mem_cons, not_or] at h
    unfold updAll
    rw [updAll_not h.2, upd_ne h.1]
theorem updAll_in : ∀ {as : List Addr} {r : List (List V)} {H : Hp} {b : Addr} {u : HO}, updAll H as r b = some u → (H b = some u) ∨ ∃ xs, u = .tup xs ∧ (b, xs) ∈ as.zip r
  | [], _, H, b, u, h => by unfold updAll at h; exact .inl h
  | a :: as, [], H, b, u, h => by unfold updAll at h; exact .inl h
  | a :: as, xs :: r, H, b, u, h => by
    unfold updAll at h
    rcases updAll_in h with h | ⟨ys, h1, h2⟩
    · by_cases z : b = a
      · subst z
        rw [upd_same] at h
        cases h
        exact .inr ⟨xs, rfl, by simp⟩
      · rw [upd_ne z] at h
        exact .inl h
    · exact .inr ⟨ys, h1, by simp [h2]⟩
theorem layT_use : ∀ {as : List Addr} {r : List (List V)} {k : List Addr → Hp → Prop} {H : Hp} {lo : Nat}, as.length = r.length → Asc lo as → (∀ a ∈ as, H a = none) → layT r k H → k as (updAll H as r)
  | [], [], k, H, lo, _, _, _, h => by unfold updAll; exact h
  | a :: as, xs :: r, k, H, lo, hl, ha, hn, h => by
    unfold updAll
    refine layT_use (lo := a + 1) (k := fun as H' => k (a :: as) H') (by simpa using hl) ha.2 (fun b hb => ?_) (h a (hn a (by simp)))
    have := ha.2.ge b hb
    rw [upd_ne (fun z => by subst z; exact Nat.lt_irrefl _ this)]
    exact hn b (by simp [hb])
  | [], _ :: _, _, _, _, hl, _, _, _ => by simp at hl
  | _ :: _, [], _, _, _, hl, _, _, _ => by simp at hl
def okP (m : Nat) (l : List (List Nat)) : Bool := l.all fun ind => decide (ind.length ≤ m) && ind.all fun i => decide (i < m)
def tLstPm (te : L2.St → Hp → (Int → Int → Hp → Prop) → Prop) : TE := fun σ H Q => te σ H fun a b H1 => RgOk a b ∧ ∃ f l, (b - a).toNat ≤ 100 ∧ permP (b - a).toNat f = some l ∧ l.length ≤ 100000 ∧ okP (b - a).toNat l = true ∧
  layT (l.map fun ind => ind.map fun (i : Nat) => V.int (a + i)) (fun as H2 => ∀ q, H2 q = none → Q (.ref q) (upd H2 q (.lst (as.map V.ref)))) H1
end PeK

namespace PeK
open PySem PySem.Spec PyProof.Rows
open L2
theorem Got.zip {items : List Value} {m : Nat} {h : Heap} : ∀ {as : List Addr} {ls : List (List Nat)}, Got items m h as ls → ∀ b ind, (b, ind) ∈ as.zip ls → IsPl h b (picked items m ind)
  | [], [], _, b, ind, hb => by simp at hb
  | a :: as, l :: ls, ⟨h1, h2⟩, b, ind, hb => by
    simp only [List.zip_cons_cons, List.mem_cons, Prod.mk.injEq] at hb
    rcases hb with ⟨rfl, rfl⟩ | hb
    · exact h1
    · exact Got.zip h2 b ind hb
  | [], _ :: _, h, _, _, _ => h.elim
  | _ :: _, [], h, _, _, _ => h.elim
theorem vals_pick {items : List Value} {a : Int} {m : Nat} (hl : items.length = m) (hv : ∀ (i : Nat) v, items[i]? = some v → ∃ t, v = Value.int (a + i * 1) t) : ∀ ind : List Nat, (∀ i ∈ ind, i < m) → Vals (ind.map fun (i : Nat) => V.int (a + i)) (ind.map fun i => items.toArray.getD i .none)
  | [], _ => .nil
  | i :: ind, h => by
    have hi := h i (by simp)
    obtain ⟨t, e⟩ := hv i (items[i]'(by omega)) (List.getElem?_eq_getElem (by omega))
    refine .cons ?_ (vals_pick hl hv ind fun j hj => h j (by simp [hj]))
    have e2 : items.toArray.getD i .none = items[i]'(by omega) := by
      rw [Array.getD_eq_getD_getElem?]
      simp [List.getElem?_eq_getElem (show i < items.length by omega)]
    show L2.RelV (V.int (a + i)) (items.toArray.getD i .none)
    rw [e2, e]
    exact ⟨t, by rw [Int.mul_one]⟩
section
variable {X : Cx}
theorem pe_listPm {e : Expr} {te : L2.St → Hp → (Int → Int → Hp → Prop) → Prop} {p p2 pos pos2 : Pos} (hc : X.calm = true) (hg : Gl X "list") (hm : X.mg "list" = none) (hg2 : Gl X "permutations") (hm2 : X.mg "permutations" = some (.type "itertools.permutations")) (he : PRg X e te)
    (hs : starEach [e] X.env = (false, eval e X.env) :: starEach [] X.env := by rfl)
    (hs2 : starEach [.Call (.Name "permutations" p2) [e] [] pos2] X.env = (false, eval (.Call (.Name "permutations" p2) [e] [] pos2) X.env) :: starEach [] X.env := by rfl) :
    PE X (.Call (.Name "list" p) [.Call (.Name "permutations" p2) [e] [] pos2] [] pos) (tLstPm te) := by
  refine ⟨fun pins s σ H Q I h => ?_⟩
  refine Call_ (ld_blt I hg hm boot_list (PyProof.Rows.callWith_type1 (args_cons (Call_ (ld_glob I hg2 hm2 (PyProof.Rows.callWith_type1 (args_cons (thn (he pins s σ H _ I h) fun x s1 ⟨r, a, b, t, u, v, H1, ex, hr, I1, ok, f, l, hm', hl, hll, hok, q⟩ => args_nil ?_) hs) hs rfl))) hs2) hs2 rfl))
  subst ex
  obtain ⟨b1, b2, b3, b4, b5⟩ := ok
  refine call_pm (m := (b - a).toNat) (I1.ok.hd hc) hr (small_one b1 b2 b3 b4) (rangeSize_nat a b) hm' fun h' tk it pool items k e1 e2 hne hpl hit f1 f2 => args_nil ?_
  refine call_list_pm (s := { s1 with heap := h', toks := tk }) (f := f) (l := l) (I1.ok.hd hc) hm' hne e1 hl hll hit hpl fun h2 as c' k1 k2 k3 k4 => ?_
  have gone : ∀ c, h'.objs.size ≤ c → s1.heap.get? c = none := fun c hc' => by
    cases z : s1.heap.get? c with
    | none => rfl
    | some o => exact absurd (Heap.lt_size (k c o z)) (Nat.not_lt.mpr hc')
  have nH : ∀ c, s1.heap.get? c = none → H1 c = none := fun c hc' => by
    cases z : H1 c with
    | none => rfl
    | some o =>
      obtain ⟨ob, w⟩ := okThere (I1.hok c o z)
      rw [hc'] at w; cases w
  have hin : ∀ c ∈ as, h'.objs.size + 1 ≤ c := k4.ge
  have hqn : h'.objs.size ∉ as := fun z => Nat.lt_irrefl _ (hin _ z)
  have hlen : as.length = l.length := k3.length
  have q1 := layT_use (by rw [List.length_map]; exact hlen) k4 (fun c hc' => nH c (gone c (Nat.le_of_succ_le (hin c hc')))) q
  have q2 := q1 h'.objs.size (by rw [updAll_not hqn]; exact nH _ (gone _ (Nat.le_refl _)))
  refine ⟨.ref h'.objs.size, _, ?_, rfl, q2⟩
  have kk : ∀ c o, s1.heap.get? c = some o → h2.get? c = some o := fun c o z => k1 c o (fun z2 => by subst z2; rw [f1] at z; cases z) (k c o z)
  refine adopt (s := s1) (t' := tk) I1 kk (fun c o z => ?_) fun c uo z z2 => ?_
  · have c1 : c < h'.objs.size := Heap.lt_size (k c o z)
    rw [upd_ne (Nat.ne_of_lt c1), updAll_not (fun z3 => by have := hin c z3; exact absurd c1 (Nat.not_lt.mpr (Nat.le_of_succ_le this)))]
  · by_cases zq : c = h'.objs.size
    · subst zq
      rw [upd_same] at z2
      cases z2
      refine ⟨by rw [List.length_map, hlen, sizeLine_eq]; omega, as.map Value.ref, c', ?_, k2⟩
      have : ∀ as : List Addr, Vals (as.map V.ref) (as.map Value.ref) := fun as => by
        induction as with
        | nil => exact .nil
        | cons a as ih => exact .cons rfl ih
      exact this as
    · rw [upd_ne zq] at z2
      rcases updAll_in z2 with z3 | ⟨xs, rfl, z3⟩
      · rw [nH c z] at z3; cases z3
      · rw [List.zip_map_right] at z3
        obtain ⟨⟨c2, ind⟩, z4, z5⟩ := List.mem_map.mp z3
        cases z5
        have g := k3.zip _ _ z4
        have oi := List.all_eq_true.mp hok ind (List.of_mem_zip z4).2
        simp only [Bool.and_eq_true, decide_eq_true_eq, List.all_eq_true] at oi
        refine ⟨by simp only [id, List.length_map]; rw [sizeLine_eq]; omega, picked items (b - a).toNat ind, ?_, ⟨_, g, rfl, _, rfl⟩⟩
        unfold picked
        rw [List.take_of_length_le oi.1]
        exact vals_pick e1 e2 ind oi.2
end
end PeK

namespace L9
open PySem PySem.Spec PyProof.Rows
open L2 L3 PeK
def tupN (ind : List Nat) : PV := .tuple (ind.map fun (i : Nat) => PyData.int (i : Int))
/-- the orders of the places below n, as tuples -/
def lPm : PV → Option (List PV)
  | .int n => if 0 ≤ n ∧ n ≤ 6 then (match permP n.toNat 800 with
    | some l => if l.length ≤ 100000 ∧ okP n.toNat l = true then some (l.map tupN) else none
    | none => none) else none
  | _ => none
def mPm {S : Type} (m : M S PV) : M S (List PV) := bnd m fun x => lft (lPm x)
theorem ints_reps {K : Fg} {H : Hp} : ∀ ind : List Nat, L3.Reps K H (ind.map fun (i : Nat) => PyData.int (i : Int)) (ind.map fun (i : Nat) => V.int ((0 : Int) + i))
  | [] => by simp [L3.Reps]
  | i :: ind => .cons (by show L3.Rep K H (.int (i : Int)) (V.int ((0 : Int) + i)); rw [Int.zero_add]; exact mk_int) (ints_reps ind)
section
variable {S : Type} {X : Cx} {o : Ops S} {md : Md X.K o} {ma : M S PV}
theorem layT_fin {σ : L2.St} {st' : S} : ∀ (l : List (List Nat)) {Hs : Hp} {U : US} {H : Hp} {k : List Addr → Hp → Prop}, md.R st' Hs U σ H →
    (∀ as Hs' U' H', md.R st' Hs' U' σ H' → Stp Hs U H Hs' U' H' → L3.Reps X.K Hs' (l.map tupN) (as.map V.ref) → k as H') → layT (l.map fun ind => ind.map fun (i : Nat) => V.int ((0 : Int) + i)) k H
  | [], Hs, U, H, k, r, q => by
    simp only [List.map_nil, layT]
    exact q [] Hs U H r (.refl ..) (by simp [L3.Reps])
  | ind :: l, Hs, U, H, k, r, q => by
    simp only [List.map_cons, layT]
    intro p hp
    have al := PStp.alloc (o := .tup (ind.map fun (i : Nat) => V.int ((0 : Int) + i))) (md.sub r) hp trivial
    refine layT_fin l (md.grow r al) fun as Hs' U' H' r' s' p' => ?_
    refine q (p :: as) Hs' U' H' r' ((al.st.lift U).trans s') ?_
    exact .cons (Rep.mono s'.hs (tupN ind) (.ref p) (mk_tup (.inl upd_same) (ints_reps ind))) p'
theorem f_listPm {a : Expr} {p p2 p3 pos pos2 pos3 : Pos} (hc : X.calm = true) (hg : Gl X "list") (hm : X.mg "list" = none) (hg3 : Gl X "permutations") (hm3 : X.mg "permutations" = some (.type "itertools.permutations")) (hg2 : Gl X "range") (hm2 : X.mg "range" = none) (ha : PE X a (tG md ma))
    (na2 : starEach [a] X.env = (false, eval a X.env) :: starEach [] X.env := by rfl)
    (na : starEach [.Call (.Name "range" p2) [a] [] pos2] X.env = (false, eval (.Call (.Name "range" p2) [a] [] pos2) X.env) :: starEach [] X.env := by rfl)
    (na3 : starEach [.Call (.Name "permutations" p3) [.Call (.Name "range" p2) [a] [] pos2] [] pos3] X.env = (false, eval (.Call (.Name "permutations" p3) [.Call (.Name "range" p2) [a] [] pos2] [] pos3) X.env) :: starEach [] X.env := by rfl) :
    PE X (.Call (.Name "list" p) [.Call (.Name "permutations" p3) [.Call (.Name "range" p2) [a] [] pos2] [] pos3] [] pos) (tF md (mPm ma)) := by
  refine peImp (pe_listPm hc hg hm hg3 hm3 (prg_1 hg2 hm2 ha na2) na na3) fun σ H Q ⟨Hs, U, st, l, st', hR, hm, k⟩ => ?_
  obtain ⟨x, st1, e1, e2⟩ := bnd_some hm
  obtain ⟨e3, rfl⟩ := lft_some e2
  refine ⟨Hs, U, st, _, _, hR, e1, fun v Hs1 U1 H1 r1 s1 p1 => ?_⟩
  unfold lPm at e3
  split at e3
  · rename_i n
    split at e3
    · rename_i hn
      split at e3
      · rename_i l0 el
        split at e3
        · rename_i ho
          cases e3
          refine ⟨n, rep_int p1, RgOk.of_le (by decide) (by omega) (by decide) hn.1, 800, l0, ?_⟩
          rw [show n - 0 = n from Int.sub_zero n]
          refine ⟨by omega, el, ho.1, ho.2, ?_⟩
          refine layT_fin l0 r1 fun as Hs' U' H' r' s' p' => ?_
          intro q hq
          exact fin_F r' (s1.trans s') k q _ hq p'
        · cases e3
      · cases e3
    · cases e3
  · cases e3
end
end L9


set_option Elab.async false
set_option linter.all false
set_option maxRecDepth 100000
namespace L9
open PySem PySem.Spec
open PyProof.Rows hiding St
open L2 L3
/-! ### xs.index(x) of a list or a tuple -/
def rIndexT (K : Fg) : V → List V → Hp → VK → Prop := fun x xs H Q => ∃ (a : Addr) (ys : List V) (y : V) (j : Nat) (z : V), x = V.ref a ∧ xs = [y] ∧ SqT K H a ys ∧ flatV y = true ∧ ys.all flatV = true ∧ ys[j]? = some z ∧ eqV z y = true ∧
  (∀ (m : Nat) (z' : V), m < j → ys[m]? = some z' → eqV z' y = false) ∧ Q (.int (j : Nat)) H
theorem mt_indexT {X : Cx} : MtR X "tuple.index" (rIndexT X.K) := by
  intro pins s σ H x xs v us Q I rx rxs h
  obtain ⟨a, ys, y, j, z, rfl, rfl, hs, fy, fys, hz, hzj, hno, q⟩ := h
  cases rx
  cases rxs with
  | cons ry rt =>
    rename_i uy ut
    cases rt
    obtain ⟨its, rv, ⟨⟨cls, dd, data, sl⟩, ho, hc, n, hd⟩, hlen⟩ := I.tuple hs
    simp only at hc hd
    subst hc hd
    obtain ⟨u, hu, ru⟩ := rv.get hz
    obtain ⟨hjl, hje⟩ := List.getElem?_eq_some_iff.mp hu
    have hvl := rv.length
    have hj : j < its.toArray.size := by simpa using hjl
    refine call_meets PySem.F.slot_tuple_index ⟨_, ho, rfl⟩ PySem.F.entry_tuple_index (PySem.F.args_tuple_index_2 _ _)
      (TI.tuple_indexAt a its.toArray n dd sl uy (eqU y) j hj ?_ ?_) ⟨ho, fun u' hu' => mem_eqAt ry fy rv fys u' (by simpa using hu'), ⟨.int (j : Nat), H, I.tok _, ⟨_, rfl⟩, q⟩⟩
    · have e1 : its.toArray[j] = u := by simpa using hje
      rw [e1, eqU_of ru (flat_at fys hz)]
      exact hzj
    · intro m hm hmj
      have hml : m < its.length := by simpa using hm
      have hmy : m < ys.length := by omega
      have hy' : ys[m]? = some ys[m] := List.getElem?_eq_getElem hmy
      obtain ⟨u2, hu2, ru2⟩ := rv.get hy'
      obtain ⟨_, hme⟩ := List.getElem?_eq_some_iff.mp hu2
      have e1 : its.toArray[m] = u2 := by simpa using hme
      rw [e1, eqU_of ru2 (flat_at fys hy')]
      exact hno m _ hmj hy'
def fIdxT (x y : PV) : Option PV := match x with
  | .tuple l => if (flatP y && l.all flatP) = true then idxW (fun z => eqP z y) l else none
  | _ => none
theorem ad_idxT {K : Fg} {Hs H : Hp} {x y z : PV} {v w : V} {Q : VK} (e : fIdxT x y = some z) (rx : Rep K Hs x v) (ry : Rep K Hs y w) (sb : Sb Hs H)
    (k : ∀ u Hs' H', PStp Hs H Hs' H' → Rep K Hs' z u → Q u H') : rIndexT K v [w] H Q := by
  unfold fIdxT at e
  split at e
  · rename_i l
    split at e
    · rename_i c
      rw [Bool.and_eq_true] at c
      obtain ⟨j, z0, rfl, e1, e2, e3⟩ := idxW_some e
      obtain ⟨a, xs, rfl, s, r⟩ := rep_tup rx
      obtain ⟨u, e4, e5⟩ := reps_to r e1
      refine ⟨a, xs, w, j, u, rfl, rfl, sqT_mono sb.same s, flat_rep ry c.1, all_rep r c.2, e4, ?_, fun m z' hm hz => ?_, k _ Hs H (.refl sb) mk_int⟩
      · rw [eq_rep e5 ry (flat_of c.2 e1) c.1]; exact e2
      · obtain ⟨p, q1, q2⟩ := reps_at r hz
        rw [eq_rep q2 ry (flat_of c.2 q1) c.1]; exact e3 m p hm q1
    · cases e
  · cases e
/-- a constant tuple of ints of the module -/
def CT (K : Fg) (a : Addr) (ns : List Int) : Prop := ∃ (o : Obj) (its : Array Value) (n : Nat), K.lookup a = some o ∧ o.cls = .type "tuple" ∧ o.dict = none ∧ o.data = .seq its n ∧ its.size ≤ sizeLine ∧ Vals (ns.map V.int) its.toList
theorem ct_ints {K : Fg} {H : Hp} : ∀ ns : List Int, L3.Reps K H (ns.map PyData.int) (ns.map V.int)
  | [] => by simp [L3.Reps]
  | i :: ns => .cons mk_int (ct_ints ns)
theorem CT.rep {K : Fg} {a : Addr} {ns : List Int} (h : CT K a ns) (H : Hp) : L3.Rep K H (.tuple (ns.map PyData.int)) (.ref a) := by
  obtain ⟨o, its, n, h1, h2, h3, h4, h5, h6⟩ := h
  exact mk_tup (.inr ⟨o, its, n, h1, h2, h4, h5, h6⟩) (ct_ints ns)
section
variable {X : Cx} {S : Type} {o : Ops S} {md : Md X.K o} {b : Expr} {mb : M S PV} {pos apos cpos : Pos} {x : Str} {a : Addr} {ns : List Int}
theorem g_globT (hg : Gl X x) (hm : X.mg x = some (.ref a)) (hk : CT X.K a ns) (hd : (x == ("__debug__" : Str)) = false := by decide) : PE X (.Name x pos) (tG md (L3.ret (.tuple (ns.map PyData.int)))) :=
  peImp (pe_glob (v := .ref a) hg hm rfl hd) (tC_ok fun Hs => hk.rep Hs)
/-- X.index(y), X a constant tuple of ints of the module -/
def mIdxC (ns : List Int) (mb : M S PV) : M S PV := bnd mb fun y => lft (fIdxT (.tuple (ns.map PyData.int)) y)
theorem g_idxC (hg : Gl X x) (hm : X.mg x = some (.ref a)) (hk : CT X.K a ns) (hb : PE X b (tG md mb)) (hd : (x == ("__debug__" : Str)) = false := by decide)
    (hbase : attributeBase (.Name x pos) "index" X.env (eval (.Name x pos) X.env) = eval (.Name x pos) X.env := by rfl)
    (hfew : ((backTo cpos (starEach [b] X.env)).all (fun x => !x.1) && (backToKw cpos (keywordEach [] X.env)).all (fun x => x.1.isSome)
      && decide ([b].length + ([] : List Keyword).length + (if ([] : List Keyword).isEmpty then 0 else 1) < 30)) = true := by rfl)
    (hline : (apos.endLine == cpos.line) = true := by rfl) (hs : starEach [b] X.env = (false, eval b X.env) :: starEach [] X.env := by rfl) (hplain : (backTo cpos (starEach [] X.env)).any (·.1) = false := by rfl) :
    PE X (.Call (.Attribute (.Name x pos) "index" apos) [b] [] cpos) (tG md (mIdxC ns mb)) := by
  refine peImp (pe_bm PySem.F.plainAttrs_tuple PySem.F.slot_tuple_index PySem.F.type_tuple_index mt_indexT (pe_glob (v := .ref a) hg hm rfl hd) (pa_cons hb pa_nil hs) hbase hfew hline hs hplain) fun σ H Q ⟨Hs, U, st, pv, st', hR, hm, k⟩ => ?_
  obtain ⟨y, st1, e1, e2⟩ := bnd_some hm
  obtain ⟨e3, rfl⟩ := lft_some e2
  obtain ⟨ob, its, n, h1, h2, h3, _⟩ := id hk
  refine ⟨.inr (.inl ⟨rfl, ob, h1, h2, h3⟩), Hs, U, st, y, _, hR, e1, fun w Hs2 U2 H2 r2 s2 p2 => ?_⟩
  exact ad_idxT e3 (hk.rep Hs2) p2 (md.sub r2) (fin_step r2 s2 k)
end
end L9

set_option Elab.async false
set_option linter.all false
set_option maxRecDepth 100000
namespace L9
open PySem PySem.Spec
open PyProof.Rows hiding St
open L2 L3
/-! ### sorted(set(xs)), xs a tuple of ints -/
theorem srt_set {ns ms : List Int} (h1 : ms.Pairwise (· < ·)) (h2 : ∀ k, k ∈ ms ↔ k ∈ ns) : ms = srt (dd ns) := by
  have hn : ms.Nodup := h1.imp fun {a b} h => by omega
  refine srt_eq ?_ (h1.imp fun {a b} h => by omega)
  refine (List.perm_ext_iff_of_nodup hn (dd_nodup ns)).mpr fun k => ?_
  rw [h2 k, dd_mem]
section
variable {X : Cx}
def tSortSet (K : Fg) (ta : TE) : TE := fun σ H Q => ta σ H fun x H1 => ∃ (l : Addr) (ns : List Int), x = V.ref l ∧ SqT K H1 l (ns.map V.int) ∧ ns.length < 64 ∧ ∀ p, H1 p = none → Q (.ref p) (upd H1 p (.lst ((srt (dd ns)).map V.int)))
theorem pe_sortSet {a : Expr} {ta : TE} {p p2 q pos : Pos} (hc : X.calm = true) (hg : Gl X "sorted") (hm : X.mg "sorted" = none) (hg2 : Gl X "set") (hm2 : X.mg "set" = none) (ha : PE X a ta)
    (na : starEach [a] X.env = (false, eval a X.env) :: starEach [] X.env := by rfl) : PE X (.Call (.Name "sorted" p) [.Call (.Name "set" p2) [a] [] q] [] pos) (tSortSet X.K ta) := by
  refine ⟨fun pins s σ H Q I h => ?_⟩
  refine Call_ (ld_blt I hg hm (by first | exact PySem.boot_sorted | exact PyProof.Rows.boot_sorted | rfl) ?_)
  refine PyProof.Rows.callWith_builtin1 (PyProof.Rows.args_cons ?_ rfl) rfl rfl
  refine Call_ (ld_blt I hg2 hm2 PyProof.Rows.boot_set ?_)
  refine PyProof.Rows.callWith_type1 (PyProof.Rows.args_cons (thn (ha.run pins s σ H _ I h) fun v s1 ⟨x, H1, I1, r1, q1⟩ => PyProof.Rows.args_nil ?_) na) na rfl
  obtain ⟨l, ns, rfl, hq, h1, q1⟩ := q1
  cases r1
  have hdl := dd_le ns
  obtain ⟨its, r, pl, hz⟩ := I1.tuple hq
  refine call_set_tupI ns (I1.ok.hd hc) pl (by simpa using r.ints) (by unfold scanBound; omega) fun h' tk c hS hcl hk => ?_
  refine PyProof.Rows.args_nil ?_
  have I2 : Inv X pins σ H1 { s1 with heap := h', toks := tk } := I1.kept fun b o e => hk b o e
  refine sorted_set (s := { s1 with heap := h', toks := tk }) hS (I1.ok.hd hc) (by omega) fun s' p out c2 ns2 k g o hp hg2 hi hs hm2 hl => ?_
  have e2 : ns2 = srt (dd ns) := srt_set hs fun k => by rw [hm2 k]; simp
  subst e2
  have hlen : ((srt (dd ns)).map V.int).length ≤ sizeLine := by rw [List.length_map, hl, sizeLine_eq]; omega
  have hn : H1 p = none := I2.hok.fresh hp
  have J : Inv X pins σ (upd H1 p (.lst ((srt (dd ns)).map V.int))) { ({ s1 with heap := h', toks := tk } : Shared) with heap := s'.heap, gens := s'.gens, drawn := s'.drawn, toks := s'.toks } :=
    I2.call (ch := []) (Un.laid k hp hn) (I2.hok.laid k hp ⟨hlen, out.toList, c2, vals_of_ints hi, hg2⟩) (by rw [g]; exact I2.bare) (fun _ z => nomatch z)
  have e : s' = { ({ s1 with heap := h', toks := tk } : Shared) with heap := s'.heap, gens := s'.gens, drawn := s'.drawn, toks := s'.toks } := by
    cases s'
    cases o
    rfl
  rw [e]
  exact ⟨.ref p, _, J, rfl, q1 p hn⟩
end
/-- the mirror -/
def lSortSet : PV → Option (List PV)
  | .tuple l => match intsP l with
    | some ns => if ns.length < 64 then some ((srt (dd ns)).map PyData.int) else none
    | none => none
  | _ => none
def mSortSet {S : Type} (m : M S PV) : M S (List PV) := bnd m fun x => lft (lSortSet x)
theorem lSortSet_ints {ns : List Int} (h : ns.length < 64) : lSortSet (.tuple (ns.map .int)) = some ((srt (dd ns)).map PyData.int) := by
  unfold lSortSet
  simp only [intsP_map]
  rw [if_pos h]
section
variable {X : Cx} {S : Type} {o : Ops S} {md : Md X.K o} {a : Expr} {m : M S PV}
theorem f_sortSet {p p2 q pos : Pos} (hc : X.calm = true) (hg : Gl X "sorted") (hm : X.mg "sorted" = none) (hg2 : Gl X "set") (hm2 : X.mg "set" = none) (ha : PE X a (tG md m))
    (na : starEach [a] X.env = (false, eval a X.env) :: starEach [] X.env := by rfl) : PE X (.Call (.Name "sorted" p) [.Call (.Name "set" p2) [a] [] q] [] pos) (tF md (mSortSet m)) := by
  refine peImp (pe_sortSet hc hg hm hg2 hm2 ha na) fun σ H Q ⟨Hs, U, st, l, st', hR, hm, k⟩ => ?_
  obtain ⟨x, st1, e1, e2⟩ := bnd_some hm
  obtain ⟨e3, rfl⟩ := lft_some e2
  refine ⟨Hs, U, st, _, _, hR, e1, fun v Hs1 U1 H1 r1 s1 p1 => ?_⟩
  unfold lSortSet at e3
  split at e3
  · split at e3
    · rename_i ns h2
      split at e3
      · cases e3
        have := intsP_some h2
        subst this
        obtain ⟨a, xs, rfl, s, r⟩ := rep_tup p1
        have := reps_ints r
        subst this
        exact ⟨a, ns, rfl, sqT_mono (md.sub r1).same s, by assumption, fun q hq => fin_F r1 s1 k q _ hq (ct_ints _)⟩
      · cases e3
    · cases e3
  · cases e3
end
end L9

set_option Elab.async false
set_option linter.all false
set_option maxRecDepth 100000
set_option maxHeartbeats 2000000
namespace L9
open PySem PySem.Spec
open PyProof.Rows hiding St
open L2 L3 L5
open GxR (TabB inv_tab)

/-! ### a lambda of one parameter, handed to a built-in function -/
abbrev kenv (X : Cx) (scope : Scope) (q : Str) (L f c' : Addr) : Env := PySem.W.envX q scope L f (.ref c') (cloFrom X.env.cells scope.names [])
abbrev kcx (X : Cx) (A : Around) (s : Shared) (H : Hp) (env : Env) : Cx :=
  { X with A := A, s_0 := s, H_0 := H, env := env, outer := X.stack, stack := env :: X.stack, ex := [], fn := fun x => env.scope.names.lookup x == some .cell, pn := [], xe := fun _ _ => False }
section
variable {X : Cx} {pins : List (Addr × Obj)} {σ : L2.St} {H : Hp} {s : Shared}
theorem key_start {scope : Scope} {own : List (Str × Nat)} {q : Str} {f c' : Addr} {A : Around} {h' : Heap} {t' : Nat} {a : Str} {i : Nat} {x : V} {u : Value} (I : Inv X pins σ H s) (ok : BlkOk X.N X.env.scope scope own) (hcell : ∀ y ∈ scope.names, y.2 ≠ .cell) (hN : X.N.Nodup)
    (hA : A.frames = some (kenv X scope q s.heap.objs.size f c' :: X.stack)) (hd : X.calm = true → A.handled = none) (hai : X.N[i]? = some a) (hloc : scope.names.lookup a = some .local) (r : RelV x u)
    (hn : h'.Ns s.heap.objs.size fun y => ([(a, u)] : List (Str × Value)).reverse.lookup y) (kp : ∀ b o, s.heap.get? b = some o → h'.get? b = some o) :
    Inv (kcx X A s H (kenv X scope q s.heap.objs.size f c')) [] ((wipe σ (own.map (·.2))).set i (some x)) H { s with heap := h', toks := t' } := by
  have hfree : ∀ y ∈ scope.names, y.2 = .free → ∃ c, X.env.cells.lookup y.1 = some c := fun y hy e => by
    rcases ok.free y hy e with k | k
    · exact I.ok.has _ (.inl k)
    · exact I.ok.has _ (.inr k)
  have cm : ∀ {y c}, (y, c) ∈ cloFrom X.env.cells scope.names [] → X.env.cells.lookup y = some c ∧ c < s.heap.objs.size := fun {y c} hm => by
    rcases cloFrom_mem hm with hm | ⟨h1, rfl⟩
    · cases hm
    · obtain ⟨c, hc⟩ := hfree _ h1 rfl
      rw [hc]
      obtain ⟨w, z⟩ := I.cell _ _ hc
      exact ⟨rfl, z.lt⟩
  have mem : ∀ {y c}, (cloFrom X.env.cells scope.names []).lookup y = some c → X.env.cells.lookup y = some c ∧ c < s.heap.objs.size := fun {y c} e => cm (PySem.mem_of_lookup e)
  have look : ∀ {y}, scope.names.lookup y = some .free → ∃ c, (cloFrom X.env.cells scope.names []).lookup y = some c ∧ X.env.cells.lookup y = some c := fun {y} hl => by
    have hy : (y, NameKind.free) ∈ scope.names := PySem.mem_of_lookup hl
    obtain ⟨c', e'⟩ := mem_lookup (cloFrom_has (cells := X.env.cells) (acc := []) hy)
    exact ⟨c', e', (mem e').1⟩
  have nocell : ∀ y, scope.names.lookup y ≠ some .cell := fun y z => hcell _ (PySem.mem_of_lookup z) rfl
  have noA : ∀ b : Addr, b ∉ ([] : List Addr) := fun b z => by cases z
  have okB : (kcx X A s H (kenv X scope q s.heap.objs.size f c')).Ok := by
    refine ⟨I.ok.mod, ok.kind, rfl, rfl, Nat.le_refl _, fun y z c e1 e2 => I.ok.inj y z c (mem e1).1 (mem e2).1, fun y hy => ?_, fun y c z e => ?_, hd, hA, .inr ⟨rfl, rfl⟩, fun b hb => absurd hb (noA b), I.bs, Nat.le_trans I.ok.bsz I.sz, fun b o e => noA b, fun b hb => absurd hb (noA b), I.stack, I.stkFree⟩
    · have hy : scope.names.lookup y = some .cell ∨ scope.names.lookup y = some .free := hy
      rcases hy with hy | hy
      · exact absurd hy (nocell y)
      · obtain ⟨c, h1, _⟩ := look hy
        exact ⟨c, h1⟩
    · have z : (scope.names.lookup y == some NameKind.cell) = true := z
      exact absurd (by simpa using z) (nocell y)
  refine ⟨okB, rfl, I.bare, Un.kept kp, ⟨_, hn, fun j y v e1 e2 e3 => ?_⟩, fun y c e => ?_, I.hok.fresh (Nat.le_refl _), fun y c e => ?_, fun p hp => absurd (show p ∈ ([] : List (Addr × Obj)) ++ [] from hp) (by simp), I.hok.kept kp, by rw [List.length_set, wipe_length]; exact I.len⟩
  · have e1 : X.N[j]? = some y := e1
    by_cases hji : j = i
    · subst hji
      rw [hai] at e1
      cases e1
      have hl : j < (wipe σ (own.map (·.2))).length := by
        have := (List.getElem?_eq_some_iff.mp e2).1
        rwa [List.length_set] at this
      rw [List.getElem?_set_self hl] at e2
      cases e2
      exact ⟨u, r, .inl ⟨hloc, by simp⟩⟩
    · rw [List.getElem?_set_ne (Ne.symm hji)] at e2
      obtain ⟨e2, hne⟩ := wipe_some e2
      have e3 : Vis scope y := e3
      have no : ¬ (scope.names.lookup y = some .local) := fun hh => by
        rcases ok.own _ (PySem.mem_of_lookup hh) (.inl rfl) with e' | e'
        · obtain ⟨p, hp, hpy⟩ := List.mem_map.mp e'
          have e3 := ok.ix p hp
          have : p.1 = y := hpy
          rw [this] at e3
          exact hne (List.mem_map.mpr ⟨p, hp, nodup_ix hN e3 e1⟩)
        · exact e' (List.mem_of_getElem? e1)
      have hfr : scope.names.lookup y = some .free := by
        rcases e3 with e3 | e3 | e3
        · exact absurd e3 no
        · exact absurd e3 (nocell y)
        · exact e3
      obtain ⟨m2, hn2, hl⟩ := I.loc
      have hvis : Vis X.env.scope y := (ok.free _ (PySem.mem_of_lookup hfr) rfl).elim (fun k => .inr (.inl k)) (fun k => .inr (.inr k))
      obtain ⟨w, r, q⟩ := hl j y v e1 e2 hvis
      refine ⟨w, r, .inr ⟨.inr hfr, ?_⟩⟩
      obtain ⟨c, h1, h2⟩ := look hfr
      rcases q with ⟨k, _⟩ | ⟨_, c', e', z⟩
      · have k : X.env.scope.names.lookup y = some .local := k
        rcases ok.free _ (PySem.mem_of_lookup hfr) rfl with k' | k' <;> rw [show X.env.scope.names.lookup y = _ from k'] at k <;> cases k
      · rw [h2] at e'; cases e'
        exact ⟨c, h1, z.keeps kp⟩
  · have e : (cloFrom X.env.cells scope.names []).lookup y = some c := e
    obtain ⟨w, z⟩ := I.cell y c (mem e).1
    exact ⟨w, z.keeps kp⟩
  · have e : (cloFrom X.env.cells scope.names []).lookup y = some c := e
    exact I.freeC y c (mem e).1

/-- a function whose code object bears any name -/
theorem callFunQ {prog : Program} {w : World} {A : Around} {R : Result → Shared → Prop} {s : Shared} {a : Addr} {args : Args} {o : Obj} {fd : FuncData} {body : Expr} {q : Str} (hroom : A.depth < recursionLimit) (ho : s.heap.get? a = some o)
    (hd' : o.data = .func fd) (hco : fd.scope.isCoroutine = false) (hgen : fd.scope.isGenerator = false) (hbody : fd.body = .expr body) (hcd : s.heap.CodeRec fd.code q)
    (h : wpAny (model prog w) A.in1 (bindArgs fd args) (fun binds s₁ =>
      wpAny (model prog w) A.in1 (newFunctionEnv fd.scope fd.globals fd.closure binds (q ++ ".<locals>.") (some a) fd.code none fd.builtins)
        (fun env s₂ => s₂.heap.NoLimit ∧ codeAny (model prog w) A (.expr body env) R s₂) (fun e s' => R (.error e) s') s₁) (fun e s' => R (.error e) s') s) :
    codeAny (model prog w) A (.call (.ref a) args) R s := by
  refine codeAny_of_tree ?_
  show wpAny _ A.in1 (callAny (.ref a) args) _ _ s
  simp only [callAny]
  refine wpAny_bind (wpAny_load ho ?_)
  obtain ⟨c, oc, vs, tq, hc, hoc, hdc, hq⟩ := hcd
  simp only [hd', callFunction, hco, hgen, hbody, hc]
  rw [hc] at h
  refine wpAny_bind (m := field (.ref c) 1) (wpAny_field hoc hdc hq (wpAny_bind (wpAny_pure ?_)))
  exact wpAny_bind (wpAny_mono h (fun binds s₁ h₁ => wpAny_bind (wpAny_mono h₁ (fun env s₂ h₂ => wpAny_bind (wpAny_enterFrame h₂.1 hroom
    (wpAny_pure (And.intro rfl h₂.2)))) fun _ _ h' => h')) fun _ _ h' => h')

/-- one call of the lambda -/
theorem key_call {scope : Scope} {own : List (Str × Nat)} {nm ql : Str} {params : Arguments} {body : Expr} {f c' : Addr} {pm ctv : Value} {q : Str} {A : Around} {a : Str} {i : Nat} {x : V} {u : Value} {te : TE} {Q : VK} {k : Nat} {E : Value → Shared → Prop}
    (I : Inv X pins σ H s) (hf : s.heap.get? f = some (PySem.W.kla_obj nm ql params body scope (cloFrom X.env.cells scope.names []) pm c' ctv)) (hc : H c' = some (LamX.CodeO c' q)) (ok : BlkOk X.N X.env.scope scope own) (hcell : ∀ y ∈ scope.names, y.2 ≠ .cell) (hN : X.N.Nodup)
    (hco : scope.isCoroutine = false) (hgen : scope.isGenerator = false) (hai : X.N[i]? = some a) (hloc : scope.names.lookup a = some .local) (r : RelV x u) (hA : A.frames = some X.stack) (hh : A.handled = none) (hdp : A.depth < recursionLimit) (hr : ∀ env, Room k (A.deeper env))
    (hbind : bindArgs (PySem.W.kla_fn nm ql params body scope (cloFrom X.env.cells scope.names []) pm (.ref c') ctv) ⟨[u], []⟩ = pure [(a, u)])
    (hbody : ∀ (A : Around) (s : Shared) (H : Hp) (q : Str) (L f c' : Addr), Room k A → PE (kcx X A s H (kenv X scope q L f c')) body te) (h : te ((wipe σ (own.map (·.2))).set i (some x)) H Q) :
    wpAny (model X.prog X.w) A (call (.ref f) [u]) (fun v s' => ∃ y H', Inv X pins σ H' s' ∧ RelV y v ∧ Q y H' ∧ Un (frs X.stack) [] H H' s.heap s'.heap) E s := by
  obtain ⟨⟨oc, vs, t, hoc, hdc, hvc⟩, _, _⟩ := I.hok c' _ hc
  have rc : codeAny (model X.prog X.w) A (.call (.ref f) ⟨[u], []⟩) (fun r s' => ∃ v, r = .ok (.ret v) ∧ ∃ y H', Inv X pins σ H' s' ∧ RelV y v ∧ Q y H' ∧ Un (frs X.stack) [] H H' s.heap s'.heap) s := by
    refine callFunQ hdp hf rfl hco hgen rfl ⟨c', oc, vs, t, rfl, hoc, hdc, hvc⟩ ?_
    rw [hbind]
    refine wpAny_pure (wpAny_newFunctionEnv (fun y hy => hcell y hy) (fun y hy => by obtain rfl := List.mem_singleton.mp hy; exact hloc) (fun h₁ hns hsb => ⟨I.nolimit.fresh _ hsb, ?_⟩) ok.kind)
    show codeAny _ _ (.expr body (kenv X scope q s.heap.objs.size f c')) _ _
    have kp : ∀ b o, s.heap.get? b = some o → h₁.get? b = some o := fun b o e => hsb.extBut b o (Nat.ne_of_lt (Heap.lt_size e)) (Heap.get?_push_of_some _ e)
    have J := key_start (t' := s.toks + ([(a, u)] : List (Str × Value)).length) (A := A.deeper (kenv X scope q s.heap.objs.size f c')) (q := q) (f := f) (c' := c') I ok hcell hN (deeper_frames hA) (fun _ => hh) hai hloc r hns kp
    refine PySem.W.kla_codeExpr (wpAny_mono ((hbody _ s H _ _ _ _ (hr _)).run [] _ _ H Q J h) (fun v s' hq => ?_) fun e s' hq => hq.elim)
    obtain ⟨y, H', J', rv, q⟩ := hq
    exact ⟨v, rfl, y, H', I.call' (ch := []) J'.os J'.base J'.hok J'.bare fun b hb => absurd hb (by simp), rv, q, J'.base⟩
  refine wpAny_call (codeAny_mono rc fun r s' hq => ?_)
  obtain ⟨v, rfl, hq⟩ := hq
  exact hq

theorem among_snoc {p : Pos} {c : Value} {l : List Value} (h : TriplesOk l) (hc : codeAmong p l = none) : codeAmong p (l ++ [rawInt p.line, rawInt p.col, c]) = some c := by
  fun_induction TriplesOk l with
  | case1 => simp [rawInt, codeAmong]
  | case2 a t b u x rest ih =>
    simp only [List.cons_append, codeAmong] at hc ⊢
    split at hc
    · cases hc
    · rename_i q
      rw [if_neg q]
      exact ih h hc
  | case3 l h1 h2 => exact h.elim
theorem among_mono {p : Pos} {cv : Value} {l m : List Value} (h : TriplesOk l) (hc : codeAmong p l = some cv) : codeAmong p (l ++ m) = some cv := by
  fun_induction TriplesOk l with
  | case1 => simp [codeAmong] at hc
  | case2 a t b u x rest ih =>
    simp only [List.cons_append, codeAmong] at hc ⊢
    split at hc
    · rename_i q
      rw [if_pos q]
      exact hc
    · rename_i q
      rw [if_neg q]
      exact ih h hc
  | case3 l h1 h2 => exact h.elim
/-- the table at P may have grown, a code object may be new -/
structure TabK (P : Addr) (H H1 : Hp) : Prop where
  tab : TabG H1 P
  keep : ∀ b o, b ≠ P → H b = some o → H1 b = some o
  new : ∀ b o, H1 b = some o → H b = some o ∨ b = P ∨ (∃ q, o = LamX.CodeO b q) ∧ H b = none
theorem key_make {c P : Addr} {params : Arguments} {body : Expr} {scope : Scope} {pos : Pos} {E : Value → Shared → Prop} {Q : Value → Shared → Prop} (I : Inv X pins σ H s) (TB : TabB X.base X.mg c P) (hcode : X.env.code = .ref c)
    (hT : TabG H P) (hlam : lamP pos = true) (hdef : defaultsOf params X.env = ([], [])) (hfree : ∀ y ∈ scope.names, y.2 = .free → ∃ c, X.env.cells.lookup y.1 = some c)
    (h : ∀ (f c' : Addr) (pm ctv : Value) (H1 : Hp) (s' : Shared), Inv X pins σ H1 s' → TabK P H H1 → s'.heap.get? f = some (PySem.W.kla_obj "<lambda>" (X.env.qual ++ "<lambda>") params body scope (cloFrom X.env.cells scope.names []) pm c' ctv) → H1 f = none → s.heap.objs.size ≤ f → (∃ ps : Array Value, H1 P = some (.tbl ps) ∧ codeAmong pos ps.toList = some (.ref c')) → Q (.ref f) s') :
    wpAny (model X.prog X.w) X.A (eval (.Lambda params body scope pos) X.env) Q E s := by
  obtain ⟨ps, hP, ht, ha⟩ := id hT
  refine PySem.W.kla_eval hdef ?_
  have bP : s.heap.BuiltinsAt X.mg P := TB.bm.keeps I.bk
  have hP' : s.heap.get? P = some { cls := .none, data := .fields ps } := I.hok P _ hP
  cases hc : codeAmong pos ps.toList with
  | none =>
    refine PySem.W.kla_makeFunction (mg := X.mg) (c := c) (P := P) (ps := ps) (closure_ok hfree) I.ok.glob (I.mod.glob.keeps I.bk) hcode (TB.code.keeps I.bk) hP' ht hc TB.gP bP fun c' ctv h' tk hx hge hlt hrec htb => ?_
    obtain ⟨c2, oc, vs, t, e2, hoc, hd, hv⟩ := hrec
    cases e2
    have hsz : s.heap.objs.size ≤ h'.objs.size := Nat.le_trans hge (Nat.le_of_lt hlt)
    have nC : H c' = none := I.hok.fresh hge
    have nPc : P ≠ c' := ne_of_none hP nC
    have I1 := LamX.inv_table (t' := tk) (q := X.env.qual ++ "<lambda>") (more := #[rawInt pos.line, rawInt pos.col, .ref c']) (h' := h'.push (PySem.W.kla_obj "<lambda>" (X.env.qual ++ "<lambda>") params body scope (cloFrom X.env.cells scope.names []) ((X.mg "__name__").getD .none) c' ctv)) I hP
      (fun b o hb e => Heap.get?_push_of_some _ (hx b o hb e)) (Heap.get?_push_of_some _ htb) hge ⟨oc, vs, t, Heap.get?_push_of_some _ hoc, hd, hv⟩
    have hE : ∀ b o, b ≠ P → H b = some o → (upd (upd H P (.tbl (ps ++ #[rawInt pos.line, rawInt pos.col, .ref c']))) c' (LamX.CodeO c' (X.env.qual ++ "<lambda>"))) b = some o := fun b o n e => by
      rw [upd_ne (ne_of_none e nC), upd_ne n]
      exact e
    have eL : (ps ++ #[rawInt pos.line, rawInt pos.col, .ref c']).toList = ps.toList ++ [rawInt pos.line, rawInt pos.col, .ref c'] := by simp
    refine h h'.objs.size c' ((X.mg "__name__").getD .none) ctv _ _ I1 ⟨⟨_, by rw [upd_ne nPc, upd_same], by rw [eL]; exact PySem.TriplesOk_snoc _ _ _ _ ht, fun p' cv h1 hcv => ?_⟩, hE, fun b o e => ?_⟩ (Heap.get?_push_size _ rfl) ?_ hsz ⟨_, by rw [upd_ne nPc, upd_same], by rw [eL]; exact among_snoc ht hc⟩
    · rw [eL] at hcv
      rcases LamX.among_app _ ht hcv with z | z
      · obtain ⟨c0, q0, e1, e2⟩ := ha p' cv h1 z
        exact ⟨c0, q0, e1, hE _ _ (ne_of e2 hP codeO_tbl) e2⟩
      · exact ⟨c', _, z, upd_same⟩
    · by_cases hb : b = c'
      · subst hb
        rw [upd_same] at e
        cases e
        exact .inr (.inr ⟨⟨_, rfl⟩, nC⟩)
      · by_cases hb2 : b = P
        · exact .inr (.inl hb2)
        · rw [upd_ne hb, upd_ne hb2] at e
          exact .inl e
    · have n1 : h'.objs.size ≠ c' := Nat.ne_of_gt hlt
      have n2 : h'.objs.size ≠ P := Nat.ne_of_gt (Nat.lt_of_lt_of_le (Heap.lt_size hP') hsz)
      rw [upd_ne n1, upd_ne n2]
      exact I.hok.fresh hsz
  | some cv =>
    obtain ⟨c', q, e, hco⟩ := ha pos cv hlam hc
    subst e
    refine PySem.W.kla_makeFunctionHit (mg := X.mg) (c := c) (P := P) (ps := ps) (closure_ok hfree) I.ok.glob (I.mod.glob.keeps I.bk) hcode (TB.code.keeps I.bk) hP' ht hc bP fun ctv h' tk hx hsz => ?_
    have I1 : Inv X pins σ H { s with heap := h'.push (PySem.W.kla_obj "<lambda>" (X.env.qual ++ "<lambda>") params body scope (cloFrom X.env.cells scope.names []) ((X.mg "__name__").getD .none) c' ctv), toks := tk } := I.kept fun b o e => Heap.get?_push_of_some _ (hx b o e)
    exact h h'.objs.size c' ((X.mg "__name__").getD .none) ctv H _ I1 ⟨hT, fun b o _ e => e, fun b o e => .inl e⟩ (Heap.get?_push_size _ rfl) (I.hok.fresh hsz) hsz ⟨ps, hP, hc⟩
end
end L9

set_option Elab.async false
set_option linter.all false
set_option maxRecDepth 100000
set_option maxHeartbeats 4000000
namespace L9
open PySem PySem.Spec
open PyProof.Rows hiding St
open L2 L3 L5
open GxR (TabB inv_tab)

/-! ### keys: pairs of ints -/
def ltK (p q : Int × Int) : Bool := if p.1 = q.1 then decide (p.2 < q.2) else decide (p.1 < q.1)
def KeyAt (K : Fg) (H : Hp) (v : Value) (k : Int × Int) : Prop := ∃ t, v = .ref t ∧ SqT K H t [.int k.1, .int k.2]
theorem sqT_un {K : Fg} {fs ex : List Addr} {H H' : Hp} {h h' : Heap} {a : Addr} {xs : List V} (u : Un fs ex H H' h h') (q : SqT K H a xs) : SqT K H' a xs := by
  rcases q with (q | ⟨o, q⟩) | q
  · exact .inl (.inl (u.tups _ _ q))
  · exact .inl (.inr ⟨o, u.frzs _ _ _ q⟩)
  · exact .inr q
theorem KeyAt.un {K : Fg} {fs ex : List Addr} {H H' : Hp} {h h' : Heap} {v : Value} {k : Int × Int} (u : Un fs ex H H' h h') (q : KeyAt K H v k) : KeyAt K H' v k := let ⟨t, e, z⟩ := q; ⟨t, e, sqT_un u z⟩
section
variable {X : Cx} {pins : List (Addr × Obj)} {σ : L2.St} {H : Hp} {s : Shared}
theorem key_lt {A : Around} {v u : Value} {p q : Int × Int} (I : Inv X pins σ H s) (hu : A.units < cLine) (hv : KeyAt X.K H v p) (hq : KeyAt X.K H u q) : Ob.RcOp .Lt A s v u (ltK p q) := by
  obtain ⟨a, rfl, ha⟩ := hv
  obtain ⟨b, rfl, hb⟩ := hq
  obtain ⟨its, r1, p1, _⟩ := I.tuple ha
  obtain ⟨its2, r2, p2, _⟩ := I.tuple hb
  obtain ⟨x1, y1, rfl, ⟨t1, rfl⟩, ⟨t2, rfl⟩⟩ := vals2 r1
  obtain ⟨x2, y2, rfl, ⟨t3, rfl⟩, ⟨t4, rfl⟩⟩ := vals2 r2
  have R := Ob.RcOp.tuples_lt (A := A) (s := s) (e := fun j => if j = 0 then decide (p.1 = q.1) else decide (p.2 = q.2)) (r := fun j => if j = 0 then decide (p.1 < q.1) else decide (p.2 < q.2)) p1 p2 hu (fun j h1 h2 => by
    have h1 : j < 2 := h1
    match j, h1 with
    | 0, _ =>
      have z : (p.1 == q.1) = decide (p.1 = q.1) := by by_cases q : p.1 = q.1 <;> simp [q]
      show SeqAt.EqAt _ _ (.int p.1 t1) (.int q.1 t3) (decide (p.1 = q.1))
      rw [← z]
      exact SeqAt.EqAt.int_int _ _ _ _
    | 1, _ =>
      have z : (p.2 == q.2) = decide (p.2 = q.2) := by by_cases q : p.2 = q.2 <;> simp [q]
      show SeqAt.EqAt _ _ (.int p.2 t2) (.int q.2 t4) (decide (p.2 = q.2))
      rw [← z]
      exact SeqAt.EqAt.int_int _ _ _ _) (fun j h1 h2 _ => by
    have h1 : j < 2 := h1
    match j, h1 with
    | 0, _ => exact Ob.RcOp.lt_int _ _ _ _
    | 1, _ => exact Ob.RcOp.lt_int _ _ _ _)
  have e : Ob.lexAt (fun j => if j = 0 then decide (p.1 = q.1) else decide (p.2 = q.2)) (fun j => if j = 0 then decide (p.1 < q.1) else decide (p.2 < q.2)) false 0 2 = ltK p q := by
    unfold ltK
    by_cases h1 : p.1 = q.1
    · by_cases h2 : p.2 = q.2
      · simp [Ob.lexAt, h1, h2]
      · simp [Ob.lexAt, h1, h2]
    · simp [Ob.lexAt, h1]
  have R' : Ob.RcOp .Lt A s (.ref a) (.ref b) (Ob.lexAt (fun j => if j = 0 then decide (p.1 = q.1) else decide (p.2 = q.2)) (fun j => if j = 0 then decide (p.1 < q.1) else decide (p.2 < q.2)) false 0 2) := R
  rw [e] at R'
  exact R'
theorem re_pin {pl : List (Addr × Obj)} (I : Inv X pins σ H s) (h : ∀ p ∈ pl, p ∈ pins ∨ (s.heap.get? p.1 = some p.2 ∧ H p.1 = none ∧ p.1 ≠ X.env.locals ∧ p.1 ∉ X.fs ∧ ∀ v, p.2.data ≠ .cell v)) : Inv X pl σ H s :=
  I.pins_of fun p hp => (h p hp).elim (fun m => I.pin p (List.mem_append_right _ m)) id
/-- an address that is new at s -/
structure NewA (X : Cx) (pins : List (Addr × Obj)) (a : Addr) : Prop where
  sz : X.s_0.heap.objs.size ≤ a
  loc : a ≠ X.env.locals
  fs : a ∉ X.fs
  cell : ∀ x c, X.env.cells.lookup x = some c → c ≠ a
  pin : ∀ p ∈ X.pn ++ pins, p.1 ≠ a
theorem newA {a : Addr} (I : Inv X pins σ H s) (h : s.heap.objs.size ≤ a) : NewA X pins a where
  sz := Nat.le_trans I.sz h
  loc := fun z => absurd (z ▸ I.lt) (Nat.not_lt.mpr h)
  fs := I.nofs h
  cell := fun x c e z => by
    obtain ⟨v, k⟩ := I.cell x c e
    exact absurd k.lt (Nat.not_lt.mpr (z ▸ h))
  pin := fun p hp z => absurd (Heap.lt_size (I.pin p hp).1) (Nat.not_lt.mpr (z ▸ h))
end
/-- the best of the first ones -/
def bestI (kf : Nat → Int × Int) : Nat → Nat
  | 0 => 0
  | j + 1 => if ltK (kf (j + 1)) (kf (bestI kf j)) = true then j + 1 else bestI kf j
theorem min_loop_name : (toString "min" ++ toString ".loop" : String) = "min.loop" := by decide
theorem minK_loop {X : Cx} {pins : List (Addr × Obj)} {σ : L2.St} {A : Around} {l f I0 S : Addr} {fo : Obj} {xs : List V} (kf : Nat → Int × Int) (W : Nat → Hp → Prop) {R : Result → Shared → Prop}
    (hh : A.handled = none) (hu : A.in1.units < cLine) (hS : NewA X pins S) (hI : NewA X pins I0) (hSI : S ≠ I0) (hlI : l ≠ I0) (hfS : f ≠ S) (hfI : f ≠ I0)
    (hls : ∀ j H s pl, W j H → Inv X pl σ H s → ∃ vs : List Value, Vals xs vs ∧ s.heap.IsList l vs.toArray)
    (turn : ∀ (j : Nat) (x : V) (v : Value), xs[j]? = some x → RelV x v → ∀ (H : Hp) (s : Shared) (pl : List (Addr × Obj)), W j H → Inv X pl σ H s → (f, fo) ∈ pl → wpAny (model X.prog X.w) A.in1 (call (.ref f) [v])
      (fun kv s' => ∃ H', Inv X pl σ H' s' ∧ KeyAt X.K H' kv (kf j) ∧ (∀ u k, KeyAt X.K H u k → KeyAt X.K H' u k) ∧ W (j + 1) H') (fun _ _ => False) s)
    (hR : ∀ x v H s, xs[bestI kf (xs.length - 1)]? = some x → RelV x v → W xs.length H → Inv X pins σ H s → R (.ok (.ret v)) s) :
    ∀ (r j : Nat) (H : Hp) (s : Shared) (vb kb : Value) (c : Nat) (oI : Obj), xs.length - (j + 1) = r → j + 1 ≤ xs.length → W (j + 1) H →
      Inv X (pins ++ [(f, fo), (S, seqObj "list" #[vb, kb] c), (I0, oI)]) σ H s → s.heap.IsListIter I0 l (j + 1) → (∃ x, xs[bestI kf j]? = some x ∧ RelV x vb) → KeyAt X.K H kb (kf (bestI kf j)) →
      codeAny (model X.prog X.w) A (.builtin "min.loop" ⟨[.ref I0, .ref f, .ref S], []⟩) R s := by
  intro r
  induction r with
  | zero =>
    intro j H s vb kb c oI hr hj hW I hit hvb hkb
    obtain ⟨vs, rvs, hlst⟩ := hls _ H s _ hW I
    have Wk := Walks.list (prog := X.prog) (w := X.w) (A := A.in1) hh I0 l hlI vs.toArray
    have hsz : vs.toArray.size = xs.length := by rw [List.size_toArray]; exact rvs.length.symm
    have hin : j + 1 = xs.length := by omega
    have pS := I.pin (S, seqObj "list" #[vb, kb] c) (by simp)
    have pI := I.pin (I0, oI) (by simp)
    refine codeAny_builtin PySem.F.entry_min_loop ?_
    rw [Around.under_plainId PySem.F.plain_min_loop _]
    show wpAny _ A.in1 (seqItems? (.ref S) >>= _) _ _ _
    refine wpAny_bind (wpAny_seqItems pS.1 rfl ?_)
    show wpAny _ A.in1 (tryCatch (pyNext (.ref I0)) _ >>= _) _ _ _
    refine wpAny_bind (wpAny_tryCatch (Wk.done _ _ _ ⟨by rw [hsz, ← hin]; exact hit, hlst⟩ fun h' tk' hk' => ?_))
    have I1 : Inv X (pins ++ [(S, seqObj "list" #[vb, kb] c)]) σ H s := re_pin I fun p hp => .inl (by simp at hp ⊢; rcases hp with hp | hp <;> simp [hp])
    have I2 : Inv X (pins ++ [(S, seqObj "list" #[vb, kb] c)]) σ H { s with heap := h', toks := tk' } := I1.turned (t' := tk') (it := I0) (fun b o hb e => hk' b o (by simpa using hb) e) pI.2.1 pI.2.2.1 (.inr hI.sz) hI.cell (fun p hp => by
      rcases List.mem_append.mp hp with hp | hp
      · exact hI.pin p (List.mem_append_left _ hp)
      · rcases List.mem_append.mp hp with hp | hp
        · exact hI.pin p (List.mem_append_right _ hp)
        · rw [List.mem_singleton.mp hp]; exact hSI)
    have hS' := (I2.pin (S, seqObj "list" #[vb, kb] c) (by simp)).1
    have s1 := Heap.SameBut.update h' S (Obj.mapSeq fun _ => (#[] : Array Value))
    show wpAny _ A.in1 (updateSeq S (fun _ => #[]) >>= _) _ _ _
    refine wpAny_bind ?_
    refine wpAny_updateSeq hS' rfl (wpAny_bind (wpAny_letGo (wpAny_pure ?_)))
    have I3 : Inv X pins σ H { s with heap := h', toks := tk' } := re_pin I2 fun p hp => .inl (List.mem_append_left _ hp)
    have I4 : Inv X pins σ H { s with heap := h'.update S (Obj.mapSeq fun _ => (#[] : Array Value)), toks := tk' } := L2.Inv.turned (s := { s with heap := h', toks := tk' }) I3 (t' := tk') (it := S) (fun b o hb e => (s1.2 b hb).trans e) pS.2.1 pS.2.2.1 (.inr hS.sz) hS.cell hS.pin
    obtain ⟨xb, hxb, rxb⟩ := hvb
    exact hR xb vb H _ (by rw [← hin]; exact hxb) rxb (by rw [← hin]; exact hW) I4
  | succ r ih =>
    intro j H s vb kb c oI hr hj hW I hit hvb hkb
    obtain ⟨vs, rvs, hlst⟩ := hls _ H s _ hW I
    have Wk := Walks.list (prog := X.prog) (w := X.w) (A := A.in1) hh I0 l hlI vs.toArray
    have hsz : vs.toArray.size = xs.length := by rw [List.size_toArray]; exact rvs.length.symm
    have hlt : j + 1 < xs.length := by omega
    have pS := I.pin (S, seqObj "list" #[vb, kb] c) (by simp)
    have pI := I.pin (I0, oI) (by simp)
    refine codeAny_builtin PySem.F.entry_min_loop ?_
    rw [Around.under_plainId PySem.F.plain_min_loop _]
    show wpAny _ A.in1 (seqItems? (.ref S) >>= _) _ _ _
    refine wpAny_bind (wpAny_seqItems pS.1 rfl ?_)
    show wpAny _ A.in1 (tryCatch (pyNext (.ref I0)) _ >>= _) _ _ _
    refine wpAny_bind (wpAny_tryCatch (Wk.item (j + 1) _ _ _ (by rw [hsz]; exact hlt) ⟨hit, hlst⟩ fun v h' tk' hP hst' hk' => ?_))
    have hv : vs[j + 1]? = some v := by simpa using hP
    obtain ⟨x, hx, rx⟩ : ∃ x, xs[j + 1]? = some x ∧ RelV x v := by
      obtain ⟨u, h1, h2⟩ := rvs.get (List.getElem?_eq_getElem hlt)
      rw [hv] at h1
      cases h1
      exact ⟨_, List.getElem?_eq_getElem hlt, h2⟩
    obtain ⟨oI', hoI', hoc, hod⟩ := id hst'.1
    have I1 : Inv X (pins ++ [(f, fo), (S, seqObj "list" #[vb, kb] c)]) σ H s := re_pin I fun p hp => .inl (by simp at hp ⊢; rcases hp with hp | hp | hp <;> simp [hp])
    have I2 : Inv X (pins ++ [(f, fo), (S, seqObj "list" #[vb, kb] c)]) σ H { s with heap := h', toks := tk' } := I1.turned (t' := tk') (it := I0) (fun b o hb e => hk' b o (by simpa using hb) e) pI.2.1 pI.2.2.1 (.inr hI.sz) hI.cell (fun p hp => by
      rcases List.mem_append.mp hp with hp | hp
      · exact hI.pin p (List.mem_append_left _ hp)
      · rcases List.mem_append.mp hp with hp | hp
        · exact hI.pin p (List.mem_append_right _ hp)
        · simp at hp
          rcases hp with hp | hp <;> rw [hp]
          · exact hfI
          · exact hSI)
    have I3 : Inv X (pins ++ [(f, fo), (S, seqObj "list" #[vb, kb] c), (I0, oI')]) σ H { s with heap := h', toks := tk' } := re_pin I2 fun p hp => by
      simp at hp
      rcases hp with hp | hp | hp | hp
      · exact .inl (by simp [hp])
      · exact .inl (by simp [hp])
      · exact .inl (by simp [hp])
      · rw [hp]
        exact .inr ⟨hoI', pI.2.1, pI.2.2.1, pI.2.2.2.1, fun v z => by rw [show oI'.data = _ from hod] at z; cases z⟩
    show wpAny _ A.in1 (tryCatch (holding [v] (call (.ref f) [v])) _ >>= _) _ _ _
    refine wpAny_bind (wpAny_tryCatch (wpAny_holding (wpAny_mono (turn (j + 1) x v hx rx H _ _ hW I3 (by simp)) (fun kv s'' he => ?_) fun _ _ hF => hF.elim)))
    obtain ⟨H2, I4, hk2, hmono, hW2⟩ := he
    have qS := I4.pin (S, seqObj "list" #[vb, kb] c) (by simp)
    have qI := I4.pin (I0, oI') (by simp)
    show wpAny _ A.in1 (tryCatch (holding [v, kv] (richCompare .Lt kv kb >>= _)) _ >>= _) _ _ _
    refine wpAny_bind (wpAny_tryCatch (wpAny_holding (wpAny_bind (key_lt (A := A.in1) I4 hu hk2 (hmono _ _ hkb) X.prog X.w _ _ ?_))))
    refine wpAny_bind (wpAny_holding (wpAny_truthy_bool ?_))
    refine wpAny_bind (wpAny_letGo (wpAny_pure ?_))
    by_cases hb' : ltK (kf (j + 1)) (kf (bestI kf j)) = true
    · have eb : bestI kf (j + 1) = j + 1 := by show (if _ then _ else _) = _; rw [if_pos hb']
      have s1 := Heap.SameBut.update s''.heap S (Obj.mapSeq fun _ => #[v, kv])
      obtain ⟨c2, hc2⟩ : ∃ c2, (s''.heap.update S (Obj.mapSeq fun _ => #[v, kv])).get? S = some (seqObj "list" #[v, kv] c2) := ⟨_, get?_update_seq qS.1 fun _ => #[v, kv]⟩
      simp only [hb', if_true]
      refine wpAny_bind ?_
      refine wpAny_updateSeq qS.1 rfl (wpAny_bind (wpAny_letGo ?_))
      rw [min_loop_name]
      have I5 : Inv X (pins ++ [(f, fo), (I0, oI')]) σ H2 s'' := re_pin I4 fun p hp => .inl (by simp at hp ⊢; rcases hp with hp | hp | hp <;> simp [hp])
      have I6 : Inv X (pins ++ [(f, fo), (I0, oI')]) σ H2 { s'' with heap := s''.heap.update S (Obj.mapSeq fun _ => #[v, kv]) } := I5.turned (t' := s''.toks) (it := S) (fun b o hb e => (s1.2 b hb).trans e) qS.2.1 qS.2.2.1 (.inr hS.sz) hS.cell (fun p hp => by
        rcases List.mem_append.mp hp with hp | hp
        · exact hS.pin p (List.mem_append_left _ hp)
        · rcases List.mem_append.mp hp with hp | hp
          · exact hS.pin p (List.mem_append_right _ hp)
          · simp at hp
            rcases hp with hp | hp <;> rw [hp]
            · exact hfS
            · exact hSI.symm)
      have I7 : Inv X (pins ++ [(f, fo), (S, seqObj "list" #[v, kv] c2), (I0, oI')]) σ H2 { s'' with heap := s''.heap.update S (Obj.mapSeq fun _ => #[v, kv]) } := re_pin I6 fun p hp => by
        simp at hp
        rcases hp with hp | hp | hp | hp
        · exact .inl (by simp [hp])
        · exact .inl (by simp [hp])
        · rw [hp]
          exact .inr ⟨hc2, qS.2.1, qS.2.2.1, qS.2.2.2.1, fun v z => by cases z⟩
        · exact .inl (by simp [hp])
      refine wpAny_pure ⟨plainId_quiet PySem.F.plain_min_loop _, ih (j + 1) H2 _ v kv c2 oI' (by omega) hlt hW2 I7 ⟨oI', (s1.2 I0 hSI.symm).trans qI.1, hoc, hod⟩ (by rw [eb]; exact ⟨x, hx, rx⟩) (by rw [eb]; exact hk2)⟩
    · have eb : bestI kf (j + 1) = bestI kf j := by show (if _ then _ else _) = _; rw [if_neg hb']
      have hb2 : ltK (kf (j + 1)) (kf (bestI kf j)) = false := by simpa using hb'
      simp only [hb2, Bool.false_eq_true, if_false]
      refine wpAny_bind (wpAny_letGo ?_)
      rw [min_loop_name]
      exact wpAny_pure ⟨plainId_quiet PySem.F.plain_min_loop _, ih (j + 1) H2 _ vb kb c oI' (by omega) hlt hW2 I4 ⟨oI', qI.1, hoc, hod⟩ (by rw [eb]; exact hvb) (by rw [eb]; exact hmono _ _ hkb)⟩
/-- min of a list by a key -/
theorem minK_call {X : Cx} {pins : List (Addr × Obj)} {σ : L2.St} {H : Hp} {s : Shared} {A : Around} {l f : Addr} {fo : Obj} {xs : List V} {E : Value → Shared → Prop} (kf : Nat → Int × Int) (W : Nat → Hp → Prop) {Q : Value → Shared → Prop}
    (hh : A.handled = none) (hu : A.in1.units < cLine) (I : Inv X pins σ H s) (hf : s.heap.get? f = some fo) (hfn : H f = none) (hfA : NewA X pins f) (hfd : ∀ v, fo.data ≠ .cell v) (hne : 0 < xs.length) (h0 : W 0 H)
    (hls : ∀ j H s pl, W j H → Inv X pl σ H s → ∃ vs : List Value, Vals xs vs ∧ s.heap.IsList l vs.toArray)
    (turn : ∀ (j : Nat) (x : V) (v : Value), xs[j]? = some x → RelV x v → ∀ (H : Hp) (s : Shared) (pl : List (Addr × Obj)), W j H → Inv X pl σ H s → (f, fo) ∈ pl → wpAny (model X.prog X.w) A.in1 (call (.ref f) [v])
      (fun kv s' => ∃ H', Inv X pl σ H' s' ∧ KeyAt X.K H' kv (kf j) ∧ (∀ u k, KeyAt X.K H u k → KeyAt X.K H' u k) ∧ W (j + 1) H') (fun _ _ => False) s)
    (hQ : ∀ x v H s, xs[bestI kf (xs.length - 1)]? = some x → RelV x v → W xs.length H → Inv X pins σ H s → Q v s) :
    wpAny (model X.prog X.w) A (call (.builtin "min") [.ref l] [(Str.ofString "key", .ref f)]) Q E s := by
  obtain ⟨vs, rvs, hlst⟩ := hls 0 H s _ h0 I
  obtain ⟨ol, hol, _⟩ := id hlst
  have hll : l < s.heap.objs.size := Heap.lt_size hol
  have hff : f < s.heap.objs.size := Heap.lt_size hf
  refine kmk_tree PySem.F.kind_min PySem.F.plain_min PySem.F.entry_min (kmk_min_key _ _) ?_
  show wpAny _ A.in1 (Builtin.Builtins.bindParams "min" ["key", "default"] 0 ⟨[], [(Str.ofString "key", .ref f)]⟩ >>= _) _ _ s
  refine wpAny_bind (wpAny_of_eq (show Builtin.Builtins.bindParams "min" ["key", "default"] 0 ⟨[], [(Str.ofString "key", .ref f)]⟩ = pure [some (.ref f), none] from rfl) ?_)
  refine wpAny_bind (wpAny_pure ?_)
  refine wpAny_bind (wpAny_pyIter_list hlst ?_)
  refine wpAny_bind (wpAny_newList ?_ (Nat.zero_le _))
  rw [min_loop_name]
  have hS : (s.heap.push { cls := .type "list_iterator", data := .fields #[.ref l, .int 0 0] }).objs.size = s.heap.objs.size + 1 := size_push' ..
  have hlI : l ≠ s.heap.objs.size := Nat.ne_of_lt hll
  have hSI : (s.heap.push { cls := .type "list_iterator", data := .fields #[.ref l, .int 0 0] }).objs.size ≠ s.heap.objs.size := by rw [hS]; exact Nat.ne_of_gt (Nat.lt_succ_self _)
  refine wpAny_pure ⟨plainId_quiet PySem.F.plain_min_loop _, ?_⟩
  have gI : ((s.heap.push { cls := .type "list_iterator", data := .fields #[.ref l, .int 0 0] }).push (seqObj "list" #[] 0)).get? s.heap.objs.size = some { cls := .type "list_iterator", data := .fields #[.ref l, .int 0 0] } :=
    Heap.get?_push_of_some _ (Heap.get?_push_size _ rfl)
  have gS : ((s.heap.push { cls := .type "list_iterator", data := .fields #[.ref l, .int 0 0] }).push (seqObj "list" #[] 0)).get? (s.heap.push { cls := .type "list_iterator", data := .fields #[.ref l, .int 0 0] }).objs.size = some (seqObj "list" #[] 0) := Heap.get?_push_size _ rfl
  have IH : Inv X pins σ H { s with heap := (s.heap.push { cls := .type "list_iterator", data := .fields #[.ref l, .int 0 0] }).push (seqObj "list" #[] 0) } := I.kept (t' := s.toks) fun b o e => Heap.get?_push_of_some _ (Heap.get?_push_of_some _ e)
  have nI : NewA X pins s.heap.objs.size := newA I (Nat.le_refl _)
  have nS : NewA X pins (s.heap.push { cls := .type "list_iterator", data := .fields #[.ref l, .int 0 0] }).objs.size := newA I (by rw [hS]; exact Nat.le_succ _)
  have fI : H s.heap.objs.size = none := I.hok.fresh (Nat.le_refl _)
  have fS : H (s.heap.push { cls := .type "list_iterator", data := .fields #[.ref l, .int 0 0] }).objs.size = none := I.hok.fresh (by rw [hS]; exact Nat.le_succ _)
  have hfI : f ≠ s.heap.objs.size := Nat.ne_of_lt hff
  have hfS : f ≠ (s.heap.push { cls := .type "list_iterator", data := .fields #[.ref l, .int 0 0] }).objs.size := by rw [hS]; exact Nat.ne_of_lt (Nat.lt_succ_of_lt hff)
  generalize (s.heap.push { cls := .type "list_iterator", data := .fields #[.ref l, .int 0 0] }).objs.size = S at *
  have Wk := Walks.list (prog := X.prog) (w := X.w) (A := A.in1) hh s.heap.objs.size l hlI vs.toArray
  have hsz : vs.toArray.size = xs.length := by rw [List.size_toArray]; exact rvs.length.symm
  have IHf : Inv X (pins ++ [(f, fo), (S, seqObj "list" #[] 0)]) σ H { s with heap := (s.heap.push { cls := .type "list_iterator", data := .fields #[.ref l, .int 0 0] }).push (seqObj "list" #[] 0) } := re_pin IH fun p hp => by
    simp at hp
    rcases hp with hp | hp | hp
    · exact .inl hp
    · rw [hp]; exact .inr ⟨Heap.get?_push_of_some _ (Heap.get?_push_of_some _ hf), hfn, hfA.loc, hfA.fs, hfd⟩
    · rw [hp]; exact .inr ⟨gS, fS, nS.loc, nS.fs, fun v z => by cases z⟩
  have hlst' : ((s.heap.push { cls := .type "list_iterator", data := .fields #[.ref l, .int 0 0] }).push (seqObj "list" #[] 0)).IsList l vs.toArray := by
    obtain ⟨o, h1, h2⟩ := hlst
    exact ⟨o, Heap.get?_push_of_some _ (Heap.get?_push_of_some _ h1), h2⟩
  refine codeAny_builtin PySem.F.entry_min_loop ?_
  rw [Around.under_plainId PySem.F.plain_min_loop _]
  show wpAny _ A.in1 (seqItems? (.ref _) >>= _) _ _ _
  refine wpAny_bind (wpAny_seqItems gS rfl ?_)
  show wpAny _ A.in1 (tryCatch (pyNext (.ref s.heap.objs.size)) _ >>= _) _ _ _
  refine wpAny_bind (wpAny_tryCatch (Wk.item 0 _ _ _ (by rw [hsz]; exact hne) ⟨⟨_, gI, rfl, rfl⟩, hlst'⟩ fun v h' tk' hP hst' hk' => ?_))
  have hv : vs[0]? = some v := by simpa using hP
  obtain ⟨x, hx, rx⟩ : ∃ x, xs[0]? = some x ∧ RelV x v := by
    obtain ⟨u, h1, h2⟩ := rvs.get (List.getElem?_eq_getElem hne)
    rw [hv] at h1
    cases h1
    exact ⟨_, List.getElem?_eq_getElem hne, h2⟩
  obtain ⟨oI', hoI', hoc, hod⟩ := id hst'.1
  have I2 : Inv X (pins ++ [(f, fo), (S, seqObj "list" #[] 0)]) σ H { s with heap := h', toks := tk' } := L2.Inv.turned (s := { s with heap := (s.heap.push { cls := .type "list_iterator", data := .fields #[.ref l, .int 0 0] }).push (seqObj "list" #[] 0) }) IHf (t' := tk') (h' := h') (it := s.heap.objs.size) (fun b o hb e => hk' b o (by simpa using hb) e) fI nI.loc (.inr nI.sz) nI.cell (fun p hp => by
    rcases List.mem_append.mp hp with hp | hp
    · exact nI.pin p (List.mem_append_left _ hp)
    · rcases List.mem_append.mp hp with hp | hp
      · exact nI.pin p (List.mem_append_right _ hp)
      · simp at hp
        rcases hp with hp | hp <;> rw [hp]
        · exact hfI
        · exact hSI)
  have I3 : Inv X (pins ++ [(f, fo), (S, seqObj "list" #[] 0), (s.heap.objs.size, oI')]) σ H { s with heap := h', toks := tk' } := re_pin I2 fun p hp => by
    simp at hp
    rcases hp with hp | hp | hp | hp
    · exact .inl (by simp [hp])
    · exact .inl (by simp [hp])
    · exact .inl (by simp [hp])
    · rw [hp]
      exact .inr ⟨hoI', fI, nI.loc, nI.fs, fun v z => by rw [show oI'.data = _ from hod] at z; cases z⟩
  show wpAny _ A.in1 (tryCatch (holding [v] (call (.ref f) [v])) _ >>= _) _ _ _
  refine wpAny_bind (wpAny_tryCatch (wpAny_holding (wpAny_mono (turn 0 x v hx rx H _ _ h0 I3 (by simp)) (fun kv s'' he => ?_) fun _ _ hF => hF.elim)))
  obtain ⟨H2, I4, hk2, hmono, hW2⟩ := he
  have qS := I4.pin (S, seqObj "list" #[] 0) (by simp)
  have qI := I4.pin (s.heap.objs.size, oI') (by simp)
  have s1 := Heap.SameBut.update s''.heap S (Obj.mapSeq fun _ => #[v, kv])
  obtain ⟨c2, hc2⟩ : ∃ c2, (s''.heap.update S (Obj.mapSeq fun _ => #[v, kv])).get? S = some (seqObj "list" #[v, kv] c2) := ⟨_, get?_update_seq qS.1 fun _ => #[v, kv]⟩
  show wpAny _ A.in1 (updateSeq S (fun _ => #[v, kv]) >>= _) _ _ _
  refine wpAny_bind ?_
  refine wpAny_updateSeq qS.1 rfl ?_
  rw [min_loop_name]
  have I5 : Inv X (pins ++ [(f, fo), (s.heap.objs.size, oI')]) σ H2 s'' := re_pin I4 fun p hp => .inl (by simp at hp ⊢; rcases hp with hp | hp | hp <;> simp [hp])
  have I6 : Inv X (pins ++ [(f, fo), (s.heap.objs.size, oI')]) σ H2 { s'' with heap := s''.heap.update S (Obj.mapSeq fun _ => #[v, kv]) } := I5.turned (t' := s''.toks) (it := S) (fun b o hb e => (s1.2 b hb).trans e) qS.2.1 qS.2.2.1 (.inr nS.sz) nS.cell (fun p hp => by
    rcases List.mem_append.mp hp with hp | hp
    · exact nS.pin p (List.mem_append_left _ hp)
    · rcases List.mem_append.mp hp with hp | hp
      · exact nS.pin p (List.mem_append_right _ hp)
      · simp at hp
        rcases hp with hp | hp <;> rw [hp]
        · exact hfS
        · exact hSI.symm)
  have I7 : Inv X (pins ++ [(f, fo), (S, seqObj "list" #[v, kv] c2), (s.heap.objs.size, oI')]) σ H2 { s'' with heap := s''.heap.update S (Obj.mapSeq fun _ => #[v, kv]) } := re_pin I6 fun p hp => by
    simp at hp
    rcases hp with hp | hp | hp | hp
    · exact .inl (by simp [hp])
    · exact .inl (by simp [hp])
    · rw [hp]
      exact .inr ⟨hc2, qS.2.1, qS.2.2.1, qS.2.2.2.1, fun v z => by cases z⟩
    · exact .inl (by simp [hp])
  exact wpAny_pure ⟨plainId_quiet PySem.F.plain_min_loop _, minK_loop kf W hh hu nS nI hSI hlI hfS hfI hls turn hQ _ 0 H2 _ v kv c2 oI' rfl hne hW2 I7 ⟨oI', (s1.2 _ hSI.symm).trans qI.1, hoc, hod⟩ ⟨x, hx, rx⟩ hk2⟩
end L9

set_option Elab.async false
set_option linter.all false
set_option maxRecDepth 100000
set_option maxHeartbeats 4000000
namespace L9
open PySem PySem.Spec
open PyProof.Rows hiding St
open L2 L3 L5
open GxR (TabB inv_tab)

/-! ### min by a key: the mirror -/
def keyLoop {S : Type} (o : Ops S) (own : List Nat) (i : Nat) (mb : M S PV) : List PV → S → Option (List (Int × Int) × S)
  | [], st => some ([], st)
  | p :: l, st => match mb (o.set st i p) with
    | some (.tuple [.int a, .int b], st2) => (match keyLoop o own i mb l (o.clr st2 own) with
      | some (ks, st3) => some ((a, b) :: ks, st3)
      | none => none)
    | _ => none
def minOf (l : List PV) (ks : List (Int × Int)) : Option PV := l[bestI (fun j => ks.getD j (0, 0)) (l.length - 1)]?
def mMinK {S : Type} (o : Ops S) (own : List Nat) (i : Nat) (mi : M S PV) (mb : M S PV) : M S PV := fun st => match mi st with
  | some (.list l, st1) => if l ≠ [] ∧ own.all o.wr = true ∧ o.wr i = true ∧ i ∈ own then (match keyLoop o own i mb l (o.clr st1 own) with
      | some (ks, stb) => (match minOf l ks with
        | some p => some (p, o.leave st1 stb own)
        | none => none)
      | none => none)
    else none
  | _ => none
theorem keyLoop_len {S : Type} {o : Ops S} {own : List Nat} {i : Nat} {mb : M S PV} : ∀ {l : List PV} {st : S} {ks : List (Int × Int)} {st' : S}, keyLoop o own i mb l st = some (ks, st') → ks.length = l.length
  | [], st, ks, st', h => by unfold keyLoop at h; cases h; rfl
  | p :: l, st, ks, st', h => by
    unfold keyLoop at h
    split at h
    · split at h
      · rename_i e
        cases h
        simp [keyLoop_len e]
      · cases h
    · cases h
/-- from the j-th item on -/
theorem keyLoop_at {S : Type} {o : Ops S} {own : List Nat} {i : Nat} {mb : M S PV} {p : PV} {l : List PV} {st st' : S} {ks : List (Int × Int)} (h : keyLoop o own i mb (p :: l) st = some (ks, st')) :
    ∃ a b st2 ks', mb (o.set st i p) = some (.tuple [.int a, .int b], st2) ∧ keyLoop o own i mb l (o.clr st2 own) = some (ks', st') ∧ ks = (a, b) :: ks' := by
  unfold keyLoop at h
  split at h
  · rename_i a b st2 e
    split at h
    · rename_i ks' st3 e2
      cases h
      exact ⟨a, b, st2, ks', e, e2, rfl⟩
    · cases h
  · cases h
section
variable {X : Cx} {S : Type} {o : Ops S} {md : Md X.K o}
theorem stp_tabK {Hs H1 H2 : Hp} {U : US} {P : Addr} (t : TabG H1 P) (z : TabK P H1 H2) : Stp Hs U H1 Hs U H2 := by
  obtain ⟨ps, e1, _⟩ := t
  have ne : ∀ {a u}, H1 a = some u → NT u → a ≠ P := fun {a u} e n q => by subst q; rw [e1] at e; cases e; exact n
  refine ⟨Same.refl _, fun a u e n _ => z.keep a u (ne e n) e, fun P' h => ?_, fun a h => ?_, fun _ h => .inl h, fun _ _ h => .inl h, fun a xs e => ?_⟩
  · by_cases q : P' = P
    · subst q; exact z.tab
    · exact h.map (fun ps e => z.keep P' _ q e) fun c q e => z.keep c _ (ne_of e e1 codeO_tbl) e
  · by_cases q : a = P
    · subst q; obtain ⟨ps, e, _⟩ := z.tab; rw [e]; simp
    · cases e : H1 a with
      | none => exact absurd e h
      | some u => rw [z.keep a u q e]; simp
  · rcases z.new a _ e with h | h | ⟨⟨q, h⟩, hn⟩
    · exact .inr h
    · subst h
      obtain ⟨ps, e2, _⟩ := z.tab
      rw [e2] at e
      cases e
    · exact .inl hn
theorem r_tabK {st : S} {Hs : Hp} {U : US} {σ : L2.St} {H1 H2 : Hp} {P : Addr} (r : md.R st Hs U σ H1) (t : TabG H1 P) (z : TabK P H1 H2) : md.R st Hs U σ H2 := by
  have sp := stp_tabK (Hs := Hs) (U := U) t z
  obtain ⟨ps, e1, _⟩ := id t
  refine md.move r (Same.refl _) (fun a u e => ?_) (fun a u => ⟨(md.own r u).1, fun x e => ?_⟩) sp.tb
  · obtain ⟨n, e2⟩ := md.sub r a u e
    exact ⟨n, z.keep a u (fun q => by subst q; rw [e1] at e2; cases e2; exact n) e2⟩
  · obtain ⟨_, w, e2, n, _⟩ := md.own r u
    rw [e2] at e; cases e
    exact z.keep a _ (fun q => by subst q; rw [e1] at e2; cases e2; exact n) e2
theorem g_minK {T : List Addr} {c P : Addr} {e : Expr} {params : Arguments} {body : Expr} {scope : Scope} {own : List (Str × Nat)} {p pos lpos kpos : Pos} {a : Str} {i k : Nat} {mi mb : M S PV}
    (hT : HasT md T) (hP : P ∈ T) (hc : X.calm = true) (hN : X.N.Nodup) (hr : Room (k + 1) X.A) (hg : Gl X "min") (hm : X.mg "min" = none) (TB : TabB X.base X.mg c P) (hcode : X.env.code = .ref c)
    (hi : PE X e (tG md mi)) (ok : BlkOk X.N X.env.scope scope own) (hcell : (scope.names.all fun y => y.2 != .cell) = true) (hco : scope.isCoroutine = false) (hgen : scope.isGenerator = false)
    (hai : X.N[i]? = some a) (hloc : scope.names.lookup a = some .local)
    (hbind : ∀ (ql : Str) (cl : List (Str × Addr)) (pm cdv ctv u : Value), bindArgs (PySem.W.kla_fn "<lambda>" ql params body scope cl pm cdv ctv) ⟨[u], []⟩ = pure [(a, u)])
    (hdef : defaultsOf params X.env = ([], [])) (hlam : lamP lpos = true)
    (hbody : ∀ (A : Around) (s : Shared) (H : Hp) (q : Str) (L f c' : Addr), Room k A → PE (kcx X A s H (kenv X scope q L f c')) body (tG md mb))
    (he : backTo pos (starEach [e] X.env) = (false, eval e X.env) :: backTo pos (starEach [] X.env) := by rfl) :
    PE X (.Call (.Name "min" p) [e] [⟨some "key", .Lambda params body scope lpos, kpos⟩] pos) (tG md (mMinK o (own.map (·.2)) i mi mb)) := by
  have hcell' : ∀ y ∈ scope.names, y.2 ≠ .cell := fun y hy => by
    have := List.all_eq_true.mp hcell y hy
    intro z
    rw [z] at this
    cases this
  refine ⟨fun pins s σ H Q I h => ?_⟩
  have hd : X.A.handled = none := I.ok.hd hc
  obtain ⟨Hs, U, st, pv, st', hR, hmm, kk⟩ := h
  unfold mMinK at hmm
  split at hmm
  rotate_left
  · cases hmm
  rename_i l st1 e1
  split at hmm
  rotate_left
  · cases hmm
  rename_i hcond
  obtain ⟨hl0, hw, hwi, hio⟩ := hcond
  split at hmm
  rotate_left
  · cases hmm
  rename_i ks stb e2
  split at hmm
  rotate_left
  · cases hmm
  rename_i pb e3
  cases hmm
  refine wpAny_Call_Name_kw (ld_blt I hg hm (show bootBuiltins "min" = some (.builtin "min") by first | rfl | kernel_rfl | decide +kernel) ?_)
  refine PyProof.Rows.callWith_kw ?_ he (by rw [he]; rfl)
  rw [he]
  show wpAny _ _ (spliced ((false, eval e X.env) :: backTo pos (starEach [] X.env))) _ _ s
  refine Calls.spliced_cons (thn (hi.run pins s σ H (fun v H1 => ∃ Hs1 U1, md.R st1 Hs1 U1 σ H1 ∧ Stp Hs U H Hs1 U1 H1 ∧ Rep X.K Hs1 (.list l) v) I ⟨Hs, U, st, .list l, st1, hR, e1, fun v Hs1 U1 H1 r1 s1 p1 => ⟨Hs1, U1, r1, s1, p1⟩⟩) fun u s1 hx => ?_)
  obtain ⟨v, H1, I1, rv, Hs1, U1, r1, sp1, p1⟩ := hx
  refine Calls.spliced_nil ?_
  obtain ⟨la, xs, rfl, hrd, hreps⟩ := rep_lst p1
  obtain rfl : u = Value.ref la := rv
  have tP := hT r1 P hP
  show wpAny _ _ (evalAll ((do let v ← eval (.Lambda params body scope lpos) X.env; standAt pos; pure v) :: [])) _ _ s1
  refine wpAny_evalAll_cons (wpAny_bind (key_make I1 TB hcode tP hlam hdef (fun y hy e => by
    rcases ok.free y hy e with k | k
    · exact I1.ok.has _ (.inl k)
    · exact I1.ok.has _ (.inr k)) fun f c' pm ctv H2 s2 I2 tk hf hfn hfs hE => wpAny_bind (wpAny_standAt (wpAny_pure (wpAny_evalAll_nil ?_)))))
  show wpAny _ _ (call (.builtin "min") [.ref la] [(Str.ofString "key", .ref f)]) _ _ _
  have r2 := r_tabK r1 tP tk
  have sp2 : Stp Hs U H Hs1 U1 H2 := sp1.trans (stp_tabK tP tk)
  have r0 := md.clr_ok r2 hw
  have hfA : NewA X pins f := newA I1 hfs
  have hlen : xs.length = l.length := hreps.len
  have hkl := keyLoop_len e2
  refine minK_call (xs := xs) (fun j => ks.getD j (0, 0)) (fun j H => j ≤ l.length ∧ ∃ Hs3 U3 stt, md.R stt Hs3 U3 (wipe σ (own.map (·.2))) H ∧ Stp Hs1 U1 H2 Hs3 U3 H ∧ keyLoop o (own.map (·.2)) i mb (l.drop j) stt = some (ks.drop j, stb) ∧
      ∃ ps : Array Value, H P = some (.tbl ps) ∧ codeAmong lpos ps.toList = some (.ref c')) hd (by have := hr.un; show X.A.units + 1 < _; omega) I2 hf hfn hfA (fun v z => by cases z) (by rw [hlen]; exact List.length_pos_iff.mpr hl0)
    ⟨Nat.zero_le _, Hs1, U1, _, r0, .refl _ _ _, by simpa using e2, hE⟩ (fun j H s pl ⟨_, Hs3, U3, stt, r3, s3, _, _⟩ I3 => ?_) (fun j x v hx rx H s pl hW I3 hfp => ?_) fun x v H s hx rx hW I3 => ?_
  · obtain ⟨its, rv, hl, hz⟩ := I3.list (.inl (sb_rd (md.sub r3) (rd_mono s3.hs hrd)))
    exact ⟨its, rv, hl.isList⟩
  · obtain ⟨hj, Hs3, U3, stt, r3, s3, hlp, ps3, hps3, hca⟩ := hW
    have hjl : j < l.length := by rw [← hlen]; exact (List.getElem?_eq_some_iff.mp hx).1
    rw [List.drop_eq_getElem_cons hjl] at hlp
    obtain ⟨ka, kb, st2, ks', eb, elp, eks⟩ := keyLoop_at hlp
    have hjk : j < ks.length := by rw [hkl]; exact hjl
    rw [List.drop_eq_getElem_cons hjk] at eks
    obtain ⟨ek1, ek2⟩ : ks[j] = (ka, kb) ∧ ks.drop (j + 1) = ks' := by
      injection eks with z1 z2
      exact ⟨z1, z2⟩
    have hkj : ks.getD j (0, 0) = (ka, kb) := by rw [← ek1]; simp [hjk]
    obtain ⟨y, hy, ry⟩ := hreps.get (List.getElem?_eq_getElem hjl)
    rw [hx] at hy
    cases hy
    obtain ⟨ps, e4, tt4, ha4⟩ := hT r3 P hP
    rw [hps3] at e4
    cases e4
    obtain ⟨c0, q, ec, hco'⟩ := ha4 lpos (.ref c') hlam hca
    cases ec
    have r4 := md.set_ok r3 hwi (Rep.mono s3.hs _ _ ry)
    refine wpAny_mono (key_call (k := k) (Q := fun v H4 => ∃ Hs4 U4, md.R st2 Hs4 U4 ((wipe σ (own.map (·.2))).set i (some x)) H4 ∧ Stp Hs3 U3 H Hs4 U4 H4 ∧ Rep X.K Hs4 (.tuple [.int ka, .int kb]) v) (te := tG md mb) I3 ((I3.pin _ (List.mem_append_right _ hfp)).1) hco' ok hcell' hN hco hgen hai hloc rx (show X.A.in1.frames = some X.stack from I3.ok.frames) hd (show X.A.depth < _ by have := hr.depth; exact this)
      (fun env => ⟨hr.hd, by have := hr.dp; show X.A.depth + 1 + 3 * k + 5 < _; omega, by have := hr.un; show X.A.units + 1 + 3 + 16 * k + 200 < _; omega⟩) (hbind _ _ _ _ _ _) hbody ⟨Hs3, U3, _, _, st2, r4, eb, fun v Hs4 U4 H4 r5 s5 p5 => ⟨Hs4, U4, r5, s5, p5⟩⟩) (fun kv s4 hq => ?_) fun _ _ z => z
    obtain ⟨y, H4, I4, ry4, ⟨Hs4, U4, r5, s5, p5⟩, un⟩ := hq
    obtain ⟨t, ys, rfl, htp, hys⟩ := rep_tup p5
    obtain rfl : kv = Value.ref t := ry4
    have e5 : ys = [.int ka, .int kb] := by
      simp only [Reps] at hys
      obtain ⟨y1, r1, rfl, h1, y2, r2, rfl, h2, rfl⟩ := hys
      simp only [Rep] at h1 h2
      rw [h1, h2]
    subst e5
    refine ⟨H4, I4, ⟨t, rfl, by rw [hkj]; exact sqT_mono (md.sub r5).same htp⟩, fun u k hk => hk.un un, hjl, Hs4, U4, _, by have := md.clr_ok r5 hw; rwa [wipe_set hio, wipe_wipe] at this, s3.trans s5, by rw [ek2]; exact elp, ?_⟩
    obtain ⟨more, em⟩ := un.tbls P _ hps3
    exact ⟨_, em, by rw [Array.toList_append]; exact among_mono tt4 hca⟩
  · obtain ⟨_, Hs3, U3, stt, r3, s3, hlp, _⟩ := hW
    rw [hlen, List.drop_length] at hlp
    unfold keyLoop at hlp
    rw [show ks.drop l.length = [] by rw [← hkl]; exact List.drop_length] at hlp
    cases hlp
    have r6 := md.leave_ok (own := own.map (·.2)) r2 r3 s3.hs hw
    have e6 : l[bestI (fun j => ks.getD j (0, 0)) (xs.length - 1)]? = some pv := by rw [hlen]; exact e3
    obtain ⟨y, hy, ry⟩ := hreps.get e6
    rw [hx] at hy
    cases hy
    exact ⟨x, H, I3, rx, kk x Hs3 U3 H r6 (sp2.trans s3) (Rep.mono s3.hs _ _ ry)⟩
end
end L9

set_option Elab.async false
set_option linter.all false
set_option maxRecDepth 100000
set_option maxHeartbeats 4000000
namespace L9
open PySem PySem.Spec
open PyProof.Rows hiding St
open L2 L3 L5
open GxR (TabB inv_tab)

/-! ### sorted by a key -/
theorem lk_at {α : Type} : ∀ {ks : List (Int × Int)} {xs : List α} {j : Nat} {c : Int × Int} {x : α}, ks.Nodup → ks[j]? = some c → xs[j]? = some x → (ks.zip xs).lookup c = some x
  | [], _, j, c, x, _, h, _ => by simp at h
  | k :: ks, [], j, c, x, _, _, h => by simp at h
  | k :: ks, y :: xs, 0, c, x, _, h1, h2 => by
    simp at h1 h2
    subst h1; subst h2
    simp [List.lookup]
  | k :: ks, y :: xs, j + 1, c, x, hn, h1, h2 => by
    have hn2 := List.nodup_cons.mp hn
    have h1 : ks[j]? = some c := by simpa using h1
    have h2 : xs[j]? = some x := by simpa using h2
    have hm : c ∈ ks := List.mem_of_getElem? h1
    have hne : (c == k) = false := by
      rw [beq_eq_false_iff_ne]
      intro z
      exact hn2.1 (z ▸ hm)
    simp only [List.zip_cons_cons, List.lookup, hne]
    exact lk_at hn2.2 h1 h2
theorem lk_ex {α : Type} {ks : List (Int × Int)} {xs : List α} {c : Int × Int} (hn : ks.Nodup) (hl : ks.length = xs.length) (hc : c ∈ ks) : ∃ (j : Nat) (x : α), ks[j]? = some c ∧ xs[j]? = some x ∧ (ks.zip xs).lookup c = some x := by
  obtain ⟨j, hj⟩ := List.getElem?_of_mem hc
  have hjl : j < xs.length := by rw [← hl]; exact (List.getElem?_eq_some_iff.mp hj).1
  exact ⟨j, _, hj, List.getElem?_eq_getElem hjl, lk_at hn hj (List.getElem?_eq_getElem hjl)⟩
/-- the items in the order of their keys -/
def srtK {α : Type} (d : α) (ks : List (Int × Int)) (xs : List α) : List α := (srtP ks).map fun c => ((ks.zip xs).lookup c).getD d
theorem lexB_le {p q : Int × Int} : SrtO.lexB q p = false ↔ lexLe p q = true := by
  rw [SrtO.lexB_no]
  unfold lexLe
  rw [decide_eq_true_iff]
  omega
section
variable {X : Cx} {pins : List (Addr × Obj)} {σ : L2.St} {H : Hp} {s : Shared}
/-- a list of ours becomes known -/
theorem adoptL {D : Addr} {ys : List V} (I : Inv X pins σ H s) (n : NewA X pins D) (hD : H D = none) (new : ObjOk X.prog X.w (upd H D (.lst ys)) s.heap D (.lst ys)) : Inv X pins σ (upd H D (.lst ys)) s := by
  have old : ∀ b o, X.s_0.heap.get? b = some o → b ≠ D := fun b o e z => absurd (Nat.lt_of_lt_of_le (Heap.lt_size e) n.sz) (by rw [z]; exact Nat.lt_irrefl _)
  have ne : ∀ b u, H b = some u → b ≠ D := fun b u e => ne_of_none e hD
  refine ⟨I.ok, I.os, I.bare, ⟨I.base.keep, I.base.slot, fun b o e h1 h2 => by rw [upd_ne (old b o e)]; exact I.base.free b o e h1 h2, I.base.there, fun b xs e => ?_, fun b o u e => ?_, fun b ps e => ?_⟩, I.loc, I.cell, by rw [upd_ne (Ne.symm n.loc)]; exact I.free, fun y c e => by rw [upd_ne (n.cell y c e)]; exact I.freeC y c e, fun p hp => ?_, fun b u e => ?_, I.len⟩
  · have := I.base.tups b xs e
    rw [upd_ne (ne _ _ this)]; exact this
  · have := I.base.frzs b o u e
    rw [upd_ne (ne _ _ this)]; exact this
  · obtain ⟨more, this⟩ := I.base.tbls b ps e
    exact ⟨more, by rw [upd_ne (ne _ _ this)]; exact this⟩
  · obtain ⟨h1, h2, h3⟩ := I.pin p hp
    exact ⟨h1, by rw [upd_ne (n.pin p hp)]; exact h2, h3⟩
  · by_cases hb : b = D
    · subst hb
      rw [upd_same] at e
      cases e
      exact new
    · rw [upd_ne hb] at e
      exact (I.hok b u e).stay (fun _ _ _ q => q) (fun c q => by rw [upd_ne (ne _ _ q)]; exact q) fun c xs q => by rw [upd_ne (ne _ _ q)]; exact q
theorem keyAt_pair {v : Value} {p : Int × Int} (I : Inv X pins σ H s) (h : KeyAt X.K H v p) : Srt.IsPair s.heap v p.1 p.2 := by
  obtain ⟨t, rfl, h⟩ := h
  obtain ⟨its, r, ⟨o, ho, hc, n, hd⟩, _⟩ := I.tuple h
  obtain ⟨u1, u2, rfl, ⟨t1, rfl⟩, ⟨t2, rfl⟩⟩ := vals2 r
  exact ⟨t, o, t1, t2, n, rfl, ho, hc, hd⟩
theorem keyAt_inj {v : Value} {p q : Int × Int} (I : Inv X pins σ H s) (h : KeyAt X.K H v p) (h' : KeyAt X.K H v q) : p = q := by
  obtain ⟨t, rfl, h⟩ := h
  obtain ⟨t', e, h'⟩ := h'
  cases e
  have := I.tuple_inj h h'
  simp at this
  exact Prod.ext this.1 this.2
open Classical in
noncomputable def kOf (K : Fg) (H : Hp) (v : Value) : Int × Int := if h : ∃ p, KeyAt K H v p then Classical.choose h else (0, 0)
theorem kOf_eq {v : Value} {p : Int × Int} (I : Inv X pins σ H s) (h : KeyAt X.K H v p) : kOf X.K H v = p := by
  unfold kOf
  have e : ∃ p, KeyAt X.K H v p := ⟨p, h⟩
  rw [dif_pos e]
  exact keyAt_inj I (Classical.choose_spec e) h
/-- the heart: list.sort of our list D by a key -/
theorem sortK_list {A : Around} {f D : Addr} {fo : Obj} {xs : List V} {ks : List (Int × Int)} {vs : List Value} {n0 : Nat} {R : PySem.Fin → Shared → Prop} {E : Value → Shared → Prop} (W : Nat → Hp → Prop)
    (I : Inv X (pins ++ [(f, fo)]) σ H s) (hD : s.heap.get? D = some (seqObj "list" vs.toArray n0)) (nD : NewA X (pins ++ [(f, fo)]) D) (hHD : H D = none) (rvs : Vals xs vs) (hlen : ks.length = xs.length) (hnd : ks.Nodup) (hz : xs.length < sizeLine) (h0 : W 0 H)
    (turn : ∀ (j : Nat) (x : V) (v : Value), xs[j]? = some x → RelV x v → ∀ (H : Hp) (s : Shared) (pl : List (Addr × Obj)), W j H → Inv X pl σ H s → (f, fo) ∈ pl → wpAny (model X.prog X.w) A (call (.ref f) [v])
      (fun kv s' => ∃ H' p, Inv X pl σ H' s' ∧ ks[j]? = some p ∧ KeyAt X.K H' kv p ∧ (∀ u k, KeyAt X.K H u k → KeyAt X.K H' u k) ∧ W (j + 1) H') (fun _ _ => False) s)
    (h : ∀ H' s', Inv X pins σ H' s' → W xs.length H' → H' D = none → (∃ (out : List Value) (c : Nat), Vals (srtK .non ks xs) out ∧ s'.heap.get? D = some (seqObj "list" out.toArray c)) → R (.done (.ret .none)) s') :
    wpAny (model X.prog X.w) A (Builtin.«list.sort» ⟨[.ref D], [(Str.ofString "key", .ref f)]⟩) R E s := by
  rw [ksk_t1]
  unfold ksk_tree
  have hvl : vs.length = xs.length := rvs.length.symm
  have hDs : D < s.heap.objs.size := Heap.lt_size hD
  obtain ⟨e1, ho1⟩ : ∃ e1, (s.heap.update D (Obj.mapSeq fun _ => #[])).get? D = some (seqObj "list" #[] e1) := ⟨_, get?_update_seq hD (fun _ => #[])⟩
  refine wpAny_bind (listItems_at hD rfl ?_)
  refine wpAny_bind (listUpdate_at hD rfl ?_ (by rw [List.size_toArray, hvl]; exact Nat.le_of_lt hz) (Nat.zero_le _))
  refine wpAny_bind (seqEpoch_at ho1 rfl ?_)
  refine wpAny_bind (wpAny_newTuple ?_ (by show vs.length ≤ _; rw [hvl]; exact Nat.le_of_lt hz))
  refine wpAny_bind (wpAny_newList ?_ (Nat.zero_le _))
  refine wpAny_holding ?_
  have hkS : ((s.heap.update D (Obj.mapSeq fun _ => (#[] : Array Value))).push (seqObj "tuple" vs.toArray 0)).objs.size = s.heap.objs.size + 1 := by rw [size_push', Heap.size_update]
  have s1 := Heap.SameBut.update s.heap D (Obj.mapSeq fun _ => (#[] : Array Value))
  have I1 : Inv X (pins ++ [(f, fo)]) σ H { s with heap := s.heap.update D (Obj.mapSeq fun _ => (#[] : Array Value)) } := I.turned (t' := s.toks) (it := D) (fun b o hb e => (s1.2 b hb).trans e) hHD nD.loc (.inr nD.sz) nD.cell nD.pin
  have I2 : Inv X (pins ++ [(f, fo)]) σ H { s with heap := ((s.heap.update D (Obj.mapSeq fun _ => (#[] : Array Value))).push (seqObj "tuple" vs.toArray 0)).push (seqObj "list" #[] 0) } :=
    L2.Inv.kept (s := { s with heap := s.heap.update D (Obj.mapSeq fun _ => (#[] : Array Value)) }) I1 (t' := s.toks) fun b o e => Heap.get?_push_of_some _ (Heap.get?_push_of_some _ e)
  have szD : (s.heap.update D (Obj.mapSeq fun _ => (#[] : Array Value))).objs.size = s.heap.objs.size := Heap.size_update ..
  have nK : NewA X (pins ++ [(f, fo)]) ((s.heap.update D (Obj.mapSeq fun _ => (#[] : Array Value))).push (seqObj "tuple" vs.toArray 0)).objs.size := newA I (by rw [hkS]; exact Nat.le_succ _)
  have fK : H ((s.heap.update D (Obj.mapSeq fun _ => (#[] : Array Value))).push (seqObj "tuple" vs.toArray 0)).objs.size = none := I.hok.fresh (by rw [hkS]; exact Nat.le_succ _)
  have gK : (((s.heap.update D (Obj.mapSeq fun _ => (#[] : Array Value))).push (seqObj "tuple" vs.toArray 0)).push (seqObj "list" #[] 0)).get? ((s.heap.update D (Obj.mapSeq fun _ => (#[] : Array Value))).push (seqObj "tuple" vs.toArray 0)).objs.size = some (seqObj "list" #[] 0) := Heap.get?_push_size _ rfl
  have gD : (((s.heap.update D (Obj.mapSeq fun _ => (#[] : Array Value))).push (seqObj "tuple" vs.toArray 0)).push (seqObj "list" #[] 0)).get? D = some (seqObj "list" #[] e1) := Heap.get?_push_of_some _ (Heap.get?_push_of_some _ ho1)
  have hKD : ((s.heap.update D (Obj.mapSeq fun _ => (#[] : Array Value))).push (seqObj "tuple" vs.toArray 0)).objs.size ≠ D := by rw [hkS]; exact Nat.ne_of_gt (Nat.lt_succ_of_lt hDs)
  have hfs : f < s.heap.objs.size := Heap.lt_size (I.pin (f, fo) (by simp)).1
  have hfK : f ≠ ((s.heap.update D (Obj.mapSeq fun _ => (#[] : Array Value))).push (seqObj "tuple" vs.toArray 0)).objs.size := by rw [hkS]; exact Nat.ne_of_lt (Nat.lt_succ_of_lt hfs)
  have hfD : f ≠ D := nD.pin (f, fo) (by simp)
  generalize ((s.heap.update D (Obj.mapSeq fun _ => (#[] : Array Value))).push (seqObj "tuple" vs.toArray 0)).objs.size = kS at *
  generalize hh0 : ((s.heap.update D (Obj.mapSeq fun _ => (#[] : Array Value))).push (seqObj "tuple" vs.toArray 0)).push (seqObj "list" #[] 0) = h0' at *
  show wpAny (model X.prog X.w) A (ksk_rest D (.ref f) false vs.toArray e1 (.ref kS)) R E { s with heap := h0' }
  have I3 : Inv X (pins ++ [(f, fo), (kS, seqObj "list" #[] 0), (D, seqObj "list" #[] e1)]) σ H { s with heap := h0' } := re_pin I2 fun p hp => by
    simp at hp
    rcases hp with hp | hp | hp | hp
    · exact .inl (by simp [hp])
    · exact .inl (by simp [hp])
    · rw [hp]; exact .inr ⟨gK, fK, nK.loc, nK.fs, fun v z => by cases z⟩
    · rw [hp]; exact .inr ⟨gD, hHD, nD.loc, nD.fs, fun v z => by cases z⟩
  have pinK : ∀ p ∈ X.pn ++ (pins ++ [(f, fo)]), p.1 ≠ kS := nK.pin
  unfold ksk_rest
  refine wpAny_bind (wpAny_rule ?_)
  first
    | rw [List.forIn_toArray]
    | (rw [← Array.forIn_toList]; simp only [List.toList_toArray])
    | rw [← Array.forIn_toList]
  refine wpAny_bind (ksk_fold (fun (i : Nat) (s' : Shared) => ∃ (H' : Hp) (kA : Array Value) (e : Nat), Inv X (pins ++ [(f, fo), (kS, seqObj "list" kA e), (D, seqObj "list" #[] e1)]) σ H' s' ∧ W i H' ∧ kA.size = i ∧ ∀ (j : Nat) (v : Value), kA.toList[j]? = some v → ∃ p : Int × Int, ks[j]? = some p ∧ KeyAt X.K H' v p) vs 0 _
    ?start ?step ?done)
  case start =>
    refine ⟨H, #[], 0, I3, h0, rfl, fun j v z => ?_⟩
    simp at z
  case step =>
    rintro j v s' hv ⟨H', kA, e, I4, hW, hsz, hk⟩
    simp only [Nat.zero_add] at hW hsz ⊢
    have hj : j < xs.length := by rw [← hvl]; exact (List.getElem?_eq_some_iff.mp hv).1
    obtain ⟨x, hx, rx⟩ : ∃ x, xs[j]? = some x ∧ RelV x v := by
      obtain ⟨u, h1, h2⟩ := rvs.get (List.getElem?_eq_getElem hj)
      rw [hv] at h1
      cases h1
      exact ⟨_, List.getElem?_eq_getElem hj, h2⟩
    refine wpAny_bind (wpAny_attempt (wpAny_mono (turn j x v hx rx H' s' _ hW I4 (by simp)) (fun kv s'' he => ?_) fun _ _ hF => hF.elim))
    obtain ⟨H2, p, I5, hp, hkp, mono, hW2⟩ := he
    try dsimp only
    have qK := I5.pin (kS, seqObj "list" kA e) (by simp)
    have s2 := Heap.SameBut.update s''.heap kS (Obj.mapSeq (·.push kv))
    obtain ⟨c2, hc2⟩ : ∃ c2, (s''.heap.update kS (Obj.mapSeq (·.push kv))).get? kS = some (seqObj "list" (kA.push kv) c2) := ⟨_, get?_update_seq qK.1 (·.push kv)⟩
    have I6 : Inv X (pins ++ [(f, fo), (D, seqObj "list" #[] e1)]) σ H2 s'' := re_pin I5 fun p hp => .inl (by simp at hp ⊢; rcases hp with hp | hp | hp <;> simp [hp])
    have I7 : Inv X (pins ++ [(f, fo), (D, seqObj "list" #[] e1)]) σ H2 { s'' with heap := s''.heap.update kS (Obj.mapSeq (·.push kv)) } := I6.turned (t' := s''.toks) (it := kS) (fun b o hb e => (s2.2 b hb).trans e) qK.2.1 qK.2.2.1 (.inr nK.sz) nK.cell (fun p hp => by
      rcases List.mem_append.mp hp with hp | hp
      · exact pinK p (List.mem_append_left _ hp)
      · simp at hp
        rcases hp with hp | hp | hp
        · exact pinK p (List.mem_append_right _ (List.mem_append_left _ hp))
        · rw [hp]; exact hfK
        · rw [hp]; exact hKD.symm)
    refine wpAny_bind (listUpdate_at qK.1 rfl ?_ (by rw [hsz]; omega) (Nat.le_trans (Nat.le_of_eq (Array.size_push ..)) (by rw [hsz]; omega)))
    refine wpAny_pure ⟨rfl, H2, kA.push kv, c2, re_pin I7 fun p hp => ?_, hW2, by rw [Array.size_push, hsz], fun i u hu => ?_⟩
    · simp at hp
      rcases hp with hp | hp | hp | hp
      · exact .inl (by simp [hp])
      · exact .inl (by simp [hp])
      · rw [hp]; exact .inr ⟨hc2, qK.2.1, qK.2.2.1, qK.2.2.2.1, fun v z => by cases z⟩
      · exact .inl (by simp [hp])
    · rw [Array.toList_push] at hu
      by_cases hi : i < kA.toList.length
      · rw [List.getElem?_append_left hi] at hu
        obtain ⟨p', a1, a2⟩ := hk i u hu
        exact ⟨p', a1, mono _ _ a2⟩
      · rw [List.getElem?_append_right (by omega)] at hu
        have hsz2 : kA.toList.length = j := by rw [Array.length_toList]; exact hsz
        have hi2 : i - kA.toList.length = 0 := by
          by_cases z : i - kA.toList.length = 0
          · exact z
          · obtain ⟨m, hm⟩ := Nat.exists_eq_succ_of_ne_zero z
            rw [hm] at hu
            simp at hu
        rw [hi2] at hu
        cases hu
        have : i = j := by omega
        subst this
        exact ⟨p, hp, hkp⟩
  case done =>
    rintro s' ⟨H', kA, e, I4, hW, hsz, hk⟩
    rw [Nat.zero_add, hvl] at hW hsz
    have qK := I4.pin (kS, seqObj "list" kA e) (by simp)
    have qD := I4.pin (D, seqObj "list" #[] e1) (by simp)
    try dsimp only
    refine wpAny_bind (listItems_at qK.1 rfl ?_)
    unfold ksk_end
    try dsimp only
    have hkeys : ∀ v ∈ kA.toList, KeyAt X.K H' v (kOf X.K H' v) := fun v hv => by
      obtain ⟨j, hj⟩ := List.getElem?_of_mem hv
      obtain ⟨p, _, a2⟩ := hk j v hj
      rw [kOf_eq I4 a2]
      exact a2
    have hzip : (kA.zip vs.toArray).toList = kA.toList.zip vs := ksk_zip kA vs
    have hzs : (kA.zip vs.toArray).size = xs.length := by
      have := congrArg List.length hzip
      rw [Array.length_toList, List.length_zip, Array.length_toList, hsz, hvl, Nat.min_self] at this
      exact this
    have O := SrtO.swo_lex (kOf X.K H')
    -- the rest, behind the sorting
    have fin : ∀ st' : SortSt, SrtO.Srtd (SrtO.lt2 fun v u => SrtO.lexB (kOf X.K H' v) (kOf X.K H' u)) (arrOf st').toList → (arrOf st').toList.Perm (kA.toList.zip vs) → failedOf st' = none →
        wpAny (model X.prog X.w) A (ksk_tail D false e1 (.ref kS) st') R E s' := fun st' h1 h2 h3 => by
      have hkl : kA.toList.length = vs.length := by rw [Array.length_toList, hsz, hvl]
      have hkm : kA.toList.map (kOf X.K H') = ks := by
        refine List.ext_getElem? fun j => ?_
        rw [List.getElem?_map]
        by_cases hj : j < kA.toList.length
        · obtain ⟨p, a1, a2⟩ := hk j _ (List.getElem?_eq_getElem hj)
          rw [List.getElem?_eq_getElem hj, a1, Option.map_some, kOf_eq I4 a2]
        · rw [List.getElem?_eq_none (by omega), List.getElem?_eq_none (by omega)]
          rfl
      -- the keys in order
      have k1 : ((arrOf st').toList.map fun p : Keyed => kOf X.K H' p.1) = srtP ks := by
        refine srtP_eq ?_ ?_
        · have := h2.map fun p : Keyed => kOf X.K H' p.1
          refine this.trans (List.Perm.of_eq ?_)
          have e3 : (kA.toList.zip vs).map (fun p : Keyed => kOf X.K H' p.1) = ((kA.toList.zip vs).map (·.1)).map (kOf X.K H') := by rw [List.map_map] <;> rfl
          rw [e3, List.map_fst_zip (by omega), hkm]
        · rw [List.pairwise_map]
          exact h1.imp fun {a b} h => lexB_le.mp h
      -- the items in the order of their keys
      have k2 : ∀ p ∈ (arrOf st').toList, (ks.zip vs).lookup (kOf X.K H' p.1) = some p.2 := fun p hp => by
        have hm := h2.mem_iff.mp hp
        obtain ⟨j, hj⟩ := List.getElem?_of_mem hm
        rw [List.getElem?_zip_eq_some] at hj
        refine lk_at hnd (j := j) ?_ hj.2
        rw [← hkm, List.getElem?_map, hj.1]
        rfl
      have k3 : (arrOf st').toList.map (·.2) = srtK .none ks vs := by
        unfold srtK
        rw [← k1, List.map_map]
        refine List.map_congr_left fun p hp => ?_
        show p.2 = ((ks.zip vs).lookup (kOf X.K H' p.1)).getD .none
        rw [k2 p hp]
        rfl
      have k4 : Vals (srtK .non ks xs) (srtK .none ks vs) := by
        unfold srtK
        have hmem : ∀ c ∈ srtP ks, c ∈ ks := fun c hc => (srtP_perm ks).mem_iff.mp hc
        have hlv : ks.length = vs.length := by rw [hlen, hvl]
        have gen : ∀ cs : List (Int × Int), (∀ c ∈ cs, c ∈ ks) → Vals (cs.map fun c => ((ks.zip xs).lookup c).getD .non) (cs.map fun c => ((ks.zip vs).lookup c).getD .none) := fun cs => by
          induction cs with
          | nil => exact fun _ => .nil
          | cons c r ih =>
            intro hmem
            refine .cons ?_ (ih fun d hd => hmem d (List.mem_cons_of_mem _ hd))
            obtain ⟨j, x, a1, a2, a3⟩ := lk_ex (xs := xs) hnd hlen (hmem c (.head _))
            obtain ⟨u, b1, b2⟩ := rvs.get a2
            show L2.RelV (((ks.zip xs).lookup c).getD .non) (((ks.zip vs).lookup c).getD .none)
            rw [a3, lk_at hnd a1 b1]
            exact b2
        exact gen _ hmem
      have hlen2 : (arrOf st').size = xs.length := by
        have := h2.length_eq
        rw [Array.length_toList, List.length_zip, hkl, Nat.min_self, hvl] at this
        exact this
      unfold ksk_tail
      try dsimp only
      have s3 := Heap.SameBut.update s'.heap kS (Obj.mapSeq fun _ => (#[] : Array Value))
      have s4 := Heap.SameBut.update (s'.heap.update kS (Obj.mapSeq fun _ => (#[] : Array Value))) D (Obj.mapSeq fun _ => (arrOf st').map (·.2))
      have gD1 : (s'.heap.update kS (Obj.mapSeq fun _ => (#[] : Array Value))).get? D = some (seqObj "list" #[] e1) := (s3.2 D hKD.symm).trans qD.1
      obtain ⟨c2, hc2⟩ : ∃ c2, ((s'.heap.update kS (Obj.mapSeq fun _ => (#[] : Array Value))).update D (Obj.mapSeq fun _ => (arrOf st').map (·.2))).get? D = some (seqObj "list" ((arrOf st').map (·.2)) c2) := ⟨_, get?_update_seq gD1 fun _ => (arrOf st').map (·.2)⟩
      refine wpAny_bind (listUpdate_at qK.1 rfl ?_ (by rw [hsz]; exact Nat.le_of_lt hz) (Nat.zero_le _))
      refine wpAny_bind (wpAny_letGo ?_)
      refine wpAny_bind (seqEpoch_at gD1 rfl ?_)
      refine wpAny_bind (listUpdate_at gD1 rfl ?_ (Nat.zero_le _) (by simp only [Bool.false_eq_true, if_false]; rw [Array.size_map, hlen2]; omega))
      rw [h3]
      simp only [bne_self_eq_false, Bool.false_eq_true, if_false]
      have I5 : Inv X pins σ H' s' := re_pin I4 fun p hp => .inl (List.mem_append_left _ hp)
      have pinS : ∀ p ∈ X.pn ++ pins, p.1 ≠ kS := fun p hp => pinK p (by rcases List.mem_append.mp hp with hp | hp <;> simp [hp])
      have pinD : ∀ p ∈ X.pn ++ pins, p.1 ≠ D := fun p hp => nD.pin p (by rcases List.mem_append.mp hp with hp | hp <;> simp [hp])
      have I6 : Inv X pins σ H' { s' with heap := s'.heap.update kS (Obj.mapSeq fun _ => (#[] : Array Value)) } := I5.turned (t' := s'.toks) (it := kS) (fun b o hb e => (s3.2 b hb).trans e) qK.2.1 qK.2.2.1 (.inr nK.sz) nK.cell pinS
      have I7 : Inv X pins σ H' { s' with heap := (s'.heap.update kS (Obj.mapSeq fun _ => (#[] : Array Value))).update D (Obj.mapSeq fun _ => (arrOf st').map (·.2)) } :=
        L2.Inv.turned (s := { s' with heap := s'.heap.update kS (Obj.mapSeq fun _ => (#[] : Array Value)) }) I6 (t' := s'.toks) (it := D) (fun b o hb e => (s4.2 b hb).trans e) qD.2.1 qD.2.2.1 (.inr nD.sz) nD.cell pinD
      refine wpAny_pure (h H' _ I7 hW qD.2.1 ⟨srtK .none ks vs, c2, k4, ?_⟩)
      rw [← k3, ← Array.toList_map, Array.toArray_toList]
      exact hc2
    simp only [Bool.false_eq_true, if_false]
    by_cases h2 : vs.toArray.size < 2
    · rw [if_pos h2, if_pos h2]
      refine wpAny_bind (wpAny_pure ?_)
      rw [StateT.run_pure]
      refine wpAny_bind (wpAny_pure ?_)
      try dsimp only
      refine fin (SortSt.mk' general' (kA.zip vs.toArray) #[] 7 none) ?_ (List.Perm.of_eq hzip) rfl
      show SrtO.Srtd _ (kA.zip vs.toArray).toList
      have hl2 : (kA.zip vs.toArray).toList.length < 2 := by
        rw [Array.length_toList, hzs]
        rw [List.size_toArray, hvl] at h2
        exact h2
      match (kA.zip vs.toArray).toList, hl2 with
      | [], _ => exact List.Pairwise.nil
      | [v], _ => exact List.pairwise_singleton _ _
      | _ :: _ :: l, h => exact absurd h (by rw [List.length_cons, List.length_cons]; omega)
    · rw [if_neg h2, if_neg h2]
      rw [List.size_toArray, hvl] at h2
      have hDt : ∀ o, s'.heap.get? D = some o → o.cls ≠ .type "tuple" := fun o e z => by
        rw [qD.1] at e
        cases e
        exact absurd (Value.type.inj z) (by decide)
      obtain ⟨κ, hkind, hT⟩ := SrtO.pairs_sortableO (prog := X.prog) (w := X.w) (A := A) (s := s') (a := D) (vs := kA.toList) (k := kOf X.K H') (by rw [Array.length_toList, hsz]; omega) (fun v hv => keyAt_pair I4 (hkeys v hv)) hDt s'.heap (fun b o _ e => e)
      rw [Array.toArray_toList] at hkind
      refine wpAny_bind (hkind _ _ ?_)
      have hall : SrtO.AllL (fun p : Keyed => p.1 ∈ kA.toList) (kA.zip vs.toArray).toList := fun p hm => by
        rw [hzip] at hm
        exact (List.of_mem_zip hm).1
      refine wpAny_bind (wpAny_mono (SrtO.wpS_sortO (st0 := SortSt.mk' κ (kA.zip vs.toArray) #[] 7 none)
        (Q := fun _ st' => SrtO.Srtd (SrtO.lt2 fun v u => SrtO.lexB (kOf X.K H' v) (kOf X.K H' u)) (arrOf st').toList ∧ (arrOf st').toList.Perm (kA.toList.zip vs) ∧ failedOf st' = none) (SrtO.swo2 O) hT rfl hall rfl rfl fun st' a1 a2 a3 => ⟨a1, by rw [← hzip]; exact a2.perm, a3⟩) ?_ fun _ _ e => e)
      rintro ⟨⟨⟩, st'⟩ s'' ⟨rfl, hp1, hp2, hf⟩
      exact fin st' hp1 hp2 hf
end
end L9

set_option Elab.async false
set_option linter.all false
set_option maxRecDepth 100000
set_option maxHeartbeats 4000000
namespace L9
open PySem PySem.Spec
open PyProof.Rows hiding St
open L2 L3 L5 L7
open GxR (TabB inv_tab)
theorem sortedK_call {X : Cx} {pins : List (Addr × Obj)} {σ : L2.St} {H : Hp} {s : Shared} {A : Around} {f l : Addr} {fo : Obj} {xs : List V} {ks : List (Int × Int)} {Q : Value → Shared → Prop} {E : Value → Shared → Prop} (W : Nat → Hp → Prop)
    (hcol : ∀ {Q' : List Value → Shared → Prop}, (∀ (h' : Heap) (tk : Nat) (vs : List Value), (∀ b o, s.heap.get? b = some o → h'.get? b = some o) → Vals xs vs → Q' vs { s with heap := h', toks := tk }) → wpAny (model X.prog X.w) A.in1 (collect (.ref l)) Q' E s)
    (I : Inv X pins σ H s) (hf : s.heap.get? f = some fo) (hfn : H f = none) (hfA : NewA X pins f) (hfd : ∀ v, fo.data ≠ .cell v) (hlen : ks.length = xs.length) (hnd : ks.Nodup) (hz : xs.length < sizeLine) (h0 : W 0 H)
    (turn : ∀ (j : Nat) (x : V) (v : Value), xs[j]? = some x → RelV x v → ∀ (H : Hp) (s : Shared) (pl : List (Addr × Obj)), W j H → Inv X pl σ H s → (f, fo) ∈ pl → wpAny (model X.prog X.w) A.in1.in1 (call (.ref f) [v])
      (fun kv s' => ∃ H' p, Inv X pl σ H' s' ∧ ks[j]? = some p ∧ KeyAt X.K H' kv p ∧ (∀ u k, KeyAt X.K H u k → KeyAt X.K H' u k) ∧ W (j + 1) H') (fun _ _ => False) s)
    (hQ : ∀ D H' s', Inv X pins σ (upd H' D (.lst (srtK .non ks xs))) s' → W xs.length H' → H' D = none → Q (.ref D) s') :
    wpAny (model X.prog X.w) A (call (.builtin "sorted") [.ref l] [(Str.ofString "key", .ref f)]) Q E s := by
  refine call_function_entry_kw kind_sorted plain_sorted entry_sorted (ksk_s1 _ _) ?_
  unfold Builtin.«sorted»
  refine wpAny_bind (m := checkCount "sorted" 1 1 _) (wpAny_pure ?_)
  refine wpAny_bind (hcol fun h' tk vs hk rv => ?_)
  have hvl : vs.length = xs.length := rv.length.symm
  refine wpAny_bind (wpAny_newList ?_ (by rw [hvl]; exact Nat.le_of_lt hz))
  have I1 : Inv X pins σ H { s with heap := h', toks := tk } := I.kept hk
  have hoL : (h'.push (seqObj "list" vs.toArray 0)).get? h'.objs.size = some (seqObj "list" vs.toArray 0) := Heap.get?_push_size _ rfl
  have I2 : Inv X pins σ H { s with heap := h'.push (seqObj "list" vs.toArray 0), toks := tk } := L2.Inv.kept (s := { s with heap := h', toks := tk }) I1 (t' := tk) fun b o e => Heap.get?_push_of_some _ e
  have nD : NewA X pins h'.objs.size := newA I1 (Nat.le_refl _)
  have hD : H h'.objs.size = none := I1.hok.fresh (Nat.le_refl _)
  have hf2 : h'.get? f = some fo := hk _ _ hf
  have hfD : f ≠ h'.objs.size := Nat.ne_of_lt (Heap.lt_size hf2)
  have I3 : Inv X (pins ++ [(f, fo)]) σ H { s with heap := h'.push (seqObj "list" vs.toArray 0), toks := tk } := re_pin I2 fun p hp => by
    rcases List.mem_append.mp hp with hp | hp
    · exact .inl hp
    · rw [List.mem_singleton.mp hp]
      exact .inr ⟨Heap.get?_push_of_some _ hf2, hfn, hfA.loc, hfA.fs, hfd⟩
  refine wpAny_bind (wpAny_holding (wpAny_call_entry_kw slot_list_sort ⟨_, hoL, rfl⟩ entry_list_sort ?_ (ksk_l1 _ _)))
  show wpAny (model X.prog X.w) A.in1.in1 (Builtin.«list.sort» ⟨[.ref h'.objs.size], [(Str.ofString "key", .ref f)]⟩) _ _ _
  refine sortK_list W I3 hoL ⟨nD.sz, nD.loc, nD.fs, nD.cell, fun p hp => ?_⟩ hD rv hlen hnd hz h0 turn fun H' s' I4 hW hD' ⟨out, c, rvo, ho⟩ => ⟨_, rfl, ?_⟩
  · rcases List.mem_append.mp hp with hp | hp
    · exact nD.pin p (List.mem_append_left _ hp)
    · rcases List.mem_append.mp hp with hp | hp
      · exact nD.pin p (List.mem_append_right _ hp)
      · rw [List.mem_singleton.mp hp]; exact hfD
  have hl : (srtK V.non ks xs).length ≤ sizeLine := by
    unfold srtK
    rw [List.length_map, (srtP_perm ks).length_eq, hlen]
    exact Nat.le_of_lt hz
  exact wpAny_pure ⟨_, rfl, hQ _ H' s' (adoptL I4 nD hD' ⟨hl, out, c, rvo, ho⟩) hW hD'⟩

/-! the mirror -/
def mSortK {S : Type} (o : Ops S) (own : List Nat) (i : Nat) (mi : M S (List PV)) (mb : M S PV) : M S (List PV) := fun st => match mi st with
  | some (l, st1) => if l.length ≤ LIM ∧ own.all o.wr = true ∧ o.wr i = true ∧ i ∈ own then (match keyLoop o own i mb l (o.clr st1 own) with
      | some (ks, stb) => if ks.Nodup then some (srtK .none ks l, o.leave st1 stb own) else none
      | none => none)
    else none
  | none => none
/-- a list's items -/
def itsL : PV → Option (List PV)
  | .list l => some l
  | _ => none
def mItL {S : Type} (m : M S PV) : M S (List PV) := bnd m fun x => lft (itsL x)
theorem srtK_reps {K : Fg} {H : Hp} {ks : List (Int × Int)} {l : List PV} {xs : List V} (hn : ks.Nodup) (hl : ks.length = l.length) (r : Reps K H l xs) : Reps K H (srtK .none ks l) (srtK .non ks xs) := by
  unfold srtK
  have gen : ∀ cs : List (Int × Int), (∀ c ∈ cs, c ∈ ks) → Reps K H (cs.map fun c => ((ks.zip l).lookup c).getD .none) (cs.map fun c => ((ks.zip xs).lookup c).getD .non) := fun cs => by
    induction cs with
    | nil => exact fun _ => by simp [Reps]
    | cons c rr ih =>
      intro hmem
      refine Reps.cons ?_ (ih fun d hd => hmem d (List.mem_cons_of_mem _ hd))
      obtain ⟨j, x, a1, a2, a3⟩ := lk_ex (xs := l) hn hl (hmem c (.head _))
      obtain ⟨u, b1, b2⟩ := r.get a2
      show Rep K H (((ks.zip l).lookup c).getD .none) (((ks.zip xs).lookup c).getD .non)
      rw [a3, lk_at hn a1 b1]
      exact b2
  exact gen _ fun c hc => (srtP_perm ks).mem_iff.mp hc
section
variable {X : Cx} {S : Type} {o : Ops S} {md : Md X.K o}
theorem sortK_core {T : List Addr} {c P : Addr} {params : Arguments} {body : Expr} {scope : Scope} {own : List (Str × Nat)} {pos lpos kpos : Pos} {a : Str} {i k : Nat} {mb : M S PV} {l : List PV} {xs : List V} {ks : List (Int × Int)} {st1 stb : S} {pins pins1 : List (Addr × Obj)} {σ : L2.St} {s1 : Shared} {H H1 Hs Hs1 : Hp} {U U1 : US} {la : Addr} {Q : VK}
    (hT : HasT md T) (hP : P ∈ T) (hc : X.calm = true) (hN : X.N.Nodup) (hr : Room (k + 1) X.A) (TB : TabB X.base X.mg c P) (hcode : X.env.code = .ref c)
    (ok : BlkOk X.N X.env.scope scope own) (hcell : (scope.names.all fun y => y.2 != .cell) = true) (hco : scope.isCoroutine = false) (hgen : scope.isGenerator = false)
    (hai : X.N[i]? = some a) (hloc : scope.names.lookup a = some .local)
    (hbind : ∀ (ql : Str) (cl : List (Str × Addr)) (pm cdv ctv u : Value), bindArgs (PySem.W.kla_fn "<lambda>" ql params body scope cl pm cdv ctv) ⟨[u], []⟩ = pure [(a, u)])
    (hdef : defaultsOf params X.env = ([], [])) (hlam : lamP lpos = true)
    (hbody : ∀ (A : Around) (s : Shared) (H : Hp) (q : Str) (L f c' : Addr), Room k A → PE (kcx X A s H (kenv X scope q L f c')) body (tG md mb))
    (I1 : Inv X pins1 σ H1 s1) (hsub : ∀ p ∈ pins, p ∈ pins1) (r1 : md.R st1 Hs1 U1 σ H1) (sp1 : Stp Hs U H Hs1 U1 H1) (hreps : Reps X.K Hs1 l xs)
    (hcol : ∀ (s2 : Shared) (H2 : Hp), Inv X pins1 σ H2 s2 → Sb Hs1 H2 → ∀ {E : Value → Shared → Prop} {Q' : List Value → Shared → Prop}, (∀ (h' : Heap) (tk : Nat) (vs : List Value), (∀ b o, s2.heap.get? b = some o → h'.get? b = some o) → Vals xs vs → Q' vs { s2 with heap := h', toks := tk }) → wpAny (model X.prog X.w) X.A.in1 (collect (.ref la)) Q' E s2)
    (hll : l.length ≤ LIM) (hw : (own.map (·.2)).all o.wr = true) (hwi : o.wr i = true) (hio : i ∈ own.map (·.2)) (e2 : keyLoop o (own.map (·.2)) i mb l (o.clr st1 (own.map (·.2))) = some (ks, stb)) (hnd : ks.Nodup)
    (kk : ∀ D xs Hs' U' H', md.R (o.leave st1 stb (own.map (·.2))) Hs' U' σ H' → Stp Hs U H Hs' U' H' → H' D = some (.lst xs) → Hs' D = none → ¬ U' D → H D = none → Reps X.K Hs' (srtK .none ks l) xs → Q (.ref D) H') :
    wpAny (model X.prog X.w) X.A (evalAll ((backToKw pos (keywordEach [⟨some "key", .Lambda params body scope lpos, kpos⟩] X.env)).map (·.2)))
      (fun kvs s₂ => wpAny (model X.prog X.w) X.A (call (.builtin "sorted") [.ref la] (((backToKw pos (keywordEach [⟨some "key", .Lambda params body scope lpos, kpos⟩] X.env)).filterMap (·.1)).zip kvs)) (EP X pins σ Q) X.xe s₂) X.xe s1 := by
  have hcell' : ∀ y ∈ scope.names, y.2 ≠ .cell := fun y hy => by
    have := List.all_eq_true.mp hcell y hy
    intro z
    rw [z] at this
    cases this
  have hd : X.A.handled = none := I1.ok.hd hc
  have tP := hT r1 P hP
  show wpAny _ _ (evalAll ((do let v ← eval (.Lambda params body scope lpos) X.env; standAt pos; pure v) :: [])) _ _ s1
  refine wpAny_evalAll_cons (wpAny_bind (key_make I1 TB hcode tP hlam hdef (fun y hy e => by
    rcases ok.free y hy e with k | k
    · exact I1.ok.has _ (.inl k)
    · exact I1.ok.has _ (.inr k)) fun f c' pm ctv H2 s2 I2 tk hf hfn hfs hE => wpAny_bind (wpAny_standAt (wpAny_pure (wpAny_evalAll_nil ?_)))))
  show wpAny _ _ (call (.builtin "sorted") [.ref la] [(Str.ofString "key", .ref f)]) _ _ _
  have r2 := r_tabK r1 tP tk
  have sp2 : Stp Hs U H Hs1 U1 H2 := sp1.trans (stp_tabK tP tk)
  have r0 := md.clr_ok r2 hw
  have hfA : NewA X pins1 f := newA I1 hfs
  have hlen : xs.length = l.length := hreps.len
  have hkl := keyLoop_len e2
  refine sortedK_call (xs := xs) (ks := ks) (fun j H => j ≤ l.length ∧ ∃ Hs3 U3 stt, md.R stt Hs3 U3 (wipe σ (own.map (·.2))) H ∧ Stp Hs1 U1 H2 Hs3 U3 H ∧ keyLoop o (own.map (·.2)) i mb (l.drop j) stt = some (ks.drop j, stb) ∧
      ∃ ps : Array Value, H P = some (.tbl ps) ∧ codeAmong lpos ps.toList = some (.ref c')) (hcol s2 H2 I2 (md.sub r2)) I2 hf hfn hfA (fun v z => by cases z) (by rw [hkl, hlen]) hnd (by rw [hlen]; exact lim_line hll)
    ⟨Nat.zero_le _, Hs1, U1, _, r0, .refl _ _ _, by simpa using e2, hE⟩ (fun j x v hx rx H s pl hW I3 hfp => ?_) fun D H' s' I3 hW hD => ?_
  · obtain ⟨hj, Hs3, U3, stt, r3, s3, hlp, ps3, hps3, hca⟩ := hW
    have hjl : j < l.length := by rw [← hlen]; exact (List.getElem?_eq_some_iff.mp hx).1
    rw [List.drop_eq_getElem_cons hjl] at hlp
    obtain ⟨ka, kb, st2, ks', eb, elp, eks⟩ := keyLoop_at hlp
    have hjk : j < ks.length := by rw [hkl]; exact hjl
    rw [List.drop_eq_getElem_cons hjk] at eks
    obtain ⟨ek1, ek2⟩ : ks[j] = (ka, kb) ∧ ks.drop (j + 1) = ks' := by
      injection eks with z1 z2
      exact ⟨z1, z2⟩
    have hkj : ks[j]? = some (ka, kb) := by rw [← ek1]; exact List.getElem?_eq_getElem hjk
    obtain ⟨y, hy, ry⟩ := hreps.get (List.getElem?_eq_getElem hjl)
    rw [hx] at hy
    cases hy
    obtain ⟨ps, e4, tt4, ha4⟩ := hT r3 P hP
    rw [hps3] at e4
    cases e4
    obtain ⟨c0, q, ec, hco'⟩ := ha4 lpos (.ref c') hlam hca
    cases ec
    have r4 := md.set_ok r3 hwi (Rep.mono s3.hs _ _ ry)
    refine wpAny_mono (key_call (k := k) (Q := fun v H4 => ∃ Hs4 U4, md.R st2 Hs4 U4 ((wipe σ (own.map (·.2))).set i (some x)) H4 ∧ Stp Hs3 U3 H Hs4 U4 H4 ∧ Rep X.K Hs4 (.tuple [.int ka, .int kb]) v) (te := tG md mb) I3 ((I3.pin _ (List.mem_append_right _ hfp)).1) hco' ok hcell' hN hco hgen hai hloc rx (show X.A.in1.in1.frames = some X.stack from I3.ok.frames) hd (show X.A.depth < _ by have := hr.depth; exact this)
      (fun env => ⟨hr.hd, by have := hr.dp; show X.A.depth + 1 + 3 * k + 5 < _; omega, by have := hr.un; show X.A.units + 1 + 1 + 3 + 16 * k + 200 < _; omega⟩) (hbind _ _ _ _ _ _) hbody ⟨Hs3, U3, _, _, st2, r4, eb, fun v Hs4 U4 H4 r5 s5 p5 => ⟨Hs4, U4, r5, s5, p5⟩⟩) (fun kv s4 hq => ?_) fun _ _ z => z
    obtain ⟨y, H4, I4, ry4, ⟨Hs4, U4, r5, s5, p5⟩, un⟩ := hq
    obtain ⟨t, ys, rfl, htp, hys⟩ := rep_tup p5
    obtain rfl : kv = Value.ref t := ry4
    have e5 : ys = [.int ka, .int kb] := by
      simp only [Reps] at hys
      obtain ⟨y1, r1, rfl, h1, y2, r2, rfl, h2, rfl⟩ := hys
      simp only [Rep] at h1 h2
      rw [h1, h2]
    subst e5
    refine ⟨H4, (ka, kb), I4, hkj, ⟨t, rfl, sqT_mono (md.sub r5).same htp⟩, fun u k hk => hk.un un, hjl, Hs4, U4, _, by have := md.clr_ok r5 hw; rwa [wipe_set hio, wipe_wipe] at this, s3.trans s5, by rw [ek2]; exact elp, ?_⟩
    obtain ⟨more, em⟩ := un.tbls P _ hps3
    exact ⟨_, em, by rw [Array.toList_append]; exact among_mono tt4 hca⟩
  · obtain ⟨_, Hs3, U3, stt, r3, s3, hlp, _⟩ := hW
    rw [hlen, List.drop_length] at hlp
    unfold keyLoop at hlp
    rw [show ks.drop l.length = [] by rw [← hkl]; exact List.drop_length] at hlp
    cases hlp
    have r6 := md.leave_ok (own := own.map (·.2)) r2 r3 s3.hs hw
    exact ⟨.ref D, _, re_pin I3 fun p hp => .inl (hsub p hp), rfl, fin_F r6 (sp2.trans s3) kk D _ hD (srtK_reps hnd hkl (Reps.mono s3.hs _ _ hreps))⟩
/-- sorted(xs, key=lambda ..) of a list -/
theorem f_sortK {T : List Addr} {c P : Addr} {e : Expr} {params : Arguments} {body : Expr} {scope : Scope} {own : List (Str × Nat)} {p pos lpos kpos : Pos} {a : Str} {i k : Nat} {mi mb : M S PV}
    (hT : HasT md T) (hP : P ∈ T) (hc : X.calm = true) (hN : X.N.Nodup) (hr : Room (k + 1) X.A) (hg : Gl X "sorted") (hm : X.mg "sorted" = none) (TB : TabB X.base X.mg c P) (hcode : X.env.code = .ref c)
    (hi : PE X e (tG md mi)) (ok : BlkOk X.N X.env.scope scope own) (hcell : (scope.names.all fun y => y.2 != .cell) = true) (hco : scope.isCoroutine = false) (hgen : scope.isGenerator = false)
    (hai : X.N[i]? = some a) (hloc : scope.names.lookup a = some .local)
    (hbind : ∀ (ql : Str) (cl : List (Str × Addr)) (pm cdv ctv u : Value), bindArgs (PySem.W.kla_fn "<lambda>" ql params body scope cl pm cdv ctv) ⟨[u], []⟩ = pure [(a, u)])
    (hdef : defaultsOf params X.env = ([], [])) (hlam : lamP lpos = true)
    (hbody : ∀ (A : Around) (s : Shared) (H : Hp) (q : Str) (L f c' : Addr), Room k A → PE (kcx X A s H (kenv X scope q L f c')) body (tG md mb))
    (he : backTo pos (starEach [e] X.env) = (false, eval e X.env) :: backTo pos (starEach [] X.env) := by rfl) :
    PE X (.Call (.Name "sorted" p) [e] [⟨some "key", .Lambda params body scope lpos, kpos⟩] pos) (tF md (mSortK o (own.map (·.2)) i (mItL mi) mb)) := by
  refine ⟨fun pins s σ H Q I h => ?_⟩
  obtain ⟨Hs, U, st, pv, st', hR, hmm, kk⟩ := h
  unfold mSortK at hmm
  split at hmm
  rotate_left
  · cases hmm
  rename_i l st1 e1
  split at hmm
  rotate_left
  · cases hmm
  rename_i hcond
  obtain ⟨hll, hw, hwi, hio⟩ := hcond
  split at hmm
  rotate_left
  · cases hmm
  rename_i ks stb e2
  split at hmm
  rotate_left
  · cases hmm
  rename_i hnd
  cases hmm
  obtain ⟨x, st1', e3, e4⟩ := bnd_some e1
  obtain ⟨e5, rfl⟩ := lft_some e4
  obtain rfl : x = .list l := by
    unfold itsL at e5
    split at e5
    · cases e5; rfl
    · cases e5
  refine wpAny_Call_Name_kw (ld_blt I hg hm (show bootBuiltins "sorted" = some (.builtin "sorted") by first | rfl | kernel_rfl | decide +kernel) ?_)
  refine PyProof.Rows.callWith_kw ?_ he (by rw [he]; rfl)
  rw [he]
  show wpAny _ _ (spliced ((false, eval e X.env) :: backTo pos (starEach [] X.env))) _ _ s
  refine Calls.spliced_cons (thn (hi.run pins s σ H (fun v H1 => ∃ Hs1 U1, md.R st1 Hs1 U1 σ H1 ∧ Stp Hs U H Hs1 U1 H1 ∧ Rep X.K Hs1 (.list l) v) I ⟨Hs, U, st, .list l, st1, hR, e3, fun v Hs1 U1 H1 r1 s1 p1 => ⟨Hs1, U1, r1, s1, p1⟩⟩) fun u s1 hx => ?_)
  obtain ⟨v, H1, I1, rv, Hs1, U1, r1, sp1, p1⟩ := hx
  refine Calls.spliced_nil ?_
  obtain ⟨la, xs, rfl, hrd, hreps⟩ := rep_lst p1
  obtain rfl : u = Value.ref la := rv
  refine sortK_core hT hP hc hN hr TB hcode ok hcell hco hgen hai hloc hbind hdef hlam hbody I1 (fun p hp => hp) r1 sp1 hreps (fun s2 H2 I2 sb2 {E Q'} hq => ?_) hll hw hwi hio e2 hnd kk
  obtain ⟨its, rv, hl, hz⟩ := I2.list (.inl (sb_rd sb2 hrd))
  refine collect_list hl.isList (hq _ _ its (fun b o q => ?_) rv) (by rw [← rv.length]; exact hz)
  have hlt : b < s2.heap.objs.size := Heap.lt_size q
  rw [Heap.get?_update_ne _ _ _ _ (Nat.ne_of_lt hlt)]
  exact Heap.get?_push_of_some _ q
/-- sorted(range(n), key=lambda ..) -/
theorem f_sortKR {T : List Addr} {c P : Addr} {e : Expr} {params : Arguments} {body : Expr} {scope : Scope} {own : List (Str × Nat)} {p p2 pos pos2 lpos kpos : Pos} {a : Str} {i k : Nat} {mi mb : M S PV}
    (hT : HasT md T) (hP : P ∈ T) (hc : X.calm = true) (hN : X.N.Nodup) (hr : Room (k + 1) X.A) (hg : Gl X "sorted") (hm : X.mg "sorted" = none) (hg2 : Gl X "range") (hm2 : X.mg "range" = none) (TB : TabB X.base X.mg c P) (hcode : X.env.code = .ref c)
    (hi : PE X e (tG md mi)) (ok : BlkOk X.N X.env.scope scope own) (hcell : (scope.names.all fun y => y.2 != .cell) = true) (hco : scope.isCoroutine = false) (hgen : scope.isGenerator = false)
    (hai : X.N[i]? = some a) (hloc : scope.names.lookup a = some .local)
    (hbind : ∀ (ql : Str) (cl : List (Str × Addr)) (pm cdv ctv u : Value), bindArgs (PySem.W.kla_fn "<lambda>" ql params body scope cl pm cdv ctv) ⟨[u], []⟩ = pure [(a, u)])
    (hdef : defaultsOf params X.env = ([], [])) (hlam : lamP lpos = true)
    (hbody : ∀ (A : Around) (s : Shared) (H : Hp) (q : Str) (L f c' : Addr), Room k A → PE (kcx X A s H (kenv X scope q L f c')) body (tG md mb))
    (he : backTo pos (starEach [.Call (.Name "range" p2) [e] [] pos2] X.env) = (false, eval (.Call (.Name "range" p2) [e] [] pos2) X.env) :: backTo pos (starEach [] X.env) := by rfl) (na2 : starEach [e] X.env = (false, eval e X.env) :: starEach [] X.env := by rfl) :
    PE X (.Call (.Name "sorted" p) [.Call (.Name "range" p2) [e] [] pos2] [⟨some "key", .Lambda params body scope lpos, kpos⟩] pos) (tF md (mSortK o (own.map (·.2)) i (mRg1 mi) mb)) := by
  refine ⟨fun pins s σ H Q I h => ?_⟩
  obtain ⟨Hs, U, st, pv, st', hR, hmm, kk⟩ := h
  unfold mSortK at hmm
  split at hmm
  rotate_left
  · cases hmm
  rename_i l st1 e1
  split at hmm
  rotate_left
  · cases hmm
  rename_i hcond
  obtain ⟨hll, hw, hwi, hio⟩ := hcond
  split at hmm
  rotate_left
  · cases hmm
  rename_i ks stb e2
  split at hmm
  rotate_left
  · cases hmm
  rename_i hnd
  cases hmm
  obtain ⟨x, st1', e3, e4⟩ := bnd_some e1
  obtain ⟨e5, rfl⟩ := lft_some e4
  obtain ⟨i0, n, h0, rfl⟩ := rg_int e5
  cases h0
  obtain ⟨⟨b1, b2, b3, b4, b5⟩, rfl⟩ := rg_ok e5
  refine wpAny_Call_Name_kw (ld_blt I hg hm (show bootBuiltins "sorted" = some (.builtin "sorted") by first | rfl | kernel_rfl | decide +kernel) ?_)
  refine PyProof.Rows.callWith_kw ?_ he (by rw [he]; rfl)
  rw [he]
  show wpAny _ _ (spliced ((false, eval (.Call (.Name "range" p2) [e] [] pos2) X.env) :: backTo pos (starEach [] X.env))) _ _ s
  refine Calls.spliced_cons ?_
  refine Call_ (ld_blt I hg2 hm2 boot_range (PyProof.Rows.callWith_type1 (PyProof.Rows.args_cons (thn (hi.run pins s σ H (fun v H1 => ∃ Hs1 U1, md.R st1 Hs1 U1 σ H1 ∧ Stp Hs U H Hs1 U1 H1 ∧ Rep X.K Hs1 (.int n) v) I ⟨Hs, U, st, .int n, st1, hR, e3, fun v Hs1 U1 H1 r1 s1 p1 => ⟨Hs1, U1, r1, s1, p1⟩⟩) fun u s1 hx => PyProof.Rows.args_nil ?_) na2) na2))
  obtain ⟨v, H1, I1, rv, Hs1, U1, r1, sp1, p1⟩ := hx
  rw [rep_int p1] at rv
  obtain ⟨t, rfl⟩ := rv
  refine call_range_1 ?_
  refine Calls.spliced_nil ?_
  have I2 : Inv X pins σ H1 { s1 with heap := s1.heap.push { cls := .type "range", data := .fields #[.int 0 s1.toks, .int n t, .int 1 (s1.toks + 1)] }, toks := s1.toks + 1 + 1 } := I1.kept fun b u e => Heap.get?_push_of_some _ e
  have nR : NewA X pins s1.heap.objs.size := newA I1 (Nat.le_refl _)
  have I3 : Inv X (pins ++ [(s1.heap.objs.size, { cls := .type "range", data := .fields #[.int 0 s1.toks, .int n t, .int 1 (s1.toks + 1)] })]) σ H1 { s1 with heap := s1.heap.push { cls := .type "range", data := .fields #[.int 0 s1.toks, .int n t, .int 1 (s1.toks + 1)] }, toks := s1.toks + 1 + 1 } := re_pin I2 fun p hp => by
    rcases List.mem_append.mp hp with hp | hp
    · exact .inl hp
    · rw [List.mem_singleton.mp hp]
      exact .inr ⟨Heap.get?_push_size _ rfl, I1.hok.fresh (Nat.le_refl _), nR.loc, nR.fs, fun v z => by cases z⟩
  refine sortK_core (xs := rgV 0 n) hT hP hc hN hr TB hcode ok hcell hco hgen hai hloc hbind hdef hlam hbody I3 (fun p hp => List.mem_append_left _ hp) r1 sp1 (rg_reps 0 _) (fun s2 H2 I4 sb2 {E Q'} hq => ?_) hll hw hwi hio e2 hnd kk
  have hrg : IsRange s2.heap s1.heap.objs.size 0 n 1 s1.toks t (s1.toks + 1) := (I4.pin (s1.heap.objs.size, { cls := .type "range", data := .fields #[.int 0 s1.toks, .int n t, .int 1 (s1.toks + 1)] }) (by simp)).1
  exact collect_range (n := (n - 0).toNat) (I4.ok.hd hc) hrg (small_one b1 b2 b3 b4) (rangeSize_nat 0 n) b5 fun h' tk acc hk hi => hq h' tk acc.toList hk (vals_rg hi)
end
end L9

set_option Elab.async false
set_option linter.all false
set_option maxRecDepth 100000
set_option maxHeartbeats 4000000
namespace My
open PySem PySem.Spec
open PyProof.Rows hiding St
open L2 L3 L5 L6 L7 L9
abbrev WN : Nat := 1000000
def b_counts_more : SM := (sSeq (sPar (eO 7 []) 5 6 (mCons (mP (mOp fAdd (mOp fMul (ret (.int 2)) (mOp fIx (mVar (pO 7) 2) (mVar (pO 7) 3))) (mVar (pO 7) 1))) (mCons (mP (mOp fAdd (mOp fMul (ret (.int 2)) (mOp fIx (mVar (pO 7) 2) (mVar (pO 7) 4))) (mVar (pO 7) 1))) (ret []))))
  (sSeq (sIf (mVT (mOr (mTr (mOp fEq (mVar (pO 7) 5) (ret (.int 0)))) (mTr (mOp fEq (mVar (pO 7) 6) (ret (.int 0)))))) (sRet (mO (mP (mAndV (mOp fEq (mVar (pO 7) 5) (ret (.int 0))) (mOrV (mOp fGt (mVar (pO 7) 6) (ret (.int 0))) (mOp fGt (mOp fIx (mVar (pO 7) 0) (mVar (pO 7) 3)) (mOp fIx (mVar (pO 7) 0) (mVar (pO 7) 4)))))))) sNx)
  (sRet (mO (mP (mOp fGt (mOp fMul (mOp fIx (mVar (pO 7) 0) (mVar (pO 7) 3)) (mVar (pO 7) 6)) (mOp fMul (mOp fIx (mVar (pO 7) 0) (mVar (pO 7) 4)) (mVar (pO 7) 5))))))))
def g_counts_more : List PV → Option OV := runP 7 b_counts_more
def l_next_party_1 : SM := (sIf (mVT (mTr (mCall 5 g_counts_more (mCons (mVar (pO 5) 0) (mCons (mVar (pO 5) 1) (mCons (mVar (pO 5) 2) (mCons (mVar (pO 5) 4) (mCons (mVar (pO 5) 3) (ret []))))))))) (sSet (eO 5 []) 3 (mO (mP (mVar (pO 5) 4)))) sNx)
def b_next_party : SM := (sSeq (sSet (eO 5 []) 3 (mO (mP (ret (.int 0)))))
  (sSeq (sFor (eO 5 []) (.nm 4) (mLs fRange2 (mCons (mP (ret (.int 1))) (mCons (mP (mCl fLen (mCons (mVar (pO 5) 0) (ret [])))) (ret [])))) l_next_party_1)
  (sRet (mO (mP (mVar (pO 5) 3))))))
def g_next_party : List PV → Option OV := runP 5 b_next_party
def l_seats_1 : SM := (sAugI 3 (mV (mCall 3 g_next_party (mCons (mVar (pO 5) 0) (mCons (mVar (pO 5) 2) (mCons (mVar (pO 5) 3) (ret [])))))) fAddI (mP (ret (.int 1))))
def b_seats : SM := (sSeq (sSet (eO 5 []) 3 (mFLP (mOpF lMul (mCl fLst (mCons (ret (.int 0)) (ret []))) (mCl fLen (mCons (mVar (pO 5) 0) (ret []))))))
  (sSeq (sFor (eO 5 []) (.nm 4) (mLs fRange1 (mCons (mP (mVar (pO 5) 1)) (ret []))) l_seats_1)
  (sRet (mO (mV (mCl fTuple (mCons (mVar (pO 5) 3) (ret []))))))))
def g_seats : List PV → Option OV := runP 5 b_seats
def l_by_rests_1 : SM := (sAugI 3 (mP (mVar (pO 7) 5)) fAddI (mP (ret (.int 1))))
def b_by_rests : SM := (sSeq (sSet (eO 7 []) 2 (mO (mP (mCl fSum (mCons (mCl fList (mCons (mVar (pO 7) 0) (ret []))) (ret []))))))
  (sSeq (sSet (eO 7 []) 3 (mFLP (mLcC (pO 7) [6] (.nm 6) (mItems (mVar (pO 7) 0)) (ret true) (mOp fDiv (mOp fMul (mVar (pO 7) 1) (mVar (pO 7) 6)) (mVar (pO 7) 2)))))
  (sSeq (sSet (eO 7 []) 4 (mO (mP (mLv (mSortK (pO 7) [5] 5 (mRg1 (mCl fLen (mCons (mVar (pO 7) 0) (ret [])))) (mCl fTup (mCons (mUn fNeg (mOp fMod (mOp fMul (mVar (pO 7) 1) (mOp fIx (mVar (pO 7) 0) (mVar (pO 7) 5))) (mVar (pO 7) 2))) (mCons (mVar (pO 7) 5) (ret [])))))))))
  (sSeq (sFor (eO 7 []) (.nm 5) (mItems (mSl (mP (mVar (pO 7) 4)) (ret none) (mPart (mV (mOp fSub (mVar (pO 7) 1) (mCl fSum (mCons (mVar (pO 7) 3) (ret [])))))))) l_by_rests_1)
  (sRet (mO (mV (mCl fTuple (mCons (mVar (pO 7) 3) (ret []))))))))))
def g_by_rests : List PV → Option OV := runP 7 b_by_rests
def b__law_same (self : List PV → Option OV) : SM := (sSeq (sIf (mVT (mOr (mTr (mUn (fIsi "tuple") (mVar (pO 3) 1))) (mTr (mUn (fIsi "list") (mVar (pO 3) 1))))) (sSeq (sIf (mVT (mOr (mTr (mOp fNe (mUn (fIsi "tuple") (mVar (pO 3) 1)) (mUn (fIsi "tuple") (mVar (pO 3) 0)))) (mTr (mOp fNe (mUn (fIsi "list") (mVar (pO 3) 1)) (mUn (fIsi "list") (mVar (pO 3) 0)))))) (sRet (mO (mP (ret (.bool false))))) sNx)
  (sSeq (sIf (mVT (mTr (mOp fNe (mCl fLen (mCons (mVar (pO 3) 0) (ret []))) (mCl fLen (mCons (mVar (pO 3) 1) (ret [])))))) (sRet (mO (mP (ret (.bool false))))) sNx)
  (sRet (mO (mP (mOp fEq (mCl fLen (mCons (mLc (pO 3) [2] (.nm 2) (mLs fRange1 (mCons (mCl fLen (mCons (mVar (pO 3) 1) (ret []))) (ret []))) (mNot (mTr (mCall 2 self (mCons (mOp fIx (mVar (pO 3) 0) (mVar (pO 3) 2)) (mCons (mOp fIx (mVar (pO 3) 1) (mVar (pO 3) 2)) (ret [])))))) (mVar (pO 3) 2)) (ret []))) (ret (.int 0)))))))) sNx)
  (sSeq (sIf (mVT (mTr (mOp fIs (mVar (pO 3) 1) (ret .none)))) (sRet (mO (mP (mOp fIs (mVar (pO 3) 0) (ret .none))))) sNx)
  (sSeq (sIf (mVT (mOr (mTr (mUn (fIsi "bool") (mVar (pO 3) 1))) (mTr (mUn (fIsi "bool") (mVar (pO 3) 0))))) (sRet (mO (mP (mAndV (mUn (fIsi "bool") (mVar (pO 3) 1)) (mAndV (mUn (fIsi "bool") (mVar (pO 3) 0)) (mOp fEq (mVar (pO 3) 0) (mVar (pO 3) 1))))))) sNx)
  (sSeq (sIf (mVT (mTr (mUn (fIsi "int") (mVar (pO 3) 1)))) (sRet (mO (mP (mAndV (mUn (fIsi "int") (mVar (pO 3) 0)) (mOp fEq (mVar (pO 3) 0) (mVar (pO 3) 1)))))) sNx)
  (sRet (mO (mP (mAndV (mUn (fIsi "str") (mVar (pO 3) 0)) (mOp fEq (mVar (pO 3) 0) (mVar (pO 3) 1))))))))))
def gN__law_same : Nat → List PV → Option OV
  | 0 => fun _ => none
  | k + 1 => runP 3 (b__law_same (gN__law_same k))
def g__law_same : List PV → Option OV := gN__law_same 8
def l__law_spread_1 : SM := (sSeq (sSet (eO 4 []) 1 (mO (mP (mOp fMod (mCl fInt (mCons (mOp fAdd (mOp fAdd (mOp fMul (mVar (pO 4) 1) (ret (.int 48271))) (ret (.int 12345))) (mVar (pO 4) 3)) (ret []))) (ret (.int 2147483647))))))
  (sSet (eO 4 []) 2 (mO (mP (mOp fAdd (mOp fMul (mVar (pO 4) 2) (ret (.int 2147483647))) (mVar (pO 4) 1))))))
def b__law_spread : SM := (sSeq (sSet (eO 4 []) 1 (mO (mP (mOp fMod (mCl fInt (mCons (mVar (pO 4) 0) (ret []))) (ret (.int 2147483647))))))
  (sSeq (sSet (eO 4 []) 2 (mO (mP (ret (.int 1)))))
  (sSeq (sFor (eO 4 []) (.nm 3) (mLs fRange1 (mCons (mP (ret (.int 4))) (ret []))) l__law_spread_1)
  (sRet (mO (mP (mVar (pO 4) 2)))))))
def g__law_spread : List PV → Option OV := runP 4 b__law_spread
def b__law_draw : SM := (sSeq (sIf (mVT (mAnd (mTr (mOp fLe (mOp fIx (mVar (pO 5) 0) (ret (.int 2))) (ret (.int 0)))) (mTr (mOp fLt (mOp fIx (mVar (pO 5) 0) (ret (.int 1))) (mCl fLen (mCons (mOp fIx (mVar (pO 5) 0) (ret (.int 0))) (ret []))))))) (sSeq (sSet (eO 5 [0]) 2 (mO (mV (mOp fIx (mOp fIx (mVar (pO 5) 0) (ret (.int 0))) (mOp fIx (mVar (pO 5) 0) (ret (.int 1)))))))
  (sSeq (sSetI 0 (mO (mV (mOp fAdd (mOp fIx (mVar (pO 5) 0) (ret (.int 1))) (ret (.int 1))))) (mP (ret (.int 1))))
  (sSeq (sSetI 0 (mO (mP (mVar (pO 5) 2))) (mP (ret (.int 2))))
  (sIf (mVT (mTr (mOp fLt (mVar (pO 5) 2) (ret (.int 1000000000000000000))))) (sSetI 0 (mCallO 1 g__law_spread (mCons (mP (mVar (pO 5) 2)) (ret []))) (mP (ret (.int 2)))) sNx)))) sNx)
  (sSeq (sSetI 0 (mO (mV (mOp fAdd (mOp fIx (mVar (pO 5) 0) (ret (.int 3))) (ret (.int 1))))) (mP (ret (.int 3))))
  (sSeq (sIf (mVT (mTr (mOp fLe (mOp fIx (mVar (pO 5) 0) (ret (.int 2))) (ret (.int 0))))) (sSeq (sSet (eO 5 [0]) 3 (mO (mV (mOp fMod (mCl fInt (mCons (mOp fAdd (mOp fAdd (mOp fMul (mOp fIx (mVar (pO 5) 0) (ret (.int 4))) (ret (.int 48271))) (mOp fMul (mOp fIx (mVar (pO 5) 0) (ret (.int 3))) (ret (.int 69621)))) (ret (.int 1))) (ret []))) (ret (.int 2147483647))))))
  (sSeq (sSet (eO 5 [0]) 3 (mO (mV (mOp fMod (mCl fInt (mCons (mOp fAdd (mOp fMul (mVar (pO 5) 3) (ret (.int 16807))) (mOp fIx (mVar (pO 5) 0) (ret (.int 3)))) (ret []))) (ret (.int 2147483629))))))
  (sRet (mO (mP (mOp fMod (mOp fDiv (mVar (pO 5) 3) (ret (.int 5))) (mVar (pO 5) 1))))))) sNx)
  (sSeq (sSet (eO 5 [0]) 4 (mO (mV (mOp fMod (mCl fInt (mCons (mOp fIx (mVar (pO 5) 0) (ret (.int 2))) (ret []))) (mVar (pO 5) 1)))))
  (sSeq (sSetI 0 (mO (mV (mOp fDiv (mOp fIx (mVar (pO 5) 0) (ret (.int 2))) (mVar (pO 5) 1)))) (mP (ret (.int 2))))
  (sRet (mO (mP (mVar (pO 5) 4)))))))))
def r__law_draw : OV → List PV → Option (OV × OV) := runR 5 b__law_draw
def b__law_counts_more : SM := (sSeq (sPar (eO 7 []) 5 6 (mCons (mP (mOp fAdd (mOp fMul (ret (.int 2)) (mOp fIx (mVar (pO 7) 2) (mVar (pO 7) 3))) (mVar (pO 7) 1))) (mCons (mP (mOp fAdd (mOp fMul (ret (.int 2)) (mOp fIx (mVar (pO 7) 2) (mVar (pO 7) 4))) (mVar (pO 7) 1))) (ret []))))
  (sSeq (sIf (mVT (mOr (mTr (mOp fEq (mVar (pO 7) 5) (ret (.int 0)))) (mTr (mOp fEq (mVar (pO 7) 6) (ret (.int 0)))))) (sRet (mO (mP (mAndV (mOp fEq (mVar (pO 7) 5) (ret (.int 0))) (mOrV (mOp fGt (mVar (pO 7) 6) (ret (.int 0))) (mOp fGt (mOp fIx (mVar (pO 7) 0) (mVar (pO 7) 3)) (mOp fIx (mVar (pO 7) 0) (mVar (pO 7) 4)))))))) sNx)
  (sRet (mO (mP (mOp fGt (mOp fMul (mOp fIx (mVar (pO 7) 0) (mVar (pO 7) 3)) (mVar (pO 7) 6)) (mOp fMul (mOp fIx (mVar (pO 7) 0) (mVar (pO 7) 4)) (mVar (pO 7) 5))))))))
def g__law_counts_more : List PV → Option OV := runP 7 b__law_counts_more
def l__law_seats_1 : SM := (sSet (eO 7 []) 5 (mO (mV (mIf (mTr (mCall 5 g__law_counts_more (mCons (mVar (pO 7) 0) (mCons (mVar (pO 7) 2) (mCons (mVar (pO 7) 3) (mCons (mVar (pO 7) 6) (mCons (mVar (pO 7) 5) (ret [])))))))) (mVar (pO 7) 6) (mVar (pO 7) 5)))))
def l__law_seats_2 : SM := (sSeq (sSet (eO 7 []) 5 (mO (mP (ret (.int 0)))))
  (sSeq (sFor (eO 7 []) (.nm 6) (mLs fRange1 (mCons (mP (mCl fLen (mCons (mVar (pO 7) 0) (ret [])))) (ret []))) l__law_seats_1)
  (sSetI 3 (mO (mV (mOp fAdd (mOp fIx (mVar (pO 7) 3) (mVar (pO 7) 5)) (ret (.int 1))))) (mP (mVar (pO 7) 5)))))
def b__law_seats : SM := (sSeq (sSet (eO 7 []) 3 (mFLP (mOpF lMul (mCl fLst (mCons (ret (.int 0)) (ret []))) (mCl fLen (mCons (mVar (pO 7) 0) (ret []))))))
  (sSeq (sFor (eO 7 []) (.nm 4) (mLs fRange1 (mCons (mP (mVar (pO 7) 1)) (ret []))) l__law_seats_2)
  (sRet (mO (mV (mCl fTuple (mCons (mVar (pO 7) 3) (ret []))))))))
def g__law_seats : List PV → Option OV := runP 7 b__law_seats
def b__law_votes : SM := (sSeq (sSet (eO 3 [0]) 1 (mO (mOp fIx (mP (mCl fTup (mCons (ret (.int 5)) (mCons (ret (.int 60)) (mCons (ret (.int 90000)) (ret [])))))) (mOut (mCallR 0 2 r__law_draw (mCons (mP (ret (.int 3))) (ret [])))))))
  (sRet (mO (mCl fTuple (mCons (mLc (eO 3 [0]) [2] (.nm 2) (mLs fRange1 (mCons (mOp fAdd (mP (ret (.int 1))) (mOut (mCallR 0 2 r__law_draw (mCons (mP (ret (.int 5))) (ret []))))) (ret []))) (ret true) (mOp fAdd (mP (ret (.int 1))) (mOut (mCallR 0 2 r__law_draw (mCons (mP (mVar (pO 3) 1)) (ret [])))))) (ret []))))))
def r__law_votes : OV → List PV → Option (OV × OV) := runR 3 b__law_votes
def l_law_1 : SM := (sIf (mVT (mTr (mOp fGt (mOp fIx (mVar (pO 16) 6) (mVar (pO 16) 8)) (ret (.int 0))))) (sSeq (sSet (eO 16 []) 9 (mFLP (mLs lList (mCons (mVar (pO 16) 6) (ret [])))))
  (sSeq (sSetI 9 (mO (mV (mOp fSub (mOp fIx (mVar (pO 16) 9) (mVar (pO 16) 8)) (ret (.int 1))))) (mP (mVar (pO 16) 8)))
  (sIf (mVT (mAnd (mTr (mCall 5 g__law_counts_more (mCons (mVar (pO 16) 2) (mCons (mVar (pO 16) 5) (mCons (mVar (pO 16) 9) (mCons (mVar (pO 16) 7) (mCons (mVar (pO 16) 8) (ret [])))))))) (mAnd (mTr (mOp fNe (mVar (pO 16) 7) (mVar (pO 16) 8))) (mTr (mOp fEq (mOp fIx (mVar (pO 16) 9) (mVar (pO 16) 7)) (mOp fIx (mVar (pO 16) 6) (mVar (pO 16) 7))))))) (sRet (mO (mP (ret (.bool false))))) sNx))) sNx)
def l_law_2 : SM := (sFor (eO 16 []) (.nm 8) (mLs fRange1 (mCons (mP (mVar (pO 16) 4)) (ret []))) l_law_1)
def l_law_3 : SM := (sSeq (sSet (eO 16 []) 6 (mO (mP (mCall 3 g_seats (mCons (mVar (pO 16) 2) (mCons (mVar (pO 16) 3) (mCons (mVar (pO 16) 5) (ret []))))))))
  (sSeq (sIf (mVT (mNot (mTr (mCall 2 g__law_same (mCons (mVar (pO 16) 6) (mCons (mCall 3 g__law_seats (mCons (mVar (pO 16) 2) (mCons (mVar (pO 16) 3) (mCons (mVar (pO 16) 5) (ret []))))) (ret []))))))) (sRet (mO (mP (ret (.bool false))))) sNx)
  (sSeq (sFor (eO 16 []) (.nm 7) (mLs fRange1 (mCons (mP (mVar (pO 16) 4)) (ret []))) l_law_2)
  (sSeq (sSet (eO 16 []) 10 (mO (mP (mCall 3 g_seats (mCons (mVar (pO 16) 2) (mCons (mOp fAdd (mVar (pO 16) 3) (ret (.int 1))) (mCons (mVar (pO 16) 5) (ret []))))))))
  (sSeq (sIf (mVT (mOr (mTr (mOp fGt (mCl fLen (mCons (mLc (pO 16) [7] (.nm 7) (mLs fRange1 (mCons (mVar (pO 16) 4) (ret []))) (mTr (mOp fLt (mOp fIx (mVar (pO 16) 10) (mVar (pO 16) 7)) (mOp fIx (mVar (pO 16) 6) (mVar (pO 16) 7)))) (mVar (pO 16) 7)) (ret []))) (ret (.int 0)))) (mTr (mOp fNe (mCl fSum (mCons (mVar (pO 16) 10) (ret []))) (mOp fAdd (mVar (pO 16) 3) (ret (.int 1))))))) (sRet (mO (mP (ret (.bool false))))) sNx)
  (sIf (mVT (mTr (mOp fNe (mCall 3 g_seats (mCons (mCl fTuple (mCons (mLc (pO 16) [15] (.nm 15) (mItems (mVar (pO 16) 2)) (ret true) (mOp fMul (ret (.int 3)) (mVar (pO 16) 15))) (ret []))) (mCons (mVar (pO 16) 3) (mCons (mVar (pO 16) 5) (ret []))))) (mVar (pO 16) 6)))) (sRet (mO (mP (ret (.bool false))))) sNx))))))
def l_law_4 : SM := (sSetI 12 (mO (mV (mOp fAdd (mOp fIx (mVar (pO 16) 12) (mVar (pO 16) 7)) (ret (.int 1))))) (mP (mVar (pO 16) 7)))
def b_law : SM := (sSeq (sSet (eO 16 []) 2 (mO (mOut (mCallR 1 1 r__law_votes (ret [])))))
  (sSeq (sSet (eO 16 []) 3 (mO (mOut (mCallR 1 2 r__law_draw (mCons (mP (ret (.int 40))) (ret []))))))
  (sSeq (sSet (eO 16 []) 4 (mO (mP (mCl fLen (mCons (mVar (pO 16) 2) (ret []))))))
  (sSeq (sFor (eO 16 []) (.nm 5) (mItems (mP (mCl fTup (mCons (ret (.int 0)) (mCons (ret (.int 1)) (mCons (ret (.int 2)) (ret []))))))) l_law_3)
  (sSeq (sSet (eO 16 []) 11 (mO (mP (mCl fSum (mCons (mVar (pO 16) 2) (ret []))))))
  (sSeq (sSet (eO 16 []) 12 (mFLP (mLcC (pO 16) [15] (.nm 15) (mItems (mVar (pO 16) 2)) (ret true) (mOp fDiv (mOp fMul (mVar (pO 16) 3) (mVar (pO 16) 15)) (mVar (pO 16) 11)))))
  (sSeq (sSet (eO 16 []) 13 (mO (mOut (mFLV (mLs lSortA (mCons (mLc (pO 16) [7] (.nm 7) (mLs fRange1 (mCons (mVar (pO 16) 4) (ret []))) (ret true) (mCl fTup (mCons (mOp fSub (ret (.int 0)) (mOp fSub (mOp fMul (mVar (pO 16) 3) (mOp fIx (mVar (pO 16) 2) (mVar (pO 16) 7))) (mOp fMul (mOp fIx (mVar (pO 16) 12) (mVar (pO 16) 7)) (mVar (pO 16) 11)))) (mCons (mVar (pO 16) 7) (ret []))))) (ret [])))))))
  (sSeq (sFor (eO 16 []) (.tp [14, 7]) (mItems (mSl (mP (mVar (pO 16) 13)) (ret none) (mPart (mV (mOp fSub (mVar (pO 16) 3) (mCl fSum (mCons (mVar (pO 16) 12) (ret [])))))))) l_law_4)
  (sRet (mO (mV (mCall 2 g__law_same (mCons (mCall 2 g_by_rests (mCons (mVar (pO 16) 2) (mCons (mVar (pO 16) 3) (ret [])))) (mCons (mCl fTuple (mCons (mVar (pO 16) 12) (ret []))) (ret [])))))))))))))))
end My

set_option Elab.async false
set_option linter.all false
set_option maxRecDepth 100000
set_option maxHeartbeats 4000000
namespace My
open PySem PySem.Spec
open PyProof.Rows hiding St
open L2 L3
/-! ### drawing -/
def poolV (cs : List Int) (i : Nat) (c t s : Int) : OV := .l [.l (cs.map fun x => .p (.int x)), .p (.int (i : Int)), .p (.int c), .p (.int t), .p (.int s)]
def Pool (f : Nat) (ov : OV) : Prop := ∃ (cs : List Int) (i : Nat) (c t s : Int), ov = poolV cs i c t s ∧ 0 ≤ t ∧ t + f ≤ 1000000000 ∧ 0 ≤ s ∧ s < 1000003
theorem Pool.mono {f g : Nat} {ov : OV} (h : Pool f ov) (hg : g ≤ f) : Pool g ov := by
  obtain ⟨cs, i, c, t, s, e, h1, h2, h3⟩ := h
  exact ⟨cs, i, c, t, s, e, h1, by omega, h3⟩
theorem mulOk_of {i j : Int} {a b : Nat} (hi : i.natAbs < 2 ^ a) (hj : j.natAbs < 2 ^ b) (h : a + b ≤ 1000000 := by decide) (ha : 0 < a := by decide) (hb : 0 < b := by decide) : mulOk i j = true := by
  unfold mulOk
  have lg : ∀ (n k : Nat), 0 < k → n < 2 ^ k → n.log2 < k := by
    intro n k hk hn
    by_cases e : n = 0
    · subst e; simpa using hk
    · exact (Nat.log2_lt e).mpr hn
  have := lg _ _ ha hi
  have := lg _ _ hb hj
  exact decide_eq_true (by omega)
theorem divOk_of {j : Int} (h0 : j ≠ 0) (h : j.natAbs < 2 ^ 9000) : divOk j = true := by
  unfold divOk
  exact decide_eq_true ⟨h0, (Nat.log2_lt (by omega)).mpr h⟩
theorem lt_big {n m k : Nat} (h : n < 2 ^ m) (hk : m ≤ k := by decide) : n < 2 ^ k := Nat.lt_of_lt_of_le h (Nat.pow_le_pow_right (by decide) hk)
@[simp] theorem toPVs_cells (cs : List Int) : toPVs (cs.map fun x => OV.p (.int x)) = cs.map PyData.int := by
  induction cs with
  | nil => simp
  | cons x cs ih => simp [ih]
@[simp] theorem v_int (i : Int) : fInt [.int i] = some (.int i) := rfl
@[simp] theorem v_lenL (l : List PV) : fLen [.list l] = some (.int l.length) := rfl
@[simp] theorem v_lenT (l : List PV) : fLen [.tuple l] = some (.int l.length) := rfl

theorem forL_ind {o : Ops Env0} {tg : Tg} {body : SM} (I : List PV → Env0 → Prop) (R : Fl → Env0 → Prop) (nil : ∀ st, I [] st → R .nx st)
    (step : ∀ p l st, I (p :: l) st → ∃ st1 st2 fl, setT o tg p st = some st1 ∧ body st1 = some (fl, st2) ∧ ((fl = .nx ∧ I l st2) ∨ ∃ v, fl = .rt v ∧ R (.rt v) st2)) :
    ∀ {l : List PV} {st : Env0}, I l st → ∃ fl st', forL o tg body l st = some (fl, st') ∧ R fl st'
  | [], st, h => ⟨_, _, rfl, nil st h⟩
  | p :: l, st, h => by
    obtain ⟨st1, st2, fl, e1, e2, h⟩ := step p l st h
    rcases h with ⟨e, h⟩ | ⟨v, e, h⟩
    · subst e
      simp only [forL, e1, e2]
      exact forL_ind I R nil step h
    · subst e
      simp only [forL, e1, e2]
      exact ⟨_, _, rfl, h⟩
theorem spread_pos (c : Int) : ∃ v : Int, g__law_spread [.int c] = some (.p (.int v)) ∧ 0 < v := by
  have r4 : fRange1 [.int 4] = some [.int 0, .int 1, .int 2, .int 3] := by rfl
  have nn : ∀ j : Int, 0 ≤ j.fmod 2147483647 := fun j => Int.fmod_nonneg_of_pos j (by decide)
  have ml : ∀ j : Int, j.fmod 2147483647 < 2147483647 := fun j => Int.fmod_lt_of_pos j (by decide)
  obtain ⟨fl, st', e, b', s', x', rfl, rfl, hs⟩ := forL_ind (o := eO 4 []) (tg := .nm 3) (body := l__law_spread_1)
    (fun l st => ∃ (b s : Int) (x : Option OV), st = [some (.p (.int c)), some (.p (.int b)), some (.p (.int s)), x] ∧ 0 ≤ b ∧ b < 2147483647 ∧ 0 < s ∧ s.natAbs < 2 ^ (1000 - 100 * l.length) ∧ l.length ≤ 4 ∧ ∀ p ∈ l, ∃ i : Int, p = .int i)
    (fun fl st' => ∃ (b s : Int) (x : Option OV), fl = .nx ∧ st' = [some (OV.p (.int c)), some (.p (.int b)), some (.p (.int s)), x] ∧ 0 < s)
    (by
      rintro st ⟨b, s, x, rfl, h1, h2, h3, h4, h5⟩
      exact ⟨b, s, x, rfl, rfl, h3⟩)
    (by
      rintro p l st ⟨b, s, x, rfl, h1, h2, h3, h4, h5, h6⟩
      obtain ⟨i, rfl⟩ := h6 p (by simp)
      have m1 : mulOk b 48271 = true := mulOk_of (a := 31) (b := 17) (by omega) (by decide)
      have m2 : mulOk s 2147483647 = true := mulOk_of (a := 1000) (b := 31) (Nat.lt_of_lt_of_le h4 (Nat.pow_le_pow_right (by decide) (by omega))) (by decide)
      refine ⟨[some (.p (.int c)), some (.p (.int b)), some (.p (.int s)), some (.p (.int i))], [some (.p (.int c)), some (.p (.int ((b * 48271 + 12345 + i).fmod 2147483647))), some (.p (.int (s * 2147483647 + (b * 48271 + 12345 + i).fmod 2147483647))), some (.p (.int i))], .nx, by simp, by simp [l__law_spread_1, m1, m2], .inl ⟨rfl, ⟨_, _, _, rfl, nn _, ml _, ?_, ?_, ?_, fun p hp => h6 p (by simp [hp])⟩⟩⟩
      · have := nn (b * 48271 + 12345 + i); omega
      · have e1 := nn (b * 48271 + 12345 + i)
        have e2 := ml (b * 48271 + 12345 + i)
        simp only [List.length_cons] at h4 h5
        have e3 : 1000 - 100 * l.length = (1000 - 100 * (l.length + 1)) + 100 := by omega
        rw [e3, Nat.pow_add]
        generalize 2 ^ (1000 - 100 * (l.length + 1)) = X at *
        have : (2:Nat) ^ 100 = 1267650600228229401496703205376 := by decide
        omega
      · simp only [List.length_cons] at h5; omega)
    (l := [.int 0, .int 1, .int 2, .int 3]) (st := [some (.p (.int c)), some (.p (.int (c.fmod 2147483647))), some (.p (.int 1)), none])
    ⟨_, _, _, rfl, nn _, ml _, by decide, by decide, by decide, by simp⟩
  refine ⟨s', ?_, hs⟩
  unfold g__law_spread b__law_spread
  simp [r4, e]
theorem fmodb (a : Int) {n : Int} (h : 1 ≤ n) : 0 ≤ a.fmod n ∧ a.fmod n < n := ⟨Int.fmod_nonneg_of_pos a (by omega), Int.fmod_lt_of_pos a (by omega)⟩
theorem draw_ok {f : Nat} {ov : OV} {n : Int} (h : Pool (f + 1) ov) (hn : 1 ≤ n) (hb : n.natAbs < 2 ^ 9000) : ∃ (v : Int) (ov' : OV), r__law_draw ov [.int n] = some (.p (.int v), ov') ∧ Pool f ov' ∧ 0 ≤ v ∧ v < n := by
  obtain ⟨cs, i, c, t, s, rfl, ht, hf, hs, hs'⟩ := h
  have dn : divOk n = true := divOk_of (by omega) hb
  have d5 : divOk 5 = true := by decide
  have n0 : n ≠ 0 := by omega
  have hc : ∀ (i : Nat) (x : Option OV) (c : Int), 0 < c → ∃ (v : Int) (ov' : OV), (0 ≤ v ∧ v < n) ∧ Pool f ov' := fun i x c _ => ⟨0, poolV cs i c (t + 1) s, ⟨by omega, by omega⟩, cs, i, c, t + 1, s, rfl, by omega, by omega, hs, hs'⟩
  unfold r__law_draw b__law_draw
  by_cases h1 : c ≤ 0
  · by_cases h2 : i < cs.length
    · have e2 : (i : Int) < (cs.length : Int) := by omega
      have e3 : cs[i]? = some cs[i] := List.getElem?_eq_getElem h2
      by_cases h3 : cs[i] < 1000000000000000000
      · obtain ⟨v, ev, hv⟩ := spread_pos cs[i]
        have h4 : ¬ v ≤ 0 := by omega
        refine ⟨v.fmod n, poolV cs (i + 1) (v.fdiv n) (t + 1) s, ?_, ⟨cs, i + 1, _, t + 1, s, rfl, by omega, by omega, hs, hs'⟩, (fmodb v hn).1, (fmodb v hn).2⟩
        simp [poolV, h1, h2, h3, h4, e2, e3, ev, n0, dn]
      · have h4 : ¬ cs[i] ≤ 0 := by omega
        refine ⟨(cs[i]).fmod n, poolV cs (i + 1) ((cs[i]).fdiv n) (t + 1) s, ?_, ⟨cs, i + 1, _, t + 1, s, rfl, by omega, by omega, hs, hs'⟩, (fmodb _ hn).1, (fmodb _ hn).2⟩
        simp [poolV, h1, h2, h3, h4, e2, e3, n0, dn]
    · have e2 : ¬ (i : Int) < (cs.length : Int) := by omega
      have m1 : mulOk s 48271 = true := mulOk_of (a := 20) (b := 17) (by omega) (by decide)
      have m2 : mulOk (t + 1) 69621 = true := mulOk_of (a := 31) (b := 17) (by omega) (by decide)
      have m3 : mulOk ((s * 48271 + (t + 1) * 69621 + 1).fmod 2147483647) 16807 = true := by
        have := fmodb (s * 48271 + (t + 1) * 69621 + 1) (n := 2147483647) (by decide)
        exact mulOk_of (a := 31) (b := 17) (by omega) (by decide)
      refine ⟨(((((s * 48271 + (t + 1) * 69621 + 1).fmod 2147483647) * 16807 + (t + 1)).fmod 2147483629).fdiv 5).fmod n, poolV cs i c (t + 1) s, ?_, ⟨cs, i, c, t + 1, s, rfl, by omega, by omega, hs, hs'⟩, (fmodb _ hn).1, (fmodb _ hn).2⟩
      simp [poolV, h1, h2, e2, n0, dn, m1, m2, m3, d5]
  · have h4 : ¬ c ≤ 0 := h1
    refine ⟨c.fmod n, poolV cs i (c.fdiv n) (t + 1) s, ?_, ⟨cs, i, _, t + 1, s, rfl, by omega, by omega, hs, hs'⟩, (fmodb c hn).1, (fmodb c hn).2⟩
    simp [poolV, h1, n0, dn]
theorem salt_b (ns : List Int) : 0 ≤ saltOf ns ∧ saltOf ns < 1000003 := by
  unfold saltOf
  have h : ∀ (l : List Int) (s : Int), 0 ≤ s ∧ s < 1000003 → 0 ≤ l.foldl (fun salt cell => (salt * 31 + cell).fmod 1000003) s ∧ l.foldl (fun salt cell => (salt * 31 + cell).fmod 1000003) s < 1000003 := by
    intro l
    induction l with
    | nil => exact fun s h => h
    | cons c l ih => exact fun s _ => ih _ (fmodb _ (by decide))
  exact h ns 7 (by decide)
end My

set_option Elab.async false
set_option linter.all false
set_option maxRecDepth 100000
set_option maxHeartbeats 4000000
set_option exponentiation.threshold 100000
namespace My
open PySem PySem.Spec
open PyProof.Rows hiding St
open L2 L3
theorem same_refl : ∀ (k : Nat) (x : PV), Pl k x → gN__law_same (k + 1) [x, x] = some (.p (.bool true)) := by
  have base : ∀ (k : Nat) (x : PV), Pl0 x → gN__law_same (k + 1) [x, x] = some (.p (.bool true)) := by
    intro k x h
    rcases h with rfl | ⟨b, rfl⟩ | ⟨i, rfl⟩
    · simp [gN__law_same, b__law_same]
    · simp [gN__law_same, b__law_same]
    · simp [gN__law_same, b__law_same]
  intro k
  induction k with
  | zero => exact fun x h => base 0 x h
  | succ k ih =>
    intro x h
    rcases h with h | ⟨l, h, hl, hy⟩
    · exact base _ x h
    · have hc : ∀ y : PV, ∀ its : List PV, (∀ q, fIx y (.int q) = atP its q) → (its = l) →
        lcLoop (pO 3) [2] (.nm 2) (mNot (mTr (mCall 2 (gN__law_same (k + 1)) (mCons (mOp fIx (mVar (pO 3) 0) (mVar (pO 3) 2)) (mCons (mOp fIx (mVar (pO 3) 1) (mVar (pO 3) 2)) (L3.ret [])))))) (mVar (pO 3) 2) (rangeP 0 l.length) [] [some y, some y, none] = some ([], [some y, some y, none]) := by
        intro y its hi rfl
        rw [lcLoop_pure (s0 := [some y, some y, none]) (fun _ => false) (fun p => p)]
        · simp
        · intro p hp
          obtain ⟨i, hi2, rfl⟩ := rng_mem hp
          have e := List.getElem?_eq_getElem hi2
          refine ⟨[some y, some y, some (.int (0 + (i : Int)))], by simp, ?_, by simp, rfl⟩
          have e3 := ih its[i] (hy _ (List.getElem_mem hi2))
          simp [hi, e, e3]
      rcases h with rfl | rfl
      · have e := hc (.tuple l) l (fun q => rfl) rfl
        unfold gN__law_same b__law_same
        simp [rng_nat hl, hl, e]
      · have e := hc (.list l) l (fun q => rfl) rfl
        unfold gN__law_same b__law_same
        simp [rng_nat hl, hl, e]
theorem same_ok {k : Nat} {x : PV} (h : Pl k x) (hk : k ≤ 7 := by decide) : g__law_same [x, x] = some (.p (.bool true)) := same_refl 7 x (h.mono hk)
end My

set_option Elab.async false
set_option linter.all false
set_option maxRecDepth 100000
set_option maxHeartbeats 4000000
set_option exponentiation.threshold 100000
namespace My
open PySem PySem.Spec
open PyProof.Rows hiding St
open L2 L3
/-! ### tastes -/
abbrev rowT (r : List Int) : PV := .tuple (r.map PyData.int)
def Row (goods : Nat) (least most : Int) (r : List Int) : Prop := r.length = goods ∧ (0 < goods → 0 < r.sum) ∧ ∀ n ∈ r, (least ≤ n ∧ n < least + most) ∨ n = 1
def Rows (people goods : Nat) (least most : Int) (rs : List (List Int)) : Prop := rs.length = people ∧ ∀ r ∈ rs, Row goods least most r
theorem ints_of {vs : List PV} {Q : Int → Prop} (h : ∀ v ∈ vs, ∃ n : Int, v = .int n ∧ Q n) : ∃ ns : List Int, vs = ns.map PyData.int ∧ ∀ n ∈ ns, Q n := by
  induction vs with
  | nil => exact ⟨[], rfl, by simp⟩
  | cons v vs ih =>
    obtain ⟨n, e, q⟩ := h v (by simp)
    obtain ⟨ns, e2, q2⟩ := ih fun w hw => h w (by simp [hw])
    refine ⟨n :: ns, by simp [e, e2], ?_⟩
    intro m hm
    simp only [List.mem_cons] at hm
    rcases hm with rfl | hm
    · exact q
    · exact q2 m hm
theorem mem_lc {l vs : List PV} {P : PV → PV → Prop} (hl : vs.length = l.length) (h : ∀ (i : Nat) (p v : PV), l[i]? = some p → vs[i]? = some v → P p v) : ∀ v ∈ vs, ∃ p ∈ l, P p v := by
  intro v hv
  obtain ⟨i, hi, rfl⟩ := List.getElem_of_mem hv
  exact ⟨l[i]'(hl ▸ hi), List.getElem_mem _, h i _ _ (List.getElem?_eq_getElem _) (List.getElem?_eq_getElem hi)⟩
theorem flat_rep (goods : Nat) : (List.replicate goods [PyData.int 1]).flatten = (List.replicate goods (1 : Int)).map PyData.int := by
  induction goods with
  | zero => rfl
  | succ n ih => simp [List.replicate_succ, ih]
theorem sum_rep (n : Nat) : (List.replicate n (1 : Int)).sum = n := by simp
end My

set_option Elab.async false
set_option linter.all false
set_option maxRecDepth 100000
namespace L8
open PySem PySem.Spec
open PyProof.Rows hiding St
open L2 L3 L5 L6 L7
/-! ### pure mirrors as readings of the slots -/
abbrev Q (α : Type) := PE0 → Option α
section
variable {α β : Type}
def lE (q : Q α) : M PE0 α := fun s => (q s).map fun a => (a, s)
def qRet (a : α) : Q α := fun _ => some a
def qVar (i : Nat) : Q PV := fun s => (s[i]?).join
def qOp (F : PV → PV → Option PV) (a b : Q PV) : Q PV := fun s => (a s).bind fun x => (b s).bind fun y => F x y
def qUn (F : PV → Option PV) (a : Q PV) : Q PV := fun s => (a s).bind F
def qF1 (F : α → Option β) (a : Q α) : Q β := fun s => (a s).bind F
def qCons (a : Q PV) (b : Q (List PV)) : Q (List PV) := fun s => (a s).bind fun x => (b s).bind fun l => some (x :: l)
def qStar (a : Q PV) (b : Q (List PV)) : Q (List PV) := fun s => (a s).bind fun x => (items x).bind fun l => (b s).bind fun l2 => some (l ++ l2)
def oAnd (x : Bool) (r : Option Bool) : Option Bool := if x = true then r else some false
def oOr (x : Bool) (r : Option Bool) : Option Bool := if x = true then some true else r
def oIf (x : Bool) (r t : Option α) : Option α := if x = true then r else t
def oAV (x : PV) (c : Bool) (r : Option PV) : Option PV := if c = true then r else some x
def oOV (x : PV) (c : Bool) (r : Option PV) : Option PV := if c = true then some x else r
def qNot (a : Q Bool) : Q Bool := fun s => (a s).bind fun x => some (!x)
def qAnd (a b : Q Bool) : Q Bool := fun s => (a s).bind fun x => oAnd x (b s)
def qOr (a b : Q Bool) : Q Bool := fun s => (a s).bind fun x => oOr x (b s)
def qIf (c : Q Bool) (a b : Q α) : Q α := fun s => (c s).bind fun x => oIf x (a s) (b s)
def qAndV (a b : Q PV) : Q PV := fun s => (a s).bind fun x => (truthP x).bind fun c => oAV x c (b s)
def qOrV (a b : Q PV) : Q PV := fun s => (a s).bind fun x => (truthP x).bind fun c => oOV x c (b s)
def oCh (z : PV) (r : Option PV) : Option PV := match z with
  | .bool true => r
  | .bool false => some (.bool false)
  | _ => none
def qChain (F F' : PV → PV → Option PV) (a b c : Q PV) : Q PV := fun s => (a s).bind fun x => (b s).bind fun y => (F x y).bind fun z => oCh z ((c s).bind fun w => F' y w)
def qSl (a : Q PV) (l h : Q (Option Int)) : Q PV := fun s => (a s).bind fun x => (l s).bind fun lo => (h s).bind fun hi => fSl x lo hi
def qOp2 (F : PV → PV → Option α) (a b : Q PV) : Q α := fun s => (a s).bind fun x => (b s).bind fun y => F x y
def qCall (n : Nat) (g : List PV → Option OV) (a : Q (List PV)) : Q PV := fun s => (a s).bind fun l => if l.length = n then (g l).map toPV else none
/-! lists -/
def qmap (f : α → Option β) : List α → Option (List β)
  | [] => some []
  | a :: l => (f a).bind fun b => (qmap f l).bind fun r => some (b :: r)
def qfil (f : α → Option Bool) : List α → Option (List α)
  | [] => some []
  | a :: l => (f a).bind fun b => (qfil f l).bind fun r => some (if b = true then a :: r else r)
def qall (t f : α → Option Bool) : List α → Option Bool
  | [] => some true
  | a :: l => (t a).bind fun b => if b = true then (f a).bind fun c => oAnd c (qall t f l) else qall t f l
def qany (t f : α → Option Bool) : List α → Option Bool
  | [] => some false
  | a :: l => (t a).bind fun b => if b = true then (f a).bind fun c => oOr c (qany t f l) else qany t f l
def asB : PV → Option Bool
  | .bool b => some b
  | _ => none
@[simp] theorem asB_b (b : Bool) : asB (.bool b) = some b := rfl
/-- the slots at an item -/
def clrQ (s : PE0) (own : List Nat) : PE0 := own.foldr (fun i s => s.set i none) s
def qLcC (n : Nat) (own : List Nat) (tg : Tg) (mi : Q (List PV)) (mt : Q Bool) (me : Q PV) : Q (List PV) := fun s => (mi s).bind fun l => if l.length ≤ LIM then (qfil (fun p => (setT (pO n) tg p (clrQ s own)).bind mt) l).bind fun l' => qmap (fun p => (setT (pO n) tg p (clrQ s own)).bind me) l' else none
def qGen (n : Nat) (stop : Bool) (own : List Nat) (tg : Tg) (mi : Q (List PV)) (mt : Q Bool) (me : Q PV) : Q PV := fun s => (mi s).bind fun l =>
  ((if stop = true then qany else qall) (fun p => (setT (pO n) tg p (clrQ s own)).bind mt) (fun p => ((setT (pO n) tg p (clrQ s own)).bind me).bind asB) l).map PyData.bool
/-! ### the mirrors are such readings -/
@[simp] theorem lE_ret (a : α) : (L3.ret a : M PE0 α) = lE (qRet a) := rfl
@[simp] theorem lE_var (n i : Nat) : mVar (pO n) i = lE (qVar i) := by
  funext s
  unfold mVar lE qVar
  rcases h : s[i]? with _ | _ | v <;> simp [h]
theorem lE_bnd (q : Q α) (k : α → Q β) : bnd (lE q) (fun x => lE (k x)) = lE fun s => (q s).bind fun x => k x s := by
  funext s
  unfold bnd lE
  rcases h : q s with _ | a <;> simp [h]
theorem lE_lft (r : Option α) : (lft r : M PE0 α) = lE fun _ => r := by
  funext s
  unfold lft lE
  cases r <;> rfl
@[simp] theorem lE_op (F : PV → PV → Option PV) (a b : Q PV) : mOp F (lE a) (lE b) = lE (qOp F a b) := by unfold mOp; simp only [lE_lft, lE_bnd]; rfl
@[simp] theorem lE_un (F : PV → Option PV) (a : Q PV) : mUn F (lE a) = lE (qUn F a) := by unfold mUn; simp only [lE_lft, lE_bnd]; rfl
@[simp] theorem lE_cl (F : List PV → Option PV) (a : Q (List PV)) : mCl F (lE a) = lE (qF1 F a) := by unfold mCl; simp only [lE_lft, lE_bnd]; rfl
@[simp] theorem lE_cons (a : Q PV) (b : Q (List PV)) : mCons (lE a) (lE b) = lE (qCons a b) := by unfold mCons; simp only [lE_ret, lE_bnd]; rfl
@[simp] theorem lE_star (a : Q PV) (b : Q (List PV)) : mStar (lE a) (lE b) = lE (qStar a b) := by unfold mStar; simp only [lE_ret, lE_lft, lE_bnd]; rfl
@[simp] theorem lE_tr (a : Q PV) : mTr (lE a) = lE (qF1 truthP a) := by unfold mTr; simp only [lE_lft, lE_bnd]; rfl
@[simp] theorem lE_not (a : Q Bool) : mNot (lE a) = lE (qNot a) := by unfold mNot; simp only [lE_ret, lE_bnd]; rfl
@[simp] theorem lE_and (a b : Q Bool) : mAnd (lE a) (lE b) = lE (qAnd a b) := by
  funext s
  unfold mAnd bnd lE qAnd oAnd
  rcases a s with _ | _ | _ <;> simp
@[simp] theorem lE_or (a b : Q Bool) : mOr (lE a) (lE b) = lE (qOr a b) := by
  funext s
  unfold mOr bnd lE qOr oOr
  rcases a s with _ | _ | _ <;> simp
@[simp] theorem lE_if (c : Q Bool) (a b : Q α) : mIf (lE c) (lE a) (lE b) = lE (qIf c a b) := by
  funext s
  unfold mIf bnd lE qIf oIf
  rcases c s with _ | _ | _ <;> simp
@[simp] theorem lE_andV (a b : Q PV) : mAndV (lE a) (lE b) = lE (qAndV a b) := by
  funext s
  unfold mAndV bnd lft lE qAndV oAV
  rcases a s with _ | v
  · simp
  · rcases h : truthP v with _ | _ | _ <;> simp [h]
@[simp] theorem lE_orV (a b : Q PV) : mOrV (lE a) (lE b) = lE (qOrV a b) := by
  funext s
  unfold mOrV bnd lft lE qOrV oOV
  rcases a s with _ | v
  · simp
  · rcases h : truthP v with _ | _ | _ <;> simp [h]
@[simp] theorem lE_ls (F : List PV → Option (List PV)) (a : Q (List PV)) : mLs F (lE a) = lE (qF1 F a) := by unfold mLs; simp only [lE_lft, lE_bnd]; rfl
@[simp] theorem lE_items (a : Q PV) : mItems (lE a) = lE (qF1 items a) := by unfold mItems; simp only [lE_lft, lE_bnd]; rfl
@[simp] theorem lE_part (a : Q PV) : mPart (lE a) = lE (qF1 asInt a) := by unfold mPart; simp only [lE_lft, lE_bnd]; rfl
@[simp] theorem lE_sl (a : Q PV) (l h : Q (Option Int)) : mSl (lE a) (lE l) (lE h) = lE (qSl a l h) := by unfold mSl; simp only [lE_lft, lE_bnd]; rfl
@[simp] theorem lE_opF (F : PV → PV → Option (List PV)) (a b : Q PV) : mOpF F (lE a) (lE b) = lE (qOp2 F a b) := by unfold mOpF; simp only [lE_lft, lE_bnd]; rfl
@[simp] theorem lE_call (n : Nat) (g : List PV → Option OV) (a : Q (List PV)) : mCall n g (lE a) = lE (qCall n g a) := by unfold mCall; simp only [lE_lft, lE_bnd]; rfl
@[simp] theorem lE_lv (a : Q (List PV)) : mLv (lE a) = lE (qF1 (fun l => some (PyData.list l)) a) := by unfold mLv; simp only [lE_ret, lE_bnd]; rfl
@[simp] theorem lE_tv (a : Q (List PV)) : mTv (lE a) = lE (qF1 (fun l => some (PyData.tuple l)) a) := by unfold mTv; simp only [lE_ret, lE_bnd]; rfl
@[simp] theorem lE_rg1 (a : Q PV) : mRg1 (lE a) = lE (qF1 fRg1 a) := by unfold mRg1; simp only [lE_lft, lE_bnd]; rfl
@[simp] theorem lE_rg2 (a b : Q PV) : mRg2 (lE a) (lE b) = lE (qOp2 fRg2 a b) := by unfold mRg2; simp only [lE_lft, lE_bnd]; rfl
@[simp] theorem lE_chain (F F' : PV → PV → Option PV) (a b c : Q PV) : mChain F F' (lE a) (lE b) (lE c) = lE (qChain F F' a b c) := by
  funext s
  cases ha : a s with
  | none => simp [mChain, bnd, lE, qChain, ha]
  | some x =>
    cases hb : b s with
    | none => simp [mChain, bnd, lE, qChain, ha, hb]
    | some y =>
      cases hF : F x y with
      | none => simp [mChain, bnd, lE, lft, qChain, ha, hb, hF]
      | some z =>
        cases z with
        | bool t =>
          cases t with
          | false => simp [mChain, bnd, lE, lft, qChain, ha, hb, hF, oCh, L3.ret, qRet]
          | true =>
            cases hc : c s with
            | none => simp [mChain, bnd, lE, lft, qChain, ha, hb, hF, hc, oCh]
            | some w => cases hF' : F' y w <;> simp [mChain, bnd, lE, lft, qChain, ha, hb, hF, hc, oCh, hF']
        | none => simp [mChain, bnd, lE, lft, qChain, ha, hb, hF, oCh]
        | int i => simp [mChain, bnd, lE, lft, qChain, ha, hb, hF, oCh]
        | str z => simp [mChain, bnd, lE, lft, qChain, ha, hb, hF, oCh]
        | tuple l => simp [mChain, bnd, lE, lft, qChain, ha, hb, hF, oCh]
        | list l => simp [mChain, bnd, lE, lft, qChain, ha, hb, hF, oCh]
        | dict l => simp [mChain, bnd, lE, lft, qChain, ha, hb, hF, oCh]
theorem clr_same {n : Nat} {own : List Nat} {tg : Tg} {p : PV} {s s1 : PE0} (hin : tgIn tg own = true) (h : setT (pO n) tg p (clrQ s own) = some s1) : clrQ s1 own = clrQ s own := by
  have key : ∀ (is : List Nat) (l : List PV) (t t1 : PE0), (∀ i ∈ is, i ∈ own) → setN (pO n) is l t = some t1 → clrQ t1 own = clrQ t own := by
    intro is
    induction is with
    | nil => intro l t t1 _ h
             cases l with
             | nil => cases h; rfl
             | cons a l => cases h
    | cons i is ih =>
      intro l t t1 hs h
      cases l with
      | nil => cases h
      | cons a l =>
        rw [setN_cons] at h
        split at h
        · rw [ih l _ t1 (fun j hj => hs j (List.mem_cons_of_mem _ hj)) h]
          have : ∀ (ow : List Nat) (t : PE0), i ∈ ow → clrQ (t.set i (some a)) ow = clrQ t ow := by
            intro ow
            induction ow with
            | nil => intro t h; cases h
            | cons j ow ih2 =>
              intro t h
              unfold clrQ
              simp only [List.foldr_cons]
              have e : ∀ (t : PE0) (ow : List Nat), (ow.foldr (fun i s => s.set i none) (t.set i (some a))).set i none = (ow.foldr (fun i s => s.set i none) t).set i none := by
                intro t ow
                induction ow with
                | nil => simp
                | cons k ow ih3 =>
                  simp only [List.foldr_cons]
                  by_cases hk : k = i
                  · subst hk; rw [ih3]
                  · rw [List.set_comm _ _ hk, ih3, ← List.set_comm _ _ hk]
              by_cases hj : j = i
              · subst hj; exact e t ow
              · have := ih2 t ((List.mem_cons.mp h).resolve_left (fun q => hj q.symm))
                unfold clrQ at this
                rw [this]
          exact this own t (hs i List.mem_cons_self)
        · cases h
  have cc : clrQ (clrQ s own) own = clrQ s own := by
    have : ∀ (ow : List Nat) (t : PE0), (∀ i ∈ ow, i ∈ own) → clrQ (clrQ t ow) own = clrQ t own := by
      intro ow
      induction ow with
      | nil => intro t _; rfl
      | cons i ow ih =>
        intro t hs
        show clrQ ((clrQ t ow).set i none) own = _
        have : ∀ (ow : List Nat) (t : PE0), i ∈ ow → clrQ (t.set i none) ow = clrQ t ow := by
          intro ow
          induction ow with
          | nil => intro t h; cases h
          | cons j ow ih2 =>
            intro t h
            unfold clrQ
            simp only [List.foldr_cons]
            have e : ∀ (t : PE0) (ow : List Nat), (ow.foldr (fun i s => s.set i none) (t.set i none)).set i none = (ow.foldr (fun i s => s.set i none) t).set i none := by
              intro t ow
              induction ow with
              | nil => simp
              | cons k ow ih3 =>
                simp only [List.foldr_cons]
                by_cases hk : k = i
                · subst hk; rw [ih3]
                · rw [List.set_comm _ _ hk, ih3, ← List.set_comm _ _ hk]
            by_cases hj : j = i
            · subst hj; exact e t ow
            · have := ih2 t ((List.mem_cons.mp h).resolve_left (fun q => hj q.symm))
              unfold clrQ at this
              rw [this]
        rw [this own _ (hs i List.mem_cons_self)]
        exact ih t fun j hj => hs j (List.mem_cons_of_mem _ hj)
    exact this own s fun _ h => h
  rw [← cc]
  unfold setT at h
  cases tg with
  | nm i =>
    have hi : i ∈ own := by simpa [tgIn] using hin
    simp only at h
    split at h
    · cases h
      exact key [i] [p] (clrQ s own) _ (fun j hj => by have := List.mem_singleton.mp hj; subst this; exact hi) (by rw [setN_cons, if_pos (by assumption)]; rfl)
    · cases h
  | tp is =>
    have hi : ∀ i ∈ is, i ∈ own := by simpa [tgIn] using hin
    cases p with
    | tuple l => exact key is l _ _ hi h
    | none => cases h
    | bool b => cases h
    | int b => cases h
    | str b => cases h
    | list b => cases h
    | dict b => cases h
end
end L8

set_option Elab.async false
set_option linter.all false
set_option maxRecDepth 100000
namespace L8
open PySem PySem.Spec
open PyProof.Rows hiding St
open L2 L3 L5 L6 L7
section
variable {n : Nat} {own : List Nat} {tg : Tg} {mt : Q Bool} {me : Q PV} {s : PE0}
theorem lc_loop (hin : tgIn tg own = true) : ∀ (l acc : List PV), lcLoop (pO n) own tg (lE mt) (lE me) l acc (clrQ s own) =
    ((qfil (fun p => (setT (pO n) tg p (clrQ s own)).bind mt) l).bind fun l' => qmap (fun p => (setT (pO n) tg p (clrQ s own)).bind me) l').map fun r => (acc ++ r, clrQ s own)
  | [], acc => by simp [lcLoop, qfil, qmap]
  | p :: l, acc => by
    unfold lcLoop qfil
    cases h1 : setT (pO n) tg p (clrQ s own) with
    | none => simp
    | some st1 =>
      have cs := clr_same hin h1
      simp only [lE, Option.bind_some]
      cases h2 : mt st1 with
      | none => simp [h2]
      | some b =>
        cases b with
        | false =>
          simp only [Option.map_some, Option.bind_some]
          show lcLoop (pO n) own tg (lE mt) (lE me) l acc (clrQ st1 own) = _
          rw [cs, lc_loop hin l acc]
          cases qfil (fun p => (setT (pO n) tg p (clrQ s own)).bind mt) l <;> simp
        | true =>
          simp only [Option.map_some, Option.bind_some]
          cases h3 : me st1 with
          | none =>
            simp only [Option.map_none]
            cases qfil (fun p => (setT (pO n) tg p (clrQ s own)).bind mt) l with
            | none => simp
            | some r => simp [qmap, h1, h3]
          | some v =>
            simp only [Option.map_some]
            show lcLoop (pO n) own tg (lE mt) (lE me) l (acc ++ [v]) (clrQ st1 own) = _
            rw [cs, lc_loop hin l (acc ++ [v])]
            cases qfil (fun p => (setT (pO n) tg p (clrQ s own)).bind mt) l with
            | none => simp
            | some r =>
              simp only [Option.bind_some, if_true, qmap, h1, h3]
              cases qmap (fun p => (setT (pO n) tg p (clrQ s own)).bind me) r <;> simp
theorem any_loop (hin : tgIn tg own = true) : ∀ (l : List PV), anyLoop (pO n) own tg (lE mt) (lE me) true l (clrQ s own) =
    (qany (fun p => (setT (pO n) tg p (clrQ s own)).bind mt) (fun p => ((setT (pO n) tg p (clrQ s own)).bind me).bind asB) l).map fun r => (r, clrQ s own)
  | [] => by simp [anyLoop, qany]
  | p :: l => by
    unfold anyLoop qany
    cases h1 : setT (pO n) tg p (clrQ s own) with
    | none => simp
    | some st1 =>
      have cs := clr_same hin h1
      simp only [lE, Option.bind_some]
      cases h2 : mt st1 with
      | none => simp
      | some b =>
        cases b with
        | false =>
          simp only [Option.map_some, Option.bind_some]
          show anyLoop (pO n) own tg (lE mt) (lE me) true l (clrQ st1 own) = _
          rw [cs, any_loop hin l]
          simp
        | true =>
          simp only [Option.map_some, Option.bind_some, if_true]
          cases h3 : me st1 with
          | none => simp
          | some v =>
            cases v with
            | bool c =>
              cases c with
              | true =>
                simp only [Option.map_some, Option.bind_some, asB_b, if_true, oOr]
                show some (true, clrQ st1 own) = _
                rw [cs]
              | false =>
                simp only [Option.map_some, Option.bind_some, asB_b, oOr]
                show anyLoop (pO n) own tg (lE mt) (lE me) true l (clrQ st1 own) = _
                rw [cs, any_loop hin l]
                simp
            | none => simp [asB]
            | int i => simp [asB]
            | str z => simp [asB]
            | tuple l => simp [asB]
            | list l => simp [asB]
            | dict l => simp [asB]
theorem all_loop (hin : tgIn tg own = true) : ∀ (l : List PV), anyLoop (pO n) own tg (lE mt) (lE me) false l (clrQ s own) =
    (qall (fun p => (setT (pO n) tg p (clrQ s own)).bind mt) (fun p => ((setT (pO n) tg p (clrQ s own)).bind me).bind asB) l).map fun r => (r, clrQ s own)
  | [] => by simp [anyLoop, qall]
  | p :: l => by
    unfold anyLoop qall
    cases h1 : setT (pO n) tg p (clrQ s own) with
    | none => simp
    | some st1 =>
      have cs := clr_same hin h1
      simp only [lE, Option.bind_some]
      cases h2 : mt st1 with
      | none => simp
      | some b =>
        cases b with
        | false =>
          simp only [Option.map_some, Option.bind_some]
          show anyLoop (pO n) own tg (lE mt) (lE me) false l (clrQ st1 own) = _
          rw [cs, all_loop hin l]
          simp
        | true =>
          simp only [Option.map_some, Option.bind_some, if_true]
          cases h3 : me st1 with
          | none => simp
          | some v =>
            cases v with
            | bool c =>
              cases c with
              | false =>
                simp only [Option.map_some, Option.bind_some, asB_b, if_true, oAnd]
                show some (false, clrQ st1 own) = _
                rw [cs]
                simp
              | true =>
                simp only [Option.map_some, Option.bind_some, asB_b, oAnd]
                show anyLoop (pO n) own tg (lE mt) (lE me) false l (clrQ st1 own) = _
                rw [cs, all_loop hin l]
                simp
            | none => simp [asB]
            | int i => simp [asB]
            | str z => simp [asB]
            | tuple l => simp [asB]
            | list l => simp [asB]
            | dict l => simp [asB]
end
section
variable {n : Nat} {own : List Nat} {tg : Tg} {mi : Q (List PV)} {mt : Q Bool} {me : Q PV}
@[simp] theorem lE_lcC (hw : (own.all fun i => decide (i < n)) = true) (hin : tgIn tg own = true) : mLcC (pO n) own tg (lE mi) (lE mt) (lE me) = lE (qLcC n own tg mi mt me) := by
  funext s
  have hw' : own.all (pO n).wr = true := hw
  unfold mLcC qLcC
  simp only [lE]
  cases h : mi s with
  | none => simp
  | some l =>
    simp only [Option.map_some, Option.bind_some]
    by_cases hl : l.length ≤ LIM
    · rw [if_pos ⟨hl, hw', hin⟩, if_pos hl]
      have this : lcLoop (pO n) own tg (lE mt) (lE me) l [] (List.foldr (fun i s => List.set s i none) s own) = _ := lc_loop (n := n) (mt := mt) (me := me) (s := s) hin l []
      rw [this]
      cases ((qfil (fun p => (setT (pO n) tg p (clrQ s own)).bind mt) l).bind fun l' => qmap (fun p => (setT (pO n) tg p (clrQ s own)).bind me) l') <;> simp
    · rw [if_neg fun z => hl z.1, if_neg hl]
      rfl
@[simp] theorem lE_any (hw : (own.all fun i => decide (i < n)) = true) (hin : tgIn tg own = true) : mAny true (pO n) own tg (lE mi) (lE mt) (lE me) = lE (qGen n true own tg mi mt me) := by
  funext s
  have hw' : own.all (pO n).wr = true := hw
  unfold mAny qGen
  simp only [lE]
  cases h : mi s with
  | none => simp
  | some l =>
    simp only [Option.map_some, Option.bind_some]
    rw [if_pos ⟨hw', hin⟩]
    have this : anyLoop (pO n) own tg (lE mt) (lE me) true l (List.foldr (fun i s => List.set s i none) s own) = _ := any_loop (n := n) (mt := mt) (me := me) (s := s) hin l
    rw [this]
    simp only [if_true]
    cases qany (fun p => (setT (pO n) tg p (clrQ s own)).bind mt) (fun p => ((setT (pO n) tg p (clrQ s own)).bind me).bind asB) l <;> simp
@[simp] theorem lE_all (hw : (own.all fun i => decide (i < n)) = true) (hin : tgIn tg own = true) : mAny false (pO n) own tg (lE mi) (lE mt) (lE me) = lE (qGen n false own tg mi mt me) := by
  funext s
  have hw' : own.all (pO n).wr = true := hw
  unfold mAny qGen
  simp only [lE]
  cases h : mi s with
  | none => simp
  | some l =>
    simp only [Option.map_some, Option.bind_some]
    rw [if_pos ⟨hw', hin⟩]
    have this : anyLoop (pO n) own tg (lE mt) (lE me) false l (List.foldr (fun i s => List.set s i none) s own) = _ := all_loop (n := n) (mt := mt) (me := me) (s := s) hin l
    rw [this]
    simp only [Bool.false_eq_true, if_false]
    cases qall (fun p => (setT (pO n) tg p (clrQ s own)).bind mt) (fun p => ((setT (pO n) tg p (clrQ s own)).bind me).bind asB) l <;> simp
@[simp] theorem lE_lc (hw : (own.all fun i => decide (i < n)) = true) (hin : tgIn tg own = true) : mLc (pO n) own tg (lE mi) (lE mt) (lE me) = lE (qF1 (fun l => some (PyData.list l)) (qLcC n own tg mi mt me)) := by
  unfold mLc
  rw [lE_lcC hw hin]
  simp only [lE_ret, lE_bnd]
  rfl
@[simp] theorem lE_tupG (hw : (own.all fun i => decide (i < n)) = true) (hin : tgIn tg own = true) : mTupG (pO n) own tg (lE mi) (lE mt) (lE me) = lE (qF1 (fun l => some (PyData.tuple l)) (qLcC n own tg mi mt me)) := by
  unfold mTupG
  rw [lE_lcC hw hin]
  simp only [lE_ret, lE_bnd]
  rfl
end
/-! two for -/
def qfm {α β : Type} (f : α → Option (List β)) : List α → Option (List β)
  | [] => some []
  | a :: l => (f a).bind fun b => (qfm f l).bind fun r => some (b ++ r)
def qLc2C (n : Nat) (own own1 : List Nat) (tg tg1 : Tg) (mi : Q (List PV)) (mt : Q Bool) (mi1 : Q (List PV)) (mt1 : Q Bool) (me : Q PV) : Q (List PV) := fun s => (mi s).bind fun l =>
  (qfil (fun p => (setT (pO n) tg p (clrQ s own)).bind mt) l).bind fun l' => (qfm (fun p => (setT (pO n) tg p (clrQ s own)).bind fun s1 => (mi1 s1).bind fun l1 =>
    (qfil (fun p => (setT (pO n) tg1 p (clrQ s1 own1)).bind mt1) l1).bind fun l1' => qmap (fun p => (setT (pO n) tg1 p (clrQ s1 own1)).bind me) l1') l')
section
variable {n : Nat} {own own1 : List Nat} {tg tg1 : Tg} {mi mi1 : Q (List PV)} {mt mt1 : Q Bool} {me : Q PV}
theorem clr_more {s : PE0} : ∀ {l : List Nat}, (∀ i ∈ l, i ∈ own) → clrQ (clrQ s l) own = clrQ s own := by
  have key : ∀ (i : Nat) (ow : List Nat) (t : PE0), i ∈ ow → clrQ (t.set i none) ow = clrQ t ow := by
    intro i ow
    induction ow with
    | nil => intro t h; cases h
    | cons j ow ih2 =>
      intro t h
      unfold clrQ
      simp only [List.foldr_cons]
      have e : ∀ (t : PE0) (ow : List Nat), (ow.foldr (fun i s => s.set i none) (t.set i none)).set i none = (ow.foldr (fun i s => s.set i none) t).set i none := by
        intro t ow
        induction ow with
        | nil => simp
        | cons k ow ih3 =>
          simp only [List.foldr_cons]
          by_cases hk : k = i
          · subst hk; rw [ih3]
          · rw [List.set_comm _ _ hk, ih3, ← List.set_comm _ _ hk]
      by_cases hj : j = i
      · subst hj; exact e t ow
      · have := ih2 t ((List.mem_cons.mp h).resolve_left (fun q => hj q.symm))
        unfold clrQ at this
        rw [this]
  intro l
  induction l with
  | nil => intro _; rfl
  | cons i l ih =>
    intro hs
    show clrQ ((clrQ s l).set i none) own = _
    rw [key i own _ (hs i List.mem_cons_self)]
    exact ih fun j hj => hs j (List.mem_cons_of_mem _ hj)
@[simp] theorem qfil_cons {α : Type} (f : α → Option Bool) (a : α) (l : List α) : qfil f (a :: l) = (f a).bind fun b => (qfil f l).bind fun r => some (if b = true then a :: r else r) := rfl
theorem qfm_cons {α β : Type} (f : α → Option (List β)) (a : α) (l : List α) : qfm f (a :: l) = (f a).bind fun b => (qfm f l).bind fun r => some (b ++ r) := rfl
/-- where the whole list is short enough the loops are the reading -/
theorem lc2_loop (hin : tgIn tg own = true) (hin1 : tgIn tg1 own1 = true) (hsub : ∀ i ∈ own1, i ∈ own) {s : PE0} : ∀ (l acc r : List PV),
    ((qfil (fun p => (setT (pO n) tg p (clrQ s own)).bind mt) l).bind fun l' => (qfm (fun p => (setT (pO n) tg p (clrQ s own)).bind fun s1 => (mi1 s1).bind fun l1 => if l1.length ≤ 1000 then
    (qfil (fun p => (setT (pO n) tg1 p (clrQ s1 own1)).bind mt1) l1).bind fun l1' => qmap (fun p => (setT (pO n) tg1 p (clrQ s1 own1)).bind me) l1' else none) l')) = some r → acc.length + r.length + 1000 ≤ LIM →
    lcLoop2 (pO n) own own1 tg tg1 (lE mt) (lE mi1) (lE mt1) (lE me) l acc (clrQ s own) = some (acc ++ r, clrQ s own)
  | [], acc, r, h, hl => by
    simp [qfil, qfm] at h
    subst h
    simp [lcLoop2]
  | p :: l, acc, r, h, hl => by
    rw [qfil_cons] at h
    unfold lcLoop2
    cases h1 : setT (pO n) tg p (clrQ s own) with
    | none => simp [h1] at h
    | some st1 =>
      have cs := clr_same hin h1
      simp only [h1, Option.bind_some] at h
      simp only [lE]
      cases h2 : mt st1 with
      | none => simp [h2] at h
      | some b =>
        simp only [h2, Option.bind_some] at h
        cases h4 : qfil (fun p => (setT (pO n) tg p (clrQ s own)).bind mt) l with
        | none => simp [h4] at h
        | some l' =>
          have ih := lc2_loop hin hin1 hsub (s := s) l
          simp only [h4, Option.bind_some] at h ih
          cases b with
          | false =>
            simp only [Bool.false_eq_true, if_false] at h
            simp only [Option.map_some]
            show lcLoop2 (pO n) own own1 tg tg1 (lE mt) (lE mi1) (lE mt1) (lE me) l acc (clrQ st1 own) = _
            rw [cs]
            exact ih acc r h hl
          | true =>
            simp only [if_true] at h
            rw [qfm_cons] at h
            simp only [h1, Option.bind_some] at h
            simp only [Option.map_some]
            cases h5 : mi1 st1 with
            | none => simp [h5] at h
            | some l1 =>
              simp only [h5, Option.bind_some] at h
              by_cases hk : l1.length ≤ 1000
              · rw [if_pos hk] at h
                simp only [Option.map_some]
                rw [if_pos (by omega)]
                have lp := lc_loop (n := n) (mt := mt1) (me := me) (s := st1) hin1 l1 acc
                cases h6 : (qfil (fun p => (setT (pO n) tg1 p (clrQ st1 own1)).bind mt1) l1).bind fun l1' => qmap (fun p => (setT (pO n) tg1 p (clrQ st1 own1)).bind me) l1' with
                | none => rw [h6] at h; simp at h
                | some r1 =>
                  rw [h6] at h lp
                  simp only [Option.bind_some] at h
                  have lp' : lcLoop (pO n) own1 tg1 (lE mt1) (lE me) l1 acc (List.foldr (fun i s => List.set s i none) st1 own1) = _ := lp
                  rw [lp']
                  simp only [Option.map_some]
                  show lcLoop2 (pO n) own own1 tg tg1 (lE mt) (lE mi1) (lE mt1) (lE me) l (acc ++ r1) (clrQ (clrQ st1 own1) own) = _
                  rw [clr_more hsub, cs]
                  cases h7 : qfm (fun p => (setT (pO n) tg p (clrQ s own)).bind fun s1 => (mi1 s1).bind fun l1 => if l1.length ≤ 1000 then
                      (qfil (fun p => (setT (pO n) tg1 p (clrQ s1 own1)).bind mt1) l1).bind fun l1' => qmap (fun p => (setT (pO n) tg1 p (clrQ s1 own1)).bind me) l1' else none) l' with
                  | none => rw [h7] at h; simp at h
                  | some r2 =>
                    rw [h7] at h
                    simp only [Option.bind_some, Option.some.injEq] at h
                    subst h
                    rw [List.length_append] at hl
                    rw [ih (acc ++ r1) r2 h7 (by rw [List.length_append]; omega), List.append_assoc]
              · rw [if_neg hk] at h
                simp at h
end
end L8

set_option Elab.async false
set_option linter.all false
set_option maxRecDepth 100000
namespace L8
open PySem PySem.Spec
open PyProof.Rows hiding St
open L2 L3 L5 L6 L7
/-! ### working the readings out -/
section
variable {α β γ : Type}
/-- an item at a place that is there -/
def nth [Inhabited α] (l : List α) (i : Nat) : α := (l[i]?).getD default
@[simp 1500] theorem get_nth [Inhabited α] {l : List α} {i : Nat} (h : i < l.length) : l[i]? = some (nth l i) := by
  unfold nth
  rw [List.getElem?_eq_getElem h]
  rfl
theorem nth_get [Inhabited α] {l : List α} {i : Nat} (h : i < l.length) : nth l i = l[i] := by
  unfold nth
  rw [List.getElem?_eq_getElem h]
  rfl
theorem nth_mem [Inhabited α] {l : List α} {i : Nat} (h : i < l.length) : nth l i ∈ l := by
  rw [nth_get h]
  exact List.getElem_mem h
@[simp] theorem nth_map [Inhabited α] [Inhabited β] (f : α → β) (l : List α) (i : Nat) (h : i < l.length) : nth (l.map f) i = f (nth l i) := by
  rw [nth_get h, nth_get (by simpa using h)]
  simp
@[simp] theorem nth_zero [Inhabited α] (a : α) (l : List α) : nth (a :: l) 0 = a := rfl
@[simp] theorem nth_succ [Inhabited α] (a : α) (l : List α) (i : Nat) : nth (a :: l) (i + 1) = nth l i := rfl
@[simp] theorem nth_range {n i : Nat} (h : i < n) : nth (List.range n) i = i := by
  rw [nth_get (by simpa using h)]
  simp
@[simp] theorem lE_ap (q : Q α) (s : PE0) : lE q s = lftK (q s) s := by unfold lE lftK; cases q s <;> rfl
@[simp] theorem ev_mPE (q : Q α) (s : Env0) : mP (lE q) s = lftK (q (persE s)) s := by simp [lftK]; cases q (persE s) <;> rfl
@[simp] theorem ev_mVTE (q : Q Bool) (s : Env0) : mVT (lE q) s = lftK (q (viewE s)) s := by simp [lftK]; cases q (viewE s) <;> rfl
def mvQ (r : Option PV) (s : Env0) : Option (PV × Env0) := match r with
  | none => none
  | some v => if lf v = true then some (v, s) else none
@[simp] theorem mvQ_some (v : PV) (s : Env0) : mvQ (some v) s = if lf v = true then some (v, s) else none := rfl
@[simp] theorem ev_mVE (q : Q PV) (s : Env0) : mV (lE q) s = mvQ (q (viewE s)) s := by simp [lftK, mvQ]; cases q (viewE s) <;> rfl
def mfQ (r : Option (List PV)) (s : Env0) : Option (OV × Env0) := match r with
  | none => none
  | some v => some (.l (v.map .p), s)
@[simp] theorem mfQ_some (v : List PV) (s : Env0) : mfQ (some v) s = some (.l (v.map .p), s) := rfl
@[simp] theorem ev_mFLPE (q : Q (List PV)) (s : Env0) : mFLP (lE q) s = mfQ (q (persE s)) s := by simp [lftK, mfQ]; cases q (persE s) <;> rfl
def mfV (r : Option (List PV)) (s : Env0) : Option (OV × Env0) := match r with
  | none => none
  | some v => if lfs v = true then some (.l (v.map .p), s) else none
@[simp] theorem mfV_some (v : List PV) (s : Env0) : mfV (some v) s = if lfs v = true then some (.l (v.map .p), s) else none := rfl
@[simp] theorem ev_mFLVE (q : Q (List PV)) (s : Env0) : mFLV (lE q) s = mfV (q (viewE s)) s := by unfold mFLV; simp [lftK, mfV]; cases q (viewE s) <;> rfl
@[simp] theorem q_ret (a : α) (s : PE0) : qRet a s = some a := rfl
@[simp] theorem q_var (i : Nat) (s : PE0) : qVar i s = (s[i]?).join := rfl
@[simp] theorem q_op (F : PV → PV → Option PV) (a b : Q PV) (s : PE0) : qOp F a b s = (a s).bind fun x => (b s).bind fun y => F x y := rfl
@[simp] theorem q_op2 (F : PV → PV → Option α) (a b : Q PV) (s : PE0) : qOp2 F a b s = (a s).bind fun x => (b s).bind fun y => F x y := rfl
@[simp] theorem q_un (F : PV → Option PV) (a : Q PV) (s : PE0) : qUn F a s = (a s).bind F := rfl
@[simp] theorem q_f1 (F : α → Option β) (a : Q α) (s : PE0) : qF1 F a s = (a s).bind F := rfl
@[simp] theorem q_cons (a : Q PV) (b : Q (List PV)) (s : PE0) : qCons a b s = (a s).bind fun x => (b s).bind fun l => some (x :: l) := rfl
@[simp] theorem q_star (a : Q PV) (b : Q (List PV)) (s : PE0) : qStar a b s = (a s).bind fun x => (items x).bind fun l => (b s).bind fun l2 => some (l ++ l2) := rfl
@[simp] theorem q_not (a : Q Bool) (s : PE0) : qNot a s = (a s).bind fun x => some (!x) := rfl
@[simp] theorem q_and (a b : Q Bool) (s : PE0) : qAnd a b s = (a s).bind fun x => oAnd x (b s) := rfl
@[simp] theorem q_or (a b : Q Bool) (s : PE0) : qOr a b s = (a s).bind fun x => oOr x (b s) := rfl
@[simp] theorem q_if (c : Q Bool) (a b : Q α) (s : PE0) : qIf c a b s = (c s).bind fun x => oIf x (a s) (b s) := rfl
@[simp] theorem q_andV (a b : Q PV) (s : PE0) : qAndV a b s = (a s).bind fun x => (truthP x).bind fun c => oAV x c (b s) := rfl
@[simp] theorem q_orV (a b : Q PV) (s : PE0) : qOrV a b s = (a s).bind fun x => (truthP x).bind fun c => oOV x c (b s) := rfl
@[simp] theorem q_chain (F F' : PV → PV → Option PV) (a b c : Q PV) (s : PE0) : qChain F F' a b c s = (a s).bind fun x => (b s).bind fun y => (F x y).bind fun z => oCh z ((c s).bind fun w => F' y w) := rfl
@[simp] theorem q_sl (a : Q PV) (l h : Q (Option Int)) (s : PE0) : qSl a l h s = (a s).bind fun x => (l s).bind fun lo => (h s).bind fun hi => fSl x lo hi := rfl
@[simp] theorem q_call (n : Nat) (g : List PV → Option OV) (a : Q (List PV)) (s : PE0) : qCall n g a s = (a s).bind fun l => if l.length = n then (g l).map toPV else none := rfl
@[simp] theorem q_lcC (n : Nat) (own : List Nat) (tg : Tg) (mi : Q (List PV)) (mt : Q Bool) (me : Q PV) (s : PE0) : qLcC n own tg mi mt me s = (mi s).bind fun l => if l.length ≤ LIM then (qfil (fun p => (setT (pO n) tg p (clrQ s own)).bind mt) l).bind fun l' => qmap (fun p => (setT (pO n) tg p (clrQ s own)).bind me) l' else none := rfl
@[simp] theorem q_any (n : Nat) (own : List Nat) (tg : Tg) (mi : Q (List PV)) (mt : Q Bool) (me : Q PV) (s : PE0) : qGen n true own tg mi mt me s = (mi s).bind fun l => (qany (fun p => (setT (pO n) tg p (clrQ s own)).bind mt) (fun p => ((setT (pO n) tg p (clrQ s own)).bind me).bind asB) l).map PyData.bool := rfl
@[simp] theorem q_all (n : Nat) (own : List Nat) (tg : Tg) (mi : Q (List PV)) (mt : Q Bool) (me : Q PV) (s : PE0) : qGen n false own tg mi mt me s = (mi s).bind fun l => (qall (fun p => (setT (pO n) tg p (clrQ s own)).bind mt) (fun p => ((setT (pO n) tg p (clrQ s own)).bind me).bind asB) l).map PyData.bool := rfl
@[simp] theorem clrQ_nil (s : PE0) : clrQ s [] = s := rfl
@[simp] theorem clrQ_cons (s : PE0) (i : Nat) (own : List Nat) : clrQ s (i :: own) = (clrQ s own).set i none := rfl
/-! truth values -/
@[simp] theorem oAnd_def (x : Bool) (r : Option Bool) : oAnd x r = if x = true then r else some false := rfl
@[simp] theorem oOr_def (x : Bool) (r : Option Bool) : oOr x r = if x = true then some true else r := rfl
@[simp] theorem oIf_def (x : Bool) (r t : Option α) : oIf x r t = if x = true then r else t := rfl
@[simp] theorem oAV_def (v : PV) (x : Bool) (r : Option PV) : oAV v x r = if x = true then r else some v := rfl
@[simp] theorem oOV_def (v : PV) (x : Bool) (r : Option PV) : oOV v x r = if x = true then some v else r := rfl
@[simp] theorem oCh_b (x : Bool) (r : Option PV) : oCh (.bool x) r = if x = true then r else some (.bool false) := by cases x <;> rfl
section
variable {p : Prop} [Decidable p]
@[simp high] theorem ite_andB (y : Bool) : (if p then some y else some false) = some (decide p && y) := by by_cases h : p <;> simp [h]
@[simp high] theorem ite_orB (y : Bool) : (if p then some true else some y) = some (decide p || y) := by by_cases h : p <;> simp [h]
@[simp high] theorem ite_andV (y : Bool) : (if p then some (PyData.bool y) else some (PyData.bool false)) = some (.bool (decide p && y)) := by by_cases h : p <;> simp [h]
@[simp high] theorem ite_orV (y : Bool) : (if p then some (PyData.bool true) else some (PyData.bool y)) = some (.bool (decide p || y)) := by by_cases h : p <;> simp [h]
@[simp high] theorem ite_andV2 [i2 : Decidable p] (y : Bool) : (if p then some (PyData.bool y) else some (PyData.bool (@decide p i2))) = some (.bool (decide p && y)) := by by_cases h : p <;> simp [h]
@[simp high] theorem ite_orV2 [i2 : Decidable p] (y : Bool) : (if p then some (PyData.bool (@decide p i2)) else some (PyData.bool y)) = some (.bool (decide p || y)) := by by_cases h : p <;> simp [h]
@[simp] theorem ite_bool (y z : Bool) : (if p then PyData.bool y else PyData.bool z) = PyData.bool (if p then y else z) := by by_cases h : p <;> simp [h]
@[simp] theorem ite_int (y z : Int) : (if p then PyData.int y else PyData.int z) = PyData.int (if p then y else z) := by by_cases h : p <;> simp [h]
@[simp] theorem ite_andD [i2 : Decidable p] (y : Bool) : (if p then y else @decide p i2) = (decide p && y) := by by_cases h : p <;> simp [h]
@[simp] theorem ite_orD [i2 : Decidable p] (y : Bool) : (if p then @decide p i2 else y) = (decide p || y) := by by_cases h : p <;> simp [h]
@[simp low] theorem ite_someA (x y : PV) : (if p then some x else some y) = some (if p then x else y) := by by_cases h : p <;> simp [h]
@[simp low] theorem ite_someB (x y : Bool) : (if p then some x else some y) = some (if p then x else y) := by by_cases h : p <;> simp [h]
@[simp] theorem sqK_ite (a b : Option (Fl × Env0)) (k : SM) : sqK (if p then a else b) k = if p then sqK a k else sqK b k := by split <;> rfl
@[simp] theorem bndK_ite {S : Type} (a b : Option (α × S)) (k : α → M S β) : bndK (if p then a else b) k = if p then bndK a k else bndK b k := by split <;> rfl
@[simp] theorem runK_ite (a b : Option (Fl × Env0)) : runK (if p then a else b) = if p then runK a else runK b := by split <;> rfl
@[simp] theorem sqK_none (k : SM) : sqK none k = none := rfl
@[simp] theorem runK_none : runK none = none := rfl
end
/-! lists; In is what a turn knows of its item -/
def In (a : α) (l : List α) : Prop := a ∈ l
noncomputable instance (a : α) (l : List α) : Decidable (In a l) := Classical.propDecidable _
theorem in_mem {a : α} {l : List α} (h : In a l) : a ∈ l := h
theorem lt_rng {a m : Nat} (h : In a (List.range m)) : a < m := List.mem_range.mp h
@[simp] theorem qmap_nil (f : α → Option β) : qmap f [] = some [] := rfl
@[simp] theorem qmap_cons (f : α → Option β) (a : α) (l : List α) : qmap f (a :: l) = (f a).bind fun b => (qmap f l).bind fun r => some (b :: r) := rfl
theorem qmap_congr {f g : α → Option β} {l : List α} (h : ∀ a, a ∈ l → f a = g a) : qmap f l = qmap g l := by
  induction l with
  | nil => rfl
  | cons a l ih => simp only [qmap_cons, h a List.mem_cons_self, ih fun b hb => h b (List.mem_cons_of_mem _ hb)]
theorem qmap_some (f : α → β) : ∀ l : List α, qmap (fun a => some (f a)) l = some (l.map f)
  | [] => rfl
  | a :: l => by simp only [qmap_cons, Option.bind_some, qmap_some f l, List.map_cons]
theorem qmap_mapE (f : β → Option γ) (e : α → β) : ∀ l : List α, qmap f (l.map e) = qmap (fun a => f (e a)) l
  | [] => rfl
  | a :: l => by simp only [List.map_cons, qmap_cons, qmap_mapE f e l]
def qmapI (f : α → Option β) (l : List α) : Option (List β) := qmap f l
def qmapF (P : α → Bool) (f : α → Option β) (l : List α) : Option (List β) := qmap f (l.filter P)
theorem in_pos {a : α} {l : List α} {x y : Option β} (h : a ∈ l) : (if In a l then x else y) = x := if_pos h
@[simp] theorem qmap_map (f : β → Option γ) (e : α → β) (l : List α) : qmap f (l.map e) = qmapI (fun a => if In a l then f (e a) else none) l := by
  rw [qmap_mapE]
  exact qmap_congr fun a h => (in_pos h).symm
@[simp low] theorem qmap_any (f : α → Option β) (l : List α) : qmap f l = qmapI (fun a => if In a l then f a else none) l := qmap_congr fun a h => (in_pos h).symm
@[simp high] theorem qmap_mapF (P : α → Bool) (f : β → Option γ) (e : α → β) (l : List α) : qmap f ((l.filter P).map e) = qmapF P (fun a => if In a l then f (e a) else none) l := by
  rw [qmap_mapE]
  exact qmap_congr fun a h => (in_pos (List.mem_filter.mp h).1).symm
@[simp high] theorem qmap_anyF (P : α → Bool) (f : α → Option β) (l : List α) : qmap f (l.filter P) = qmapF P (fun a => if In a l then f a else none) l := qmap_congr fun a h => (in_pos (List.mem_filter.mp h).1).symm
@[simp] theorem qmapI_some (f : α → β) (l : List α) : qmapI (fun a => if In a l then some (f a) else none) l = some (l.map f) := by
  rw [← qmap_some]
  exact qmap_congr fun a h => in_pos h
@[simp] theorem qmapF_some (P : α → Bool) (f : α → β) (l : List α) : qmapF P (fun a => if In a l then some (f a) else none) l = some ((l.filter P).map f) := by
  rw [← qmap_some]
  exact qmap_congr fun a h => in_pos (List.mem_filter.mp h).1
@[simp] theorem qfil_nil (f : α → Option Bool) : qfil f [] = some [] := rfl
theorem qfil_congr {f g : α → Option Bool} {l : List α} (h : ∀ a, a ∈ l → f a = g a) : qfil f l = qfil g l := by
  induction l with
  | nil => rfl
  | cons a l ih => simp only [qfil_cons, h a List.mem_cons_self, ih fun b hb => h b (List.mem_cons_of_mem _ hb)]
theorem qfil_mapE (f : β → Option Bool) (e : α → β) : ∀ l : List α, qfil f (l.map e) = (qfil (fun a => f (e a)) l).map (List.map e)
  | [] => rfl
  | a :: l => by
    simp only [List.map_cons, qfil_cons, qfil_mapE f e l]
    cases f (e a) with
    | none => rfl
    | some b =>
      simp only [Option.bind_some]
      cases qfil (fun a => f (e a)) l with
      | none => rfl
      | some r => cases b <;> rfl
theorem qfil_some (f : α → Bool) : ∀ l : List α, qfil (fun a => some (f a)) l = some (l.filter f)
  | [] => rfl
  | a :: l => by
    simp only [qfil_cons, Option.bind_some, qfil_some f l]
    cases h : f a <;> simp [h]
def qfilI (f : α → Option Bool) (l : List α) : Option (List α) := qfil f l
@[simp] theorem qfil_map (f : β → Option Bool) (e : α → β) (l : List α) : qfil f (l.map e) = (qfilI (fun a => if In a l then f (e a) else none) l).map (List.map e) := by
  rw [qfil_mapE]
  exact congrArg _ (qfil_congr fun a h => (in_pos h).symm)
@[simp low] theorem qfil_any (f : α → Option Bool) (l : List α) : qfil f l = qfilI (fun a => if In a l then f a else none) l := qfil_congr fun a h => (in_pos h).symm
@[simp] theorem qfilI_some (f : α → Bool) (l : List α) : qfilI (fun a => if In a l then some (f a) else none) l = some (l.filter f) := by
  rw [← qfil_some]
  exact qfil_congr fun a h => in_pos h
@[simp] theorem qall_nil (t f : α → Option Bool) : qall t f [] = some true := rfl
@[simp] theorem qall_cons (t f : α → Option Bool) (a : α) (l : List α) : qall t f (a :: l) = (t a).bind fun b => if b = true then (f a).bind fun c => oAnd c (qall t f l) else qall t f l := rfl
theorem qall_congr {t f t' f' : α → Option Bool} {l : List α} (h : ∀ a, a ∈ l → t a = t' a) (h2 : ∀ a, a ∈ l → f a = f' a) : qall t f l = qall t' f' l := by
  induction l with
  | nil => rfl
  | cons a l ih => simp only [qall_cons, h a List.mem_cons_self, h2 a List.mem_cons_self, ih (fun b hb => h b (List.mem_cons_of_mem _ hb)) fun b hb => h2 b (List.mem_cons_of_mem _ hb)]
theorem qall_mapE (t f : β → Option Bool) (e : α → β) : ∀ l : List α, qall t f (l.map e) = qall (fun a => t (e a)) (fun a => f (e a)) l
  | [] => rfl
  | a :: l => by simp only [List.map_cons, qall_cons, qall_mapE t f e l]
theorem qall_some (t f : α → Bool) : ∀ l : List α, qall (fun a => some (t a)) (fun a => some (f a)) l = some ((l.filter t).all f)
  | [] => rfl
  | a :: l => by
    simp only [qall_cons, Option.bind_some, qall_some t f l]
    cases h : t a <;> simp [h]
def qallI (t f : α → Option Bool) (l : List α) : Option Bool := qall t f l
@[simp] theorem qall_map (t f : β → Option Bool) (e : α → β) (l : List α) : qall t f (l.map e) = qallI (fun a => if In a l then t (e a) else none) (fun a => if In a l then f (e a) else none) l := by
  rw [qall_mapE]
  exact qall_congr (fun a h => (in_pos h).symm) fun a h => (in_pos h).symm
@[simp low] theorem qall_any (t f : α → Option Bool) (l : List α) : qall t f l = qallI (fun a => if In a l then t a else none) (fun a => if In a l then f a else none) l := qall_congr (fun a h => (in_pos h).symm) fun a h => (in_pos h).symm
@[simp] theorem qallI_some (t f : α → Bool) (l : List α) : qallI (fun a => if In a l then some (t a) else none) (fun a => if In a l then some (f a) else none) l = some ((l.filter t).all f) := by
  rw [← qall_some]
  exact qall_congr (fun a h => in_pos h) fun a h => in_pos h
@[simp] theorem qany_nil (t f : α → Option Bool) : qany t f [] = some false := rfl
@[simp] theorem qany_cons (t f : α → Option Bool) (a : α) (l : List α) : qany t f (a :: l) = (t a).bind fun b => if b = true then (f a).bind fun c => oOr c (qany t f l) else qany t f l := rfl
theorem qany_congr {t f t' f' : α → Option Bool} {l : List α} (h : ∀ a, a ∈ l → t a = t' a) (h2 : ∀ a, a ∈ l → f a = f' a) : qany t f l = qany t' f' l := by
  induction l with
  | nil => rfl
  | cons a l ih => simp only [qany_cons, h a List.mem_cons_self, h2 a List.mem_cons_self, ih (fun b hb => h b (List.mem_cons_of_mem _ hb)) fun b hb => h2 b (List.mem_cons_of_mem _ hb)]
theorem qany_mapE (t f : β → Option Bool) (e : α → β) : ∀ l : List α, qany t f (l.map e) = qany (fun a => t (e a)) (fun a => f (e a)) l
  | [] => rfl
  | a :: l => by simp only [List.map_cons, qany_cons, qany_mapE t f e l]
theorem qany_some (t f : α → Bool) : ∀ l : List α, qany (fun a => some (t a)) (fun a => some (f a)) l = some ((l.filter t).any f)
  | [] => rfl
  | a :: l => by
    simp only [qany_cons, Option.bind_some, qany_some t f l]
    cases h : t a <;> simp [h]
def qanyI (t f : α → Option Bool) (l : List α) : Option Bool := qany t f l
@[simp] theorem qany_map (t f : β → Option Bool) (e : α → β) (l : List α) : qany t f (l.map e) = qanyI (fun a => if In a l then t (e a) else none) (fun a => if In a l then f (e a) else none) l := by
  rw [qany_mapE]
  exact qany_congr (fun a h => (in_pos h).symm) fun a h => (in_pos h).symm
@[simp low] theorem qany_any (t f : α → Option Bool) (l : List α) : qany t f l = qanyI (fun a => if In a l then t a else none) (fun a => if In a l then f a else none) l := qany_congr (fun a h => (in_pos h).symm) fun a h => (in_pos h).symm
@[simp] theorem qanyI_some (t f : α → Bool) (l : List α) : qanyI (fun a => if In a l then some (t a) else none) (fun a => if In a l then some (f a) else none) l = some ((l.filter t).any f) := by
  rw [← qany_some]
  exact qany_congr (fun a h => in_pos h) fun a h => in_pos h
/-! .. where the list is known later -/
theorem qmapI_of (F : α → Option β) (l : List α) : qmapI (fun a => if In a l then F a else none) l = qmap F l := (qmap_any F l).symm
theorem qfilI_of (F : α → Option Bool) (l : List α) : qfilI (fun a => if In a l then F a else none) l = qfil F l := (qfil_any F l).symm
theorem qallI_of (t F : α → Option Bool) (l : List α) : qallI (fun a => if In a l then t a else none) (fun a => if In a l then F a else none) l = qall t F l := (qall_any t F l).symm
theorem qanyI_of (t F : α → Option Bool) (l : List α) : qanyI (fun a => if In a l then t a else none) (fun a => if In a l then F a else none) l = qany t F l := (qany_any t F l).symm
@[simp] theorem qmapI_nil (F : α → Option β) : qmapI F [] = some [] := rfl
@[simp] theorem qmapI_cons (F : α → Option β) (x : α) (l : List α) : qmapI (fun a => if In a (x :: l) then F a else none) (x :: l) = (F x).bind fun b => (qmap F l).bind fun r => some (b :: r) := qmapI_of F _
@[simp] theorem qmapI_map (F : β → Option γ) (e : α → β) (l : List α) : qmapI (fun a => if In a (l.map e) then F a else none) (l.map e) = qmapI (fun a => if In a l then F (e a) else none) l := by rw [qmapI_of, qmap_map]
@[simp high] theorem qmapI_mapF (P : α → Bool) (F : β → Option γ) (e : α → β) (l : List α) : qmapI (fun a => if In a ((l.filter P).map e) then F a else none) ((l.filter P).map e) = qmapF P (fun a => if In a l then F (e a) else none) l := by rw [qmapI_of, qmap_mapF]
@[simp high] theorem qmapI_fil (P : α → Bool) (F : α → Option β) (l : List α) : qmapI (fun a => if In a (l.filter P) then F a else none) (l.filter P) = qmapF P (fun a => if In a l then F a else none) l := by rw [qmapI_of, qmap_anyF]
@[simp] theorem qfilI_nil (F : α → Option Bool) : qfilI F [] = some [] := rfl
@[simp] theorem qfilI_cons (F : α → Option Bool) (x : α) (l : List α) : qfilI (fun a => if In a (x :: l) then F a else none) (x :: l) = (F x).bind fun b => (qfil F l).bind fun r => some (if b = true then x :: r else r) := qfilI_of F _
@[simp] theorem qfilI_map (F : β → Option Bool) (e : α → β) (l : List α) : qfilI (fun a => if In a (l.map e) then F a else none) (l.map e) = (qfilI (fun a => if In a l then F (e a) else none) l).map (List.map e) := by rw [qfilI_of, qfil_map]
@[simp] theorem qallI_nil (t F : α → Option Bool) : qallI t F [] = some true := rfl
@[simp] theorem qallI_cons (t F : α → Option Bool) (x : α) (l : List α) : qallI (fun a => if In a (x :: l) then t a else none) (fun a => if In a (x :: l) then F a else none) (x :: l) = (t x).bind fun b => if b = true then (F x).bind fun c => oAnd c (qall t F l) else qall t F l := qallI_of t F _
@[simp] theorem qallI_map (t F : β → Option Bool) (e : α → β) (l : List α) : qallI (fun a => if In a (l.map e) then t a else none) (fun a => if In a (l.map e) then F a else none) (l.map e) = qallI (fun a => if In a l then t (e a) else none) (fun a => if In a l then F (e a) else none) l := by rw [qallI_of, qall_map]
@[simp] theorem qanyI_nil (t F : α → Option Bool) : qanyI t F [] = some false := rfl
@[simp] theorem qanyI_cons (t F : α → Option Bool) (x : α) (l : List α) : qanyI (fun a => if In a (x :: l) then t a else none) (fun a => if In a (x :: l) then F a else none) (x :: l) = (t x).bind fun b => if b = true then (F x).bind fun c => oOr c (qany t F l) else qany t F l := qanyI_of t F _
@[simp] theorem qanyI_map (t F : β → Option Bool) (e : α → β) (l : List α) : qanyI (fun a => if In a (l.map e) then t a else none) (fun a => if In a (l.map e) then F a else none) (l.map e) = qanyI (fun a => if In a l then t (e a) else none) (fun a => if In a l then F (e a) else none) l := by rw [qanyI_of, qany_map]
@[simp] theorem fil_true (l : List α) : l.filter (fun _ => true) = l := by simp
@[simp] theorem all_true (l : List α) : (l.all fun _ => true) = true := by simp
@[simp] theorem any_false (l : List α) : (l.any fun _ => false) = false := by simp
@[simp] theorem v_lenL (l : List PV) : fLen [.list l] = some (.int l.length) := rfl
@[simp] theorem v_lenT (l : List PV) : fLen [.tuple l] = some (.int l.length) := rfl
@[simp] theorem v_int (i : Int) : fInt [.int i] = some (.int i) := rfl
@[simp] theorem zipIdx_len (l : List α) (i : Nat) : (l.zipIdx i).length = l.length := by simp
@[simp] theorem natc_inj (a b : Nat) : ((a : Int) = (b : Int)) = (a = b) := propext Int.ofNat_inj
@[simp] theorem toPVs_mapf (f : α → PV) (l : List α) : toPVs (l.map fun x => OV.p (f x)) = l.map f := toPVs_pc f l
/-! values of a kind -/
abbrev eI : Int → PV := PyData.int
abbrev eN (n : Nat) : PV := .int (n : Int)
@[simp] theorem ints_mapf (f : α → Int) : ∀ l : List α, intsP (l.map fun a => PyData.int (f a)) = some (l.map f)
  | [] => rfl
  | a :: l => by simp only [List.map_cons, intsP, ints_mapf f l, Option.map_some]
@[simp] theorem v_sumL (l : List PV) : fSum [.list l] = (intsP l).map fun ns => .int ns.sum := rfl
@[simp] theorem v_sumT2 (l : List PV) : fSum [.tuple l] = (intsP l).map fun ns => .int ns.sum := rfl
theorem range_map (n : Nat) : rangeP 0 n = (List.range n).map eN := by
  unfold rangeP eN
  simp
@[simp] theorem rg_nat1 {n : Nat} (h : n ≤ 100000) : fRange1 [.int (n : Int)] = some ((List.range n).map eN) := by rw [rng_nat h, range_map]
theorem rgl_int {i j : Int} (h1 : -100000 ≤ i) (h2 : i ≤ 100000) (h3 : -100000 ≤ j) (h4 : j ≤ 100000) (h5 : (j - i).toNat ≤ LIM) : fRg2 (.int i) (.int j) = some (rangeP i (j - i).toNat) := if_pos ⟨h1, h2, h3, h4, h5⟩
@[simp] theorem rgl_nat {n : Nat} (h : n ≤ 100000) : fRg1 (.int (n : Int)) = some ((List.range n).map eN) := by
  have := rgl_int (i := 0) (j := n) (by omega) (by omega) (by omega) (by omega) (by rw [LIM_eq]; omega)
  rw [← range_map]
  unfold fRg1
  simpa using this
@[simp] theorem enF_map (e : α → PV) : ∀ (l : List α) (i : Nat), enF i (l.map e) = (l.zipIdx i).map fun p => .tuple [eN p.2, e p.1]
  | [], i => rfl
  | a :: l, i => by simp only [List.map_cons, enF, enF_map e l (i + 1), List.zipIdx_cons]
@[simp] theorem en_mapT (e : α → PV) (l : List α) : fEnumA [.tuple (l.map e)] = some ((l.zipIdx).map fun p => .tuple [eN p.2, e p.1]) := by rw [v_enT, enF_map]
@[simp] theorem en_mapL (e : α → PV) (l : List α) : fEnumA [.list (l.map e)] = some ((l.zipIdx).map fun p => .tuple [eN p.2, e p.1]) := by rw [v_enL, enF_map]
theorem zip_map (e : α → PV) (e' : β → PV) : ∀ (l : List α) (m : List β), (l.map e).zipWith (fun x y => PyData.tuple [x, y]) (m.map e') = (l.zip m).map fun p => .tuple [e p.1, e' p.2]
  | [], m => by simp
  | a :: l, [] => by simp
  | a :: l, b :: m => by simp [zip_map e e' l m]
@[simp] theorem zip_mapT (e : α → PV) (e' : β → PV) (l : List α) (m : List β) : fZip [.tuple (l.map e), .tuple (m.map e')] = some ((l.zip m).map fun p => .tuple [e p.1, e' p.2]) := by
  rw [← zip_map]; rfl
@[simp] theorem zip_mapL (e : α → PV) (e' : β → PV) (l : List α) (m : List β) : fZip [.list (l.map e), .list (m.map e')] = some ((l.zip m).map fun p => .tuple [e p.1, e' p.2]) := by
  rw [← zip_map]; rfl
theorem nat_int (l : List Nat) : l.map eN = (l.map (Int.ofNat)).map PyData.int := by simp [eN]
/-- an item of a list of values of a kind -/
@[simp 1500] theorem at_map [Inhabited α] (e : α → PV) {l : List α} {i : Nat} (h : i < l.length) : (l.map e)[i]? = some (e (nth l i)) := by
  rw [List.getElem?_map, get_nth h]
  rfl
end
end L8

set_option Elab.async false
set_option linter.all false
set_option maxRecDepth 100000
namespace L8
open PySem PySem.Spec
open PyProof.Rows hiding St
open L2 L3 L5 L6 L7
section
variable {α β γ : Type}
@[simp] theorem qfm_nil (f : α → Option (List β)) : qfm f [] = some [] := rfl
theorem qfm_congr {f g : α → Option (List β)} {l : List α} (h : ∀ a, a ∈ l → f a = g a) : qfm f l = qfm g l := by
  induction l with
  | nil => rfl
  | cons a l ih => simp only [qfm_cons, h a List.mem_cons_self, ih fun b hb => h b (List.mem_cons_of_mem _ hb)]
theorem qfm_mapE (f : β → Option (List γ)) (e : α → β) : ∀ l : List α, qfm f (l.map e) = qfm (fun a => f (e a)) l
  | [] => rfl
  | a :: l => by simp only [List.map_cons, qfm_cons, qfm_mapE f e l]
theorem qfm_some (f : α → List β) : ∀ l : List α, qfm (fun a => some (f a)) l = some (l.flatMap f)
  | [] => rfl
  | a :: l => by simp only [qfm_cons, Option.bind_some, qfm_some f l, List.flatMap_cons]
def qfmI (f : α → Option (List β)) (l : List α) : Option (List β) := qfm f l
@[simp] theorem qfm_map (f : β → Option (List γ)) (e : α → β) (l : List α) : qfm f (l.map e) = qfmI (fun a => if In a l then f (e a) else none) l := by
  rw [qfm_mapE]
  exact qfm_congr fun a h => (in_pos h).symm
@[simp low] theorem qfm_any (f : α → Option (List β)) (l : List α) : qfm f l = qfmI (fun a => if In a l then f a else none) l := qfm_congr fun a h => (in_pos h).symm
@[simp] theorem qfmI_some (f : α → List β) (l : List α) : qfmI (fun a => if In a l then some (f a) else none) l = some (l.flatMap f) := by
  rw [← qfm_some]
  exact qfm_congr fun a h => in_pos h
@[simp] theorem qfmI_map (F : β → Option (List γ)) (e : α → β) (l : List α) : qfmI (fun a => if In a (l.map e) then F a else none) (l.map e) = qfmI (fun a => if In a l then F (e a) else none) l := by
  rw [show qfmI (fun a => if In a (l.map e) then F a else none) (l.map e) = qfm F (l.map e) from (qfm_any F _).symm, qfm_map]
/-- a reading that is known where it is short enough -/
def chk (r z : Option (List PV)) : Option (List PV) := match r with
  | some r => if r.length ≤ 99000 then some r else z
  | none => z
@[simp] theorem chk_some (r : List PV) (z : Option (List PV)) : chk (some r) z = if r.length ≤ 99000 then some r else z := rfl
def qLc2 (n : Nat) (own own1 : List Nat) (tg tg1 : Tg) (mi : Q (List PV)) (mt : Q Bool) (mi1 : Q (List PV)) (mt1 : Q Bool) (me : Q PV) : Q (List PV) := fun s => (mLc2C (pO n) own own1 tg tg1 (lE mi) (lE mt) (lE mi1) (lE mt1) (lE me) s).map fun p => p.1
def qLc2z (n : Nat) (own own1 : List Nat) (tg tg1 : Tg) (mi : Q (List PV)) (mt : Q Bool) (mi1 : Q (List PV)) (mt1 : Q Bool) (me : Q PV) : Q (List PV) := qLc2 n own own1 tg tg1 mi mt mi1 mt1 me
@[simp] theorem lE_lc2 (n : Nat) (own own1 : List Nat) (tg tg1 : Tg) (mi : Q (List PV)) (mt : Q Bool) (mi1 : Q (List PV)) (mt1 : Q Bool) (me : Q PV) : mLc2C (pO n) own own1 tg tg1 (lE mi) (lE mt) (lE mi1) (lE mt1) (lE me) = lE (qLc2 n own own1 tg tg1 mi mt mi1 mt1 me) := by
  funext s
  unfold qLc2
  rw [lE_ap]
  cases h : mLc2C (pO n) own own1 tg tg1 (lE mi) (lE mt) (lE mi1) (lE mt1) (lE me) s with
  | none => rfl
  | some r =>
    obtain ⟨l, s'⟩ := r
    have e : s' = s := by
      unfold mLc2C at h
      simp only [lE_ap] at h
      cases h1 : mi s with
      | none => rw [h1] at h; simp at h
      | some l0 =>
        rw [h1] at h
        simp only [lftK_some] at h
        split at h
        · split at h
          · cases h
          · simp only [leaveP, Option.some.injEq, Prod.mk.injEq] at h
            exact h.2.symm
        · cases h
    rw [e]
    rfl
@[simp] theorem q_lc2 {n : Nat} {own own1 : List Nat} {tg tg1 : Tg} {mi : Q (List PV)} {mt : Q Bool} {mi1 : Q (List PV)} {mt1 : Q Bool} {me : Q PV} {s : PE0} (hw : (own.all fun i => decide (i < n)) = true) (hin : tgIn tg own = true) (hw1 : (own1.all fun i => decide (i < n)) = true) (hin1 : tgIn tg1 own1 = true) (hsub : (own1.all fun i => own.contains i) = true) :
    qLc2 n own own1 tg tg1 mi mt mi1 mt1 me s = chk ((mi s).bind fun l => ((qfil (fun p => (setT (pO n) tg p (clrQ s own)).bind mt) l).bind fun l' => (qfm (fun p => (setT (pO n) tg p (clrQ s own)).bind fun s1 => (mi1 s1).bind fun l1 => if l1.length ≤ 1000 then
    (qfil (fun p => (setT (pO n) tg1 p (clrQ s1 own1)).bind mt1) l1).bind fun l1' => qmap (fun p => (setT (pO n) tg1 p (clrQ s1 own1)).bind me) l1' else none) l')))
      (qLc2z n own own1 tg tg1 mi mt mi1 mt1 me s) := by
  unfold chk qLc2z
  split
  · rename_i r hr
    split
    · rename_i hlen
      cases h1 : mi s with
      | none => rw [h1] at hr; simp at hr
      | some l =>
        rw [h1] at hr
        simp only [Option.bind_some] at hr
        have hsub' : ∀ i ∈ own1, i ∈ own := fun i h => by
          have := List.all_eq_true.mp hsub i h
          simpa using this
        have lp := lc2_loop (n := n) hin hin1 hsub' (s := s) l [] r hr (by rw [LIM_eq, List.length_nil]; omega)
        unfold qLc2 mLc2C
        simp only [lE_ap, h1, lftK_some]
        have hw' : own.all (pO n).wr = true := hw
        have hw1' : own1.all (pO n).wr = true := hw1
        rw [if_pos ⟨⟨hw', hin⟩, ⟨hw1', hin1⟩, hsub⟩]
        have lp' : lcLoop2 (pO n) own own1 tg tg1 (lE mt) (lE mi1) (lE mt1) (lE me) l [] (List.foldr (fun i s => List.set s i none) s own) = _ := lp
        rw [lp']
        rfl
    · rfl
  · rfl
end
/-! ### loops over values of a kind -/
section
variable {α β : Type} {o : Ops Env0} {tg : Tg} {body : SM}
/-- a loop whose turns carry a state on -/
theorem forL_fold (e : α → PV) (R : β → Env0 → Prop) (f : β → α → β) : ∀ (l : List α) (x : β) (s : Env0), (∀ a ∈ l, ∀ x s, R x s → ∃ s1 s2, setT o tg (e a) s = some s1 ∧ body s1 = some (.nx, s2) ∧ R (f x a) s2) → R x s →
    ∃ s', forL o tg body (l.map e) s = some (.nx, s') ∧ R (l.foldl f x) s'
  | [], x, s, h, hR => ⟨s, rfl, hR⟩
  | a :: l, x, s, h, hR => by
    obtain ⟨s1, s2, e1, e2, hR2⟩ := h a List.mem_cons_self x s hR
    obtain ⟨s', e3, hR3⟩ := forL_fold e R f l (f x a) s2 (fun b hb => h b (List.mem_cons_of_mem _ hb)) hR2
    refine ⟨s', ?_, hR3⟩
    rw [List.map_cons, forL_nx e1 e2]
    exact e3
/-- a loop that keeps a fact -/
theorem forL_keep (e : α → PV) (R : Env0 → Prop) : ∀ (l : List α) (s : Env0), (∀ a ∈ l, ∀ s, R s → ∃ s1 s2, setT o tg (e a) s = some s1 ∧ body s1 = some (.nx, s2) ∧ R s2) → R s →
    ∃ s', forL o tg body (l.map e) s = some (.nx, s') ∧ R s'
  | [], s, h, hR => ⟨s, rfl, hR⟩
  | a :: l, s, h, hR => by
    obtain ⟨s1, s2, e1, e2, hR2⟩ := h a List.mem_cons_self s hR
    obtain ⟨s', e3, hR3⟩ := forL_keep e R l s2 (fun b hb => h b (List.mem_cons_of_mem _ hb)) hR2
    refine ⟨s', ?_, hR3⟩
    rw [List.map_cons, forL_nx e1 e2]
    exact e3
theorem forL_keepP (R : Env0 → Prop) (l : List PV) (s : Env0) (h : ∀ a ∈ l, ∀ s, R s → ∃ s1 s2, setT o tg a s = some s1 ∧ body s1 = some (.nx, s2) ∧ R s2) (hR : R s) : ∃ s', forL o tg body l s = some (.nx, s') ∧ R s' := by
  have := forL_keep (o := o) (tg := tg) (body := body) (fun p : PV => p) R l s h hR
  simpa using this
/-- .. with a count of what is left -/
theorem forL_left (e : α → PV) (R : List α → Env0 → Prop) : ∀ (l : List α) (s : Env0), (∀ a l' s, R (a :: l') s → a ∈ l → ∃ s1 s2, setT o tg (e a) s = some s1 ∧ body s1 = some (.nx, s2) ∧ R l' s2) → R l s →
    ∃ s', forL o tg body (l.map e) s = some (.nx, s') ∧ R [] s'
  | [], s, h, hR => ⟨s, rfl, hR⟩
  | a :: l, s, h, hR => by
    obtain ⟨s1, s2, e1, e2, hR2⟩ := h a l s hR List.mem_cons_self
    obtain ⟨s', e3, hR3⟩ := forL_left e R l s2 (fun b l' s hR hb => h b l' s hR (List.mem_cons_of_mem _ hb)) hR2
    refine ⟨s', ?_, hR3⟩
    rw [List.map_cons, forL_nx e1 e2]
    exact e3
/-- a loop that ends at the first item with t -/
theorem forL_find (e : α → PV) (R : Env0 → Prop) (t : α → Bool) (v : OV) : ∀ (l : List α) (s : Env0), (∀ a ∈ l, ∀ s, R s → ∃ s1 s2, setT o tg (e a) s = some s1 ∧ body s1 = some (if t a = true then .rt v else .nx, s2) ∧ R s2) → R s →
    ∃ s', forL o tg body (l.map e) s = some (if l.any t = true then .rt v else .nx, s') ∧ R s'
  | [], s, h, hR => ⟨s, rfl, hR⟩
  | a :: l, s, h, hR => by
    obtain ⟨s1, s2, e1, e2, hR2⟩ := h a List.mem_cons_self s hR
    cases ht : t a with
    | true =>
      rw [ht] at e2
      refine ⟨s2, ?_, hR2⟩
      rw [List.map_cons, forL_rt e1 e2]
      simp [ht]
    | false =>
      rw [ht] at e2
      obtain ⟨s', e3, hR3⟩ := forL_find e R t v l s2 (fun b hb => h b (List.mem_cons_of_mem _ hb)) hR2
      refine ⟨s', ?_, hR3⟩
      rw [List.map_cons, forL_nx e1 e2, e3]
      simp [ht]
end
end L8

set_option Elab.async false
set_option linter.all false
set_option maxRecDepth 100000
namespace L8
open PySem PySem.Spec
open PyProof.Rows hiding St
open L2 L3 L5 L6 L7 L9
/-! ### min and sorted by a key, as readings -/
def asK : PV → Option (Int × Int)
  | .tuple [.int a, .int b] => some (a, b)
  | _ => none
@[simp] theorem asK_t (a b : Int) : asK (.tuple [.int a, .int b]) = some (a, b) := rfl
def qSortK (own : List Nat) (i : Nat) (mi : Q (List PV)) (mb : Q PV) : Q (List PV) := fun s => (mi s).bind fun l => if l.length ≤ LIM then (qmap (fun p => (mb ((clrQ s own).set i (some p))).bind asK) l).bind fun ks => if ks.Nodup then some (srtK .none ks l) else none else none
def qMinK (own : List Nat) (i : Nat) (mi : Q PV) (mb : Q PV) : Q PV := fun s => (mi s).bind fun x => (itsL x).bind fun l => if l ≠ [] then (qmap (fun p => (mb ((clrQ s own).set i (some p))).bind asK) l).bind fun ks => minOf l ks else none
section
variable {n : Nat} {own : List Nat} {i : Nat} {mi : Q (List PV)} {mv : Q PV} {mb : Q PV} {s : PE0}
theorem clrQ_setIn {s : PE0} {x : Option PV} (h : i ∈ own) : clrQ (s.set i x) own = clrQ s own := by
  have e : ∀ (t : PE0) (ow : List Nat), (ow.foldr (fun i s => s.set i none) (t.set i x)).set i none = (ow.foldr (fun i s => s.set i none) t).set i none := by
    intro t ow
    induction ow with
    | nil => simp
    | cons k ow ih =>
      simp only [List.foldr_cons]
      by_cases hk : k = i
      · subst hk; rw [ih]
      · rw [List.set_comm _ _ hk, ih, ← List.set_comm _ _ hk]
  induction own generalizing s with
  | nil => cases h
  | cons j ow ih =>
    by_cases hj : j = i
    · subst hj; exact e s ow
    · have hm : i ∈ ow := (List.mem_cons.mp h).resolve_left fun q => hj q.symm
      have := ih (s := s) hm
      unfold clrQ at this ⊢
      simp only [List.foldr_cons]
      rw [this]
theorem clrQ_idem {s : PE0} : ∀ {l : List Nat}, (∀ j ∈ l, j ∈ own) → clrQ (clrQ s l) own = clrQ s own
  | [], _ => rfl
  | j :: l, h => by
    show clrQ ((clrQ s l).set j none) own = _
    rw [clrQ_setIn (h j List.mem_cons_self)]
    exact clrQ_idem fun k hk => h k (List.mem_cons_of_mem _ hk)
theorem key_loop (hio : i ∈ own) : ∀ l : List PV, keyLoop (pO n) own i (lE mb) l (clrQ s own) = (qmap (fun p => (mb ((clrQ s own).set i (some p))).bind asK) l).map fun ks => (ks, clrQ s own)
  | [] => rfl
  | p :: l => by
    unfold keyLoop
    have e0 : (pO n).set (clrQ s own) i p = (clrQ s own).set i (some p) := rfl
    rw [e0, lE_ap, qmap_cons]
    have ec : (pO n).clr ((clrQ s own).set i (some p)) own = clrQ s own := by
      show clrQ ((clrQ s own).set i (some p)) own = _
      rw [clrQ_setIn hio]
      exact clrQ_idem fun _ h => h
    have ec2 : List.foldr (fun i s => List.set s i none) (List.set (clrQ s own) i (some p)) own = clrQ s own := ec
    cases h : mb ((clrQ s own).set i (some p)) with
    | none => simp
    | some v =>
      simp only [lftK_some, Option.bind_some]
      cases v with
      | tuple t =>
        match t with
        | [.int a, .int b] =>
          simp only [asK_t, Option.bind_some, ec, ec2, key_loop hio l]
          try rw [show keyLoop (pO n) own i (lE mb) l (List.foldr (fun i s => List.set s i none) (List.set (clrQ s own) i (some p)) own) = _ from (congrArg _ ec2).trans (key_loop hio l)]
          cases qmap (fun p => (mb ((clrQ s own).set i (some p))).bind asK) l <;> simp
        | [] => simp [asK]
        | [x] => cases x <;> simp [asK]
        | x :: y :: z :: t => cases x <;> cases y <;> simp [asK]
        | [.none, y] | [.bool _, y] | [.str _, y] | [.list _, y] | [.tuple _, y] | [.dict _, y] => simp [asK]
        | [.int a, .none] | [.int a, .bool _] | [.int a, .str _] | [.int a, .list _] | [.int a, .tuple _] | [.int a, .dict _] => simp [asK]
      | none => simp [asK]
      | bool b => simp [asK]
      | int b => simp [asK]
      | str b => simp [asK]
      | list b => simp [asK]
      | dict b => simp [asK]
@[simp] theorem lE_sortK (hw : (own.all fun j => decide (j < n)) = true) (hi : i < n) (hio : (own.contains i) = true) : mSortK (pO n) own i (lE mi) (lE mb) = lE (qSortK own i mi mb) := by
  funext s
  have hw' : own.all (pO n).wr = true := hw
  have hi' : (pO n).wr i = true := decide_eq_true hi
  have hio' : i ∈ own := by simpa using hio
  unfold mSortK qSortK
  rw [lE_ap, lE_ap]
  cases h : mi s with
  | none => rfl
  | some l =>
    simp only [lftK_some, Option.bind_some]
    by_cases hl : l.length ≤ LIM
    · rw [if_pos ⟨hl, hw', hi', hio'⟩, if_pos hl]
      have this : keyLoop (pO n) own i (lE mb) l ((pO n).clr s own) = _ := key_loop (n := n) (mb := mb) (s := s) hio' l
      rw [this]
      cases qmap (fun p => (mb ((clrQ s own).set i (some p))).bind asK) l with
      | none => rfl
      | some ks =>
        simp only [Option.map_some, Option.bind_some]
        by_cases hn : ks.Nodup
        · rw [if_pos hn, if_pos hn]; rfl
        · rw [if_neg hn, if_neg hn]; rfl
    · rw [if_neg (fun z => hl z.1), if_neg hl]; rfl
@[simp] theorem lE_minK (hw : (own.all fun j => decide (j < n)) = true) (hi : i < n) (hio : (own.contains i) = true) : mMinK (pO n) own i (lE mv) (lE mb) = lE (qMinK own i mv mb) := by
  funext s
  have hw' : own.all (pO n).wr = true := hw
  have hi' : (pO n).wr i = true := decide_eq_true hi
  have hio' : i ∈ own := by simpa using hio
  unfold mMinK qMinK
  rw [lE_ap, lE_ap]
  cases h : mv s with
  | none => rfl
  | some v =>
    simp only [lftK_some, Option.bind_some]
    cases v with
    | list l =>
      simp only [itsL, Option.bind_some]
      by_cases hl : l = []
      · subst hl; simp
      · rw [if_pos ⟨hl, hw', hi', hio'⟩, if_pos hl]
        have this : keyLoop (pO n) own i (lE mb) l ((pO n).clr s own) = _ := key_loop (n := n) (mb := mb) (s := s) hio' l
        rw [this]
        cases qmap (fun p => (mb ((clrQ s own).set i (some p))).bind asK) l with
        | none => rfl
        | some ks =>
          simp only [Option.map_some, Option.bind_some]
          cases minOf l ks with
          | none => rfl
          | some p => rfl
    | none => simp [itsL]
    | bool b => simp [itsL]
    | int b => simp [itsL]
    | str b => simp [itsL]
    | tuple b => simp [itsL]
    | dict b => simp [itsL]
@[simp] theorem lE_itL : mItL (lE mv) = lE (qF1 itsL mv) := by unfold mItL; simp only [lE_lft, lE_bnd]; rfl
@[simp] theorem itsL_l (l : List PV) : itsL (.list l) = some l := rfl
@[simp] theorem q_sortK (s : PE0) : qSortK own i mi mb s = (mi s).bind fun l => if l.length ≤ LIM then (qmap (fun p => (mb ((clrQ s own).set i (some p))).bind asK) l).bind fun ks => if ks.Nodup then some (srtK .none ks l) else none else none := rfl
@[simp] theorem q_minK (s : PE0) : qMinK own i mv mb s = (mv s).bind fun x => (itsL x).bind fun l => if l ≠ [] then (qmap (fun p => (mb ((clrQ s own).set i (some p))).bind asK) l).bind fun ks => minOf l ks else none := rfl
end
/-! keys that end in the item itself -/
theorem keyed_nodup {l : List Nat} (h : l.Nodup) (f : Nat → Int) : (l.map fun i => (f i, (i : Int))).Nodup := by
  unfold List.Nodup
  rw [List.pairwise_map]
  refine h.imp fun {a b} h e => h ?_
  have := congrArg Prod.snd e
  simpa using this
theorem srtK_keyed {l : List Nat} (h : l.Nodup) (f : Nat → Int) : srtK .none (l.map fun i => (f i, (i : Int))) (l.map eN) = (srtP (l.map fun i => (f i, (i : Int)))).map fun c => PyData.int c.2 := by
  unfold srtK
  refine List.map_congr_left fun c hc => ?_
  have hm := (srtP_perm _).mem_iff.mp hc
  obtain ⟨i, hi, rfl⟩ := List.mem_map.mp hm
  obtain ⟨j, hj⟩ := List.getElem?_of_mem hi
  have := lk_at (ks := l.map fun i => (f i, (i : Int))) (xs := l.map eN) (j := j) (c := (f i, (i : Int))) (x := eN i) (keyed_nodup h f) (by rw [List.getElem?_map, hj]; rfl) (by rw [List.getElem?_map, hj]; rfl)
  rw [this]
  rfl
@[simp] theorem keyed_rng (f : Nat → Int) (n : Nat) : ((List.range n).map fun i => (f i, (i : Int))).Nodup = True := eq_true (keyed_nodup List.nodup_range f)
@[simp] theorem srtK_rng (f : Nat → Int) (n : Nat) : srtK .none ((List.range n).map fun i => (f i, (i : Int))) ((List.range n).map eN) = (srtP ((List.range n).map fun i => (f i, (i : Int)))).map fun c => PyData.int c.2 := srtK_keyed List.nodup_range f
end L8

set_option Elab.async false
set_option linter.all false
set_option maxRecDepth 100000
namespace L3
open PySem PySem.Spec
open PyProof.Rows hiding St
open L2
/-! ### xs[k] += .., worked out -/
def agG (g : Option (List OV)) (z : PV) (j n i : Nat) (s : Env0) : Option (Fl × Env0) := match g with
  | some ys => if ys.length = n then some (.nx, s.set i (some (.l (ys.set j (.p z))))) else none
  | none => none
@[simp] theorem agG_some (ys : List OV) (z : PV) (j n i : Nat) (s : Env0) : agG (some ys) z j n i s = if ys.length = n then some (.nx, s.set i (some (.l (ys.set j (.p z))))) else none := rfl
def agE (r : Option PV) (j n i : Nat) (s : Env0) : Option (Fl × Env0) := match r with
  | some z => agG (lOf s[i]?) z j n i s
  | none => none
@[simp] theorem agE_some (z : PV) (j n i : Nat) (s : Env0) : agE (some z) j n i s = agG (lOf s[i]?) z j n i s := rfl
def agD (r : Option OV) (j n i : Nat) (F : PV → PV → Option PV) (m : M Env0 PV) (s : Env0) : Option (Fl × Env0) := match r with
  | some (.p old) => bndK (m s) fun y => (fun s2 => agE (F old y) j n i s2 : M Env0 Fl)
  | _ => none
@[simp] theorem agD_some (old : PV) (j n i : Nat) (F : PV → PV → Option PV) (m : M Env0 PV) (s : Env0) : agD (some (.p old)) j n i F m s = bndK (m s) fun y => (fun s2 => agE (F old y) j n i s2 : M Env0 Fl) := rfl
def agC (r : Option Nat) (xs : List OV) (i : Nat) (F : PV → PV → Option PV) (m : M Env0 PV) (s : Env0) : Option (Fl × Env0) := match r with
  | some j => agD xs[j]? j xs.length i F m s
  | none => none
@[simp] theorem agC_some (j : Nat) (xs : List OV) (i : Nat) (F : PV → PV → Option PV) (m : M Env0 PV) (s : Env0) : agC (some j) xs i F m s = agD xs[j]? j xs.length i F m s := rfl
def agB (g : Option (List OV)) (k : PV) (i : Nat) (F : PV → PV → Option PV) (m : M Env0 PV) (s : Env0) : Option (Fl × Env0) := match g with
  | some xs => agC (ixP xs.length k) xs i F m s
  | none => none
@[simp] theorem agB_some (xs : List OV) (k : PV) (i : Nat) (F : PV → PV → Option PV) (m : M Env0 PV) (s : Env0) : agB (some xs) k i F m s = agC (ixP xs.length k) xs i F m s := rfl
def agA (g : Option (List OV)) (i : Nat) (mk : M Env0 PV) (F : PV → PV → Option PV) (m : M Env0 PV) (s : Env0) : Option (Fl × Env0) := match g with
  | some _ => bndK (mk s) fun k => (fun s1 => agB (lOf s1[i]?) k i F m s1 : M Env0 Fl)
  | none => none
@[simp] theorem agA_some (xs : List OV) (i : Nat) (mk : M Env0 PV) (F : PV → PV → Option PV) (m : M Env0 PV) (s : Env0) : agA (some xs) i mk F m s = bndK (mk s) fun k => (fun s1 => agB (lOf s1[i]?) k i F m s1 : M Env0 Fl) := rfl
@[simp] theorem v_addI (a b : Int) : fAddI (.int a) (.int b) = some (.int (a + b)) := rfl
@[simp] theorem ev_sAugI (i : Nat) (mk : M Env0 PV) (F : PV → PV → Option PV) (m : M Env0 PV) (s : Env0) : sAugI i mk F m s = agA (lOf s[i]?) i mk F m s := by
  unfold sAugI agA
  simp only [ev_getL]
  cases h0 : lOf s[i]? with
  | none => rfl
  | some g =>
    simp only
    cases h1 : mk s with
    | none => rfl
    | some r =>
      obtain ⟨k, s1⟩ := r
      simp only [bndK]
      cases h2 : lOf s1[i]? with
      | none => rfl
      | some xs =>
        simp only [agB]
        cases h3 : ixP xs.length k with
        | none => rfl
        | some j =>
          simp only [agC]
          cases h4 : xs[j]? with
          | none => rfl
          | some old =>
            cases old with
            | l _ => rfl
            | p old =>
              simp only [agD]
              cases h5 : m s1 with
              | none => rfl
              | some q =>
                obtain ⟨y, s2⟩ := q
                simp only [bndK]
                cases h6 : F old y with
                | none => rfl
                | some z =>
                  simp only [agE]
                  cases h7 : lOf s2[i]? <;> rfl
@[simp] theorem lmul_rep (x : PV) {n : Nat} (h : n ≤ 1000) : lMul (.list [x]) (.int (n : Int)) = some (List.replicate n x) := by
  have e2 : ∀ n : Nat, (List.replicate n [x]).flatten = List.replicate n x := by
    intro n
    induction n with
    | zero => rfl
    | succ n ih => rw [List.replicate_succ, List.flatten_cons, ih, List.replicate_succ]; rfl
  unfold lMul
  simp only [LIM_eq, Int.toNat_natCast, e2]
  rw [if_pos ⟨by omega, by omega, by simp; omega⟩]
@[simp] theorem v_lListT (l : List PV) : lList [.tuple l] = some l := rfl
@[simp] theorem v_lListL (l : List PV) : lList [.list l] = some l := rfl
theorem lfs_of {α : Type} {f : α → PV} (h : ∀ a, lf (f a) = true) : ∀ l : List α, lfs (l.map f) = true
  | [] => by simp [lfs]
  | a :: l => by
    rw [List.map_cons]
    unfold lfs
    simp [h a, lfs_of h l]
@[simp] theorem lfs_ints (l : List Int) : lfs (l.map PyData.int) = true := lfs_of (fun _ => rfl) l
@[simp] theorem lfs_intF {α : Type} (f : α → Int) (l : List α) : lfs (l.map fun a => PyData.int (f a)) = true := lfs_of (fun _ => rfl) l
theorem eqvA_intZ : ∀ (xs ys : List Int), PyData.eqvAll (xs.map PyData.int) (ys.map PyData.int) = decide (xs = ys)
  | [], [] => by simp [PyData.eqvAll]
  | [], y :: ys => by simp [PyData.eqvAll]
  | x :: xs, [] => by simp [PyData.eqvAll]
  | x :: xs, y :: ys => by
    rw [List.map_cons, List.map_cons, eqvA_cons, eqv_int, eqvA_intZ xs ys, Bool.eq_iff_iff]
    simp
theorem shZ_tup (xs : List Int) : SeqAt.shaped (.tuple (xs.map PyData.int)) = true := shaped_of (k := 2) (shD_tup (shD_ints xs)) (by decide)
theorem shZ_lst (xs : List Int) : SeqAt.shaped (.list (xs.map PyData.int)) = true := shaped_of (k := 2) (shD_lst (shD_ints xs)) (by decide)
@[simp] theorem v_eqTI (xs ys : List Int) : fEq (.tuple (xs.map PyData.int)) (.tuple (ys.map PyData.int)) = some (.bool (decide (xs = ys))) := by rw [v_eq (shZ_tup xs) (shZ_tup ys), eqv_tup, eqvA_intZ]
@[simp] theorem v_neTI (xs ys : List Int) : fNe (.tuple (xs.map PyData.int)) (.tuple (ys.map PyData.int)) = some (.bool (!decide (xs = ys))) := by rw [v_ne (shZ_tup xs) (shZ_tup ys), eqv_tup, eqvA_intZ]
@[simp] theorem v_eqLI (xs ys : List Int) : fEq (.list (xs.map PyData.int)) (.list (ys.map PyData.int)) = some (.bool (decide (xs = ys))) := by rw [v_eq (shZ_lst xs) (shZ_lst ys), eqv_lst, eqvA_intZ]
@[simp] theorem v_neLI (xs ys : List Int) : fNe (.list (xs.map PyData.int)) (.list (ys.map PyData.int)) = some (.bool (!decide (xs = ys))) := by rw [v_ne (shZ_lst xs) (shZ_lst ys), eqv_lst, eqvA_intZ]
/-! sorted(pairs of ints) -/
@[simp] theorem v_sortPr {α : Type} (f : α → Int × Int) (l : List α) : L9.lSortA [.list (l.map fun a => PyData.tuple [.int (f a).1, .int (f a).2])] = some ((L9.srtP (l.map f)).map L9.prT) := by
  have e : (l.map fun a => PyData.tuple [.int (f a).1, .int (f a).2]) = (l.map f).map L9.prT := by rw [List.map_map]; rfl
  rw [e]
  cases l with
  | nil => simp [L9.lSortA, L9.intsP, L9.srt, L9.srtP]
  | cons a l =>
    unfold L9.lSortA
    have e2 : L9.intsP (((a :: l).map f).map L9.prT) = none := rfl
    simp only [e2, L9.pairsP_map, Option.map_some]
@[simp] theorem lfs_prT (l : List (Int × Int)) : lfs (l.map L9.prT) = true := lfs_of (fun _ => by simp [L9.prT, lf, lfs]) l
end L3

set_option Elab.async false
set_option linter.all false
set_option maxRecDepth 100000
set_option maxHeartbeats 4000000
namespace My
open PySem PySem.Spec
open PyProof.Rows hiding St
open L2 L3 L5 L6 L7 L8
/-! ### tastes and lots -/
theorem nat_of {i : Int} (h : 0 ≤ i) : ∃ n : Nat, i = n := ⟨i.toNat, by omega⟩
/-- drawn tastes -/
structure Ts (rs : List (List Int)) (m : Nat) : Prop where
  p1 : 1 ≤ rs.length
  p3 : rs.length ≤ 3
  m1 : 1 ≤ m
  m5 : m ≤ 5
  len : ∀ r ∈ rs, r.length = m
  pos : ∀ r ∈ rs, 0 < r.sum
  nn : ∀ r ∈ rs, ∀ n ∈ r, 0 ≤ n
  le : ∀ r ∈ rs, ∀ n ∈ r, n ≤ 30
abbrev natT (r : List Nat) : PV := .tuple (r.map eN)
abbrev rowsT (rs : List (List Int)) : PV := .tuple (rs.map rowT)
def worthF (r : List Int) (gs : List Nat) : Int := (gs.map fun g => nth r g).sum
def lotF (lots : List Nat) (p : Nat) : List Nat := (lots.zipIdx.filter fun q => decide (q.1 = p)).map (·.2)
/-- lots of m goods for n people -/
structure Lots (n m : Nat) (lots : List Nat) : Prop where
  len : lots.length = m
  lt : ∀ p ∈ lots, p < n
theorem lotF_lt {lots : List Nat} {p g : Nat} (h : g ∈ lotF lots p) : g < lots.length := by
  unfold lotF at h
  simp only [List.mem_map, List.mem_filter] at h
  obtain ⟨⟨a, i⟩, ⟨h1, _⟩, rfl⟩ := h
  exact (List.mem_zipIdx' h1).1
theorem lotF_len (lots : List Nat) (p : Nat) : (lotF lots p).length ≤ lots.length := by
  unfold lotF
  rw [List.length_map]
  exact Nat.le_trans (List.length_filter_le _ _) (by simp)
/-- what each lot is worth to a row -/
def wF (r : List Int) (lots : List Nat) (p : Nat) : Int := worthF r (lotF lots p)
theorem zipIdx_range {α : Type} [Inhabited α] (l : List α) : l.zipIdx = (List.range l.length).map fun i => (nth l i, i) := by
  apply List.ext_getElem
  · simp
  · intro i h1 h2
    have h3 : i < l.length := by simpa using h1
    simp [nth_get h3]
theorem lotF_eq (lots : List Nat) (p : Nat) : lotF lots p = (List.range lots.length).filter fun g => decide (nth lots g = p) := by
  unfold lotF
  rw [zipIdx_range, List.filter_map, List.map_map]
  simp [Function.comp_def]
def enviesF (rs : List (List Int)) (lots : List Nat) : List (Nat × Nat) := (List.range rs.length).flatMap fun i => ((List.range rs.length).filter fun j => decide (wF (nth rs i) lots i < wF (nth rs i) lots j)).map fun j => (i, j)
abbrev pairT (p : Nat × Nat) : PV := .tuple [eN p.1, eN p.2]
theorem flat_len {α β : Type} (f : α → List β) (k : Nat) : ∀ l : List α, (∀ a ∈ l, (f a).length ≤ k) → (l.flatMap f).length ≤ l.length * k
  | [], _ => by simp
  | a :: l, h => by
    have h1 := h a List.mem_cons_self
    have h2 := flat_len f k l fun b hb => h b (List.mem_cons_of_mem _ hb)
    simp only [List.flatMap_cons, List.length_append, List.length_cons, Nat.add_mul]
    omega
theorem enviesF_len (rs : List (List Int)) (lots : List Nat) : (enviesF rs lots).length ≤ rs.length * rs.length := by
  unfold enviesF
  refine Nat.le_trans (flat_len _ rs.length _ fun i _ => ?_) (by simp)
  rw [List.length_map]
  exact Nat.le_trans (List.length_filter_le _ _) (by simp)
def lenviesF (rs : List (List Int)) (lots : List Nat) (acc : List (Nat × Nat)) (i : Nat) : List (Nat × Nat) := acc ++ ((List.range rs.length).filter fun j => decide (wF (nth rs i) lots i < wF (nth rs i) lots j)).map fun j => (i, j)
end My

set_option Elab.async false
set_option linter.all false
set_option maxRecDepth 100000
set_option maxHeartbeats 4000000
namespace My
open PySem PySem.Spec
open PyProof.Rows hiding St
open L2 L3 L5 L6 L7 L8 L9
/-! ### whose next seat counts more -/
def cmI (vi vj a b : Int) : Bool := if a = 0 ∨ b = 0 then decide (a = 0) && (decide (0 < b) || decide (vj < vi)) else decide (vj * a < vi * b)
theorem cmI_iff {vi vj a b : Int} (ha : 0 ≤ a) (hb : 0 ≤ b) : cmI vi vj a b = true ↔ (a = 0 ∧ (0 < b ∨ vj < vi)) ∨ (0 < a ∧ 0 < b ∧ vj * a < vi * b) := by
  unfold cmI
  by_cases h1 : a = 0
  · subst h1; simp
  · by_cases h2 : b = 0
    · subst h2; simp [h1]
    · rw [if_neg (by omega), decide_eq_true_eq]
      constructor
      · intro h; exact .inr ⟨by omega, by omega, h⟩
      · rintro (⟨h, _⟩ | ⟨_, _, h⟩)
        · exact absurd h h1
        · exact h
theorem cmI_self {v a : Int} (ha : 0 ≤ a) : cmI v v a a = false := by
  cases h : cmI v v a a with
  | false => rfl
  | true =>
    rcases (cmI_iff ha ha).mp h with ⟨h1, h2⟩ | ⟨_, _, h⟩ <;> omega
theorem cmI_trans {vk vi vb c a b : Int} (hk : 0 < vk) (hi : 0 < vi) (hb' : 0 < vb) (hc : 0 ≤ c) (ha : 0 ≤ a) (hb : 0 ≤ b) (h1 : cmI vk vi c a = true) (h2 : cmI vi vb a b = true) : cmI vk vb c b = true := by
  rw [cmI_iff hc ha] at h1
  rw [cmI_iff ha hb] at h2
  rw [cmI_iff hc hb]
  rcases h1 with ⟨r1, r2⟩ | ⟨r1, r2, r3⟩
  · rcases h2 with ⟨q1, q2⟩ | ⟨q1, q2, q3⟩
    · exact .inl ⟨r1, by omega⟩
    · exact .inl ⟨r1, .inl q2⟩
  · rcases h2 with ⟨q1, q2⟩ | ⟨q1, q2, q3⟩
    · omega
    · refine .inr ⟨r1, q2, ?_⟩
      -- vk * a > vi * c, vi * b > vb * a  ⊢  vk * b > vb * c
      have e1 : vi * c * b < vk * a * b := Int.mul_lt_mul_of_pos_right r3 q2
      have e2 : vb * a * c < vi * b * c := Int.mul_lt_mul_of_pos_right q3 r1
      have e3 : a * (vb * c) < a * (vk * b) := by
        have i1 : a * (vb * c) = vb * a * c := by rw [← Int.mul_assoc, Int.mul_comm a vb]
        have i2 : a * (vk * b) = vk * a * b := by rw [← Int.mul_assoc, Int.mul_comm a vk]
        have i3 : vi * b * c = vi * c * b := by rw [Int.mul_assoc, Int.mul_comm b c, ← Int.mul_assoc]
        omega
      exact Int.lt_of_mul_lt_mul_left e3 (by omega)
/-- more seats of one's own count less -/
theorem cmI_mono {vi vj a a' b : Int} (hi : 0 < vi) (hj : 0 < vj) (ha' : 0 ≤ a') (haa : a' ≤ a) (hb : 0 ≤ b) (h : cmI vi vj a b = true) : cmI vi vj a' b = true := by
  rw [cmI_iff (by omega) hb] at h
  rw [cmI_iff ha' hb]
  rcases h with ⟨r1, r2⟩ | ⟨r1, r2, r3⟩
  · exact .inl ⟨by omega, r2⟩
  · by_cases h0 : a' = 0
    · exact .inl ⟨h0, .inl r2⟩
    · refine .inr ⟨by omega, r2, Int.lt_of_le_of_lt ?_ r3⟩
      exact Int.mul_le_mul_of_nonneg_left haa (by omega)
theorem cmI_scale {vi vj a b : Int} : cmI (3 * vi) (3 * vj) a b = cmI vi vj a b := by
  have e1 : decide (3 * vj < 3 * vi) = decide (vj < vi) := decide_eq_decide.mpr (by omega)
  have e2 : decide (3 * vj * a < 3 * vi * b) = decide (vj * a < vi * b) := decide_eq_decide.mpr (by rw [Int.mul_assoc, Int.mul_assoc]; omega)
  unfold cmI
  rw [e1, e2]
def cmF (v : List Int) (s : Int) (gs : List Int) (i j : Nat) : Bool := cmI (nth v i) (nth v j) (2 * nth gs i + s) (2 * nth gs j + s)
def nextL (v : List Int) (s : Int) (gs : List Int) (b : Nat) (l : List Nat) : Nat := l.foldl (fun b i => if cmF v s gs i b = true then i else b) b
def nextF (v : List Int) (s : Int) (gs : List Int) : Nat := nextL v s gs 0 (List.range v.length)
def upF (gs : List Int) (i : Nat) : List Int := gs.set i (nth gs i + 1)
def seatsF (v : List Int) (s : Int) : Nat → List Int
  | 0 => List.replicate v.length 0
  | k + 1 => upF (seatsF v s k) (nextF v s (seatsF v s k))
structure Vt (v : List Int) : Prop where
  one : 1 ≤ v.length
  five : v.length ≤ 5
  pos : ∀ x ∈ v, 1 ≤ x
  le : ∀ x ∈ v, x ≤ 300000
theorem Vt.at {v : List Int} (h : Vt v) {i : Nat} (hi : i < v.length) : 1 ≤ nth v i ∧ nth v i ≤ 300000 := ⟨h.pos _ (nth_mem hi), h.le _ (nth_mem hi)⟩
structure Gs (v gs : List Int) (k : Nat) : Prop where
  len : gs.length = v.length
  nn : ∀ i < v.length, 0 ≤ nth gs i
  le : ∀ i < v.length, nth gs i ≤ k
  sum : gs.sum = k
theorem nth_setI {l : List Int} {g k : Nat} {x : Int} (hg : g < l.length) (hk : k < l.length) : nth (l.set g x) k = if k = g then x else nth l k := by
  have h1 : k < (l.set g x).length := by simpa using hk
  rw [nth_get h1, List.getElem_set]
  by_cases h : g = k
  · subst h; simp
  · rw [if_neg h, if_neg (fun e => h e.symm), nth_get hk]
theorem sum_set : ∀ {l : List Int} {g : Nat} {x : Int}, g < l.length → (l.set g x).sum = l.sum + (x - nth l g)
  | [], g, x, h => by simp at h
  | a :: l, 0, x, h => by simp; omega
  | a :: l, g + 1, x, h => by
    have := sum_set (l := l) (g := g) (x := x) (by simpa using h)
    simp [this]; omega
theorem nextL_lt {v : List Int} {s : Int} {gs : List Int} : ∀ (l : List Nat) (b : Nat), b < v.length → (∀ i ∈ l, i < v.length) → nextL v s gs b l < v.length
  | [], b, h, _ => h
  | i :: l, b, h, hl => by
    show nextL v s gs (if cmF v s gs i b = true then i else b) l < _
    refine nextL_lt l _ ?_ fun j hj => hl j (List.mem_cons_of_mem _ hj)
    split
    · exact hl i List.mem_cons_self
    · exact h
theorem nextF_lt {v : List Int} {s : Int} {gs : List Int} (h : Vt v) : nextF v s gs < v.length := nextL_lt _ _ h.one fun i hi => List.mem_range.mp hi
theorem Gs.up {v gs : List Int} {k i : Nat} (h : Gs v gs k) (hi : i < v.length) : Gs v (upF gs i) (k + 1) := by
  have hl := h.len
  unfold upF
  refine ⟨by simp [hl], fun j hj => ?_, fun j hj => ?_, ?_⟩
  · rw [nth_setI (by omega) (by omega)]
    have := h.nn j hj
    have := h.nn i hi
    split <;> omega
  · rw [nth_setI (by omega) (by omega)]
    have := h.le j hj
    have := h.le i hi
    split <;> omega
  · rw [sum_set (by omega), h.sum]; omega
theorem sumR0 : ∀ n : Nat, (List.replicate n (0 : Int)).sum = 0
  | 0 => rfl
  | n + 1 => by rw [List.replicate_succ, List.sum_cons, sumR0 n]; rfl
theorem seats_gs {v : List Int} {s : Int} (h : Vt v) : ∀ k : Nat, Gs v (seatsF v s k) k
  | 0 => by
    have e : ∀ i < v.length, nth (List.replicate v.length (0 : Int)) i = 0 := fun i hi => by rw [nth_get (by simpa using hi)]; simp
    exact ⟨by simp [seatsF], fun i hi => by rw [seatsF, e i hi]; omega, fun i hi => by rw [seatsF, e i hi]; omega, sumR0 _⟩
  | k + 1 => (seats_gs h k).up (nextF_lt h)
/-- nobody's next seat counts more than that of the one who gets it -/
theorem next_best {v : List Int} {s : Int} {gs : List Int} (h : Vt v) (hs : 0 ≤ s) (hg : ∀ i < v.length, 0 ≤ nth gs i) : ∀ (l : List Nat) (b : Nat), b < v.length → (∀ i ∈ l, i < v.length) → ∀ i, i ∈ l ∨ i < v.length ∧ cmF v s gs i b = false → cmF v s gs i (nextL v s gs b l) = false
  | [], b, hb, hl, i, hi => by
    rcases hi with hi | hi
    · cases hi
    · exact hi.2
  | j :: l, b, hb, hl, i, hi => by
    have hj := hl j List.mem_cons_self
    have hl' : ∀ i ∈ l, i < v.length := fun i hi => hl i (List.mem_cons_of_mem _ hi)
    show cmF v s gs i (nextL v s gs (if cmF v s gs j b = true then j else b) l) = false
    have nn : ∀ {i}, i < v.length → 0 ≤ 2 * nth gs i + s := fun {i} hi => by have := hg i hi; omega
    have self : ∀ {i}, i < v.length → cmF v s gs i i = false := fun {i} hi => cmI_self (nn hi)
    by_cases hc : cmF v s gs j b = true
    · rw [if_pos hc]
      refine next_best h hs hg l j hj hl' i ?_
      rcases hi with hi | ⟨hi, hf⟩
      · rcases List.mem_cons.mp hi with rfl | hi
        · exact .inr ⟨hj, self hj⟩
        · exact .inl hi
      · refine .inr ⟨hi, ?_⟩
        cases hq : cmF v s gs i j with
        | false => rfl
        | true =>
          have := cmI_trans (by have := h.at hi; omega) (by have := h.at hj; omega) (by have := h.at hb; omega) (nn hi) (nn hj) (nn hb) hq hc
          unfold cmF at hf
          rw [hf] at this
          cases this
    · rw [if_neg hc]
      refine next_best h hs hg l b hb hl' i ?_
      rcases hi with hi | hi
      · rcases List.mem_cons.mp hi with rfl | hi
        · exact .inr ⟨hj, by simpa using hc⟩
        · exact .inl hi
      · exact .inr hi
/-- each last seat is rightly where it is -/
theorem last_ok {v : List Int} {s : Int} (h : Vt v) (hs : 0 ≤ s) : ∀ (k : Nat) (i j : Nat), i < v.length → j < v.length → i ≠ j → 0 < nth (seatsF v s k) j → cmI (nth v i) (nth v j) (2 * nth (seatsF v s k) i + s) (2 * (nth (seatsF v s k) j - 1) + s) = false
  | 0, i, j, hi, hj, hij, h0 => by
    rw [seatsF, nth_get (by simpa using hj)] at h0
    simp at h0
  | k + 1, i, j, hi, hj, hij, h0 => by
    have g := seats_gs (s := s) h k
    have hl := g.len
    have hb := nextF_lt (s := s) (gs := seatsF v s k) h
    have best := next_best h hs g.nn (List.range v.length) 0 h.one (fun i hi => List.mem_range.mp hi) i (.inl (List.mem_range.mpr hi))
    have e : ∀ q < v.length, nth (seatsF v s (k + 1)) q = if q = nextF v s (seatsF v s k) then nth (seatsF v s k) q + 1 else nth (seatsF v s k) q := fun q hq => by
      show nth (upF _ _) q = _
      unfold upF
      rw [nth_setI (by omega) (by omega)]
      split
      · rename_i z; rw [z]
      · rfl
    have ei := e i hi
    have ej := e j hj
    have ni := g.nn i hi
    by_cases hjb : j = nextF v s (seatsF v s k)
    · rw [if_pos hjb] at ej
      rw [if_neg (fun z => hij (z.trans hjb.symm))] at ei
      rw [ej, ei, show nth (seatsF v s k) j + 1 - 1 = nth (seatsF v s k) j by omega]
      rw [hjb]
      exact best
    · rw [if_neg hjb] at ej
      rw [ej] at h0 ⊢
      have ih := last_ok h hs k i j hi hj hij h0
      cases hq : cmI (nth v i) (nth v j) (2 * nth (seatsF v s (k + 1)) i + s) (2 * (nth (seatsF v s k) j - 1) + s) with
      | false => rfl
      | true =>
        have := cmI_mono (a' := 2 * nth (seatsF v s k) i + s) (by have := h.at hi; omega) (by have := h.at hj; omega) (by omega) (by rw [ei]; split <;> omega) (by omega) hq
        rw [ih] at this
        cases this
theorem more_ge {v : List Int} {s : Int} (h : Vt v) (k i : Nat) (hi : i < v.length) : nth (seatsF v s k) i ≤ nth (seatsF v s (k + 1)) i := by
  have g := seats_gs (s := s) h k
  have hl := g.len
  have hb := nextF_lt (s := s) (gs := seatsF v s k) h
  show _ ≤ nth (upF _ _) i
  unfold upF
  rw [nth_setI (by omega) (by omega)]
  split
  · rename_i z; rw [z]; omega
  · omega
theorem scale_seats {v : List Int} {s : Int} (h : Vt v) (k : Nat) : seatsF (v.map fun x => 3 * x) s k = seatsF v s k := by
  have nx : ∀ gs : List Int, nextF (v.map fun x => 3 * x) s gs = nextF v s gs := fun gs => by
    unfold nextF nextL
    rw [List.length_map]
    have : ∀ (l : List Nat) (b : Nat), b < v.length → (∀ i ∈ l, i < v.length) → l.foldl (fun b i => if cmF (v.map fun x => 3 * x) s gs i b = true then i else b) b = l.foldl (fun b i => if cmF v s gs i b = true then i else b) b := by
      intro l
      induction l with
      | nil => intro b _ _; rfl
      | cons i l ih =>
        intro b hb hl
        have hi := hl i List.mem_cons_self
        have e : cmF (v.map fun x => 3 * x) s gs i b = cmF v s gs i b := by
          unfold cmF
          rw [nth_map _ _ _ hi, nth_map _ _ _ hb, cmI_scale]
        rw [List.foldl_cons, List.foldl_cons, e]
        refine ih _ ?_ fun j hj => hl j (List.mem_cons_of_mem _ hj)
        split
        · exact hi
        · exact hb
    exact this _ _ h.one fun i hi => List.mem_range.mp hi
  induction k with
  | zero => simp [seatsF]
  | succ k ih => rw [seatsF, seatsF, ih, nx]
/-- the first turn says nothing new -/
theorem next_from1 {v : List Int} {s : Int} {gs : List Int} (h : Vt v) (hs : 0 ≤ s) (hg : ∀ i < v.length, 0 ≤ nth gs i) : nextL v s gs 0 ((List.range (v.length - 1)).map (· + 1)) = nextF v s gs := by
  unfold nextF
  have e : List.range v.length = 0 :: (List.range (v.length - 1)).map (· + 1) := by
    have := h.one
    rw [← List.range_succ_eq_map, show v.length - 1 + 1 = v.length by omega]
  rw [e]
  show _ = nextL v s gs (if cmF v s gs 0 0 = true then 0 else 0) _
  simp
end My

set_option Elab.async false
set_option linter.all false
set_option maxRecDepth 100000
set_option maxHeartbeats 4000000
namespace My
open PySem PySem.Spec
open PyProof.Rows hiding St
open L2 L3 L5 L6 L7 L8 L9
abbrev iT (r : List Int) : PV := .tuple (r.map PyData.int)
abbrev iL (r : List Int) : PV := .list (r.map PyData.int)
abbrev oL (r : List Int) : OV := .l (r.map fun x => .p (.int x))
/-- seats in number -/
structure Gb (v gs : List Int) : Prop where
  len : gs.length = v.length
  nn : ∀ i < v.length, 0 ≤ nth gs i
  le : ∀ i < v.length, nth gs i ≤ 1000
theorem Gs.b {v gs : List Int} {k : Nat} (h : Gs v gs k) (hk : k ≤ 1000) : Gb v gs := ⟨h.len, h.nn, fun i hi => by have := h.le i hi; omega⟩
theorem cm_facts {v gs : List Int} {s : Int} {i j : Nat} (h : Vt v) (g : Gb v gs) (hs : 0 ≤ s) (hs2 : s ≤ 2) (hi : i < v.length) (hj : j < v.length) :
    mulOk 2 (nth gs i) = true ∧ mulOk (nth v i) (2 * nth gs j + s) = true := by
  have h1 := h.at hi
  have h2 := g.nn i hi
  have h3 := g.le i hi
  have h4 := g.nn j hj
  have h5 := g.le j hj
  exact ⟨mulOk_of (a := 2) (b := 11) (by decide) (by omega), mulOk_of (a := 20) (b := 13) (by omega) (by omega)⟩
theorem cm_ok {v gs : List Int} {s : Int} {i j : Nat} (h : Vt v) (g : Gb v gs) (hs : 0 ≤ s) (hs2 : s ≤ 2) (hi : i < v.length) (hj : j < v.length) :
    g_counts_more [iT v, .int s, iL gs, .int (i : Int), .int (j : Int)] = some (.p (.bool (cmF v s gs i j))) := by
  obtain ⟨m1, m3⟩ := cm_facts h g hs hs2 hi hj
  obtain ⟨m2, m4⟩ := cm_facts h g hs hs2 hj hi
  have hgi : i < gs.length := by rw [g.len]; exact hi
  have hgj : j < gs.length := by rw [g.len]; exact hj
  unfold g_counts_more b_counts_more cmF cmI
  by_cases c1 : 2 * nth gs i + s = 0
  · simp [hi, hj, hgi, hgj, m1, m2, m3, m4, c1]
  · by_cases c2 : 2 * nth gs j + s = 0
    · simp [hi, hj, hgi, hgj, m1, m2, m3, m4, c1, c2]
    · simp [hi, hj, hgi, hgj, m1, m2, m3, m4, c1, c2]
theorem lcm_ok {v gs : List Int} {s : Int} {i j : Nat} (h : Vt v) (g : Gb v gs) (hs : 0 ≤ s) (hs2 : s ≤ 2) (hi : i < v.length) (hj : j < v.length) :
    g__law_counts_more [iT v, .int s, iL gs, .int (i : Int), .int (j : Int)] = some (.p (.bool (cmF v s gs i j))) := by
  obtain ⟨m1, m3⟩ := cm_facts h g hs hs2 hi hj
  obtain ⟨m2, m4⟩ := cm_facts h g hs hs2 hj hi
  have hgi : i < gs.length := by rw [g.len]; exact hi
  have hgj : j < gs.length := by rw [g.len]; exact hj
  unfold g__law_counts_more b__law_counts_more cmF cmI
  by_cases c1 : 2 * nth gs i + s = 0
  · simp [hi, hj, hgi, hgj, m1, m2, m3, m4, c1]
  · by_cases c2 : 2 * nth gs j + s = 0
    · simp [hi, hj, hgi, hgj, m1, m2, m3, m4, c1, c2]
    · simp [hi, hj, hgi, hgj, m1, m2, m3, m4, c1, c2]
theorem np_ok {v gs : List Int} {s : Int} (h : Vt v) (g : Gb v gs) (hs : 0 ≤ s) (hs2 : s ≤ 2) : g_next_party [iT v, .int s, iL gs] = some (.p (.int (nextF v s gs : Nat))) := by
  obtain ⟨s', e, x4, hb, rfl⟩ := forL_fold (o := eO 5 []) (tg := .nm 4) (body := l_next_party_1) eN (fun (b : Nat) s' => ∃ x4, b < v.length ∧ s' = [some (.p (iT v)), some (.p (.int s)), some (.p (iL gs)), some (.p (.int (b : Int))), x4])
    (fun b i => if cmF v s gs i b = true then i else b) ((List.range (v.length - 1)).map (· + 1)) 0 [some (.p (iT v)), some (.p (.int s)), some (.p (iL gs)), some (.p (.int (0 : Nat))), none] (by
      rintro i hi b s' ⟨x4, hb, rfl⟩
      have hi : i < v.length := by
        simp only [List.mem_map, List.mem_range] at hi
        omega
      have c := cm_ok h g hs hs2 hi hb
      refine ⟨_, _, st_nm _ _ _ _ _, ?_, some (.p (.int (i : Int))), ?_, rfl⟩
      · unfold l_next_party_1
        by_cases hc : cmF v s gs i b = true
        · simp [c, hc]
        · simp [c, hc]
      · split
        · exact hi
        · exact hb) ⟨none, h.one, rfl⟩
  have e0 : ((List.range (v.length - 1)).map (· + 1)).foldl (fun b i => if cmF v s gs i b = true then i else b) 0 = nextF v s gs := next_from1 h hs g.nn
  rw [e0] at e
  have er : fRange2 [.int 1, .int (v.length : Int)] = some (((List.range (v.length - 1)).map (· + 1)).map eN) := by
    have h5 := h.five
    have h1 := h.one
    have : v.length = 1 ∨ v.length = 2 ∨ v.length = 3 ∨ v.length = 4 ∨ v.length = 5 := by omega
    rcases this with z | z | z | z | z <;> rw [z] <;> rfl
  unfold g_next_party b_next_party
  have e : forL (eO 5 []) (Tg.nm 4) l_next_party_1 (((List.range (v.length - 1)).map (· + 1)).map eN) [some (.p (iT v)), some (.p (.int s)), some (.p (iL gs)), some (.p (.int 0)), none] = _ := e
  simp only [iT, iL] at e ⊢
  simp [er, e]
  simp at e
  simp [e]
end My

set_option Elab.async false
set_option linter.all false
set_option maxRecDepth 100000
set_option maxHeartbeats 4000000
namespace My
open PySem PySem.Spec
open PyProof.Rows hiding St
open L2 L3 L5 L6 L7 L8 L9
theorem nth_oL {gs : List Int} {i : Nat} (h : i < gs.length) : (gs.map fun x => OV.p (.int x))[i]? = some (.p (.int (nth gs i))) := by
  rw [List.getElem?_map, get_nth h]; rfl
theorem set_oL {gs : List Int} {i : Nat} {x : Int} : (gs.map fun x => OV.p (.int x)).set i (.p (.int x)) = (gs.set i x).map fun x => OV.p (.int x) := by
  rw [List.map_set]
theorem seats_ok {v : List Int} {s : Int} (h : Vt v) (hs : 0 ≤ s) (hs2 : s ≤ 2) (k : Nat) (hk : k ≤ 100) : g_seats [iT v, .int (k : Int), .int s] = some (.p (iT (seatsF v s k))) := by
  obtain ⟨s', e, j, x4, hj, rfl⟩ := forL_left (o := eO 5 []) (tg := .nm 4) (body := l_seats_1) eN (fun l s' => ∃ (j : Nat) (x4 : Option OV), j + l.length = k ∧ s' = [some (.p (iT v)), some (.p (.int (k : Int))), some (.p (.int s)), some (oL (seatsF v s j)), x4])
    (List.range k) [some (.p (iT v)), some (.p (.int (k : Int))), some (.p (.int s)), some (oL (seatsF v s 0)), none] (by
      rintro i l s' ⟨j, x4, hj, rfl⟩ hi
      simp only [List.length_cons] at hj
      have g := (seats_gs (s := s) h j)
      have np := np_ok h (g.b (by omega)) hs hs2
      have hb := nextF_lt (s := s) (gs := seatsF v s j) h
      have hb2 : nextF v s (seatsF v s j) < (seatsF v s j).length := by rw [g.len]; exact hb
      refine ⟨_, _, st_nm _ _ _ _ _, ?_, j + 1, some (.p (.int (i : Int))), by omega, rfl⟩
      rw [show seatsF v s (j + 1) = (seatsF v s j).set (nextF v s (seatsF v s j)) (nth (seatsF v s j) (nextF v s (seatsF v s j)) + 1) from rfl, nth_get hb2]
      unfold l_seats_1
      simp [np, hb2]) ⟨0, none, by simp, rfl⟩
  have hj : j = k := by simpa using hj
  subst hj
  have h1 := h.one
  have h5 := h.five
  have e2 : (List.replicate v.length (0 : Int)).map (fun x => OV.p (.int x)) = List.replicate v.length (OV.p (.int 0)) := by simp
  simp only [seatsF, iT, oL, e2] at e
  unfold g_seats b_seats
  have hr : fRange1 [.int (j : Int)] = some ((List.range j).map eN) := rg_nat1 (by omega)
  simp [LIM_eq, h5, show v.length ≤ 1000 by omega, hr, e]
end My

set_option Elab.async false
set_option linter.all false
set_option maxRecDepth 100000
set_option maxHeartbeats 4000000
namespace My
open PySem PySem.Spec
open PyProof.Rows hiding St
open L2 L3 L5 L6 L7 L8 L9
theorem lnext_ok {v gs : List Int} {s : Int} (h : Vt v) (g : Gb v gs) (hs : 0 ≤ s) (hs2 : s ≤ 2) {x1 x4 x6 : Option OV} :
    ∃ x6', forL (eO 7 []) (.nm 6) l__law_seats_1 ((List.range v.length).map eN) [some (.p (iT v)), x1, some (.p (.int s)), some (oL gs), x4, some (.p (.int 0)), x6] =
      some (.nx, [some (.p (iT v)), x1, some (.p (.int s)), some (oL gs), x4, some (.p (.int (nextF v s gs : Nat))), x6']) := by
  obtain ⟨s', e, x6', hb, rfl⟩ := forL_fold (o := eO 7 []) (tg := .nm 6) (body := l__law_seats_1) eN (fun (b : Nat) s' => ∃ x6, b < v.length ∧ s' = [some (.p (iT v)), x1, some (.p (.int s)), some (oL gs), x4, some (.p (.int (b : Int))), x6])
    (fun b i => if cmF v s gs i b = true then i else b) (List.range v.length) 0 [some (.p (iT v)), x1, some (.p (.int s)), some (oL gs), x4, some (.p (.int (0 : Nat))), x6] (by
      rintro i hi b s' ⟨x6, hb, rfl⟩
      have hi : i < v.length := List.mem_range.mp hi
      have c := lcm_ok h g hs hs2 hi hb
      refine ⟨_, _, st_nm _ _ _ _ _, ?_, some (.p (.int (i : Int))), ?_, rfl⟩
      · unfold l__law_seats_1
        cases x1 <;> cases x4 <;> by_cases hc : cmF v s gs i b = true <;> simp [c, hc]
      · split
        · exact hi
        · exact hb) ⟨x6, h.one, rfl⟩
  exact ⟨x6', e⟩
theorem lseats_ok {v : List Int} {s : Int} (h : Vt v) (hs : 0 ≤ s) (hs2 : s ≤ 2) (k : Nat) (hk : k ≤ 100) : g__law_seats [iT v, .int (k : Int), .int s] = some (.p (iT (seatsF v s k))) := by
  have h1 := h.one
  have h5 := h.five
  obtain ⟨s', e, j, x4, x5, x6, hj, rfl⟩ := forL_left (o := eO 7 []) (tg := .nm 4) (body := l__law_seats_2) eN (fun l s' => ∃ (j : Nat) (x4 x5 x6 : Option OV), j + l.length = k ∧ s' = [some (.p (iT v)), some (.p (.int (k : Int))), some (.p (.int s)), some (oL (seatsF v s j)), x4, x5, x6])
    (List.range k) [some (.p (iT v)), some (.p (.int (k : Int))), some (.p (.int s)), some (oL (seatsF v s 0)), none, none, none] (by
      rintro i l s' ⟨j, x4, x5, x6, hj, rfl⟩ hi
      simp only [List.length_cons] at hj
      have g := (seats_gs (s := s) h j)
      have hb := nextF_lt (s := s) (gs := seatsF v s j) h
      have hb2 : nextF v s (seatsF v s j) < (seatsF v s j).length := by rw [g.len]; exact hb
      obtain ⟨x6', np⟩ := lnext_ok h (g.b (by omega)) hs hs2 (x1 := some (.p (.int (k : Int)))) (x4 := some (.p (eN i))) (x6 := x6)
      refine ⟨_, _, st_nm _ _ _ _ _, ?_, j + 1, some (.p (.int (i : Int))), some (.p (.int (nextF v s (seatsF v s j) : Nat))), x6', by omega, rfl⟩
      rw [show seatsF v s (j + 1) = (seatsF v s j).set (nextF v s (seatsF v s j)) (nth (seatsF v s j) (nextF v s (seatsF v s j)) + 1) from rfl]
      unfold l__law_seats_2
      simp [show v.length ≤ 100000 by omega, np, hb2]) ⟨0, none, none, none, by simp, rfl⟩
  have hj : j = k := by simpa using hj
  subst hj
  have e2 : (List.replicate v.length (0 : Int)).map (fun x => OV.p (.int x)) = List.replicate v.length (OV.p (.int 0)) := by simp
  simp only [seatsF, iT, oL, e2] at e
  unfold g__law_seats b__law_seats
  have hr : fRange1 [.int (j : Int)] = some ((List.range j).map eN) := rg_nat1 (by omega)
  simp [LIM_eq, h5, show v.length ≤ 1000 by omega, hr, e]
end My

set_option Elab.async false
set_option linter.all false
set_option maxRecDepth 100000
set_option maxHeartbeats 4000000
namespace My
open PySem PySem.Spec
open PyProof.Rows hiding St
open L2 L3 L5 L6 L7 L8 L9
/-! ### the greatest rests -/
def flF (v : List Int) (k : Int) : List Int := v.map fun x => (k * x).fdiv v.sum
def keyF (v : List Int) (k : Int) : List (Int × Int) := (List.range v.length).map fun i => (-((k * nth v i).fmod v.sum), (i : Int))
def addF (gs : List Int) (l : List (Int × Int)) : List Int := l.foldl (fun g c => upF g c.2.toNat) gs
def restF (v : List Int) (k : Int) (t : Nat) : List Int := addF (flF v k) ((srtP (keyF v k)).take t)
theorem sum_pos {v : List Int} (h : Vt v) : 1 ≤ v.sum ∧ v.sum ≤ 1500000 := by
  have gen : ∀ l : List Int, (∀ x ∈ l, 1 ≤ x ∧ x ≤ 300000) → (l.length : Int) ≤ l.sum ∧ l.sum ≤ 300000 * l.length := by
    intro l
    induction l with
    | nil => simp
    | cons a l ih =>
      intro hl
      have := hl a List.mem_cons_self
      have := ih fun x hx => hl x (List.mem_cons_of_mem _ hx)
      simp only [List.sum_cons, List.length_cons]
      omega
  have := gen v fun x hx => ⟨h.pos x hx, h.le x hx⟩
  have := h.one
  have := h.five
  omega
theorem fl_sum {k w : Int} (hw : 1 ≤ w) : ∀ l : List Int, (l.map fun x => (k * x).fdiv w).sum * w ≤ k * l.sum
  | [] => by simp
  | a :: l => by
    have ih := fl_sum (k := k) hw l
    have h1 := Int.mul_fdiv_add_fmod (k * a) w
    have h2 := Int.fmod_nonneg_of_pos (k * a) (show 0 < w by omega)
    simp only [List.map_cons, List.sum_cons, Int.add_mul, Int.mul_add]
    have e : (k * a).fdiv w * w = w * (k * a).fdiv w := Int.mul_comm _ _
    omega
theorem fl_le {v : List Int} (h : Vt v) {k : Int} : (flF v k).sum ≤ k := by
  have hp := (sum_pos h).1
  have := fl_sum (k := k) hp v
  exact Int.le_of_mul_le_mul_right this (by omega)
theorem rest_t {v : List Int} (h : Vt v) (k : Int) : ∃ t : Nat, k - (flF v k).sum = t := by
  have := fl_le (k := k) h
  exact ⟨(k - (flF v k).sum).toNat, by omega⟩
theorem srt_keys {v : List Int} {k : Int} {c : Int × Int} {t : Nat} (h : c ∈ (srtP (keyF v k)).take t) : ∃ i : Nat, i < v.length ∧ c.2 = i := by
  have h := (srtP_perm _).mem_iff.mp (List.mem_of_mem_take h)
  unfold keyF at h
  obtain ⟨i, hi, rfl⟩ := List.mem_map.mp h
  exact ⟨i, List.mem_range.mp hi, rfl⟩
theorem upF_len (gs : List Int) (i : Nat) : (upF gs i).length = gs.length := by unfold upF; simp
theorem addF_len : ∀ (l : List (Int × Int)) (gs : List Int), (addF gs l).length = gs.length
  | [], gs => rfl
  | c :: l, gs => by
    show (addF (upF gs c.2.toNat) l).length = _
    rw [addF_len l, upF_len]
theorem up_step {gs : List Int} {i : Nat} (hi : i < gs.length) : (gs.map fun x => OV.p (.int x)).set i (.p (.int (gs[i] + 1))) = (upF gs i).map fun x => OV.p (.int x) := by
  unfold upF
  rw [List.map_set, nth_get hi]
section
variable {v : List Int} {k : Int} (h : Vt v) (hk0 : 0 ≤ k) (hk : k ≤ 100)
include h hk0 hk
theorem mul_facts : ∀ x ∈ v, mulOk k x = true := fun x hx => mulOk_of (a := 8) (b := 20) (by omega) (by have := h.pos x hx; have := h.le x hx; omega)
theorem div_fact : divOk v.sum = true := by
  have := sum_pos h
  exact divOk_of (by omega) (lt_big (m := 22) (by omega))
theorem rests_ok {t : Nat} (ht : k - (flF v k).sum = t) : g_by_rests [iT v, .int k] = some (.p (iT (restF v k t))) := by
  have h1 := h.one
  have h5 := h.five
  have mf := mul_facts h hk0 hk
  have df := div_fact h hk0 hk
  have sp := sum_pos h
  have mfi : ∀ i < v.length, mulOk k (nth v i) = true := fun i hi => mf _ (nth_mem hi)
  have w0 : v.sum ≠ 0 := by omega
  obtain ⟨s', e, gs, x5, hl, hf, rfl⟩ := forL_left (o := eO 7 []) (tg := .nm 5) (body := l_by_rests_1) (fun c : Int × Int => PyData.int c.2) (fun l s' => ∃ (gs : List Int) (x5 : Option OV), gs.length = v.length ∧ addF gs l = restF v k t ∧ s' = [some (.p (iT v)), some (.p (.int k)), some (.p (.int v.sum)), some (oL gs), some (.p (.list ((srtP (keyF v k)).map fun c => PyData.int c.2))), x5, none])
    ((srtP (keyF v k)).take t) [some (.p (iT v)), some (.p (.int k)), some (.p (.int v.sum)), some (oL (flF v k)), some (.p (.list ((srtP (keyF v k)).map fun c => PyData.int c.2))), none, none] (by
      rintro c l s' ⟨gs, x5, hl, hf, rfl⟩ hc
      obtain ⟨i, hi, ei⟩ := srt_keys hc
      have hi2 : i < gs.length := by omega
      refine ⟨_, _, st_nm _ _ _ _ _, ?_, upF gs i, some (.p (.int (i : Int))), by rw [upF_len, hl], ?_, rfl⟩
      · rw [ei]
        unfold l_by_rests_1
        simp [hi2, upF, nth_get hi2]
      · rw [← hf]
        show _ = addF (upF gs c.2.toNat) l
        rw [ei]
        rfl) ⟨flF v k, none, by unfold flF; simp, rfl, rfl⟩
  have hf : gs = restF v k t := hf
  subst hf
  have eg : (flF v k).sum = k - t := by omega
  unfold g_by_rests b_by_rests
  unfold keyF flF at *
  simp only [oL, List.map_map] at e
  rw [List.map_take] at e
  simp +contextual -implicitDefEqProofs (maxDischargeDepth := 9) [in_mem, lt_rng, LIM_eq, Function.comp_def, mf, mfi, df, w0, show v.length ≤ 100000 by omega, ht]
  simp only [Function.comp_def, iT] at e
  rw [e]
  simp
/-- the law's -/
theorem key_eq (i : Nat) (hi : i < v.length) : 0 - (k * nth v i - nth (flF v k) i * v.sum) = -((k * nth v i).fmod v.sum) := by
  unfold flF
  rw [nth_map _ _ _ hi]
  have h1 := Int.mul_fdiv_add_fmod (k * nth v i) v.sum
  have e : (k * nth v i).fdiv v.sum * v.sum = v.sum * (k * nth v i).fdiv v.sum := Int.mul_comm _ _
  omega
end
end My

set_option Elab.async false
set_option linter.all false
set_option maxRecDepth 100000
set_option maxHeartbeats 4000000
namespace My
open PySem PySem.Spec
open PyProof.Rows hiding St
open L2 L3 L5 L6 L7 L8 L9
theorem votes_ok {f : Nat} {ov : OV} (h : Pool (f + 7) ov) : ∃ (vs : List Int) (ov' : OV), r__law_votes ov [] = some (.p (rowT vs), ov') ∧ Pool f ov' ∧ 1 ≤ vs.length ∧ vs.length ≤ 5 ∧ ∀ v ∈ vs, 1 ≤ v ∧ v ≤ 90000 := by
  obtain ⟨u, ov1, e1, p1, u0, u1⟩ := draw_ok (f := f + 6) (n := 3) h (by decide) (by decide)
  have pick : ∃ M : Int, 1 ≤ M ∧ M ≤ 90000 ∧ fIx (.tuple [.int 5, .int 60, .int 90000]) (.int u) = some (.int M) := by
    have uc : u = 0 ∨ u = 1 ∨ u = 2 := by omega
    rcases uc with rfl | rfl | rfl
    · exact ⟨5, by decide, by decide, by simp⟩
    · exact ⟨60, by decide, by decide, by simp⟩
    · exact ⟨90000, by decide, by decide, by simp⟩
  obtain ⟨M, M1, M2, eM⟩ := pick
  obtain ⟨w, ov2, e2, p2, w0, w1⟩ := draw_ok (f := f + 5) (n := 5) p1 (by decide) (by decide)
  obtain ⟨n, hn⟩ := nat_of (show (0 : Int) ≤ 1 + w by omega)
  obtain ⟨vs, s', e3, hl, ⟨ov3, p3, rfl⟩, h4⟩ := lcLoop_ind (o := eO 3 [0]) (own := [2]) (tg := .nm 2) (mt := L3.ret true) (me := mOp fAdd (mP (L3.ret (.int 1))) (mOut (mCallR 0 2 r__law_draw (mCons (mP (mVar (pO 3) 1)) (L3.ret [])))))
    (fun k s => ∃ ov, Pool (f + k) ov ∧ s = [some ov, some (.p (.int M)), none])
    (fun _ v => ∃ x : Int, v = .int x ∧ 1 ≤ x ∧ x ≤ 90000) (fun _ => rfl) ((List.range n).map eN) [] [some ov2, some (.p (.int M)), none]
    (by
      rintro q hq k s ⟨ov, hp, rfl⟩
      obtain ⟨x, ov', e, hp', h1, h2⟩ := draw_ok (f := f + k) (n := M) hp M1 (lt_big (m := 17) (by omega))
      exact ⟨_, .int (1 + x), _, st_nm _ _ _ _ _, by simp [e]; rfl, ⟨_, rfl, by omega, by omega⟩, ov', hp', by simp⟩) 0 ⟨ov2, p2.mono (by simp; omega), rfl⟩
  simp only [List.length_map, List.length_range] at hl
  obtain ⟨ns, rfl, hns⟩ := ints_of (vs := vs) (Q := fun x => 1 ≤ x ∧ x ≤ 90000) (fun v hv => by
    obtain ⟨p, _, x, e, h⟩ := mem_lc (by simpa using hl) h4 v hv
    exact ⟨x, e, h⟩)
  simp only [List.length_map] at hl
  refine ⟨ns, ov3, ?_, p3, by omega, by omega, hns⟩
  unfold r__law_votes b__law_votes
  simp (decide := true) only [lE_ret, lE_var, lE_op, lE_un, lE_cl, lE_cons, lE_star, lE_tr, lE_not, lE_and, lE_or, lE_if, lE_andV, lE_orV, lE_ls, lE_items, lE_part, lE_sl, lE_opF, lE_call, lE_lv, lE_tv, lE_rg1, lE_rg2, lE_chain, lE_lcC, lE_lc, lE_any, lE_all, lE_tupG, lE_lc2] at e3
  simp +contextual -implicitDefEqProofs (maxDischargeDepth := 9) [in_mem, lt_rng, LIM_eq, Function.comp_def, e1, eM, e2, hn, show n ≤ 100000 by omega, e3]

theorem sameI {l : List Int} (h : l.length ≤ 100000) : g__law_same [iT l, iT l] = some (.p (.bool true)) := same_ok (k := 1) (pl_tup (by rw [List.length_map, LIM_eq]; exact h) (by
  intro z hz
  simp only [List.mem_map] at hz
  obtain ⟨p, _, rfl⟩ := hz
  exact pl_int _ _))
theorem set_oC {gs : List Int} {i : Nat} {x : Int} : (gs.map (OV.p ∘ PyData.int)).set i (.p (.int x)) = (gs.set i x).map fun x => OV.p (.int x) := by
  rw [List.map_set]; rfl
section
variable {v : List Int} {k : Nat} {s : Int} (h : Vt v) (hk : k ≤ 40) (hs : 0 ≤ s) (hs2 : s ≤ 2)
abbrev Sx (v : List Int) (k : Nat) (x0 x1 x5 x6 x7 x8 x9 x10 : Option OV) : Env0 := [x0, x1, some (.p (iT v)), some (.p (.int (k : Int))), some (.p (.int (v.length : Int))), x5, x6, x7, x8, x9, x10, none, none, none, none, none]
include h hk hs hs2
/-- no last seat is wrong -/
theorem l1_ok {x0 x1 x8 x9 x10 : Option OV} {i j : Nat} (hi : i < v.length) (hj : j < v.length) :
    ∃ x9', l_law_1 (Sx v k x0 x1 (some (.p (.int s))) (some (.p (iT (seatsF v s k)))) (some (.p (eN i))) (some (.p (eN j))) x9 x10) = some (.nx, Sx v k x0 x1 (some (.p (.int s))) (some (.p (iT (seatsF v s k)))) (some (.p (eN i))) (some (.p (eN j))) x9' x10) := by
  have g := seats_gs (s := s) h k
  have gb := g.b (by omega)
  have hl := g.len
  have hi2 : i < (seatsF v s k).length := by omega
  have hj2 : j < (seatsF v s k).length := by omega
  by_cases hp : 0 < nth (seatsF v s k) j
  · have gb2 : Gb v ((seatsF v s k).set j (nth (seatsF v s k) j - 1)) := by
      refine ⟨by simp [hl], fun q hq => ?_, fun q hq => ?_⟩
      · rw [nth_setI hj2 (by omega)]
        have := gb.nn q hq
        split <;> omega
      · rw [nth_setI hj2 (by omega)]
        have := gb.le q hq
        have := gb.le j hj
        split <;> omega
    have c := lcm_ok (i := i) (j := j) h gb2 hs hs2 hi hj
    refine ⟨some (oL ((seatsF v s k).set j (nth (seatsF v s k) j - 1))), ?_⟩
    by_cases hij : i = j
    · subst hij
      unfold l_law_1
      cases hc : cmF v s ((seatsF v s k).set i (nth (seatsF v s k) i - 1)) i i <;> rw [hc] at c <;> simp [-List.map_set, set_oC, set_oL, hj2, hp, LIM_eq, show (seatsF v s k).length ≤ 100000 by have := h.five; omega, c]
    · have cf : cmF v s ((seatsF v s k).set j (nth (seatsF v s k) j - 1)) i j = false := by
        unfold cmF
        rw [nth_setI hj2 hi2, nth_setI hj2 hj2, if_neg hij, if_pos rfl]
        exact last_ok h hs k i j hi hj hij hp
      rw [cf] at c
      unfold l_law_1
      simp [-List.map_set, set_oC, set_oL, hj2, hp, LIM_eq, show (seatsF v s k).length ≤ 100000 by have := h.five; omega, c]
  · refine ⟨x9, ?_⟩
    unfold l_law_1
    simp [hj2, hp]
theorem l2_ok {x0 x1 x8 x9 x10 : Option OV} {i : Nat} (hi : i < v.length) :
    ∃ x8' x9', l_law_2 (Sx v k x0 x1 (some (.p (.int s))) (some (.p (iT (seatsF v s k)))) (some (.p (eN i))) x8 x9 x10) = some (.nx, Sx v k x0 x1 (some (.p (.int s))) (some (.p (iT (seatsF v s k)))) (some (.p (eN i))) x8' x9' x10) := by
  have h5 := h.five
  obtain ⟨s', e, x8', x9', rfl⟩ := forL_keep (o := eO 16 []) (tg := .nm 8) (body := l_law_1) eN (fun s' => ∃ x8 x9, s' = Sx v k x0 x1 (some (.p (.int s))) (some (.p (iT (seatsF v s k)))) (some (.p (eN i))) x8 x9 x10) (List.range v.length) (Sx v k x0 x1 (some (.p (.int s))) (some (.p (iT (seatsF v s k)))) (some (.p (eN i))) x8 x9 x10) (by
    rintro j hj s' ⟨x8, x9, rfl⟩
    obtain ⟨x9', e⟩ := l1_ok h hk hs hs2 (x0 := x0) (x1 := x1) (x8 := x8) (x9 := x9) (x10 := x10) hi (List.mem_range.mp hj)
    exact ⟨_, _, st_nm _ _ _ _ _, e, _, _, rfl⟩) ⟨x8, x9, rfl⟩
  refine ⟨x8', x9', ?_⟩
  unfold l_law_2
  simp [show v.length ≤ 100000 by omega, e]
theorem more_nil : ((List.range v.length).filter fun i => decide (nth (seatsF v s (k + 1)) i < nth (seatsF v s k) i)) = [] := by
  rw [List.filter_eq_nil_iff]
  intro i hi
  have := more_ge (s := s) h k i (List.mem_range.mp hi)
  simp
  omega
theorem l3_ok (h9 : ∀ x ∈ v, x ≤ 90001) {x0 x1 x6 x7 x8 x9 x10 : Option OV} :
    ∃ x6' x7' x8' x9' x10', l_law_3 (Sx v k x0 x1 (some (.p (.int s))) x6 x7 x8 x9 x10) = some (.nx, Sx v k x0 x1 (some (.p (.int s))) x6' x7' x8' x9' x10') := by
  have h5 := h.five
  have s1 := seats_ok h hs hs2 k (by omega)
  have s2 := lseats_ok h hs hs2 k (by omega)
  have s3 := seats_ok h hs hs2 (k + 1) (by omega)
  have v3 : Vt (v.map fun x => 3 * x) := by
    refine ⟨by rw [List.length_map]; exact h.one, by rw [List.length_map]; exact h.five, fun x hx => ?_, fun x hx => ?_⟩
    · obtain ⟨y, hy, rfl⟩ := List.mem_map.mp hx
      have := h.pos y hy
      omega
    · obtain ⟨y, hy, rfl⟩ := List.mem_map.mp hx
      have := h9 y hy
      omega
  have s4 := seats_ok v3 hs hs2 k (by omega)
  rw [scale_seats h] at s4
  simp only [iT, List.map_map, Function.comp_def] at s4
  have g := seats_gs (s := s) h k
  have g1 := seats_gs (s := s) h (k + 1)
  have sm := sameI (l := seatsF v s k) (by rw [g.len]; omega)
  have mn := more_nil h hk hs hs2
  obtain ⟨s', e, x7', x8', x9', rfl⟩ := forL_keep (o := eO 16 []) (tg := .nm 7) (body := l_law_2) eN (fun s' => ∃ x7 x8 x9, s' = Sx v k x0 x1 (some (.p (.int s))) (some (.p (iT (seatsF v s k)))) x7 x8 x9 x10) (List.range v.length) (Sx v k x0 x1 (some (.p (.int s))) (some (.p (iT (seatsF v s k)))) x7 x8 x9 x10) (by
    rintro i hi s' ⟨x7, x8, x9, rfl⟩
    obtain ⟨x8', x9', e⟩ := l2_ok h hk hs hs2 (x0 := x0) (x1 := x1) (x8 := x8) (x9 := x9) (x10 := x10) (List.mem_range.mp hi)
    exact ⟨_, _, st_nm _ _ _ _ _, e, _, _, _, rfl⟩) ⟨x7, x8, x9, rfl⟩
  have hl1 : (seatsF v s (k + 1)).length = v.length := g1.len
  have hl0 : (seatsF v s k).length = v.length := g.len
  have hsum := g1.sum
  have mf : ∀ x ∈ v, mulOk 3 x = true := fun x hx => mulOk_of (a := 2) (b := 20) (by decide) (by have := h.pos x hx; have := h.le x hx; omega)
  refine ⟨some (.p (iT (seatsF v s k))), x7', x8', x9', some (.p (iT (seatsF v s (k + 1)))), ?_⟩
  have hk1 : ((k + 1 : Nat) : Int) = (k : Int) + 1 := by omega
  rw [hk1] at s3 hsum
  unfold l_law_3
  simp +contextual -implicitDefEqProofs (maxDischargeDepth := 9) [in_mem, lt_rng, LIM_eq, Function.comp_def, s1, s2, sm, show v.length ≤ 100000 by omega, e, s3, hl1, hl0, mn, hsum, mf, s4]
end
theorem keys_sort {v : List Int} {k : Nat} (h : Vt v) (hk : k ≤ 40) : lSortA [.list ((List.range v.length).map fun a => PyData.tuple [.int (-((k : Int) * nth v a - ((k : Int) * nth v a).fdiv v.sum * v.sum)), eN a])] = some ((srtP (keyF v k)).map prT) := by
  have e := v_sortPr (fun a : Nat => ((-((k : Int) * nth v a - ((k : Int) * nth v a).fdiv v.sum * v.sum) : Int), (a : Int))) (List.range v.length)
  have e2 : (List.range v.length).map (fun a : Nat => ((-((k : Int) * nth v a - ((k : Int) * nth v a).fdiv v.sum * v.sum) : Int), (a : Int))) = keyF v k := by
    unfold keyF
    refine List.map_congr_left fun i hi => ?_
    have := key_eq h (show 0 ≤ (k : Int) by omega) (by omega) i (List.mem_range.mp hi)
    unfold flF at this
    rw [nth_map _ _ _ (List.mem_range.mp hi)] at this
    rw [← this]
    simp
  rw [e2] at e
  exact e
theorem law_true : ∀ ns : List Int, ns.length ≤ 63 → ∃ st', b_law (lawEnv 16 ns) = some (.rt (.p (.bool true)), st') := by
  intro ns hl
  have p0 : Pool 1001 (pool0 ns) := ⟨ns, 0, 0, 0, saltOf ns, rfl, by decide, by decide, (salt_b ns).1, (salt_b ns).2⟩
  obtain ⟨v, ov1, e1, p1, h1, h5, hv⟩ := votes_ok (f := 900) (p0.mono (by omega))
  obtain ⟨w, ov2, e2, p2, w0, w1⟩ := draw_ok (f := 899) (n := 40) p1 (by decide) (by decide)
  obtain ⟨k, rfl⟩ := nat_of w0
  have h : Vt v := ⟨h1, h5, fun x hx => (hv x hx).1, fun x hx => by have := (hv x hx).2; omega⟩
  have h9 : ∀ x ∈ v, x ≤ 90001 := fun x hx => by have := (hv x hx).2; omega
  have hk : k ≤ 40 := by omega
  obtain ⟨s', e3, x5, x6, x7, x8, x9, x10, rfl⟩ := forL_keepP (o := eO 16 []) (tg := .nm 5) (body := l_law_3) (fun s' => ∃ x5 x6 x7 x8 x9 x10, s' = Sx v k none (some ov2) x5 x6 x7 x8 x9 x10) [.int 0, .int 1, .int 2] (Sx v k none (some ov2) none none none none none none) (by
    rintro p hp s' ⟨x5, x6, x7, x8, x9, x10, rfl⟩
    obtain ⟨s, hs, hs2, rfl⟩ : ∃ s : Int, 0 ≤ s ∧ s ≤ 2 ∧ p = .int s := by
      simp only [List.mem_cons, List.not_mem_nil, or_false] at hp
      rcases hp with rfl | rfl | rfl
      · exact ⟨0, by decide, by decide, rfl⟩
      · exact ⟨1, by decide, by decide, rfl⟩
      · exact ⟨2, by decide, by decide, rfl⟩
    obtain ⟨x6', x7', x8', x9', x10', e⟩ := l3_ok h hk hs hs2 h9 (x0 := none) (x1 := some ov2) (x6 := x6) (x7 := x7) (x8 := x8) (x9 := x9) (x10 := x10)
    exact ⟨_, _, st_nm _ _ _ _ _, e, _, _, _, _, _, _, rfl⟩) ⟨none, none, none, none, none, none, rfl⟩
  obtain ⟨t, ht⟩ := rest_t h (k : Int)
  have br := rests_ok (k := k) h (by omega) (by omega) ht
  have mf := mul_facts (k := k) h (by omega) (by omega)
  have df := div_fact (k := k) h (by omega) (by omega)
  have sp := sum_pos h
  have mfi : ∀ i < v.length, mulOk (k : Int) (nth v i) = true := fun i hi => mf _ (nth_mem hi)
  have w0 : v.sum ≠ 0 := by omega
  have ks := keys_sort h hk
  have sm := sameI (l := restF v k t) (by unfold restF; rw [addF_len]; unfold flF; rw [List.length_map]; omega)
  have mg : ∀ i < v.length, mulOk ((k * nth v i).fdiv v.sum) v.sum = true := fun i hi => by
    have a1 := h.at hi
    have a2 := Int.mul_fdiv_add_fmod (k * nth v i) v.sum
    have a3 := Int.fmod_nonneg_of_pos (k * nth v i) (show 0 < v.sum by omega)
    have a4 : 0 ≤ (k * nth v i).fdiv v.sum := Int.fdiv_nonneg (Int.mul_nonneg (by omega) (by omega)) (by omega)
    have a5 : (k * nth v i) ≤ 40 * 300000 := Int.mul_le_mul (by omega) a1.2 (by omega) (by decide)
    have a6 : 1 * (k * nth v i).fdiv v.sum ≤ v.sum * (k * nth v i).fdiv v.sum := Int.mul_le_mul_of_nonneg_right sp.1 a4
    exact mulOk_of (a := 30) (b := 30) (by omega) (by omega)
  obtain ⟨s', e4, gs, x14, x7', hl2, hf, rfl⟩ := forL_left (o := eO 16 []) (tg := .tp [14, 7]) (body := l_law_4) prT (fun l s' => ∃ (gs : List Int) (x14 x7 : Option OV), gs.length = v.length ∧ addF gs l = restF v k t ∧ s' = [none, some ov2, some (.p (iT v)), some (.p (.int (k : Int))), some (.p (.int (v.length : Int))), x5, x6, x7, x8, x9, x10, some (.p (.int v.sum)), some (oL gs), some (.p (.list ((srtP (keyF v k)).map prT))), x14, none])
    ((srtP (keyF v k)).take t) [none, some ov2, some (.p (iT v)), some (.p (.int (k : Int))), some (.p (.int (v.length : Int))), x5, x6, x7, x8, x9, x10, some (.p (.int v.sum)), some (oL (flF v k)), some (.p (.list ((srtP (keyF v k)).map prT))), none, none] (by
      rintro c l s' ⟨gs, x14, x7, hl, hf, rfl⟩ hc
      obtain ⟨i, hi, ei⟩ := srt_keys hc
      have hi2 : i < gs.length := by omega
      refine ⟨[none, some ov2, some (.p (iT v)), some (.p (.int (k : Int))), some (.p (.int (v.length : Int))), x5, x6, some (.p (.int c.2)), x8, x9, x10, some (.p (.int v.sum)), some (oL gs), some (.p (.list ((srtP (keyF v k)).map prT))), some (.p (.int c.1)), none], _, by simp [prT], ?_, upF gs i, some (.p (.int c.1)), some (.p (.int c.2)), by rw [upF_len, hl], ?_, rfl⟩
      · rw [ei]
        unfold l_law_4
        simp [hi2, upF]
      · rw [← hf]
        show _ = addF (upF gs c.2.toNat) l
        rw [ei]
        rfl) ⟨flF v k, none, x7, by unfold flF; simp, rfl, rfl⟩
  have hf : gs = restF v k t := hf
  subst hf
  rw [List.map_take] at e4
  unfold flF at e4 ht
  simp only [oL, List.map_map, Function.comp_def, iT] at e4
  unfold b_law lawEnv
  simp +contextual -implicitDefEqProofs (maxDischargeDepth := 9) [in_mem, lt_rng, LIM_eq, Function.comp_def, e1, e2, e3, mf, mfi, mg, df, w0, show v.length ≤ 100000 by omega, ks, ht, e4, br, sm]
end My

set_option Elab.async false
set_option linter.all false
set_option maxRecDepth 100000
set_option maxHeartbeats 4000000
namespace My
open PySem PySem.Spec
open PyProof.Rows hiding St
open L2 L3 L5 L6 L7 L9
def topS (i : Nat) : Stmt := PySem.Challenge.pw_sharewright_k48_whole_seats.main.body.getD i (.Pass ⟨0, 0, 0, 0⟩)
abbrev s_counts_more : Stmt := topS 1
abbrev N_counts_more : List Str := ["votes", "step", "given", "i", "j", "mine", "yours"]
theorem sc_counts_more : FnScope N_counts_more ["votes", "step", "given", "i", "j"] (defScope s_counts_more) := ⟨rfl, rfl, rfl, by decide +kernel, rfl, by decide +kernel, by decide +kernel⟩
abbrev s_next_party : Stmt := topS 2
abbrev N_next_party : List Str := ["votes", "step", "given", "best", "party"]
theorem sc_next_party : FnScope N_next_party ["votes", "step", "given"] (defScope s_next_party) := ⟨rfl, rfl, rfl, by decide +kernel, rfl, by decide +kernel, by decide +kernel⟩
abbrev s_seats : Stmt := topS 3
abbrev N_seats : List Str := ["votes", "number", "step", "given", "k"]
theorem sc_seats : FnScope N_seats ["votes", "number", "step"] (defScope s_seats) := ⟨rfl, rfl, rfl, by decide +kernel, rfl, by decide +kernel, by decide +kernel⟩
abbrev s_by_rests : Stmt := topS 4
abbrev N_by_rests : List Str := ["votes", "number", "whole", "given", "order", "party", "one"]
theorem sc_by_rests : FnScope N_by_rests ["votes", "number"] (defScope s_by_rests) := ⟨rfl, rfl, rfl, by decide +kernel, rfl, by decide +kernel, by decide +kernel⟩
abbrev s__law_same : Stmt := topS 6
abbrev N__law_same : List Str := ["actual", "due", "k"]
theorem sc__law_same : FnScope N__law_same ["actual", "due"] (defScope s__law_same) := ⟨rfl, rfl, rfl, by decide +kernel, rfl, by decide +kernel, by decide +kernel⟩
abbrev s__law_pool : Stmt := topS 7
abbrev N__law_pool : List Str := ["script", "salt", "cell"]
theorem sc__law_pool : FnScope N__law_pool ["script"] (defScope s__law_pool) := ⟨rfl, rfl, rfl, by decide +kernel, rfl, by decide +kernel, by decide +kernel⟩
abbrev s__law_spread : Stmt := topS 8
abbrev N__law_spread : List Str := ["cell", "blended", "summed", "k"]
theorem sc__law_spread : FnScope N__law_spread ["cell"] (defScope s__law_spread) := ⟨rfl, rfl, rfl, by decide +kernel, rfl, by decide +kernel, by decide +kernel⟩
abbrev s__law_draw : Stmt := topS 9
abbrev N__law_draw : List Str := ["pool", "many", "cell", "blended", "value"]
theorem sc__law_draw : FnScope N__law_draw ["pool", "many"] (defScope s__law_draw) := ⟨rfl, rfl, rfl, by decide +kernel, rfl, by decide +kernel, by decide +kernel⟩
abbrev s__law_counts_more : Stmt := topS 10
abbrev N__law_counts_more : List Str := ["votes", "step", "given", "i", "j", "one", "two"]
theorem sc__law_counts_more : FnScope N__law_counts_more ["votes", "step", "given", "i", "j"] (defScope s__law_counts_more) := ⟨rfl, rfl, rfl, by decide +kernel, rfl, by decide +kernel, by decide +kernel⟩
abbrev s__law_seats : Stmt := topS 11
abbrev N__law_seats : List Str := ["votes", "number", "step", "given", "k", "best", "i"]
theorem sc__law_seats : FnScope N__law_seats ["votes", "number", "step"] (defScope s__law_seats) := ⟨rfl, rfl, rfl, by decide +kernel, rfl, by decide +kernel, by decide +kernel⟩
abbrev s__law_votes : Stmt := topS 12
abbrev N__law_votes : List Str := ["pool", "most", "k"]
theorem sc__law_votes : FnScope N__law_votes ["pool"] (defScope s__law_votes) := ⟨rfl, rfl, rfl, by decide +kernel, rfl, by decide +kernel, by decide +kernel⟩
abbrev s_law : Stmt := topS 13
abbrev N_law : List Str := ["script", "pool", "votes", "number", "n", "step", "told", "i", "j", "last", "more", "whole", "given", "rests", "rest", "v"]
theorem sc_law : FnScope N_law ["script"] (defScope s_law) := ⟨rfl, rfl, rfl, by decide +kernel, rfl, by decide +kernel, by decide +kernel⟩

structure Top (K : Fg) (mg : Str → Option Value) where
  n_bool : mg "bool" = none
  n_int : mg "int" = none
  n_isinstance : mg "isinstance" = none
  n_len : mg "len" = none
  n_list : mg "list" = none
  n_range : mg "range" = none
  n_sorted : mg "sorted" = none
  n_str : mg "str" = none
  n_sum : mg "sum" = none
  n_tuple : mg "tuple" = none
  a_counts_more : Addr
  d_counts_more : FuncData
  F_counts_more : Fun K "counts_more" "counts_more" s_counts_more a_counts_more d_counts_more
  m_counts_more : mg "counts_more" = some (.ref a_counts_more)
  b_counts_more : Binds K d_counts_more ["votes", "step", "given", "i", "j"] []
  a_next_party : Addr
  d_next_party : FuncData
  F_next_party : Fun K "next_party" "next_party" s_next_party a_next_party d_next_party
  m_next_party : mg "next_party" = some (.ref a_next_party)
  b_next_party : Binds K d_next_party ["votes", "step", "given"] []
  a_seats : Addr
  d_seats : FuncData
  F_seats : Fun K "seats" "seats" s_seats a_seats d_seats
  m_seats : mg "seats" = some (.ref a_seats)
  b_seats : Binds K d_seats ["votes", "number", "step"] []
  a_by_rests : Addr
  d_by_rests : FuncData
  F_by_rests : Fun K "by_rests" "by_rests" s_by_rests a_by_rests d_by_rests
  m_by_rests : mg "by_rests" = some (.ref a_by_rests)
  b_by_rests : Binds K d_by_rests ["votes", "number"] []
  a__law_same : Addr
  d__law_same : FuncData
  F__law_same : Fun K "_law_same" "_law_same" s__law_same a__law_same d__law_same
  m__law_same : mg "_law_same" = some (.ref a__law_same)
  b__law_same : Binds K d__law_same ["actual", "due"] []
  a__law_pool : Addr
  d__law_pool : FuncData
  F__law_pool : Fun K "_law_pool" "_law_pool" s__law_pool a__law_pool d__law_pool
  m__law_pool : mg "_law_pool" = some (.ref a__law_pool)
  b__law_pool : Binds K d__law_pool ["script"] []
  a__law_spread : Addr
  d__law_spread : FuncData
  F__law_spread : Fun K "_law_spread" "_law_spread" s__law_spread a__law_spread d__law_spread
  m__law_spread : mg "_law_spread" = some (.ref a__law_spread)
  b__law_spread : Binds K d__law_spread ["cell"] []
  a__law_draw : Addr
  d__law_draw : FuncData
  F__law_draw : Fun K "_law_draw" "_law_draw" s__law_draw a__law_draw d__law_draw
  m__law_draw : mg "_law_draw" = some (.ref a__law_draw)
  b__law_draw : Binds K d__law_draw ["pool", "many"] []
  a__law_counts_more : Addr
  d__law_counts_more : FuncData
  F__law_counts_more : Fun K "_law_counts_more" "_law_counts_more" s__law_counts_more a__law_counts_more d__law_counts_more
  m__law_counts_more : mg "_law_counts_more" = some (.ref a__law_counts_more)
  b__law_counts_more : Binds K d__law_counts_more ["votes", "step", "given", "i", "j"] []
  a__law_seats : Addr
  d__law_seats : FuncData
  F__law_seats : Fun K "_law_seats" "_law_seats" s__law_seats a__law_seats d__law_seats
  m__law_seats : mg "_law_seats" = some (.ref a__law_seats)
  b__law_seats : Binds K d__law_seats ["votes", "number", "step"] []
  a__law_votes : Addr
  d__law_votes : FuncData
  F__law_votes : Fun K "_law_votes" "_law_votes" s__law_votes a__law_votes d__law_votes
  m__law_votes : mg "_law_votes" = some (.ref a__law_votes)
  b__law_votes : Binds K d__law_votes ["pool"] []
  a_law : Addr
  d_law : FuncData
  F_law : Fun K "law" "law" s_law a_law d_law
  m_law : mg "law" = some (.ref a_law)
  b_law : Binds K d_law ["script"] []
  c_by_rests : Addr
  e_by_rests : d_by_rests.code = .ref c_by_rests
structure Tbs {K : Fg} {mg : Str → Option Value} (TT : Top K mg) (base : Heap) : Prop where
  t_by_rests : GxR.TabB base mg TT.c_by_rests (tabOf K TT.c_by_rests)
abbrev TL {K : Fg} {mg : Str → Option Value} (TT : Top K mg) : List Addr := [tabOf K TT.c_by_rests]
theorem tl_by_rests {K : Fg} {mg : Str → Option Value} (TT : Top K mg) : tabOf K TT.c_by_rests ∈ TL TT := by unfold TL; simp
section
variable {P : Program} {w : World} {K : Fg} {mg : Str → Option Value} {base : Heap}
theorem ok_counts_more (TT : Top K mg) (tb : Tbs TT base) : FnOk P w K mg base CX0 1 TT.a_counts_more TT.d_counts_more ["votes", "step", "given", "i", "j"] (spP K (TL TT) 5 g_counts_more) := by
  show FnOk P w K mg base CX0 1 TT.a_counts_more TT.d_counts_more ["votes", "step", "given", "i", "j"] (spP K (TL TT) (["votes", "step", "given", "i", "j"] : List Str).length (runP N_counts_more.length b_counts_more))
  refine fn_pure TT.F_counts_more sc_counts_more fun cdv hcd A outer s H E hr => ?_
  unfold b_counts_more
  exact (ss_cons (s_par (i := 5) (j := 6) rfl sc_counts_more.nd (by rfl) (by rfl) (by decide) (by rfl) (by rfl) (a_cons (e_P (g_op op_addAll ad_add (g_op op_mulAll ad_mul g_int (g_ix ix_all ad_ix (g_var 2 (by rfl) (by first | exact Or.inl rfl | exact Or.inr (Or.inl rfl) | exact Or.inr (Or.inr rfl))) (g_var 3 (by rfl) (by first | exact Or.inl rfl | exact Or.inr (Or.inl rfl) | exact Or.inr (Or.inr rfl))) (fun _ _ => rfl))) (g_var 1 (by rfl) (by first | exact Or.inl rfl | exact Or.inr (Or.inl rfl) | exact Or.inr (Or.inr rfl))))) (a_cons (e_P (g_op op_addAll ad_add (g_op op_mulAll ad_mul g_int (g_ix ix_all ad_ix (g_var 2 (by rfl) (by first | exact Or.inl rfl | exact Or.inr (Or.inl rfl) | exact Or.inr (Or.inr rfl))) (g_var 4 (by rfl) (by first | exact Or.inl rfl | exact Or.inr (Or.inl rfl) | exact Or.inr (Or.inr rfl))) (fun _ _ => rfl))) (g_var 1 (by rfl) (by first | exact Or.inl rfl | exact Or.inr (Or.inl rfl) | exact Or.inr (Or.inr rfl))))) a_nil)) (by rfl)) (ss_cons (s_if (e_VT (PW.pt (g_or (g_cmpT (op_eqD hr.units) ad_eq bf_eq (g_var 5 (by rfl) (by first | exact Or.inl rfl | exact Or.inr (Or.inl rfl) | exact Or.inr (Or.inr rfl))) g_int (nomark _)) (g_or1 (g_cmpT (op_eqD hr.units) ad_eq bf_eq (g_var 6 (by rfl) (by first | exact Or.inl rfl | exact Or.inr (Or.inl rfl) | exact Or.inr (Or.inr rfl))) g_int (nomark _)))))) (ss_one (s_ret (o_of (e_P (g_andV (g_cmp (op_eqD hr.units) ad_eq (g_var 5 (by rfl) (by first | exact Or.inl rfl | exact Or.inr (Or.inl rfl) | exact Or.inr (Or.inr rfl))) g_int (nomark _)) (g_one (g_orV (g_cmp op_gt ad_gt (g_var 6 (by rfl) (by first | exact Or.inl rfl | exact Or.inr (Or.inl rfl) | exact Or.inr (Or.inr rfl))) g_int (nomark _)) (g_one (g_cmp op_gt ad_gt (g_ix ix_all ad_ix (g_var 0 (by rfl) (by first | exact Or.inl rfl | exact Or.inr (Or.inl rfl) | exact Or.inr (Or.inr rfl))) (g_var 3 (by rfl) (by first | exact Or.inl rfl | exact Or.inr (Or.inl rfl) | exact Or.inr (Or.inr rfl))) (fun _ _ => rfl)) (g_ix ix_all ad_ix (g_var 0 (by rfl) (by first | exact Or.inl rfl | exact Or.inr (Or.inl rfl) | exact Or.inr (Or.inr rfl))) (g_var 4 (by rfl) (by first | exact Or.inl rfl | exact Or.inr (Or.inl rfl) | exact Or.inr (Or.inr rfl))) (fun _ _ => rfl)) (nomark _)))))))))) ss_nil) (ss_one (s_ret (o_of (e_P (g_cmp op_gt ad_gt (g_op op_mulAll ad_mul (g_ix ix_all ad_ix (g_var 0 (by rfl) (by first | exact Or.inl rfl | exact Or.inr (Or.inl rfl) | exact Or.inr (Or.inr rfl))) (g_var 3 (by rfl) (by first | exact Or.inl rfl | exact Or.inr (Or.inl rfl) | exact Or.inr (Or.inr rfl))) (fun _ _ => rfl)) (g_var 6 (by rfl) (by first | exact Or.inl rfl | exact Or.inr (Or.inl rfl) | exact Or.inr (Or.inr rfl)))) (g_op op_mulAll ad_mul (g_ix ix_all ad_ix (g_var 0 (by rfl) (by first | exact Or.inl rfl | exact Or.inr (Or.inl rfl) | exact Or.inr (Or.inr rfl))) (g_var 4 (by rfl) (by first | exact Or.inl rfl | exact Or.inr (Or.inl rfl) | exact Or.inr (Or.inr rfl))) (fun _ _ => rfl)) (g_var 5 (by rfl) (by first | exact Or.inl rfl | exact Or.inr (Or.inl rfl) | exact Or.inr (Or.inr rfl)))) (nomark _))))))))
theorem ok_next_party (TT : Top K mg) (tb : Tbs TT base) : FnOk P w K mg base CX0 2 TT.a_next_party TT.d_next_party ["votes", "step", "given"] (spP K (TL TT) 3 g_next_party) := by
  show FnOk P w K mg base CX0 2 TT.a_next_party TT.d_next_party ["votes", "step", "given"] (spP K (TL TT) (["votes", "step", "given"] : List Str).length (runP N_next_party.length b_next_party))
  refine fn_pure TT.F_next_party sc_next_party fun cdv hcd A outer s H E hr => ?_
  unfold b_next_party
  exact (ss_cons (s_set (i := 3) sc_next_party.nd (by rfl) (by first | exact Or.inl rfl | exact Or.inr rfl) (o_of (e_P g_int))) (ss_cons (s_for PassesOwn.never rfl (i_range2 (by rfl) TT.n_range (a_cons (e_P g_int) (a_cons (e_P (g_callB call_len ad_len (by rfl) TT.n_len (by decide +kernel) (a_cons (g_var 0 (by rfl) (by first | exact Or.inl rfl | exact Or.inr (Or.inl rfl) | exact Or.inr (Or.inr rfl))) a_nil))) a_nil))) (t_name (i := 4) sc_next_party.nd (by rfl) (by first | exact Or.inl rfl | exact Or.inr rfl)) (ss_one (s_if (e_VT (g_truth (g_call hasT_p ((ok_counts_more TT tb).mono (by decide)) hr (by rfl) TT.m_counts_more TT.F_counts_more.kp TT.b_counts_more (a_cons (g_var 0 (by rfl) (by first | exact Or.inl rfl | exact Or.inr (Or.inl rfl) | exact Or.inr (Or.inr rfl))) (a_cons (g_var 1 (by rfl) (by first | exact Or.inl rfl | exact Or.inr (Or.inl rfl) | exact Or.inr (Or.inr rfl))) (a_cons (g_var 2 (by rfl) (by first | exact Or.inl rfl | exact Or.inr (Or.inl rfl) | exact Or.inr (Or.inr rfl))) (a_cons (g_var 4 (by rfl) (by first | exact Or.inl rfl | exact Or.inr (Or.inl rfl) | exact Or.inr (Or.inr rfl))) (a_cons (g_var 3 (by rfl) (by first | exact Or.inl rfl | exact Or.inr (Or.inl rfl) | exact Or.inr (Or.inr rfl))) a_nil)))))) (fun _ => rfl))) (ss_one (s_set (i := 3) sc_next_party.nd (by rfl) (by first | exact Or.inl rfl | exact Or.inr rfl) (o_of (e_P (g_var 4 (by rfl) (by first | exact Or.inl rfl | exact Or.inr (Or.inl rfl) | exact Or.inr (Or.inr rfl))))))) ss_nil))) (ss_one (s_ret (o_of (e_P (g_var 3 (by rfl) (by first | exact Or.inl rfl | exact Or.inr (Or.inl rfl) | exact Or.inr (Or.inr rfl)))))))))
theorem ok_seats (TT : Top K mg) (tb : Tbs TT base) : FnOk P w K mg base CX0 3 TT.a_seats TT.d_seats ["votes", "number", "step"] (spP K (TL TT) 3 g_seats) := by
  show FnOk P w K mg base CX0 3 TT.a_seats TT.d_seats ["votes", "number", "step"] (spP K (TL TT) (["votes", "number", "step"] : List Str).length (runP N_seats.length b_seats))
  refine fn_pure TT.F_seats sc_seats fun cdv hcd A outer s H E hr => ?_
  unfold b_seats
  exact (ss_cons (s_set (i := 3) sc_seats.nd (by rfl) (by first | exact Or.inl rfl | exact Or.inr rfl) (o_FP (f_op op_repR ad_lMul (g_lst (a_cons g_int a_nil)) (g_callB call_len ad_len (by rfl) TT.n_len (by decide +kernel) (a_cons (g_var 0 (by rfl) (by first | exact Or.inl rfl | exact Or.inr (Or.inl rfl) | exact Or.inr (Or.inr rfl))) a_nil))))) (ss_cons (s_for PassesOwn.never rfl (i_range1 (by rfl) TT.n_range (a_cons (e_P (g_var 1 (by rfl) (by first | exact Or.inl rfl | exact Or.inr (Or.inl rfl) | exact Or.inr (Or.inr rfl)))) a_nil)) (t_name (i := 4) sc_seats.nd (by rfl) (by first | exact Or.inl rfl | exact Or.inr rfl)) (ss_one (s_augI 3 (by rfl) (by first | exact Or.inl rfl | exact Or.inr (Or.inl rfl) | exact Or.inr (Or.inr rfl)) (e_V (g_call hasT_p ((ok_next_party TT tb).mono (by decide)) hr (by rfl) TT.m_next_party TT.F_next_party.kp TT.b_next_party (a_cons (g_var 0 (by rfl) (by first | exact Or.inl rfl | exact Or.inr (Or.inl rfl) | exact Or.inr (Or.inr rfl))) (a_cons (g_var 2 (by rfl) (by first | exact Or.inl rfl | exact Or.inr (Or.inl rfl) | exact Or.inr (Or.inr rfl))) (a_cons (g_var 3 (by rfl) (by first | exact Or.inl rfl | exact Or.inr (Or.inl rfl) | exact Or.inr (Or.inr rfl))) a_nil))))) (e_P g_int) ip_add ad_ipAdd))) (ss_one (s_ret (o_of (e_V (g_callTy call_tuple_of ad_tuple (by rfl) TT.n_tuple (by decide +kernel) (a_cons (g_var 3 (by rfl) (by first | exact Or.inl rfl | exact Or.inr (Or.inl rfl) | exact Or.inr (Or.inr rfl))) a_nil))))))))
theorem ok_by_rests (TT : Top K mg) (tb : Tbs TT base) : FnOk P w K mg base CX0 2 TT.a_by_rests TT.d_by_rests ["votes", "number"] (spP K (TL TT) 2 g_by_rests) := by
  show FnOk P w K mg base CX0 2 TT.a_by_rests TT.d_by_rests ["votes", "number"] (spP K (TL TT) (["votes", "number"] : List Str).length (runP N_by_rests.length b_by_rests))
  refine fn_pure TT.F_by_rests sc_by_rests fun cdv hcd A outer s H E hr => ?_
  unfold b_by_rests
  exact (ss_cons (s_set (i := 2) sc_by_rests.nd (by rfl) (by first | exact Or.inl rfl | exact Or.inr rfl) (o_of (e_P (g_callB (cr_sumA rfl) ad_sum (by rfl) TT.n_sum (by decide +kernel) (a_cons (g_callTy call_list_of ad_list (by rfl) TT.n_list (by decide +kernel) (a_cons (g_var 0 (by rfl) (by first | exact Or.inl rfl | exact Or.inr (Or.inl rfl) | exact Or.inr (Or.inr rfl))) a_nil)) a_nil))))) (ss_cons (s_setLcP (i := 3) (own := [("one", 6)]) rfl sc_by_rests.nd (by rfl) (by rfl) (sw_true rfl rfl rfl (by decide +kernel)) (i_val (g_var 0 (by rfl) (by first | exact Or.inl rfl | exact Or.inr (Or.inl rfl) | exact Or.inr (Or.inr rfl)))) (blkOk_by (own := [("one", 6)]) (N := N_by_rests) (sc := defScope s_by_rests) (by decide +kernel)) (fun _ _ _ _ _ => (t_name (i := 6) sc_by_rests.nd (by rfl) (by first | exact Or.inl rfl | exact Or.inr rfl))) (fun _ _ _ _ _ => c_nil) (fun _ _ _ _ _ => (g_op op_fdivG ad_div (g_op op_mulAll ad_mul (g_var 1 (by rfl) (by first | exact Or.inl rfl | exact Or.inr (Or.inl rfl) | exact Or.inr (Or.inr rfl))) (g_var 6 (by rfl) (by first | exact Or.inl rfl | exact Or.inr (Or.inl rfl) | exact Or.inr (Or.inr rfl)))) (g_var 2 (by rfl) (by first | exact Or.inl rfl | exact Or.inr (Or.inl rfl) | exact Or.inr (Or.inr rfl)))))) (ss_cons (s_set (i := 4) sc_by_rests.nd (by rfl) (by first | exact Or.inl rfl | exact Or.inr rfl) (o_of (e_P (g_ofF (f_sortKR (own := [("party", 5)]) (i := 5) hasT_p (tl_by_rests TT) rfl sc_by_rests.nd hr (by rfl) TT.n_sorted (by rfl) TT.n_range tb.t_by_rests (hcd.symm.trans TT.e_by_rests) (g_callB call_len ad_len (by rfl) TT.n_len (by decide +kernel) (a_cons (g_var 0 (by rfl) (by first | exact Or.inl rfl | exact Or.inr (Or.inl rfl) | exact Or.inr (Or.inr rfl))) a_nil)) (blkOk_by (own := [("party", 5)]) (N := N_by_rests) (sc := defScope s_by_rests) (by decide +kernel)) (by rfl) rfl rfl (by rfl) (by rfl) (fun _ _ _ _ _ _ => rfl) rfl (by rfl) (fun _ _ _ _ _ _ _ hr => (g_tup (a_cons (g_un un_neg ad_neg (g_op op_modN ad_mod (g_op op_mulAll ad_mul (g_var 1 (by rfl) (by first | exact Or.inl rfl | exact Or.inr (Or.inl rfl) | exact Or.inr (Or.inr rfl))) (g_ix ix_all ad_ix (g_var 0 (by rfl) (by first | exact Or.inl rfl | exact Or.inr (Or.inl rfl) | exact Or.inr (Or.inr rfl))) (g_var 5 (by rfl) (by first | exact Or.inl rfl | exact Or.inr (Or.inl rfl) | exact Or.inr (Or.inr rfl))) (fun _ _ => rfl))) (g_var 2 (by rfl) (by first | exact Or.inl rfl | exact Or.inr (Or.inl rfl) | exact Or.inr (Or.inr rfl))))) (a_cons (g_var 5 (by rfl) (by first | exact Or.inl rfl | exact Or.inr (Or.inl rfl) | exact Or.inr (Or.inr rfl))) a_nil))))))))) (ss_cons (s_for PassesOwn.never rfl (i_val (g_slice (e_P (g_var 4 (by rfl) (by first | exact Or.inl rfl | exact Or.inr (Or.inl rfl) | exact Or.inr (Or.inr rfl)))) s_none (s_some (e_V (g_op op_sub ad_sub (g_var 1 (by rfl) (by first | exact Or.inl rfl | exact Or.inr (Or.inl rfl) | exact Or.inr (Or.inr rfl))) (g_callB (cr_sumA rfl) ad_sum (by rfl) TT.n_sum (by decide +kernel) (a_cons (g_var 3 (by rfl) (by first | exact Or.inl rfl | exact Or.inr (Or.inl rfl) | exact Or.inr (Or.inr rfl))) a_nil))))))) (t_name (i := 5) sc_by_rests.nd (by rfl) (by first | exact Or.inl rfl | exact Or.inr rfl)) (ss_one (s_augI 3 (by rfl) (by first | exact Or.inl rfl | exact Or.inr (Or.inl rfl) | exact Or.inr (Or.inr rfl)) (e_P (g_var 5 (by rfl) (by first | exact Or.inl rfl | exact Or.inr (Or.inl rfl) | exact Or.inr (Or.inr rfl)))) (e_P g_int) ip_add ad_ipAdd))) (ss_one (s_ret (o_of (e_V (g_callTy call_tuple_of ad_tuple (by rfl) TT.n_tuple (by decide +kernel) (a_cons (g_var 3 (by rfl) (by first | exact Or.inl rfl | exact Or.inr (Or.inl rfl) | exact Or.inr (Or.inr rfl))) a_nil))))))))))
theorem okN__law_same (TT : Top K mg) (tb : Tbs TT base) : ∀ j : Nat, FnOk P w K mg base CX0 (1 + j) TT.a__law_same TT.d__law_same ["actual", "due"] (spP K (TL TT) 2 (gN__law_same j))
  | 0 => fn_none (by rfl)
  | j + 1 => by
    have ih := okN__law_same TT tb j
    show FnOk P w K mg base CX0 (1 + j + 1) TT.a__law_same TT.d__law_same ["actual", "due"] (spP K (TL TT) (["actual", "due"] : List Str).length (runP N__law_same.length (b__law_same (gN__law_same j))))
    refine fn_pure TT.F__law_same sc__law_same fun cdv hcd A outer s H E hr => ?_
    unfold b__law_same
    exact (ss_cons (s_if (e_VT (PW.pt (g_or (g_truth (g_isi (T := "tuple") (by decide +kernel) (by rfl) TT.n_isinstance (by rfl) TT.n_tuple (by decide +kernel) (g_var 1 (by rfl) (by first | exact Or.inl rfl | exact Or.inr (Or.inl rfl) | exact Or.inr (Or.inr rfl)))) (fun _ => rfl)) (g_or1 (g_truth (g_isi (T := "list") (by decide +kernel) (by rfl) TT.n_isinstance (by rfl) TT.n_list (by decide +kernel) (g_var 1 (by rfl) (by first | exact Or.inl rfl | exact Or.inr (Or.inl rfl) | exact Or.inr (Or.inr rfl)))) (fun _ => rfl)))))) (ss_cons (s_if (e_VT (PW.pt (g_or (g_cmpT (op_neD hr.units) ad_ne bf_ne (g_isi (T := "tuple") (by decide +kernel) (by rfl) TT.n_isinstance (by rfl) TT.n_tuple (by decide +kernel) (g_var 1 (by rfl) (by first | exact Or.inl rfl | exact Or.inr (Or.inl rfl) | exact Or.inr (Or.inr rfl)))) (g_isi (T := "tuple") (by decide +kernel) (by rfl) TT.n_isinstance (by rfl) TT.n_tuple (by decide +kernel) (g_var 0 (by rfl) (by first | exact Or.inl rfl | exact Or.inr (Or.inl rfl) | exact Or.inr (Or.inr rfl)))) (nomark _)) (g_or1 (g_cmpT (op_neD hr.units) ad_ne bf_ne (g_isi (T := "list") (by decide +kernel) (by rfl) TT.n_isinstance (by rfl) TT.n_list (by decide +kernel) (g_var 1 (by rfl) (by first | exact Or.inl rfl | exact Or.inr (Or.inl rfl) | exact Or.inr (Or.inr rfl)))) (g_isi (T := "list") (by decide +kernel) (by rfl) TT.n_isinstance (by rfl) TT.n_list (by decide +kernel) (g_var 0 (by rfl) (by first | exact Or.inl rfl | exact Or.inr (Or.inl rfl) | exact Or.inr (Or.inr rfl)))) (nomark _)))))) (ss_one (s_ret (o_of (e_P g_bl)))) ss_nil) (ss_cons (s_if (e_VT (g_cmpT (op_neD hr.units) ad_ne bf_ne (g_callB call_len ad_len (by rfl) TT.n_len (by decide +kernel) (a_cons (g_var 0 (by rfl) (by first | exact Or.inl rfl | exact Or.inr (Or.inl rfl) | exact Or.inr (Or.inr rfl))) a_nil)) (g_callB call_len ad_len (by rfl) TT.n_len (by decide +kernel) (a_cons (g_var 1 (by rfl) (by first | exact Or.inl rfl | exact Or.inr (Or.inl rfl) | exact Or.inr (Or.inr rfl))) a_nil)) (nomark _))) (ss_one (s_ret (o_of (e_P g_bl)))) ss_nil) (ss_one (s_ret (o_of (e_P (g_cmp (op_eqD hr.units) ad_eq (g_callB call_len ad_len (by rfl) TT.n_len (by decide +kernel) (a_cons (g_lc (own := [("k", 2)]) rfl sc__law_same.nd (i_range1 (by rfl) TT.n_range (a_cons (g_callB call_len ad_len (by rfl) TT.n_len (by decide +kernel) (a_cons (g_var 1 (by rfl) (by first | exact Or.inl rfl | exact Or.inr (Or.inl rfl) | exact Or.inr (Or.inr rfl))) a_nil)) a_nil)) (blkOk_by (own := [("k", 2)]) (N := N__law_same) (sc := defScope s__law_same) (by decide +kernel)) (fun _ _ _ _ _ => (t_name (i := 2) sc__law_same.nd (by rfl) (by first | exact Or.inl rfl | exact Or.inr rfl))) (fun _ _ _ _ _ => (c_one (g_notT (g_truth (g_call hasT_p (ih) hr (by rfl) TT.m__law_same TT.F__law_same.kp TT.b__law_same (a_cons (g_ix ix_all ad_ix (g_var 0 (by rfl) (by first | exact Or.inl rfl | exact Or.inr (Or.inl rfl) | exact Or.inr (Or.inr rfl))) (g_var 2 (by rfl) (by first | exact Or.inl rfl | exact Or.inr (Or.inl rfl) | exact Or.inr (Or.inr rfl))) (fun _ _ => rfl)) (a_cons (g_ix ix_all ad_ix (g_var 1 (by rfl) (by first | exact Or.inl rfl | exact Or.inr (Or.inl rfl) | exact Or.inr (Or.inr rfl))) (g_var 2 (by rfl) (by first | exact Or.inl rfl | exact Or.inr (Or.inl rfl) | exact Or.inr (Or.inr rfl))) (fun _ _ => rfl)) a_nil))) (fun _ => rfl))))) (fun _ _ _ _ _ => (g_var 2 (by rfl) (by first | exact Or.inl rfl | exact Or.inr (Or.inl rfl) | exact Or.inr (Or.inr rfl))))) a_nil)) g_int (nomark _)))))))) ss_nil) (ss_cons (s_if (e_VT (g_cmpT op_isN ad_is bf_is (g_var 1 (by rfl) (by first | exact Or.inl rfl | exact Or.inr (Or.inl rfl) | exact Or.inr (Or.inr rfl))) g_non (nomark _))) (ss_one (s_ret (o_of (e_P (g_cmp op_isN ad_is (g_var 0 (by rfl) (by first | exact Or.inl rfl | exact Or.inr (Or.inl rfl) | exact Or.inr (Or.inr rfl))) g_non (nomark _)))))) ss_nil) (ss_cons (s_if (e_VT (PW.pt (g_or (g_truth (g_isi (T := "bool") (by decide +kernel) (by rfl) TT.n_isinstance (by rfl) TT.n_bool (by decide +kernel) (g_var 1 (by rfl) (by first | exact Or.inl rfl | exact Or.inr (Or.inl rfl) | exact Or.inr (Or.inr rfl)))) (fun _ => rfl)) (g_or1 (g_truth (g_isi (T := "bool") (by decide +kernel) (by rfl) TT.n_isinstance (by rfl) TT.n_bool (by decide +kernel) (g_var 0 (by rfl) (by first | exact Or.inl rfl | exact Or.inr (Or.inl rfl) | exact Or.inr (Or.inr rfl)))) (fun _ => rfl)))))) (ss_one (s_ret (o_of (e_P (g_andV (g_isi (T := "bool") (by decide +kernel) (by rfl) TT.n_isinstance (by rfl) TT.n_bool (by decide +kernel) (g_var 1 (by rfl) (by first | exact Or.inl rfl | exact Or.inr (Or.inl rfl) | exact Or.inr (Or.inr rfl)))) (g_andV (g_isi (T := "bool") (by decide +kernel) (by rfl) TT.n_isinstance (by rfl) TT.n_bool (by decide +kernel) (g_var 0 (by rfl) (by first | exact Or.inl rfl | exact Or.inr (Or.inl rfl) | exact Or.inr (Or.inr rfl)))) (g_one (g_cmp (op_eqD hr.units) ad_eq (g_var 0 (by rfl) (by first | exact Or.inl rfl | exact Or.inr (Or.inl rfl) | exact Or.inr (Or.inr rfl))) (g_var 1 (by rfl) (by first | exact Or.inl rfl | exact Or.inr (Or.inl rfl) | exact Or.inr (Or.inr rfl))) (nomark _))))))))) ss_nil) (ss_cons (s_if (e_VT (g_truth (g_isi (T := "int") (by decide +kernel) (by rfl) TT.n_isinstance (by rfl) TT.n_int (by decide +kernel) (g_var 1 (by rfl) (by first | exact Or.inl rfl | exact Or.inr (Or.inl rfl) | exact Or.inr (Or.inr rfl)))) (fun _ => rfl))) (ss_one (s_ret (o_of (e_P (g_andV (g_isi (T := "int") (by decide +kernel) (by rfl) TT.n_isinstance (by rfl) TT.n_int (by decide +kernel) (g_var 0 (by rfl) (by first | exact Or.inl rfl | exact Or.inr (Or.inl rfl) | exact Or.inr (Or.inr rfl)))) (g_one (g_cmp (op_eqD hr.units) ad_eq (g_var 0 (by rfl) (by first | exact Or.inl rfl | exact Or.inr (Or.inl rfl) | exact Or.inr (Or.inr rfl))) (g_var 1 (by rfl) (by first | exact Or.inl rfl | exact Or.inr (Or.inl rfl) | exact Or.inr (Or.inr rfl))) (nomark _)))))))) ss_nil) (ss_one (s_ret (o_of (e_P (g_andV (g_isi (T := "str") (by decide +kernel) (by rfl) TT.n_isinstance (by rfl) TT.n_str (by decide +kernel) (g_var 0 (by rfl) (by first | exact Or.inl rfl | exact Or.inr (Or.inl rfl) | exact Or.inr (Or.inr rfl)))) (g_one (g_cmp (op_eqD hr.units) ad_eq (g_var 0 (by rfl) (by first | exact Or.inl rfl | exact Or.inr (Or.inl rfl) | exact Or.inr (Or.inr rfl))) (g_var 1 (by rfl) (by first | exact Or.inl rfl | exact Or.inr (Or.inl rfl) | exact Or.inr (Or.inr rfl))) (nomark _))))))))))))
theorem ok__law_same (TT : Top K mg) (tb : Tbs TT base) : FnOk P w K mg base CX0 9 TT.a__law_same TT.d__law_same ["actual", "due"] (spP K (TL TT) 2 g__law_same) := okN__law_same TT tb 8
theorem ok__law_pool (TT : Top K mg) (tb : Tbs TT base) : FnOk P w K mg base CX0 1 TT.a__law_pool TT.d__law_pool ["script"] (spPool K) := by
  refine TT.F__law_pool.ok sc__law_pool (fun vs H Q E ⟨a, ns, e, _⟩ => by rw [e]; rfl) fun cdv A outer s H vs Q E hr ⟨a, ns, ev, hS, hl, q⟩ => ⟨_, pss_cons (ps_set (i := 1) sc__law_pool.nd rfl (.inl rfl) pe_int) (pss_cons (ps_for PassesOwn.never rfl (pi_list (pe_slice sl_list (pv 0) po_none (po_some pe_int))) (pg_name (i := 2) sc__law_pool.nd rfl (.inl rfl))
    (pss_one (ps_set (i := 1) sc__law_pool.nd rfl (.inl rfl) (pe_op op_modN (pe_callTy call_int1 (by rfl) TT.n_int (by decide +kernel) (pa_cons (pe_op op_add (pe_op op_mulW (pv 1) pe_int) (pv 2)) pa_nil)) pe_int))))
    (pss_one (ps_ret (pe_lst (pa_cons (pe_callTy call_list_of (by rfl) TT.n_list (by decide +kernel) (pa_cons (pv 0) pa_nil)) (pa_cons pe_int (pa_cons pe_int (pa_cons pe_int (pa_cons (pv 1) pa_nil))))))))), ?_⟩
  subst ev
  exact pool_reads hS hl q
theorem ok__law_spread (TT : Top K mg) (tb : Tbs TT base) : FnOk P w K mg base CX0 1 TT.a__law_spread TT.d__law_spread ["cell"] (spP K (TL TT) 1 g__law_spread) := by
  show FnOk P w K mg base CX0 1 TT.a__law_spread TT.d__law_spread ["cell"] (spP K (TL TT) (["cell"] : List Str).length (runP N__law_spread.length b__law_spread))
  refine fn_pure TT.F__law_spread sc__law_spread fun cdv hcd A outer s H E hr => ?_
  unfold b__law_spread
  exact (ss_cons (s_set (i := 1) sc__law_spread.nd (by rfl) (by first | exact Or.inl rfl | exact Or.inr rfl) (o_of (e_P (g_op op_modN ad_mod (g_callTy call_int1 ad_cint (by rfl) TT.n_int (by decide +kernel) (a_cons (g_var 0 (by rfl) (by first | exact Or.inl rfl | exact Or.inr (Or.inl rfl) | exact Or.inr (Or.inr rfl))) a_nil)) g_int)))) (ss_cons (s_set (i := 2) sc__law_spread.nd (by rfl) (by first | exact Or.inl rfl | exact Or.inr rfl) (o_of (e_P g_int))) (ss_cons (s_for PassesOwn.never rfl (i_range1 (by rfl) TT.n_range (a_cons (e_P g_int) a_nil)) (t_name (i := 3) sc__law_spread.nd (by rfl) (by first | exact Or.inl rfl | exact Or.inr rfl)) (ss_cons (s_set (i := 1) sc__law_spread.nd (by rfl) (by first | exact Or.inl rfl | exact Or.inr rfl) (o_of (e_P (g_op op_modN ad_mod (g_callTy call_int1 ad_cint (by rfl) TT.n_int (by decide +kernel) (a_cons (g_op op_addAll ad_add (g_op op_addAll ad_add (g_op op_mulAll ad_mul (g_var 1 (by rfl) (by first | exact Or.inl rfl | exact Or.inr (Or.inl rfl) | exact Or.inr (Or.inr rfl))) g_int) g_int) (g_var 3 (by rfl) (by first | exact Or.inl rfl | exact Or.inr (Or.inl rfl) | exact Or.inr (Or.inr rfl)))) a_nil)) g_int)))) (ss_one (s_set (i := 2) sc__law_spread.nd (by rfl) (by first | exact Or.inl rfl | exact Or.inr rfl) (o_of (e_P (g_op op_addAll ad_add (g_op op_mulAll ad_mul (g_var 2 (by rfl) (by first | exact Or.inl rfl | exact Or.inr (Or.inl rfl) | exact Or.inr (Or.inr rfl))) g_int) (g_var 1 (by rfl) (by first | exact Or.inl rfl | exact Or.inr (Or.inl rfl) | exact Or.inr (Or.inr rfl)))))))))) (ss_one (s_ret (o_of (e_P (g_var 2 (by rfl) (by first | exact Or.inl rfl | exact Or.inr (Or.inl rfl) | exact Or.inr (Or.inr rfl))))))))))
theorem ok__law_draw (TT : Top K mg) (tb : Tbs TT base) : FnOk P w K mg base CX0 2 TT.a__law_draw TT.d__law_draw ["pool", "many"] (spR K (TL TT) 2 r__law_draw) := by
  show FnOk P w K mg base CX0 2 TT.a__law_draw TT.d__law_draw ["pool", "many"] (spR K (TL TT) (["pool", "many"] : List Str).length (runR N__law_draw.length b__law_draw))
  refine fn_ref TT.F__law_draw sc__law_draw fun cdv hcd A outer s H E hr => ?_
  unfold b__law_draw
  exact (ss_cons (s_if (e_VT (PW.pt (g_and (g_cmpT op_le ad_le bf_le (g_ix ix_all ad_ix (g_var 0 (by rfl) (by first | exact Or.inl rfl | exact Or.inr (Or.inl rfl) | exact Or.inr (Or.inr rfl))) g_int (fun _ _ => rfl)) g_int (nomark _)) (g_and1 (g_cmpT op_lt ad_lt bf_lt (g_ix ix_all ad_ix (g_var 0 (by rfl) (by first | exact Or.inl rfl | exact Or.inr (Or.inl rfl) | exact Or.inr (Or.inr rfl))) g_int (fun _ _ => rfl)) (g_callB call_len ad_len (by rfl) TT.n_len (by decide +kernel) (a_cons (g_ix ix_all ad_ix (g_var 0 (by rfl) (by first | exact Or.inl rfl | exact Or.inr (Or.inl rfl) | exact Or.inr (Or.inr rfl))) g_int (fun _ _ => rfl)) a_nil)) (nomark _)))))) (ss_cons (s_set (i := 2) sc__law_draw.nd (by rfl) (by first | exact Or.inl rfl | exact Or.inr rfl) (o_of (e_V (g_ix ix_all ad_ix (g_ix ix_all ad_ix (g_var 0 (by rfl) (by first | exact Or.inl rfl | exact Or.inr (Or.inl rfl) | exact Or.inr (Or.inr rfl))) g_int (fun _ _ => rfl)) (g_ix ix_all ad_ix (g_var 0 (by rfl) (by first | exact Or.inl rfl | exact Or.inr (Or.inl rfl) | exact Or.inr (Or.inr rfl))) g_int (fun _ _ => rfl)) (fun _ _ => rfl))))) (ss_cons (s_setI 0 (by rfl) (by first | exact Or.inl rfl | exact Or.inr (Or.inl rfl) | exact Or.inr (Or.inr rfl)) (o_of (e_V (g_op op_addAll ad_add (g_ix ix_all ad_ix (g_var 0 (by rfl) (by first | exact Or.inl rfl | exact Or.inr (Or.inl rfl) | exact Or.inr (Or.inr rfl))) g_int (fun _ _ => rfl)) g_int))) (e_P g_int)) (ss_cons (s_setI 0 (by rfl) (by first | exact Or.inl rfl | exact Or.inr (Or.inl rfl) | exact Or.inr (Or.inr rfl)) (o_of (e_P (g_var 2 (by rfl) (by first | exact Or.inl rfl | exact Or.inr (Or.inl rfl) | exact Or.inr (Or.inr rfl))))) (e_P g_int)) (ss_one (s_if (e_VT (g_cmpT op_lt ad_lt bf_lt (g_var 2 (by rfl) (by first | exact Or.inl rfl | exact Or.inr (Or.inl rfl) | exact Or.inr (Or.inr rfl))) g_int (nomark _))) (ss_one (s_setI 0 (by rfl) (by first | exact Or.inl rfl | exact Or.inr (Or.inl rfl) | exact Or.inr (Or.inr rfl)) (o_call ((ok__law_spread TT tb).mono (by decide)) hr (by rfl) TT.m__law_spread TT.F__law_spread.kp TT.b__law_spread (a_cons (e_P (g_var 2 (by rfl) (by first | exact Or.inl rfl | exact Or.inr (Or.inl rfl) | exact Or.inr (Or.inr rfl)))) a_nil)) (e_P g_int))) ss_nil))))) ss_nil) (ss_cons (s_setI 0 (by rfl) (by first | exact Or.inl rfl | exact Or.inr (Or.inl rfl) | exact Or.inr (Or.inr rfl)) (o_of (e_V (g_op op_addAll ad_add (g_ix ix_all ad_ix (g_var 0 (by rfl) (by first | exact Or.inl rfl | exact Or.inr (Or.inl rfl) | exact Or.inr (Or.inr rfl))) g_int (fun _ _ => rfl)) g_int))) (e_P g_int)) (ss_cons (s_if (e_VT (g_cmpT op_le ad_le bf_le (g_ix ix_all ad_ix (g_var 0 (by rfl) (by first | exact Or.inl rfl | exact Or.inr (Or.inl rfl) | exact Or.inr (Or.inr rfl))) g_int (fun _ _ => rfl)) g_int (nomark _))) (ss_cons (s_set (i := 3) sc__law_draw.nd (by rfl) (by first | exact Or.inl rfl | exact Or.inr rfl) (o_of (e_V (g_op op_modN ad_mod (g_callTy call_int1 ad_cint (by rfl) TT.n_int (by decide +kernel) (a_cons (g_op op_addAll ad_add (g_op op_addAll ad_add (g_op op_mulAll ad_mul (g_ix ix_all ad_ix (g_var 0 (by rfl) (by first | exact Or.inl rfl | exact Or.inr (Or.inl rfl) | exact Or.inr (Or.inr rfl))) g_int (fun _ _ => rfl)) g_int) (g_op op_mulAll ad_mul (g_ix ix_all ad_ix (g_var 0 (by rfl) (by first | exact Or.inl rfl | exact Or.inr (Or.inl rfl) | exact Or.inr (Or.inr rfl))) g_int (fun _ _ => rfl)) g_int)) g_int) a_nil)) g_int)))) (ss_cons (s_set (i := 3) sc__law_draw.nd (by rfl) (by first | exact Or.inl rfl | exact Or.inr rfl) (o_of (e_V (g_op op_modN ad_mod (g_callTy call_int1 ad_cint (by rfl) TT.n_int (by decide +kernel) (a_cons (g_op op_addAll ad_add (g_op op_mulAll ad_mul (g_var 3 (by rfl) (by first | exact Or.inl rfl | exact Or.inr (Or.inl rfl) | exact Or.inr (Or.inr rfl))) g_int) (g_ix ix_all ad_ix (g_var 0 (by rfl) (by first | exact Or.inl rfl | exact Or.inr (Or.inl rfl) | exact Or.inr (Or.inr rfl))) g_int (fun _ _ => rfl))) a_nil)) g_int)))) (ss_one (s_ret (o_of (e_P (g_op op_modN ad_mod (g_op op_fdivG ad_div (g_var 3 (by rfl) (by first | exact Or.inl rfl | exact Or.inr (Or.inl rfl) | exact Or.inr (Or.inr rfl))) g_int) (g_var 1 (by rfl) (by first | exact Or.inl rfl | exact Or.inr (Or.inl rfl) | exact Or.inr (Or.inr rfl)))))))))) ss_nil) (ss_cons (s_set (i := 4) sc__law_draw.nd (by rfl) (by first | exact Or.inl rfl | exact Or.inr rfl) (o_of (e_V (g_op op_modN ad_mod (g_callTy call_int1 ad_cint (by rfl) TT.n_int (by decide +kernel) (a_cons (g_ix ix_all ad_ix (g_var 0 (by rfl) (by first | exact Or.inl rfl | exact Or.inr (Or.inl rfl) | exact Or.inr (Or.inr rfl))) g_int (fun _ _ => rfl)) a_nil)) (g_var 1 (by rfl) (by first | exact Or.inl rfl | exact Or.inr (Or.inl rfl) | exact Or.inr (Or.inr rfl))))))) (ss_cons (s_setI 0 (by rfl) (by first | exact Or.inl rfl | exact Or.inr (Or.inl rfl) | exact Or.inr (Or.inr rfl)) (o_of (e_V (g_op op_fdivG ad_div (g_ix ix_all ad_ix (g_var 0 (by rfl) (by first | exact Or.inl rfl | exact Or.inr (Or.inl rfl) | exact Or.inr (Or.inr rfl))) g_int (fun _ _ => rfl)) (g_var 1 (by rfl) (by first | exact Or.inl rfl | exact Or.inr (Or.inl rfl) | exact Or.inr (Or.inr rfl)))))) (e_P g_int)) (ss_one (s_ret (o_of (e_P (g_var 4 (by rfl) (by first | exact Or.inl rfl | exact Or.inr (Or.inl rfl) | exact Or.inr (Or.inr rfl))))))))))))
theorem ok__law_counts_more (TT : Top K mg) (tb : Tbs TT base) : FnOk P w K mg base CX0 1 TT.a__law_counts_more TT.d__law_counts_more ["votes", "step", "given", "i", "j"] (spP K (TL TT) 5 g__law_counts_more) := by
  show FnOk P w K mg base CX0 1 TT.a__law_counts_more TT.d__law_counts_more ["votes", "step", "given", "i", "j"] (spP K (TL TT) (["votes", "step", "given", "i", "j"] : List Str).length (runP N__law_counts_more.length b__law_counts_more))
  refine fn_pure TT.F__law_counts_more sc__law_counts_more fun cdv hcd A outer s H E hr => ?_
  unfold b__law_counts_more
  exact (ss_cons (s_par (i := 5) (j := 6) rfl sc__law_counts_more.nd (by rfl) (by rfl) (by decide) (by rfl) (by rfl) (a_cons (e_P (g_op op_addAll ad_add (g_op op_mulAll ad_mul g_int (g_ix ix_all ad_ix (g_var 2 (by rfl) (by first | exact Or.inl rfl | exact Or.inr (Or.inl rfl) | exact Or.inr (Or.inr rfl))) (g_var 3 (by rfl) (by first | exact Or.inl rfl | exact Or.inr (Or.inl rfl) | exact Or.inr (Or.inr rfl))) (fun _ _ => rfl))) (g_var 1 (by rfl) (by first | exact Or.inl rfl | exact Or.inr (Or.inl rfl) | exact Or.inr (Or.inr rfl))))) (a_cons (e_P (g_op op_addAll ad_add (g_op op_mulAll ad_mul g_int (g_ix ix_all ad_ix (g_var 2 (by rfl) (by first | exact Or.inl rfl | exact Or.inr (Or.inl rfl) | exact Or.inr (Or.inr rfl))) (g_var 4 (by rfl) (by first | exact Or.inl rfl | exact Or.inr (Or.inl rfl) | exact Or.inr (Or.inr rfl))) (fun _ _ => rfl))) (g_var 1 (by rfl) (by first | exact Or.inl rfl | exact Or.inr (Or.inl rfl) | exact Or.inr (Or.inr rfl))))) a_nil)) (by rfl)) (ss_cons (s_if (e_VT (PW.pt (g_or (g_cmpT (op_eqD hr.units) ad_eq bf_eq (g_var 5 (by rfl) (by first | exact Or.inl rfl | exact Or.inr (Or.inl rfl) | exact Or.inr (Or.inr rfl))) g_int (nomark _)) (g_or1 (g_cmpT (op_eqD hr.units) ad_eq bf_eq (g_var 6 (by rfl) (by first | exact Or.inl rfl | exact Or.inr (Or.inl rfl) | exact Or.inr (Or.inr rfl))) g_int (nomark _)))))) (ss_one (s_ret (o_of (e_P (g_andV (g_cmp (op_eqD hr.units) ad_eq (g_var 5 (by rfl) (by first | exact Or.inl rfl | exact Or.inr (Or.inl rfl) | exact Or.inr (Or.inr rfl))) g_int (nomark _)) (g_one (g_orV (g_cmp op_gt ad_gt (g_var 6 (by rfl) (by first | exact Or.inl rfl | exact Or.inr (Or.inl rfl) | exact Or.inr (Or.inr rfl))) g_int (nomark _)) (g_one (g_cmp op_gt ad_gt (g_ix ix_all ad_ix (g_var 0 (by rfl) (by first | exact Or.inl rfl | exact Or.inr (Or.inl rfl) | exact Or.inr (Or.inr rfl))) (g_var 3 (by rfl) (by first | exact Or.inl rfl | exact Or.inr (Or.inl rfl) | exact Or.inr (Or.inr rfl))) (fun _ _ => rfl)) (g_ix ix_all ad_ix (g_var 0 (by rfl) (by first | exact Or.inl rfl | exact Or.inr (Or.inl rfl) | exact Or.inr (Or.inr rfl))) (g_var 4 (by rfl) (by first | exact Or.inl rfl | exact Or.inr (Or.inl rfl) | exact Or.inr (Or.inr rfl))) (fun _ _ => rfl)) (nomark _)))))))))) ss_nil) (ss_one (s_ret (o_of (e_P (g_cmp op_gt ad_gt (g_op op_mulAll ad_mul (g_ix ix_all ad_ix (g_var 0 (by rfl) (by first | exact Or.inl rfl | exact Or.inr (Or.inl rfl) | exact Or.inr (Or.inr rfl))) (g_var 3 (by rfl) (by first | exact Or.inl rfl | exact Or.inr (Or.inl rfl) | exact Or.inr (Or.inr rfl))) (fun _ _ => rfl)) (g_var 6 (by rfl) (by first | exact Or.inl rfl | exact Or.inr (Or.inl rfl) | exact Or.inr (Or.inr rfl)))) (g_op op_mulAll ad_mul (g_ix ix_all ad_ix (g_var 0 (by rfl) (by first | exact Or.inl rfl | exact Or.inr (Or.inl rfl) | exact Or.inr (Or.inr rfl))) (g_var 4 (by rfl) (by first | exact Or.inl rfl | exact Or.inr (Or.inl rfl) | exact Or.inr (Or.inr rfl))) (fun _ _ => rfl)) (g_var 5 (by rfl) (by first | exact Or.inl rfl | exact Or.inr (Or.inl rfl) | exact Or.inr (Or.inr rfl)))) (nomark _))))))))
theorem ok__law_seats (TT : Top K mg) (tb : Tbs TT base) : FnOk P w K mg base CX0 2 TT.a__law_seats TT.d__law_seats ["votes", "number", "step"] (spP K (TL TT) 3 g__law_seats) := by
  show FnOk P w K mg base CX0 2 TT.a__law_seats TT.d__law_seats ["votes", "number", "step"] (spP K (TL TT) (["votes", "number", "step"] : List Str).length (runP N__law_seats.length b__law_seats))
  refine fn_pure TT.F__law_seats sc__law_seats fun cdv hcd A outer s H E hr => ?_
  unfold b__law_seats
  exact (ss_cons (s_set (i := 3) sc__law_seats.nd (by rfl) (by first | exact Or.inl rfl | exact Or.inr rfl) (o_FP (f_op op_repR ad_lMul (g_lst (a_cons g_int a_nil)) (g_callB call_len ad_len (by rfl) TT.n_len (by decide +kernel) (a_cons (g_var 0 (by rfl) (by first | exact Or.inl rfl | exact Or.inr (Or.inl rfl) | exact Or.inr (Or.inr rfl))) a_nil))))) (ss_cons (s_for PassesOwn.never rfl (i_range1 (by rfl) TT.n_range (a_cons (e_P (g_var 1 (by rfl) (by first | exact Or.inl rfl | exact Or.inr (Or.inl rfl) | exact Or.inr (Or.inr rfl)))) a_nil)) (t_name (i := 4) sc__law_seats.nd (by rfl) (by first | exact Or.inl rfl | exact Or.inr rfl)) (ss_cons (s_set (i := 5) sc__law_seats.nd (by rfl) (by first | exact Or.inl rfl | exact Or.inr rfl) (o_of (e_P g_int))) (ss_cons (s_for PassesOwn.never rfl (i_range1 (by rfl) TT.n_range (a_cons (e_P (g_callB call_len ad_len (by rfl) TT.n_len (by decide +kernel) (a_cons (g_var 0 (by rfl) (by first | exact Or.inl rfl | exact Or.inr (Or.inl rfl) | exact Or.inr (Or.inr rfl))) a_nil))) a_nil)) (t_name (i := 6) sc__law_seats.nd (by rfl) (by first | exact Or.inl rfl | exact Or.inr rfl)) (ss_one (s_set (i := 5) sc__law_seats.nd (by rfl) (by first | exact Or.inl rfl | exact Or.inr rfl) (o_of (e_V (g_ifExp (g_truth (g_call hasT_p ((ok__law_counts_more TT tb).mono (by decide)) hr (by rfl) TT.m__law_counts_more TT.F__law_counts_more.kp TT.b__law_counts_more (a_cons (g_var 0 (by rfl) (by first | exact Or.inl rfl | exact Or.inr (Or.inl rfl) | exact Or.inr (Or.inr rfl))) (a_cons (g_var 2 (by rfl) (by first | exact Or.inl rfl | exact Or.inr (Or.inl rfl) | exact Or.inr (Or.inr rfl))) (a_cons (g_var 3 (by rfl) (by first | exact Or.inl rfl | exact Or.inr (Or.inl rfl) | exact Or.inr (Or.inr rfl))) (a_cons (g_var 6 (by rfl) (by first | exact Or.inl rfl | exact Or.inr (Or.inl rfl) | exact Or.inr (Or.inr rfl))) (a_cons (g_var 5 (by rfl) (by first | exact Or.inl rfl | exact Or.inr (Or.inl rfl) | exact Or.inr (Or.inr rfl))) a_nil)))))) (fun _ => rfl)) (g_var 6 (by rfl) (by first | exact Or.inl rfl | exact Or.inr (Or.inl rfl) | exact Or.inr (Or.inr rfl))) (g_var 5 (by rfl) (by first | exact Or.inl rfl | exact Or.inr (Or.inl rfl) | exact Or.inr (Or.inr rfl))))))))) (ss_one (s_setI 3 (by rfl) (by first | exact Or.inl rfl | exact Or.inr (Or.inl rfl) | exact Or.inr (Or.inr rfl)) (o_of (e_V (g_op op_addAll ad_add (g_ix ix_all ad_ix (g_var 3 (by rfl) (by first | exact Or.inl rfl | exact Or.inr (Or.inl rfl) | exact Or.inr (Or.inr rfl))) (g_var 5 (by rfl) (by first | exact Or.inl rfl | exact Or.inr (Or.inl rfl) | exact Or.inr (Or.inr rfl))) (fun _ _ => rfl)) g_int))) (e_P (g_var 5 (by rfl) (by first | exact Or.inl rfl | exact Or.inr (Or.inl rfl) | exact Or.inr (Or.inr rfl))))))))) (ss_one (s_ret (o_of (e_V (g_callTy call_tuple_of ad_tuple (by rfl) TT.n_tuple (by decide +kernel) (a_cons (g_var 3 (by rfl) (by first | exact Or.inl rfl | exact Or.inr (Or.inl rfl) | exact Or.inr (Or.inr rfl))) a_nil))))))))
theorem ok__law_votes (TT : Top K mg) (tb : Tbs TT base) : FnOk P w K mg base CX0 3 TT.a__law_votes TT.d__law_votes ["pool"] (spR K (TL TT) 1 r__law_votes) := by
  show FnOk P w K mg base CX0 3 TT.a__law_votes TT.d__law_votes ["pool"] (spR K (TL TT) (["pool"] : List Str).length (runR N__law_votes.length b__law_votes))
  refine fn_ref TT.F__law_votes sc__law_votes fun cdv hcd A outer s H E hr => ?_
  unfold b__law_votes
  exact (ss_cons (s_set (i := 1) sc__law_votes.nd (by rfl) (by first | exact Or.inl rfl | exact Or.inr rfl) (o_of (g_ix ix_all ad_ix (e_P (g_tup (a_cons g_int (a_cons g_int (a_cons g_int a_nil))))) (e_O (o_callR ((ok__law_draw TT tb).mono (by decide)) hr (by rfl) TT.m__law_draw TT.F__law_draw.kp TT.b__law_draw (by rfl) (by first | exact Or.inl rfl | exact Or.inr (Or.inl rfl) | exact Or.inr (Or.inr rfl)) (a_cons (e_P g_int) a_nil))) (fun _ _ => rfl)))) (ss_one (s_ret (o_of (g_callTy call_tuple_of ad_tuple (by rfl) TT.n_tuple (by decide +kernel) (a_cons (g_lc (own := [("k", 2)]) rfl sc__law_votes.nd (i_range1 (by rfl) TT.n_range (a_cons (g_op op_addAll ad_add (e_P g_int) (e_O (o_callR ((ok__law_draw TT tb).mono (by decide)) hr (by rfl) TT.m__law_draw TT.F__law_draw.kp TT.b__law_draw (by rfl) (by first | exact Or.inl rfl | exact Or.inr (Or.inl rfl) | exact Or.inr (Or.inr rfl)) (a_cons (e_P g_int) a_nil)))) a_nil)) (blkOk_by (own := [("k", 2)]) (N := N__law_votes) (sc := defScope s__law_votes) (by decide +kernel)) (fun _ _ _ _ _ => (t_name (i := 2) sc__law_votes.nd (by rfl) (by first | exact Or.inl rfl | exact Or.inr rfl))) (fun _ _ _ _ _ => c_nil) (fun _ _ _ _ _ => (g_op op_addAll ad_add (e_P g_int) (e_O (o_callR ((ok__law_draw TT tb).mono (by decide)) hr (by rfl) TT.m__law_draw TT.F__law_draw.kp TT.b__law_draw (by rfl) (by first | exact Or.inl rfl | exact Or.inr (Or.inl rfl) | exact Or.inr (Or.inr rfl)) (a_cons (e_P (g_var 1 (by rfl) (by first | exact Or.inl rfl | exact Or.inr (Or.inl rfl) | exact Or.inr (Or.inr rfl)))) a_nil)))))) a_nil))))))
theorem ok_law (TT : Top K mg) (tb : Tbs TT base) (hm : ∀ ns : List Int, ns.length ≤ 63 → ∃ st', b_law (lawEnv 16 ns) = some (.rt (.p (.bool true)), st')) : FnOk P w K mg base CX0 10 TT.a_law TT.d_law ["script"] (spLaw K (TL TT)) := by
  refine fn_law (N := N_law) (m := b_law) TT.F_law sc_law (by decide) hm fun cdv hcd A outer s H E hr => ?_
  refine pss_cons (ps_set (i := 1) sc_law.nd rfl (by first | exact Or.inl rfl | exact Or.inr rfl) (pe_call ((ok__law_pool TT tb).mono (by decide)) hr (by rfl) TT.m__law_pool TT.F__law_pool.kp TT.b__law_pool .nil pass0 (pa_cons (pv 0) pa_nil))) ?_
  unfold b_law
  exact (ss_cons (s_set (i := 2) sc_law.nd (by rfl) (by first | exact Or.inl rfl | exact Or.inr rfl) (o_of (e_O (o_callR ((ok__law_votes TT tb).mono (by decide)) hr (by rfl) TT.m__law_votes TT.F__law_votes.kp TT.b__law_votes (by rfl) (by first | exact Or.inl rfl | exact Or.inr (Or.inl rfl) | exact Or.inr (Or.inr rfl)) a_nil)))) (ss_cons (s_set (i := 3) sc_law.nd (by rfl) (by first | exact Or.inl rfl | exact Or.inr rfl) (o_of (e_O (o_callR ((ok__law_draw TT tb).mono (by decide)) hr (by rfl) TT.m__law_draw TT.F__law_draw.kp TT.b__law_draw (by rfl) (by first | exact Or.inl rfl | exact Or.inr (Or.inl rfl) | exact Or.inr (Or.inr rfl)) (a_cons (e_P g_int) a_nil))))) (ss_cons (s_set (i := 4) sc_law.nd (by rfl) (by first | exact Or.inl rfl | exact Or.inr rfl) (o_of (e_P (g_callB call_len ad_len (by rfl) TT.n_len (by decide +kernel) (a_cons (g_var 2 (by rfl) (by first | exact Or.inl rfl | exact Or.inr (Or.inl rfl) | exact Or.inr (Or.inr rfl))) a_nil))))) (ss_cons (s_for PassesOwn.never rfl (i_val (e_P (g_tup (a_cons g_int (a_cons g_int (a_cons g_int a_nil)))))) (t_name (i := 5) sc_law.nd (by rfl) (by first | exact Or.inl rfl | exact Or.inr rfl)) (ss_cons (s_set (i := 6) sc_law.nd (by rfl) (by first | exact Or.inl rfl | exact Or.inr rfl) (o_of (e_P (g_call hasT_p ((ok_seats TT tb).mono (by decide)) hr (by rfl) TT.m_seats TT.F_seats.kp TT.b_seats (a_cons (g_var 2 (by rfl) (by first | exact Or.inl rfl | exact Or.inr (Or.inl rfl) | exact Or.inr (Or.inr rfl))) (a_cons (g_var 3 (by rfl) (by first | exact Or.inl rfl | exact Or.inr (Or.inl rfl) | exact Or.inr (Or.inr rfl))) (a_cons (g_var 5 (by rfl) (by first | exact Or.inl rfl | exact Or.inr (Or.inl rfl) | exact Or.inr (Or.inr rfl))) a_nil))))))) (ss_cons (s_if (e_VT (g_notT (g_truth (g_call hasT_p ((ok__law_same TT tb).mono (by decide)) hr (by rfl) TT.m__law_same TT.F__law_same.kp TT.b__law_same (a_cons (g_var 6 (by rfl) (by first | exact Or.inl rfl | exact Or.inr (Or.inl rfl) | exact Or.inr (Or.inr rfl))) (a_cons (g_call hasT_p ((ok__law_seats TT tb).mono (by decide)) hr (by rfl) TT.m__law_seats TT.F__law_seats.kp TT.b__law_seats (a_cons (g_var 2 (by rfl) (by first | exact Or.inl rfl | exact Or.inr (Or.inl rfl) | exact Or.inr (Or.inr rfl))) (a_cons (g_var 3 (by rfl) (by first | exact Or.inl rfl | exact Or.inr (Or.inl rfl) | exact Or.inr (Or.inr rfl))) (a_cons (g_var 5 (by rfl) (by first | exact Or.inl rfl | exact Or.inr (Or.inl rfl) | exact Or.inr (Or.inr rfl))) a_nil)))) a_nil))) (fun _ => rfl)))) (ss_one (s_ret (o_of (e_P g_bl)))) ss_nil) (ss_cons (s_for PassesOwn.never rfl (i_range1 (by rfl) TT.n_range (a_cons (e_P (g_var 4 (by rfl) (by first | exact Or.inl rfl | exact Or.inr (Or.inl rfl) | exact Or.inr (Or.inr rfl)))) a_nil)) (t_name (i := 7) sc_law.nd (by rfl) (by first | exact Or.inl rfl | exact Or.inr rfl)) (ss_one (s_for PassesOwn.never rfl (i_range1 (by rfl) TT.n_range (a_cons (e_P (g_var 4 (by rfl) (by first | exact Or.inl rfl | exact Or.inr (Or.inl rfl) | exact Or.inr (Or.inr rfl)))) a_nil)) (t_name (i := 8) sc_law.nd (by rfl) (by first | exact Or.inl rfl | exact Or.inr rfl)) (ss_one (s_if (e_VT (g_cmpT op_gt ad_gt bf_gt (g_ix ix_all ad_ix (g_var 6 (by rfl) (by first | exact Or.inl rfl | exact Or.inr (Or.inl rfl) | exact Or.inr (Or.inr rfl))) (g_var 8 (by rfl) (by first | exact Or.inl rfl | exact Or.inr (Or.inl rfl) | exact Or.inr (Or.inr rfl))) (fun _ _ => rfl)) g_int (nomark _))) (ss_cons (s_set (i := 9) sc_law.nd (by rfl) (by first | exact Or.inl rfl | exact Or.inr rfl) (o_FP (f_callTy call_list_of ad_lList (by rfl) TT.n_list (by decide +kernel) (a_cons (g_var 6 (by rfl) (by first | exact Or.inl rfl | exact Or.inr (Or.inl rfl) | exact Or.inr (Or.inr rfl))) a_nil)))) (ss_cons (s_setI 9 (by rfl) (by first | exact Or.inl rfl | exact Or.inr (Or.inl rfl) | exact Or.inr (Or.inr rfl)) (o_of (e_V (g_op op_sub ad_sub (g_ix ix_all ad_ix (g_var 9 (by rfl) (by first | exact Or.inl rfl | exact Or.inr (Or.inl rfl) | exact Or.inr (Or.inr rfl))) (g_var 8 (by rfl) (by first | exact Or.inl rfl | exact Or.inr (Or.inl rfl) | exact Or.inr (Or.inr rfl))) (fun _ _ => rfl)) g_int))) (e_P (g_var 8 (by rfl) (by first | exact Or.inl rfl | exact Or.inr (Or.inl rfl) | exact Or.inr (Or.inr rfl))))) (ss_one (s_if (e_VT (PW.pt (g_and (g_truth (g_call hasT_p ((ok__law_counts_more TT tb).mono (by decide)) hr (by rfl) TT.m__law_counts_more TT.F__law_counts_more.kp TT.b__law_counts_more (a_cons (g_var 2 (by rfl) (by first | exact Or.inl rfl | exact Or.inr (Or.inl rfl) | exact Or.inr (Or.inr rfl))) (a_cons (g_var 5 (by rfl) (by first | exact Or.inl rfl | exact Or.inr (Or.inl rfl) | exact Or.inr (Or.inr rfl))) (a_cons (g_var 9 (by rfl) (by first | exact Or.inl rfl | exact Or.inr (Or.inl rfl) | exact Or.inr (Or.inr rfl))) (a_cons (g_var 7 (by rfl) (by first | exact Or.inl rfl | exact Or.inr (Or.inl rfl) | exact Or.inr (Or.inr rfl))) (a_cons (g_var 8 (by rfl) (by first | exact Or.inl rfl | exact Or.inr (Or.inl rfl) | exact Or.inr (Or.inr rfl))) a_nil)))))) (fun _ => rfl)) (g_and (g_cmpT (op_neD hr.units) ad_ne bf_ne (g_var 7 (by rfl) (by first | exact Or.inl rfl | exact Or.inr (Or.inl rfl) | exact Or.inr (Or.inr rfl))) (g_var 8 (by rfl) (by first | exact Or.inl rfl | exact Or.inr (Or.inl rfl) | exact Or.inr (Or.inr rfl))) (nomark _)) (g_and1 (g_cmpT (op_eqD hr.units) ad_eq bf_eq (g_ix ix_all ad_ix (g_var 9 (by rfl) (by first | exact Or.inl rfl | exact Or.inr (Or.inl rfl) | exact Or.inr (Or.inr rfl))) (g_var 7 (by rfl) (by first | exact Or.inl rfl | exact Or.inr (Or.inl rfl) | exact Or.inr (Or.inr rfl))) (fun _ _ => rfl)) (g_ix ix_all ad_ix (g_var 6 (by rfl) (by first | exact Or.inl rfl | exact Or.inr (Or.inl rfl) | exact Or.inr (Or.inr rfl))) (g_var 7 (by rfl) (by first | exact Or.inl rfl | exact Or.inr (Or.inl rfl) | exact Or.inr (Or.inr rfl))) (fun _ _ => rfl)) (nomark _))))))) (ss_one (s_ret (o_of (e_P g_bl)))) ss_nil)))) ss_nil))))) (ss_cons (s_set (i := 10) sc_law.nd (by rfl) (by first | exact Or.inl rfl | exact Or.inr rfl) (o_of (e_P (g_call hasT_p ((ok_seats TT tb).mono (by decide)) hr (by rfl) TT.m_seats TT.F_seats.kp TT.b_seats (a_cons (g_var 2 (by rfl) (by first | exact Or.inl rfl | exact Or.inr (Or.inl rfl) | exact Or.inr (Or.inr rfl))) (a_cons (g_op op_addAll ad_add (g_var 3 (by rfl) (by first | exact Or.inl rfl | exact Or.inr (Or.inl rfl) | exact Or.inr (Or.inr rfl))) g_int) (a_cons (g_var 5 (by rfl) (by first | exact Or.inl rfl | exact Or.inr (Or.inl rfl) | exact Or.inr (Or.inr rfl))) a_nil))))))) (ss_cons (s_if (e_VT (PW.pt (g_or (g_cmpT op_gt ad_gt bf_gt (g_callB call_len ad_len (by rfl) TT.n_len (by decide +kernel) (a_cons (g_lc (own := [("i", 7)]) rfl sc_law.nd (i_range1 (by rfl) TT.n_range (a_cons (g_var 4 (by rfl) (by first | exact Or.inl rfl | exact Or.inr (Or.inl rfl) | exact Or.inr (Or.inr rfl))) a_nil)) (blkOk_by (own := [("i", 7)]) (N := N_law) (sc := defScope s_law) (by decide +kernel)) (fun _ _ _ _ _ => (t_name (i := 7) sc_law.nd (by rfl) (by first | exact Or.inl rfl | exact Or.inr rfl))) (fun _ _ _ _ _ => (c_one (g_cmpT op_lt ad_lt bf_lt (g_ix ix_all ad_ix (g_var 10 (by rfl) (by first | exact Or.inl rfl | exact Or.inr (Or.inl rfl) | exact Or.inr (Or.inr rfl))) (g_var 7 (by rfl) (by first | exact Or.inl rfl | exact Or.inr (Or.inl rfl) | exact Or.inr (Or.inr rfl))) (fun _ _ => rfl)) (g_ix ix_all ad_ix (g_var 6 (by rfl) (by first | exact Or.inl rfl | exact Or.inr (Or.inl rfl) | exact Or.inr (Or.inr rfl))) (g_var 7 (by rfl) (by first | exact Or.inl rfl | exact Or.inr (Or.inl rfl) | exact Or.inr (Or.inr rfl))) (fun _ _ => rfl)) (nomark _)))) (fun _ _ _ _ _ => (g_var 7 (by rfl) (by first | exact Or.inl rfl | exact Or.inr (Or.inl rfl) | exact Or.inr (Or.inr rfl))))) a_nil)) g_int (nomark _)) (g_or1 (g_cmpT (op_neD hr.units) ad_ne bf_ne (g_callB (cr_sumA rfl) ad_sum (by rfl) TT.n_sum (by decide +kernel) (a_cons (g_var 10 (by rfl) (by first | exact Or.inl rfl | exact Or.inr (Or.inl rfl) | exact Or.inr (Or.inr rfl))) a_nil)) (g_op op_addAll ad_add (g_var 3 (by rfl) (by first | exact Or.inl rfl | exact Or.inr (Or.inl rfl) | exact Or.inr (Or.inr rfl))) g_int) (nomark _)))))) (ss_one (s_ret (o_of (e_P g_bl)))) ss_nil) (ss_one (s_if (e_VT (g_cmpT (op_neD hr.units) ad_ne bf_ne (g_call hasT_p ((ok_seats TT tb).mono (by decide)) hr (by rfl) TT.m_seats TT.F_seats.kp TT.b_seats (a_cons (g_callTy call_tuple_of ad_tuple (by rfl) TT.n_tuple (by decide +kernel) (a_cons (g_lc (own := [("v", 15)]) rfl sc_law.nd (i_val (g_var 2 (by rfl) (by first | exact Or.inl rfl | exact Or.inr (Or.inl rfl) | exact Or.inr (Or.inr rfl)))) (blkOk_by (own := [("v", 15)]) (N := N_law) (sc := defScope s_law) (by decide +kernel)) (fun _ _ _ _ _ => (t_name (i := 15) sc_law.nd (by rfl) (by first | exact Or.inl rfl | exact Or.inr rfl))) (fun _ _ _ _ _ => c_nil) (fun _ _ _ _ _ => (g_op op_mulAll ad_mul g_int (g_var 15 (by rfl) (by first | exact Or.inl rfl | exact Or.inr (Or.inl rfl) | exact Or.inr (Or.inr rfl)))))) a_nil)) (a_cons (g_var 3 (by rfl) (by first | exact Or.inl rfl | exact Or.inr (Or.inl rfl) | exact Or.inr (Or.inr rfl))) (a_cons (g_var 5 (by rfl) (by first | exact Or.inl rfl | exact Or.inr (Or.inl rfl) | exact Or.inr (Or.inr rfl))) a_nil)))) (g_var 6 (by rfl) (by first | exact Or.inl rfl | exact Or.inr (Or.inl rfl) | exact Or.inr (Or.inr rfl))) (nomark _))) (ss_one (s_ret (o_of (e_P g_bl)))) ss_nil)))))))) (ss_cons (s_set (i := 11) sc_law.nd (by rfl) (by first | exact Or.inl rfl | exact Or.inr rfl) (o_of (e_P (g_callB (cr_sumA rfl) ad_sum (by rfl) TT.n_sum (by decide +kernel) (a_cons (g_var 2 (by rfl) (by first | exact Or.inl rfl | exact Or.inr (Or.inl rfl) | exact Or.inr (Or.inr rfl))) a_nil))))) (ss_cons (s_set (i := 12) sc_law.nd (by rfl) (by first | exact Or.inl rfl | exact Or.inr rfl) (o_FP (f_lc (own := [("v", 15)]) rfl sc_law.nd (i_val (g_var 2 (by rfl) (by first | exact Or.inl rfl | exact Or.inr (Or.inl rfl) | exact Or.inr (Or.inr rfl)))) (blkOk_by (own := [("v", 15)]) (N := N_law) (sc := defScope s_law) (by decide +kernel)) (fun _ _ _ _ _ => (t_name (i := 15) sc_law.nd (by rfl) (by first | exact Or.inl rfl | exact Or.inr rfl))) (fun _ _ _ _ _ => c_nil) (fun _ _ _ _ _ => (g_op op_fdivG ad_div (g_op op_mulAll ad_mul (g_var 3 (by rfl) (by first | exact Or.inl rfl | exact Or.inr (Or.inl rfl) | exact Or.inr (Or.inr rfl))) (g_var 15 (by rfl) (by first | exact Or.inl rfl | exact Or.inr (Or.inl rfl) | exact Or.inr (Or.inr rfl)))) (g_var 11 (by rfl) (by first | exact Or.inl rfl | exact Or.inr (Or.inl rfl) | exact Or.inr (Or.inr rfl)))))))) (ss_cons (s_set (i := 13) sc_law.nd (by rfl) (by first | exact Or.inl rfl | exact Or.inr rfl) (o_of (e_O (o_FV (f_callB cr_sortedA ad_lSortA (by rfl) TT.n_sorted (by decide +kernel) (a_cons (g_lc (own := [("i", 7)]) rfl sc_law.nd (i_range1 (by rfl) TT.n_range (a_cons (g_var 4 (by rfl) (by first | exact Or.inl rfl | exact Or.inr (Or.inl rfl) | exact Or.inr (Or.inr rfl))) a_nil)) (blkOk_by (own := [("i", 7)]) (N := N_law) (sc := defScope s_law) (by decide +kernel)) (fun _ _ _ _ _ => (t_name (i := 7) sc_law.nd (by rfl) (by first | exact Or.inl rfl | exact Or.inr rfl))) (fun _ _ _ _ _ => c_nil) (fun _ _ _ _ _ => (g_tup (a_cons (g_op op_sub ad_sub g_int (g_op op_sub ad_sub (g_op op_mulAll ad_mul (g_var 3 (by rfl) (by first | exact Or.inl rfl | exact Or.inr (Or.inl rfl) | exact Or.inr (Or.inr rfl))) (g_ix ix_all ad_ix (g_var 2 (by rfl) (by first | exact Or.inl rfl | exact Or.inr (Or.inl rfl) | exact Or.inr (Or.inr rfl))) (g_var 7 (by rfl) (by first | exact Or.inl rfl | exact Or.inr (Or.inl rfl) | exact Or.inr (Or.inr rfl))) (fun _ _ => rfl))) (g_op op_mulAll ad_mul (g_ix ix_all ad_ix (g_var 12 (by rfl) (by first | exact Or.inl rfl | exact Or.inr (Or.inl rfl) | exact Or.inr (Or.inr rfl))) (g_var 7 (by rfl) (by first | exact Or.inl rfl | exact Or.inr (Or.inl rfl) | exact Or.inr (Or.inr rfl))) (fun _ _ => rfl)) (g_var 11 (by rfl) (by first | exact Or.inl rfl | exact Or.inr (Or.inl rfl) | exact Or.inr (Or.inr rfl)))))) (a_cons (g_var 7 (by rfl) (by first | exact Or.inl rfl | exact Or.inr (Or.inl rfl) | exact Or.inr (Or.inr rfl))) a_nil))))) a_nil)))))) (ss_cons (s_for PassesOwn.never rfl (i_val (g_slice (e_P (g_var 13 (by rfl) (by first | exact Or.inl rfl | exact Or.inr (Or.inl rfl) | exact Or.inr (Or.inr rfl)))) s_none (s_some (e_V (g_op op_sub ad_sub (g_var 3 (by rfl) (by first | exact Or.inl rfl | exact Or.inr (Or.inl rfl) | exact Or.inr (Or.inr rfl))) (g_callB (cr_sumA rfl) ad_sum (by rfl) TT.n_sum (by decide +kernel) (a_cons (g_var 12 (by rfl) (by first | exact Or.inl rfl | exact Or.inr (Or.inl rfl) | exact Or.inr (Or.inr rfl))) a_nil))))))) (t_tup rfl (ts_cons (i := 14) sc_law.nd (by rfl) (by first | exact Or.inl rfl | exact Or.inr rfl) (ts_cons (i := 7) sc_law.nd (by rfl) (by first | exact Or.inl rfl | exact Or.inr rfl) ts_nil))) (ss_one (s_setI 12 (by rfl) (by first | exact Or.inl rfl | exact Or.inr (Or.inl rfl) | exact Or.inr (Or.inr rfl)) (o_of (e_V (g_op op_addAll ad_add (g_ix ix_all ad_ix (g_var 12 (by rfl) (by first | exact Or.inl rfl | exact Or.inr (Or.inl rfl) | exact Or.inr (Or.inr rfl))) (g_var 7 (by rfl) (by first | exact Or.inl rfl | exact Or.inr (Or.inl rfl) | exact Or.inr (Or.inr rfl))) (fun _ _ => rfl)) g_int))) (e_P (g_var 7 (by rfl) (by first | exact Or.inl rfl | exact Or.inr (Or.inl rfl) | exact Or.inr (Or.inr rfl))))))) (ss_one (s_ret (o_of (e_V (g_call hasT_p ((ok__law_same TT tb).mono (by decide)) hr (by rfl) TT.m__law_same TT.F__law_same.kp TT.b__law_same (a_cons (g_call hasT_p ((ok_by_rests TT tb).mono (by decide)) hr (by rfl) TT.m_by_rests TT.F_by_rests.kp TT.b_by_rests (a_cons (g_var 2 (by rfl) (by first | exact Or.inl rfl | exact Or.inr (Or.inl rfl) | exact Or.inr (Or.inr rfl))) (a_cons (g_var 3 (by rfl) (by first | exact Or.inl rfl | exact Or.inr (Or.inl rfl) | exact Or.inr (Or.inr rfl))) a_nil))) (a_cons (g_callTy call_tuple_of ad_tuple (by rfl) TT.n_tuple (by decide +kernel) (a_cons (g_var 12 (by rfl) (by first | exact Or.inl rfl | exact Or.inr (Or.inl rfl) | exact Or.inr (Or.inr rfl))) a_nil)) a_nil)))))))))))))))
end
end My

set_option Elab.async false
set_option linter.all false
set_option maxRecDepth 100000
set_option maxHeartbeats 4000000
namespace My
open PySem PySem.Spec
open PyProof.Rows hiding St
open L2 L3 L5 L6 L7 L9
theorem all_c {α : Type} {Q : α → Prop} {a : α} {l : List α} (h : Q a) (t : ∀ p ∈ l, Q p) : ∀ p ∈ a :: l, Q p := List.forall_mem_cons.mpr ⟨h, t⟩
theorem all_n {α : Type} {Q : α → Prop} : ∀ p ∈ ([] : List α), Q p := fun p hp => by cases hp
theorem all_mk {l : PySem.W.OpenLaw} {w : World} {K : Fg} {h : Heap} {mg : Str → Option Value} {fa : Addr} {q : Program} (X : K.In h) (G : h.Ns mainGlobals mg) (hfa : mg "law" = some (.ref fa))
    (own : ∀ (y : Str) (fb : Addr), ((recsOf q).any fun e => e.name == y) = true → mg y = some (.ref fb) → LamX.OwnTab K fb h)
    {f0 : Addr} {od0 an0 : Option Addr} {sl0 : Array (Option Value)} {oc0 kV0 dc0 pm0 cd0 ct0 : Value}
    {f1 : Addr} {od1 an1 : Option Addr} {sl1 : Array (Option Value)} {oc1 kV1 dc1 pm1 cd1 ct1 : Value}
    {f2 : Addr} {od2 an2 : Option Addr} {sl2 : Array (Option Value)} {oc2 kV2 dc2 pm2 cd2 ct2 : Value}
    {f3 : Addr} {od3 an3 : Option Addr} {sl3 : Array (Option Value)} {oc3 kV3 dc3 pm3 ct3 : Value} {tc3 : Addr}
    {f4 : Addr} {od4 an4 : Option Addr} {sl4 : Array (Option Value)} {oc4 kV4 dc4 pm4 cd4 ct4 : Value}
    {f5 : Addr} {od5 an5 : Option Addr} {sl5 : Array (Option Value)} {oc5 kV5 dc5 pm5 cd5 ct5 : Value}
    {f6 : Addr} {od6 an6 : Option Addr} {sl6 : Array (Option Value)} {oc6 kV6 dc6 pm6 cd6 ct6 : Value}
    {f7 : Addr} {od7 an7 : Option Addr} {sl7 : Array (Option Value)} {oc7 kV7 dc7 pm7 cd7 ct7 : Value}
    {f8 : Addr} {od8 an8 : Option Addr} {sl8 : Array (Option Value)} {oc8 kV8 dc8 pm8 cd8 ct8 : Value}
    {f9 : Addr} {od9 an9 : Option Addr} {sl9 : Array (Option Value)} {oc9 kV9 dc9 pm9 cd9 ct9 : Value}
    {f10 : Addr} {od10 an10 : Option Addr} {sl10 : Array (Option Value)} {oc10 kV10 dc10 pm10 cd10 ct10 : Value}
    {f11 : Addr} {od11 an11 : Option Addr} {sl11 : Array (Option Value)} {oc11 kV11 dc11 pm11 cd11 ct11 : Value}
    (a0 : PySem.W.nsIn K mainGlobals "counts_more" = some (some (.ref f0))) (l0 : K.lookup f0 = some ⟨oc0, od0, .func (PySem.W.fnOf "counts_more" "counts_more" (defArgs s_counts_more) (defBody s_counts_more) (defScope s_counts_more) .none kV0 dc0 pm0 an0 cd0 ct0), sl0⟩) (c0 : PySem.W.codeIn K cd0 "counts_more" = true) (k0 : PySem.W.keepIn K (.ref f0) = true)
    (a1 : PySem.W.nsIn K mainGlobals "next_party" = some (some (.ref f1))) (l1 : K.lookup f1 = some ⟨oc1, od1, .func (PySem.W.fnOf "next_party" "next_party" (defArgs s_next_party) (defBody s_next_party) (defScope s_next_party) .none kV1 dc1 pm1 an1 cd1 ct1), sl1⟩) (c1 : PySem.W.codeIn K cd1 "next_party" = true) (k1 : PySem.W.keepIn K (.ref f1) = true)
    (a2 : PySem.W.nsIn K mainGlobals "seats" = some (some (.ref f2))) (l2 : K.lookup f2 = some ⟨oc2, od2, .func (PySem.W.fnOf "seats" "seats" (defArgs s_seats) (defBody s_seats) (defScope s_seats) .none kV2 dc2 pm2 an2 cd2 ct2), sl2⟩) (c2 : PySem.W.codeIn K cd2 "seats" = true) (k2 : PySem.W.keepIn K (.ref f2) = true)
    (a3 : PySem.W.nsIn K mainGlobals "by_rests" = some (some (.ref f3))) (l3 : K.lookup f3 = some ⟨oc3, od3, .func (PySem.W.fnOf "by_rests" "by_rests" (defArgs s_by_rests) (defBody s_by_rests) (defScope s_by_rests) .none kV3 dc3 pm3 an3 (.ref tc3) ct3), sl3⟩) (c3 : PySem.W.codeIn K (.ref tc3) "by_rests" = true) (k3 : PySem.W.keepIn K (.ref f3) = true)
    (h3 : PySem.W.codeHdIn K tc3 (tabOf K tc3) = true) (q3 : K.lookup (tabOf K tc3) = none) (r3 : ((recsOf q).any fun e => e.name == "by_rests") = true)
    (a4 : PySem.W.nsIn K mainGlobals "_law_same" = some (some (.ref f4))) (l4 : K.lookup f4 = some ⟨oc4, od4, .func (PySem.W.fnOf "_law_same" "_law_same" (defArgs s__law_same) (defBody s__law_same) (defScope s__law_same) .none kV4 dc4 pm4 an4 cd4 ct4), sl4⟩) (c4 : PySem.W.codeIn K cd4 "_law_same" = true) (k4 : PySem.W.keepIn K (.ref f4) = true)
    (a5 : PySem.W.nsIn K mainGlobals "_law_pool" = some (some (.ref f5))) (l5 : K.lookup f5 = some ⟨oc5, od5, .func (PySem.W.fnOf "_law_pool" "_law_pool" (defArgs s__law_pool) (defBody s__law_pool) (defScope s__law_pool) .none kV5 dc5 pm5 an5 cd5 ct5), sl5⟩) (c5 : PySem.W.codeIn K cd5 "_law_pool" = true) (k5 : PySem.W.keepIn K (.ref f5) = true)
    (a6 : PySem.W.nsIn K mainGlobals "_law_spread" = some (some (.ref f6))) (l6 : K.lookup f6 = some ⟨oc6, od6, .func (PySem.W.fnOf "_law_spread" "_law_spread" (defArgs s__law_spread) (defBody s__law_spread) (defScope s__law_spread) .none kV6 dc6 pm6 an6 cd6 ct6), sl6⟩) (c6 : PySem.W.codeIn K cd6 "_law_spread" = true) (k6 : PySem.W.keepIn K (.ref f6) = true)
    (a7 : PySem.W.nsIn K mainGlobals "_law_draw" = some (some (.ref f7))) (l7 : K.lookup f7 = some ⟨oc7, od7, .func (PySem.W.fnOf "_law_draw" "_law_draw" (defArgs s__law_draw) (defBody s__law_draw) (defScope s__law_draw) .none kV7 dc7 pm7 an7 cd7 ct7), sl7⟩) (c7 : PySem.W.codeIn K cd7 "_law_draw" = true) (k7 : PySem.W.keepIn K (.ref f7) = true)
    (a8 : PySem.W.nsIn K mainGlobals "_law_counts_more" = some (some (.ref f8))) (l8 : K.lookup f8 = some ⟨oc8, od8, .func (PySem.W.fnOf "_law_counts_more" "_law_counts_more" (defArgs s__law_counts_more) (defBody s__law_counts_more) (defScope s__law_counts_more) .none kV8 dc8 pm8 an8 cd8 ct8), sl8⟩) (c8 : PySem.W.codeIn K cd8 "_law_counts_more" = true) (k8 : PySem.W.keepIn K (.ref f8) = true)
    (a9 : PySem.W.nsIn K mainGlobals "_law_seats" = some (some (.ref f9))) (l9 : K.lookup f9 = some ⟨oc9, od9, .func (PySem.W.fnOf "_law_seats" "_law_seats" (defArgs s__law_seats) (defBody s__law_seats) (defScope s__law_seats) .none kV9 dc9 pm9 an9 cd9 ct9), sl9⟩) (c9 : PySem.W.codeIn K cd9 "_law_seats" = true) (k9 : PySem.W.keepIn K (.ref f9) = true)
    (a10 : PySem.W.nsIn K mainGlobals "_law_votes" = some (some (.ref f10))) (l10 : K.lookup f10 = some ⟨oc10, od10, .func (PySem.W.fnOf "_law_votes" "_law_votes" (defArgs s__law_votes) (defBody s__law_votes) (defScope s__law_votes) .none kV10 dc10 pm10 an10 cd10 ct10), sl10⟩) (c10 : PySem.W.codeIn K cd10 "_law_votes" = true) (k10 : PySem.W.keepIn K (.ref f10) = true)
    (a11 : PySem.W.nsIn K mainGlobals "law" = some (some (.ref f11))) (l11 : K.lookup f11 = some ⟨oc11, od11, .func (PySem.W.fnOf "law" "law" (defArgs s_law) (defBody s_law) (defScope s_law) .none kV11 dc11 pm11 an11 cd11 ct11), sl11⟩) (c11 : PySem.W.codeIn K cd11 "law" = true) (k11 : PySem.W.keepIn K (.ref f11) = true)
    (z_bool : PySem.W.nsIn K mainGlobals "bool" = some none)
    (z_int : PySem.W.nsIn K mainGlobals "int" = some none)
    (z_isinstance : PySem.W.nsIn K mainGlobals "isinstance" = some none)
    (z_len : PySem.W.nsIn K mainGlobals "len" = some none)
    (z_list : PySem.W.nsIn K mainGlobals "list" = some none)
    (z_range : PySem.W.nsIn K mainGlobals "range" = some none)
    (z_sorted : PySem.W.nsIn K mainGlobals "sorted" = some none)
    (z_str : PySem.W.nsIn K mainGlobals "str" = some none)
    (z_sum : PySem.W.nsIn K mainGlobals "sum" = some none)
    (z_tuple : PySem.W.nsIn K mainGlobals "tuple" = some none) :
    LamX.LawAtS l w K CX0 10 63 "script" mg fa h := by
  have e := hfa.symm.trans (PySem.W.mg_of X G a11)
  cases e
  let TT : Top K mg := {
    a_counts_more := f0, d_counts_more := (PySem.W.fnOf "counts_more" "counts_more" (defArgs s_counts_more) (defBody s_counts_more) (defScope s_counts_more) .none kV0 dc0 pm0 an0 cd0 ct0), F_counts_more := fun_mk l0 c0 k0, m_counts_more := PySem.W.mg_of X G a0, b_counts_more := (fun_mk l0 c0 k0).binds (ps := ["votes", "step", "given", "i", "j"]) fun _ _ _ _ _ _ us hl => (match us, hl with | [_, _, _, _, _], _ => rfl),
    a_next_party := f1, d_next_party := (PySem.W.fnOf "next_party" "next_party" (defArgs s_next_party) (defBody s_next_party) (defScope s_next_party) .none kV1 dc1 pm1 an1 cd1 ct1), F_next_party := fun_mk l1 c1 k1, m_next_party := PySem.W.mg_of X G a1, b_next_party := (fun_mk l1 c1 k1).binds (ps := ["votes", "step", "given"]) fun _ _ _ _ _ _ us hl => (match us, hl with | [_, _, _], _ => rfl),
    a_seats := f2, d_seats := (PySem.W.fnOf "seats" "seats" (defArgs s_seats) (defBody s_seats) (defScope s_seats) .none kV2 dc2 pm2 an2 cd2 ct2), F_seats := fun_mk l2 c2 k2, m_seats := PySem.W.mg_of X G a2, b_seats := (fun_mk l2 c2 k2).binds (ps := ["votes", "number", "step"]) fun _ _ _ _ _ _ us hl => (match us, hl with | [_, _, _], _ => rfl),
    c_by_rests := tc3, e_by_rests := rfl,
    a_by_rests := f3, d_by_rests := (PySem.W.fnOf "by_rests" "by_rests" (defArgs s_by_rests) (defBody s_by_rests) (defScope s_by_rests) .none kV3 dc3 pm3 an3 (.ref tc3) ct3), F_by_rests := fun_mk l3 c3 k3, m_by_rests := PySem.W.mg_of X G a3, b_by_rests := (fun_mk l3 c3 k3).binds (ps := ["votes", "number"]) fun _ _ _ _ _ _ us hl => (match us, hl with | [_, _], _ => rfl),
    a__law_same := f4, d__law_same := (PySem.W.fnOf "_law_same" "_law_same" (defArgs s__law_same) (defBody s__law_same) (defScope s__law_same) .none kV4 dc4 pm4 an4 cd4 ct4), F__law_same := fun_mk l4 c4 k4, m__law_same := PySem.W.mg_of X G a4, b__law_same := (fun_mk l4 c4 k4).binds (ps := ["actual", "due"]) fun _ _ _ _ _ _ us hl => (match us, hl with | [_, _], _ => rfl),
    a__law_pool := f5, d__law_pool := (PySem.W.fnOf "_law_pool" "_law_pool" (defArgs s__law_pool) (defBody s__law_pool) (defScope s__law_pool) .none kV5 dc5 pm5 an5 cd5 ct5), F__law_pool := fun_mk l5 c5 k5, m__law_pool := PySem.W.mg_of X G a5, b__law_pool := (fun_mk l5 c5 k5).binds (ps := ["script"]) fun _ _ _ _ _ _ us hl => (match us, hl with | [_], _ => rfl),
    a__law_spread := f6, d__law_spread := (PySem.W.fnOf "_law_spread" "_law_spread" (defArgs s__law_spread) (defBody s__law_spread) (defScope s__law_spread) .none kV6 dc6 pm6 an6 cd6 ct6), F__law_spread := fun_mk l6 c6 k6, m__law_spread := PySem.W.mg_of X G a6, b__law_spread := (fun_mk l6 c6 k6).binds (ps := ["cell"]) fun _ _ _ _ _ _ us hl => (match us, hl with | [_], _ => rfl),
    a__law_draw := f7, d__law_draw := (PySem.W.fnOf "_law_draw" "_law_draw" (defArgs s__law_draw) (defBody s__law_draw) (defScope s__law_draw) .none kV7 dc7 pm7 an7 cd7 ct7), F__law_draw := fun_mk l7 c7 k7, m__law_draw := PySem.W.mg_of X G a7, b__law_draw := (fun_mk l7 c7 k7).binds (ps := ["pool", "many"]) fun _ _ _ _ _ _ us hl => (match us, hl with | [_, _], _ => rfl),
    a__law_counts_more := f8, d__law_counts_more := (PySem.W.fnOf "_law_counts_more" "_law_counts_more" (defArgs s__law_counts_more) (defBody s__law_counts_more) (defScope s__law_counts_more) .none kV8 dc8 pm8 an8 cd8 ct8), F__law_counts_more := fun_mk l8 c8 k8, m__law_counts_more := PySem.W.mg_of X G a8, b__law_counts_more := (fun_mk l8 c8 k8).binds (ps := ["votes", "step", "given", "i", "j"]) fun _ _ _ _ _ _ us hl => (match us, hl with | [_, _, _, _, _], _ => rfl),
    a__law_seats := f9, d__law_seats := (PySem.W.fnOf "_law_seats" "_law_seats" (defArgs s__law_seats) (defBody s__law_seats) (defScope s__law_seats) .none kV9 dc9 pm9 an9 cd9 ct9), F__law_seats := fun_mk l9 c9 k9, m__law_seats := PySem.W.mg_of X G a9, b__law_seats := (fun_mk l9 c9 k9).binds (ps := ["votes", "number", "step"]) fun _ _ _ _ _ _ us hl => (match us, hl with | [_, _, _], _ => rfl),
    a__law_votes := f10, d__law_votes := (PySem.W.fnOf "_law_votes" "_law_votes" (defArgs s__law_votes) (defBody s__law_votes) (defScope s__law_votes) .none kV10 dc10 pm10 an10 cd10 ct10), F__law_votes := fun_mk l10 c10 k10, m__law_votes := PySem.W.mg_of X G a10, b__law_votes := (fun_mk l10 c10 k10).binds (ps := ["pool"]) fun _ _ _ _ _ _ us hl => (match us, hl with | [_], _ => rfl),
    a_law := fa, d_law := (PySem.W.fnOf "law" "law" (defArgs s_law) (defBody s_law) (defScope s_law) .none kV11 dc11 pm11 an11 cd11 ct11), F_law := fun_mk l11 c11 k11, m_law := PySem.W.mg_of X G a11, b_law := (fun_mk l11 c11 k11).binds (ps := ["script"]) fun _ _ _ _ _ _ us hl => (match us, hl with | [_], _ => rfl),
    n_bool := PySem.W.mg_none_of X G z_bool,
    n_int := PySem.W.mg_none_of X G z_int,
    n_isinstance := PySem.W.mg_none_of X G z_isinstance,
    n_len := PySem.W.mg_none_of X G z_len,
    n_list := PySem.W.mg_none_of X G z_list,
    n_range := PySem.W.mg_none_of X G z_range,
    n_sorted := PySem.W.mg_none_of X G z_sorted,
    n_str := PySem.W.mg_none_of X G z_str,
    n_sum := PySem.W.mg_none_of X G z_sum,
    n_tuple := PySem.W.mg_none_of X G z_tuple }
  exact law_at (fd := TT.d_law) [(tc3, tabOf K tc3)] (by decide) X (all_c (own_empty (own "by_rests" f3 r3 (PySem.W.mg_of X G a3)) l3 rfl rfl h3) all_n) (all_c q3 all_n) (all_c h3 all_n) (fun s v => .of_eq rfl) fun base k1 k2 k3 => ok_law TT { t_by_rests := k3 _ (List.Mem.head _) } law_true
end My
open PySem PySem.W PyProof.Rows
set_option maxHeartbeats 0 in
theorem PySem.Challenge.cw_sharewright_k48_whole_seats_holds : PySem.Challenge.rw_sharewright_k48_whole_seats.Holds := by
  w_on; o_law; k_head; (case hw => w_witness2)
  k_fill
  refine L5.walk_all (l := PySem.Challenge.rw_sharewright_k48_whole_seats) (n := 63) (k := 10) (x := "script") (CX := fun _ => L2.CX0) rfl (by decide) rfl ⟨rfl, by decide, by decide⟩ (fun w h Y => by first | exact PySem.W.kIn_of Y | exact PySem.W.km_in_of Y) ?F (fun _ _ _ _ _ h => h)
  case F =>
    intro w mg fa h KX G hmg own
    refine' My.all_mk KX G hmg own ?a0 ?l0 ?c0 ?k0 ?a1 ?l1 ?c1 ?k1 ?a2 ?l2 ?c2 ?k2 ?a3 ?l3 ?c3 ?k3 ?h3 ?q3 ?r3 ?a4 ?l4 ?c4 ?k4 ?a5 ?l5 ?c5 ?k5 ?a6 ?l6 ?c6 ?k6 ?a7 ?l7 ?c7 ?k7 ?a8 ?l8 ?c8 ?k8 ?a9 ?l9 ?c9 ?k9 ?a10 ?l10 ?c10 ?k10 ?a11 ?l11 ?c11 ?k11 ?z_bool ?z_int ?z_isinstance ?z_len ?z_list ?z_range ?z_sorted ?z_str ?z_sum ?z_tuple
    (case a0 => k_is); (case l0 => k_is); (case c0 => k_is); (case k0 => k_is); (case a1 => k_is); (case l1 => k_is); (case c1 => k_is); (case k1 => k_is); (case a2 => k_is); (case l2 => k_is); (case c2 => k_is); (case k2 => k_is); (case a3 => k_is); (case l3 => k_is); (case c3 => k_is); (case k3 => k_is); (case h3 => first | rfl | kernel_rfl | decide +kernel | k_is); (case q3 => first | rfl | kernel_rfl | decide +kernel | k_is); (case r3 => first | rfl | kernel_rfl | decide +kernel | k_is); (case a4 => k_is); (case l4 => k_is); (case c4 => k_is); (case k4 => k_is); (case a5 => k_is); (case l5 => k_is); (case c5 => k_is); (case k5 => k_is); (case a6 => k_is); (case l6 => k_is); (case c6 => k_is); (case k6 => k_is); (case a7 => k_is); (case l7 => k_is); (case c7 => k_is); (case k7 => k_is); (case a8 => k_is); (case l8 => k_is); (case c8 => k_is); (case k8 => k_is); (case a9 => k_is); (case l9 => k_is); (case c9 => k_is); (case k9 => k_is); (case a10 => k_is); (case l10 => k_is); (case c10 => k_is); (case k10 => k_is); (case a11 => k_is); (case l11 => k_is); (case c11 => k_is); (case k11 => k_is); (case z_bool => k_is); (case z_int => k_is); (case z_isinstance => k_is); (case z_len => k_is); (case z_list => k_is); (case z_range => k_is); (case z_sorted => k_is); (case z_str => k_is); (case z_sum => k_is); (case z_tuple => k_is)
