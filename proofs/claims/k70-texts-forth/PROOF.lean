import PyProof.Rows.All
import Wide.All
import OpenK.AllK
import Wide.FinOn
import HandS.ForMost
import HandS.Wide
import HandS.Style
import HandS.SortInts
import HandS.IsInst
import HandS.ForExc
import HandS.Conv
import HandS.More
import HandS.Rev
import PyProof.Rows.SeqCalls3
import HandS.Dict
import PyProof.MaxThree
import HandS.RevTup
import PyProof.ListRange
import HandS.SortKw
import HandS.Text
import HandS.FStr
import HandS.TryOnly
import PySem.Challenge.RW_evenquay_k70_texts_forth_and_back
set_option Elab.async false
set_option linter.all false
set_option maxRecDepth 100000
/-! EqA: pure data, what stands for it in the abstract heap, the environment of data. -/
namespace EQ
open PySem PySem.Spec PyProof.Rows L2

/-! ### results -/
inductive R (α : Type) where
  | ok (a : α)
  | ex (c : Str)
  | no
def R.bind {α β : Type} (x : R α) (f : α → R β) : R β := match x with
  | .ok a => f a
  | .ex c => .ex c
  | .no => .no
@[simp] theorem R.bind_ok {α β : Type} (a : α) (f : α → R β) : (R.ok a).bind f = f a := rfl
@[simp] theorem R.bind_ex {α β : Type} (c : Str) (f : α → R β) : (R.ex c).bind f = .ex c := rfl
@[simp] theorem R.bind_no {α β : Type} (f : α → R β) : (R.no : R α).bind f = .no := rfl
def R.ite {α : Type} (b : Bool) (x : R α) : R α := match b with
  | true => x
  | false => .no
@[simp] theorem R.ite_t {α : Type} (x : R α) : R.ite true x = x := rfl
@[simp] theorem R.ite_f {α : Type} (x : R α) : R.ite false x = .no := rfl

/-! ### data -/
inductive D where
  | non
  | bl (b : Bool)
  | int (i : Int)
  | str (x : Str)
  | tup (xs : List D)
  | lst (xs : List D)
  | dct (ks : List Key) (vs : List D)
  | scr (ns : List Int)
  deriving Inhabited

mutual
/-- nothing in it can be changed -/
def imm : D → Bool
  | .non => true
  | .bl _ => true
  | .int _ => true
  | .str _ => true
  | .scr _ => true
  | .tup xs => immA xs
  | .lst _ => false
  | .dct _ _ => false
def immA : List D → Bool
  | [] => true
  | x :: xs => imm x && immA xs
end
@[simp] theorem imm_non : imm .non = true := by simp [imm]
@[simp] theorem imm_bl (b : Bool) : imm (.bl b) = true := by simp [imm]
@[simp] theorem imm_int (b : Int) : imm (.int b) = true := by simp [imm]
@[simp] theorem imm_str (b : Str) : imm (.str b) = true := by simp [imm]
@[simp] theorem imm_scr (b : List Int) : imm (.scr b) = true := by simp [imm]
@[simp] theorem imm_tup (xs : List D) : imm (.tup xs) = immA xs := by simp [imm]
@[simp] theorem imm_lst (xs : List D) : imm (.lst xs) = false := by simp [imm]
@[simp] theorem imm_dct (ks : List Key) (xs : List D) : imm (.dct ks xs) = false := by simp [imm]
@[simp] theorem immA_nil : immA [] = true := by simp [immA]
@[simp] theorem immA_cons (x : D) (xs : List D) : immA (x :: xs) = (imm x && immA xs) := by simp [immA]
theorem immA_all (xs : List D) : immA xs = true ↔ ∀ x ∈ xs, imm x = true := by
  induction xs with
  | nil => simp
  | cons x xs ih => simp [ih]
@[simp] theorem immA_append (xs ys : List D) : immA (xs ++ ys) = (immA xs && immA ys) := by
  induction xs with
  | nil => simp
  | cons x xs ih => simp [ih, Bool.and_assoc]
@[simp] theorem immA_ints (ns : List Int) : immA (ns.map D.int) = true := by
  induction ns with
  | nil => simp
  | cons x xs ih => simp [ih]

/-- a written or locked list: never changed -/
def Scr (K : PySem.W.Frag) (H : Hp) (a : Addr) (ns : List Int) : Prop := (∃ o, H a = some (.frz o (.lst (ns.map V.int)))) ∨
  ∃ (o : Obj) (its : Array Value) (n : Nat), K.lookup a = some o ∧ o.cls = .type "list" ∧ o.dict = none ∧ o.data = .seq its n ∧ its.size ≤ sizeLine ∧ Vals (ns.map V.int) its.toList
theorem Scr.seq {K : PySem.W.Frag} {H : Hp} {a : Addr} {ns : List Int} (h : Scr K H a ns) : SqL K H a (ns.map V.int) := by
  rcases h with ⟨o, h⟩ | h
  · exact .inl (.inr ⟨o, h⟩)
  · exact .inr h

/-- values stand for data; the addresses of the lists and dicts in it -/
inductive RepA (K : PySem.W.Frag) (H : Hp) : List V → List D → List Addr → Prop where
  | nil : RepA K H [] [] []
  | non {vs ds f} : RepA K H vs ds f → RepA K H (.non :: vs) (.non :: ds) f
  | bl {b vs ds f} : RepA K H vs ds f → RepA K H (.bl b :: vs) (.bl b :: ds) f
  | int {i vs ds f} : RepA K H vs ds f → RepA K H (.int i :: vs) (.int i :: ds) f
  | str {x vs ds f} : RepA K H vs ds f → RepA K H (.str x :: vs) (.str x :: ds) f
  | scr {a ns vs ds f} : Scr K H a ns → RepA K H vs ds f → RepA K H (.ref a :: vs) (.scr ns :: ds) f
  | tup {a xs es f1 vs ds f} : H a = some (.tup xs) → RepA K H xs es f1 → RepA K H vs ds f → RepA K H (.ref a :: vs) (.tup es :: ds) (f1 ++ f)
  | lst {a xs es f1 vs ds f} : H a = some (.lst xs) → RepA K H xs es f1 → RepA K H vs ds f → RepA K H (.ref a :: vs) (.lst es :: ds) (a :: f1 ++ f)
  | dct {a kvs ks es f1 vs ds f} : Rd H a (.dK kvs) → kvs.map (·.1) = ks → RepA K H (kvs.map (·.2)) es f1 → RepA K H vs ds f → RepA K H (.ref a :: vs) (.dct ks es :: ds) (a :: f1 ++ f)
abbrev Rep (K : PySem.W.Frag) (H : Hp) (v : V) (d : D) (f : List Addr) : Prop := RepA K H [v] [d] f

section
variable {K : PySem.W.Frag} {H H' : Hp} {v : V} {d : D} {vs ws : List V} {ds es : List D} {f f' fp : List Addr} {a : Addr}
theorem Rd.mono {u : HO} (s : Same H H') (r : Rd H a u) : Rd H' a u := by
  rcases r with r | ⟨o, r⟩
  · exact .inl (s _ _ r)
  · exact .inr ⟨o, s _ _ r⟩
theorem RepA.length (h : RepA K H vs ds f) : vs.length = ds.length := by
  induction h <;> simp_all
theorem RepA.cons (h : Rep K H v d f) (t : RepA K H vs ds f') : RepA K H (v :: vs) (d :: ds) (f ++ f') := by
  cases h with
  | non h => cases h; exact .non t
  | bl h => cases h; exact .bl t
  | int h => cases h; exact .int t
  | str h => cases h; exact .str t
  | scr s h => cases h; exact .scr s t
  | tup r x h => cases h; rw [List.append_nil]; exact .tup r x t
  | lst r x h => cases h; rw [List.append_nil]; exact .lst r x t
  | dct r e x h => cases h; rw [List.append_nil]; exact .dct r e x t
theorem RepA.uncons (h : RepA K H (v :: vs) (d :: ds) f) : ∃ f1 f2, f = f1 ++ f2 ∧ Rep K H v d f1 ∧ RepA K H vs ds f2 := by
  cases h with
  | non h => exact ⟨[], _, rfl, .non .nil, h⟩
  | bl h => exact ⟨[], _, rfl, .bl .nil, h⟩
  | int h => exact ⟨[], _, rfl, .int .nil, h⟩
  | str h => exact ⟨[], _, rfl, .str .nil, h⟩
  | scr s h => exact ⟨[], _, rfl, .scr s .nil, h⟩
  | @tup _ _ _ f1 _ _ _ r x h => exact ⟨f1 ++ [], _, by simp, .tup r x .nil, h⟩
  | @lst a _ _ f1 _ _ _ r x h => exact ⟨a :: f1 ++ [], _, by simp, .lst r x .nil, h⟩
  | @dct a _ _ _ f1 _ _ _ r e x h => exact ⟨a :: f1 ++ [], _, by simp, .dct r e x .nil, h⟩
theorem RepA.nil_d (h : RepA K H vs [] f) : vs = [] ∧ f = [] := by cases h; exact ⟨rfl, rfl⟩
theorem RepA.cons_d (h : RepA K H vs (d :: ds) f) : ∃ v ws f1 f2, vs = v :: ws ∧ f = f1 ++ f2 ∧ Rep K H v d f1 ∧ RepA K H ws ds f2 := by
  cases vs with
  | nil => cases h
  | cons v ws =>
    obtain ⟨f1, f2, e, h1, h2⟩ := h.uncons
    exact ⟨v, ws, f1, f2, rfl, e, h1, h2⟩
theorem RepA.append (h : RepA K H vs ds f) (t : RepA K H ws es f') : RepA K H (vs ++ ws) (ds ++ es) (f ++ f') := by
  induction ds generalizing vs f with
  | nil => obtain ⟨rfl, rfl⟩ := h.nil_d; exact t
  | cons d ds ih =>
    obtain ⟨v, us, f1, f2, rfl, rfl, h1, h2⟩ := h.cons_d
    rw [List.append_assoc]
    exact RepA.cons h1 (ih h2)
theorem RepA.get (h : RepA K H vs ds f) {i : Nat} (e : ds[i]? = some d) : ∃ v f1, vs[i]? = some v ∧ Rep K H v d f1 ∧ ∀ b ∈ f1, b ∈ f := by
  induction ds generalizing vs f i with
  | nil => simp at e
  | cons d' ds ih =>
    obtain ⟨v, us, f1, f2, rfl, rfl, h1, h2⟩ := h.cons_d
    cases i with
    | zero =>
      obtain rfl : d' = d := by simpa using e
      exact ⟨v, f1, rfl, h1, fun b hb => by simp [hb]⟩
    | succ i =>
      obtain ⟨w, f3, e1, r, hs⟩ := ih h2 (by simpa using e)
      exact ⟨w, f3, by simpa using e1, r, fun b hb => by simp [hs b hb]⟩
/-- .. and the footprint of one item is a part of the whole one -/
theorem RepA.getS (h : RepA K H vs ds f) {i : Nat} (e : ds[i]? = some d) : ∃ v f1, vs[i]? = some v ∧ Rep K H v d f1 ∧ f1.Sublist f := by
  induction ds generalizing vs f i with
  | nil => simp at e
  | cons d' ds ih =>
    obtain ⟨v, us, f1, f2, rfl, rfl, h1, h2⟩ := h.cons_d
    cases i with
    | zero =>
      obtain rfl : d' = d := by simpa using e
      exact ⟨v, f1, rfl, h1, List.sublist_append_left _ _⟩
    | succ i =>
      obtain ⟨w, f3, e1, r, hs⟩ := ih h2 (by simpa using e)
      exact ⟨w, f3, by simpa using e1, r, hs.trans (List.sublist_append_right _ _)⟩
theorem RepA.split (h : RepA K H vs (ds ++ es) f) : ∃ us ws f1 f2, vs = us ++ ws ∧ f = f1 ++ f2 ∧ RepA K H us ds f1 ∧ RepA K H ws es f2 := by
  induction ds generalizing vs f with
  | nil => exact ⟨[], vs, [], f, rfl, rfl, .nil, h⟩
  | cons d ds ih =>
    obtain ⟨v, us, f1, f2, rfl, rfl, h1, h2⟩ := h.cons_d
    obtain ⟨us', ws, g1, g2, rfl, rfl, i1, i2⟩ := ih h2
    exact ⟨v :: us', ws, f1 ++ g1, g2, rfl, by simp, RepA.cons h1 i1, i2⟩
/-- another value in its place -/
theorem RepA.setS (h : RepA K H vs ds f) (i : Nat) (r : Rep K H v d fp) : ∃ f1, RepA K H (vs.set i v) (ds.set i d) f1 ∧ (∀ b ∈ f1, b ∈ f ∨ b ∈ fp) ∧ (f.Nodup → fp.Nodup → (∀ b ∈ f, b ∉ fp) → f1.Nodup) := by
  induction ds generalizing vs f i with
  | nil => obtain ⟨rfl, rfl⟩ := h.nil_d; exact ⟨[], .nil, by simp, by simp⟩
  | cons d' ds ih =>
    obtain ⟨v', us, f1, f2, rfl, rfl, h1, h2⟩ := h.cons_d
    cases i with
    | zero =>
      refine ⟨fp ++ f2, RepA.cons r h2, fun b hb => ?_, fun n1 n2 dj => ?_⟩
      · rcases List.mem_append.mp hb with z | z
        · exact .inr z
        · exact .inl (by simp [z])
      · refine List.nodup_append.mpr ⟨n2, (List.nodup_append.mp n1).2.1, fun x hx y hy e => ?_⟩
        subst e
        exact dj x (by simp [hy]) hx
    | succ i =>
      obtain ⟨f3, h3, m3, n3⟩ := ih h2 i
      refine ⟨f1 ++ f3, RepA.cons h1 h3, fun b hb => ?_, fun n1 n2 dj => ?_⟩
      · rcases List.mem_append.mp hb with z | z
        · exact .inl (by simp [z])
        · rcases m3 b z with z | z
          · exact .inl (by simp [z])
          · exact .inr z
      · obtain ⟨a1, a2, a3⟩ := List.nodup_append.mp n1
        refine List.nodup_append.mpr ⟨a1, n3 a2 n2 (fun b hb => dj b (by simp [hb])), fun x hx y hy e => ?_⟩
        subst e
        rcases m3 x hy with z | z
        · exact a3 x hx x z rfl
        · exact dj x (by simp [hx]) z
theorem RepA.imm (h : RepA K H vs ds f) (e : immA ds = true) : f = [] := by
  induction h with
  | nil => rfl
  | non _ ih => exact ih (by simpa using e)
  | bl _ ih => exact ih (by simpa using e)
  | int _ ih => exact ih (by simpa using e)
  | str _ ih => exact ih (by simpa using e)
  | scr _ _ ih => exact ih (by simpa using e)
  | tup _ _ _ ih1 ih2 =>
    simp only [immA_cons, imm_tup, Bool.and_eq_true] at e
    rw [ih1 e.1, ih2 e.2]; rfl
  | lst _ _ _ _ _ => simp at e
  | dct _ _ _ _ _ _ => simp at e
theorem Rep.imm (h : Rep K H v d f) (e : EQ.imm d = true) : f = [] := RepA.imm h (by simp [e])
theorem Scr.mono {ns : List Int} (s : Same H H') (h : Scr K H a ns) : Scr K H' a ns := by
  rcases h with ⟨o, h⟩ | h
  · exact .inl ⟨o, s _ _ h⟩
  · exact .inr h
/-- what may not change, and what may -/
def Kept (H H' : Hp) (f : List Addr) : Prop := ∀ b u, H b = some u → (b ∈ f ∨ ¬ (∃ xs, u = .lst xs) ∧ ¬ ∃ kvs, u = .dK kvs) → H' b = some u
theorem RepA.kept (h : RepA K H vs ds f) : Kept H H' f → RepA K H' vs ds f := by
  have hr : ∀ {a u g}, Kept H H' g → Rd H a u → (a ∈ g ∨ ¬ (∃ xs, u = .lst xs) ∧ ¬ ∃ kvs, u = .dK kvs) → Rd H' a u := fun {a u g} k r n => by
    rcases r with r | ⟨o, r⟩
    · exact .inl (k _ _ r n)
    · exact .inr ⟨o, k _ _ r (.inr ⟨fun ⟨_, z⟩ => (by cases z), fun ⟨_, z⟩ => (by cases z)⟩)⟩
  have sub : ∀ {g g' : List Addr}, Kept H H' g → (∀ b ∈ g', b ∈ g) → Kept H H' g' := fun k s b u e n => k b u e (n.imp (s b) id)
  induction h with
  | nil => intro _; exact .nil
  | non _ ih => intro k; exact .non (ih k)
  | bl _ ih => intro k; exact .bl (ih k)
  | int _ ih => intro k; exact .int (ih k)
  | str _ ih => intro k; exact .str (ih k)
  | scr s _ ih =>
    intro k
    refine .scr ?_ (ih k)
    rcases s with ⟨o, h⟩ | h
    · exact .inl ⟨o, k _ _ h (.inr ⟨fun ⟨_, z⟩ => (by cases z), fun ⟨_, z⟩ => (by cases z)⟩)⟩
    · exact .inr h
  | tup r _ _ ih1 ih2 => intro k; exact .tup (k _ _ r (.inr ⟨fun ⟨_, z⟩ => (by cases z), fun ⟨_, z⟩ => (by cases z)⟩)) (ih1 (sub k fun b hb => by simp [hb])) (ih2 (sub k fun b hb => by simp [hb]))
  | lst r _ _ ih1 ih2 => intro k; exact .lst (k _ _ r (.inl (by simp))) (ih1 (sub k fun b hb => by simp [hb])) (ih2 (sub k fun b hb => by simp [hb]))
  | dct r e _ _ ih1 ih2 => intro k; exact .dct (hr k r (.inl (by simp))) e (ih1 (sub k fun b hb => by simp [hb])) (ih2 (sub k fun b hb => by simp [hb]))
theorem RepA.mono (h : RepA K H vs ds f) (s : Same H H') : RepA K H' vs ds f := h.kept fun b u e _ => s b u e
/-- an object that is not in the footprint changes -/
theorem RepA.upd {p : Addr} {o : HO} (h : RepA K H vs ds f) (hp : p ∉ f) (m : H p = none ∨ (∃ xs, H p = some (.lst xs)) ∨ ∃ kvs, H p = some (.dK kvs)) : RepA K (upd H p o) vs ds f := h.kept fun b u e n => by
  have hb : b ≠ p := by
    rintro rfl
    rcases n with n | ⟨n1, n2⟩
    · exact hp n
    · rcases m with m | ⟨_, m⟩ | ⟨_, m⟩
      · rw [m] at e; cases e
      · rw [m] at e; cases e; exact n1 ⟨_, rfl⟩
      · rw [m] at e; cases e; exact n2 ⟨_, rfl⟩
  rw [upd_ne hb]; exact e
/-- a footprint stands in the heap -/
theorem RepA.there (h : RepA K H vs ds f) : ∀ a ∈ f, (H a).isSome = true := by
  have rd : ∀ {a u}, Rd H a u → (H a).isSome = true := fun r => by
    rcases r with r | ⟨o, r⟩ <;> rw [r] <;> rfl
  induction h with
  | nil => simp
  | non _ ih => exact ih
  | bl _ ih => exact ih
  | int _ ih => exact ih
  | str _ ih => exact ih
  | scr _ _ ih => exact ih
  | tup _ _ _ ih1 ih2 => intro a ha; rcases List.mem_append.mp ha with z | z; exact ih1 a z; exact ih2 a z
  | lst r _ _ ih1 ih2 =>
    intro a ha
    rcases List.mem_cons.mp ha with z | z
    · subst z; rw [r]; rfl
    · rcases List.mem_append.mp z with z | z; exact ih1 a z; exact ih2 a z
  | dct r _ _ _ ih1 ih2 =>
    intro a ha
    rcases List.mem_cons.mp ha with z | z
    · subst z; exact rd r
    · rcases List.mem_append.mp z with z | z; exact ih1 a z; exact ih2 a z
/-- what may be changed -/
def MutA (H : Hp) (a : Addr) : Prop := (∃ xs, H a = some (.lst xs)) ∨ ∃ kvs, H a = some (.dK kvs)
theorem MutA.mono (s : Same H H') (h : MutA H a) : MutA H' a := by
  rcases h with ⟨x, h⟩ | ⟨x, h⟩
  · exact .inl ⟨x, s _ _ h⟩
  · exact .inr ⟨x, s _ _ h⟩
theorem MutA.some (h : MutA H a) : H a ≠ none := by
  rcases h with ⟨x, h⟩ | ⟨x, h⟩ <;> rw [h] <;> simp
theorem MutA.upd {p : Addr} {o : HO} (h : MutA H a) (ho : (∃ xs, o = .lst xs) ∨ ∃ kvs, o = .dK kvs) : MutA (upd H p o) a := by
  by_cases e : a = p
  · subst e
    rcases ho with ⟨x, rfl⟩ | ⟨x, rfl⟩
    · exact .inl ⟨x, upd_same⟩
    · exact .inr ⟨x, upd_same⟩
  · unfold MutA; rw [upd_ne e]; exact h
/-- an own list, dict -/
theorem RepA.lstM (h : Rep K H v (.lst ds) f) : ∃ a xs f1, v = .ref a ∧ f = a :: f1 ∧ H a = Option.some (.lst xs) ∧ RepA K H xs ds f1 := by
  cases h with
  | @lst a xs _ f1 _ _ _ r x h =>
    cases h
    exact ⟨a, xs, f1, rfl, by simp, r, x⟩
theorem RepA.dctM {ks : List Key} (h : Rep K H v (.dct ks ds) f) (m : ∀ a ∈ f, MutA H a) : ∃ a kvs f1, v = .ref a ∧ f = a :: f1 ∧ H a = Option.some (.dK kvs) ∧ kvs.map (·.1) = ks ∧ RepA K H (kvs.map (·.2)) ds f1 := by
  cases h with
  | @dct a xs _ _ f1 _ _ _ r e x h =>
    cases h
    refine ⟨a, xs, f1, rfl, by simp, ?_, e, x⟩
    rcases r with r | ⟨o, r⟩
    · exact r
    · rcases m a (by simp) with ⟨_, z⟩ | ⟨_, z⟩ <;> rw [z] at r <;> cases r
theorem RepA.lst_inv (h : Rep K H v (.lst ds) f) : ∃ a xs f1, v = .ref a ∧ f = a :: f1 ∧ H a = Option.some (.lst xs) ∧ RepA K H xs ds f1 := by
  cases h with
  | @lst a xs _ f1 _ _ _ r x h => cases h; exact ⟨a, xs, f1, rfl, by simp, r, x⟩
theorem RepA.tup_inv (h : Rep K H v (.tup ds) f) : ∃ a xs, v = .ref a ∧ H a = Option.some (.tup xs) ∧ RepA K H xs ds f := by
  cases h with
  | @tup a xs _ f1 _ _ _ r x h => cases h; exact ⟨a, xs, rfl, r, by simpa using x⟩
theorem RepA.dct_inv {ks : List Key} (h : Rep K H v (.dct ks ds) f) : ∃ a kvs f1, v = .ref a ∧ f = a :: f1 ∧ Rd H a (.dK kvs) ∧ kvs.map (·.1) = ks ∧ RepA K H (kvs.map (·.2)) ds f1 := by
  cases h with
  | @dct a xs _ _ f1 _ _ _ r e x h => cases h; exact ⟨a, xs, f1, rfl, by simp, r, e, x⟩
theorem RepA.scr_inv {ns : List Int} (h : Rep K H v (.scr ns) f) : ∃ a, v = .ref a ∧ Scr K H a ns ∧ f = [] := by
  cases h with
  | scr s h => cases h; exact ⟨_, rfl, s, rfl⟩
theorem RepA.non_inv (h : Rep K H v .non f) : v = .non ∧ f = [] := by cases h with | non h => cases h; exact ⟨rfl, rfl⟩
theorem RepA.bl_inv {b : Bool} (h : Rep K H v (.bl b) f) : v = .bl b ∧ f = [] := by cases h with | bl h => cases h; exact ⟨rfl, rfl⟩
theorem RepA.int_inv {b : Int} (h : Rep K H v (.int b) f) : v = .int b ∧ f = [] := by cases h with | int h => cases h; exact ⟨rfl, rfl⟩
theorem RepA.str_inv {b : Str} (h : Rep K H v (.str b) f) : v = .str b ∧ f = [] := by cases h with | str h => cases h; exact ⟨rfl, rfl⟩
theorem Rep.mk_non : Rep K H .non .non [] := .non .nil
theorem Rep.mk_bl {b : Bool} : Rep K H (.bl b) (.bl b) [] := .bl .nil
theorem Rep.mk_int {b : Int} : Rep K H (.int b) (.int b) [] := .int .nil
theorem Rep.mk_str {b : Str} : Rep K H (.str b) (.str b) [] := .str .nil
theorem Rep.mk_tup {xs : List V} (r : H a = Option.some (.tup xs)) (h : RepA K H xs ds f) : Rep K H (.ref a) (.tup ds) f := by
  have := RepA.tup (K := K) r h .nil
  rwa [List.append_nil] at this
theorem Rep.mk_lst {xs : List V} (r : H a = Option.some (.lst xs)) (h : RepA K H xs ds f) : Rep K H (.ref a) (.lst ds) (a :: f) := by
  have := RepA.lst (K := K) r h .nil
  rwa [List.append_nil] at this
theorem Rep.mk_dct {kvs : List (Key × V)} {ks : List Key} (r : Rd H a (.dK kvs)) (e : kvs.map (·.1) = ks) (h : RepA K H (kvs.map (·.2)) ds f) : Rep K H (.ref a) (.dct ks ds) (a :: f) := by
  have := RepA.dct (K := K) r e h .nil
  rwa [List.append_nil] at this
theorem RepA.ints : ∀ (ns : List Int), RepA K H (ns.map V.int) (ns.map D.int) []
  | [] => .nil
  | _ :: r => .int (RepA.ints r)
theorem RepA.ints_inv : ∀ {ns : List Int} {vs : List V} {f : List Addr}, RepA K H vs (ns.map D.int) f → vs = ns.map V.int
  | [], _, _, h => h.nil_d.1
  | _ :: r, _, _, h => by
    obtain ⟨v, ws, f1, f2, rfl, rfl, h1, h2⟩ := h.cons_d
    rw [h1.int_inv.1, RepA.ints_inv h2]; rfl
end
/-- a new footprint: no two alike, nothing that stood before -/
def Fresh (H H' : Hp) (f : List Addr) : Prop := f.Nodup ∧ ∀ a ∈ f, H a = none ∧ MutA H' a
theorem Fresh.nil {H H' : Hp} : Fresh H H' [] := ⟨List.nodup_nil, fun _ h => by cases h⟩
theorem Fresh.mono {H0 H H' H'' : Hp} {f : List Addr} (h : Fresh H H' f) (s0 : Same H0 H) (s : Same H' H'') : Fresh H0 H'' f := ⟨h.1, fun a ha => ⟨s0.free (h.2 a ha).1, (h.2 a ha).2.mono s⟩⟩
theorem Fresh.append {H H1 H2 : Hp} {f g : List Addr} (h : Fresh H H1 f) (t : Fresh H1 H2 g) (s0 : Same H H1) (s : Same H1 H2) : Fresh H H2 (f ++ g) := by
  refine ⟨List.nodup_append.mpr ⟨h.1, t.1, fun x hx y hy e => ?_⟩, fun a ha => ?_⟩
  · subst e
    exact (h.2 x hx).2.some (t.2 x hy).1
  · rcases List.mem_append.mp ha with z | z
    · exact ⟨(h.2 a z).1, (h.2 a z).2.mono s⟩
    · exact ⟨s0.free (t.2 a z).1, (t.2 a z).2⟩
theorem Fresh.sub {H H' : Hp} {f g : List Addr} (h : Fresh H H' f) (s : g.Sublist f) : Fresh H H' g := ⟨h.1.sublist s, fun a ha => h.2 a (s.subset ha)⟩
theorem same_upd {H : Hp} {p : Addr} {o : HO} (h : H p = none) : Same H (upd H p o) := fun b x e => by
  rw [upd_ne (ne_of_none e h)]
  exact e
end EQ
/-! EqB: the environment of data, the judgements over it, names, constants, operators. -/
namespace EQ
open PySem PySem.Spec PyProof.Rows L2

abbrev DEnv := List (Option (D × Bool))
/-- B: what is not changed any more; g: the footprints of the slots -/
structure OkG (K : PySem.W.Frag) (B H : Hp) (σ : L2.St) (ρ : DEnv) (g : Nat → List Addr) : Prop where
  len : σ.length = ρ.length
  bas : Same B H
  rep : ∀ i d o, ρ[i]? = some (some (d, o)) → ∃ v, σ[i]? = some (some v) ∧ Rep K H v d (g i)
  frz : ∀ i d, ρ[i]? = some (some (d, false)) → ∀ a ∈ g i, B a ≠ none
  own : ∀ i d, ρ[i]? = some (some (d, true)) → (g i).Nodup ∧ ∀ a ∈ g i, B a = none ∧ MutA H a
  dis : ∀ i j d e, ρ[i]? = some (some (d, true)) → ρ[j]? = some (some (e, true)) → i ≠ j → ∀ a ∈ g i, a ∉ g j
theorem OkG.mono {K : PySem.W.Frag} {B H H' : Hp} {σ : L2.St} {ρ : DEnv} {g : Nat → List Addr} (h : OkG K B H σ ρ g) (s : Same H H') : OkG K B H' σ ρ g :=
  ⟨h.len, h.bas.trans s, fun i d o e => let ⟨v, e1, r⟩ := h.rep i d o e; ⟨v, e1, r.mono s⟩, h.frz, fun i d e => ⟨(h.own i d e).1, fun a ha => ⟨((h.own i d e).2 a ha).1, ((h.own i d e).2 a ha).2.mono s⟩⟩, h.dis⟩
/-- all is known, nothing is own: for a look alone -/
@[simp] def lookE (ρ : DEnv) : DEnv := ρ.map fun x => x.map fun p => (p.1, false)
theorem OkG.look {K : PySem.W.Frag} {B H : Hp} {σ : L2.St} {ρ : DEnv} {g : Nat → List Addr} (h : OkG K B H σ ρ g) : OkG K H H σ (lookE ρ) g := by
  have key : ∀ i d o, (lookE ρ)[i]? = some (some (d, o)) → o = false ∧ ∃ o', ρ[i]? = some (some (d, o')) := fun i d o e => by
    unfold lookE at e
    rw [List.getElem?_map] at e
    cases q : ρ[i]? with
    | none => rw [q] at e; cases e
    | some x =>
      rw [q] at e
      cases x with
      | none => cases e
      | some p =>
        obtain ⟨d', o'⟩ := p
        simp only [Option.map_some, Option.some.injEq, Prod.mk.injEq] at e
        obtain ⟨rfl, rfl⟩ := e
        exact ⟨rfl, o', q⟩
  refine ⟨by unfold lookE; rw [List.length_map]; exact h.len, Same.refl H, fun i d o e => ?_, fun i d e a ha z => ?_, fun i d e => ?_, fun i j d e e1 => ?_⟩
  · obtain ⟨_, o', e'⟩ := key i d o e
    exact h.rep i d o' e'
  · obtain ⟨_, o', e'⟩ := key i d _ e
    obtain ⟨v, _, r⟩ := h.rep i d o' e'
    have := r.there a ha
    rw [z] at this; cases this
  · obtain ⟨z, _⟩ := key i d _ e; cases z
  · obtain ⟨z, _⟩ := key i d _ e1; cases z

/-- what a result must do -/
def Post {α : Type} (Bx : Str → Prop) (P : α → Prop) : R α → Prop
  | .ok a => P a
  | .ex c => Bx c
  | .no => False
theorem Post.bind {α β : Type} {Bx : Str → Prop} {P : β → Prop} {x : R α} {k : α → R β} (h : Post Bx P (x.bind k)) : Post Bx (fun a => Post Bx P (k a)) x := by
  cases x <;> exact h
theorem Post.imp {α : Type} {Bx Bx' : Str → Prop} {P P' : α → Prop} {x : R α} (h : Post Bx P x) (hb : ∀ c, Bx c → Bx' c) (hp : ∀ a, x = .ok a → P a → P' a) : Post Bx' P' x := by
  cases x with
  | ok a => exact hp a rfl h
  | ex c => exact hb c h
  | no => exact h
/-- an own exception class's name is wished for, whatever is kept -/
def ExB (mg : Str → Option Value) (Ex : XK) (B : Hp) (c : Str) : Prop := ∃ C, mg c = some (.ref C) ∧ ∀ H', Same B H' → Ex (.ref C) none H'
theorem ExB.mono {mg : Str → Option Value} {Ex : XK} {B B' : Hp} {c : Str} (s : Same B B') (h : ExB mg Ex B c) : ExB mg Ex B' c := by
  obtain ⟨C, e, h⟩ := h
  exact ⟨C, e, fun H' s' => h H' (s.trans s')⟩

abbrev DX := DEnv → R (D × Bool)
def QX (K : PySem.W.Frag) (H : Hp) (Q : VK) (p : D × Bool) : Prop := ∀ v H' fp, Same H H' → Rep K H' v p.1 fp → (p.2 = true → Fresh H H' fp) → Q v H'
theorem QX.mono {K : PySem.W.Frag} {H H1 : Hp} {Q : VK} {p : D × Bool} (s : Same H H1) (h : QX K H Q p) : QX K H1 Q p := fun v H' fp s' r f => h v H' fp (s.trans s') r fun o => (f o).mono s (Same.refl _)
/-- an expression that looks -/
def tX (K : PySem.W.Frag) (mg : Str → Option Value) (Ex : XK) (f : DX) : TE := fun σ H Q => ∃ B g ρ, OkG K B H σ ρ g ∧ Post (ExB mg Ex B) (QX K H Q) (f ρ)
abbrev PX (X : Cx) (Ex : XK) (e : Expr) (f : DX) : Prop := PE X e (tX X.K X.mg Ex f)
/-- a test -/
abbrev DT := DEnv → R Bool
def tT (K : PySem.W.Frag) (mg : Str → Option Value) (Ex : XK) (f : DT) : TT := fun σ H Q => ∃ B g ρ, OkG K B H σ ρ g ∧ Post (ExB mg Ex B) (fun b => ∀ H', Same H H' → Q b H') (f ρ)
abbrev PB (X : Cx) (Ex : XK) (e : Expr) (f : DT) : Prop := PT X e (tT X.K X.mg Ex f)
/-- several, from the left -/
abbrev DXs := DEnv → R (List (D × Bool))
def QXs (K : PySem.W.Frag) (H : Hp) (Q : List V → Hp → Prop) (ps : List (D × Bool)) : Prop := ∀ vs H' fp, Same H H' → RepA K H' vs (ps.map (·.1)) fp → ((ps.all (·.2)) = true → Fresh H H' fp) → Q vs H'
def tXs (K : PySem.W.Frag) (mg : Str → Option Value) (Ex : XK) (f : DXs) : TA := fun σ H Q => ∃ B g ρ, OkG K B H σ ρ g ∧ Post (ExB mg Ex B) (QXs K H Q) (f ρ)
abbrev PXs (X : Cx) (Ex : XK) (es : List Expr) (f : DXs) : Prop := PA X es (tXs X.K X.mg Ex f)

theorem PE.imp {X : Cx} {e : Expr} {t t' : TE} (h : PE X e t) (i : ∀ σ H Q, t' σ H Q → t σ H Q) : PE X e t' := ⟨fun pins s σ H Q I q => h.run pins s σ H Q I (i σ H Q q)⟩
theorem PE.or {X : Cx} {e : Expr} {t t' : TE} (h : PE X e t) (h' : PE X e t') : PE X e (fun σ H Q => t σ H Q ∨ t' σ H Q) := ⟨fun pins s σ H Q I q => q.elim (h.run pins s σ H Q I) (h'.run pins s σ H Q I)⟩
theorem PT.imp {X : Cx} {e : Expr} {t t' : TT} (h : PT X e t) (i : ∀ σ H Q, t' σ H Q → t σ H Q) : PT X e t' := ⟨fun pins s σ H Q I q => h.run pins s σ H Q I (i σ H Q q)⟩
theorem PA.imp {X : Cx} {es : List Expr} {t t' : TA} (h : PA X es t) (i : ∀ σ H Q, t' σ H Q → t σ H Q) : PA X es t' := ⟨fun po pins s σ H Q I q => h.run po pins s σ H Q I (i σ H Q q)⟩
theorem PW.imp {X : Cx} {e : Expr} {t t' : TT} (h : PW X e t) (i : ∀ σ H Q, t' σ H Q → t σ H Q) : PW X e t' := ⟨fun wh pins s σ H Q I q => h.run wh pins s σ H Q I (i σ H Q q)⟩
theorem OpR.or {X : Cx} {f : Value → Value → Sem Value} {r r' : R2} (h : OpR X f r) (h' : OpR X f r') : OpR X f (fun x y H Q => r x y H Q ∨ r' x y H Q) := fun pins s σ H x y v u Q I r1 r2 q => q.elim (h pins s σ H x y v u Q I r1 r2) (h' pins s σ H x y v u Q I r1 r2)
theorem CallR.or {X : Cx} {f : Value} {r r' : List V → Hp → VK → Prop} (h : CallR X f r) (h' : CallR X f r') : CallR X f (fun x H Q => r x H Q ∨ r' x H Q) := fun pins s σ H x v Q I r1 q => q.elim (h pins s σ H x v Q I r1) (h' pins s σ H x v Q I r1)

section
variable {K : PySem.W.Frag} {mg : Str → Option Value} {Ex : XK} {B H : Hp} {σ : L2.St} {ρ : DEnv} {g : Nat → List Addr}
/-- the first part of an expression -/
theorem tX_step {β : Type} {f : DX} {k : D × Bool → R β} {P : β → Prop} {Φ : VK} (ok : OkG K B H σ ρ g) (h : Post (ExB mg Ex B) P ((f ρ).bind k))
    (hk : ∀ d o v H1 fp, f ρ = .ok (d, o) → Same H H1 → Rep K H1 v d fp → (o = true → Fresh H H1 fp) → Post (ExB mg Ex B) P (k (d, o)) → Φ v H1) : tX K mg Ex f σ H Φ :=
  ⟨B, g, ρ, ok, h.bind.imp (fun _ z => z) fun p e q v H1 fp s r fr => hk p.1 p.2 v H1 fp e s r fr q⟩
theorem tT_step {β : Type} {f : DT} {k : Bool → R β} {P : β → Prop} {Φ : Bool → Hp → Prop} (ok : OkG K B H σ ρ g) (h : Post (ExB mg Ex B) P ((f ρ).bind k))
    (hk : ∀ b H1, f ρ = .ok b → Same H H1 → Post (ExB mg Ex B) P (k b) → Φ b H1) : tT K mg Ex f σ H Φ :=
  ⟨B, g, ρ, ok, h.bind.imp (fun _ z => z) fun b e q H1 s => hk b H1 e s q⟩
theorem tXs_step {β : Type} {f : DXs} {k : List (D × Bool) → R β} {P : β → Prop} {Φ : List V → Hp → Prop} (ok : OkG K B H σ ρ g) (h : Post (ExB mg Ex B) P ((f ρ).bind k))
    (hk : ∀ ps vs H1 fp, f ρ = .ok ps → Same H H1 → RepA K H1 vs (ps.map (·.1)) fp → ((ps.all (·.2)) = true → Fresh H H1 fp) → Post (ExB mg Ex B) P (k ps) → Φ vs H1) : tXs K mg Ex f σ H Φ :=
  ⟨B, g, ρ, ok, h.bind.imp (fun _ z => z) fun p e q v H1 fp s r fr => hk p v H1 fp e s r fr q⟩
end

/-! ### what the operators do with data -/
@[simp] def ofO {α : Type} : Option α → R α
  | some a => .ok a
  | none => .no
@[simp] theorem ofO_some {α : Type} (a : α) : ofO (some a) = .ok a := rfl
@[simp] theorem ofO_none {α : Type} : ofO (none : Option α) = .no := rfl
def small64 (i : Int) : Bool := decide (-(2 ^ 64) < i) && decide (i < 2 ^ 64)
@[simp] theorem small64_lit (n : Nat) : small64 (no_index (OfNat.ofNat n)) = decide (n < 18446744073709551616) := by
  unfold small64
  have e : (no_index (OfNat.ofNat n) : Int) = (n : Int) := rfl
  rw [e]
  have : ((decide (-(2 ^ 64) < (n : Int))) = true) := decide_eq_true (by omega)
  rw [this, Bool.true_and]
  exact decide_eq_decide.mpr (by omega)
theorem small64_of {i : Int} (h1 : -(2 ^ 64) < i) (h2 : i < 2 ^ 64) : small64 i = true := by
  unfold small64
  rw [decide_eq_true h1, decide_eq_true h2]; rfl
/-- a divisor that is not too great -/
def okDiv (b : Int) : Bool := decide (0 < b) && decide (b.natAbs.log2 < 9000)
theorem okDiv_of {b : Int} (h1 : 0 < b) (h2 : b < 2 ^ 64) : okDiv b = true := by
  unfold okDiv
  rw [decide_eq_true h1, Bool.true_and]
  have h3 : b.natAbs.log2 < 64 := (Nat.log2_lt (by omega)).mpr (by omega)
  exact decide_eq_true (by omega)
@[simp] theorem okDiv_lit (n : Nat) (h0 : 0 < n) (h1 : n < 18446744073709551616) : okDiv (no_index (OfNat.ofNat n)) = true := by
  have e : (no_index (OfNat.ofNat n) : Int) = (n : Int) := rfl
  rw [e]
  exact okDiv_of (by omega) (by omega)
@[simp] theorem sizeLine_val : sizeLine = 16777216 := sizeLine_eq
@[simp] def dAdd : D → D → R D
  | .int a, .int b => .ok (.int (a + b))
  | .str a, .str b => .ite (decide (a.length + b.length ≤ sizeLine)) (.ok (.str (a ++ b)))
  | .lst a, .lst b => .ite (immA a && immA b && decide (a.length + b.length ≤ sizeLine)) (.ok (.lst (a ++ b)))
  | _, _ => .no
@[simp] def dSub : D → D → R D
  | .int a, .int b => .ok (.int (a - b))
  | _, _ => .no
/-- one factor below 2 ^ 64, or both together below a million bits -/
def mulOk (a b : Int) : Bool := small64 a || (small64 b || decide (a.natAbs.log2 + b.natAbs.log2 < 1000000))
theorem op_mul2 {X : Cx} : OpR X (binaryOp .Mult) (rI (fun i j => CMul i j ∨ CMulW i j) fun i j => .int (i * j)) := opI fun _ _ _ _ _ _ _ hc q => mul_int q (hc.elim CMul.ok CMulW.ok)
@[simp] def dMul : D → D → R D
  | .int a, .int b => .ite (mulOk a b) (.ok (.int (a * b)))
  | _, _ => .no
@[simp] def dDiv : D → D → R D
  | .int a, .int b => .ite (okDiv b) (.ok (.int (a / b)))
  | _, _ => .no
@[simp] def dMod : D → D → R D
  | .int a, .int b => .ite (decide (0 < b)) (.ok (.int (a % b)))
  | _, _ => .no
@[simp] def dPow : D → D → R D
  | .int a, .int b => .ite (decide (0 ≤ b) && decide (b ≤ 1000000) && decide (a.natAbs < 2 ^ 64)) (.ok (.int (a ^ b.toNat)))
  | _, _ => .no
@[simp] def dNeg : D → R D
  | .int a => .ok (.int (-a))
  | _ => .no
@[simp] def dLt : D → D → R D
  | .int a, .int b => .ok (.bl (decide (a < b)))
  | _, _ => .no
@[simp] def dLe : D → D → R D
  | .int a, .int b => .ok (.bl (decide (a ≤ b)))
  | _, _ => .no
@[simp] def dGt : D → D → R D
  | .int a, .int b => .ok (.bl (decide (b < a)))
  | _, _ => .no
@[simp] def dGe : D → D → R D
  | .int a, .int b => .ok (.bl (decide (b ≤ a)))
  | _, _ => .no
section
@[simp] theorem dAdd_int (a b : Int) : dAdd (.int a) (.int b) = .ok (.int (a + b)) := rfl
@[simp] theorem dSub_int (a b : Int) : dSub (.int a) (.int b) = .ok (.int (a - b)) := rfl
@[simp] theorem dLt_int (a b : Int) : dLt (.int a) (.int b) = .ok (.bl (decide (a < b))) := rfl
@[simp] theorem dLe_int (a b : Int) : dLe (.int a) (.int b) = .ok (.bl (decide (a ≤ b))) := rfl
@[simp] theorem dGt_int (a b : Int) : dGt (.int a) (.int b) = .ok (.bl (decide (b < a))) := rfl
@[simp] theorem dGe_int (a b : Int) : dGe (.int a) (.int b) = .ok (.bl (decide (b ≤ a))) := rfl
@[simp] theorem dNeg_int (a : Int) : dNeg (.int a) = .ok (.int (-a)) := rfl
end

/-! ### == of data -/
mutual
def toPy : D → Option PyData
  | .non => some .none
  | .bl b => some (.bool b)
  | .int i => some (.int i)
  | .str x => some (.str x)
  | .tup xs => (toPyA xs).map .tuple
  | .lst xs => (toPyA xs).map .list
  | .dct _ _ => none
  | .scr _ => none
def toPyA : List D → Option (List PyData)
  | [] => some []
  | x :: xs => match toPy x, toPyA xs with
    | some a, some b => some (a :: b)
    | _, _ => none
end
def dEqB (d e : D) : R Bool := match toPy d, toPy e with
  | some a, some b => .ite (SeqAt.shaped a && SeqAt.shaped b) (.ok (PyData.eqv a b))
  | _, _ => .no
@[simp] def dEq (d e : D) : R D := (dEqB d e).bind fun b => .ok (.bl b)
@[simp] def dNe (d e : D) : R D := (dEqB d e).bind fun b => .ok (.bl (!b))
theorem RepA.dp {K : PySem.W.Frag} {H : Hp} {vs : List V} {ds : List D} {f : List Addr} (h : RepA K H vs ds f) : ∀ ps, toPyA ds = some ps → DpAll K H vs ps := by
  have cs : ∀ {d : D} {ds : List D} {ps}, toPyA (d :: ds) = some ps → ∃ a b, toPy d = some a ∧ toPyA ds = some b ∧ ps = a :: b := fun {d ds ps} e => by
    rw [toPyA] at e
    split at e
    · rename_i a b h1 h2
      exact ⟨a, b, h1, h2, (Option.some.inj e).symm⟩
    · cases e
  induction h with
  | nil => intro ps e; rw [toPyA] at e; cases e; exact .nil
  | non _ ih => intro ps e; obtain ⟨a, b, h1, h2, rfl⟩ := cs e; rw [toPy] at h1; cases h1; exact .cons .non (ih _ h2)
  | bl _ ih => intro ps e; obtain ⟨a, b, h1, h2, rfl⟩ := cs e; rw [toPy] at h1; cases h1; exact .cons (.bl _) (ih _ h2)
  | int _ ih => intro ps e; obtain ⟨a, b, h1, h2, rfl⟩ := cs e; rw [toPy] at h1; cases h1; exact .cons (.int _) (ih _ h2)
  | str _ ih => intro ps e; obtain ⟨a, b, h1, h2, rfl⟩ := cs e; rw [toPy] at h1; cases h1; exact .cons (.str _) (ih _ h2)
  | scr _ _ _ => intro ps e; obtain ⟨a, b, h1, h2, rfl⟩ := cs e; rw [toPy] at h1; cases h1
  | dct _ _ _ _ _ _ => intro ps e; obtain ⟨a, b, h1, h2, rfl⟩ := cs e; rw [toPy] at h1; cases h1
  | tup r _ _ ih1 ih2 =>
    intro ps e; obtain ⟨a, b, h1, h2, rfl⟩ := cs e; rw [toPy] at h1
    obtain ⟨q, e1, rfl⟩ := Option.map_eq_some_iff.mp h1
    exact .cons (.tup (.inl (.inl r)) (ih1 _ e1)) (ih2 _ h2)
  | lst r _ _ ih1 ih2 =>
    intro ps e; obtain ⟨a, b, h1, h2, rfl⟩ := cs e; rw [toPy] at h1
    obtain ⟨q, e1, rfl⟩ := Option.map_eq_some_iff.mp h1
    exact .cons (.lst (.inl (.inl r)) (ih1 _ e1)) (ih2 _ h2)
theorem Rep.dp {K : PySem.W.Frag} {H : Hp} {v : V} {d : D} {f : List Addr} (h : Rep K H v d f) {p : PyData} (e : toPy d = some p) : Dp K H v p := by
  have := RepA.dp h [p] (by rw [toPyA, e, toPyA])
  cases this with
  | cons h _ => exact h

/-! ### names, constants -/
@[simp] def eVar (i : Nat) : DX := fun ρ => match ρ[i]? with
  | some (some (d, _)) => .ok (d, imm d)
  | _ => .no
@[simp] def eC (d : D) : DX := fun _ => .ok (d, true)
section
variable {X : Cx} {Ex : XK} {a b c : Expr} {fa fb fc : DX} {pos : Pos}
theorem px_var (i : Nat) {x : Str} (hN : X.N[i]? = some x := by rfl) (hv : Vis X.env.scope x := by first | exact Or.inl rfl | exact Or.inr (Or.inl rfl) | exact Or.inr (Or.inr rfl)) (hd : (x == ("__debug__" : Str)) = false := by decide)
    (hcd : (x == ("__classdict__" : Str)) = false := by decide) : PX X Ex (.Name x pos) (eVar i) :=
  PE.imp (pe_var hN hv hd hcd) fun σ H Q ⟨B, g, ρ, ok, h⟩ => by
    unfold eVar at h
    split at h
    · rename_i d o e
      obtain ⟨v, e1, r⟩ := ok.rep i d o e
      exact ⟨v, e1, h v H _ (Same.refl H) r fun z => by rw [Rep.imm r z]; exact Fresh.nil⟩
    · exact h.elim
theorem px_int {i : Int} {j} : PX X Ex (.Constant (.int i) j pos) (eC (.int i)) := PE.imp pe_int fun σ H Q ⟨B, g, ρ, ok, h⟩ => h _ H _ (Same.refl H) Rep.mk_int fun _ => Fresh.nil
theorem px_bl {i : Bool} {j} : PX X Ex (.Constant (.bool i) j pos) (eC (.bl i)) := PE.imp pe_bl fun σ H Q ⟨B, g, ρ, ok, h⟩ => h _ H _ (Same.refl H) Rep.mk_bl fun _ => Fresh.nil
theorem px_non {j} : PX X Ex (.Constant .none j pos) (eC .non) := PE.imp pe_non fun σ H Q ⟨B, g, ρ, ok, h⟩ => h _ H _ (Same.refl H) Rep.mk_non fun _ => Fresh.nil
theorem px_str {i : Str} {j} : PX X Ex (.Constant (.str i) j pos) (eC (.str i)) := PE.imp pe_str fun σ H Q ⟨B, g, ρ, ok, h⟩ => h _ H _ (Same.refl H) Rep.mk_str fun _ => Fresh.nil
/-- a module's int, text -/
theorem px_gint {x : Str} {i : Int} {u : Value} (hg : Gl X x) (hm : X.mg x = some u) (r : RelV (.int i) u) (hd : (x == ("__debug__" : Str)) = false := by decide) : PX X Ex (.Name x pos) (eC (.int i)) :=
  PE.imp (pe_glob hg hm r hd) fun σ H Q ⟨B, g, ρ, ok, h⟩ => h _ H _ (Same.refl H) Rep.mk_int fun _ => Fresh.nil
theorem px_gstr {x : Str} {i : Str} {u : Value} (hg : Gl X x) (hm : X.mg x = some u) (r : RelV (.str i) u) (hd : (x == ("__debug__" : Str)) = false := by decide) : PX X Ex (.Name x pos) (eC (.str i)) :=
  PE.imp (pe_glob hg hm r hd) fun σ H Q ⟨B, g, ρ, ok, h⟩ => h _ H _ (Same.refl H) Rep.mk_str fun _ => Fresh.nil

/-! ### operators -/
/-- what is wanted of a new value -/
def QN (K : PySem.W.Frag) (H : Hp) (Q : VK) (d : D) : Prop := ∀ v H' fp, Same H H' → Rep K H' v d fp → Fresh H H' fp → Q v H'
/-- an operation by values answers as f says of data -/
def Snd2 (K : PySem.W.Frag) (r : R2) (f : D → D → R D) : Prop := ∀ H x y d e f1 f2 z Q, Rep K H x d f1 → Rep K H y e f2 → f d e = .ok z → QN K H Q z → r x y H Q
/-- data operations raise nothing -/
def NoEx2 (f : D → D → R D) : Prop := ∀ d e c, f d e ≠ .ex c
@[simp] def eBin (f : D → D → R D) (fa fb : DX) : DX := fun ρ => (fa ρ).bind fun x => (fb ρ).bind fun y => (f x.1 y.1).bind fun d => .ok (d, true)
theorem bin_imp {f : D → D → R D} {r : R2} (sd : Snd2 X.K r f) (ne : NoEx2 f) : ∀ σ H Q, tX X.K X.mg Ex (eBin f fa fb) σ H Q → tOp r (tX X.K X.mg Ex fa) (tX X.K X.mg Ex fb) σ H Q := fun σ H Q ⟨B, g, ρ, ok, h⟩ =>
  tX_step ok h fun d o v H1 f1 _ s1 r1 _ h1 => tX_step (ok.mono s1) h1 fun e o2 w H2 f2 _ s2 r2 _ h2 => by
    cases q : f d e with
    | ok z =>
      rw [q] at h2
      exact sd H2 v w d e f1 f2 z Q (r1.mono s2) r2 q fun u H' fp s' r' fr' => h2 u H' fp ((s1.trans s2).trans s') r' fun _ => fr'.mono (s1.trans s2) (Same.refl _)
    | ex c => exact absurd q (ne d e c)
    | no => rw [q] at h2; exact h2.elim
theorem px_op {op : Operator} {r : R2} {f : D → D → R D} (ho : OpR X (binaryOp op) r) (sd : Snd2 X.K r f) (ne : NoEx2 f) (ha : PX X Ex a fa) (hb : PX X Ex b fb) : PX X Ex (.BinOp a op b pos) (eBin f fa fb) :=
  PE.imp (pe_op ho ha hb) (bin_imp sd ne)
theorem px_cmp {op : CmpOp} {r : R2} {f : D → D → R D} (ho : OpR X (compareOp op) r) (sd : Snd2 X.K r f) (ne : NoEx2 f) (ha : PX X Ex a fa) (hb : PX X Ex b fb) (hm : behindInMarks op b = false) : PX X Ex (.Compare a [op] [b] pos) (eBin f fa fb) :=
  PE.imp (pe_cmpR ho ha hb hm) (bin_imp sd ne)
@[simp] def eUn (f : D → R D) (fa : DX) : DX := fun ρ => (fa ρ).bind fun x => (f x.1).bind fun d => .ok (d, true)
def Snd1 (K : PySem.W.Frag) (r : V → Hp → VK → Prop) (f : D → R D) : Prop := ∀ H x d f1 z Q, Rep K H x d f1 → f d = .ok z → QN K H Q z → r x H Q
def NoEx1 (f : D → R D) : Prop := ∀ d c, f d ≠ .ex c
theorem un_imp {f : D → R D} {r : V → Hp → VK → Prop} (sd : Snd1 X.K r f) (ne : NoEx1 f) : ∀ σ H Q, tX X.K X.mg Ex (eUn f fa) σ H Q → tUn r (tX X.K X.mg Ex fa) σ H Q := fun σ H Q ⟨B, g, ρ, ok, h⟩ =>
  tX_step ok h fun d o v H1 f1 _ s1 r1 _ h1 => by
    cases q : f d with
    | ok z =>
      rw [q] at h1
      exact sd H1 v d f1 z Q r1 q fun u H' fp s' r' fr' => h1 u H' fp (s1.trans s') r' fun _ => fr'.mono s1 (Same.refl _)
    | ex c => exact absurd q (ne d c)
    | no => rw [q] at h1; exact h1.elim
theorem px_un {op : UnaryOp} {r : V → Hp → VK → Prop} {f : D → R D} (ho : UnR X (unaryOp op) r) (sd : Snd1 X.K r f) (ne : NoEx1 f) (ha : PX X Ex a fa) : PX X Ex (.UnaryOp op a pos) (eUn f fa) :=
  PE.imp (pe_un ho ha) (un_imp sd ne)
theorem QN.int {K : PySem.W.Frag} {H : Hp} {Q : VK} {i : Int} (q : QN K H Q (.int i)) : Q (.int i) H := q _ H _ (Same.refl H) Rep.mk_int Fresh.nil
theorem QN.bl {K : PySem.W.Frag} {H : Hp} {Q : VK} {i : Bool} (q : QN K H Q (.bl i)) : Q (.bl i) H := q _ H _ (Same.refl H) Rep.mk_bl Fresh.nil
theorem QN.str {K : PySem.W.Frag} {H : Hp} {Q : VK} {i : Str} (q : QN K H Q (.str i)) : Q (.str i) H := q _ H _ (Same.refl H) Rep.mk_str Fresh.nil
theorem QN.non {K : PySem.W.Frag} {H : Hp} {Q : VK} (q : QN K H Q .non) : Q .non H := q _ H _ (Same.refl H) Rep.mk_non Fresh.nil
/-- a new list, tuple of what has no lists -/
theorem QN.lst {K : PySem.W.Frag} {H : Hp} {Q : VK} {ds : List D} {xs : List V} {f : List Addr} (q : QN K H Q (.lst ds)) (r : RepA K H xs ds f) (im : immA ds = true) {p : Addr} (np : H p = none) : Q (.ref p) (upd H p (.lst xs)) := by
  have e := r.imm im
  subst e
  exact q _ _ _ (same_upd np) (Rep.mk_lst upd_same (r.mono (same_upd np))) ⟨by simp, fun a ha => by
    obtain rfl : a = p := by simpa using ha
    exact ⟨np, .inl ⟨_, upd_same⟩⟩⟩
theorem QN.tup {K : PySem.W.Frag} {H : Hp} {Q : VK} {ds : List D} {xs : List V} {f : List Addr} (q : QN K H Q (.tup ds)) (r : RepA K H xs ds f) (im : immA ds = true) {p : Addr} (np : H p = none) : Q (.ref p) (upd H p (.tup xs)) := by
  have e := r.imm im
  subst e
  exact q _ _ _ (same_upd np) (Rep.mk_tup upd_same (r.mono (same_upd np))) Fresh.nil
end
theorem R.ite_ok {α : Type} {b : Bool} {x : R α} {a : α} (h : R.ite b x = .ok a) : b = true ∧ x = .ok a := by
  cases b with
  | true => exact ⟨rfl, h⟩
  | false => cases h
theorem R.ite_ex {α : Type} {b : Bool} {x : R α} {c : Str} (h : R.ite b x = .ex c) : x = .ex c := by
  cases b with
  | true => exact h
  | false => cases h
/-! a data operation on two ints alone -/
theorem snd_int {K : PySem.W.Frag} {r : R2} {f : D → D → R D} (h1 : ∀ d e z, f d e = .ok z → ∃ i j, d = .int i ∧ e = .int j) (h2 : ∀ H i j z Q, f (.int i) (.int j) = .ok z → QN K H Q z → r (.int i) (.int j) H Q) : Snd2 K r f := fun H x y d e f1 f2 z Q r1 r2 q h => by
  obtain ⟨i, j, rfl, rfl⟩ := h1 d e z q
  obtain ⟨rfl, _⟩ := r1.int_inv
  obtain ⟨rfl, _⟩ := r2.int_inv
  exact h2 H i j z Q q h
theorem ints_of {f : D → D → R D} (g : Int → Int → R D) (h : ∀ d e, f d e = match d, e with | .int i, .int j => g i j | _, _ => .no) : ∀ d e z, f d e = .ok z → ∃ i j, d = .int i ∧ e = .int j := fun d e z q => by
  rw [h] at q
  split at q
  · exact ⟨_, _, rfl, rfl⟩
  · cases q
theorem snd_add {K : PySem.W.Frag} : Snd2 K (fun x y H Q => (rI0 fun i j => V.int (i + j)) x y H Q ∨ ((∃ i j, x = .str i ∧ y = .str j ∧ i.length + j.length ≤ sizeLine ∧ Q (.str (i ++ j)) H) ∨ rCat x y H Q)) dAdd := fun H x y d e f1 f2 z Q r1 r2 q h => by
  unfold dAdd at q
  split at q
  · cases q
    obtain ⟨rfl, _⟩ := r1.int_inv
    obtain ⟨rfl, _⟩ := r2.int_inv
    exact .inl ⟨_, _, rfl, rfl, h.int⟩
  · obtain ⟨c, q⟩ := R.ite_ok q
    cases q
    obtain ⟨rfl, _⟩ := r1.str_inv
    obtain ⟨rfl, _⟩ := r2.str_inv
    exact .inr (.inl ⟨_, _, rfl, rfl, of_decide_eq_true c, h.str⟩)
  · obtain ⟨c, q⟩ := R.ite_ok q
    cases q
    simp only [Bool.and_eq_true, decide_eq_true_eq] at c
    obtain ⟨a, xs, g1, rfl, rfl, ha, ra⟩ := r1.lst_inv
    obtain ⟨b, ys, g2, rfl, rfl, hb, rb⟩ := r2.lst_inv
    refine .inr (.inr ⟨a, b, xs, ys, rfl, rfl, ha, hb, by rw [ra.length, rb.length]; exact c.2, fun p np => h.lst (ra.append rb) (by simp [c.1]) np⟩)
  · cases q
theorem ne_add : NoEx2 dAdd := fun d e c q => by
  unfold dAdd at q
  split at q
  · cases q
  · cases R.ite_ex q
  · cases R.ite_ex q
  · cases q
theorem snd_sub {K : PySem.W.Frag} : Snd2 K (rI0 fun i j => V.int (i - j)) dSub := snd_int (ints_of (fun i j => .ok (.int (i - j))) fun d e => by cases d <;> cases e <;> rfl) fun H i j z Q q h => by
  cases q
  exact ⟨_, _, rfl, rfl, h.int⟩
theorem ne_ints {f : D → D → R D} (g : Int → Int → R D) (h : ∀ d e, f d e = match d, e with | .int i, .int j => g i j | _, _ => .no) (n : ∀ i j c, g i j ≠ .ex c) : NoEx2 f := fun d e c q => by
  rw [h] at q
  split at q
  · exact n _ _ _ q
  · cases q
theorem ne_sub : NoEx2 dSub := ne_ints (fun i j => .ok (.int (i - j))) (fun d e => by cases d <;> cases e <;> rfl) fun _ _ _ q => by cases q
theorem snd_mul {K : PySem.W.Frag} : Snd2 K (rI (fun i j => CMul i j ∨ CMulW i j) fun i j => V.int (i * j)) dMul := snd_int (ints_of (fun a b => .ite (mulOk a b) (.ok (.int (a * b)))) fun d e => by cases d <;> cases e <;> rfl) fun H i j z Q q h => by
  obtain ⟨c, q⟩ := R.ite_ok q
  cases q
  refine ⟨_, _, rfl, rfl, ?_, h.int⟩
  simp only [mulOk, small64, Bool.or_eq_true, Bool.and_eq_true, decide_eq_true_eq] at c
  rcases c with c | c | c
  · exact .inl (.inl c)
  · exact .inl (.inr c)
  · exact .inr c
theorem ne_mul : NoEx2 dMul := ne_ints (fun a b => .ite (mulOk a b) (.ok (.int (a * b)))) (fun d e => by cases d <;> cases e <;> rfl) fun _ _ _ q => by cases R.ite_ex q
theorem snd_div {K : PySem.W.Frag} : Snd2 K (rI CDivW fun i j => V.int (i / j)) dDiv := snd_int (ints_of (fun a b => .ite (okDiv b) (.ok (.int (a / b)))) fun d e => by cases d <;> cases e <;> rfl) fun H i j z Q q h => by
  obtain ⟨c, q⟩ := R.ite_ok q
  cases q
  simp only [okDiv, Bool.and_eq_true, decide_eq_true_eq] at c
  exact ⟨_, _, rfl, rfl, c, h.int⟩
theorem ne_div : NoEx2 dDiv := ne_ints (fun a b => .ite (okDiv b) (.ok (.int (a / b)))) (fun d e => by cases d <;> cases e <;> rfl) fun _ _ _ q => by cases R.ite_ex q
theorem snd_mod {K : PySem.W.Frag} : Snd2 K (rI (fun _ j => 0 < j) fun i j => V.int (i % j)) dMod := snd_int (ints_of (fun a b => .ite (decide (0 < b)) (.ok (.int (a % b)))) fun d e => by cases d <;> cases e <;> rfl) fun H i j z Q q h => by
  obtain ⟨c, q⟩ := R.ite_ok q
  cases q
  exact ⟨_, _, rfl, rfl, of_decide_eq_true c, h.int⟩
theorem ne_mod : NoEx2 dMod := ne_ints (fun a b => .ite (decide (0 < b)) (.ok (.int (a % b)))) (fun d e => by cases d <;> cases e <;> rfl) fun _ _ _ q => by cases R.ite_ex q
theorem snd_pow {K : PySem.W.Frag} : Snd2 K (rI CPow fun i j => V.int (i ^ j.toNat)) dPow := snd_int (ints_of (fun a b => .ite (decide (0 ≤ b) && decide (b ≤ 1000000) && decide (a.natAbs < 2 ^ 64)) (.ok (.int (a ^ b.toNat)))) fun d e => by cases d <;> cases e <;> rfl) fun H i j z Q q h => by
  obtain ⟨c, q⟩ := R.ite_ok q
  cases q
  simp only [Bool.and_eq_true, decide_eq_true_eq] at c
  exact ⟨_, _, rfl, rfl, ⟨c.1.1, c.1.2, c.2⟩, h.int⟩
theorem ne_pow : NoEx2 dPow := ne_ints (fun a b => .ite (decide (0 ≤ b) && decide (b ≤ 1000000) && decide (a.natAbs < 2 ^ 64)) (.ok (.int (a ^ b.toNat)))) (fun d e => by cases d <;> cases e <;> rfl) fun _ _ _ q => by cases R.ite_ex q
theorem snd_cmp {K : PySem.W.Frag} {f : D → D → R D} {p : Int → Int → Bool} (h : ∀ d e, f d e = match d, e with | .int i, .int j => R.ok (.bl (p i j)) | _, _ => .no) : Snd2 K (rI0 fun i j => V.bl (p i j)) f := snd_int (ints_of _ h) fun H i j z Q q hq => by
  rw [h] at q
  cases q
  exact ⟨_, _, rfl, rfl, hq.bl⟩
theorem h_lt : ∀ d e, dLt d e = match d, e with | .int i, .int j => R.ok (.bl (decide (i < j))) | _, _ => .no := fun d e => by cases d <;> cases e <;> rfl
theorem h_le : ∀ d e, dLe d e = match d, e with | .int i, .int j => R.ok (.bl (decide (i ≤ j))) | _, _ => .no := fun d e => by cases d <;> cases e <;> rfl
theorem h_gt : ∀ d e, dGt d e = match d, e with | .int i, .int j => R.ok (.bl (decide (j < i))) | _, _ => .no := fun d e => by cases d <;> cases e <;> rfl
theorem h_ge : ∀ d e, dGe d e = match d, e with | .int i, .int j => R.ok (.bl (decide (j ≤ i))) | _, _ => .no := fun d e => by cases d <;> cases e <;> rfl
theorem dEqB_ex {d e : D} {c : Str} : dEqB d e ≠ .ex c := fun q => by
  unfold dEqB at q
  split at q
  · cases R.ite_ex q
  · cases q
theorem dEqB_ok {d e : D} {b : Bool} (q : dEqB d e = .ok b) : ∃ p r, toPy d = some p ∧ toPy e = some r ∧ SeqAt.shaped p = true ∧ SeqAt.shaped r = true ∧ b = PyData.eqv p r := by
  unfold dEqB at q
  split at q
  · rename_i a b h1 h2
    obtain ⟨c, q⟩ := R.ite_ok q
    cases q
    simp only [Bool.and_eq_true] at c
    exact ⟨_, _, h1, h2, c.1, c.2, rfl⟩
  · cases q
theorem snd_eq {K : PySem.W.Frag} : Snd2 K (rEqD K) dEq := fun H x y d e f1 f2 z Q r1 r2 q h => by
  unfold dEq at q
  cases e1 : dEqB d e with
  | ok b =>
    rw [e1] at q
    cases q
    obtain ⟨p, r, h1, h2, s1, s2, rfl⟩ := dEqB_ok e1
    exact ⟨p, r, r1.dp h1, r2.dp h2, s1, s2, h.bl⟩
  | ex c => exact absurd e1 dEqB_ex
  | no => rw [e1] at q; cases q
theorem ne_eq : NoEx2 dEq := fun d e c q => by
  unfold dEq at q
  cases e1 : dEqB d e with
  | ok b => rw [e1] at q; cases q
  | ex c => exact absurd e1 dEqB_ex
  | no => rw [e1] at q; cases q
theorem snd_ne {K : PySem.W.Frag} : Snd2 K (rNeD K) dNe := fun H x y d e f1 f2 z Q r1 r2 q h => by
  unfold dNe at q
  cases e1 : dEqB d e with
  | ok b =>
    rw [e1] at q
    cases q
    obtain ⟨p, r, h1, h2, s1, s2, rfl⟩ := dEqB_ok e1
    exact ⟨p, r, r1.dp h1, r2.dp h2, s1, s2, h.bl⟩
  | ex c => exact absurd e1 dEqB_ex
  | no => rw [e1] at q; cases q
theorem ne_ne : NoEx2 dNe := fun d e c q => by
  unfold dNe at q
  cases e1 : dEqB d e with
  | ok b => rw [e1] at q; cases q
  | ex c => exact absurd e1 dEqB_ex
  | no => rw [e1] at q; cases q
section
variable {X : Cx} {Ex : XK} {a b c : Expr} {fa fb fc : DX} {pos : Pos}
theorem px_add (ha : PX X Ex a fa) (hb : PX X Ex b fb) : PX X Ex (.BinOp a .Add b pos) (eBin dAdd fa fb) := px_op (OpR.or op_add (OpR.or op_add_str op_cat)) snd_add ne_add ha hb
theorem px_sub (ha : PX X Ex a fa) (hb : PX X Ex b fb) : PX X Ex (.BinOp a .Sub b pos) (eBin dSub fa fb) := px_op op_sub snd_sub ne_sub ha hb
theorem px_mul (ha : PX X Ex a fa) (hb : PX X Ex b fb) : PX X Ex (.BinOp a .Mult b pos) (eBin dMul fa fb) := px_op op_mul2 snd_mul ne_mul ha hb
theorem px_fdiv (ha : PX X Ex a fa) (hb : PX X Ex b fb) : PX X Ex (.BinOp a .FloorDiv b pos) (eBin dDiv fa fb) := px_op op_fdivW snd_div ne_div ha hb
theorem px_mod (ha : PX X Ex a fa) (hb : PX X Ex b fb) : PX X Ex (.BinOp a .Mod b pos) (eBin dMod fa fb) := px_op op_mod snd_mod ne_mod ha hb
theorem px_pow (ha : PX X Ex a fa) (hb : PX X Ex b fb) : PX X Ex (.BinOp a .Pow b pos) (eBin dPow fa fb) := px_op op_pow snd_pow ne_pow ha hb
theorem px_lt (ha : PX X Ex a fa) (hb : PX X Ex b fb) : PX X Ex (.Compare a [.Lt] [b] pos) (eBin dLt fa fb) := px_cmp op_lt (snd_cmp h_lt) (ne_ints _ h_lt fun _ _ _ q => by cases q) ha hb (nomark _)
theorem px_le (ha : PX X Ex a fa) (hb : PX X Ex b fb) : PX X Ex (.Compare a [.LtE] [b] pos) (eBin dLe fa fb) := px_cmp op_le (snd_cmp h_le) (ne_ints _ h_le fun _ _ _ q => by cases q) ha hb (nomark _)
theorem px_gt (ha : PX X Ex a fa) (hb : PX X Ex b fb) : PX X Ex (.Compare a [.Gt] [b] pos) (eBin dGt fa fb) := px_cmp op_gt (snd_cmp h_gt) (ne_ints _ h_gt fun _ _ _ q => by cases q) ha hb (nomark _)
theorem px_ge (ha : PX X Ex a fa) (hb : PX X Ex b fb) : PX X Ex (.Compare a [.GtE] [b] pos) (eBin dGe fa fb) := px_cmp op_ge (snd_cmp h_ge) (ne_ints _ h_ge fun _ _ _ q => by cases q) ha hb (nomark _)
theorem px_eq (hu : X.A.units + 64 < cLine) (ha : PX X Ex a fa) (hb : PX X Ex b fb) : PX X Ex (.Compare a [.Eq] [b] pos) (eBin dEq fa fb) := px_cmp (op_eqD hu) snd_eq ne_eq ha hb (nomark _)
theorem px_ne (hu : X.A.units + 64 < cLine) (ha : PX X Ex a fa) (hb : PX X Ex b fb) : PX X Ex (.Compare a [.NotEq] [b] pos) (eBin dNe fa fb) := px_cmp (op_neD hu) snd_ne ne_ne ha hb (nomark _)
theorem px_neg (ha : PX X Ex a fa) : PX X Ex (.UnaryOp .USub a pos) (eUn dNeg fa) := px_un un_neg (fun H x d f1 z Q r q h => by
  unfold dNeg at q
  split at q
  · cases q
    obtain ⟨rfl, _⟩ := r.int_inv
    exact ⟨_, rfl, h.int⟩
  · cases q) (fun d c q => by unfold dNeg at q; split at q <;> cases q) ha
end
end EQ
/-! EqC: tests, and, or, not, subscripts, displays, built-ins. -/
namespace EQ
open PySem PySem.Spec PyProof.Rows L2

/-! ### comparisons as tests -/
theorem PC.imp {X : Cx} {op : CmpOp} {a b : Expr} {t t' : TE} (h : PC X op a b t) (i : ∀ σ H Q, t' σ H Q → t σ H Q) : PC X op a b t' := ⟨fun pins s σ H Q I q => h.run pins s σ H Q I (i σ H Q q)⟩
theorem PC.or {X : Cx} {op : CmpOp} {a b : Expr} {t t' : TE} (h : PC X op a b t) (h' : PC X op a b t') : PC X op a b (fun σ H Q => t σ H Q ∨ t' σ H Q) := ⟨fun pins s σ H Q I q => q.elim (h.run pins s σ H Q I) (h'.run pins s σ H Q I)⟩
theorem PC.ofOp {X : Cx} {op : CmpOp} {a b : Expr} {ta tb : TE} {r : R2} (ho : OpR X (compareOp op) r) (ha : PE X a ta) (hb : PE X b tb) : PC X op a b (tOp r ta tb) :=
  ⟨fun pins s σ H Q I h => bin ha hb I h fun v u s2 x y H2 I2 rx ry q => ho pins s2 σ H2 x y v u Q I2 rx ry q⟩
abbrev PCX (X : Cx) (Ex : XK) (op : CmpOp) (a b : Expr) (f : DX) : Prop := PC X op a b (tX X.K X.mg Ex f)
@[simp] def asB (f : DX) : DT := fun ρ => (f ρ).bind fun x => match x.1 with
  | .bl b => .ok b
  | _ => .no
section
variable {X : Cx} {Ex : XK} {a b c e : Expr} {fa fb fc : DX} {pos : Pos} {op : CmpOp}
theorem tB_imp {f : DX} {σ : L2.St} {H : Hp} {Q : Bool → Hp → Prop} (h : tT X.K X.mg Ex (asB f) σ H Q) : tX X.K X.mg Ex f σ H (fun x H1 => ∃ c, x = .bl c ∧ Q c H1) := by
  obtain ⟨B, g, ρ, ok, h⟩ := h
  refine tX_step ok h fun d o v H1 fp _ s r _ h1 => ?_
  cases d with
  | bl b => exact ⟨b, r.bl_inv.1, h1 H1 s⟩
  | _ => exact h1.elim
theorem px_c (h : PCX X Ex op a b fa) (h1 : behindInMarks op b = false := by first | exact nobehind _ (by decide) (by decide) | rfl) : PX X Ex (.Compare a [op] [b] pos) fa := pe_cmp h h1
theorem pb_c (h : PCX X Ex op a b fa) (h1 : behindInMarks op b = false := by first | exact nobehind _ (by decide) (by decide) | rfl) : PB X Ex (.Compare a [op] [b] pos) (asB fa) :=
  PT.imp (pt_cmp h h1) fun σ H Q h => tB_imp h
theorem pb_v (h : PX X Ex e fa) (he : ∀ whole, isTrue e X.env whole = (do let v ← whole; standAt e.pos; holding [v] (truthy v)) := by intro _; rfl) : PB X Ex e (asB fa) :=
  PT.imp (pt_val h he) fun σ H Q h => tB_imp h
theorem pc_of {r : R2} {f : D → D → R D} (ho : OpR X (compareOp op) r) (sd : Snd2 X.K r f) (ne : NoEx2 f) (ha : PX X Ex a fa) (hb : PX X Ex b fb) : PCX X Ex op a b (eBin f fa fb) :=
  PC.imp (PC.ofOp ho ha hb) (bin_imp sd ne)
theorem cx_lt (ha : PX X Ex a fa) (hb : PX X Ex b fb) : PCX X Ex .Lt a b (eBin dLt fa fb) := pc_of op_lt (snd_cmp h_lt) (ne_ints _ h_lt fun _ _ _ q => by cases q) ha hb
theorem cx_le (ha : PX X Ex a fa) (hb : PX X Ex b fb) : PCX X Ex .LtE a b (eBin dLe fa fb) := pc_of op_le (snd_cmp h_le) (ne_ints _ h_le fun _ _ _ q => by cases q) ha hb
theorem cx_gt (ha : PX X Ex a fa) (hb : PX X Ex b fb) : PCX X Ex .Gt a b (eBin dGt fa fb) := pc_of op_gt (snd_cmp h_gt) (ne_ints _ h_gt fun _ _ _ q => by cases q) ha hb
theorem cx_ge (ha : PX X Ex a fa) (hb : PX X Ex b fb) : PCX X Ex .GtE a b (eBin dGe fa fb) := pc_of op_ge (snd_cmp h_ge) (ne_ints _ h_ge fun _ _ _ q => by cases q) ha hb
theorem cx_eq (hu : X.A.units + 64 < cLine) (ha : PX X Ex a fa) (hb : PX X Ex b fb) : PCX X Ex .Eq a b (eBin dEq fa fb) := pc_of (op_eqD hu) snd_eq ne_eq ha hb
theorem cx_ne (hu : X.A.units + 64 < cLine) (ha : PX X Ex a fa) (hb : PX X Ex b fb) : PCX X Ex .NotEq a b (eBin dNe fa fb) := pc_of (op_neD hu) snd_ne ne_ne ha hb
end
/-! is -/
@[simp] def isNonD : D → Bool
  | .non => true
  | _ => false
@[simp] def dIs : D → D → R D
  | .bl a, .bl b => .ok (.bl (decide (a = b)))
  | a, .non => .ok (.bl (isNonD a))
  | _, _ => .no
@[simp] def dIsNot : D → D → R D
  | .bl a, .bl b => .ok (.bl (!decide (a = b)))
  | a, .non => .ok (.bl (!isNonD a))
  | _, _ => .no
theorem Rep.isNon {K : PySem.W.Frag} {H : Hp} {v : V} {d : D} {f : List Addr} (h : Rep K H v d f) : decide (v = .non) = isNonD d := by
  cases h <;> simp [isNonD]
theorem snd_is {K : PySem.W.Frag} : Snd2 K (fun x y H Q => (y = .non ∧ Q (.bl (decide (x = .non))) H) ∨ rIsB x y H Q) dIs := fun H x y d e f1 f2 z Q r1 r2 q h => by
  unfold dIs at q
  split at q
  · cases q
    exact .inr ⟨_, _, r1.bl_inv.1, r2.bl_inv.1, h.bl⟩
  · cases q
    exact .inl ⟨r2.non_inv.1, by rw [r1.isNon]; exact h.bl⟩
  · cases q
theorem ne_is : NoEx2 dIs := fun d e c q => by unfold dIs at q; split at q <;> cases q
theorem snd_isnot {K : PySem.W.Frag} : Snd2 K (fun x y H Q => (y = .non ∧ Q (.bl (!decide (x = .non))) H) ∨ rNotB x y H Q) dIsNot := fun H x y d e f1 f2 z Q r1 r2 q h => by
  unfold dIsNot at q
  split at q
  · cases q
    exact .inr ⟨_, _, r1.bl_inv.1, r2.bl_inv.1, h.bl⟩
  · cases q
    exact .inl ⟨r2.non_inv.1, by rw [r1.isNon]; exact h.bl⟩
  · cases q
theorem ne_isnot : NoEx2 dIsNot := fun d e c q => by unfold dIsNot at q; split at q <;> cases q
section
variable {X : Cx} {Ex : XK} {a b c e : Expr} {fa fb fc : DX} {pos : Pos} {op : CmpOp}
theorem cx_is (ha : PX X Ex a fa) (hb : PX X Ex b fb) : PCX X Ex .Is a b (eBin dIs fa fb) := pc_of (OpR.or op_isN op_isBl) snd_is ne_is ha hb
theorem cx_isnot (ha : PX X Ex a fa) (hb : PX X Ex b fb) : PCX X Ex .IsNot a b (eBin dIsNot fa fb) := pc_of (OpR.or op_notN op_notBl) snd_isnot ne_isnot ha hb
end
/-! in -/
@[simp] def flatD : D → Bool
  | .non => true
  | .bl _ => true
  | .int _ => true
  | .str _ => true
  | _ => false
def vOf : D → V
  | .non => .non
  | .bl b => .bl b
  | .int i => .int i
  | .str x => .str x
  | _ => .non
@[simp] def eqF : D → D → Bool
  | .non, .non => true
  | .bl a, .bl b => a == b
  | .bl a, .int b => (if a then 1 else 0) == b
  | .int a, .bl b => a == (if b then 1 else 0)
  | .int a, .int b => a == b
  | .str a, .str b => a == b
  | _, _ => false
theorem Rep.flat {K : PySem.W.Frag} {H : Hp} {v : V} {d : D} {f : List Addr} (h : Rep K H v d f) (e : flatD d = true) : v = vOf d := by
  cases h <;> first | rfl | (simp [flatD] at e)
theorem flatV_vOf {d : D} (e : flatD d = true) : flatV (vOf d) = true := by cases d <;> first | rfl | (simp [flatD] at e)
theorem eqV_vOf {d e : D} (h1 : flatD d = true) (h2 : flatD e = true) : eqV (vOf d) (vOf e) = eqF d e := by
  cases d <;> first | (simp [flatD] at h1; done) | (cases e <;> first | rfl | (simp [flatD] at h2))
theorem RepA.flat {K : PySem.W.Frag} {H : Hp} : ∀ {ds : List D} {vs : List V} {f : List Addr}, RepA K H vs ds f → ds.all flatD = true → vs = ds.map vOf
  | [], _, _, h, _ => h.nil_d.1
  | d :: ds, _, _, h, e => by
    obtain ⟨v, ws, f1, f2, rfl, rfl, h1, h2⟩ := h.cons_d
    simp only [List.all_cons, Bool.and_eq_true] at e
    rw [h1.flat e.1, RepA.flat h2 e.2, List.map_cons]
def inF (d : D) (xs : List D) : Bool := xs.any fun y => eqF y d
theorem inV_vOf {d : D} {xs : List D} (h1 : flatD d = true) (h2 : xs.all flatD = true) : inV (vOf d) (xs.map vOf) = inF d xs := by
  unfold inV inF
  rw [List.any_map]
  induction xs with
  | nil => rfl
  | cons x xs ih =>
    simp only [List.all_cons, Bool.and_eq_true] at h2
    simp only [List.any_cons, Function.comp, eqV_vOf h2.1 h1]
    rw [← ih h2.2]
@[simp] def toKey : D → Option Key
  | .int i => some (.inl i)
  | .str x => some (.inr x)
  | _ => none
def dInB : D → D → R Bool
  | d, .lst xs => .ite (flatD d && xs.all flatD) (.ok (inF d xs))
  | d, .tup xs => .ite (flatD d && xs.all flatD) (.ok (inF d xs))
  | d, .dct ks _ => match toKey d with
    | some k => .ok (ks.any fun x => decide (x = k))
    | none => .no
  | .str c, .str z => match c.cps.toList with
    | [n] => .ok (decide (n ∈ z.cps.toList))
    | _ => .no
  | _, _ => .no
@[simp] def dIn (d e : D) : R D := (dInB d e).bind fun b => .ok (.bl b)
@[simp] def dNotIn (d e : D) : R D := (dInB d e).bind fun b => .ok (.bl (!b))
theorem dInB_ex {d e : D} {c : Str} : dInB d e ≠ .ex c := fun q => by
  unfold dInB at q
  split at q
  · cases R.ite_ex q
  · cases R.ite_ex q
  · split at q <;> cases q
  · split at q <;> cases q
  · cases q
theorem valV_mem {kvs : List (Key × V)} {k : Key} : (valV kvs k).isSome = (kvs.map (·.1)).any fun x => decide (x = k) := by
  rw [← valV_any, List.any_map]
  rfl
theorem kV_toKey {K : PySem.W.Frag} {H : Hp} {v : V} {d : D} {f : List Addr} {k : Key} (h : Rep K H v d f) (e : toKey d = some k) : v = kV k := by
  cases h with
  | int _ => cases e; rfl
  | str _ => cases e; rfl
  | _ => cases e
/-- what `in` asks, of lists and texts -/
def rInD (K : PySem.W.Frag) (neg : Bool) : R2 := fun x y H Q => rIn K neg x y H Q ∨ (∃ (c : Nat) (z : Str), x = .str ⟨#[c]⟩ ∧ y = .str z ∧ Q (.bl (if neg then !decide (c ∈ z.cps.toList) else decide (c ∈ z.cps.toList))) H)
theorem in_seq {K : PySem.W.Frag} {neg : Bool} {H : Hp} {x y : V} {d e : D} {f1 f2 : List Addr} {b : Bool} {Q : VK} (r1 : Rep K H x d f1) (r2 : Rep K H y e f2) (q : dInB d e = .ok b) (hQ : Q (.bl (if neg then !b else b)) H) (nd : ∀ ks vs, e ≠ .dct ks vs) : rInD K neg x y H Q := by
  unfold dInB at q
  split at q
  · obtain ⟨c, q⟩ := R.ite_ok q
    cases q
    simp only [Bool.and_eq_true] at c
    obtain ⟨a, xs, g, rfl, rfl, ha, ra⟩ := r2.lst_inv
    rw [r1.flat c.1]
    refine .inl ⟨a, xs, rfl, .inl (SqL.of ha), flatV_vOf c.1, ?_, ?_⟩
    · rw [ra.flat c.2, List.all_map]
      exact List.all_eq_true.mpr fun z hz => flatV_vOf (List.all_eq_true.mp c.2 z hz)
    · rw [ra.flat c.2, inV_vOf c.1 c.2]; exact hQ
  · obtain ⟨c, q⟩ := R.ite_ok q
    cases q
    simp only [Bool.and_eq_true] at c
    obtain ⟨a, xs, rfl, ha, ra⟩ := r2.tup_inv
    rw [r1.flat c.1]
    refine .inl ⟨a, xs, rfl, .inr (SqT.of ha), flatV_vOf c.1, ?_, ?_⟩
    · rw [ra.flat c.2, List.all_map]
      exact List.all_eq_true.mpr fun z hz => flatV_vOf (List.all_eq_true.mp c.2 z hz)
    · rw [ra.flat c.2, inV_vOf c.1 c.2]; exact hQ
  · exact absurd rfl (nd _ _)
  · rename_i c z
    split at q
    · rename_i n hn
      cases q
      obtain ⟨rfl, _⟩ := r1.str_inv
      obtain ⟨rfl, _⟩ := r2.str_inv
      have ec : c = ⟨#[n]⟩ := by
        obtain ⟨a⟩ := c
        have : a = #[n] := by rw [← Array.toArray_toList (xs := a), hn]
        rw [this]
      rw [ec]
      exact .inr ⟨n, z, rfl, rfl, hQ⟩
    · cases q
  · cases q
section
variable {X : Cx} {Ex : XK} {a b c e : Expr} {fa fb fc : DX} {pos : Pos} {op : CmpOp}
theorem in_imp {neg : Bool} {f : D → D → R D} {t : TE} (hf : ∀ d e, f d e = (dInB d e).bind fun b => .ok (.bl (if neg then !b else b)))
    (ht : ∀ σ H Q, (tX X.K X.mg Ex fa σ H fun y H1 => tX X.K X.mg Ex fb σ H1 fun x H2 => ∃ a o, x = .ref a ∧ DGet H2 a y o ∧ Q (.bl (if neg then !o.isSome else o.isSome)) H2) → t σ H Q) :
    ∀ σ H Q, tX X.K X.mg Ex (eBin f fa fb) σ H Q → tOp (rInD X.K neg) (tX X.K X.mg Ex fa) (tX X.K X.mg Ex fb) σ H Q ∨ t σ H Q := fun σ H Q h => by
  obtain ⟨B, g, ρ, ok, h⟩ := h
  have main : ∀ (P : D → Prop), (∀ d o d2 o2, fa ρ = .ok (d, o) → fb ρ = .ok (d2, o2) → P d2) → ∀ (Φ : V → V → Hp → Prop), (∀ x y H2 d d2 f1 f2 b, P d2 → Rep X.K H2 x d f1 → Rep X.K H2 y d2 f2 → dInB d d2 = .ok b → Q (.bl (if neg then !b else b)) H2 → Φ x y H2) →
      tX X.K X.mg Ex fa σ H fun x H1 => tX X.K X.mg Ex fb σ H1 fun y H2 => Φ x y H2 := fun P hP Φ hΦ =>
    tX_step ok h fun d o v H1 f1 ea s1 r1 _ h1 => tX_step (ok.mono s1) h1 fun e o2 w H2 f2 eb s2 r2 _ h2 => by
      rw [hf] at h2
      cases q : dInB d e with
      | ok b =>
        rw [q] at h2
        exact hΦ v w H2 d e f1 f2 b (hP _ _ _ _ ea eb) (r1.mono s2) r2 q (h2 _ H2 [] (s1.trans s2) Rep.mk_bl fun _ => Fresh.nil)
      | ex c => exact absurd q dInB_ex
      | no => rw [q] at h2; exact h2.elim
  by_cases hd : ∃ d2 o2 ks vs, fb ρ = .ok (d2, o2) ∧ d2 = .dct ks vs
  · refine .inr (ht σ H Q (main (fun d2 => ∃ ks vs, d2 = .dct ks vs) (fun d o d2 o2 _ e2 => ?_) _ fun x y H2 d d2 f1 f2 b ⟨ks, vs, e⟩ r1 r2 q hq => ?_))
    · obtain ⟨d3, o3, ks, vs, e3, rfl⟩ := hd
      rw [e3] at e2; cases e2; exact ⟨ks, vs, rfl⟩
    · subst e
      obtain ⟨p, kvs, g1, rfl, rfl, hp, hk, _⟩ := r2.dct_inv
      have q' : (match toKey d with | some k => R.ok (ks.any fun x => decide (x = k)) | none => R.no) = R.ok b := by
        rw [← q]
        cases d <;> rfl
      split at q'
      · rename_i k hk'
        cases q'
        refine ⟨p, valV kvs k, rfl, .inl ⟨kvs, k, hp, kV_toKey r1 hk', rfl⟩, ?_⟩
        rw [valV_mem, hk]; exact hq
      · cases q'
  · refine .inl (main (fun d2 => ∀ ks vs, d2 ≠ .dct ks vs) (fun d o d2 o2 _ e2 ks vs z => hd ⟨d2, o2, ks, vs, e2, z⟩) _ fun x y H2 d d2 f1 f2 b nd r1 r2 q hq => ?_)
    exact in_seq r1 r2 q hq nd
theorem op_inD : OpR X (compareOp .In) (rInD X.K false) := OpR.or op_in_seq op_in_sign
theorem op_notinD : OpR X (compareOp .NotIn) (rInD X.K true) := OpR.or op_notIn_seq op_notIn_sign
theorem cx_in (hu : X.A.units + 1 < cLine) (ha : PX X Ex a fa) (hb : PX X Ex b fb) : PCX X Ex .In a b (eBin dIn fa fb) :=
  PC.imp (PC.or (PC.ofOp op_inD ha hb) (pc_din hu ha hb)) (in_imp (neg := false) (fun _ _ => rfl) fun σ H Q h => h)
theorem cx_notin (hu : X.A.units + 1 < cLine) (ha : PX X Ex a fa) (hb : PX X Ex b fb) : PCX X Ex .NotIn a b (eBin dNotIn fa fb) :=
  PC.imp (PC.or (PC.ofOp op_notinD ha hb) (pc_dnotin hu ha hb)) (in_imp (neg := true) (fun _ _ => rfl) fun σ H Q h => h)

/-! ### and, or, not -/
@[simp] def eNotT (f : DT) : DT := fun ρ => (f ρ).bind fun b => .ok (!b)
@[simp] def eAndT (f f' : DT) : DT := fun ρ => (f ρ).bind fun b => match b with
  | true => f' ρ
  | false => .ok false
@[simp] def eOrT (f f' : DT) : DT := fun ρ => (f ρ).bind fun b => match b with
  | true => .ok true
  | false => f' ρ
variable {ta tb : DT} {rest : List Expr}
theorem pb_not (ha : PB X Ex a ta) : PB X Ex (.UnaryOp .Not a pos) (eNotT ta) :=
  PT.imp (pt_not ha) fun σ H Q ⟨B, g, ρ, ok, h⟩ => tT_step ok h fun b H1 _ s h1 => h1 H1 s
abbrev PWX (X : Cx) (Ex : XK) (e : Expr) (f : DT) : Prop := PW X e (tT X.K X.mg Ex f)
theorem wx_and1 (ha : PB X Ex a ta) : PWX X Ex (.BoolOp .And [a] pos) ta := pw_and1 ha
theorem wx_or1 (ha : PB X Ex a ta) : PWX X Ex (.BoolOp .Or [a] pos) ta := pw_or1 ha
theorem wx_and (ha : PB X Ex a ta) (hb : PWX X Ex (.BoolOp .And (b :: rest) pos) tb) : PWX X Ex (.BoolOp .And (a :: b :: rest) pos) (eAndT ta tb) :=
  PW.imp (pw_and ha hb) fun σ H Q ⟨B, g, ρ, ok, h⟩ => tT_step ok h fun c H1 _ s h1 => by
    cases c with
    | true => exact ⟨B, g, ρ, ok.mono s, h1.imp (fun _ z => z) fun b _ z H' s' => z H' (s.trans s')⟩
    | false => exact h1 H1 s
theorem wx_or (ha : PB X Ex a ta) (hb : PWX X Ex (.BoolOp .Or (b :: rest) pos) tb) : PWX X Ex (.BoolOp .Or (a :: b :: rest) pos) (eOrT ta tb) :=
  PW.imp (pw_or ha hb) fun σ H Q ⟨B, g, ρ, ok, h⟩ => tT_step ok h fun c H1 _ s h1 => by
    cases c with
    | true => exact h1 H1 s
    | false => exact ⟨B, g, ρ, ok.mono s, h1.imp (fun _ z => z) fun b _ z H' s' => z H' (s.trans s')⟩
theorem pb_w (h : PWX X Ex e ta) : PB X Ex e ta := PW.pt h
/-- as values -/
@[simp] def eNot (f : DX) : DX := fun ρ => (asB f ρ).bind fun b => .ok (.bl (!b), true)
@[simp] def eAnd (f f' : DX) : DX := fun ρ => (asB f ρ).bind fun b => match b with
  | true => f' ρ
  | false => .ok (.bl false, true)
@[simp] def eOr (f f' : DX) : DX := fun ρ => (asB f ρ).bind fun b => match b with
  | true => .ok (.bl true, true)
  | false => f' ρ
theorem asB_step {β : Type} {f : DX} {k : Bool → R β} {P : β → Prop} {Φ : VK} {B : Hp} {g : Nat → List Addr} {ρ : DEnv} {σ : L2.St} {H : Hp} (ok : OkG X.K B H σ ρ g) (h : Post (ExB X.mg Ex B) P ((asB f ρ).bind k))
    (hk : ∀ b H1, Same H H1 → Post (ExB X.mg Ex B) P (k b) → Φ (.bl b) H1) : tX X.K X.mg Ex f σ H Φ := by
  unfold asB at h
  refine tX_step (k := fun x => (match x.1 with | .bl b => R.ok b | _ => R.no).bind k) ok (by cases e : f ρ <;> rw [e] at h <;> exact h) fun d o v H1 fp _ s r _ h1 => ?_
  cases d with
  | bl b => obtain ⟨rfl, _⟩ := r.bl_inv; exact hk b H1 s h1
  | _ => exact h1.elim
theorem px_not (ha : PX X Ex a fa) : PX X Ex (.UnaryOp .Not a pos) (eNot fa) :=
  PE.imp (pe_not ha) fun σ H Q ⟨B, g, ρ, ok, h⟩ => asB_step ok h fun b H1 s h1 => ⟨b, rfl, h1 _ H1 [] s Rep.mk_bl fun _ => Fresh.nil⟩
theorem px_one {bop} (ha : PX X Ex a fa) : PX X Ex (.BoolOp bop [a] pos) fa := pe_one ha
theorem px_and (ha : PX X Ex a fa) (hb : PX X Ex (.BoolOp .And (b :: rest) pos) fb) : PX X Ex (.BoolOp .And (a :: b :: rest) pos) (eAnd fa fb) :=
  PE.imp (pe_and ha hb) fun σ H Q ⟨B, g, ρ, ok, h⟩ => asB_step ok h fun c H1 s h1 => ⟨c, rfl, by
    cases c with
    | true => exact ⟨B, g, ρ, ok.mono s, h1.imp (fun _ z => z) fun p _ z => z.mono s⟩
    | false => exact h1 _ H1 [] s Rep.mk_bl fun _ => Fresh.nil⟩
theorem px_or (ha : PX X Ex a fa) (hb : PX X Ex (.BoolOp .Or (b :: rest) pos) fb) : PX X Ex (.BoolOp .Or (a :: b :: rest) pos) (eOr fa fb) :=
  PE.imp (pe_or ha hb) fun σ H Q ⟨B, g, ρ, ok, h⟩ => asB_step ok h fun c H1 s h1 => ⟨c, rfl, by
    cases c with
    | false => exact ⟨B, g, ρ, ok.mono s, h1.imp (fun _ z => z) fun p _ z => z.mono s⟩
    | true => exact h1 _ H1 [] s Rep.mk_bl fun _ => Fresh.nil⟩
@[simp] def eIf (c : DT) (f f' : DX) : DX := fun ρ => (c ρ).bind fun b => match b with
  | true => f ρ
  | false => f' ρ
theorem px_if (hc : PB X Ex c ta) (ha : PX X Ex a fa) (hb : PX X Ex b fb) : PX X Ex (.IfExp c a b pos) (eIf ta fa fb) :=
  PE.imp (pe_ifExp hc ha hb) fun σ H Q ⟨B, g, ρ, ok, h⟩ => tT_step ok h fun c H1 _ s h1 => by
    cases c with
    | true => exact ⟨B, g, ρ, ok.mono s, h1.imp (fun _ z => z) fun p _ z => z.mono s⟩
    | false => exact ⟨B, g, ρ, ok.mono s, h1.imp (fun _ z => z) fun p _ z => z.mono s⟩
/-- a op b op' c -/
@[simp] def eChain (f f' : D → D → R D) (fa fb fc : DX) : DX := fun ρ => (fa ρ).bind fun x => (fb ρ).bind fun y => (f x.1 y.1).bind fun z => match z with
  | .bl true => (fc ρ).bind fun w => (f' y.1 w.1).bind fun u => .ok (u, true)
  | .bl false => .ok (.bl false, true)
  | _ => .no
theorem chain_imp {r r' : R2} {f f' : D → D → R D} (sd : Snd2 X.K r f) (ne : NoEx2 f) (sd' : Snd2 X.K r' f') (ne' : NoEx2 f') : ∀ σ H Q, tX X.K X.mg Ex (eChain f f' fa fb fc) σ H Q → tChain r r' (tX X.K X.mg Ex fa) (tX X.K X.mg Ex fb) (tX X.K X.mg Ex fc) σ H Q := fun σ H Q ⟨B, g, ρ, ok, h⟩ =>
  tX_step ok h fun d o v H1 f1 _ s1 r1 _ h1 => tX_step (ok.mono s1) h1 fun e o2 w H2 f2 _ s2 r2 _ h2 => by
    cases q : f d e with
    | ok z =>
      rw [q] at h2
      refine sd H2 v w d e f1 f2 z _ (r1.mono s2) r2 q fun u H3 fp s' r' _ => ?_
      cases z with
      | bl k =>
        obtain ⟨rfl, _⟩ := r'.bl_inv
        refine ⟨k, rfl, ?_⟩
        cases k with
        | false => exact h2 _ H3 [] ((s1.trans s2).trans s') Rep.mk_bl fun _ => Fresh.nil
        | true =>
          refine tX_step (ok.mono ((s1.trans s2).trans s')) h2 fun e3 o3 w3 H4 f4 _ s4 r4 _ h4 => ?_
          cases q' : f' e e3 with
          | ok z' =>
            have h5 : Post (ExB X.mg Ex B) (QX X.K H Q) ((f' e e3).bind fun u => .ok (u, true)) := h4
            rw [q'] at h5
            exact sd' H4 w w3 e e3 f2 f4 z' Q ((r2.mono s').mono s4) r4 q' fun u H5 fp s5 r5 fr5 => h5 u H5 fp ((((s1.trans s2).trans s').trans s4).trans s5) r5 fun _ => fr5.mono (((s1.trans s2).trans s').trans s4) (Same.refl _)
          | ex c => exact absurd q' (ne' _ _ c)
          | no =>
            have h5 : Post (ExB X.mg Ex B) (QX X.K H Q) ((f' e e3).bind fun u => .ok (u, true)) := h4
            rw [q'] at h5
            exact h5.elim
      | _ => exact h2.elim
    | ex c => exact absurd q (ne d e c)
    | no => rw [q] at h2; exact h2.elim
theorem px_chLE2 (ha : PX X Ex a fa) (hb : PX X Ex b fb) (hc : PX X Ex c fc) (hm : lastMarks [.LtE, .LtE] [b, c] = false := by with_unfolding_all rfl) : PX X Ex (.Compare a [.LtE, .LtE] [b, c] pos) (eChain dLe dLe fa fb fc) :=
  PE.imp (pe_chain op_le op_le ha hb hc hm) (chain_imp (snd_cmp h_le) (ne_ints _ h_le fun _ _ _ q => by cases q) (snd_cmp h_le) (ne_ints _ h_le fun _ _ _ q => by cases q))
theorem pb_chLE2 (ha : PX X Ex a fa) (hb : PX X Ex b fb) (hc : PX X Ex c fc) (hm : lastMarks [.LtE, .LtE] [b, c] = false := by with_unfolding_all rfl) : PB X Ex (.Compare a [.LtE, .LtE] [b, c] pos) (asB (eChain dLe dLe fa fb fc)) :=
  PT.imp (pt_chain op_le op_le ha hb hc hm) fun σ H Q h => chain_imp (snd_cmp h_le) (ne_ints _ h_le fun _ _ _ q => by cases q) (snd_cmp h_le) (ne_ints _ h_le fun _ _ _ q => by cases q) σ H _ (by
    obtain ⟨B, g, ρ, ok, h⟩ := h
    exact ⟨B, g, ρ, ok, h.bind.imp (fun _ z => z) fun p _ z v H' fp s r _ => by
      obtain ⟨d, o⟩ := p
      cases d with
      | bl b => exact ⟨b, r.bl_inv.1, z H' s⟩
      | _ => exact z.elim⟩)
theorem px_chLELT (ha : PX X Ex a fa) (hb : PX X Ex b fb) (hc : PX X Ex c fc) (hm : lastMarks [.LtE, .Lt] [b, c] = false := by with_unfolding_all rfl) : PX X Ex (.Compare a [.LtE, .Lt] [b, c] pos) (eChain dLe dLt fa fb fc) :=
  PE.imp (pe_chain op_le op_lt ha hb hc hm) (chain_imp (snd_cmp h_le) (ne_ints _ h_le fun _ _ _ q => by cases q) (snd_cmp h_lt) (ne_ints _ h_lt fun _ _ _ q => by cases q))
theorem pb_chLELT (ha : PX X Ex a fa) (hb : PX X Ex b fb) (hc : PX X Ex c fc) (hm : lastMarks [.LtE, .Lt] [b, c] = false := by with_unfolding_all rfl) : PB X Ex (.Compare a [.LtE, .Lt] [b, c] pos) (asB (eChain dLe dLt fa fb fc)) :=
  PT.imp (pt_chain op_le op_lt ha hb hc hm) fun σ H Q h => chain_imp (snd_cmp h_le) (ne_ints _ h_le fun _ _ _ q => by cases q) (snd_cmp h_lt) (ne_ints _ h_lt fun _ _ _ q => by cases q) σ H _ (by
    obtain ⟨B, g, ρ, ok, h⟩ := h
    exact ⟨B, g, ρ, ok, h.bind.imp (fun _ z => z) fun p _ z v H' fp s r _ => by
      obtain ⟨d, o⟩ := p
      cases d with
      | bl b => exact ⟨b, r.bl_inv.1, z H' s⟩
      | _ => exact z.elim⟩)
end
end EQ
/-! EqD: arguments, displays, subscripts, slices, built-ins, calls of the text's own defs. -/
namespace EQ
open PySem PySem.Spec PyProof.Rows L2

/-! ### several, from the left -/
@[simp] def esNil : DXs := fun _ => .ok []
@[simp] def esCons (f : DX) (fs : DXs) : DXs := fun ρ => (f ρ).bind fun x => (fs ρ).bind fun xs => .ok (x :: xs)
section
variable {X : Cx} {Ex : XK} {a b c e : Expr} {es : List Expr} {fa fb fc : DX} {fs : DXs} {pos p : Pos} {x : Str} {id T : String} {r : List V → Hp → VK → Prop}
theorem pxs_nil : PXs X Ex [] esNil := PA.imp pa_nil fun σ H Q ⟨B, g, ρ, ok, h⟩ => h [] H [] (Same.refl H) .nil fun _ => Fresh.nil
theorem pxs_cons (ha : PX X Ex a fa) (hs : PXs X Ex es fs) (hst : starEach (a :: es) X.env = (false, eval a X.env) :: starEach es X.env := by rfl) : PXs X Ex (a :: es) (esCons fa fs) :=
  PA.imp (pa_cons ha hs hst) fun σ H Q ⟨B, g, ρ, ok, h⟩ => tX_step ok h fun d o v H1 f1 _ s1 r1 fr1 h1 => tXs_step (ok.mono s1) h1 fun ps vs H2 f2 _ s2 r2 fr2 h2 =>
    h2 (v :: vs) H2 (f1 ++ f2) (s1.trans s2) (RepA.cons (r1.mono s2) r2) fun o2 => by
      simp only [List.all_cons, Bool.and_eq_true] at o2
      exact (fr1 o2.1).append (fr2 o2.2) s1 s2
/-- a new list, tuple of written items -/
@[simp] def eLst (fs : DXs) : DX := fun ρ => (fs ρ).bind fun ps => .ite (decide (ps.length ≤ sizeLine)) (.ok (.lst (ps.map (·.1)), ps.all (·.2)))
@[simp] def eTup (fs : DXs) : DX := fun ρ => (fs ρ).bind fun ps => .ite (decide (ps.length ≤ sizeLine)) (.ok (.tup (ps.map (·.1)), ps.all (·.2)))
theorem Post.ite {α : Type} {Bx : Str → Prop} {P : α → Prop} {b : Bool} {x : R α} (h : Post Bx P (.ite b x)) : b = true ∧ Post Bx P x := by
  cases b with
  | true => exact ⟨rfl, h⟩
  | false => exact h.elim
theorem Fresh.cons {H H1 : Hp} {f : List Addr} {q : Addr} {xs : List V} (h : Fresh H H1 f) (s : Same H H1) (n : H1 q = none) : Fresh H (upd H1 q (.lst xs)) (q :: f) := by
  refine ⟨List.nodup_cons.mpr ⟨fun z => (h.2 q z).2.some n, h.1⟩, fun a ha => ?_⟩
  rcases List.mem_cons.mp ha with rfl | ha
  · exact ⟨s.free n, .inl ⟨_, upd_same⟩⟩
  · exact ⟨(h.2 a ha).1, (h.2 a ha).2.mono (same_upd n)⟩
theorem px_lst (hs : PXs X Ex es fs) : PX X Ex (.List es pos) (eLst fs) :=
  PE.imp (pe_lst hs) fun σ H Q ⟨B, g, ρ, ok, h⟩ => tXs_step ok h fun ps vs H1 fp _ s r fr h1 => by
    obtain ⟨c, h1⟩ := h1.ite
    have l := r.length
    rw [List.length_map] at l
    refine ⟨by rw [l]; exact of_decide_eq_true c, fun q nq => h1 _ _ (q :: fp) (s.trans (same_upd nq)) (Rep.mk_lst upd_same (r.mono (same_upd nq))) fun o => (fr o).cons s nq⟩
theorem px_tup {k} (hs : PXs X Ex es fs) : PX X Ex (.Tuple es k pos) (eTup fs) :=
  PE.imp (pe_tup hs) fun σ H Q ⟨B, g, ρ, ok, h⟩ => tXs_step ok h fun ps vs H1 fp _ s r fr h1 => by
    obtain ⟨c, h1⟩ := h1.ite
    have l := r.length
    rw [List.length_map] at l
    exact ⟨by rw [l]; exact of_decide_eq_true c, fun q nq => h1 _ _ fp (s.trans (same_upd nq)) (Rep.mk_tup upd_same (r.mono (same_upd nq))) fun o => (fr o).mono (Same.refl _) (same_upd nq)⟩
/-- an empty dict -/
theorem px_dct0 : PX X Ex (.Dict [] [] pos) (eC (.dct [] [])) :=
  PE.imp pe_dnewK fun σ H Q ⟨B, g, ρ, ok, h⟩ q nq => h _ _ [q] (same_upd nq) (Rep.mk_dct (kvs := []) (.inl upd_same) rfl .nil) fun _ => ⟨by simp, fun a ha => by
    obtain rfl : a = q := by simpa using ha
    exact ⟨nq, .inr ⟨_, upd_same⟩⟩⟩

/-! ### subscripts -/
@[simp] def dGet : List Key → List D → Key → Option D
  | k :: ks, d :: ds, x => if k = x then some d else dGet ks ds x
  | _, _, _ => none
theorem dGet_rep {K : PySem.W.Frag} {H : Hp} : ∀ {kvs : List (Key × V)} {ds : List D} {f : List Addr} {k : Key}, RepA K H (kvs.map (·.2)) ds f →
    (∀ d, dGet (kvs.map (·.1)) ds k = some d → ∃ v f1, valV kvs k = some v ∧ Rep K H v d f1 ∧ f1.Sublist f) ∧ (dGet (kvs.map (·.1)) ds k = none → valV kvs k = none)
  | [], ds, f, k, h => ⟨fun d e => (by simp [dGet] at e), fun _ => rfl⟩
  | p :: r, ds, f, k, h => by
    cases ds with
    | nil => cases h.nil_d.1
    | cons d ds =>
      obtain ⟨v, ws, f1, f2, e, rfl, h1, h2⟩ := h.cons_d
      rw [List.map_cons] at e
      obtain ⟨rfl, rfl⟩ := List.cons.inj e
      obtain ⟨i1, i2⟩ := dGet_rep (k := k) h2
      rw [List.map_cons]
      by_cases c : p.1 = k
      · refine ⟨fun d' e' => ?_, fun e' => ?_⟩
        · rw [dGet, if_pos c] at e'
          cases e'
          exact ⟨_, f1, valV_pos c, h1, List.sublist_append_left _ _⟩
        · rw [dGet, if_pos c] at e'; cases e'
      · refine ⟨fun d' e' => ?_, fun e' => ?_⟩
        · rw [dGet, if_neg c] at e'
          obtain ⟨v, g, a1, a2, a3⟩ := i1 d' e'
          exact ⟨v, g, by rw [valV_neg c]; exact a1, a2, a3.trans (List.sublist_append_right _ _)⟩
        · rw [dGet, if_neg c] at e'
          rw [valV_neg c]; exact i2 e'
@[simp] def dIdx : D → D → R D
  | .lst xs, .int i => ofO (atI xs i)
  | .tup xs, .int i => ofO (atI xs i)
  | .scr ns, .int i => ofO ((atI ns i).map .int)
  | .str z, .int i => .ite (decide (z.length ≤ sizeLine)) (ofO ((atI z.cps.toList i).map fun c => .str ⟨#[c]⟩))
  | .dct ks vs, k => match toKey k with
    | some k => ofO (dGet ks vs k)
    | none => .no
  | _, _ => .no
@[simp] def eIdx (fa fb : DX) : DX := fun ρ => (fa ρ).bind fun x => (fb ρ).bind fun y => (dIdx x.1 y.1).bind fun d => .ok (d, x.2 || imm d)
theorem ofO_ok {α : Type} {o : Option α} {a : α} (h : ofO o = .ok a) : o = some a := by
  cases o with
  | none => cases h
  | some b => cases h; rfl
theorem atI_rep {K : PySem.W.Frag} {H : Hp} {vs : List V} {ds : List D} {f : List Addr} {i : Int} {d : D} (h : RepA K H vs ds f) (e : atI ds i = some d) : ∃ v f1, atI vs i = some v ∧ Rep K H v d f1 ∧ f1.Sublist f := by
  unfold atI at e ⊢
  rw [h.length]
  cases q : ixN ds.length i with
  | none => rw [q] at e; cases e
  | some j =>
    rw [q] at e
    exact h.getS e
theorem atI_map {α β : Type} (f : α → β) (xs : List α) (i : Int) : atI (xs.map f) i = (atI xs i).map f := by
  unfold atI
  rw [List.length_map]
  cases ixN xs.length i with
  | none => rfl
  | some j => simp
theorem dIdx_ex {d e : D} {c : Str} : dIdx d e ≠ .ex c := fun q => by
  have h : ∀ {α : Type} (o : Option α), ofO o ≠ .ex c := fun o => by cases o <;> (intro z; cases z)
  unfold dIdx at q
  split at q
  · exact h _ q
  · exact h _ q
  · exact h _ q
  · exact h _ (R.ite_ex q)
  · split at q
    · exact h _ q
    · cases q
  · cases q
theorem px_ix (hu : X.A.units + 1 < cLine) (ha : PX X Ex a fa) (hb : PX X Ex b fb) (hs : PlainIx b) : PX X Ex (.Subscript a b pos) (eIdx fa fb) :=
  PE.imp (PE.or (pe_ix ix_seq ha hb hs) (pe_dget hu ha hb hs)) fun σ H Q ⟨B, g, ρ, ok, h⟩ => by
    have go : ∀ (P : D → Prop), (∀ d o, fa ρ = .ok (d, o) → P d) → ∀ (Φ : V → V → Hp → Prop), (∀ x y H2 d e f1 f2 z, P d → Rep X.K H2 x d f1 → Rep X.K H2 y e f2 → dIdx d e = .ok z → (∀ v fz, Rep X.K H2 v z fz → fz.Sublist f1 → Q v H2) → Φ x y H2) →
        tX X.K X.mg Ex fa σ H fun x H1 => tX X.K X.mg Ex fb σ H1 fun y H2 => Φ x y H2 := fun P hP Φ hΦ =>
      tX_step ok h fun d o v H1 f1 ea s1 r1 fr1 h1 => tX_step (ok.mono s1) h1 fun e o2 w H2 f2 eb s2 r2 _ h2 => by
        cases q : dIdx d e with
        | ok z =>
          have h3 : Post (ExB X.mg Ex B) (QX X.K H Q) ((dIdx d e).bind fun d' => .ok (d', o || imm d')) := h2
          rw [q] at h3
          refine hΦ v w H2 d e f1 f2 z (hP _ _ ea) (r1.mono s2) r2 q fun u fz rz sz => h3 u H2 fz (s1.trans s2) rz fun oo => ?_
          rcases Bool.or_eq_true_iff.mp oo with oo | oo
          · exact ((fr1 oo).mono (Same.refl _) s2).sub sz
          · rw [Rep.imm rz oo]; exact Fresh.nil
        | ex c => exact absurd q dIdx_ex
        | no =>
          have h3 : Post (ExB X.mg Ex B) (QX X.K H Q) ((dIdx d e).bind fun d' => .ok (d', o || imm d')) := h2
          rw [q] at h3; exact h3.elim
    by_cases hd : ∃ d o ks vs, fa ρ = .ok (d, o) ∧ d = .dct ks vs
    · refine .inr (go (fun d => ∃ ks vs, d = .dct ks vs) (fun d o e => ?_) _ fun x y H2 d e f1 f2 z ⟨ks, vs, ed⟩ r1 r2 q hq => ?_)
      · obtain ⟨d3, o3, ks, vs, e3, rfl⟩ := hd
        rw [e3] at e; cases e; exact ⟨ks, vs, rfl⟩
      · subst ed
        obtain ⟨p, kvs, g1, rfl, rfl, hp, hk, ra⟩ := r1.dct_inv
        have q' : (match toKey e with | some k => ofO (dGet ks vs k) | none => R.no) = R.ok z := q
        split at q'
        · rename_i k hk'
          subst hk
          obtain ⟨v, f3, e1, r3, s3⟩ := (dGet_rep ra).1 z (ofO_ok q')
          exact ⟨p, v, rfl, .inl ⟨kvs, k, hp, kV_toKey r2 hk', e1.symm⟩, hq v f3 r3 (s3.trans (List.sublist_cons_self _ _))⟩
        · cases q'
    · refine .inl (go (fun d => ∀ ks vs, d ≠ .dct ks vs) (fun d o e ks vs z => hd ⟨d, o, ks, vs, e, z⟩) _ fun x y H2 d e f1 f2 z nd r1 r2 q hq => ?_)
      unfold dIdx at q
      split at q
      · obtain ⟨p, xs, g1, rfl, rfl, hp, ra⟩ := r1.lst_inv
        obtain ⟨rfl, _⟩ := r2.int_inv
        obtain ⟨v, f3, e1, r3, s3⟩ := atI_rep ra (ofO_ok q)
        exact .inl ⟨p, xs, _, v, rfl, rfl, SqL.of hp, e1, hq v f3 r3 (s3.trans (List.sublist_cons_self _ _))⟩
      · obtain ⟨p, xs, rfl, hp, ra⟩ := r1.tup_inv
        obtain ⟨rfl, _⟩ := r2.int_inv
        obtain ⟨v, f3, e1, r3, s3⟩ := atI_rep ra (ofO_ok q)
        exact .inr (.inl ⟨p, xs, _, v, rfl, rfl, SqT.of hp, e1, hq v f3 r3 s3⟩)
      · rename_i ns i
        obtain ⟨p, rfl, hp, rfl⟩ := r1.scr_inv
        obtain ⟨rfl, _⟩ := r2.int_inv
        obtain ⟨n, e1, rfl⟩ := Option.map_eq_some_iff.mp (ofO_ok q)
        exact .inl ⟨p, _, _, .int n, rfl, rfl, hp.seq, by rw [atI_map, e1]; rfl, hq _ [] Rep.mk_int (List.Sublist.refl _)⟩
      · obtain ⟨c, q⟩ := R.ite_ok q
        obtain ⟨rfl, rfl⟩ := r1.str_inv
        obtain ⟨rfl, _⟩ := r2.int_inv
        obtain ⟨n, e1, rfl⟩ := Option.map_eq_some_iff.mp (ofO_ok q)
        exact .inr (.inr ⟨_, _, n, rfl, rfl, of_decide_eq_true c, e1, hq _ [] Rep.mk_str (List.Sublist.refl _)⟩)
      · exact absurd rfl (nd _ _)
      · cases q
/-! slices -/
abbrev DO := DEnv → R (Option Int)
def tOX (K : PySem.W.Frag) (mg : Str → Option Value) (Ex : XK) (f : DO) : TO := fun σ H Q => ∃ B g ρ, OkG K B H σ ρ g ∧ Post (ExB mg Ex B) (fun b => ∀ H', Same H H' → Q b H') (f ρ)
abbrev POX (X : Cx) (Ex : XK) (e : Option Expr) (f : DO) : Prop := PO X e (tOX X.K X.mg Ex f)
@[simp] def oNone : DO := fun _ => .ok none
@[simp] def oSome (f : DX) : DO := fun ρ => (f ρ).bind fun x => match x.1 with
  | .int i => .ok (some i)
  | _ => .no
theorem PO.imp {X : Cx} {e : Option Expr} {t t' : TO} (h : PO X e t) (i : ∀ σ H Q, t' σ H Q → t σ H Q) : PO X e t' := ⟨fun pins s σ H Q I q => h.run pins s σ H Q I (i σ H Q q)⟩
theorem ox_none : POX X Ex none oNone := PO.imp po_none fun σ H Q ⟨B, g, ρ, ok, h⟩ => h H (Same.refl H)
theorem ox_some (ha : PX X Ex a fa) : POX X Ex (some a) (oSome fa) := PO.imp (po_some ha) fun σ H Q ⟨B, g, ρ, ok, h⟩ => tX_step ok h fun d o v H1 fp _ s r _ h1 => by
  cases d with
  | int i => exact ⟨i, r.int_inv.1, h1 H1 s⟩
  | _ => exact h1.elim
def cutA {α : Type} (xs : List α) (lo hi : Option Int) : List α := (xs.drop (HT.sIx xs.length 0 lo)).take (HT.sIx xs.length xs.length hi - HT.sIx xs.length 0 lo)
@[simp] def dSlice (d : D) (lo hi : Option Int) : R D := match d with
  | .lst xs => .ok (.lst (cutA xs lo hi))
  | .scr ns => .ok (.lst ((cutA ns lo hi).map .int))
  | .str z => .ite (decide (z.length ≤ sizeLine)) (.ok (.str (cutS z lo hi)))
  | .tup xs => .ite (!(HT.sIx xs.length 0 lo == 0 && HT.sIx xs.length xs.length hi == xs.length)) (.ok (.tup (cutA xs lo hi)))
  | _ => .no
/-- a new list's items may be others' -/
@[simp] def sliceOwn : D → Bool
  | .lst xs => immA xs
  | d => imm d
@[simp] def eSlice (fa : DX) (fl fh : DO) : DX := fun ρ => (fa ρ).bind fun x => (fl ρ).bind fun lo => (fh ρ).bind fun hi => (dSlice x.1 lo hi).bind fun d => .ok (d, sliceOwn d)
theorem RepA.take {K : PySem.W.Frag} {H : Hp} {vs : List V} {ds : List D} {f : List Addr} (h : RepA K H vs ds f) (n : Nat) : ∃ f1, RepA K H (vs.take n) (ds.take n) f1 ∧ f1.Sublist f := by
  induction ds generalizing vs f n with
  | nil => obtain ⟨rfl, rfl⟩ := h.nil_d; exact ⟨[], by simpa using .nil, List.Sublist.refl _⟩
  | cons d ds ih =>
    obtain ⟨v, ws, f1, f2, rfl, rfl, h1, h2⟩ := h.cons_d
    cases n with
    | zero => exact ⟨[], .nil, List.nil_sublist _⟩
    | succ n =>
      obtain ⟨g, r, s⟩ := ih h2 n
      exact ⟨f1 ++ g, RepA.cons h1 r, s.append_left f1⟩
theorem RepA.drop {K : PySem.W.Frag} {H : Hp} {vs : List V} {ds : List D} {f : List Addr} (h : RepA K H vs ds f) (n : Nat) : ∃ f1, RepA K H (vs.drop n) (ds.drop n) f1 ∧ f1.Sublist f := by
  induction ds generalizing vs f n with
  | nil => obtain ⟨rfl, rfl⟩ := h.nil_d; exact ⟨[], by simpa using .nil, List.Sublist.refl _⟩
  | cons d ds ih =>
    cases n with
    | zero => exact ⟨f, h, List.Sublist.refl _⟩
    | succ n =>
      obtain ⟨v, ws, f1, f2, rfl, rfl, h1, h2⟩ := h.cons_d
      obtain ⟨g, r, s⟩ := ih h2 n
      exact ⟨g, r, s.trans (List.sublist_append_right _ _)⟩
theorem RepA.cut {K : PySem.W.Frag} {H : Hp} {vs : List V} {ds : List D} {f : List Addr} (h : RepA K H vs ds f) (lo hi : Option Int) : ∃ f1, RepA K H (cutV vs lo hi) (cutA ds lo hi) f1 := by
  unfold cutV cutA
  rw [h.length]
  obtain ⟨g, r, _⟩ := h.drop (HT.sIx ds.length 0 lo)
  obtain ⟨g2, r2, _⟩ := r.take (HT.sIx ds.length ds.length hi - HT.sIx ds.length 0 lo)
  exact ⟨g2, r2⟩
theorem cutV_map {α : Type} (f : α → V) (xs : List α) (lo hi : Option Int) : cutV (xs.map f) lo hi = (cutA xs lo hi).map f := by
  unfold cutV cutA
  rw [List.length_map, List.map_take, List.map_drop]
theorem px_slice {lo hi : Option Expr} {fl fh : DO} {p2 : Pos} (ha : PX X Ex a fa) (hl : POX X Ex lo fl) (hh : POX X Ex hi fh) : PX X Ex (.Subscript a (.Slice lo hi none p2) pos) (eSlice fa fl fh) :=
  PE.imp (pe_slice (SlR.or sl_list (SlR.or sl_str sl_tup)) ha hl hh) fun σ H Q ⟨B, g, ρ, ok, h⟩ => tX_step ok h fun d o v H1 f1 _ s1 r1 _ h1 => by
    refine ⟨B, g, ρ, ok.mono s1, h1.bind.imp (fun _ z => z) fun lo' _ h2 H2 s2 => ?_⟩
    refine ⟨B, g, ρ, (ok.mono s1).mono s2, h2.bind.imp (fun _ z => z) fun hi' _ h3 H3 s3 => ?_⟩
    have r3 := (r1.mono s2).mono s3
    have s := (s1.trans s2).trans s3
    have h3' : Post (ExB X.mg Ex B) (QX X.K H Q) ((dSlice d lo' hi').bind fun d => .ok (d, sliceOwn d)) := h3
    unfold dSlice at h3'
    cases d with
    | lst xs =>
      obtain ⟨p, ys, g1, rfl, rfl, hp, ra⟩ := r3.lst_inv
      obtain ⟨g2, rc⟩ := ra.cut lo' hi'
      refine .inl ⟨p, ys, rfl, SqL.of hp, fun q nq => h3' _ _ (q :: g2) (s.trans (same_upd nq)) (Rep.mk_lst upd_same (rc.mono (same_upd nq))) fun im => ?_⟩
      have e := rc.imm im
      subst e
      exact ⟨by simp, fun a ha => by
        obtain rfl : a = q := by simpa using ha
        exact ⟨s.free nq, .inl ⟨_, upd_same⟩⟩⟩
    | scr ns =>
      obtain ⟨p, rfl, hp, rfl⟩ := r3.scr_inv
      refine .inl ⟨p, _, rfl, hp.seq, fun q nq => h3' _ _ [q] (s.trans (same_upd nq)) (Rep.mk_lst upd_same ?_) fun _ => ⟨by simp, fun a ha => ?_⟩⟩
      · rw [cutV_map]; exact RepA.ints _
      · obtain rfl : a = q := by simpa using ha
        exact ⟨s.free nq, .inl ⟨_, upd_same⟩⟩
    | str z =>
      obtain ⟨rfl, rfl⟩ := r3.str_inv
      by_cases c : z.length ≤ sizeLine
      · have h3'' : Post (ExB X.mg Ex B) (QX X.K H Q) ((R.ite (decide (z.length ≤ sizeLine)) (.ok (.str (cutS z lo' hi')))).bind fun d => .ok (d, sliceOwn d)) := h3'
        rw [decide_eq_true c] at h3''
        exact .inr (.inl ⟨z, rfl, c, h3'' _ H3 [] s Rep.mk_str fun _ => Fresh.nil⟩)
      · have h3'' : Post (ExB X.mg Ex B) (QX X.K H Q) ((R.ite (decide (z.length ≤ sizeLine)) (.ok (.str (cutS z lo' hi')))).bind fun d => .ok (d, sliceOwn d)) := h3'
        rw [decide_eq_false c] at h3''
        exact h3''.elim
    | tup xs =>
      obtain ⟨p, ys, rfl, hp, ra⟩ := r3.tup_inv
      have h3'' : Post (ExB X.mg Ex B) (QX X.K H Q) ((R.ite (!(HT.sIx xs.length 0 lo' == 0 && HT.sIx xs.length xs.length hi' == xs.length)) (.ok (.tup (cutA xs lo' hi')))).bind fun d => .ok (d, sliceOwn d)) := h3'
      cases e : (!(HT.sIx xs.length 0 lo' == 0 && HT.sIx xs.length xs.length hi' == xs.length)) with
      | false => rw [e] at h3''; exact h3''.elim
      | true =>
        rw [e] at h3''
        obtain ⟨g2, rc⟩ := ra.cut lo' hi'
        refine .inr (.inr ⟨p, ys, rfl, SqT.of hp, ?_, fun q nq => h3'' _ _ g2 (s.trans (same_upd nq)) (Rep.mk_tup upd_same (rc.mono (same_upd nq))) fun im => ?_⟩)
        · rw [ra.length]
          intro z
          rw [z.1, z.2] at e
          simp at e
        · rw [rc.imm (by simpa [sliceOwn] using im)]; exact Fresh.nil
    | _ => exact h3'.elim

/-! ### built-ins by values -/
def SndL (K : PySem.W.Frag) (r : List V → Hp → VK → Prop) (f : List D → R D) : Prop := ∀ H xs ds fp z Q, RepA K H xs ds fp → f ds = .ok z → QN K H Q z → r xs H Q
def NoExL (f : List D → R D) : Prop := ∀ ds c, f ds ≠ .ex c
@[simp] def eFn (f : List D → R D) (fs : DXs) : DX := fun ρ => (fs ρ).bind fun ps => (f (ps.map (·.1))).bind fun d => .ok (d, true)
theorem fn_imp {f : List D → R D} (sd : SndL X.K r f) (ne : NoExL f) : ∀ σ H Q, tX X.K X.mg Ex (eFn f fs) σ H Q → tCB r (tXs X.K X.mg Ex fs) σ H Q := fun σ H Q ⟨B, g, ρ, ok, h⟩ =>
  tXs_step ok h fun ps vs H1 fp _ s r1 _ h1 => by
    cases q : f (ps.map (·.1)) with
    | ok z =>
      rw [q] at h1
      exact sd H1 vs _ fp z Q r1 q fun u H' fp' s' r' fr' => h1 u H' fp' (s.trans s') r' fun _ => fr'.mono s (Same.refl _)
    | ex c => exact absurd q (ne _ c)
    | no => rw [q] at h1; exact h1.elim
theorem px_callB {f : List D → R D} (hc : CallR X (.builtin id) r) (sd : SndL X.K r f) (ne : NoExL f) (hg : Gl X x) (hm : X.mg x = none) (hv : bootBuiltins x = some (.builtin id)) (ha : PXs X Ex (e :: es) fs) (hn : x ≠ "__name__" := by decide) (hdb : (x == ("__debug__" : Str)) = false := by decide)
    (he : starEach (e :: es) X.env = (false, eval e X.env) :: starEach es X.env := by rfl) (hpl : (backTo pos (starEach es X.env)).any (·.1) = false := by rfl) : PX X Ex (.Call (.Name x p) (e :: es) [] pos) (eFn f fs) :=
  PE.imp (pe_callB hc hg hm hv ha hn hdb he hpl) (fn_imp sd ne)
theorem px_callTy {f : List D → R D} (hc : CallR X (.type T) r) (sd : SndL X.K r f) (ne : NoExL f) (hg : Gl X x) (hm : X.mg x = none) (hv : bootBuiltins x = some (.type T)) (ha : PXs X Ex (e :: es) fs) (hn : x ≠ "__name__" := by decide) (hdb : (x == ("__debug__" : Str)) = false := by decide)
    (he : starEach (e :: es) X.env = (false, eval e X.env) :: starEach es X.env := by rfl) (hpl : (backTo pos (starEach es X.env)).any (·.1) = false := by rfl) : PX X Ex (.Call (.Name x p) (e :: es) [] pos) (eFn f fs) :=
  PE.imp (pe_callTy hc hg hm hv ha hn hdb he hpl) (fn_imp sd ne)
end
/-! len, sum, max, min, abs, int, list, tuple, sorted -/
@[simp] def dLen : List D → R D
  | [.lst xs] => .ok (.int xs.length)
  | [.tup xs] => .ok (.int xs.length)
  | [.scr xs] => .ok (.int xs.length)
  | [.str z] => .ite (decide (z.length ≤ sizeLine)) (.ok (.int z.length))
  | _ => .no
theorem RepA.one {K : PySem.W.Frag} {H : Hp} {vs : List V} {d : D} {f : List Addr} (h : RepA K H vs [d] f) : ∃ v, vs = [v] ∧ Rep K H v d f := by
  obtain ⟨v, ws, f1, f2, rfl, rfl, h1, h2⟩ := h.cons_d
  obtain ⟨rfl, rfl⟩ := h2.nil_d
  exact ⟨v, rfl, by simpa using h1⟩
theorem RepA.two {K : PySem.W.Frag} {H : Hp} {vs : List V} {d e : D} {f : List Addr} (h : RepA K H vs [d, e] f) : ∃ v w f1 f2, vs = [v, w] ∧ f = f1 ++ f2 ∧ Rep K H v d f1 ∧ Rep K H w e f2 := by
  obtain ⟨v, ws, f1, f2, rfl, rfl, h1, h2⟩ := h.cons_d
  obtain ⟨w, rfl, h3⟩ := h2.one
  exact ⟨v, w, f1, f2, rfl, rfl, h1, h3⟩
theorem snd_len {K : PySem.W.Frag} : SndL K (fun xs H Q => ∃ x n, xs = [x] ∧ LenV K x H n ∧ Q (.int n) H) dLen := fun H xs ds fp z Q r q h => by
  unfold dLen at q
  split at q
  · cases q
    obtain ⟨v, rfl, r⟩ := r.one
    obtain ⟨p, ys, g1, rfl, rfl, hp, ra⟩ := r.lst_inv
    exact ⟨_, _, rfl, .inl ⟨ys, SqL.of hp, rfl⟩, by rw [ra.length]; exact h.int⟩
  · cases q
    obtain ⟨v, rfl, r⟩ := r.one
    obtain ⟨p, ys, rfl, hp, ra⟩ := r.tup_inv
    exact ⟨_, _, rfl, .inr ⟨ys, SqT.of hp, rfl⟩, by rw [ra.length]; exact h.int⟩
  · cases q
    obtain ⟨v, rfl, r⟩ := r.one
    obtain ⟨p, rfl, hp, rfl⟩ := r.scr_inv
    exact ⟨_, _, rfl, .inl ⟨_, hp.seq, rfl⟩, by rw [List.length_map]; exact h.int⟩
  · obtain ⟨c, q⟩ := R.ite_ok q
    cases q
    obtain ⟨v, rfl, r⟩ := r.one
    obtain ⟨rfl, _⟩ := r.str_inv
    exact ⟨_, _, rfl, ⟨of_decide_eq_true c, rfl⟩, h.int⟩
  · cases q
theorem ne_len : NoExL dLen := fun ds c q => by
  unfold dLen at q
  split at q
  · cases q
  · cases q
  · cases q
  · cases R.ite_ex q
  · cases q
def intsOf : List D → Option (List Int)
  | [] => some []
  | .int i :: ds => (intsOf ds).map (i :: ·)
  | _ => none
@[simp] theorem intsOf_map (ns : List Int) : intsOf (ns.map D.int) = some ns := by
  induction ns with
  | nil => rfl
  | cons n r ih => simp [intsOf, ih]
theorem intsOf_eq : ∀ {ds : List D} {ns : List Int}, intsOf ds = some ns → ds = ns.map D.int
  | [], _, e => by cases e; rfl
  | .int i :: ds, ns, e => by
    rw [intsOf] at e
    obtain ⟨m, e1, rfl⟩ := Option.map_eq_some_iff.mp e
    rw [intsOf_eq e1]; rfl
  | .non :: _, _, e => by cases e
  | .bl _ :: _, _, e => by cases e
  | .str _ :: _, _, e => by cases e
  | .tup _ :: _, _, e => by cases e
  | .lst _ :: _, _, e => by cases e
  | .dct _ _ :: _, _, e => by cases e
  | .scr _ :: _, _, e => by cases e
def onInts (f : List Int → R D) : List D → R D
  | [.lst xs] => match intsOf xs with
    | some ns => f ns
    | none => .no
  | _ => .no
theorem onInts_ok {f : List Int → R D} {ds : List D} {z : D} (q : onInts f ds = .ok z) : ∃ ns, ds = [.lst (ns.map D.int)] ∧ f ns = .ok z := by
  unfold onInts at q
  split at q
  · split at q
    · rename_i h
      exact ⟨_, by rw [intsOf_eq h], q⟩
    · cases q
  · cases q
theorem onInts_ex {f : List Int → R D} (hf : ∀ ns c, f ns ≠ .ex c) : NoExL (onInts f) := fun ds c q => by
  unfold onInts at q
  split at q
  · split at q
    · exact hf _ _ q
    · cases q
  · cases q
@[simp] theorem onInts_map (f : List Int → R D) (ns : List Int) : onInts f [.lst (ns.map D.int)] = f ns := by simp [onInts]
theorem ints_list {K : PySem.W.Frag} {H : Hp} {xs : List V} {ns : List Int} {fp : List Addr} (r : RepA K H xs [.lst (ns.map D.int)] fp) : ∃ a, xs = [V.ref a] ∧ SqL K H a (ns.map V.int) := by
  obtain ⟨v, rfl, r⟩ := r.one
  obtain ⟨p, ys, g1, rfl, rfl, hp, ra⟩ := r.lst_inv
  rw [RepA.ints_inv ra] at hp
  exact ⟨p, rfl, SqL.of hp⟩
def dSum : List D → R D := onInts fun ns => .ok (.int ns.sum)
theorem snd_sum {K : PySem.W.Frag} : SndL K (rSum K) dSum := fun H xs ds fp z Q r q h => by
  obtain ⟨ns, rfl, e⟩ := onInts_ok q
  cases e
  obtain ⟨a, rfl, s⟩ := ints_list r
  exact ⟨a, ns, rfl, s, h.int⟩
theorem ne_sum : NoExL dSum := onInts_ex fun _ _ q => by cases q
/-- the greatest, the least of a list -/
def lMax : List Int → Option Int
  | [] => none
  | x :: xs => some (xs.foldl max x)
def lMin : List Int → Option Int
  | [] => none
  | x :: xs => some (xs.foldl min x)
theorem foldl_max_ge (xs : List Int) : ∀ x : Int, x ≤ xs.foldl max x ∧ ∀ y ∈ xs, y ≤ xs.foldl max x := by
  induction xs with
  | nil => intro x; exact ⟨Int.le_refl _, by simp⟩
  | cons z r ih =>
    intro x
    obtain ⟨h1, h2⟩ := ih (max x z)
    refine ⟨by rw [List.foldl_cons]; omega, fun y hy => ?_⟩
    rw [List.foldl_cons]
    rcases List.mem_cons.mp hy with rfl | hy
    · omega
    · exact h2 y hy
theorem foldl_max_mem (xs : List Int) : ∀ x : Int, xs.foldl max x ∈ x :: xs := by
  induction xs with
  | nil => intro x; simp
  | cons z r ih =>
    intro x
    rw [List.foldl_cons]
    rcases List.mem_cons.mp (ih (max x z)) with e | e
    · rw [e]
      by_cases c : x ≤ z
      · rw [Int.max_eq_right c]; simp
      · rw [Int.max_eq_left (by omega)]; simp
    · simp [e]
theorem foldl_min_le (xs : List Int) : ∀ x : Int, xs.foldl min x ≤ x ∧ ∀ y ∈ xs, xs.foldl min x ≤ y := by
  induction xs with
  | nil => intro x; exact ⟨Int.le_refl _, by simp⟩
  | cons z r ih =>
    intro x
    obtain ⟨h1, h2⟩ := ih (min x z)
    refine ⟨by rw [List.foldl_cons]; omega, fun y hy => ?_⟩
    rw [List.foldl_cons]
    rcases List.mem_cons.mp hy with rfl | hy
    · omega
    · exact h2 y hy
theorem foldl_min_mem (xs : List Int) : ∀ x : Int, xs.foldl min x ∈ x :: xs := by
  induction xs with
  | nil => intro x; simp
  | cons z r ih =>
    intro x
    rw [List.foldl_cons]
    rcases List.mem_cons.mp (ih (min x z)) with e | e
    · rw [e]
      by_cases c : x ≤ z
      · rw [Int.min_eq_left c]; simp
      · rw [Int.min_eq_right (by omega)]; simp
    · simp [e]
theorem lMax_of {ns : List Int} {m : Int} (h : m ∈ ns) (g : ∀ y ∈ ns, y ≤ m) : lMax ns = some m := by
  cases ns with
  | nil => cases h
  | cons x xs =>
    have h1 := foldl_max_mem xs x
    have h2 := foldl_max_ge xs x
    have h3 := g _ h1
    have h4 : m ≤ xs.foldl max x := by
      rcases List.mem_cons.mp h with rfl | h
      · exact h2.1
      · exact h2.2 m h
    rw [lMax, show xs.foldl max x = m by omega]
theorem lMin_of {ns : List Int} {m : Int} (h : m ∈ ns) (g : ∀ y ∈ ns, m ≤ y) : lMin ns = some m := by
  cases ns with
  | nil => cases h
  | cons x xs =>
    have h1 := foldl_min_mem xs x
    have h2 := foldl_min_le xs x
    have h3 := g _ h1
    have h4 : xs.foldl min x ≤ m := by
      rcases List.mem_cons.mp h with rfl | h
      · exact h2.1
      · exact h2.2 m h
    rw [lMin, show xs.foldl min x = m by omega]
def dMax : List D → R D
  | [.int a, .int b] => .ok (.int (max a b))
  | ds => onInts (fun ns => ofO ((lMax ns).map .int)) ds
def dMin : List D → R D
  | [.int a, .int b] => .ok (.int (min a b))
  | ds => onInts (fun ns => ofO ((lMin ns).map .int)) ds
@[simp] theorem dMax_two (a b : Int) : dMax [.int a, .int b] = .ok (.int (max a b)) := rfl
@[simp] theorem dMin_two (a b : Int) : dMin [.int a, .int b] = .ok (.int (min a b)) := rfl
theorem ofO_ex {α : Type} {o : Option α} {c : Str} : ofO o ≠ .ex c := fun q => by cases o <;> cases q
theorem snd_max {K : PySem.W.Frag} : SndL K (fun xs H Q => (∃ i j, xs = [.int i, .int j] ∧ Q (.int (if j > i then j else i)) H) ∨ rMax K xs H Q) dMax := fun H xs ds fp z Q r q h => by
  unfold dMax at q
  split at q
  · rename_i a b
    cases q
    obtain ⟨v, w, f1, f2, rfl, rfl, r1, r2⟩ := r.two
    obtain ⟨rfl, _⟩ := r1.int_inv
    obtain ⟨rfl, _⟩ := r2.int_inv
    refine .inl ⟨a, b, rfl, ?_⟩
    have e : (if b > a then b else a) = max a b := by split <;> omega
    rw [e]; exact h.int
  · obtain ⟨ns, rfl, e⟩ := onInts_ok q
    obtain ⟨m, e1, rfl⟩ := Option.map_eq_some_iff.mp (ofO_ok e)
    obtain ⟨a, rfl, s⟩ := ints_list r
    refine .inr ⟨a, ns, rfl, s, ?_, fun m' h1 h2 => ?_⟩
    · cases ns with
      | nil => cases e1
      | cons _ _ => simp
    · have := lMax_of h1 h2
      rw [e1] at this; cases this; exact h.int
theorem ne_max : NoExL dMax := fun ds c q => by
  unfold dMax at q
  split at q
  · cases q
  · exact onInts_ex (fun _ _ z => ofO_ex z) _ _ q
theorem snd_min {K : PySem.W.Frag} : SndL K (fun xs H Q => (∃ i j, xs = [.int i, .int j] ∧ Q (.int (if j < i then j else i)) H) ∨ rMin K xs H Q) dMin := fun H xs ds fp z Q r q h => by
  unfold dMin at q
  split at q
  · rename_i a b
    cases q
    obtain ⟨v, w, f1, f2, rfl, rfl, r1, r2⟩ := r.two
    obtain ⟨rfl, _⟩ := r1.int_inv
    obtain ⟨rfl, _⟩ := r2.int_inv
    refine .inl ⟨a, b, rfl, ?_⟩
    have e : (if b < a then b else a) = min a b := by split <;> omega
    rw [e]; exact h.int
  · obtain ⟨ns, rfl, e⟩ := onInts_ok q
    obtain ⟨m, e1, rfl⟩ := Option.map_eq_some_iff.mp (ofO_ok e)
    obtain ⟨a, rfl, s⟩ := ints_list r
    refine .inr ⟨a, ns, rfl, s, ?_, fun m' h1 h2 => ?_⟩
    · cases ns with
      | nil => cases e1
      | cons _ _ => simp
    · have := lMin_of h1 h2
      rw [e1] at this; cases this; exact h.int
theorem ne_min : NoExL dMin := fun ds c q => by
  unfold dMin at q
  split at q
  · cases q
  · exact onInts_ex (fun _ _ z => ofO_ex z) _ _ q
@[simp] def dAbs : List D → R D
  | [.int a] => .ok (.int (if a < 0 then -a else a))
  | _ => .no
theorem snd_abs {K : PySem.W.Frag} : SndL K (fun xs H Q => ∃ i, xs = [.int i] ∧ Q (.int (if i < 0 then -i else i)) H) dAbs := fun H xs ds fp z Q r q h => by
  unfold dAbs at q
  split at q
  · cases q
    obtain ⟨v, rfl, r⟩ := r.one
    obtain ⟨rfl, _⟩ := r.int_inv
    exact ⟨_, rfl, h.int⟩
  · cases q
theorem ne_abs : NoExL dAbs := fun ds c q => by unfold dAbs at q; split at q <;> cases q
@[simp] def dInt : List D → R D
  | [.int a] => .ok (.int a)
  | [.bl b] => .ok (.int (if b then 1 else 0))
  | _ => .no
theorem snd_int1 {K : PySem.W.Frag} : SndL K (fun xs H Q => (∃ i, xs = [.int i] ∧ Q (.int i) H) ∨ ∃ k, xs = [.bl k] ∧ Q (.int (if k then 1 else 0)) H) dInt := fun H xs ds fp z Q r q h => by
  unfold dInt at q
  split at q
  · cases q
    obtain ⟨v, rfl, r⟩ := r.one
    obtain ⟨rfl, _⟩ := r.int_inv
    exact .inl ⟨_, rfl, h.int⟩
  · cases q
    obtain ⟨v, rfl, r⟩ := r.one
    obtain ⟨rfl, _⟩ := r.bl_inv
    exact .inr ⟨_, rfl, h.int⟩
  · cases q
theorem ne_int1 : NoExL dInt := fun ds c q => by unfold dInt at q; split at q <;> cases q
/-- ints, rising -/
def ins (x : Int) : List Int → List Int
  | [] => [x]
  | y :: r => if x ≤ y then x :: y :: r else y :: ins x r
def isort : List Int → List Int
  | [] => []
  | x :: r => ins x (isort r)
theorem ins_perm (x : Int) : ∀ l : List Int, (ins x l).Perm (x :: l)
  | [] => .refl _
  | y :: r => by
    rw [ins]
    split
    · exact .refl _
    · exact ((ins_perm x r).cons y).trans (.swap x y r)
theorem isort_perm : ∀ l : List Int, (isort l).Perm l
  | [] => .refl _
  | x :: r => (ins_perm x _).trans ((isort_perm r).cons x)
theorem ins_sorted (x : Int) : ∀ l : List Int, l.Pairwise (· ≤ ·) → (ins x l).Pairwise (· ≤ ·)
  | [], _ => by simp [ins]
  | y :: r, h => by
    rw [ins]
    obtain ⟨h1, h2⟩ := List.pairwise_cons.mp h
    split
    · rename_i c
      exact List.pairwise_cons.mpr ⟨fun z hz => by
        rcases List.mem_cons.mp hz with rfl | hz
        · exact c
        · exact Int.le_trans c (h1 z hz), h⟩
    · refine List.pairwise_cons.mpr ⟨fun z hz => ?_, ins_sorted x r h2⟩
      rcases List.mem_cons.mp ((ins_perm x r).mem_iff.mp hz) with rfl | hz
      · omega
      · exact h1 z hz
theorem isort_sorted : ∀ l : List Int, (isort l).Pairwise (· ≤ ·)
  | [] => .nil
  | x :: r => ins_sorted x _ (isort_sorted r)
theorem sorted_uniq : ∀ {l m : List Int}, l.Perm m → l.Pairwise (· ≤ ·) → m.Pairwise (· ≤ ·) → l = m
  | [], m, p, _, _ => p.nil_eq
  | x :: l, m, p, h1, h2 => by
    cases m with
    | nil => exact absurd p.length_eq (by simp)
    | cons y m =>
      obtain ⟨a1, a2⟩ := List.pairwise_cons.mp h1
      obtain ⟨b1, b2⟩ := List.pairwise_cons.mp h2
      have e : x = y := by
        have hx : x ∈ y :: m := p.mem_iff.mp (by simp)
        have hy : y ∈ x :: l := p.mem_iff.mpr (by simp)
        rcases List.mem_cons.mp hx with e | hx
        · exact e
        · rcases List.mem_cons.mp hy with e | hy
          · exact e.symm
          · have := a1 y hy
            have := b1 x hx
            omega
      subst e
      rw [sorted_uniq (List.Perm.cons_inv p) a2 b2]
def dSorted : List D → R D := onInts fun ns => .ok (.lst ((isort ns).map .int))
theorem snd_sorted {K : PySem.W.Frag} : SndL K (rSortedI K) dSorted := fun H xs ds fp z Q r q h => by
  obtain ⟨ns, rfl, e⟩ := onInts_ok q
  cases e
  obtain ⟨a, rfl, s⟩ := ints_list r
  refine ⟨a, ns, rfl, s, fun ns' p h1 h2 np => ?_⟩
  rw [sorted_uniq (h1.trans (isort_perm ns).symm) h2 (isort_sorted ns)]
  exact h.lst (RepA.ints _) (by simp) np
theorem ne_sorted : NoExL dSorted := onInts_ex fun _ _ q => by cases q
end EQ
/-! EqE: what is moved, statements, targets, if, for, while. -/
namespace EQ
open PySem PySem.Spec PyProof.Rows L2

/-! ### what is moved: the value is the asker's own -/
abbrev DO1 := DEnv → R (D × DEnv)
/-- slots may only be forgotten -/
def LeE (ρ' ρ : DEnv) : Prop := ∀ (i : Nat) (d : D), ρ'[i]? = some (some (d, true)) → ρ[i]? = some (some (d, true))
theorem LeE.refl (ρ : DEnv) : LeE ρ ρ := fun _ _ h => h
theorem LeE.trans {a b c : DEnv} (h : LeE a b) (k : LeE b c) : LeE a c := fun i d e => k i d (h i d e)
def Src (H : Hp) (ρ : DEnv) (g : Nat → List Addr) (a : Addr) : Prop := H a = none ∨ ∃ i d, ρ[i]? = some (some (d, true)) ∧ a ∈ g i
/-- an own footprint -/
structure OwnF (B H H' : Hp) (ρ ρ' : DEnv) (g : Nat → List Addr) (fp : List Addr) : Prop where
  nd : fp.Nodup
  src : ∀ a ∈ fp, Src H ρ g a
  mu : ∀ a ∈ fp, MutA H' a
  ap : ∀ a ∈ fp, ∀ i d, ρ'[i]? = some (some (d, true)) → a ∉ g i
  nb : ∀ a ∈ fp, B a = none
def QO (K : PySem.W.Frag) (B H : Hp) (σ : L2.St) (ρ : DEnv) (g : Nat → List Addr) (Q : VK) (p : D × DEnv) : Prop :=
  ∀ v H' fp, Same H H' → OkG K B H' σ p.2 g → LeE p.2 ρ → Rep K H' v p.1 fp → OwnF B H H' ρ p.2 g fp → Q v H'
def tO (K : PySem.W.Frag) (mg : Str → Option Value) (Ex : XK) (f : DO1) : TE := fun σ H Q => ∃ B g ρ, OkG K B H σ ρ g ∧ Post (ExB mg Ex B) (QO K B H σ ρ g Q) (f ρ)
abbrev POw (X : Cx) (Ex : XK) (e : Expr) (f : DO1) : Prop := PE X e (tO X.K X.mg Ex f)
abbrev DO1s := DEnv → R (List D × DEnv)
def QOs (K : PySem.W.Frag) (B H : Hp) (σ : L2.St) (ρ : DEnv) (g : Nat → List Addr) (Q : List V → Hp → Prop) (p : List D × DEnv) : Prop :=
  ∀ vs H' fp, Same H H' → OkG K B H' σ p.2 g → LeE p.2 ρ → RepA K H' vs p.1 fp → OwnF B H H' ρ p.2 g fp → Q vs H'
def tOs (K : PySem.W.Frag) (mg : Str → Option Value) (Ex : XK) (f : DO1s) : TA := fun σ H Q => ∃ B g ρ, OkG K B H σ ρ g ∧ Post (ExB mg Ex B) (QOs K B H σ ρ g Q) (f ρ)
abbrev POs (X : Cx) (Ex : XK) (es : List Expr) (f : DO1s) : Prop := PA X es (tOs X.K X.mg Ex f)
theorem OkG.none_of {K : PySem.W.Frag} {B H : Hp} {σ : L2.St} {ρ : DEnv} {g : Nat → List Addr} (ok : OkG K B H σ ρ g) {a : Addr} (h : Src H ρ g a) : B a = none := by
  rcases h with h | ⟨i, d, e, m⟩
  · exact ok.bas.free h
  · exact ((ok.own i d e).2 a m).1
/-- a new footprint is an own one -/
theorem Fresh.own {K : PySem.W.Frag} {B H H' : Hp} {σ : L2.St} {ρ : DEnv} {g : Nat → List Addr} {fp : List Addr} (ok : OkG K B H σ ρ g) (h : Fresh H H' fp) : OwnF B H H' ρ ρ g fp :=
  ⟨h.1, fun a ha => .inl (h.2 a ha).1, fun a ha => (h.2 a ha).2, fun a ha i d e m => ((ok.own i d e).2 a m).2.some (h.2 a ha).1, fun a ha => ok.bas.free (h.2 a ha).1⟩
@[simp] def oX (f : DX) : DO1 := fun ρ => (f ρ).bind fun x => match x.2 with
  | true => .ok (x.1, ρ)
  | false => .no
@[simp] def oVar (i : Nat) : DO1 := fun ρ => match ρ[i]? with
  | some (some (d, o)) => match imm d with
    | true => .ok (d, ρ)
    | false => match o with
      | true => .ok (d, ρ.set i none)
      | false => .no
  | _ => .no
theorem get_set {ρ : DEnv} {i j : Nat} {x : Option (D × Bool)} {y : D × Bool} (h : (ρ.set i x)[j]? = some (some y)) : (j = i ∧ x = some y ∧ i < ρ.length) ∨ (j ≠ i ∧ ρ[j]? = some (some y)) := by
  by_cases e : i = j
  · subst e
    by_cases l : i < ρ.length
    · rw [List.getElem?_set_self l] at h
      exact .inl ⟨rfl, Option.some.inj h, l⟩
    · rw [List.getElem?_eq_none (by rw [List.length_set]; omega)] at h; cases h
  · rw [List.getElem?_set_ne e] at h
    exact .inr ⟨fun z => e z.symm, h⟩
/-- a slot is forgotten -/
theorem OkG.kill {K : PySem.W.Frag} {B H : Hp} {σ : L2.St} {ρ : DEnv} {g : Nat → List Addr} (ok : OkG K B H σ ρ g) (i : Nat) : OkG K B H σ (ρ.set i none) g := by
  have k : ∀ {j y}, (ρ.set i none)[j]? = some (some y) → ρ[j]? = some (some y) := fun h => by
    rcases get_set h with ⟨_, z, _⟩ | ⟨_, h⟩
    · cases z
    · exact h
  exact ⟨by rw [List.length_set]; exact ok.len, ok.bas, fun j d o e => ok.rep j d o (k e), fun j d e => ok.frz j d (k e), fun j d e => ok.own j d (k e), fun j l d e h1 h2 => ok.dis j l d e (k h1) (k h2)⟩
/-- a slot gets an own value, or one of what is kept -/
theorem OkG.put {K : PySem.W.Frag} {B H : Hp} {σ : L2.St} {ρ : DEnv} {g : Nat → List Addr} {i : Nat} {v : V} {d : D} {o : Bool} {fp : List Addr} (ok : OkG K B H σ ρ g) (hi : i < ρ.length) (r : Rep K H v d fp)
    (hf : o = false → ∀ a ∈ fp, B a ≠ none) (ho : o = true → fp.Nodup ∧ ∀ a ∈ fp, B a = none ∧ MutA H a ∧ ∀ j e, j ≠ i → ρ[j]? = some (some (e, true)) → a ∉ g j) :
    OkG K B H (σ.set i (some v)) (ρ.set i (some (d, o))) (fun j => if j = i then fp else g j) := by
  have gi : (if i = i then fp else g i) = fp := if_pos rfl
  have gj : ∀ {j}, j ≠ i → (if j = i then fp else g j) = g j := fun h => if_neg h
  refine ⟨by rw [List.length_set, List.length_set]; exact ok.len, ok.bas, fun j e o' h => ?_, fun j e h => ?_, fun j e h => ?_, fun j l e1 e2 h1 h2 n => ?_⟩
  · show ∃ w, (σ.set i (some v))[j]? = some (some w) ∧ Rep K H w e (if j = i then fp else g j)
    rcases get_set h with ⟨rfl, z, _⟩ | ⟨n, h⟩
    · cases z
      rw [gi]
      exact ⟨v, List.getElem?_set_self (by rw [ok.len]; exact hi), r⟩
    · rw [gj n]
      obtain ⟨w, e1, r1⟩ := ok.rep j e o' h
      exact ⟨w, by rw [List.getElem?_set_ne (Ne.symm n)]; exact e1, r1⟩
  · show ∀ a ∈ (if j = i then fp else g j), _
    rcases get_set h with ⟨rfl, z, _⟩ | ⟨n, h⟩
    · cases z; rw [gi]; exact hf rfl
    · rw [gj n]; exact ok.frz j e h
  · show (if j = i then fp else g j).Nodup ∧ ∀ a ∈ (if j = i then fp else g j), _
    rcases get_set h with ⟨rfl, z, _⟩ | ⟨n, h⟩
    · cases z; rw [gi]; exact ⟨(ho rfl).1, fun a ha => ⟨((ho rfl).2 a ha).1, ((ho rfl).2 a ha).2.1⟩⟩
    · rw [gj n]; exact ok.own j e h
  · show ∀ a ∈ (if j = i then fp else g j), a ∉ (if l = i then fp else g l)
    rcases get_set h1 with ⟨rfl, z, _⟩ | ⟨n1, k1⟩
    · cases z
      rcases get_set h2 with ⟨rfl, z, _⟩ | ⟨n2, k2⟩
      · exact absurd rfl n
      · rw [gi, gj n2]
        exact fun a ha => ((ho rfl).2 a ha).2.2 l e2 n2 k2
    · rcases get_set h2 with ⟨rfl, z, _⟩ | ⟨n2, k2⟩
      · cases z
        rw [gi, gj n1]
        exact fun a ha hb => ((ho rfl).2 a hb).2.2 j e1 n1 k1 ha
      · rw [gj n1, gj n2]
        exact ok.dis j l e1 e2 k1 k2 n
section
variable {X : Cx} {Ex : XK} {a b c e : Expr} {es : List Expr} {fa fb fc : DX} {fs : DXs} {fo : DO1} {fos : DO1s} {pos p : Pos} {x : Str}
theorem po_x (ha : PX X Ex a fa) : POw X Ex a (oX fa) := PE.imp ha fun σ H Q ⟨B, g, ρ, ok, h⟩ => tX_step ok h fun d o v H1 fp _ s r fr h1 => by
  cases o with
  | false => exact h1.elim
  | true => exact h1 v H1 fp s (ok.mono s) (LeE.refl ρ) r (Fresh.own ok (fr rfl))
theorem po_var (i : Nat) {x : Str} (hN : X.N[i]? = some x := by rfl) (hv : Vis X.env.scope x := by first | exact Or.inl rfl | exact Or.inr (Or.inl rfl) | exact Or.inr (Or.inr rfl)) (hd : (x == ("__debug__" : Str)) = false := by decide)
    (hcd : (x == ("__classdict__" : Str)) = false := by decide) : POw X Ex (.Name x pos) (oVar i) :=
  PE.imp (pe_var hN hv hd hcd) fun σ H Q ⟨B, g, ρ, ok, h⟩ => by
    unfold oVar at h
    split at h
    · rename_i d o e
      obtain ⟨v, e1, r⟩ := ok.rep i d o e
      refine ⟨v, e1, ?_⟩
      split at h
      · rename_i im
        refine h v H [] (Same.refl H) ok (LeE.refl ρ) ?_ (Fresh.own ok Fresh.nil)
        have := Rep.imm r im
        rw [this] at r; exact r
      · split at h
        · refine h v H (g i) (Same.refl H) (ok.kill i) (fun j d' z => ?_) r ⟨(ok.own i d e).1, fun a ha => .inr ⟨i, d, e, ha⟩, fun a ha => ((ok.own i d e).2 a ha).2, fun a ha j d' z => ?_, fun a ha => ((ok.own i d e).2 a ha).1⟩
          · rcases get_set z with ⟨_, z, _⟩ | ⟨_, z⟩
            · cases z
            · exact z
          · rcases get_set z with ⟨_, z, _⟩ | ⟨n, z⟩
            · cases z
            · exact ok.dis i j d d' e z (Ne.symm n) a ha
        · exact h.elim
    · exact h.elim
@[simp] def osNil : DO1s := fun ρ => .ok ([], ρ)
@[simp] def osCons (f : DO1) (fs : DO1s) : DO1s := fun ρ => (f ρ).bind fun x => (fs x.2).bind fun xs => .ok (x.1 :: xs.1, xs.2)
theorem pos_nil : POs X Ex [] osNil := PA.imp pa_nil fun σ H Q ⟨B, g, ρ, ok, h⟩ => h [] H [] (Same.refl H) ok (LeE.refl ρ) .nil (Fresh.own ok Fresh.nil)
theorem pos_cons (ha : POw X Ex a fo) (hs : POs X Ex es fos) (hst : starEach (a :: es) X.env = (false, eval a X.env) :: starEach es X.env := by rfl) : POs X Ex (a :: es) (osCons fo fos) :=
  PA.imp (pa_cons ha hs hst) fun σ H Q ⟨B, g, ρ, ok, h⟩ => ⟨B, g, ρ, ok, h.bind.imp (fun _ z => z) fun q1 _ h1 v H1 f1 s1 ok1 le1 r1 ow1 =>
    ⟨B, g, q1.2, ok1, h1.bind.imp (fun _ z => z) fun q2 _ h2 vs H2 f2 s2 ok2 le2 r2 ow2 => h2 (v :: vs) H2 (f1 ++ f2) (s1.trans s2) ok2 (le2.trans le1) (RepA.cons (r1.mono s2) r2)
      ⟨List.nodup_append.mpr ⟨ow1.nd, ow2.nd, fun x hx y hy e => by
          subst e
          rcases ow2.src x hy with z | ⟨i, d, z, m⟩
          · exact (ow1.mu x hx).some z
          · exact ow1.ap x hx i d z m⟩,
        fun a ha => by
          rcases List.mem_append.mp ha with z | z
          · exact ow1.src a z
          · rcases ow2.src a z with y | ⟨i, d, y, m⟩
            · exact .inl (s1.free y)
            · exact .inr ⟨i, d, le1 i d y, m⟩,
        fun a ha => by
          rcases List.mem_append.mp ha with z | z
          · exact (ow1.mu a z).mono s2
          · exact ow2.mu a z,
        fun a ha i d e => by
          rcases List.mem_append.mp ha with z | z
          · exact ow1.ap a z i d (le2 i d e)
          · exact ow2.ap a z i d e,
        fun a ha => by
          rcases List.mem_append.mp ha with z | z
          · exact ow1.nb a z
          · exact ow2.nb a z⟩⟩⟩
@[simp] def oLst (fs : DO1s) : DO1 := fun ρ => (fs ρ).bind fun p => .ite (decide (p.1.length ≤ sizeLine)) (.ok (.lst p.1, p.2))
@[simp] def oTup (fs : DO1s) : DO1 := fun ρ => (fs ρ).bind fun p => .ite (decide (p.1.length ≤ sizeLine)) (.ok (.tup p.1, p.2))
theorem po_lst (hs : POs X Ex es fos) : POw X Ex (.List es pos) (oLst fos) :=
  PE.imp (pe_lst hs) fun σ H Q ⟨B, g, ρ, ok, h⟩ => ⟨B, g, ρ, ok, h.bind.imp (fun _ z => z) fun q1 _ h1 vs H1 f1 s1 ok1 le1 r1 ow1 => by
    obtain ⟨c, h1⟩ := h1.ite
    refine ⟨by rw [r1.length]; exact of_decide_eq_true c, fun q nq => h1 _ _ (q :: f1) (s1.trans (same_upd nq)) (ok1.mono (same_upd nq)) le1 (Rep.mk_lst upd_same (r1.mono (same_upd nq))) ⟨?_, fun a ha => ?_, fun a ha => ?_, fun a ha i d e => ?_, fun a ha => ?_⟩⟩
    · exact List.nodup_cons.mpr ⟨fun z => (ow1.mu q z).some nq, ow1.nd⟩
    · rcases List.mem_cons.mp ha with rfl | z
      · exact .inl (s1.free nq)
      · exact ow1.src a z
    · rcases List.mem_cons.mp ha with rfl | z
      · exact .inl ⟨_, upd_same⟩
      · exact (ow1.mu a z).mono (same_upd nq)
    · rcases List.mem_cons.mp ha with rfl | z
      · exact fun m => ((ok1.own i d e).2 a m).2.some nq
      · exact ow1.ap a z i d e
    · rcases List.mem_cons.mp ha with rfl | z
      · exact ok1.bas.free nq
      · exact ow1.nb a z⟩
theorem po_tup {k} (hs : POs X Ex es fos) : POw X Ex (.Tuple es k pos) (oTup fos) :=
  PE.imp (pe_tup hs) fun σ H Q ⟨B, g, ρ, ok, h⟩ => ⟨B, g, ρ, ok, h.bind.imp (fun _ z => z) fun q1 _ h1 vs H1 f1 s1 ok1 le1 r1 ow1 => by
    obtain ⟨c, h1⟩ := h1.ite
    exact ⟨by rw [r1.length]; exact of_decide_eq_true c, fun q nq => h1 _ _ f1 (s1.trans (same_upd nq)) (ok1.mono (same_upd nq)) le1 (Rep.mk_tup upd_same (r1.mono (same_upd nq))) ⟨ow1.nd, ow1.src, fun a ha => (ow1.mu a ha).mono (same_upd nq), ow1.ap, ow1.nb⟩⟩⟩
end

/-! ### statements -/
inductive Out where
  | nx (ρ : DEnv)
  | rt (d : D)
  | bk (ρ : DEnv)
  | ct (ρ : DEnv)
abbrev DS := DEnv → R Out
def QS (K : PySem.W.Frag) (B : Hp) (N : Ends) : Out → Prop
  | .nx ρ => ∀ B' g σ H, Same B B' → OkG K B' H σ ρ g → N.nx σ H
  | .bk ρ => ∀ B' g σ H, Same B B' → OkG K B' H σ ρ g → N.bk σ H
  | .ct ρ => ∀ B' g σ H, Same B B' → OkG K B' H σ ρ g → N.ct σ H
  | .rt d => ∀ v H fp, Same B H → Rep K H v d fp → fp.Nodup → (∀ a ∈ fp, B a = none ∧ MutA H a) → N.rt v H
theorem QS.mono {K : PySem.W.Frag} {B B1 : Hp} {N : Ends} {o : Out} (s : Same B B1) (h : QS K B N o) : QS K B1 N o := by
  cases o with
  | nx ρ => exact fun B' g σ H s' ok => h B' g σ H (s.trans s') ok
  | bk ρ => exact fun B' g σ H s' ok => h B' g σ H (s.trans s') ok
  | ct ρ => exact fun B' g σ H s' ok => h B' g σ H (s.trans s') ok
  | rt d => exact fun v H fp s' r n m => h v H fp (s.trans s') r n fun a ha => ⟨s.free (m a ha).1, (m a ha).2⟩
def tS (K : PySem.W.Frag) (mg : Str → Option Value) (Ex : XK) (f : DS) : TS := fun N σ H => ∃ B g ρ, OkG K B H σ ρ g ∧ Post (ExB mg Ex B) (QS K B N) (f ρ)
abbrev PSX (X : Cx) (Ex : XK) (st : Stmt) (f : DS) : Prop := PS X st (tS X.K X.mg Ex f)
abbrev PSSX (X : Cx) (Ex : XK) (st : List Stmt) (f : DS) : Prop := PSs X st (tS X.K X.mg Ex f)
theorem PS.imp {X : Cx} {st : Stmt} {t t' : TS} (h : PS X st t) (i : ∀ N σ H, t' N σ H → t N σ H) : PS X st t' := ⟨fun pins s σ H N I q => h.run pins s σ H N I (i N σ H q)⟩
theorem PS.or {X : Cx} {st : Stmt} {t t' : TS} (h : PS X st t) (h' : PS X st t') : PS X st (fun N σ H => t N σ H ∨ t' N σ H) := ⟨fun pins s σ H N I q => q.elim (h.run pins s σ H N I) (h'.run pins s σ H N I)⟩
theorem PSs.imp {X : Cx} {st : List Stmt} {t t' : TS} (h : PSs X st t) (i : ∀ N σ H, t' N σ H → t N σ H) : PSs X st t' := ⟨fun pins s σ H N I q => h.run pins s σ H N I (i N σ H q)⟩
@[simp] def sNil : DS := fun ρ => .ok (.nx ρ)
@[simp] def sSeq (f f' : DS) : DS := fun ρ => (f ρ).bind fun o => match o with
  | .nx ρ' => f' ρ'
  | o => .ok o
section
variable {X : Cx} {Ex : XK} {a b c e : Expr} {es : List Expr} {fa fb fc : DX} {fs : DXs} {fo : DO1} {fos : DO1s} {ft : DT} {pos p : Pos} {x : Str} {st : Stmt} {rest body orelse : List Stmt} {f f' : DS}
theorem sx_nil : PSSX X Ex [] sNil := PSs.imp pss_nil fun N σ H ⟨B, g, ρ, ok, h⟩ => h B g σ H (Same.refl B) ok
theorem sx_one (h : PSX X Ex st f) : PSSX X Ex [st] f := pss_one h
theorem sx_cons (h1 : PSX X Ex st f) (h2 : PSSX X Ex rest f') : PSSX X Ex (st :: rest) (sSeq f f') :=
  PSs.imp (pss_cons h1 h2) fun N σ H ⟨B, g, ρ, ok, h⟩ => ⟨B, g, ρ, ok, h.bind.imp (fun _ z => z) fun o _ h1 => by
    cases o with
    | nx ρ' => exact fun B' g' σ' H' s' ok' => ⟨B', g', ρ', ok', Post.imp h1 (fun c z => z.mono s') fun o _ z => z.mono s'⟩
    | rt d => exact h1
    | bk ρ' => exact h1
    | ct ρ' => exact h1⟩
theorem sx_pass : PSX X Ex (.Pass pos) sNil := PS.imp ps_pass fun N σ H ⟨B, g, ρ, ok, h⟩ => h B g σ H (Same.refl B) ok
@[simp] def sBrk : DS := fun ρ => .ok (.bk ρ)
@[simp] def sCnt : DS := fun ρ => .ok (.ct ρ)
theorem sx_brk : PSX X Ex (.Break pos) sBrk := PS.imp ps_break fun N σ H ⟨B, g, ρ, ok, h⟩ => h B g σ H (Same.refl B) ok
theorem sx_cnt : PSX X Ex (.Continue pos) sCnt := PS.imp ps_continue fun N σ H ⟨B, g, ρ, ok, h⟩ => h B g σ H (Same.refl B) ok
@[simp] def sExpr (f : DX) : DS := fun ρ => (f ρ).bind fun _ => .ok (.nx ρ)
theorem sx_expr (he : PX X Ex e fa) (hs : swapsWith e none pos.line X.env = pure false := by rfl) : PSX X Ex (.Expr e pos) (sExpr fa) :=
  PS.imp (ps_expr he hs) fun N σ H ⟨B, g, ρ, ok, h⟩ => tX_step ok h fun d o v H1 fp _ s r fr h1 => h1 B g σ H1 (Same.refl B) (ok.mono s)
@[simp] def sRet (f : DO1) : DS := fun ρ => (f ρ).bind fun p => .ok (.rt p.1)
theorem sx_ret (he : POw X Ex e fo) : PSX X Ex (.Return (some e) pos) (sRet fo) :=
  PS.imp (ps_ret he) fun N σ H ⟨B, g, ρ, ok, h⟩ => ⟨B, g, ρ, ok, h.bind.imp (fun _ z => z) fun q _ h1 v H1 fp s ok1 _ r ow => h1 v H1 fp ok1.bas r ow.nd fun a ha => ⟨ow.nb a ha, ow.mu a ha⟩⟩
@[simp] def sRetN : DS := fun _ => .ok (.rt .non)
theorem sx_retN : PSX X Ex (.Return none pos) sRetN := PS.imp ps_retN fun N σ H ⟨B, g, ρ, ok, h⟩ => h _ H [] ok.bas Rep.mk_non List.nodup_nil fun a ha => (by cases ha)
@[simp] def sIf (c : DT) (f f' : DS) : DS := fun ρ => (c ρ).bind fun b => match b with
  | true => f ρ
  | false => f' ρ
theorem sx_if (hc : PB X Ex c ft) (ha : PSSX X Ex body f) (hb : PSSX X Ex orelse f') : PSX X Ex (.If c body orelse pos) (sIf ft f f') :=
  PS.imp (ps_if hc ha hb) fun N σ H ⟨B, g, ρ, ok, h⟩ => tT_step ok h fun k H1 _ s h1 => by
    cases k with
    | true => exact ⟨B, g, ρ, ok.mono s, h1⟩
    | false => exact ⟨B, g, ρ, ok.mono s, h1⟩

/-! names -/
/-- x = e -/
@[simp] def sSet (i : Nat) (f : DX) : DS := fun ρ => (f ρ).bind fun x => .ite (decide (i < ρ.length)) (match x.2 with
  | true => .ok (.nx (ρ.set i (some (x.1, true))))
  | false => .ok (.nx ((lookE ρ).set i (some (x.1, false)))))
theorem lookE_length (ρ : DEnv) : (lookE ρ).length = ρ.length := by unfold lookE; rw [List.length_map]
theorem set_imp {i : Nat} : ∀ N σ H, tS X.K X.mg Ex (sSet i fa) N σ H → tAsg (tX X.K X.mg Ex fa) (gName i) N σ H := fun N σ H ⟨B, g, ρ, ok, h⟩ => tX_step ok h fun d o v H1 fp _ s r fr h1 => by
  obtain ⟨c, h1⟩ := h1.ite
  have hi : i < ρ.length := of_decide_eq_true c
  cases o with
  | true =>
    have ow := Fresh.own ok (fr rfl)
    exact h1 B _ _ H1 (Same.refl B) ((ok.mono s).put hi r (fun z => by cases z) fun _ => ⟨ow.nd, fun a ha => ⟨ow.nb a ha, ow.mu a ha, fun j e _ z => ow.ap a ha j e z⟩⟩)
  | false =>
    exact h1 H1 _ _ H1 (ok.mono s).bas ((ok.mono s).look.put (by rw [lookE_length]; exact hi) r (fun _ a ha z => by have := r.there a ha; rw [z] at this; cases this) fun z => by cases z)
theorem sx_set {i : Nat} {pos' : Pos} (hN : X.N.Nodup) (hi : X.N[i]? = some x) (hx : Loc X.env.scope x) (he : PX X Ex e fa) (hs : swapsWith e (some (.Name x pos')) pos.line X.env = pure false := by rfl)
    (hf : X.fn x = true ∨ X.env.scope.names.lookup x = some .local := by first | exact .inl rfl | exact .inr rfl | assumption) : PSX X Ex (.Assign [.Name x pos'] e pos) (sSet i fa) :=
  PS.imp (ps_set hN hi hx he hs hf) set_imp
/-- x = e, what is moved -/
@[simp] def sSetO (i : Nat) (f : DO1) : DS := fun ρ => (f ρ).bind fun p => .ite (decide (i < p.2.length)) (.ok (.nx (p.2.set i (some (p.1, true)))))
theorem sx_setO {i : Nat} {pos' : Pos} (hN : X.N.Nodup) (hi : X.N[i]? = some x) (hx : Loc X.env.scope x) (he : POw X Ex e fo) (hs : swapsWith e (some (.Name x pos')) pos.line X.env = pure false := by rfl)
    (hf : X.fn x = true ∨ X.env.scope.names.lookup x = some .local := by first | exact .inl rfl | exact .inr rfl | assumption) : PSX X Ex (.Assign [.Name x pos'] e pos) (sSetO i fo) :=
  PS.imp (ps_set hN hi hx he hs hf) fun N σ H ⟨B, g, ρ, ok, h⟩ => ⟨B, g, ρ, ok, h.bind.imp (fun _ z => z) fun q _ h1 v H1 fp s ok1 _ r ow => by
    obtain ⟨c, h1⟩ := h1.ite
    exact h1 B _ _ H1 (Same.refl B) (ok1.put (of_decide_eq_true c) r (fun z => by cases z) fun _ => ⟨ow.nd, fun a ha => ⟨ow.nb a ha, ow.mu a ha, fun j e _ z => ow.ap a ha j e z⟩⟩)⟩
/-! several names -/
def gNames : List Nat → TGs
  | [] => gNil
  | i :: r => gCons (gName i) (gNames r)
theorem gn_nil : PGs X [] (gNames []) := pgs_nil
theorem gn_cons {i : Nat} {is : List Nat} {es : List Expr} (h1 : PG X e (gName i)) (h2 : PGs X es (gNames is)) (hs : (assignEach (e :: es) X.env).map (·.2) = assign e X.env :: (assignEach es X.env).map (·.2) := by rfl) : PGs X (e :: es) (gNames (i :: is)) := pgs_cons h1 h2 hs
/-- the items go to the slots -/
@[simp] def putAll (o : D → Bool) : List Nat → List D → DEnv → DEnv
  | i :: is, d :: ds, ρ => putAll o is ds (ρ.set i (some (d, o d)))
  | _, _, ρ => ρ
theorem gNames_ok {K : PySem.W.Frag} {B H : Hp} {o : D → Bool} {Q : L2.St → Hp → Prop} : ∀ {is : List Nat} {ds : List D} {vs : List V} {σ : L2.St} {ρ : DEnv} {g : Nat → List Addr} {fp : List Addr}, OkG K B H σ ρ g → RepA K H vs ds fp → ds.length = is.length → (∀ i ∈ is, i < ρ.length) →
    ((∀ a ∈ fp, B a ≠ none) ∧ (∀ d, o d = imm d) ∨ (∀ d, o d = true) ∧ fp.Nodup ∧ ∀ a ∈ fp, B a = none ∧ MutA H a ∧ ∀ j e, ρ[j]? = some (some (e, true)) → a ∉ g j) →
    (∀ σ' g', OkG K B H σ' (putAll o is ds ρ) g' → Q σ' H) → gNames is vs σ H Q
  | [], [], vs, σ, ρ, g, fp, ok, r, _, _, _, q => ⟨r.nil_d.1, q σ g ok⟩
  | i :: is, d :: ds, vs, σ, ρ, g, fp, ok, r, hl, hi, ow, q => by
    obtain ⟨v, ws, f1, f2, rfl, rfl, r1, r2⟩ := r.cons_d
    refine ⟨v, ws, rfl, ?_⟩
    have ih : i < ρ.length := hi i (by simp)
    refine gNames_ok (o := o) (ρ := ρ.set i (some (d, o d))) (g := fun j => if j = i then f1 else g j) ?_ r2 (by simpa using hl) (fun j hj => by rw [List.length_set]; exact hi j (by simp [hj])) ?_ q
    · refine ok.put ih r1 (fun e => ?_) fun e => ?_
      · rcases ow with ⟨k, _⟩ | ⟨t, _⟩
        · exact fun a ha => k a (by simp [ha])
        · rw [t d] at e; cases e
      · rcases ow with ⟨k, m⟩ | ⟨t, n, k⟩
        · rw [m d] at e
          rw [Rep.imm r1 e]
          exact ⟨List.nodup_nil, fun a ha => (by cases ha)⟩
        · exact ⟨(List.nodup_append.mp n).1, fun a ha => ⟨(k a (by simp [ha])).1, (k a (by simp [ha])).2.1, fun j e' _ z => (k a (by simp [ha])).2.2 j e' z⟩⟩
    · rcases ow with ⟨k, m⟩ | ⟨t, n, k⟩
      · exact .inl ⟨fun a ha => k a (by simp [ha]), m⟩
      · refine .inr ⟨t, (List.nodup_append.mp n).2.1, fun a ha => ⟨(k a (by simp [ha])).1, (k a (by simp [ha])).2.1, fun j e z => ?_⟩⟩
        show a ∉ (if j = i then f1 else g j)
        rcases get_set z with ⟨rfl, _, _⟩ | ⟨nj, z⟩
        · rw [if_pos rfl]
          exact fun m => (List.nodup_append.mp n).2.2 a m a ha rfl
        · rw [if_neg nj]
          exact (k a (by simp [ha])).2.2 j e z
  | [], _ :: _, _, _, _, _, _, _, _, hl, _, _, _ => by simp at hl
  | _ :: _, [], _, _, _, _, _, _, _, hl, _, _, _ => by simp at hl
theorem putAll_length (o : D → Bool) : ∀ (is : List Nat) (ds : List D) (ρ : DEnv), (putAll o is ds ρ).length = ρ.length
  | [], _, _ => by simp [putAll]
  | _ :: _, [], _ => by simp [putAll]
  | i :: is, d :: ds, ρ => by rw [putAll, putAll_length o is ds, List.length_set]
/-- a, b = e -/
@[simp] def sUnp (is : List Nat) (f : DX) : DS := fun ρ => (f ρ).bind fun x => match x.1 with
  | .tup ds => .ite (decide (ds.length = is.length) && is.all fun i => decide (i < ρ.length)) (match x.2 with
    | true => .ok (.nx (putAll (fun _ => true) is ds ρ))
    | false => .ok (.nx (putAll imm is ds (lookE ρ))))
  | _ => .no
theorem sx_unp {is : List Nat} {es : List Expr} {k : Nat} {pt : Pos} (hc : X.calm = true) (he : PX X Ex e fa) (hg : PGs X es (gNames is)) (hn : (assignEach es X.env).length = is.length := by rfl) (hst : (assignEach es X.env).findIdx? (·.1) = none := by rfl)
    (hs : swapsWithSole [.Tuple es k pt] e pos.line X.env = pure false := by rfl) (hw : swappedStores [.Tuple es k pt] e X.env = pure none := by rfl) (h1 : (assignEach [.Tuple es k pt] X.env).map (·.2) = [assign (.Tuple es k pt) X.env] := by rfl) :
    PSX X Ex (.Assign [.Tuple es k pt] e pos) (sUnp is fa) :=
  PS.imp (ps_asg he (pg_tup hc hg hn hst) hs hw h1) fun N σ H ⟨B, g, ρ, ok, h⟩ => tX_step ok h fun d o v H1 fp _ s r fr h1 => by
    cases d with
    | tup ds =>
      obtain ⟨c, h1⟩ := Post.ite h1
      simp only [Bool.and_eq_true, decide_eq_true_eq, List.all_eq_true] at c
      obtain ⟨q, xs, rfl, hp, ra⟩ := r.tup_inv
      refine ⟨q, xs, rfl, SqT.of hp, by rw [ra.length]; exact c.1, ?_⟩
      cases o with
      | true =>
        have ow := Fresh.own ok (fr rfl)
        exact gNames_ok (o := fun _ => true) (ok.mono s) ra c.1 c.2 (.inr ⟨fun _ => rfl, ow.nd, fun a ha => ⟨ow.nb a ha, ow.mu a ha, fun j e z => ow.ap a ha j e z⟩⟩) fun σ' g' ok' => h1 B g' σ' H1 (Same.refl B) ok'
      | false =>
        exact gNames_ok (o := imm) (ok.mono s).look ra c.1 (fun i hi => by rw [lookE_length]; exact c.2 i hi) (.inl ⟨fun a ha z => (by have := ra.there a ha; rw [z] at this; cases this), fun _ => rfl⟩) fun σ' g' ok' => h1 H1 g' σ' H1 (ok.mono s).bas ok'
    | _ => exact h1.elim
end
end EQ
/-! EqF: what is walked, for, while, comprehensions. -/
namespace EQ
open PySem PySem.Spec PyProof.Rows L2

/-! ### all that is nobody's own is kept -/
open Classical in
noncomputable def adv (H : Hp) (ρ : DEnv) (g : Nat → List Addr) : Hp := fun a => if ∃ i d, ρ[i]? = some (some (d, true)) ∧ a ∈ g i then none else H a
theorem adv_in {H : Hp} {ρ : DEnv} {g : Nat → List Addr} {a : Addr} (h : ∃ i d, ρ[i]? = some (some (d, true)) ∧ a ∈ g i) : adv H ρ g a = none := by unfold adv; rw [if_pos h]
theorem adv_out {H : Hp} {ρ : DEnv} {g : Nat → List Addr} {a : Addr} (h : ¬ ∃ i d, ρ[i]? = some (some (d, true)) ∧ a ∈ g i) : adv H ρ g a = H a := by unfold adv; rw [if_neg h]
theorem adv_same {H : Hp} {ρ : DEnv} {g : Nat → List Addr} : Same (adv H ρ g) H := fun a o e => by
  by_cases h : ∃ i d, ρ[i]? = some (some (d, true)) ∧ a ∈ g i
  · rw [adv_in h] at e; cases e
  · rw [adv_out h] at e; exact e
theorem OkG.adv {K : PySem.W.Frag} {B H : Hp} {σ : L2.St} {ρ : DEnv} {g : Nat → List Addr} (ok : OkG K B H σ ρ g) : OkG K (adv H ρ g) H σ ρ g ∧ Same B (EQ.adv H ρ g) := by
  refine ⟨⟨ok.len, adv_same, ok.rep, fun i d e a ha z => ?_, fun i d e => ⟨(ok.own i d e).1, fun a ha => ⟨adv_in ⟨i, d, e, ha⟩, ((ok.own i d e).2 a ha).2⟩⟩, ok.dis⟩, fun a o e => ?_⟩
  · by_cases h : ∃ i d, ρ[i]? = some (some (d, true)) ∧ a ∈ g i
    · obtain ⟨j, d', e', m⟩ := h
      exact ok.frz i d e a ha ((ok.own j d' e').2 a m).1
    · rw [adv_out h] at z
      exact ok.frz i d e a ha (ok.bas.free z)
  · rw [adv_out]
    · exact ok.bas a o e
    · rintro ⟨i, d, e', m⟩
      rw [((ok.own i d e').2 a m).1] at e; cases e
theorem RepA.adv {K : PySem.W.Frag} {B H : Hp} {σ : L2.St} {ρ : DEnv} {g : Nat → List Addr} {vs : List V} {ds : List D} {fp : List Addr} (ok : OkG K B H σ ρ g) (r : RepA K H vs ds fp) (ap : ∀ a ∈ fp, ∀ i d, ρ[i]? = some (some (d, true)) → a ∉ g i) : RepA K (EQ.adv H ρ g) vs ds fp :=
  r.kept fun b u e n => by
    rw [adv_out]
    · exact e
    · rintro ⟨i, d, e', m⟩
      rcases n with n | ⟨n1, n2⟩
      · exact ap b n i d e' m
      · rcases ((ok.own i d e').2 b m).2 with ⟨x, z⟩ | ⟨x, z⟩
        · rw [z] at e; cases e; exact n1 ⟨_, rfl⟩
        · rw [z] at e; cases e; exact n2 ⟨_, rfl⟩

/-! ### what is walked -/
structure ItOk (K : PySem.W.Frag) (B : Hp) (J : It) (ds : List D) : Prop where
  go : ∀ i H, Same B H → i < ds.length → J.go i H
  stop : ∀ i H, Same B H → ds.length ≤ i → J.stop i H
  yld : ∀ i H x H', Same B H → i < ds.length → J.yld i H x H' → ∃ d fp, ds[i]? = some d ∧ Same H H' ∧ Rep K H' x d fp ∧ ∀ a ∈ fp, B a ≠ none
theorem ItOk.mono {K : PySem.W.Frag} {B B' : Hp} {J : It} {ds : List D} (h : ItOk K B J ds) (s : Same B B') : ItOk K B' J ds :=
  ⟨fun i H s' l => h.go i H (s.trans s') l, fun i H s' l => h.stop i H (s.trans s') l, fun i H x H' s' l y => by
    obtain ⟨d, fp, e, s1, r, n⟩ := h.yld i H x H' (s.trans s') l y
    exact ⟨d, fp, e, s1, r, fun a ha z => n a ha (s.free z)⟩⟩
abbrev DIt := DEnv → R (List D × DEnv)
def QI (K : PySem.W.Frag) (B H : Hp) (σ : L2.St) (Rr : It → Hp → Prop) (p : List D × DEnv) : Prop := ∀ J B' g' H1, Same H H1 → Same B B' → OkG K B' H1 σ p.2 g' → ItOk K B' J p.1 → Rr J H1
def tI (K : PySem.W.Frag) (mg : Str → Option Value) (Ex : XK) (f : DIt) : TI := fun σ H Rr => ∃ B g ρ, OkG K B H σ ρ g ∧ Post (ExB mg Ex B) (QI K B H σ Rr) (f ρ)
abbrev PIX (X : Cx) (Ex : XK) (tg e : Expr) (f : DIt) : Prop := PI X tg e (tI X.K X.mg Ex f)
theorem PI.imp {X : Cx} {tg e : Expr} {t t' : TI} (h : PI X tg e t) (i : ∀ σ H Q, t' σ H Q → t σ H Q) : PI X tg e t' := ⟨fun pins s σ H Q I q => h.run pins s σ H Q I (i σ H Q q)⟩
theorem PI.or {X : Cx} {tg e : Expr} {t t' : TI} (h : PI X tg e t) (h' : PI X tg e t') : PI X tg e (fun σ H Q => t σ H Q ∨ t' σ H Q) := ⟨fun pins s σ H Q I q => q.elim (h.run pins s σ H Q I) (h'.run pins s σ H Q I)⟩
/-- a list, a tuple, the script -/
theorem it_list {K : PySem.W.Frag} {B : Hp} {a : Addr} {xs : List V} {ds : List D} {fp : List Addr} (h : SqL K B a xs) (r : RepA K B xs ds fp) : ItOk K B (Itl K a) ds where
  go := fun i H s l => by
    have l' : i < xs.length := by rw [r.length]; exact l
    exact ⟨xs, xs[i], s.seq h, List.getElem?_eq_getElem l'⟩
  stop := fun i H s l => ⟨xs, s.seq h, by rw [r.length]; exact l⟩
  yld := fun i H x H' s l y => by
    obtain ⟨rfl, e⟩ := y
    have e1 := e xs (s.seq h)
    cases q : ds[i]? with
    | none =>
      rw [List.getElem?_eq_none_iff, ← r.length] at q
      rw [List.getElem?_eq_none q] at e1; cases e1
    | some d =>
      obtain ⟨v, f1, e2, r1, m⟩ := r.get q
      rw [e1] at e2; cases e2
      exact ⟨d, f1, rfl, Same.refl _, r1.mono s, fun a ha z => by have := r.there a (m a ha); rw [z] at this; cases this⟩
theorem it_tup {K : PySem.W.Frag} {B : Hp} {a : Addr} {xs : List V} {ds : List D} {fp : List Addr} (h : B a = some (.tup xs)) (r : RepA K B xs ds fp) : ItOk K B (Itt K a) ds where
  go := fun i H s l => by
    have l' : i < xs.length := by rw [r.length]; exact l
    exact ⟨xs, xs[i], SqT.of (s _ _ h), List.getElem?_eq_getElem l'⟩
  stop := fun i H s l => ⟨xs, SqT.of (s _ _ h), by rw [r.length]; exact l⟩
  yld := fun i H x H' s l y => by
    obtain ⟨rfl, e⟩ := y
    have e1 := e xs (SqT.of (s _ _ h))
    cases q : ds[i]? with
    | none =>
      rw [List.getElem?_eq_none_iff, ← r.length] at q
      rw [List.getElem?_eq_none q] at e1; cases e1
    | some d =>
      obtain ⟨v, f1, e2, r1, m⟩ := r.get q
      rw [e1] at e2; cases e2
      exact ⟨d, f1, rfl, Same.refl _, r1.mono s, fun a ha z => by have := r.there a (m a ha); rw [z] at this; cases this⟩
/-- the items of a datum -/
@[simp] def itemsOf : D → R (List D)
  | .lst ds => .ok ds
  | .tup ds => .ok ds
  | .scr ns => .ok (ns.map .int)
  | .str z => .ok (z.cps.toList.map fun c => .str ⟨#[c]⟩)
  | _ => .no
theorem it_str {K : PySem.W.Frag} {B : Hp} {z : Str} : ItOk K B (Its z) (z.cps.toList.map fun c => D.str ⟨#[c]⟩) where
  go := fun i H s l => by
    show i < z.cps.size
    simpa using l
  stop := fun i H s l => by
    show z.cps.size ≤ i
    simpa using l
  yld := fun i H x H' s l y => by
    obtain ⟨rfl, c, e, rfl⟩ := y
    refine ⟨.str ⟨#[c]⟩, [], ?_, Same.refl _, Rep.mk_str, fun a ha => by cases ha⟩
    rw [List.getElem?_map, Array.getElem?_toList, e]; rfl
def iL (K : PySem.W.Frag) (te : TE) : TI := fun σ H Rr => iList K te σ H Rr ∨ iTup K te σ H Rr ∨ iStr te σ H Rr
section
variable {X : Cx} {Ex : XK} {a b c e tg : Expr} {es : List Expr} {fa fb fc : DX} {fs : DXs} {pos p : Pos} {x : Str}
/-- a datum that is looked at: own ones of a new list stay, else nothing is own any more -/
@[simp] def ownOr (b : Bool) (ρ : DEnv) : DEnv := match b with
  | true => ρ
  | false => lookE ρ
@[simp] def iX (f : DX) : DIt := fun ρ => (f ρ).bind fun x => (itemsOf x.1).bind fun ds => .ok (ds, ownOr x.2 ρ)
theorem itemsOf_ex {d : D} {c : Str} : itemsOf d ≠ .ex c := fun q => by unfold itemsOf at q; split at q <;> cases q
theorem it_go {B H : Hp} {σ : L2.St} {ρ : DEnv} {g : Nat → List Addr} {Rr : It → Hp → Prop} {Φ : VK} (ok : OkG X.K B H σ ρ g) (h : Post (ExB X.mg Ex B) (QI X.K B H σ Rr) (iX fa ρ))
    (hΦ : ∀ d o v H1 fp ds B1, fa ρ = .ok (d, o) → Rep X.K B1 v d fp → Same B1 H1 → itemsOf d = .ok ds → (∀ J, ItOk X.K B1 J ds → Rr J H1) → Φ v H1) : tX X.K X.mg Ex fa σ H Φ :=
  tX_step ok h fun d o v H1 fp ea s r fr h1 => by
    cases q : itemsOf d with
    | ok ds =>
      have h2 : Post (ExB X.mg Ex B) (QI X.K B H σ Rr) ((itemsOf d).bind fun ds => .ok (ds, ownOr o ρ)) := h1
      rw [q] at h2
      cases o with
      | true =>
        have ok1 := ok.mono s
        have ow := Fresh.own ok (fr rfl)
        exact hΦ d true v H1 fp ds _ ea (RepA.adv ok1 r fun a ha i d' z => ow.ap a ha i d' z) adv_same q fun J hJ => h2 J _ g H1 s ok1.adv.2 ok1.adv.1 hJ
      | false => exact hΦ d false v H1 fp ds _ ea r (Same.refl _) q fun J hJ => h2 J H1 g H1 s (ok.mono s).bas (ok.mono s).look hJ
    | ex c => exact absurd q itemsOf_ex
    | no =>
      have h2 : Post (ExB X.mg Ex B) (QI X.K B H σ Rr) ((itemsOf d).bind fun ds => .ok (ds, ownOr o ρ)) := h1
      rw [q] at h2
      exact h2.elim
theorem px_it (h : PX X Ex e fa) : PIX X Ex tg e (iX fa) :=
  PI.imp (PI.or (pi_list h) (PI.or (pi_tup h) (pi_str h))) fun σ H Rr ⟨B, g, ρ, ok, h⟩ => by
    cases ef : fa ρ with
    | ok p =>
      obtain ⟨d0, o0⟩ := p
      cases d0 with
      | lst xs => exact .inl (it_go ok h fun d o v H1 fp ds B1 ea r s q k => by
          rw [ef] at ea; cases ea; cases q
          obtain ⟨a, ys, f1, rfl, rfl, ha, ra⟩ := r.lst_inv
          exact ⟨a, rfl, ⟨ys, s.seq (SqL.of ha)⟩, k _ (it_list (SqL.of ha) ra)⟩)
      | tup xs => exact .inr (.inl (it_go ok h fun d o v H1 fp ds B1 ea r s q k => by
          rw [ef] at ea; cases ea; cases q
          obtain ⟨a, ys, rfl, ha, ra⟩ := r.tup_inv
          exact ⟨a, rfl, ⟨ys, SqT.of (s _ _ ha)⟩, k _ (it_tup ha ra)⟩))
      | scr ns => exact .inl (it_go ok h fun d o v H1 fp ds B1 ea r s q k => by
          rw [ef] at ea; cases ea; cases q
          obtain ⟨a, rfl, ha, rfl⟩ := r.scr_inv
          exact ⟨a, rfl, ⟨_, s.seq ha.seq⟩, k _ (it_list ha.seq (RepA.ints ns))⟩)
      | str z => exact .inr (.inr (it_go ok h fun d o v H1 fp ds B1 ea r s q k => by
          rw [ef] at ea; cases ea; cases q
          obtain ⟨rfl, rfl⟩ := r.str_inv
          exact ⟨z, rfl, k _ it_str⟩))
      | _ => exact (show False by unfold iX at h; rw [ef] at h; exact h).elim
    | ex c => exact .inl (it_go ok h fun d o v H1 fp ds B1 ea => by rw [ef] at ea; cases ea)
    | no => exact .inl (it_go ok h fun d o v H1 fp ds B1 ea => by rw [ef] at ea; cases ea)
/-- a name: that slot alone is no longer own -/
@[simp] def iVar (i : Nat) : DIt := fun ρ => match ρ[i]? with
  | some (some (.lst ds, _)) => .ok (ds, ρ.set i (some (.lst ds, false)))
  | some (some (.tup ds, o)) => match immA ds with
    | true => .ok (ds, ρ)
    | false => .ok (ds, ρ.set i (some (.tup ds, false)))
  | some (some (.scr ns, o)) => .ok (ns.map .int, ρ)
  | some (some (.str z, o)) => .ok (z.cps.toList.map fun c => .str ⟨#[c]⟩, ρ)
  | _ => .no
theorem OkG.freeze {K : PySem.W.Frag} {B H : Hp} {σ : L2.St} {ρ : DEnv} {g : Nat → List Addr} {i : Nat} {d : D} {o : Bool} (ok : OkG K B H σ ρ g) (e : ρ[i]? = some (some (d, o))) :
    ∃ B', Same B B' ∧ OkG K B' H σ (ρ.set i (some (d, false))) g ∧ ∃ v, σ[i]? = some (some v) ∧ Rep K B' v d (g i) ∧ Same B' H := by
  have hi : i < ρ.length := (List.getElem?_eq_some_iff.mp e).1
  have k : ∀ {j y b}, (ρ.set i (some (d, false)))[j]? = some (some (y, b)) → (j = i ∧ y = d ∧ b = false) ∨ (j ≠ i ∧ ρ[j]? = some (some (y, b))) := fun h => by
    rcases get_set h with ⟨rfl, z, _⟩ | ⟨n, h⟩
    · cases z; exact .inl ⟨rfl, rfl, rfl⟩
    · exact .inr ⟨n, h⟩
  have fr : ∀ a, B a ≠ none → ¬ ∃ j d', (ρ.set i (some (d, false)))[j]? = some (some (d', true)) ∧ a ∈ g j := fun a n ⟨j, d', z, m⟩ => by
    rcases k z with ⟨_, _, z⟩ | ⟨_, z⟩
    · cases z
    · exact n ((ok.own j d' z).2 a m).1
  have gi : ∀ a ∈ g i, ¬ ∃ j d', (ρ.set i (some (d, false)))[j]? = some (some (d', true)) ∧ a ∈ g j := fun a ha ⟨j, d', z, m⟩ => by
    rcases k z with ⟨_, _, z⟩ | ⟨n, z⟩
    · cases z
    · cases o with
      | false => exact ok.frz i d e a ha ((ok.own j d' z).2 a m).1
      | true => exact ok.dis i j d d' e z (Ne.symm n) a ha m
  have ok1 : OkG K (EQ.adv H (ρ.set i (some (d, false))) g) H σ (ρ.set i (some (d, false))) g := by
    refine ⟨by rw [List.length_set]; exact ok.len, adv_same, fun j y b z => ?_, fun j y z a ha q => ?_, fun j y z => ?_, fun j l y y' z z' n => ?_⟩
    · rcases k z with ⟨rfl, rfl, rfl⟩ | ⟨_, z⟩
      · exact ok.rep _ _ _ e
      · exact ok.rep _ _ _ z
    · rcases k z with ⟨rfl, rfl, _⟩ | ⟨_, z⟩
      · rw [adv_out (gi a ha)] at q
        obtain ⟨v, _, r⟩ := ok.rep _ _ _ e
        have := r.there a ha
        rw [q] at this; cases this
      · have nb := ok.frz j y z a ha
        rw [adv_out (fr a nb)] at q
        exact nb (ok.bas.free q)
    · rcases k z with ⟨_, _, z⟩ | ⟨n, z'⟩
      · cases z
      · exact ⟨(ok.own j y z').1, fun a ha => ⟨adv_in ⟨j, y, z, ha⟩, ((ok.own j y z').2 a ha).2⟩⟩
    · rcases k z with ⟨_, _, z⟩ | ⟨_, z⟩
      · cases z
      · rcases k z' with ⟨_, _, z'⟩ | ⟨_, z'⟩
        · cases z'
        · exact ok.dis j l y y' z z' n
  obtain ⟨v, e1, r⟩ := ok.rep _ _ _ e
  exact ⟨_, fun a x q => by rw [adv_out (fr a (by rw [q]; simp))]; exact ok.bas a x q, ok1, v, e1, r.adv ok1 (fun a ha j d' z m => gi a ha ⟨j, d', z, m⟩), adv_same⟩
theorem px_itv (i : Nat) {x : Str} (hN : X.N[i]? = some x := by rfl) (hv : Vis X.env.scope x := by first | exact Or.inl rfl | exact Or.inr (Or.inl rfl) | exact Or.inr (Or.inr rfl)) (hd : (x == ("__debug__" : Str)) = false := by decide)
    (hcd : (x == ("__classdict__" : Str)) = false := by decide) : PIX X Ex tg (.Name x pos) (iVar i) :=
  PI.imp (PI.or (pi_list (pe_var hN hv hd hcd)) (PI.or (pi_tup (pe_var hN hv hd hcd)) (pi_str (pe_var hN hv hd hcd)))) fun σ H Rr ⟨B, g, ρ, ok, h⟩ => by
    unfold iVar at h
    split at h
    · rename_i ds o e
      obtain ⟨B', s1, ok1, v, e1, r, s2⟩ := ok.freeze e
      obtain ⟨a, ys, f1, rfl, ef, ha, ra⟩ := r.lst_inv
      exact .inl ⟨_, e1, a, rfl, ⟨ys, s2.seq (SqL.of ha)⟩, h _ B' g H (Same.refl _) s1 ok1 (it_list (SqL.of ha) ra)⟩
    · rename_i ds o e
      cases c : immA ds with
      | true =>
        rw [c] at h
        obtain ⟨v, e1, r⟩ := ok.rep _ _ _ e
        have gi := Rep.imm r (by simpa using c)
        rw [gi] at r
        have r2 := RepA.adv ok r (fun a ha => by cases ha)
        obtain ⟨a, ys, rfl, ha, ra⟩ := r2.tup_inv
        exact .inr (.inl ⟨_, e1, a, rfl, ⟨ys, SqT.of (adv_same _ _ ha)⟩, h _ _ g H (Same.refl _) ok.adv.2 ok.adv.1 (it_tup ha ra)⟩)
      | false =>
        rw [c] at h
        obtain ⟨B', s1, ok1, v, e1, r, s2⟩ := ok.freeze e
        obtain ⟨a, ys, rfl, ha, ra⟩ := r.tup_inv
        exact .inr (.inl ⟨_, e1, a, rfl, ⟨ys, SqT.of (s2 _ _ ha)⟩, h _ B' g H (Same.refl _) s1 ok1 (it_tup ha ra)⟩)
    · rename_i ns o e
      obtain ⟨v, e1, r⟩ := ok.rep _ _ _ e
      obtain ⟨a, rfl, ha, gi⟩ := r.scr_inv
      rw [gi] at r
      have r2 := RepA.adv ok r (fun a ha => by cases ha)
      obtain ⟨a', e', ha', _⟩ := r2.scr_inv
      cases e'
      exact .inl ⟨_, e1, a, rfl, ⟨_, ha.seq⟩, h _ _ g H (Same.refl _) ok.adv.2 ok.adv.1 (it_list ha'.seq (RepA.ints ns))⟩
    · rename_i z o e
      obtain ⟨v, e1, r⟩ := ok.rep _ _ _ e
      obtain ⟨rfl, _⟩ := r.str_inv
      exact .inr (.inr ⟨_, e1, z, rfl, h _ B g H (Same.refl _) (Same.refl _) ok it_str⟩)
    · exact h.elim
/-! ranges -/
@[simp] def inR (i : Int) : Bool := decide (-(2 ^ 62) ≤ i) && decide (i < 2 ^ 62)
def rangeD (lo hi : Int) : List D := (List.range (hi - lo).toNat).map fun i => .int (lo + (i : Nat))
theorem it_range {K : PySem.W.Frag} {B : Hp} {lo hi : Int} : ItOk K B (Itr lo (hi - lo).toNat) (rangeD lo hi) where
  go := fun i H s l => by
    show i < (hi - lo).toNat
    simpa [rangeD] using l
  stop := fun i H s l => by
    show (hi - lo).toNat ≤ i
    simpa [rangeD] using l
  yld := fun i H x H' s l y => by
    obtain ⟨rfl, rfl⟩ := y
    have l' : i < (hi - lo).toNat := by simpa [rangeD] using l
    refine ⟨.int (lo + (i : Nat)), [], ?_, Same.refl _, Rep.mk_int, fun a ha => by cases ha⟩
    unfold rangeD
    rw [List.getElem?_map, List.getElem?_range l']; rfl
@[simp] def iRange1 (fa : DX) : DIt := fun ρ => (fa ρ).bind fun x => match x.1 with
  | .int j => .ite (inR j) (.ok (rangeD 0 j, ρ))
  | _ => .no
@[simp] def iRange2 (fa fb : DX) : DIt := fun ρ => (fa ρ).bind fun x => (fb ρ).bind fun y => match x.1, y.1 with
  | .int i, .int j => .ite (inR i && inR j) (.ok (rangeD i j, ρ))
  | _, _ => .no
theorem px_itr1 (hg : Gl X "range") (hm : X.mg "range" = none) (ha : PX X Ex a fa) (hs : starEach [a] X.env = [(false, eval a X.env)] := by rfl) : PIX X Ex tg (.Call (.Name "range" p) [a] [] pos) (iRange1 fa) :=
  PI.imp (pi_range1 hg hm (pa_cons ha pa_nil hs) hs) fun σ H Rr ⟨B, g, ρ, ok, h⟩ => tX_step ok h fun d o v H1 fp e s r _ h1 => by
    cases d with
    | int j =>
      obtain ⟨c, h1⟩ := h1.ite
      obtain ⟨rfl, _⟩ := r.int_inv
      simp only [inR, Bool.and_eq_true, decide_eq_true_eq] at c
      refine ⟨j, rfl, c.1, c.2, ?_⟩
      have := h1 _ B g H1 s (Same.refl _) (ok.mono s) it_range
      rwa [Int.sub_zero] at this
    | _ => exact h1.elim
theorem px_itr2 (hg : Gl X "range") (hm : X.mg "range" = none) (ha : PX X Ex a fa) (hb : PX X Ex b fb) (hs : starEach [a, b] X.env = [(false, eval a X.env), (false, eval b X.env)] := by rfl) (hs2 : starEach [b] X.env = [(false, eval b X.env)] := by rfl) :
    PIX X Ex tg (.Call (.Name "range" p) [a, b] [] pos) (iRange2 fa fb) :=
  PI.imp (pi_range2 hg hm (pa_cons ha (pa_cons hb pa_nil hs2) (by rw [hs, hs2])) hs hs2) fun σ H Rr ⟨B, g, ρ, ok, h⟩ => tX_step ok h fun d o v H1 fp e s r _ h1 => tX_step (ok.mono s) h1 fun d2 o2 v2 H2 fp2 e2 s2 r2 _ h2 => by
    cases d with
    | int i =>
      cases d2 with
      | int j =>
        obtain ⟨c, h2⟩ := Post.ite h2
        obtain ⟨rfl, _⟩ := r.int_inv
        obtain ⟨rfl, _⟩ := r2.int_inv
        simp only [inR, Bool.and_eq_true, decide_eq_true_eq] at c
        exact ⟨i, j, rfl, ⟨c.1.1, c.1.2, c.2.1, c.2.2⟩, h2 _ B g H2 (s.trans s2) (Same.refl _) ((ok.mono s).mono s2) it_range⟩
      | _ => exact h2.elim
    | _ => exact (show False from h2).elim
/-! two lists at once, a list with its places -/
@[simp] def iZip (fa fb : DX) : DIt := fun ρ => (fa ρ).bind fun x => (fb ρ).bind fun y => match x.1, y.1 with
  | .lst xs, .lst ys => .ok (List.zipWith (fun a b => .tup [a, b]) xs ys, ownOr (x.2 && y.2) ρ)
  | _, _ => .no
@[simp] def iEnum (fa : DX) : DIt := fun ρ => (fa ρ).bind fun x => match x.1 with
  | .lst xs => .ok (xs.mapIdx fun i a => .tup [.int (i : Nat), a], ownOr x.2 ρ)
  | _ => .no
theorem it_zip {K : PySem.W.Frag} {B : Hp} {a b : Addr} {xs ys : List V} {ds es : List D} {f1 f2 : List Addr} (ha : SqL K B a xs) (hb : SqL K B b ys) (r1 : RepA K B xs ds f1) (r2 : RepA K B ys es f2) : ItOk K B (Itz K a b) (List.zipWith (fun a b => D.tup [a, b]) ds es) where
  go := fun i H s l => by
    rw [List.length_zipWith] at l
    have l1 : i < xs.length := by rw [r1.length]; omega
    have l2 : i < ys.length := by rw [r2.length]; omega
    exact ⟨xs, ys, xs[i], ys[i], s.seq ha, s.seq hb, List.getElem?_eq_getElem l1, List.getElem?_eq_getElem l2⟩
  stop := fun i H s l => by
    rw [List.length_zipWith] at l
    exact ⟨xs, ys, s.seq ha, s.seq hb, by rw [r1.length, r2.length]; omega⟩
  yld := fun i H x H' s l y => by
    obtain ⟨T, u, w, rfl, nT, rfl, e1, e2⟩ := y
    rw [List.length_zipWith] at l
    have l1 : i < ds.length := by omega
    have l2 : i < es.length := by omega
    obtain ⟨v1, g1, a1, b1, m1⟩ := r1.get (List.getElem?_eq_getElem l1)
    obtain ⟨v2, g2, a2, b2, m2⟩ := r2.get (List.getElem?_eq_getElem l2)
    have q1 := e1 xs (s.seq ha)
    have q2 := e2 ys (s.seq hb)
    rw [a1] at q1; cases q1
    rw [a2] at q2; cases q2
    refine ⟨.tup [ds[i], es[i]], g1 ++ g2, ?_, same_upd nT, Rep.mk_tup upd_same (RepA.cons ((b1.mono s).mono (same_upd nT)) ?_), fun c hc z => ?_⟩
    · rw [List.getElem?_zipWith, List.getElem?_eq_getElem l1, List.getElem?_eq_getElem l2]
    · exact (b2.mono s).mono (same_upd nT)
    · rcases List.mem_append.mp hc with q | q
      · have := r1.there c (m1 c q); rw [z] at this; cases this
      · have := r2.there c (m2 c q); rw [z] at this; cases this
theorem it_enum {K : PySem.W.Frag} {B : Hp} {a : Addr} {xs : List V} {ds : List D} {f1 : List Addr} (ha : SqL K B a xs) (r1 : RepA K B xs ds f1) : ItOk K B (Ite K a) (ds.mapIdx fun i a => D.tup [.int (i : Nat), a]) where
  go := fun i H s l => by
    rw [List.length_mapIdx] at l
    have l1 : i < xs.length := by rw [r1.length]; omega
    exact ⟨xs, xs[i], s.seq ha, List.getElem?_eq_getElem l1⟩
  stop := fun i H s l => by
    rw [List.length_mapIdx] at l
    exact ⟨xs, s.seq ha, by rw [r1.length]; omega⟩
  yld := fun i H x H' s l y => by
    obtain ⟨T, u, rfl, nT, rfl, e1⟩ := y
    rw [List.length_mapIdx] at l
    obtain ⟨v1, g1, a1, b1, m1⟩ := r1.get (List.getElem?_eq_getElem l)
    have q1 := e1 xs (s.seq ha)
    rw [a1] at q1; cases q1
    refine ⟨.tup [.int (i : Nat), ds[i]], g1, ?_, same_upd nT, Rep.mk_tup upd_same (.int ((b1.mono s).mono (same_upd nT))), fun c hc z => ?_⟩
    · rw [List.getElem?_mapIdx, List.getElem?_eq_getElem l]; rfl
    · have := r1.there c (m1 c hc); rw [z] at this; cases this
variable {elts : List Expr} {kk : Nat} {tpos : Pos}
theorem px_zip (hg : Gl X "zip") (hm : X.mg "zip" = none) (ha : PX X Ex a fa) (hb : PX X Ex b fb)
    (hs : starEach [a, b] X.env = (false, eval a X.env) :: starEach [b] X.env := by rfl) (hs2 : starEach [b] X.env = (false, eval b X.env) :: starEach [] X.env := by rfl) (hpl : (backTo pos (starEach [b] X.env)).any (·.1) = false := by rfl) :
    PIX X Ex (.Tuple elts kk tpos) (.Call (.Name "zip" p) [a, b] [] pos) (iZip fa fb) :=
  PI.imp (pi_zip hg hm (pa_cons ha (pa_cons hb pa_nil hs2) hs) hs hpl) fun σ H Rr ⟨B, g, ρ, ok, h⟩ => tX_step ok h fun d o v H1 fp e s r fr h1 => tX_step (ok.mono s) h1 fun d2 o2 v2 H2 fp2 e2 s2 r2 fr2 h2 => by
    cases d with
    | lst xs =>
      cases d2 with
      | lst ys =>
        have h3 : Post (ExB X.mg Ex B) (QI X.K B H σ Rr) (.ok (List.zipWith (fun a b => .tup [a, b]) xs ys, ownOr (o && o2) ρ)) := h2
        have ok2 := (ok.mono s).mono s2
        have r' := r.mono s2
        cases c : o && o2 with
        | true =>
          rw [c] at h3
          simp only [Bool.and_eq_true] at c
          have ow1 := Fresh.own ok ((fr c.1).mono (Same.refl _) s2)
          have ow2 := Fresh.own (ok.mono s) (fr2 c.2)
          obtain ⟨p1, us, g1, rfl, e1, h1', ra⟩ := (RepA.adv ok2 r' fun a ha i d' z => ow1.ap a ha i d' z).lst_inv
          obtain ⟨p2, ws, g2, rfl, e2', h2', rb⟩ := (RepA.adv ok2 r2 fun a ha i d' z => ow2.ap a ha i d' z).lst_inv
          exact ⟨p1, p2, us, ws, rfl, SqL.of (adv_same _ _ h1'), SqL.of (adv_same _ _ h2'), h3 _ _ g H2 (s.trans s2) ok2.adv.2 ok2.adv.1 (it_zip (SqL.of h1') (SqL.of h2') ra rb)⟩
        | false =>
          rw [c] at h3
          obtain ⟨p1, us, g1, rfl, e1, h1', ra⟩ := r'.lst_inv
          obtain ⟨p2, ws, g2, rfl, e2', h2', rb⟩ := r2.lst_inv
          exact ⟨p1, p2, us, ws, rfl, SqL.of h1', SqL.of h2', h3 _ H2 g H2 (s.trans s2) ok2.bas ok2.look (it_zip (SqL.of h1') (SqL.of h2') ra rb)⟩
      | _ => exact (show False from h2).elim
    | _ => exact (show False from h2).elim
theorem px_enum (hg : Gl X "enumerate") (hm : X.mg "enumerate" = none) (ha : PX X Ex a fa) (hs : starEach [a] X.env = [(false, eval a X.env)] := by rfl) :
    PIX X Ex (.Tuple elts kk tpos) (.Call (.Name "enumerate" p) [a] [] pos) (iEnum fa) :=
  PI.imp (pi_enum hg hm (pa_cons ha pa_nil hs) hs) fun σ H Rr ⟨B, g, ρ, ok, h⟩ => tX_step ok h fun d o v H1 fp e s r fr h1 => by
    cases d with
    | lst xs =>
      have h3 : Post (ExB X.mg Ex B) (QI X.K B H σ Rr) (.ok (xs.mapIdx fun i a => .tup [.int (i : Nat), a], ownOr o ρ)) := h1
      have ok2 := ok.mono s
      cases o with
      | true =>
        have ow1 := Fresh.own ok (fr rfl)
        obtain ⟨p1, us, g1, rfl, e1, h1', ra⟩ := (RepA.adv ok2 r fun a ha i d' z => ow1.ap a ha i d' z).lst_inv
        exact ⟨p1, us, rfl, SqL.of (adv_same _ _ h1'), h3 _ _ g H1 s ok2.adv.2 ok2.adv.1 (it_enum (SqL.of h1') ra)⟩
      | false =>
        obtain ⟨p1, us, g1, rfl, e1, h1', ra⟩ := r.lst_inv
        exact ⟨p1, us, rfl, SqL.of h1', h3 _ H1 g H1 s ok2.bas ok2.look (it_enum (SqL.of h1') ra)⟩
    | _ => exact (show False from h1).elim

/-! ### targets -/
abbrev DTg := D → DEnv → R DEnv
def gT (K : PySem.W.Frag) (is : List Nat) (t : DTg) : TG := fun v σ H Q => ∃ B g ρ d fp ρ', OkG K B H σ ρ g ∧ Rep K H v d fp ∧ (∀ a ∈ fp, B a ≠ none) ∧ t d ρ = .ok ρ' ∧
  ∀ σ' g', OkG K B H σ' ρ' g' → (∀ j, j ∉ is → σ'[j]? = σ[j]?) → Q σ' H
theorem PG.imp {X : Cx} {tg : Expr} {t t' : TG} (h : PG X tg t) (i : ∀ v σ H Q, t' v σ H Q → t v σ H Q) : PG X tg t' := ⟨fun pins s σ H v u Q I r q => h.run pins s σ H v u Q I r (i v σ H Q q)⟩
abbrev PGX (X : Cx) (tg : Expr) (is : List Nat) (t : DTg) : Prop := PG X tg (gT X.K is t)
@[simp] def tgName (i : Nat) : DTg := fun d ρ => .ite (decide (i < ρ.length)) (.ok (ρ.set i (some (d, imm d))))
@[simp] def tgTup (is : List Nat) : DTg := fun d ρ => match d with
  | .tup ds => .ite (decide (ds.length = is.length) && is.all fun i => decide (i < ρ.length)) (.ok (putAll imm is ds ρ))
  | _ => .no
theorem gx_name {i : Nat} (h : PG X tg (gName i)) : PGX X tg [i] (tgName i) := PG.imp h fun v σ H Q ⟨B, g, ρ, d, fp, ρ', ok, r, n, e, q⟩ => by
  obtain ⟨c, e⟩ := R.ite_ok e
  cases e
  refine q _ _ (ok.put (of_decide_eq_true c) r (fun _ => n) fun im => ?_) fun j hj => ?_
  · rw [Rep.imm r im]; exact ⟨List.nodup_nil, fun a ha => by cases ha⟩
  · exact List.getElem?_set_ne (by simpa [eq_comm] using hj)
theorem gNames_frame : ∀ {is : List Nat} {vs : List V} {σ : L2.St} {H : Hp} {Q : L2.St → Hp → Prop}, gNames is vs σ H Q → gNames is vs σ H fun σ' H' => Q σ' H' ∧ H' = H ∧ ∀ j, j ∉ is → σ'[j]? = σ[j]?
  | [], vs, σ, H, Q, ⟨e, h⟩ => ⟨e, h, rfl, fun _ _ => rfl⟩
  | i :: is, vs, σ, H, Q, ⟨v, ws, e, h⟩ => by
    refine ⟨v, ws, e, ?_⟩
    have h' : gNames is ws (σ.set i (some v)) H Q := h
    have k := gNames_frame h'
    show gNames is ws (σ.set i (some v)) H _
    have mono : ∀ {is : List Nat} {vs : List V} {σ : L2.St} {H : Hp} {Q Q' : L2.St → Hp → Prop}, gNames is vs σ H Q → (∀ σ' H', Q σ' H' → Q' σ' H') → gNames is vs σ H Q' := fun {is} => by
      induction is with
      | nil => exact fun ⟨e, h⟩ m => ⟨e, m _ _ h⟩
      | cons j js ih => exact fun ⟨v, ws, e, h⟩ m => ⟨v, ws, e, ih h m⟩
    refine mono k fun σ' H' ⟨q, hh, f⟩ => ⟨q, hh, fun j hj => ?_⟩
    simp only [List.mem_cons, not_or] at hj
    rw [f j hj.2]
    exact List.getElem?_set_ne (fun z => hj.1 z.symm)
theorem gx_tup {is : List Nat} (hc : X.calm = true) (h : PGs X elts (gNames is)) (hn : (assignEach elts X.env).length = is.length := by rfl) (hst : (assignEach elts X.env).findIdx? (·.1) = none := by rfl) : PGX X (.Tuple elts kk tpos) is (tgTup is) :=
  PG.imp (pg_tup hc h hn hst) fun v σ H Q ⟨B, g, ρ, d, fp, ρ', ok, r, n, e, q⟩ => by
    cases d with
    | tup ds =>
      obtain ⟨c, e⟩ := R.ite_ok e
      cases e
      simp only [Bool.and_eq_true, decide_eq_true_eq, List.all_eq_true] at c
      obtain ⟨a, xs, rfl, ha, ra⟩ := r.tup_inv
      refine ⟨a, xs, rfl, SqT.of ha, by rw [ra.length]; exact c.1, ?_⟩
      have k := gNames_frame (gNames_ok (o := imm) (Q := fun σ' H' => ∃ g', OkG X.K B H σ' (putAll imm is ds ρ) g') ok ra c.1 c.2 (.inl ⟨n, fun _ => rfl⟩) fun σ' g' ok' => ⟨g', ok'⟩)
      have mono : ∀ {is : List Nat} {vs : List V} {σ : L2.St} {H : Hp} {Q Q' : L2.St → Hp → Prop}, gNames is vs σ H Q → (∀ σ' H', Q σ' H' → Q' σ' H') → gNames is vs σ H Q' := fun {is} => by
        induction is with
        | nil => exact fun ⟨e, h⟩ m => ⟨e, m _ _ h⟩
        | cons j js ih => exact fun ⟨v, ws, e, h⟩ m => ⟨v, ws, e, ih h m⟩
      exact mono k fun σ' H' ⟨⟨g', ok'⟩, e, f⟩ => by
        subst e
        exact q σ' g' ok' f
    | _ => cases e

/-! ### for -/
def forS (t : DTg) (f : DS) : List D → DS
  | [], ρ => .ok (.nx ρ)
  | d :: ds, ρ => (t d ρ).bind fun ρ1 => (f ρ1).bind fun o => match o with
    | .nx ρ2 => forS t f ds ρ2
    | .ct ρ2 => forS t f ds ρ2
    | .bk ρ2 => .ok (.nx ρ2)
    | .rt d => .ok (.rt d)
@[simp] def sFor (fi : DIt) (t : DTg) (f : DS) : DS := fun ρ => (fi ρ).bind fun p => forS t f p.1 p.2
variable {fi : DIt} {t : DTg} {f : DS} {is : List Nat} {body : List Stmt}
theorem R.bind_okE {α β : Type} {x : R α} {k : α → R β} {Bx : Str → Prop} {P : β → Prop} (h : Post Bx P (x.bind k)) (hx : ∀ c, Bx c → x ≠ .ex c) : ∃ a, x = .ok a ∧ Post Bx P (k a) := by
  cases x with
  | ok a => exact ⟨a, rfl, h⟩
  | ex c => exact absurd rfl (hx c h)
  | no => exact h.elim
structure TgOk (t : DTg) : Prop where
  ne : ∀ d ρ c, t d ρ ≠ .ex c
  len : ∀ d ρ ρ', t d ρ = .ok ρ' → ρ'.length = ρ.length
theorem tgName_ok (i : Nat) : TgOk (tgName i) where
  ne := fun d ρ c q => by cases R.ite_ex q
  len := fun d ρ ρ' q => by
    obtain ⟨_, q⟩ := R.ite_ok q
    cases q
    exact List.length_set
theorem tgTup_ok (is : List Nat) : TgOk (tgTup is) where
  ne := fun d ρ c q => by
    unfold tgTup at q
    split at q
    · cases R.ite_ex q
    · cases q
  len := fun d ρ ρ' q => by
    unfold tgTup at q
    split at q
    · obtain ⟨_, q⟩ := R.ite_ok q
      cases q
      exact putAll_length _ _ _ _
    · cases q
theorem sx_for (hp : PassesOwn (model X.prog X.w) X.A X.env X.xe) (hc : X.calm = true) (hi : PIX X Ex tg e fi) (hg : PGX X tg is t) (ht : TgOk t) (hb : PSSX X Ex body f)
    (hs : ∀ x, foldedSetIterable e X.env x = pure x := by intro _; rfl) : PSX X Ex (.For tg e body [] pos) (sFor fi t f) :=
  PS.imp (ps_for hp hc hi hg hb hs) fun N σ H ⟨B, g, ρ, ok, h⟩ => ⟨B, g, ρ, ok, h.bind.imp (fun _ z => z) fun q _ h1 J B1 g1 H1 s1 sB ok1 it => by
    obtain ⟨ds, ρ1⟩ := q
    have h2 : Post (ExB X.mg Ex B1) (QS X.K B1 N) (forS t f ds ρ1) := Post.imp h1 (fun c z => z.mono sB) fun o _ z => z.mono sB
    refine ⟨fun i m σ2 H2 => ∃ B2 g2 ρ2, m = ds.length - i ∧ i ≤ ds.length ∧ Same B1 B2 ∧ OkG X.K B2 H2 σ2 ρ2 g2 ∧ Post (ExB X.mg Ex B2) (QS X.K B2 N) (forS t f (ds.drop i) ρ2), ⟨_, B1, g1, ρ1, rfl, Nat.zero_le _, Same.refl _, ok1, by simpa using h2⟩, fun i m σ2 H2 ⟨B2, g2, ρ2, em, hi, s2, ok2, h3⟩ => ?_⟩
    by_cases hlt : i < ds.length
    · refine .inr ⟨it.go i H2 (s2.trans ok2.bas) hlt, fun σ3 H3 => ∃ B3 g3 ρ3, Same B1 B3 ∧ OkG X.K B3 H3 σ3 ρ3 g3 ∧ Post (ExB X.mg Ex B3) (QS X.K B3 N) (forS t f (ds.drop (i + 1)) ρ3), fun σ3 H3 ⟨B3, g3, ρ3, s3, ok3, h4⟩ => ⟨ds.length - (i + 1), by omega, B3, g3, ρ3, rfl, hlt, s3, ok3, h4⟩, fun x H3 y => ?_⟩
      obtain ⟨d, fp, e1, s3, r, nb⟩ := it.yld i H2 x H3 (s2.trans ok2.bas) hlt y
      have ed : ds.drop i = d :: ds.drop (i + 1) := by
        rw [List.drop_eq_getElem_cons hlt]
        rw [List.getElem?_eq_getElem hlt] at e1
        rw [Option.some.inj e1]
      rw [ed] at h3
      obtain ⟨ρ3, e3, h4⟩ := R.bind_okE h3 fun c _ => ht.ne d ρ2 c
      refine ⟨B2, g2, ρ2, d, fp, ρ3, ok2.mono s3, r, fun a ha z => nb a ha (s2.free z), e3, fun σ4 g4 ok4 _ => ⟨B2, g4, ρ3, ok4, h4.bind.imp (fun _ z => z) fun o _ h5 => ?_⟩⟩
      cases o with
      | nx ρ4 => exact fun B5 g5 σ5 H5 s5 ok5 => ⟨B5, g5, ρ4, s2.trans s5, ok5, Post.imp h5 (fun c z => z.mono s5) fun o _ z => z.mono s5⟩
      | ct ρ4 => exact fun B5 g5 σ5 H5 s5 ok5 => ⟨B5, g5, ρ4, s2.trans s5, ok5, Post.imp h5 (fun c z => z.mono s5) fun o _ z => z.mono s5⟩
      | bk ρ4 => exact h5
      | rt d => exact h5
    · refine .inl ⟨it.stop i H2 (s2.trans ok2.bas) (by show ds.length ≤ i; omega), ?_⟩
      rw [List.drop_eq_nil_of_le (by omega)] at h3
      exact h3 B2 g2 σ2 H2 (Same.refl _) ok2⟩

/-! ### while -/
def whN (c : DT) (f : DS) : Nat → DS
  | 0, _ => .no
  | n + 1, ρ => (c ρ).bind fun b => match b with
    | false => .ok (.nx ρ)
    | true => (f ρ).bind fun o => match o with
      | .nx ρ2 => whN c f n ρ2
      | .ct ρ2 => whN c f n ρ2
      | .bk ρ2 => .ok (.nx ρ2)
      | .rt d => .ok (.rt d)
theorem whN_mono {c : DT} {f : DS} : ∀ {n : Nat} {ρ : DEnv}, whN c f n ρ ≠ .no → whN c f (n + 1) ρ = whN c f n ρ
  | 0, _, h => absurd rfl h
  | n + 1, ρ, h => by
    rw [whN] at h
    conv => lhs; rw [whN]
    conv => rhs; rw [whN]
    cases e : c ρ with
    | ok b =>
      rw [e] at h
      cases b with
      | false => rfl
      | true =>
        have h' : ((f ρ).bind fun o => match o with
          | .nx ρ2 => whN c f n ρ2
          | .ct ρ2 => whN c f n ρ2
          | .bk ρ2 => .ok (.nx ρ2)
          | .rt d => .ok (.rt d)) ≠ R.no := h
        show ((f ρ).bind fun o => match o with
          | .nx ρ2 => whN c f (n + 1) ρ2
          | .ct ρ2 => whN c f (n + 1) ρ2
          | .bk ρ2 => .ok (.nx ρ2)
          | .rt d => .ok (.rt d)) = ((f ρ).bind fun o => match o with
          | .nx ρ2 => whN c f n ρ2
          | .ct ρ2 => whN c f n ρ2
          | .bk ρ2 => .ok (.nx ρ2)
          | .rt d => .ok (.rt d))
        cases e2 : f ρ with
        | ok o =>
          rw [e2] at h'
          cases o with
          | nx ρ2 => exact whN_mono h'
          | ct ρ2 => exact whN_mono h'
          | bk ρ2 => rfl
          | rt d => rfl
        | ex c => rfl
        | no => rfl
    | ex c => rfl
    | no => rfl
theorem whN_le {c : DT} {f : DS} {n m : Nat} {ρ : DEnv} (h : whN c f n ρ ≠ .no) (l : n ≤ m) : whN c f m ρ = whN c f n ρ := by
  induction m with
  | zero => rw [Nat.le_zero.mp l]
  | succ m ih =>
    by_cases e : n = m + 1
    · rw [e]
    · have e1 := ih (by omega)
      rw [← e1]
      exact whN_mono (by rw [e1]; exact h)
open Classical in
/-- a while that comes to an end -/
noncomputable def sWhile (c : DT) (f : DS) : DS := fun ρ => if h : ∃ n, whN c f n ρ ≠ .no then whN c f h.choose ρ else .no
theorem sWhile_of {c : DT} {f : DS} {n : Nat} {ρ : DEnv} (h : whN c f n ρ ≠ .no) : sWhile c f ρ = whN c f n ρ := by
  have hx : ∃ n, whN c f n ρ ≠ .no := ⟨n, h⟩
  unfold sWhile
  rw [dif_pos hx]
  rcases Nat.le_total n hx.choose with l | l
  · exact whN_le h l
  · exact (whN_le hx.choose_spec l).symm
theorem sWhile_some {c : DT} {f : DS} {ρ : DEnv} (h : sWhile c f ρ ≠ .no) : ∃ n, whN c f n ρ = sWhile c f ρ := by
  unfold sWhile at h ⊢
  split at h
  · rename_i hx
    exact ⟨hx.choose, by rw [dif_pos hx]⟩
  · exact absurd rfl h
/-- one turn -/
theorem sWhile_eq (c : DT) (f : DS) (ρ : DEnv) : sWhile c f ρ = (c ρ).bind fun b => match b with
    | false => .ok (.nx ρ)
    | true => (f ρ).bind fun o => match o with
      | .nx ρ2 => sWhile c f ρ2
      | .ct ρ2 => sWhile c f ρ2
      | .bk ρ2 => .ok (.nx ρ2)
      | .rt d => .ok (.rt d) := by
  have key : ∀ ρ2 : DEnv, (∀ m : Nat, whN c f (m + 1) ρ = whN c f m ρ2) → sWhile c f ρ = sWhile c f ρ2 := fun ρ2 hm => by
    by_cases h2 : sWhile c f ρ2 = .no
    · rw [h2]
      refine Classical.byContradiction fun h1 => ?_
      obtain ⟨m, e⟩ := sWhile_some h1
      cases m with
      | zero => exact h1 (e.symm.trans rfl)
      | succ m =>
        rw [hm m] at e
        have : whN c f m ρ2 ≠ .no := by rw [e]; exact h1
        exact this ((sWhile_of this).symm.trans h2)
    · obtain ⟨m, e⟩ := sWhile_some h2
      rw [← e, ← hm m]
      exact sWhile_of (by rw [hm m, e]; exact h2)
  have one : ∀ r : R Out, (∀ m : Nat, whN c f (m + 1) ρ = r) → r ≠ .no → sWhile c f ρ = r := fun r hm hr => by
    rw [← hm 0]
    exact sWhile_of (by rw [hm 0]; exact hr)
  have noo : (∀ m : Nat, whN c f (m + 1) ρ = .no) → sWhile c f ρ = .no := fun hm => by
    refine Classical.byContradiction fun h1 => ?_
    obtain ⟨m, e⟩ := sWhile_some h1
    cases m with
    | zero => exact h1 (e.symm.trans rfl)
    | succ m => rw [hm m] at e; exact h1 e.symm
  cases e : c ρ with
  | ok b =>
    cases b with
    | false => exact one _ (fun m => by rw [whN, e]; rfl) (by simp)
    | true =>
      have w : ∀ m, whN c f (m + 1) ρ = (f ρ).bind fun o => match o with
        | .nx ρ2 => whN c f m ρ2
        | .ct ρ2 => whN c f m ρ2
        | .bk ρ2 => .ok (.nx ρ2)
        | .rt d => .ok (.rt d) := fun m => by rw [whN, e]; rfl
      show sWhile c f ρ = (f ρ).bind fun o => match o with
        | .nx ρ2 => sWhile c f ρ2
        | .ct ρ2 => sWhile c f ρ2
        | .bk ρ2 => .ok (.nx ρ2)
        | .rt d => .ok (.rt d)
      cases e2 : f ρ with
      | ok o =>
        cases o with
        | nx ρ2 => exact key ρ2 fun m => by rw [w, e2]; rfl
        | ct ρ2 => exact key ρ2 fun m => by rw [w, e2]; rfl
        | bk ρ2 => exact one _ (fun m => by rw [w, e2]; rfl) (by simp)
        | rt d => exact one _ (fun m => by rw [w, e2]; rfl) (by simp)
      | ex x => exact one _ (fun m => by rw [w, e2]; rfl) (by simp)
      | no => exact noo fun m => by rw [w, e2]; rfl
  | ex x => exact one _ (fun m => by rw [whN, e]; rfl) (by simp)
  | no => exact noo fun m => by rw [whN, e]; rfl
theorem sx_while {cond : Expr} {ft : DT} (hp : PassesOwn (model X.prog X.w) X.A X.env X.xe) (hc : PB X Ex cond ft) (hb : PSSX X Ex body f) : PSX X Ex (.While cond body [] pos) (sWhile ft f) :=
  PS.imp (ps_while hp hc hb) fun N σ H ⟨B, g, ρ, ok, h⟩ => by
    have hn : sWhile ft f ρ ≠ .no := fun z => by rw [z] at h; exact h.elim
    obtain ⟨n, e⟩ := sWhile_some hn
    rw [← e] at h
    refine ⟨fun m σ2 H2 => ∃ B2 g2 ρ2, Same B B2 ∧ OkG X.K B2 H2 σ2 ρ2 g2 ∧ Post (ExB X.mg Ex B2) (QS X.K B2 N) (whN ft f m ρ2), ⟨n, B, g, ρ, Same.refl _, ok, h⟩, fun m σ2 H2 ⟨B2, g2, ρ2, s2, ok2, h2⟩ => ?_⟩
    cases m with
    | zero => exact h2.elim
    | succ m =>
      rw [whN] at h2
      refine tT_step ok2 h2 fun b H3 _ s3 h3 => ?_
      cases b with
      | false => exact h3 B2 g2 σ2 H3 (Same.refl _) (ok2.mono s3)
      | true =>
        refine ⟨fun σ4 H4 => ∃ B4 g4 ρ4, Same B B4 ∧ OkG X.K B4 H4 σ4 ρ4 g4 ∧ Post (ExB X.mg Ex B4) (QS X.K B4 N) (whN ft f m ρ4), fun σ4 H4 ⟨B4, g4, ρ4, s4, ok4, h4⟩ => ⟨m, Nat.lt_succ_self m, B4, g4, ρ4, s4, ok4, h4⟩, B2, g2, ρ2, ok2.mono s3, Post.imp (Post.bind h3) (fun _ z => z) fun o _ h5 => ?_⟩
        cases o with
        | nx ρ4 => exact fun B5 g5 σ5 H5 s5 ok5 => ⟨B5, g5, ρ4, s2.trans s5, ok5, Post.imp h5 (fun c z => z.mono s5) fun o _ z => z.mono s5⟩
        | ct ρ4 => exact fun B5 g5 σ5 H5 s5 ok5 => ⟨B5, g5, ρ4, s2.trans s5, ok5, Post.imp h5 (fun c z => z.mono s5) fun o _ z => z.mono s5⟩
        | bk ρ4 => exact h5
        | rt d => exact h5
end
end EQ
/-! EqG: comprehensions, the defs of the text and their calls, isinstance, list(), tuple(). -/
namespace EQ
open PySem PySem.Spec PyProof.Rows L2

/-! ### comprehensions -/
@[simp] def R.nox {α : Type} : R α → R α
  | .ok a => .ok a
  | _ => .no
@[simp] theorem R.nox_ok {α : Type} (a : α) : (R.ok a).nox = .ok a := rfl
@[simp] theorem R.nox_no {α : Type} : (R.no : R α).nox = .no := rfl
@[simp] theorem R.nox_ex {α : Type} (c : Str) : (R.ex c : R α).nox = .no := rfl
theorem R.nox_eq {α : Type} {x : R α} {a : α} (h : x.nox = .ok a) : x = .ok a := by cases x <;> first | exact h | cases h
@[simp] def wipeE : List Nat → DEnv → DEnv
  | [], ρ => ρ
  | v :: vs, ρ => (wipeE vs ρ).set v none
def compS (t : DTg) (ft : DT) (fe : DX) : List D → DEnv → R (List D)
  | [], _ => .ok []
  | d :: ds, ρ => (t d ρ).nox.bind fun ρ1 => (ft ρ1).nox.bind fun b => match b with
    | false => compS t ft fe ds ρ
    | true => (fe ρ1).nox.bind fun x => .ite x.2 ((compS t ft fe ds ρ).bind fun r => .ok (x.1 :: r))
@[simp] def eComp (vs : List Nat) (fi : DIt) (t : DTg) (ft : DT) (fe : DX) : DX := fun ρ => (fi ρ).bind fun p => .ite (decide (p.1.length ≤ sizeLine)) ((compS t ft fe p.1 (wipeE vs (lookE ρ))).bind fun r => .ok (.lst r, true))
@[simp] def yesT : DT := fun _ => .ok true
theorem compS_ex {t : DTg} {ft : DT} {fe : DX} : ∀ {ds : List D} {ρ : DEnv} {c : Str}, compS t ft fe ds ρ ≠ .ex c
  | [], ρ, c, q => by cases q
  | d :: ds, ρ, c, q => by
    rw [compS] at q
    cases e : (t d ρ).nox with
    | ex c => cases ht : t d ρ <;> rw [ht] at e <;> cases e
    | no => rw [e] at q; cases q
    | ok ρ1 =>
      rw [e, R.bind_ok] at q
      cases e2 : (ft ρ1).nox with
      | ex c => cases ht : ft ρ1 <;> rw [ht] at e2 <;> cases e2
      | no => rw [e2] at q; cases q
      | ok b =>
        rw [e2, R.bind_ok] at q
        cases b with
        | false => exact compS_ex q
        | true =>
          cases e3 : (fe ρ1).nox with
          | ex c => cases ht : fe ρ1 <;> rw [ht] at e3 <;> cases e3
          | no => rw [e3] at q; cases q
          | ok x =>
            have q : (fe ρ1).nox.bind _ = R.ex c := q
            rw [e3, R.bind_ok] at q
            have q' := R.ite_ex q
            cases e4 : compS t ft fe ds ρ with
            | ok r => rw [e4] at q'; cases q'
            | ex c' => exact compS_ex e4
            | no => rw [e4] at q'; cases q'
theorem OkG.wipe {K : PySem.W.Frag} {B H : Hp} {σ : L2.St} {ρ : DEnv} {g : Nat → List Addr} (ok : OkG K B H σ ρ g) : ∀ vs : List Nat, OkG K B H (L2.wipe σ vs) (wipeE vs ρ) g
  | [] => ok
  | v :: vs => by
    have ih := ok.wipe vs
    have k : ∀ {j y}, ((wipeE vs ρ).set v none)[j]? = some (some y) → j ≠ v ∧ (wipeE vs ρ)[j]? = some (some y) := fun h => by
      rcases get_set h with ⟨_, z, _⟩ | ⟨n, h⟩
      · cases z
      · exact ⟨n, h⟩
    refine ⟨?_, ih.bas, fun j d o e => ?_, fun j d e => ih.frz j d (k e).2, fun j d e => ih.own j d (k e).2, fun j l d e h1 h2 => ih.dis j l d e (k h1).2 (k h2).2⟩
    · show ((L2.wipe σ vs).set v none).length = ((wipeE vs ρ).set v none).length
      rw [List.length_set, List.length_set]; exact ih.len
    · obtain ⟨u, e1, r⟩ := ih.rep j d o (k e).2
      exact ⟨u, by show ((L2.wipe σ vs).set v none)[j]? = _; rw [List.getElem?_set_ne (Ne.symm (k e).1)]; exact e1, r⟩
theorem wipe_eq {σ σ2 : L2.St} : ∀ {vs : List Nat}, (∀ j : Nat, j ∉ vs → σ2[j]? = σ[j]?) → σ2.length = σ.length → L2.wipe σ2 vs = L2.wipe σ vs := fun {vs} h l => by
  have look : ∀ (σ : L2.St) (vs : List Nat) (j : Nat), (L2.wipe σ vs)[j]? = if j ∈ vs ∧ j < σ.length then some none else σ[j]? := fun σ vs => by
    induction vs with
    | nil => intro j; simp [L2.wipe]
    | cons v vs ih =>
      intro j
      show ((L2.wipe σ vs).set v none)[j]? = _
      by_cases e : v = j
      · subst e
        by_cases hl : v < σ.length
        · rw [List.getElem?_set_self (by rw [L2.wipe_length]; exact hl), if_pos ⟨by simp, hl⟩]
        · rw [List.getElem?_eq_none (by rw [List.length_set, L2.wipe_length]; omega), if_neg (fun z => hl z.2), List.getElem?_eq_none (by omega)]
      · rw [List.getElem?_set_ne e, ih j]
        have : (j ∈ v :: vs) ↔ j ∈ vs := by
          simp only [List.mem_cons]
          exact ⟨fun z => z.resolve_left (fun q => e q.symm), .inr⟩
        simp only [this]
  refine List.ext_getElem? fun j => ?_
  rw [look, look, l]
  by_cases c : j ∈ vs ∧ j < σ.length
  · rw [if_pos c, if_pos c]
  · rw [if_neg c, if_neg c]
    by_cases m : j ∈ vs
    · have : ¬ j < σ.length := fun z => c ⟨m, z⟩
      rw [List.getElem?_eq_none (by omega), List.getElem?_eq_none (by omega)]
    · exact h j m
section
variable {X : Cx} {Ex : XK} {a b c e elt tg iter : Expr} {es ifs : List Expr} {fa fb fe : DX} {fs : DXs} {pos p : Pos} {x : Str} {fi : DIt} {t : DTg} {ft : DT} {is vs : List Nat}
abbrev PTsX (X : Cx) (Ex : XK) (ifs : List Expr) (f : DT) : Prop := PTs X ifs (tT X.K X.mg Ex f)
theorem PTs.imp {t t' : TT} (h : PTs X ifs t) (i : ∀ σ H Q, t' σ H Q → t σ H Q) : PTs X ifs t' := ⟨fun pins s σ H Q I q => h.run pins s σ H Q I (i σ H Q q)⟩
theorem tx_nil : PTsX X Ex [] yesT := PTs.imp pts_nil fun σ H Q ⟨B, g, ρ, ok, h⟩ => h H (Same.refl H)
theorem tx_one (h : PB X Ex c ft) : PTsX X Ex [c] ft := pts_one h
theorem comp_imp (ht : TgOk t) (hsub : ∀ i ∈ is, i ∈ vs) : ∀ σ H Q, tX X.K X.mg Ex (eComp vs fi t ft fe) σ H Q → tLc (tI X.K X.mg Ex fi) (gT X.K is t) (tT X.K X.mg E0 ft) (tX X.K X.mg E0 fe) vs σ H Q := fun σ H Q ⟨B, g, ρ, ok, h⟩ =>
  ⟨B, g, ρ, ok, h.bind.imp (fun _ z => z) fun q _ h1 J B' g' H1 s1 sB ok1 it Dn nD => by
    obtain ⟨ds, ρ'⟩ := q
    obtain ⟨c, h1⟩ := h1.ite
    have hsz : ds.length ≤ sizeLine := of_decide_eq_true c
    have okw := ((ok.mono s1).look).wipe vs
    have it' := it.mono ok1.bas
    cases et : compS t ft fe ds (wipeE vs (lookE ρ)) with
    | ex c => exact absurd et compS_ex
    | no => rw [et] at h1; exact h1.elim
    | ok total =>
      rw [et] at h1
      refine ⟨fun i m H2 => ∃ acc accD fpa r, m = ds.length - i ∧ i ≤ ds.length ∧ Same H1 H2 ∧ H2 Dn = some (.lst acc) ∧ RepA X.K H2 acc accD fpa ∧ fpa.Nodup ∧ (∀ a ∈ fpa, H1 a = none ∧ MutA H2 a ∧ a ≠ Dn) ∧ accD.length ≤ i ∧
        compS t ft fe (ds.drop i) (wipeE vs (lookE ρ)) = .ok r ∧ accD ++ r = total, ⟨_, [], [], [], total, rfl, Nat.zero_le _, same_upd nD, upd_same, .nil, List.nodup_nil, fun a ha => (by cases ha), Nat.zero_le _, by simpa using et, rfl⟩, fun i m H2 ⟨acc, accD, fpa, r, em, hi, s2, eD, ra, nd, fr, hl, er, etot⟩ => ?_⟩
      by_cases hlt : i < ds.length
      · refine .inr ⟨it'.go i H2 s2 hlt, fun H3 => ∃ acc accD fpa r, Same H1 H3 ∧ H3 Dn = some (.lst acc) ∧ RepA X.K H3 acc accD fpa ∧ fpa.Nodup ∧ (∀ a ∈ fpa, H1 a = none ∧ MutA H3 a ∧ a ≠ Dn) ∧ accD.length ≤ i + 1 ∧
          compS t ft fe (ds.drop (i + 1)) (wipeE vs (lookE ρ)) = .ok r ∧ accD ++ r = total, fun H3 ⟨acc, accD, fpa, r, k1, k2, k3, k4, k5, k6, k7, k8⟩ => ⟨ds.length - (i + 1), by omega, acc, accD, fpa, r, rfl, hlt, k1, k2, k3, k4, k5, k6, k7, k8⟩, fun y H3 hy => ?_⟩
        obtain ⟨d, fp, e1, s3, rd, nb⟩ := it'.yld i H2 y H3 s2 hlt hy
        have ed : ds.drop i = d :: ds.drop (i + 1) := by
          rw [List.drop_eq_getElem_cons hlt]
          rw [List.getElem?_eq_getElem hlt] at e1
          rw [Option.some.inj e1]
        rw [ed, compS] at er
        cases e3 : (t d (wipeE vs (lookE ρ))).nox with
        | ex c => rw [e3] at er; cases er
        | no => rw [e3] at er; cases er
        | ok ρ1 =>
          rw [e3, R.bind_ok] at er
          refine ⟨H1, g, _, d, fp, ρ1, okw.mono (s2.trans s3), rd, nb, R.nox_eq e3, fun σ2 g2 ok2 fr2 => ⟨?_, ?_⟩⟩
          · rw [wipe_eq (σ := L2.wipe σ vs) (fun j hj => fr2 j fun z => hj (hsub j z)) ?_]
            · have : ∀ (vs ws : List Nat) (τ : L2.St), (∀ v ∈ vs, v ∈ ws) → L2.wipe (L2.wipe τ ws) vs = L2.wipe τ ws := fun vs ws τ hv => by
                induction vs with
                | nil => rfl
                | cons v vs ih =>
                  show (L2.wipe (L2.wipe τ ws) vs).set v none = _
                  rw [ih fun v hv' => hv v (by simp [hv'])]
                  have hm : v ∈ ws := hv v (by simp)
                  clear ih hv
                  refine List.ext_getElem? fun j => ?_
                  by_cases q : v = j
                  · subst q
                    by_cases l : v < (L2.wipe τ ws).length
                    · rw [List.getElem?_set_self l]
                      cases z : (L2.wipe τ ws)[v]? with
                      | none => rw [List.getElem?_eq_none_iff] at z; omega
                      | some u =>
                        cases u with
                        | none => rfl
                        | some u => exact absurd hm (L2.wipe_some z).2
                    · rw [List.getElem?_eq_none (by rw [List.length_set]; omega), List.getElem?_eq_none (by omega)]
                  · rw [List.getElem?_set_ne q]
              exact this vs vs σ fun _ z => z
            · rw [ok2.len, okw.len]
              exact ht.len _ _ _ (R.nox_eq e3)
          · cases e4 : (ft ρ1).nox with
            | ex c => rw [e4] at er; cases er
            | no => rw [e4] at er; cases er
            | ok b =>
              rw [e4, R.bind_ok] at er
              refine ⟨H1, g2, ρ1, ok2, ?_⟩
              rw [R.nox_eq e4]
              intro H4 s4
              have s24 := s3.trans s4
              cases b with
              | false =>
                rw [if_neg (by decide)]
                exact ⟨acc, accD, fpa, r, s2.trans s24, s24 _ _ eD, ra.mono s24, nd, fun a ha => ⟨(fr a ha).1, (fr a ha).2.1.mono s24, (fr a ha).2.2⟩, by omega, er, etot⟩
              | true =>
                rw [if_pos rfl]
                have er : (fe ρ1).nox.bind _ = R.ok r := er
                cases e5 : (fe ρ1).nox with
                | ex c => rw [e5] at er; cases er
                | no => rw [e5] at er; cases er
                | ok z =>
                  rw [e5, R.bind_ok] at er
                  obtain ⟨oz, er⟩ := R.ite_ok er
                  cases e6 : compS t ft fe (ds.drop (i + 1)) (wipeE vs (lookE ρ)) with
                  | ex c => rw [e6] at er; cases er
                  | no => rw [e6] at er; cases er
                  | ok r' =>
                    rw [e6] at er
                    cases er
                    refine ⟨H1, g2, ρ1, ok2.mono s4, ?_⟩
                    rw [R.nox_eq e5]
                    intro v H5 fp5 s5 r5 f5
                    have f5' := f5 oz
                    have s25 := s24.trans s5
                    have nD5 : Dn ∉ fp5 := fun m => by
                      have := (f5'.2 Dn m).1
                      rw [s24 _ _ eD] at this; cases this
                    have nDa : Dn ∉ fpa := fun m => (fr Dn m).2.2 rfl
                    have mD : H5 Dn = none ∨ (∃ xs, H5 Dn = some (.lst xs)) ∨ ∃ kvs, H5 Dn = some (.dK kvs) := .inr (.inl ⟨_, s25 _ _ eD⟩)
                    refine ⟨acc, s25 _ _ eD, ?_, acc ++ [v], accD ++ [z.1], fpa ++ fp5, r', fun a o ha => ?_, upd_same, ((ra.mono s25).upd nDa mD).append (r5.upd nD5 mD), ?_, fun a ha => ?_, by rw [List.length_append]; simp; omega, rfl, by rw [← etot]; simp⟩
                    · rw [ra.length]; omega
                    · rw [upd_ne (ne_of_none ha nD)]
                      exact s25 _ _ (s2 _ _ ha)
                    · refine List.nodup_append.mpr ⟨nd, f5'.1, fun x hx y hy e => ?_⟩
                      subst e
                      exact ((fr x hx).2.1.mono s24).some (f5'.2 x hy).1
                    · rcases List.mem_append.mp ha with ha | ha
                      · exact ⟨(fr a ha).1, ((fr a ha).2.1.mono s25).upd (.inl ⟨_, rfl⟩), (fr a ha).2.2⟩
                      · exact ⟨(s2.trans s24).free (f5'.2 a ha).1, (f5'.2 a ha).2.upd (.inl ⟨_, rfl⟩), fun z => nD5 (z ▸ ha)⟩
      · refine .inl ⟨it'.stop i H2 s2 (by show ds.length ≤ i; omega), ?_⟩
        rw [List.drop_eq_nil_of_le (by show ds.length ≤ i; omega)] at er
        cases er
        rw [List.append_nil] at etot
        subst etot
        exact h1 _ H2 (Dn :: fpa) (s1.trans s2) (Rep.mk_lst eD ra) fun _ => ⟨List.nodup_cons.mpr ⟨fun m => (fr Dn m).2.2 rfl, nd⟩, fun a ha => by
          rcases List.mem_cons.mp ha with rfl | ha
          · exact ⟨s1.free nD, .inl ⟨_, eD⟩⟩
          · exact ⟨s1.free (fr a ha).1, (fr a ha).2.1⟩⟩⟩
theorem px_comp {scope : Scope} {own : List (Str × Nat)} (hc : X.calm = true) (hN : X.N.Nodup) (hi : PIX X Ex tg iter fi) (ok : BlkOk X.N X.env.scope scope own) (ht : TgOk t) (hsub : ∀ i ∈ is, i ∈ own.map (·.2))
    (hg : ∀ (s : Shared) (H : Hp) (C : Addr) (cl : List (Str × Addr)) (fp : List Addr), PGX (X.blk s H scope (compEnvC scope cl C X.env) fp) tg is t)
    (hts : ∀ (s : Shared) (H : Hp) (C : Addr) (cl : List (Str × Addr)) (fp : List Addr), PTsX (X.blk s H scope (compEnvC scope cl C X.env) fp) E0 ifs ft)
    (he : ∀ (s : Shared) (H : Hp) (C : Addr) (cl : List (Str × Addr)) (fp : List Addr), PX (X.blk s H scope (compEnvC scope cl C X.env) fp) E0 elt fe) (hs : ∀ x, foldedSetIterable iter X.env x = pure x := by intro _; rfl) :
    PX X Ex (.ListComp elt [⟨tg, iter, ifs, 0⟩] scope pos) (eComp (own.map (·.2)) fi t ft fe) :=
  PE.imp (pe_lc hc hN hi ok hg hts he hs) (comp_imp ht hsub)
theorem sx_setLc {i : Nat} {y : Str} {py spos : Pos} {scope : Scope} {own : List (Str × Nat)} (hc : X.calm = true) (hN : X.N.Nodup) (hy : X.N[i]? = some y) (hyl : X.env.scope.names.lookup y = some .local)
    (hsw : swapsWith (.ListComp elt [⟨tg, iter, ifs, 0⟩] scope pos) (some (.Name y py)) spos.line X.env = pure true) (hi : PIX X Ex tg iter fi) (ok : BlkOk X.N X.env.scope scope own) (ht : TgOk t) (hsub : ∀ i ∈ is, i ∈ own.map (·.2))
    (hg : ∀ (s : Shared) (H : Hp) (C : Addr) (cl : List (Str × Addr)) (fp : List Addr), PGX (X.blk s H scope (compEnvC scope cl C X.env) fp) tg is t)
    (hts : ∀ (s : Shared) (H : Hp) (C : Addr) (cl : List (Str × Addr)) (fp : List Addr), PTsX (X.blk s H scope (compEnvC scope cl C X.env) fp) E0 ifs ft)
    (he : ∀ (s : Shared) (H : Hp) (C : Addr) (cl : List (Str × Addr)) (fp : List Addr), PX (X.blk s H scope (compEnvC scope cl C X.env) fp) E0 elt fe) (hs : ∀ x, foldedSetIterable iter X.env x = pure x := by intro _; rfl) :
    PSX X Ex (.Assign [.Name y py] (.ListComp elt [⟨tg, iter, ifs, 0⟩] scope pos) spos) (sSet i (eComp (own.map (·.2)) fi t ft fe)) :=
  PS.imp (ps_setLc hc hN hy hyl hsw hi ok hg hts he hs) fun N σ H h => comp_imp ht hsub σ H _ (set_imp N σ H h)

/-! ### the text's own defs -/
/-- F answers of data; an own exception class's name leaves it -/
def spF (K : PySem.W.Frag) (mg : Str → Option Value) (n : Nat) (F : List D → R D) : Sp := fun vs H Q E => ∃ ds fp, RepA K H vs ds fp ∧ ds.length = n ∧ Post (ExB mg E H) (QN K H Q) (F ds)
theorem spF_len {K : PySem.W.Frag} {mg : Str → Option Value} {n : Nat} {F : List D → R D} : ∀ vs H Q E, spF K mg n F vs H Q E → vs.length = n := fun vs H Q E ⟨ds, fp, r, l, _⟩ => by rw [r.length, l]
@[simp] def eCall (n : Nat) (F : List D → R D) (fs : DXs) : DX := fun ρ => (fs ρ).bind fun ps => .ite (ps.length == n) ((F (ps.map (·.1))).bind fun d => .ok (d, true))
theorem call_imp {n : Nat} {F : List D → R D} {dvs : List V} (hd : dvs = []) : ∀ σ H Q, tX X.K X.mg Ex (eCall n F fs) σ H Q → tCall (spF X.K X.mg n F) dvs Ex (tXs X.K X.mg Ex fs) σ H Q := fun σ H Q ⟨B, g, ρ, ok, h⟩ =>
  tXs_step ok h fun ps vs H1 fp _ s r _ h1 => by
    subst hd
    obtain ⟨c, h1⟩ := h1.ite
    have hl : ps.length = n := by simpa using c
    rw [List.append_nil]
    exact ⟨_, fp, r, by rw [List.length_map]; exact hl, h1.bind.imp (fun c z => z.mono (ok.mono s).bas) fun d _ q v H' fp' s' r' fr' => q v H' fp' (s.trans s') r' fun _ => fr'.mono s (Same.refl _)⟩
theorem px_call {CX : CXT} {k : Nat} {f : Addr} {fd : FuncData} {psn : List Str} {n : Nat} {F : List D → R D} (G : FnOk X.prog X.w X.K X.mg X.base CX k f fd psn (spF X.K X.mg n F)) (hr : Room k X.A) (hg : Gl X x) (hm : X.mg x = some (.ref f)) (hk : PySem.W.keepIn X.K (.ref f) = true) (hb : Binds X.K fd psn [])
    (hx : Passes CX X Ex) (ha : PXs X Ex (e :: es) fs) (hdb : (x == ("__debug__" : Str)) = false := by decide) (he : starEach (e :: es) X.env = (false, eval e X.env) :: starEach es X.env := by rfl) (hpl : (backTo pos (starEach es X.env)).any (·.1) = false := by rfl) :
    PX X Ex (.Call (.Name x p) (e :: es) [] pos) (eCall n F fs) :=
  PE.imp (pe_call G hr hg hm hk hb .nil hx ha hdb he hpl) (call_imp rfl)
/-- nothing leaves: whatever is wished -/
theorem passN {E : XK} : Passes CX0 X E := fun _ _ _ _ _ _ _ h => h.elim
end
/-- what a body gives back -/
@[simp] def outD : Out → R D
  | .rt d => .ok d
  | .nx _ => .ok .non
  | _ => .no
/-- a def's meaning by its body's -/
@[simp] def fnSem (n m : Nat) (body : DS) : List D → R D := fun ds => .ite (ds.length == n) ((body (ds.map (fun d => some (d, imm d)) ++ List.replicate (m - n) none)).bind outD)
theorem start_ok {K : PySem.W.Frag} {H : Hp} {N : List Str} {vs : List V} {ds : List D} {fp : List Addr} (r : RepA K H vs ds fp) {m n : Nat} (hm : N.length = m) (hn : ds.length = n) : ∃ g, OkG K H H (start N vs) (ds.map (fun d => some (d, imm d)) ++ List.replicate (m - n) none) g := by
  have key : ∀ (i : Nat) d o, (ds.map (fun d => some (d, imm d)) ++ List.replicate (m - n) none)[i]? = some (some (d, o)) → ds[i]? = some d ∧ o = imm d := fun i d o e => by
    by_cases l : i < ds.length
    · rw [List.getElem?_append_left (by simpa using l), List.getElem?_map] at e
      rw [List.getElem?_eq_getElem l] at e ⊢
      simp only [Option.map_some, Option.some.injEq, Prod.mk.injEq] at e
      exact ⟨by rw [e.1], by rw [← e.2, e.1]⟩
    · rw [List.getElem?_append_right (by simpa using l), List.getElem?_replicate] at e
      split at e <;> cases e
  have fps : ∀ i : Nat, ∃ f : List Addr, ∀ d, ds[i]? = some d → ∃ v, vs[i]? = some v ∧ Rep K H v d f := fun i => by
    cases e : ds[i]? with
    | none => exact ⟨[], fun d z => by cases z⟩
    | some d =>
      obtain ⟨v, f, e1, r1, _⟩ := r.get e
      exact ⟨f, fun d' z => by cases z; exact ⟨v, e1, r1⟩⟩
  refine ⟨fun i => Classical.choose (fps i), ⟨?_, Same.refl H, fun i d o e => ?_, fun i d e a ha z => ?_, fun i d e => ?_, fun i j d e h1 h2 n a ha => ?_⟩⟩
  · unfold L2.start
    rw [List.length_append, List.length_append, List.length_map, List.length_map, List.length_replicate, List.length_replicate, r.length, hm, hn]
  · obtain ⟨e1, _⟩ := key i d o e
    obtain ⟨v, e2, r1⟩ := Classical.choose_spec (fps i) d e1
    refine ⟨v, ?_, r1⟩
    have hl : i < vs.length := (List.getElem?_eq_some_iff.mp e2).1
    unfold L2.start
    rw [List.getElem?_append_left (by simpa using hl), List.getElem?_map, e2]; rfl
  · obtain ⟨e1, _⟩ := key i d _ e
    obtain ⟨v, e2, r1⟩ := Classical.choose_spec (fps i) d e1
    have := r1.there a ha
    rw [z] at this; cases this
  · obtain ⟨e1, im⟩ := key i d _ e
    obtain ⟨v, e2, r1⟩ := Classical.choose_spec (fps i) d e1
    have e3 := Rep.imm r1 im.symm
    refine ⟨by rw [e3]; exact List.nodup_nil, fun a ha => ?_⟩
    rw [e3] at ha; cases ha
  · obtain ⟨e1, im⟩ := key i d _ h1
    obtain ⟨v, e2, r1⟩ := Classical.choose_spec (fps i) d e1
    rw [Rep.imm r1 im.symm] at ha; cases ha
section
variable {P : Program} {w : World} {K : PySem.W.Frag} {mg : Str → Option Value} {base : Heap}
theorem body_imp {n m : Nat} {body : DS} {N : List Str} {vs : List V} {H : Hp} {Q : VK} {E : XK} (hm : N.length = m) (h : spF K mg n (fnSem n m body) vs H Q E) : tS K mg E body { nx := fun _ H' => Q .non H', rt := Q } (start N vs) H := by
  obtain ⟨ds, fp, r, hl, h⟩ := h
  obtain ⟨_, h⟩ := Post.ite h
  obtain ⟨g, ok⟩ := start_ok r hm hl
  refine ⟨H, g, _, ok, h.bind.imp (fun _ z => z) fun o _ h1 => ?_⟩
  cases o with
  | nx ρ => exact fun B' g' σ' H' s' ok' => h1 .non H' [] (s'.trans ok'.bas) Rep.mk_non Fresh.nil
  | rt d => exact fun v H' fp' s' r' nd fr => h1 v H' fp' s' r' ⟨nd, fr⟩
  | bk ρ => exact h1.elim
  | ct ρ => exact h1.elim
/-- a def that raises nothing -/
theorem fn_ok {x qual : Str} {st : Stmt} {f : Addr} {fd : FuncData} {N ps : List Str} {k n m : Nat} {body : DS} (F : Fun K x qual st f fd) (S : FnScope N ps (defScope st)) (hn : ps.length = n) (hm : N.length = m)
    (hb : ∀ (cdv : Value) (A : Around) (outer : List Env) (s : Shared) (H : Hp) (E : XK), Room k (A.deeper (envOfC qual (defScope st) s.heap.objs.size f cdv)) → PSSX (cxOf CX0 P w K mg base N qual (defScope st) f cdv A outer s H E).nox E0 (defBody st) body) :
    FnOk P w K mg base CX0 (k + 1) f fd ps (spF K mg n (fun ds => (fnSem n m body ds).nox)) :=
  F.ok S (fun vs H Q E h => by rw [hn]; exact spF_len vs H Q E h) fun cdv A outer s H vs Q E hr h => ⟨_, hb cdv A outer s H E hr, body_imp hm (by
    obtain ⟨ds, fp, r, l, h⟩ := h
    refine ⟨ds, fp, r, l, ?_⟩
    cases e : fnSem n m body ds with
    | ok d =>
      have h' : Post (ExB mg E H) (QN K H Q) (fnSem n m body ds).nox := h
      rw [e] at h'; exact h'
    | ex c =>
      have h' : Post (ExB mg E H) (QN K H Q) (fnSem n m body ds).nox := h
      rw [e] at h'; exact h'.elim
    | no =>
      have h' : Post (ExB mg E H) (QN K H Q) (fnSem n m body ds).nox := h
      rw [e] at h'; exact h'.elim)⟩
/-- a def that may raise -/
theorem fn_okX {x qual : Str} {st : Stmt} {f : Addr} {fd : FuncData} {N ps : List Str} {k n m : Nat} {body : DS} (F : Fun K x qual st f fd) (S : FnScope N ps (defScope st)) (hn : ps.length = n) (hm : N.length = m)
    (hb : ∀ (cdv : Value) (A : Around) (outer : List Env) (s : Shared) (H : Hp) (E : XK), Room k (A.deeper (envOfC qual (defScope st) s.heap.objs.size f cdv)) → PSSX (cxOf (L2.CX P w) P w K mg base N qual (defScope st) f cdv A outer s H E) E (defBody st) body) :
    FnOk P w K mg base (L2.CX P w) (k + 1) f fd ps (spF K mg n (fnSem n m body)) :=
  F.okX S (fun vs H Q E h => by rw [hn]; exact spF_len vs H Q E h) fun cdv A outer s H vs Q E hr h => ⟨_, hb cdv A outer s H E hr, body_imp hm h⟩
end
end EQ
/-! EqH: isinstance, list(), tuple(), stores into own lists and dicts. -/
namespace EQ
open PySem PySem.Spec PyProof.Rows L2

/-! ### isinstance -/
@[simp] def tyN : D → String
  | .non => "NoneType"
  | .bl _ => "bool"
  | .int _ => "int"
  | .str _ => "str"
  | .tup _ => "tuple"
  | .lst _ => "list"
  | .dct _ _ => "dict"
  | .scr _ => "list"
theorem Rep.tyX {K : PySem.W.Frag} {H : Hp} {v : V} {d : D} {f : List Addr} (r : Rep K H v d f) : TyX K H v (.type (tyN d)) := by
  cases d with
  | non => obtain ⟨rfl, _⟩ := r.non_inv; exact .base .non
  | bl b => obtain ⟨rfl, _⟩ := r.bl_inv; exact .base (.bl _)
  | int b => obtain ⟨rfl, _⟩ := r.int_inv; exact .base (.int _)
  | str b => obtain ⟨rfl, _⟩ := r.str_inv; exact .base (.str _)
  | tup xs => obtain ⟨a, ys, rfl, ha, _⟩ := r.tup_inv; exact .base (.tup ha)
  | lst xs => obtain ⟨a, ys, _, rfl, _, ha, _⟩ := r.lst_inv; exact .base (.lst ha)
  | dct ks xs =>
    obtain ⟨a, ys, _, rfl, _, ha, _⟩ := r.dct_inv
    rcases ha with ha | ⟨o, ha⟩
    · exact .base (.dK ha)
    · exact .fDict ha
  | scr ns =>
    obtain ⟨a, rfl, ha, _⟩ := r.scr_inv
    rcases ha with ⟨o, ha⟩ | ⟨o, its, n, e, c, _⟩
    · exact .base (.frz ha)
    · exact .kList e c
/-- isinstance(e, T), T a built-in class -/
def isaS (a b : String) : Bool := a == b || (a == "bool" && b == "int")
def isaB (T : String) (d : D) : Bool := isaS (tyN d) T
theorem tyN_mem (d : D) : tyN d ∈ ["NoneType", "bool", "int", "str", "tuple", "list", "dict"] := by cases d <;> simp [tyN]
@[simp] def eIsi (T : String) (fa : DX) : DX := fun ρ => (fa ρ).bind fun x => .ok (.bl (isaB T x.1), true)
section
variable {X : Cx} {Ex : XK} {a b c e : Expr} {es : List Expr} {fa fb fe : DX} {fs : DXs} {pos p q : Pos} {x : Str} {f : DS} {fo : DO1}
theorem px_isi {T : String} (hk : ∀ d, kitB (tyN d) T = some (isaB T d)) {xi xT : Str} (hg : Gl X xi) (hm : X.mg xi = none) (hv : bootBuiltins xi = some (.builtin "isinstance")) (hgT : Gl X xT) (hmT : X.mg xT = none) (hvT : bootBuiltins xT = some (.type T)) (ha : PX X Ex a fa)
    (hn : xi ≠ "__name__" := by decide) (hdb : (xi == ("__debug__" : Str)) = false := by decide) (hnT : xT ≠ "__name__" := by decide) (hdT : (xT == ("__debug__" : Str)) = false := by decide)
    (he : starEach [a, .Name xT q] X.env = (false, eval a X.env) :: starEach [.Name xT q] X.env := by rfl) (he2 : starEach [.Name xT q] X.env = (false, eval (.Name xT q) X.env) :: starEach [] X.env := by rfl) (hpl : (backTo pos (starEach [.Name xT q] X.env)).any (·.1) = false := by rfl) :
    PX X Ex (.Call (.Name xi p) [a, .Name xT q] [] pos) (eIsi T fa) :=
  PE.imp (pe_callB call_isi hg hm hv (pa_cons ha (pa_cons (pe_bltn (v := .ty T) hgT hmT hvT rfl hnT hdT) pa_nil he2) he) hn hdb he hpl) fun σ H Q ⟨B, g, ρ, ok, h⟩ => tX_step ok h fun d o v H1 fp _ s r _ h1 => by
    refine ⟨v, .ty T, _, .type T, isaB T d, rfl, .ty T, Rep.tyX r, kit_ty (hk d), ?_⟩
    exact h1 _ H1 [] s Rep.mk_bl fun _ => Fresh.nil
theorem k_int : ∀ d, kitB (tyN d) "int" = some (isaB "int" d) := fun d => (show ∀ n ∈ ["NoneType", "bool", "int", "str", "tuple", "list", "dict"], kitB n "int" = some (isaS n "int") by decide +kernel) _ (tyN_mem d)
theorem k_bool : ∀ d, kitB (tyN d) "bool" = some (isaB "bool" d) := fun d => (show ∀ n ∈ ["NoneType", "bool", "int", "str", "tuple", "list", "dict"], kitB n "bool" = some (isaS n "bool") by decide +kernel) _ (tyN_mem d)
theorem k_list : ∀ d, kitB (tyN d) "list" = some (isaB "list" d) := fun d => (show ∀ n ∈ ["NoneType", "bool", "int", "str", "tuple", "list", "dict"], kitB n "list" = some (isaS n "list") by decide +kernel) _ (tyN_mem d)
theorem k_tuple : ∀ d, kitB (tyN d) "tuple" = some (isaB "tuple" d) := fun d => (show ∀ n ∈ ["NoneType", "bool", "int", "str", "tuple", "list", "dict"], kitB n "tuple" = some (isaS n "tuple") by decide +kernel) _ (tyN_mem d)
theorem k_str : ∀ d, kitB (tyN d) "str" = some (isaB "str" d) := fun d => (show ∀ n ∈ ["NoneType", "bool", "int", "str", "tuple", "list", "dict"], kitB n "str" = some (isaS n "str") by decide +kernel) _ (tyN_mem d)

/-! ### list(), tuple() -/
@[simp] def keyD : Key → D
  | .inl i => .int i
  | .inr z => .str z
@[simp] def dListOf : D → R D
  | .lst xs => .ok (.lst xs)
  | .tup xs => .ok (.lst xs)
  | .scr ns => .ok (.lst (ns.map .int))
  | .dct ks _ => .ok (.lst (ks.map keyD))
  | _ => .no
@[simp] def eList (fa : DX) : DX := fun ρ => (fa ρ).bind fun x => (dListOf x.1).bind fun d => .ok (d, sliceOwn d)
theorem RepA.keys {K : PySem.W.Frag} {H : Hp} : ∀ ks : List Key, RepA K H (ks.map kV) (ks.map keyD) []
  | [] => .nil
  | .inl i :: r => .int (RepA.keys r)
  | .inr z :: r => .str (RepA.keys r)
theorem px_list (hc : X.calm = true) (hg : Gl X "list") (hm : X.mg "list" = none) (ha : PX X Ex a fa) (he : starEach [a] X.env = (false, eval a X.env) :: starEach [] X.env := by rfl) (hpl : (backTo pos (starEach [] X.env)).any (·.1) = false := by rfl) :
    PX X Ex (.Call (.Name "list" p) [a] [] pos) (eList fa) :=
  PE.imp (pe_callTy (CallR.or call_list_of (call_listD hc)) hg hm boot_list (pa_cons ha pa_nil he) (by decide) (by decide) he hpl) fun σ H Q ⟨B, g, ρ, ok, h⟩ => tX_step ok h fun d o v H1 fp _ s r _ h1 => by
    have fin : ∀ {q : Addr} {xs : List V} {ds : List D} {f : List Addr}, H1 q = none → RepA X.K H1 xs ds f → QX X.K H Q (.lst ds, immA ds) → Q (.ref q) (upd H1 q (.lst xs)) := fun {q xs ds f} nq ra k =>
      k _ _ (q :: f) (s.trans (same_upd nq)) (Rep.mk_lst upd_same (ra.mono (same_upd nq))) fun im => by
        rw [ra.imm im]
        exact ⟨by simp, fun a ha => by
          obtain rfl : a = q := by simpa using ha
          exact ⟨s.free nq, .inl ⟨_, upd_same⟩⟩⟩
    cases d with
    | lst xs =>
      obtain ⟨b, ys, f1, rfl, rfl, hb, ra⟩ := r.lst_inv
      exact .inl ⟨b, ys, rfl, .inl (SqL.of hb), fun q nq => fin nq ra h1⟩
    | tup xs =>
      obtain ⟨b, ys, rfl, hb, ra⟩ := r.tup_inv
      exact .inl ⟨b, ys, rfl, .inr (SqT.of hb), fun q nq => fin nq ra h1⟩
    | scr ns =>
      obtain ⟨b, rfl, hb, rfl⟩ := r.scr_inv
      exact .inl ⟨b, _, rfl, .inl hb.seq, fun q nq => fin nq (RepA.ints ns) h1⟩
    | dct ks xs =>
      obtain ⟨b, kvs, f1, rfl, rfl, hb, hk, ra⟩ := r.dct_inv
      refine .inr ⟨b, kvs, rfl, hb, fun q nq => ?_⟩
      have e : kvs.map (fun kv => kV kv.1) = ks.map kV := by rw [← hk, List.map_map]; rfl
      rw [e]
      exact fin nq (RepA.keys ks) h1
    | _ => exact (show False from h1).elim
@[simp] def dTupOf : D → R D
  | .lst xs => .ok (.tup xs)
  | .tup xs => .ok (.tup xs)
  | _ => .no
@[simp] def eTupOf (fa : DX) : DX := fun ρ => (fa ρ).bind fun x => (dTupOf x.1).bind fun d => .ok (d, imm d)
theorem px_tupOf (hg : Gl X "tuple") (hm : X.mg "tuple" = none) (ha : PX X Ex a fa) (he : starEach [a] X.env = (false, eval a X.env) :: starEach [] X.env := by rfl) (hpl : (backTo pos (starEach [] X.env)).any (·.1) = false := by rfl) :
    PX X Ex (.Call (.Name "tuple" p) [a] [] pos) (eTupOf fa) :=
  PE.imp (pe_callTy call_tuple_of hg hm boot_tuple (pa_cons ha pa_nil he) (by decide) (by decide) he hpl) fun σ H Q ⟨B, g, ρ, ok, h⟩ => tX_step ok h fun d o v H1 fp _ s r _ h1 => by
    cases d with
    | lst xs =>
      obtain ⟨b, ys, f1, rfl, rfl, hb, ra⟩ := r.lst_inv
      refine ⟨b, ys, rfl, .inl ⟨SqL.of hb, fun q nq => ?_⟩⟩
      have k : QX X.K H Q (.tup xs, imm (.tup xs)) := h1
      exact k _ _ f1 (s.trans (same_upd nq)) (Rep.mk_tup upd_same (ra.mono (same_upd nq))) fun im => by rw [ra.imm (by simpa using im)]; exact Fresh.nil
    | tup xs =>
      obtain ⟨b, ys, rfl, hb, ra⟩ := r.tup_inv
      have k : QX X.K H Q (.tup xs, imm (.tup xs)) := h1
      exact ⟨b, ys, rfl, .inr ⟨SqT.of hb, k _ H1 fp s r fun im => by rw [ra.imm (by simpa using im)]; exact Fresh.nil⟩⟩
    | _ => exact (show False from h1).elim

/-! ### stores -/
/-- an own object changes -/
theorem OkG.write {K : PySem.W.Frag} {B H : Hp} {σ : L2.St} {ρ : DEnv} {g : Nat → List Addr} {i : Nat} {d d' : D} {v : V} {o : HO} {a : Addr} {fp : List Addr} (ok : OkG K B H σ ρ g) (e : ρ[i]? = some (some (d, true))) (hv : σ[i]? = some (some v)) (ha : a ∈ g i)
    (ho : (∃ xs, o = .lst xs) ∨ ∃ kvs, o = .dK kvs) (r : Rep K (upd H a o) v d' fp) (nd : fp.Nodup) (hf : ∀ b ∈ fp, b ∈ g i ∨ (B b = none ∧ MutA H b ∧ ∀ j e, j ≠ i → ρ[j]? = some (some (e, true)) → b ∉ g j)) :
    OkG K B (upd H a o) σ (ρ.set i (some (d', true))) (fun j => if j = i then fp else g j) := by
  have ow := ok.own i d e
  have hi : i < ρ.length := (List.getElem?_eq_some_iff.mp e).1
  have ba : B a = none := (ow.2 a ha).1
  have ma : H a = none ∨ (∃ xs, H a = some (.lst xs)) ∨ ∃ kvs, H a = some (.dK kvs) := .inr (ow.2 a ha).2
  have oth : ∀ j y b, j ≠ i → ρ[j]? = some (some (y, b)) → a ∉ g j := fun j y b n z m => by
    cases b with
    | true => exact ok.dis i j d y e z (Ne.symm n) a ha m
    | false => exact ok.frz j y z a m ba
  have ok1 : OkG K B (upd H a o) σ (ρ.set i none) g := by
    have k : ∀ {j y}, (ρ.set i none)[j]? = some (some y) → j ≠ i ∧ ρ[j]? = some (some y) := fun h => by
      rcases get_set h with ⟨_, z, _⟩ | ⟨n, h⟩
      · cases z
      · exact ⟨n, h⟩
    refine ⟨by rw [List.length_set]; exact ok.len, fun b u z => ?_, fun j y b z => ?_, fun j y z => ok.frz j y (k z).2, fun j y z => ⟨(ok.own j y (k z).2).1, fun b hb => ⟨((ok.own j y (k z).2).2 b hb).1, (((ok.own j y (k z).2).2 b hb).2).upd ho⟩⟩, fun j l y y' z z' => ok.dis j l y y' (k z).2 (k z').2⟩
    · rw [upd_ne (ne_of_none z ba)]; exact ok.bas b u z
    · obtain ⟨w, e1, r1⟩ := ok.rep j y b (k z).2
      exact ⟨w, e1, r1.upd (oth j y b (k z).1 (k z).2) ma⟩
  have hσ : σ.set i (some v) = σ := by
    refine List.ext_getElem? fun j => ?_
    by_cases q : i = j
    · subst q
      rw [List.getElem?_set_self (by rw [ok.len]; exact hi), hv]
    · rw [List.getElem?_set_ne q]
  have ok2 := ok1.put (i := i) (v := v) (d := d') (o := true) (fp := fp) (by rw [List.length_set]; exact hi) r (fun z => by cases z) fun _ => ⟨nd, fun b hb => ?_⟩
  · rw [hσ, List.set_set] at ok2
    exact ok2
  · have k : ∀ {j y}, (ρ.set i none)[j]? = some (some y) → j ≠ i ∧ ρ[j]? = some (some y) := fun h => by
      rcases get_set h with ⟨_, z, _⟩ | ⟨n, h⟩
      · cases z
      · exact ⟨n, h⟩
    rcases hf b hb with m | ⟨m1, m2, m3⟩
    · exact ⟨(ow.2 b m).1, (ow.2 b m).2.upd ho, fun j y n z => fun m' => ok.dis i j d y e (k z).2 (Ne.symm n) b m m'⟩
    · exact ⟨m1, m2.upd ho, fun j y n z => m3 j y n (k z).2⟩
/-- x.append(e) -/
@[simp] def sAppend (i : Nat) (fo : DO1) : DS := fun ρ => match ρ[i]? with
  | some (some (.lst ds, true)) => (fo ρ).bind fun p => match p.2[i]? with
    | some (some (.lst ds', true)) => .ite (decide (ds'.length < sizeLine)) (.ok (.nx (p.2.set i (some (.lst (ds' ++ [p.1]), true)))))
    | _ => .no
  | _ => .no
theorem sx_append {i : Nat} {apos cpos : Pos} (hN : X.N[i]? = some x) (hv : Vis X.env.scope x) (hd : (x == ("__debug__" : Str)) = false) (hcd : (x == ("__classdict__" : Str)) = false) (he : POw X Ex e fo) (hst : starEach [e] X.env = (false, eval e X.env) :: starEach [] X.env := by rfl)
    (hbase : attributeBase (.Name x p) "append" X.env (eval (.Name x p) X.env) = eval (.Name x p) X.env := by rfl)
    (hfew : ((backTo cpos (starEach [e] X.env)).all (fun x => !x.1) && (backToKw cpos (keywordEach [] X.env)).all (fun x => x.1.isSome)
      && decide (([e] : List Expr).length + ([] : List Keyword).length + (if ([] : List Keyword).isEmpty then 0 else 1) < 30)) = true := by rfl)
    (hline : (apos.endLine == cpos.line) = true := by rfl) (hplain : (backTo cpos (starEach [] X.env)).any (·.1) = false := by rfl)
    (hs : swapsWith (.Call (.Attribute (.Name x p) "append" apos) [e] [] cpos) none pos.line X.env = pure false := by rfl) :
    PSX X Ex (.Expr (.Call (.Attribute (.Name x p) "append" apos) [e] [] cpos) pos) (sAppend i fo) :=
  PS.imp (ps_expr (pe_bm PySem.F.plainAttrs_list PySem.F.slot_list_append PySem.F.type_list_append mt_append (pe_var hN hv hd hcd) (pa_cons he pa_nil hst) hbase hfew hline hst hplain) hs) fun N σ H ⟨B, g, ρ, ok, h⟩ => by
    unfold sAppend at h
    split at h
    · rename_i ds e0
      obtain ⟨v, e1, r⟩ := ok.rep i _ _ e0
      obtain ⟨a, xs, f1, rfl, eg, ha, ra⟩ := r.lst_inv
      refine ⟨_, e1, .inl ⟨rfl, _, SqL.of ha⟩, B, g, ρ, ok, h.bind.imp (fun _ z => z) fun q _ h1 y H1 fp s ok1 le ry ow => ?_⟩
      split at h1
      · rename_i ds' e2
        obtain ⟨c, h1⟩ := Post.ite h1
        have e3 := le i _ e2
        rw [e0] at e3
        cases e3
        have ga : a ∈ g i := by rw [eg]; simp
        have nd := (ok1.own i _ e2).1
        rw [eg] at nd
        have na : a ∉ f1 := (List.nodup_cons.mp nd).1
        have nfp : a ∉ fp := fun m => ow.ap a m i _ e2 ga
        have ha1 := s _ _ ha
        have mD : H1 a = none ∨ (∃ xs, H1 a = some (.lst xs)) ∨ ∃ kvs, H1 a = some (.dK kvs) := .inr (.inl ⟨_, ha1⟩)
        have ra1 := ra.mono s
        refine ⟨a, xs, y, rfl, rfl, ha1, by rw [ra.length]; exact of_decide_eq_true c, h1 B _ _ _ (Same.refl _) (ok1.write (v := .ref a) (fp := a :: (f1 ++ fp)) e2 e1 ga (.inl ⟨_, rfl⟩) (Rep.mk_lst upd_same ((ra1.upd na mD).append (ry.upd nfp mD))) ?_ fun b hb => ?_)⟩
        · refine List.nodup_cons.mpr ⟨fun m => (List.mem_append.mp m).elim na nfp, List.nodup_append.mpr ⟨(List.nodup_cons.mp nd).2, ow.nd, fun x hx y hy e => ?_⟩⟩
          subst e
          exact ow.ap x hy i _ e2 (by rw [eg]; simp [hx])
        · rcases List.mem_cons.mp hb with rfl | hb
          · exact .inl ga
          · rcases List.mem_append.mp hb with hb | hb
            · exact .inl (by rw [eg]; simp [hb])
            · exact .inr ⟨ow.nb b hb, ow.mu b hb, fun j y _ z => ow.ap b hb j y z⟩
      · exact h1.elim
    · exact h.elim
end
end EQ
/-! EqI: a def as its callers see it, the law's end. -/
namespace EQ
open PySem PySem.Spec PyProof.Rows L2
/-- the module's name x is a def that answers as F -/
def Has (P : Program) (w : World) (K : PySem.W.Frag) (mg : Str → Option Value) (base : Heap) (x : Str) (k n : Nat) (ps : List Str) (F : List D → R D) : Prop :=
  ∃ f fd, FnOk P w K mg base CX0 k f fd ps (spF K mg n F) ∧ mg x = some (.ref f) ∧ PySem.W.keepIn K (.ref f) = true ∧ Binds K fd ps []
/-- the script as the law gets it -/
def spL (K : PySem.W.Frag) : Sp := fun vs H Q _ => ∃ (a : Addr) (ns : List Int), vs = [.ref a] ∧ SqL K H a (ns.map V.int) ∧ ns.length ≤ 63 ∧ Only H ∧ ∀ H', Q (.bl true) H'
theorem law_end {P : Program} {w : World} {K : PySem.W.Frag} {mg : Str → Option Value} {base : Heap} {k : Nat} {f : Addr} {fd : FuncData} {F : List D → R D} (G : FnOk P w K mg base CX0 k f fd ["script"] (spF K mg 1 F)) (h : ∀ ns : List Int, ns.length ≤ 63 → F [.scr ns] = .ok (.bl true)) :
    FnOk P w K mg base CX0 k f fd ["script"] (spL K) := G.imp fun vs H Q E ⟨a, ns, e, s, l, o, q⟩ => by
  subst e
  have sc : Scr K H a ns := by
    rcases s with (s | ⟨ob, s⟩) | s
    · rcases o a with z | ⟨_, _, z⟩ <;> rw [z] at s <;> cases s
    · exact .inl ⟨ob, s⟩
    · exact .inr s
  refine ⟨[.scr ns], [], .scr sc .nil, rfl, ?_⟩
  rw [h ns l]
  exact fun v H' fp s' r _ => by
    obtain ⟨rfl, _⟩ := r.bl_inv
    exact q H'
/-! ### one statement after another -/
theorem seq_nx {f f' : DS} {ρ ρ' : DEnv} {r : R Out} (h : f ρ = .ok (.nx ρ')) (k : f' ρ' = r) : sSeq f f' ρ = r := by
  rw [← k, sSeq, h]; rfl
theorem seq_rt {f f' : DS} {ρ : DEnv} {d : D} (h : f ρ = .ok (.rt d)) : sSeq f f' ρ = .ok (.rt d) := by
  rw [sSeq, h]; rfl
theorem atI_nn {α : Type} (xs : List α) (d : α) (i : Int) (h0 : 0 ≤ i) (h1 : i < xs.length) : atI xs i = some (xs.getD i.toNat d) := by
  unfold atI ixN
  rw [if_pos h0, if_pos h1]
  have : i.toNat < xs.length := by omega
  simp [List.getD_eq_getElem?_getD, this]
theorem atI_nat' {α : Type} (xs : List α) (i : Nat) : atI xs (i : Int) = xs[i]? := by
  unfold atI ixN
  rw [if_pos (by omega)]
  split
  · simp
  · rename_i h
    simp only [Option.bind_none]
    exact (List.getElem?_eq_none (by omega)).symm
@[simp] theorem atI_lit {α : Type} (xs : List α) (n : Nat) : atI xs (no_index (OfNat.ofNat n)) = xs[n]? := atI_nat' xs n
@[simp] theorem atI_zero {α : Type} (xs : List α) : atI xs 0 = xs[0]? := atI_nat' xs 0
@[simp] theorem atI_one {α : Type} (xs : List α) : atI xs 1 = xs[1]? := atI_nat' xs 1
end EQ
/-! EqJ: stores by places and keys, insert, clear, pop, list(range), list(reversed). -/
namespace EQ
open PySem PySem.Spec PyProof.Rows L2

@[simp] def dSetV : List Key → List D → Key → D → List D
  | k :: ks, v :: vs, x, d => (if k = x then d else v) :: dSetV ks vs x d
  | _, vs, _, _ => vs
@[simp] def hasK (ks : List Key) (k : Key) : Bool := ks.any fun x => decide (x = k)
@[simp] def stLst (i : Nat) (p : D × DEnv) (ds : List D) (k : D × Bool) : R Out := match k.1 with
  | .int z => (ofO (ixN ds.length z)).bind fun j => .ok (.nx (p.2.set i (some (.lst (ds.set j p.1), true))))
  | _ => .no
@[simp] def stDct (i : Nat) (p : D × DEnv) (ks : List Key) (vs : List D) (k : D × Bool) : R Out := match toKey k.1 with
  | some key => .ite (decide (ks.length < sizeLine) && imm p.1) (match hasK ks key with
    | true => .ok (.nx (p.2.set i (some (.dct ks (dSetV ks vs key p.1), true))))
    | false => .ok (.nx (p.2.set i (some (.dct (ks ++ [key]) (vs ++ [p.1]), true)))))
  | none => .no
@[simp] def sStore (i : Nat) (fk : DX) (fo : DO1) : DS := fun ρ => (fo ρ).bind fun p => match p.2[i]? with
  | some (some (.lst ds, true)) => (fk p.2).bind (stLst i p ds)
  | some (some (.dct ks vs, true)) => (fk p.2).bind (stDct i p ks vs)
  | _ => .no
theorem putK_rep {K : PySem.W.Frag} {H : Hp} {kvs : List (Key × V)} {vs : List D} {f : List Addr} {k : Key} {v : V} {d : D} (r : RepA K H (kvs.map (·.2)) vs f) (rd : Rep K H v d []) :
    (hasK (kvs.map (·.1)) k = true → (putK kvs k v).map (·.1) = kvs.map (·.1) ∧ ∃ f1, RepA K H ((putK kvs k v).map (·.2)) (dSetV (kvs.map (·.1)) vs k d) f1 ∧ f1.Sublist f) ∧
    (hasK (kvs.map (·.1)) k = false → (putK kvs k v).map (·.1) = kvs.map (·.1) ++ [k] ∧ RepA K H ((putK kvs k v).map (·.2)) (vs ++ [d]) f) := by
  have e : hasK (kvs.map (·.1)) k = kvs.any fun kv => decide (kv.1 = k) := by unfold hasK; rw [List.any_map]; rfl
  refine ⟨fun h => ?_, fun h => ?_⟩
  · rw [e] at h
    unfold putK
    rw [if_pos h]
    refine ⟨by rw [List.map_map]; exact List.map_congr_left fun p _ => by by_cases c : p.1 = k <;> simp [c], ?_⟩
    clear h e
    induction kvs generalizing vs f with
    | nil => obtain ⟨_, _⟩ : vs = vs ∧ True := ⟨rfl, trivial⟩; exact ⟨f, by simpa [dSetV] using r, List.Sublist.refl _⟩
    | cons p ps ih =>
      cases vs with
      | nil => cases r.nil_d.1
      | cons w ws =>
        obtain ⟨x, xs, f1, f2, ex, rfl, r1, r2⟩ := r.cons_d
        rw [List.map_cons] at ex
        obtain ⟨rfl, rfl⟩ := List.cons.inj ex
        obtain ⟨f3, i1, i2⟩ := ih r2
        by_cases c : p.1 = k
        · refine ⟨[] ++ f3, ?_, (List.nil_append f3).symm ▸ i2.trans (List.sublist_append_right _ _)⟩
          have := RepA.cons rd i1
          simpa [dSetV, c] using this
        · refine ⟨f1 ++ f3, ?_, i2.append_left f1⟩
          have := RepA.cons r1 i1
          simpa [dSetV, c] using this
  · rw [e] at h
    unfold putK
    rw [if_neg (by rw [h]; decide)]
    refine ⟨by rw [List.map_append]; rfl, ?_⟩
    rw [List.map_append]
    have := r.append (show RepA K H [v] [d] [] from rd)
    rwa [List.append_nil] at this
section
variable {X : Cx} {Ex : XK} {a b c e o k : Expr} {es : List Expr} {fa fb fk fk2 : DX} {fs : DXs} {pos p q tpos : Pos} {x : Str} {fo : DO1}
theorem sx_store {i : Nat} (hu : X.A.units + 1 < cLine) (hN : X.N[i]? = some x) (hv : Vis X.env.scope x) (hd : (x == ("__debug__" : Str)) = false) (hcd : (x == ("__classdict__" : Str)) = false) (hk : PX X Ex k fk) (he : POw X Ex e fo)
    (hs : swapsWithSole [.Subscript (.Name x p) k tpos] e pos.line X.env = pure false := by rfl) (hw : swappedStores [.Subscript (.Name x p) k tpos] e X.env = pure none := by rfl)
    (h1 : (assignEach [.Subscript (.Name x p) k tpos] X.env).map (·.2) = [assign (.Subscript (.Name x p) k tpos) X.env] := by rfl)
    (ha : ∀ v, assign (.Subscript (.Name x p) k tpos) X.env v = (do
      let ov ← holding [v] (eval (.Name x p) X.env)
      let iv ← holding [v, ov] (eval k X.env)
      standAt tpos
      holding [v, ov, iv] (setItem ov iv v)
      release [v, ov, iv] []) := by intro _; rfl)
    (hs2 : swapsWith e (some (.Subscript (.Name x p) k tpos)) pos.line X.env = pure false := by rfl) :
    PSX X Ex (.Assign [.Subscript (.Name x p) k tpos] e pos) (sStore i fk fo) :=
  PS.imp (PS.or (ps_asg he (pg_sub (pe_var hN hv hd hcd) hk set_list ha) hs hw h1) (ps_dput hu (pe_var hN hv hd hcd) hk he hs2)) fun N σ H ⟨B, g, ρ, ok, h⟩ => by
    have hp : ∀ c, ExB X.mg Ex B c → ExB X.mg Ex B c := fun _ z => z
    cases ef : fo ρ with
    | ex c =>
      have h' : Post (ExB X.mg Ex B) (QS X.K B N) (sStore i fk fo ρ) := h
      simp only [sStore] at h'
      rw [ef] at h'
      exact .inl ⟨B, g, ρ, ok, by rw [ef]; exact h'⟩
    | no =>
      simp only [sStore] at h
      rw [ef] at h; exact h.elim
    | ok p0 =>
      simp only [sStore] at h
      rw [ef, R.bind_ok] at h
      by_cases cl : ∃ ds, p0.2[i]? = some (some (.lst ds, true))
      · obtain ⟨ds, e2⟩ := cl
        refine .inl ⟨B, g, ρ, ok, ?_⟩
        rw [ef]
        intro v H1 fp s ok1 le r ow
        obtain ⟨va, e1, rv⟩ := ok1.rep i _ _ e2
        rw [e2] at h
        refine ⟨va, e1, tX_step ok1 h fun d o2 vk H2 fpk _ s2 rk _ h2 => ?_⟩
        cases d with
        | int z =>
          obtain ⟨rfl, _⟩ := rk.int_inv
          have h3 : Post (ExB X.mg Ex B) (QS X.K B N) ((ofO (ixN ds.length z)).bind fun j => .ok (.nx (p0.2.set i (some (.lst (ds.set j p0.1), true))))) := h2
          cases ej : ixN ds.length z with
          | none => rw [ej] at h3; exact h3.elim
          | some j =>
            rw [ej] at h3
            obtain ⟨a, xs, f1, rfl, eg, ha, ra⟩ := (rv.mono s2).lst_inv
            have ga : a ∈ g i := by rw [eg]; simp
            have nd := (ok1.own i _ e2).1
            rw [eg] at nd
            have na : a ∉ f1 := (List.nodup_cons.mp nd).1
            have nfp : a ∉ fp := fun m => ow.ap a m i _ e2 ga
            obtain ⟨f3, rs, ms, ns⟩ := ra.setS j (r.mono s2)
            have na3 : a ∉ f3 := fun m => (ms a m).elim na nfp
            refine ⟨a, xs, z, j, rfl, rfl, ha, by rw [ra.length]; exact ej, ?_⟩
            refine h3 B _ _ _ (Same.refl _) ((ok1.mono s2).write (v := .ref a) (fp := a :: f3) e2 e1 ga (.inl ⟨_, rfl⟩) (Rep.mk_lst upd_same (rs.upd na3 (.inr (.inl ⟨_, ha⟩)))) ?_ fun b hb => ?_)
            · exact List.nodup_cons.mpr ⟨na3, ns (List.nodup_cons.mp nd).2 ow.nd fun b hb hb2 => ow.ap b hb2 i _ e2 (by rw [eg]; simp [hb])⟩
            · rcases List.mem_cons.mp hb with rfl | hb
              · exact .inl ga
              · rcases ms b hb with m | m
                · exact .inl (by rw [eg]; simp [m])
                · exact .inr ⟨ow.nb b m, (ow.mu b m).mono s2, fun j y _ z => ow.ap b m j y z⟩
        | _ => exact h2.elim
      · by_cases cd : ∃ ks vs, p0.2[i]? = some (some (.dct ks vs, true))
        · obtain ⟨ks, vs, e2⟩ := cd
          refine .inr ⟨B, g, ρ, ok, ?_⟩
          rw [ef]
          intro v H1 fp s ok1 le r ow
          obtain ⟨va, e1, rv⟩ := ok1.rep i _ _ e2
          rw [e2] at h
          refine ⟨va, e1, tX_step ok1 h fun d o2 vk H2 fpk _ s2 rk _ h2 => ?_⟩
          have h3 : Post (ExB X.mg Ex B) (QS X.K B N) (match toKey d with
            | some key => R.ite (decide (ks.length < sizeLine) && imm p0.1) (match hasK ks key with
              | true => .ok (.nx (p0.2.set i (some (.dct ks (dSetV ks vs key p0.1), true))))
              | false => .ok (.nx (p0.2.set i (some (.dct (ks ++ [key]) (vs ++ [p0.1]), true)))))
            | none => .no) := h2
          cases ek : toKey d with
          | none => rw [ek] at h3; exact h3.elim
          | some key =>
            rw [ek] at h3
            obtain ⟨cc, h3⟩ := Post.ite h3
            simp only [Bool.and_eq_true, decide_eq_true_eq] at cc
            have efp := Rep.imm r cc.2
            subst efp
            have em := (ok1.own i _ e2).2
            obtain ⟨a, kvs, f1, rfl, eg, ha, ehk, ra⟩ := (rv.mono s2).dctM fun b hb => (em b hb).2.mono s2
            have ga : a ∈ g i := by rw [eg]; simp
            have nd := (ok1.own i _ e2).1
            rw [eg] at nd
            have na : a ∉ f1 := (List.nodup_cons.mp nd).1
            have mm : H2 a = none ∨ (∃ xs, H2 a = some (.lst xs)) ∨ ∃ kvs, H2 a = some (.dK kvs) := .inr (.inr ⟨_, ha⟩)
            obtain ⟨pk1, pk2⟩ := putK_rep (k := key) ra (r.mono s2)
            rw [ehk] at pk1 pk2
            have hl : kvs.length < sizeLine := by
              have : kvs.length = ks.length := by rw [← ehk, List.length_map]
              omega
            refine ⟨a, _, rfl, .inl ⟨kvs, key, ha, kV_toKey rk ek, hl, rfl⟩, ?_⟩
            cases eh : hasK ks key with
            | true =>
              rw [eh] at h3
              obtain ⟨q1, f3, q2, q3⟩ := pk1 eh
              refine h3 B _ _ _ (Same.refl _) ((ok1.mono s2).write (v := .ref a) (fp := a :: f3) e2 e1 ga (.inr ⟨_, rfl⟩) (Rep.mk_dct (.inl upd_same) q1 (q2.upd (fun m => na (q3.subset m)) mm)) (List.nodup_cons.mpr ⟨fun m => na (q3.subset m), (List.nodup_cons.mp nd).2.sublist q3⟩) fun b hb => ?_)
              rcases List.mem_cons.mp hb with rfl | hb
              · exact .inl ga
              · exact .inl (by rw [eg]; simp [q3.subset hb])
            | false =>
              rw [eh] at h3
              obtain ⟨q1, q2⟩ := pk2 eh
              refine h3 B _ _ _ (Same.refl _) ((ok1.mono s2).write (v := .ref a) (fp := a :: f1) e2 e1 ga (.inr ⟨_, rfl⟩) (Rep.mk_dct (.inl upd_same) q1 (q2.upd na mm)) nd fun b hb => .inl (by rw [eg]; exact hb))
        · exfalso
          split at h
          · rename_i ds e2; exact cl ⟨ds, e2⟩
          · rename_i ks vs e2; exact cd ⟨ks, vs, e2⟩
          · exact h.elim
/-! x[i][j] = e, a number or the like -/
theorem RepA.inner {K : PySem.W.Frag} {H : Hp} : ∀ {ds : List D} {vs : List V} {f : List Addr} {j : Nat} {es : List D}, RepA K H vs ds f → f.Nodup → ds[j]? = some (.lst es) →
    ∃ b ys fi, vs[j]? = some (.ref b) ∧ b ∈ f ∧ H b = some (.lst ys) ∧ RepA K H ys es fi ∧ b ∉ fi ∧ fi.Nodup ∧
      ∀ ys' es' fi', RepA K (L2.upd H b (.lst ys')) ys' es' fi' → fi'.Nodup → b ∉ fi' → (∀ c ∈ fi', c ∈ fi) → ∃ f', RepA K (L2.upd H b (.lst ys')) vs (ds.set j (.lst es')) f' ∧ f'.Nodup ∧ ∀ c ∈ f', c ∈ f
  | [], vs, f, j, es, r, nd, e => by simp at e
  | d :: ds, vs, f, j, es, r, nd, e => by
    obtain ⟨v, ws, f1, f2, rfl, rfl, r1, r2⟩ := r.cons_d
    obtain ⟨n1, n2, n3⟩ := List.nodup_append.mp nd
    cases j with
    | zero =>
      obtain rfl : d = .lst es := by simpa using e
      obtain ⟨b, ys, fi, rfl, rfl, hb, ri⟩ := r1.lst_inv
      obtain ⟨m1, m2⟩ := List.nodup_cons.mp n1
      refine ⟨b, ys, fi, rfl, by simp, hb, ri, m1, m2, fun ys' es' fi' rr nd' nb sub => ⟨(b :: fi') ++ f2, RepA.cons (Rep.mk_lst upd_same rr) (r2.upd (fun m => n3 b (by simp) b m rfl) (.inr (.inl ⟨_, hb⟩))), ?_, fun c hc => ?_⟩⟩
      · refine List.nodup_append.mpr ⟨List.nodup_cons.mpr ⟨nb, nd'⟩, n2, fun x hx y hy exy => ?_⟩
        subst exy
        rcases List.mem_cons.mp hx with rfl | hx
        · exact n3 _ (by simp) _ hy rfl
        · exact n3 x (by simp [sub x hx]) x hy rfl
      · rcases List.mem_append.mp hc with hc | hc
        · rcases List.mem_cons.mp hc with rfl | hc
          · simp
          · simp [sub c hc]
        · simp [hc]
    | succ j =>
      obtain ⟨b, ys, fi, a1, a2, a3, a4, a5, a6, a7⟩ := RepA.inner r2 n2 (by simpa using e)
      refine ⟨b, ys, fi, by simpa using a1, by simp [a2], a3, a4, a5, a6, fun ys' es' fi' rr nd' nb sub => ?_⟩
      obtain ⟨f', b1, b2, b3⟩ := a7 ys' es' fi' rr nd' nb sub
      refine ⟨f1 ++ f', RepA.cons (r1.upd (fun m => n3 b m b a2 rfl) (.inr (.inl ⟨_, a3⟩))) b1, List.nodup_append.mpr ⟨n1, b2, fun x hx y hy exy => ?_⟩, fun c hc => ?_⟩
      · subst exy
        exact n3 x hx x (b3 x hy) rfl
      · rcases List.mem_append.mp hc with hc | hc
        · simp [hc]
        · simp [b3 c hc]
@[simp] def rowAt (ds : List D) (k : D) : Option (Nat × List D) := match k with
  | .int z => (ixN ds.length z).bind fun j => match ds[j]? with
    | some (.lst es) => some (j, es)
    | _ => none
  | _ => none
@[simp] def st2 (i : Nat) (p : D × DEnv) (ds : List D) (j1 : Nat) (es : List D) (k2 : D × Bool) : R Out := match k2.1 with
  | .int z2 => (ofO (ixN es.length z2)).bind fun j2 => .ite (imm p.1) (.ok (.nx (p.2.set i (some (.lst (ds.set j1 (.lst (es.set j2 p.1))), true)))))
  | _ => .no
@[simp] def sStore2 (i : Nat) (fk fk2 : DX) (fo : DO1) : DS := fun ρ => (fo ρ).bind fun p => match p.2[i]? with
  | some (some (.lst ds, true)) => (fk p.2).bind fun k1 => match rowAt ds k1.1 with
    | some (j1, es) => (fk2 p.2).bind (st2 i p ds j1 es)
    | none => .no
  | _ => .no
theorem sx_store2 {i : Nat} {k2 : Expr} {ipos : Pos} (hN : X.N[i]? = some x) (hv : Vis X.env.scope x) (hd : (x == ("__debug__" : Str)) = false) (hcd : (x == ("__classdict__" : Str)) = false) (hk : PX X Ex k fk) (hsk : PlainIx k) (hk2 : PX X Ex k2 fk2) (he : POw X Ex e fo)
    (hs : swapsWithSole [.Subscript (.Subscript (.Name x p) k ipos) k2 tpos] e pos.line X.env = pure false := by rfl) (hw : swappedStores [.Subscript (.Subscript (.Name x p) k ipos) k2 tpos] e X.env = pure none := by rfl)
    (h1 : (assignEach [.Subscript (.Subscript (.Name x p) k ipos) k2 tpos] X.env).map (·.2) = [assign (.Subscript (.Subscript (.Name x p) k ipos) k2 tpos) X.env] := by rfl)
    (ha : ∀ v, assign (.Subscript (.Subscript (.Name x p) k ipos) k2 tpos) X.env v = (do
      let ov ← holding [v] (eval (.Subscript (.Name x p) k ipos) X.env)
      let iv ← holding [v, ov] (eval k2 X.env)
      standAt tpos
      holding [v, ov, iv] (setItem ov iv v)
      release [v, ov, iv] []) := by intro _; rfl) :
    PSX X Ex (.Assign [.Subscript (.Subscript (.Name x p) k ipos) k2 tpos] e pos) (sStore2 i fk fk2 fo) :=
  PS.imp (ps_asg he (pg_sub (pe_ix ix_list (pe_var hN hv hd hcd) hk hsk) hk2 set_list ha) hs hw h1) fun N σ H ⟨B, g, ρ, ok, h⟩ =>
    ⟨B, g, ρ, ok, Post.imp (Post.bind h) (fun _ z => z) fun p0 _ h v H1 fp s ok1 le r ow => by
      split at h
      · rename_i ds e2
        obtain ⟨va, e1, rv⟩ := ok1.rep i _ _ e2
        refine ⟨va, e1, tX_step ok1 h fun d o2 vk H2 fpk _ s2 rk _ h2 => ?_⟩
        have h3 : Post (ExB X.mg Ex B) (QS X.K B N) (match rowAt ds d with | some (j1, es) => (fk2 p0.2).bind (st2 i p0 ds j1 es) | none => .no) := h2
        cases er : rowAt ds d with
        | none => rw [er] at h3; exact h3.elim
        | some je =>
          obtain ⟨j1, es⟩ := je
          rw [er] at h3
          unfold rowAt at er
          split at er
          · rename_i z1 hz1
            obtain ⟨rfl, _⟩ := rk.int_inv
            obtain ⟨j, ej, er⟩ := Option.bind_eq_some_iff.mp er
            split at er
            · rename_i es' ee
              cases er
              obtain ⟨a, xs, f1, rfl, eg, ha, ra⟩ := (rv.mono s2).lst_inv
              have nd := (ok1.own i _ e2).1
              rw [eg] at nd
              have n1 := List.nodup_cons.mp nd
              obtain ⟨b, ys, fi, a1, a2, a3, a4, a5, a6, a7⟩ := RepA.inner ra n1.2 ee
              refine ⟨a, xs, z1, .ref b, rfl, rfl, SqL.of ha, ?_, ?_⟩
              · unfold atI
                rw [ra.length, ej]
                exact a1
              · refine tX_step ((ok1.mono s2)) h3 fun d2 o3 vk2 H3 fpk2 _ s3 rk2 _ h4 => ?_
                have h5 : Post (ExB X.mg Ex B) (QS X.K B N) (st2 i p0 ds j1 es (d2, o3)) := h4
                unfold st2 at h5
                cases d2 with
                | int z2 =>
                  obtain ⟨rfl, _⟩ := rk2.int_inv
                  cases ej2 : ixN es.length z2 with
                  | none =>
                    have h6 : Post (ExB X.mg Ex B) (QS X.K B N) ((ofO (ixN es.length z2)).bind fun j2 => .ite (imm p0.1) (.ok (.nx (p0.2.set i (some (.lst (ds.set j1 (.lst (es.set j2 p0.1))), true)))))) := h5
                    rw [ej2] at h6; exact h6.elim
                  | some j2 =>
                    have h6 : Post (ExB X.mg Ex B) (QS X.K B N) ((ofO (ixN es.length z2)).bind fun j2 => .ite (imm p0.1) (.ok (.nx (p0.2.set i (some (.lst (ds.set j1 (.lst (es.set j2 p0.1))), true)))))) := h5
                    rw [ej2] at h6
                    obtain ⟨ci, h6⟩ := Post.ite h6
                    have efp := Rep.imm r ci
                    subst efp
                    have ok3 := (ok1.mono s2).mono s3
                    have ra3 := ra.mono s3
                    obtain ⟨b', ys', fi', c1, c2, c3, c4, c5, c6, c7⟩ := RepA.inner ra3 n1.2 ee
                    obtain rfl : b = b' := by rw [a1] at c1; exact V.ref.inj (Option.some.inj c1)
                    have eys : ys' = ys := by
                      have := s3 _ _ a3
                      rw [c3] at this; cases this; rfl
                    subst eys
                    obtain ⟨f3, rs, ms, ns⟩ := c4.setS j2 ((r.mono s2).mono s3)
                    have gb : b ∈ g i := by rw [eg]; simp [c2]
                    have sub : ∀ c ∈ f3, c ∈ fi' := fun c hc => (ms c hc).elim id fun z => by cases z
                    have nb : b ∉ f3 := fun m => c5 (sub b m)
                    have mm : H3 b = none ∨ (∃ xs, H3 b = some (.lst xs)) ∨ ∃ kvs, H3 b = some (.dK kvs) := .inr (.inl ⟨_, c3⟩)
                    obtain ⟨f', d1, d2', d3⟩ := c7 (ys'.set j2 v) (es.set j2 p0.1) f3 (rs.upd nb mm) (ns c6 List.nodup_nil fun b _ z => by cases z) nb sub
                    refine ⟨b, ys', z2, j2, rfl, rfl, c3, by rw [c4.length]; exact ej2, ?_⟩
                    have hab : a ≠ b := fun z => n1.1 (z ▸ c2)
                    refine h6 B _ _ _ (Same.refl _) (ok3.write (v := .ref a) (fp := a :: f') e2 e1 gb (.inl ⟨_, rfl⟩) (Rep.mk_lst (by rw [upd_ne hab]; exact s3 _ _ ha) d1) (List.nodup_cons.mpr ⟨fun m => n1.1 (d3 a m), d2'⟩) fun c hc => ?_)
                    rcases List.mem_cons.mp hc with rfl | hc
                    · exact .inl (by rw [eg]; simp)
                    · exact .inl (by rw [eg]; simp [d3 c hc])
                | _ => exact h5.elim
            · cases er
          · cases er
      · exact h.elim⟩
end
end EQ
/-! EqK: min and max of three, clear, insert, pop, append in a row, list(range), list(reversed), get. -/
namespace EQ
open PySem PySem.Spec PyProof.Rows L2

section
variable {X : Cx}
theorem vals3 {a b c : V} {us : List Value} (r : Vals [a, b, c] us) : ∃ u v w, us = [u, v, w] ∧ RelV a u ∧ RelV b v ∧ RelV c w := by
  cases r with
  | cons h1 t => obtain ⟨v, w, rfl, h2, h3⟩ := L2.Vals.two t; exact ⟨_, _, _, rfl, h1, h2, h3⟩
theorem call_max3 (hc : X.calm = true) : CallR X (.builtin "max") (fun xs H Q => ∃ i j k, xs = [.int i, .int j, .int k] ∧ Q (.int (max (max i j) k)) H) := by
  intro pins s σ H xs us Q I r h
  obtain ⟨i, j, k, rfl, q⟩ := h
  obtain ⟨u, v, w', rfl, ⟨t, rfl⟩, ⟨t', rfl⟩, ⟨t2, rfl⟩⟩ := vals3 r
  refine max_three_ints (I.ok.hd hc) fun h' tk kp => ⟨_, H, I.kept kp, ?_, q⟩
  by_cases h1 : j > i
  · by_cases h2 : k > j
    · rw [if_pos h1, if_pos h2]; exact ⟨_, by rw [show max (max i j) k = k by omega]⟩
    · rw [if_pos h1, if_neg h2]; exact ⟨_, by rw [show max (max i j) k = j by omega]⟩
  · by_cases h2 : k > i
    · rw [if_neg h1, if_pos h2]; exact ⟨_, by rw [show max (max i j) k = k by omega]⟩
    · rw [if_neg h1, if_neg h2]; exact ⟨_, by rw [show max (max i j) k = i by omega]⟩
theorem call_min3 (hc : X.calm = true) : CallR X (.builtin "min") (fun xs H Q => ∃ i j k, xs = [.int i, .int j, .int k] ∧ Q (.int (min (min i j) k)) H) := by
  intro pins s σ H xs us Q I r h
  obtain ⟨i, j, k, rfl, q⟩ := h
  obtain ⟨u, v, w', rfl, ⟨t, rfl⟩, ⟨t', rfl⟩, ⟨t2, rfl⟩⟩ := vals3 r
  refine min_three_ints (I.ok.hd hc) fun h' tk kp => ⟨_, H, I.kept kp, ?_, q⟩
  by_cases h1 : j < i
  · by_cases h2 : k < j
    · rw [if_pos h1, if_pos h2]; exact ⟨_, by rw [show min (min i j) k = k by omega]⟩
    · rw [if_pos h1, if_neg h2]; exact ⟨_, by rw [show min (min i j) k = j by omega]⟩
  · by_cases h2 : k < i
    · rw [if_neg h1, if_pos h2]; exact ⟨_, by rw [show min (min i j) k = k by omega]⟩
    · rw [if_neg h1, if_neg h2]; exact ⟨_, by rw [show min (min i j) k = i by omega]⟩
end
@[simp] def dMax3 : List D → R D
  | [.int a, .int b, .int c] => .ok (.int (max (max a b) c))
  | _ => .no
@[simp] def dMin3 : List D → R D
  | [.int a, .int b, .int c] => .ok (.int (min (min a b) c))
  | _ => .no
theorem RepA.three {K : PySem.W.Frag} {H : Hp} {xs : List V} {a b c : D} {f : List Addr} (r : RepA K H xs [a, b, c] f) : ∃ u v w f1 f2 f3, xs = [u, v, w] ∧ Rep K H u a f1 ∧ Rep K H v b f2 ∧ Rep K H w c f3 := by
  obtain ⟨u, us, f1, f2, rfl, rfl, r1, r2⟩ := r.cons_d
  obtain ⟨v, w, f3, f4, rfl, rfl, r3, r4⟩ := r2.two
  exact ⟨u, v, w, f1, f3, f4, rfl, r1, r3, r4⟩
theorem snd_max3 {K : PySem.W.Frag} : SndL K (fun xs H Q => ∃ i j k, xs = [.int i, .int j, .int k] ∧ Q (.int (max (max i j) k)) H) dMax3 := fun H xs ds fp z Q r q h => by
  unfold dMax3 at q
  split at q
  · cases q
    obtain ⟨u, v, w, f1, f2, f3, rfl, r1, r2, r3⟩ := r.three
    obtain ⟨rfl, _⟩ := r1.int_inv
    obtain ⟨rfl, _⟩ := r2.int_inv
    obtain ⟨rfl, _⟩ := r3.int_inv
    exact ⟨_, _, _, rfl, h.int⟩
  · cases q
theorem snd_min3 {K : PySem.W.Frag} : SndL K (fun xs H Q => ∃ i j k, xs = [.int i, .int j, .int k] ∧ Q (.int (min (min i j) k)) H) dMin3 := fun H xs ds fp z Q r q h => by
  unfold dMin3 at q
  split at q
  · cases q
    obtain ⟨u, v, w, f1, f2, f3, rfl, r1, r2, r3⟩ := r.three
    obtain ⟨rfl, _⟩ := r1.int_inv
    obtain ⟨rfl, _⟩ := r2.int_inv
    obtain ⟨rfl, _⟩ := r3.int_inv
    exact ⟨_, _, _, rfl, h.int⟩
  · cases q
theorem ne_max3 : NoExL dMax3 := fun ds c q => by
  unfold dMax3 at q
  split at q <;> cases q
theorem ne_min3 : NoExL dMin3 := fun ds c q => by
  unfold dMin3 at q
  split at q <;> cases q

/-! ### methods of an own list, as statements -/
section
variable {X : Cx} {Ex : XK} {a b c e o k : Expr} {es : List Expr} {fa fb fk fk2 : DX} {fs : DXs} {pos p q tpos apos cpos : Pos} {x : Str} {fo : DO1}
/-- x.clear() -/
@[simp] def sClear (i : Nat) : DS := fun ρ => match ρ[i]? with
  | some (some (.lst _, true)) => .ok (.nx (ρ.set i (some (.lst [], true))))
  | _ => .no
theorem sx_clear {i : Nat} (hN : X.N[i]? = some x) (hv : Vis X.env.scope x) (hd : (x == ("__debug__" : Str)) = false) (hcd : (x == ("__classdict__" : Str)) = false)
    (hbase : attributeBase (.Name x p) "clear" X.env (eval (.Name x p) X.env) = eval (.Name x p) X.env := by rfl)
    (hline : (apos.endLine == cpos.line) = true := by rfl)
    (hs : swapsWith (.Call (.Attribute (.Name x p) "clear" apos) [] [] cpos) none pos.line X.env = pure false := by rfl) :
    PSX X Ex (.Expr (.Call (.Attribute (.Name x p) "clear" apos) [] [] cpos) pos) (sClear i) :=
  PS.imp (ps_expr (pe_bm0 PySem.F.plainAttrs_list PySem.F.slot_list_clear PySem.F.type_list_clear mt_clear (pe_var hN hv hd hcd) hbase hline) hs) fun N σ H ⟨B, g, ρ, ok, h⟩ => by
    unfold sClear at h
    split at h
    · rename_i ds e0
      obtain ⟨v, e1, r⟩ := ok.rep i _ _ e0
      obtain ⟨a, xs, f1, rfl, eg, ha, ra⟩ := r.lst_inv
      have ga : a ∈ g i := by rw [eg]; simp
      refine ⟨_, e1, .inl ⟨rfl, _, SqL.of ha⟩, a, xs, rfl, rfl, ha, h B _ _ _ (Same.refl _) (ok.write (v := .ref a) (fp := [a]) e0 e1 ga (.inl ⟨_, rfl⟩) (Rep.mk_lst upd_same .nil) (by simp) fun b hb => ?_)⟩
      obtain rfl : b = a := by simpa using hb
      exact .inl ga
    · exact h.elim
/-- x.pop() -/
@[simp] def sPop (i : Nat) : DS := fun ρ => match ρ[i]? with
  | some (some (.lst ds, true)) => .ite (decide (0 < ds.length)) (.ok (.nx (ρ.set i (some (.lst ds.dropLast, true)))))
  | _ => .no
theorem RepA.take_sub {K : PySem.W.Frag} {H : Hp} : ∀ {vs : List V} {ds : List D} {f : List Addr} (n : Nat), RepA K H vs ds f → ∃ f1, RepA K H (vs.take n) (ds.take n) f1 ∧ f1.Sublist f
  | _, _, _, 0, r => ⟨[], by simpa using RepA.nil, List.nil_sublist _⟩
  | vs, [], f, n + 1, r => by
    obtain ⟨rfl, rfl⟩ := r.nil_d
    exact ⟨[], by simpa using RepA.nil, List.nil_sublist _⟩
  | vs, d :: ds, f, n + 1, r => by
    obtain ⟨x, xs, f1, f2, rfl, rfl, r1, r2⟩ := r.cons_d
    obtain ⟨f3, r3, s3⟩ := RepA.take_sub n r2
    exact ⟨f1 ++ f3, by simpa using RepA.cons r1 r3, s3.append_left f1⟩
theorem RepA.erase_sub {K : PySem.W.Frag} {H : Hp} : ∀ {vs : List V} {ds : List D} {f : List Addr} (n : Nat), RepA K H vs ds f → ∃ f1, RepA K H (vs.eraseIdx n) (ds.eraseIdx n) f1 ∧ f1.Sublist f
  | vs, [], f, n, r => by
    obtain ⟨rfl, rfl⟩ := r.nil_d
    exact ⟨[], by simpa using RepA.nil, List.nil_sublist _⟩
  | vs, d :: ds, f, 0, r => by
    obtain ⟨x, xs, f1, f2, rfl, rfl, r1, r2⟩ := r.cons_d
    exact ⟨f2, by simpa using r2, List.sublist_append_right _ _⟩
  | vs, d :: ds, f, n + 1, r => by
    obtain ⟨x, xs, f1, f2, rfl, rfl, r1, r2⟩ := r.cons_d
    obtain ⟨f3, r3, s3⟩ := RepA.erase_sub n r2
    exact ⟨f1 ++ f3, by simpa using RepA.cons r1 r3, s3.append_left f1⟩
theorem sx_pop {i : Nat} (hN : X.N[i]? = some x) (hv : Vis X.env.scope x) (hd : (x == ("__debug__" : Str)) = false) (hcd : (x == ("__classdict__" : Str)) = false)
    (hbase : attributeBase (.Name x p) "pop" X.env (eval (.Name x p) X.env) = eval (.Name x p) X.env := by rfl)
    (hline : (apos.endLine == cpos.line) = true := by rfl)
    (hs : swapsWith (.Call (.Attribute (.Name x p) "pop" apos) [] [] cpos) none pos.line X.env = pure false := by rfl) :
    PSX X Ex (.Expr (.Call (.Attribute (.Name x p) "pop" apos) [] [] cpos) pos) (sPop i) :=
  PS.imp (ps_expr (pe_bm0 PySem.F.plainAttrs_list PySem.F.slot_list_pop PySem.F.type_list_pop mt_pop (pe_var hN hv hd hcd) hbase hline) hs) fun N σ H ⟨B, g, ρ, ok, h⟩ => by
    unfold sPop at h
    split at h
    · rename_i ds e0
      obtain ⟨c, h⟩ := Post.ite h
      have c := of_decide_eq_true c
      obtain ⟨v, e1, r⟩ := ok.rep i _ _ e0
      obtain ⟨a, xs, f1, rfl, eg, ha, ra⟩ := r.lst_inv
      have ga : a ∈ g i := by rw [eg]; simp
      have nd := (ok.own i _ e0).1
      rw [eg] at nd
      have n1 := List.nodup_cons.mp nd
      obtain ⟨f3, r3, s3⟩ := ra.take_sub (ds.length - 1)
      have e3 : xs.take (ds.length - 1) = xs.dropLast := by rw [List.dropLast_eq_take, ra.length]
      rw [e3, ← List.dropLast_eq_take] at r3
      have na : a ∉ f3 := fun m => n1.1 (s3.subset m)
      have hl : xs.length - 1 < xs.length := by rw [ra.length]; omega
      refine ⟨_, e1, .inl ⟨rfl, _, SqL.of ha⟩, a, xs, _, rfl, rfl, ha, List.getElem?_eq_getElem hl, h B _ _ _ (Same.refl _) (ok.write (v := .ref a) (fp := a :: f3) e0 e1 ga (.inl ⟨_, rfl⟩) (Rep.mk_lst upd_same (r3.upd na (.inr (.inl ⟨_, ha⟩)))) (List.nodup_cons.mpr ⟨na, n1.2.sublist s3⟩) fun b hb => ?_)⟩
      rcases List.mem_cons.mp hb with rfl | hb
      · exact .inl ga
      · exact .inl (by rw [eg]; simp [s3.subset hb])
    · exact h.elim
/-- x.insert(k, e) -/
@[simp] def insD (i : Nat) (ds : List D) (p : D × DEnv) (k : D) : R Out := match k with
  | .int z => .ite (decide (ds.length < sizeLine) && decide (0 ≤ z) && decide (z < 2 ^ 63)) (.ok (.nx (p.2.set i (some (.lst (ds.take z.toNat ++ [p.1] ++ ds.drop z.toNat), true)))))
  | _ => .no
@[simp] def sInsert (i : Nat) (fk : DX) (fo : DO1) : DS := fun ρ => match ρ[i]? with
  | some (some (.lst _, true)) => (fk ρ).bind fun k => (fo ρ).bind fun p => match p.2[i]? with
    | some (some (.lst ds, true)) => insD i ds p k.1
    | _ => .no
  | _ => .no
theorem RepA.drop_sub {K : PySem.W.Frag} {H : Hp} : ∀ {vs : List V} {ds : List D} {f : List Addr} (n : Nat), RepA K H vs ds f → ∃ f1 f2, RepA K H (vs.take n) (ds.take n) f1 ∧ RepA K H (vs.drop n) (ds.drop n) f2 ∧ f = f1 ++ f2
  | _, _, f, 0, r => ⟨[], f, by simpa using RepA.nil, by simpa using r, rfl⟩
  | vs, [], f, n + 1, r => by
    obtain ⟨rfl, rfl⟩ := r.nil_d
    exact ⟨[], [], by simpa using RepA.nil, by simpa using RepA.nil, rfl⟩
  | vs, d :: ds, f, n + 1, r => by
    obtain ⟨x, xs, f1, f2, rfl, rfl, r1, r2⟩ := r.cons_d
    obtain ⟨f3, f4, r3, r4, rfl⟩ := RepA.drop_sub n r2
    exact ⟨f1 ++ f3, f4, by simpa using RepA.cons r1 r3, by simpa using r4, by rw [List.append_assoc]⟩
theorem sx_insert {i : Nat} (hN : X.N[i]? = some x) (hv : Vis X.env.scope x) (hd : (x == ("__debug__" : Str)) = false) (hcd : (x == ("__classdict__" : Str)) = false) (hk : PX X Ex k fk) (he : POw X Ex e fo)
    (hst : starEach [k, e] X.env = (false, eval k X.env) :: starEach [e] X.env := by rfl) (hst2 : starEach [e] X.env = (false, eval e X.env) :: starEach [] X.env := by rfl)
    (hbase : attributeBase (.Name x p) "insert" X.env (eval (.Name x p) X.env) = eval (.Name x p) X.env := by rfl)
    (hfew : ((backTo cpos (starEach [k, e] X.env)).all (fun x => !x.1) && (backToKw cpos (keywordEach [] X.env)).all (fun x => x.1.isSome)
      && decide (([k, e] : List Expr).length + ([] : List Keyword).length + (if ([] : List Keyword).isEmpty then 0 else 1) < 30)) = true := by rfl)
    (hline : (apos.endLine == cpos.line) = true := by rfl) (hplain : (backTo cpos (starEach [e] X.env)).any (·.1) = false := by rfl)
    (hs : swapsWith (.Call (.Attribute (.Name x p) "insert" apos) [k, e] [] cpos) none pos.line X.env = pure false := by rfl) :
    PSX X Ex (.Expr (.Call (.Attribute (.Name x p) "insert" apos) [k, e] [] cpos) pos) (sInsert i fk fo) :=
  PS.imp (ps_expr (pe_bm PySem.F.plainAttrs_list PySem.F.slot_list_insert PySem.F.type_list_insert mt_insert (pe_var hN hv hd hcd) (pa_cons hk (pa_cons he pa_nil hst2) hst) hbase hfew hline hst hplain) hs) fun N σ H ⟨B, g, ρ, ok, h⟩ => by
    unfold sInsert at h
    split at h
    · rename_i ds e0
      obtain ⟨v, e1, r⟩ := ok.rep i _ _ e0
      obtain ⟨a, xs, f1, rfl, eg, ha, ra⟩ := r.lst_inv
      refine ⟨_, e1, .inl ⟨rfl, _, SqL.of ha⟩, tX_step ok h fun dk ow0 vk Hk fk' _ sk rk _ hk2 => ⟨B, g, ρ, ok.mono sk, (Post.bind hk2).imp (fun _ z => z) fun q0 _ h1 y H1 fp s ok1 le ry ow => ?_⟩⟩
      split at h1
      · rename_i ds' e2
        have e3 := le i _ e2
        rw [e0] at e3
        cases e3
        cases dk with
        | int z =>
          have h2 : Post (ExB X.mg Ex B) (QS X.K B N) (.ite (decide (ds.length < sizeLine) && decide (0 ≤ z) && decide (z < 2 ^ 63)) (.ok (.nx (q0.2.set i (some (.lst (ds.take z.toNat ++ [q0.1] ++ ds.drop z.toNat), true)))))) := h1
          obtain ⟨c, h2⟩ := Post.ite h2
          simp only [Bool.and_eq_true, decide_eq_true_eq] at c
          obtain ⟨rfl, _⟩ := rk.int_inv
          have ga : a ∈ g i := by rw [eg]; simp
          have nd := (ok1.own i _ e2).1
          rw [eg] at nd
          have n1 := List.nodup_cons.mp nd
          have ra1 := (ra.mono sk).mono s
          have ha1 := s _ _ (sk _ _ ha)
          obtain ⟨f3, f4, r3, r4, rfl⟩ := ra1.drop_sub z.toNat
          have nfp : a ∉ fp := fun m => ow.ap a m i _ e2 ga
          have r5 : RepA X.K H1 (xs.take z.toNat ++ [y] ++ xs.drop z.toNat) (ds.take z.toNat ++ [q0.1] ++ ds.drop z.toNat) (f3 ++ fp ++ f4) :=
            (r3.append (show RepA X.K H1 [y] [q0.1] fp from ry)).append r4
          have ndd : (a :: (f3 ++ fp ++ f4)).Nodup := by
            have d := n1.2
            rw [List.nodup_append] at d
            have dj : ∀ x ∈ fp, x ∉ f3 ∧ x ∉ f4 := fun x hx => by
              have := ow.ap x hx i _ e2
              rw [eg] at this
              simp only [List.mem_cons, List.mem_append, not_or] at this
              exact this.2
            refine List.nodup_cons.mpr ⟨fun m => ?_, List.nodup_append.mpr ⟨List.nodup_append.mpr ⟨d.1, ow.nd, fun x hx y hy e => ?_⟩, d.2.1, fun x hx y hy e => ?_⟩⟩
            · have n2 := n1.1
              simp only [List.mem_append, not_or] at n2 m
              rcases m with (m | m) | m
              · exact n2.1 m
              · exact nfp m
              · exact n2.2 m
            · subst e; exact (dj x hy).1 hx
            · subst e
              rcases List.mem_append.mp hx with hx | hx
              · exact d.2.2 x hx x hy rfl
              · exact (dj x hx).2 hy
          refine ⟨a, xs, z, y, rfl, rfl, ha1, by rw [ra.length]; exact c.1.1, c.1.2, c.2, h2 B _ _ _ (Same.refl _) (ok1.write (v := .ref a) (fp := a :: (f3 ++ fp ++ f4)) e2 e1 ga (.inl ⟨_, rfl⟩) (Rep.mk_lst upd_same (r5.upd (List.nodup_cons.mp ndd).1 (.inr (.inl ⟨_, ha1⟩)))) ndd fun b hb => ?_)⟩
          rcases List.mem_cons.mp hb with rfl | hb
          · exact .inl ga
          · rcases List.mem_append.mp hb with hb | hb
            · rcases List.mem_append.mp hb with hb | hb
              · exact .inl (by rw [eg]; simp [hb])
              · exact .inr ⟨ow.nb b hb, ow.mu b hb, fun j y _ z => ow.ap b hb j y z⟩
            · exact .inl (by rw [eg]; simp [hb])
        | _ => exact (show False from h1).elim
      · exact h1.elim
    · exact h.elim
/-- x[k].append(e), e immutable, x a list of lists -/
@[simp] def sAppend2 (i : Nat) (fk : DX) (fo : DX) : DS := fun ρ => match ρ[i]? with
  | some (some (.lst ds, true)) => (fk ρ).bind fun k1 => match rowAt ds k1.1 with
    | some (j1, es) => (fo ρ).bind fun p => .ite (imm p.1 && decide (es.length < sizeLine)) (.ok (.nx (ρ.set i (some (.lst (ds.set j1 (.lst (es ++ [p.1]))), true)))))
    | none => .no
  | _ => .no
theorem sx_append2 {i : Nat} {ipos : Pos} (hN : X.N[i]? = some x) (hv : Vis X.env.scope x) (hd : (x == ("__debug__" : Str)) = false) (hcd : (x == ("__classdict__" : Str)) = false) (hk : PX X Ex k fk) (hsk : PlainIx k) (he : PX X Ex e fa)
    (hst : starEach [e] X.env = (false, eval e X.env) :: starEach [] X.env := by rfl)
    (hbase : attributeBase (.Subscript (.Name x p) k ipos) "append" X.env (eval (.Subscript (.Name x p) k ipos) X.env) = eval (.Subscript (.Name x p) k ipos) X.env := by rfl)
    (hfew : ((backTo cpos (starEach [e] X.env)).all (fun x => !x.1) && (backToKw cpos (keywordEach [] X.env)).all (fun x => x.1.isSome)
      && decide (([e] : List Expr).length + ([] : List Keyword).length + (if ([] : List Keyword).isEmpty then 0 else 1) < 30)) = true := by rfl)
    (hline : (apos.endLine == cpos.line) = true := by rfl) (hplain : (backTo cpos (starEach [] X.env)).any (·.1) = false := by rfl)
    (hs : swapsWith (.Call (.Attribute (.Subscript (.Name x p) k ipos) "append" apos) [e] [] cpos) none pos.line X.env = pure false := by rfl) :
    PSX X Ex (.Expr (.Call (.Attribute (.Subscript (.Name x p) k ipos) "append" apos) [e] [] cpos) pos) (sAppend2 i fk fa) :=
  PS.imp (ps_expr (pe_bm PySem.F.plainAttrs_list PySem.F.slot_list_append PySem.F.type_list_append mt_append (pe_ix ix_list (pe_var hN hv hd hcd) hk hsk) (pa_cons he pa_nil hst) hbase hfew hline hst hplain) hs) fun N σ H ⟨B, g, ρ, ok, h⟩ => by
    unfold sAppend2 at h
    split at h
    · rename_i ds e2
      obtain ⟨va, e1, rv⟩ := ok.rep i _ _ e2
      refine ⟨va, e1, tX_step ok h fun d o2 vk H2 fpk _ s2 rk _ h2 => ?_⟩
      have h3 : Post (ExB X.mg Ex B) (QS X.K B N) (match rowAt ds d with | some (j1, es) => (fa ρ).bind fun p => .ite (imm p.1 && decide (es.length < sizeLine)) (.ok (.nx (ρ.set i (some (.lst (ds.set j1 (.lst (es ++ [p.1]))), true))))) | none => .no) := h2
      cases er : rowAt ds d with
      | none => rw [er] at h3; exact h3.elim
      | some je =>
        obtain ⟨j1, es⟩ := je
        rw [er] at h3
        unfold rowAt at er
        split at er
        · rename_i z1 hz1
          obtain ⟨rfl, _⟩ := rk.int_inv
          obtain ⟨j, ej, er⟩ := Option.bind_eq_some_iff.mp er
          split at er
          · rename_i es' ee
            cases er
            obtain ⟨a, xs, f1, rfl, eg, ha, ra⟩ := (rv.mono s2).lst_inv
            have nd := (ok.own i _ e2).1
            rw [eg] at nd
            have n1 := List.nodup_cons.mp nd
            obtain ⟨b, ys, fi, a1, a2, a3, a4, a5, a6, a7⟩ := RepA.inner ra n1.2 ee
            refine ⟨a, xs, z1, .ref b, rfl, rfl, SqL.of ha, ?_, .inl ⟨rfl, _, SqL.of a3⟩, ?_⟩
            · unfold atI
              rw [ra.length, ej]
              exact a1
            · refine tX_step (ok.mono s2) h3 fun d2 o3 vk2 H3 fpk2 _ s3 rk2 _ h4 => ?_
              have h5 : Post (ExB X.mg Ex B) (QS X.K B N) (.ite (imm d2 && decide (es.length < sizeLine)) (.ok (.nx (ρ.set i (some (.lst (ds.set j1 (.lst (es ++ [d2]))), true)))))) := h4
              obtain ⟨ci, h6⟩ := Post.ite h5
              simp only [Bool.and_eq_true, decide_eq_true_eq] at ci
              have efp := Rep.imm rk2 ci.1
              subst efp
              have ok3 := (ok.mono s2).mono s3
              have ra3 := ra.mono s3
              obtain ⟨b', ys', fi', c1, c2, c3, c4, c5, c6, c7⟩ := RepA.inner ra3 n1.2 ee
              obtain rfl : b = b' := by rw [a1] at c1; exact V.ref.inj (Option.some.inj c1)
              have eys : ys' = ys := by
                have := s3 _ _ a3
                rw [c3] at this; cases this; rfl
              subst eys
              have rs := c4.append (show RepA X.K H3 [vk2] [d2] [] from rk2)
              rw [List.append_nil] at rs
              have gb : b ∈ g i := by rw [eg]; simp [c2]
              have mm : H3 b = none ∨ (∃ xs, H3 b = some (.lst xs)) ∨ ∃ kvs, H3 b = some (.dK kvs) := .inr (.inl ⟨_, c3⟩)
              obtain ⟨f', d1, d2', d3⟩ := c7 (ys' ++ [vk2]) (es ++ [d2]) fi' (rs.upd c5 mm) c6 c5 fun _ z => z
              refine ⟨b, ys', vk2, rfl, rfl, c3, by rw [c4.length]; exact ci.2, ?_⟩
              have hab : a ≠ b := fun z => n1.1 (z ▸ c2)
              refine h6 B _ _ _ (Same.refl _) (ok3.write (v := .ref a) (fp := a :: f') e2 e1 gb (.inl ⟨_, rfl⟩) (Rep.mk_lst (by rw [upd_ne hab]; exact s3 _ _ ha) d1) (List.nodup_cons.mpr ⟨fun m => n1.1 (d3 a m), d2'⟩) fun c hc => ?_)
              rcases List.mem_cons.mp hc with rfl | hc
              · exact .inl (by rw [eg]; simp)
              · exact .inl (by rw [eg]; simp [d3 c hc])
          · cases er
        · cases er
    · exact h.elim
end
end EQ
/-! EqL: tuple of a list that is given up, list(range), get. -/
namespace EQ
open PySem PySem.Spec PyProof.Rows L2
section
variable {X : Cx} {Ex : XK} {a b c e o k : Expr} {es : List Expr} {fa fb fk fk2 : DX} {fs : DXs} {pos p q p2 pos2 tpos apos cpos : Pos} {x : Str} {fo : DO1}
/-- tuple(e), e given up -/
@[simp] def oTupMv (fo : DO1) : DO1 := fun ρ => (fo ρ).bind fun p => match p.1 with
  | .lst xs => .ok (.tup xs, p.2)
  | _ => .no
theorem po_tupMv (hg : Gl X "tuple") (hm : X.mg "tuple" = none) (ha : POw X Ex a fo) (he : starEach [a] X.env = (false, eval a X.env) :: starEach [] X.env := by rfl) (hpl : (backTo pos (starEach [] X.env)).any (·.1) = false := by rfl) :
    POw X Ex (.Call (.Name "tuple" p) [a] [] pos) (oTupMv fo) :=
  PE.imp (pe_callTy call_tuple_of hg hm boot_tuple (pa_cons ha pa_nil he) (by decide) (by decide) he hpl) fun σ H Q ⟨B, g, ρ, ok, h⟩ => ⟨B, g, ρ, ok, (Post.bind h).imp (fun _ z => z) fun p0 _ h1 v H1 fp s ok1 le r ow => by
    obtain ⟨d, ρ1⟩ := p0
    cases d with
    | lst xs =>
      obtain ⟨b, ys, f1, rfl, rfl, hb, ra⟩ := r.lst_inv
      refine ⟨b, ys, rfl, .inl ⟨SqL.of hb, fun q nq => ?_⟩⟩
      have k : QO X.K B H σ ρ g Q (.tup xs, ρ1) := h1
      exact k _ _ f1 (s.trans (same_upd nq)) (ok1.mono (same_upd nq)) le (Rep.mk_tup upd_same (ra.mono (same_upd nq))) ⟨(List.nodup_cons.mp ow.nd).2, fun c hc => ow.src c (by simp [hc]), fun c hc => (ow.mu c (by simp [hc])).mono (same_upd nq), fun c hc => ow.ap c (by simp [hc]), fun c hc => ow.nb c (by simp [hc])⟩
    | _ => exact (show False from h1).elim⟩
/-- list(range(n)) -/
theorem rep_rg {K : PySem.W.Frag} {H : Hp} (lo : Int) : ∀ (ns : List Nat), RepA K H (ns.map fun i => V.int (lo + (i : Nat))) (ns.map fun i => D.int (lo + (i : Nat))) []
  | [] => .nil
  | n :: ns => .int (rep_rg lo ns)
@[simp] def rgOkD (lo hi : Int) : Bool := decide (-4611686018427387904 ≤ lo) && decide (lo < 4611686018427387904) && decide (-4611686018427387904 ≤ hi) && decide (hi < 4611686018427387904) && decide (hi - lo ≤ 16777216)
@[simp] def eListRg1 (fa : DX) : DX := fun ρ => (fa ρ).bind fun x => match x.1 with
  | .int n => .ite (rgOkD 0 n) (.ok (.lst (rangeD 0 n), true))
  | _ => .no
theorem rg_fin {H H1 : Hp} {Q : VK} {lo hi : Int} {q : Addr} (s : Same H H1) (nq : H1 q = none) (h : QX X.K H Q (.lst (rangeD lo hi), true)) : Q (.ref q) (upd H1 q (.lst (rgV lo hi))) := by
  have k := h (.ref q) (upd H1 q (.lst (rgV lo hi))) [q] (s.trans (same_upd nq))
  refine k (Rep.mk_lst upd_same (rep_rg lo _)) fun _ => ⟨by simp, fun c hc => ?_⟩
  obtain rfl : c = q := by simpa using hc
  exact ⟨s.free nq, .inl ⟨_, upd_same⟩⟩
theorem rgOk_of {lo hi : Int} (c : rgOkD lo hi = true) : RgOk lo hi := by
  simp only [rgOkD, Bool.and_eq_true, decide_eq_true_eq] at c
  exact ⟨by omega, by omega, by omega, by omega, by omega⟩
theorem px_listRg1 (hc : X.calm = true) (hg : Gl X "list") (hm : X.mg "list" = none) (hg2 : Gl X "range") (hm2 : X.mg "range" = none) (ha : PX X Ex a fa)
    (na : starEach [a] X.env = (false, eval a X.env) :: starEach [] X.env := by rfl)
    (na2 : starEach [.Call (.Name "range" p2) [a] [] pos2] X.env = (false, eval (.Call (.Name "range" p2) [a] [] pos2) X.env) :: starEach [] X.env := by rfl) :
    PX X Ex (.Call (.Name "list" p) [.Call (.Name "range" p2) [a] [] pos2] [] pos) (eListRg1 fa) :=
  PE.imp (pe_listRg hc hg hm (prg_1 hg2 hm2 ha na) na2) fun σ H Q ⟨B, g, ρ, ok, h⟩ => tX_step ok h fun d o v H1 fp _ s r _ h1 => by
    cases d with
    | int n =>
      have h2 : Post (ExB X.mg Ex B) (QX X.K H Q) (.ite (rgOkD 0 n) (.ok (.lst (rangeD 0 n), true))) := h1
      obtain ⟨c, h2⟩ := Post.ite h2
      obtain ⟨rfl, _⟩ := r.int_inv
      exact ⟨n, rfl, rgOk_of c, fun q nq => rg_fin s nq h2⟩
    | _ => exact (show False from h1).elim
@[simp] def eListRg2 (fa fb : DX) : DX := fun ρ => (fa ρ).bind fun x => (fb ρ).bind fun y => match x.1, y.1 with
  | .int lo, .int hi => .ite (rgOkD lo hi) (.ok (.lst (rangeD lo hi), true))
  | _, _ => .no
theorem px_listRg2 (hc : X.calm = true) (hg : Gl X "list") (hm : X.mg "list" = none) (hg2 : Gl X "range") (hm2 : X.mg "range" = none) (ha : PX X Ex a fa) (hb : PX X Ex b fb)
    (na : starEach [a, b] X.env = (false, eval a X.env) :: starEach [b] X.env := by rfl) (nb : starEach [b] X.env = (false, eval b X.env) :: starEach [] X.env := by rfl) (hpl : (backTo pos2 (starEach [b] X.env)).any (·.1) = false := by rfl)
    (na2 : starEach [.Call (.Name "range" p2) [a, b] [] pos2] X.env = (false, eval (.Call (.Name "range" p2) [a, b] [] pos2) X.env) :: starEach [] X.env := by rfl) :
    PX X Ex (.Call (.Name "list" p) [.Call (.Name "range" p2) [a, b] [] pos2] [] pos) (eListRg2 fa fb) :=
  PE.imp (pe_listRg hc hg hm (prg_2 hg2 hm2 ha hb na nb hpl) na2) fun σ H Q ⟨B, g, ρ, ok, h⟩ => tX_step ok h fun d o v H1 fp _ s r _ h1 => tX_step (ok.mono s) h1 fun d2 o2 v2 H2 fp2 _ s2 r2 _ h2 => by
    cases d with
    | int lo =>
      cases d2 with
      | int hi =>
        have h3 : Post (ExB X.mg Ex B) (QX X.K H Q) (.ite (rgOkD lo hi) (.ok (.lst (rangeD lo hi), true))) := h2
        obtain ⟨c, h3⟩ := Post.ite h3
        obtain ⟨rfl, _⟩ := r.int_inv
        obtain ⟨rfl, _⟩ := r2.int_inv
        exact ⟨lo, hi, rfl, rfl, rgOk_of c, fun q nq => rg_fin (s.trans s2) nq h3⟩
      | _ => exact (show False from h2).elim
    | _ => exact (show False from h2).elim
end
end EQ
/-! EqM: data compared, loops and comprehensions as plain functions. -/
namespace EQ
open PySem PySem.Spec PyProof.Rows L2
/-- can be compared; at most so deep -/
def sh : Nat → D → Bool
  | _, .non => true
  | _, .bl _ => true
  | _, .int _ => true
  | _, .str x => PyData.strOk x
  | n + 1, .tup xs => xs.all (sh n)
  | n + 1, .lst xs => xs.all (sh n)
  | _, _ => false
/-- and has no truths in it -/
def pl : Nat → D → Bool
  | _, .non => true
  | _, .int _ => true
  | _, .str x => PyData.strOk x
  | n + 1, .tup xs => xs.all (pl n)
  | n + 1, .lst xs => xs.all (pl n)
  | _, _ => false
theorem pl_sh : ∀ (n : Nat) (d : D), pl n d = true → sh n d = true
  | 0, d, h => by cases d <;> simp [pl, sh] at h ⊢ <;> exact h
  | n + 1, d, h => by
    cases d with
    | tup xs =>
      simp only [pl, sh, List.all_eq_true] at h ⊢
      exact fun x hx => pl_sh n x (h x hx)
    | lst xs =>
      simp only [pl, sh, List.all_eq_true] at h ⊢
      exact fun x hx => pl_sh n x (h x hx)
    | _ => simp [pl, sh] at h ⊢ <;> exact h
theorem pyA_of {P : PyData → Prop} : ∀ {xs : List D}, (∀ x ∈ xs, ∃ p, toPy x = some p ∧ P p) → ∃ ps, toPyA xs = some ps ∧ ∀ p ∈ ps, P p
  | [], _ => ⟨[], by rw [toPyA], fun _ h => by cases h⟩
  | x :: xs, h => by
    obtain ⟨p, e1, h1⟩ := h x (by simp)
    obtain ⟨ps, e2, h2⟩ := pyA_of (xs := xs) fun y hy => h y (by simp [hy])
    refine ⟨p :: ps, by rw [toPyA, e1, e2], fun q hq => ?_⟩
    rcases List.mem_cons.mp hq with rfl | hq
    · exact h1
    · exact h2 q hq
theorem layA_of : ∀ {ps : List PyData}, (∀ p ∈ ps, p.canLay0 = true) → PyData.canLayAll0 ps = true
  | [], _ => by simp [PyData.canLayAll0]
  | p :: ps, h => by
    rw [PyData.canLayAll0, h p (by simp), layA_of fun q hq => h q (by simp [hq])]
    rfl
theorem depA_of {n : Nat} : ∀ {ps : List PyData}, (∀ p ∈ ps, p.depth ≤ n) → PyData.depthAll ps ≤ n
  | [], _ => by simp [PyData.depthAll]
  | p :: ps, h => by
    rw [PyData.depthAll]
    exact Nat.max_le.mpr ⟨h p (by simp), depA_of fun q hq => h q (by simp [hq])⟩
theorem eqvA_of : ∀ {ps : List PyData}, (∀ p ∈ ps, PyData.eqv p p = true) → PyData.eqvAll ps ps = true
  | [], _ => by simp [PyData.eqvAll]
  | p :: ps, h => by
    rw [PyData.eqvAll, h p (by simp), eqvA_of fun q hq => h q (by simp [hq])]
    rfl
theorem sh_py : ∀ (n : Nat) (d : D), sh n d = true → ∃ p, toPy d = some p ∧ p.canLay0 = true ∧ p.depth ≤ n ∧ PyData.eqv p p = true
  | n, .non, _ => ⟨.none, by rw [toPy], by simp [PyData.canLay0], by simp [PyData.depth], by simp [PyData.eqv]⟩
  | n, .bl b, _ => ⟨.bool b, by rw [toPy], by simp [PyData.canLay0], by simp [PyData.depth], by simp [PyData.eqv]⟩
  | n, .int b, _ => ⟨.int b, by rw [toPy], by simp [PyData.canLay0], by simp [PyData.depth], by simp [PyData.eqv]⟩
  | n, .str b, h => ⟨.str b, by rw [toPy], by simpa [PyData.canLay0, sh] using h, by simp [PyData.depth], by simp [PyData.eqv]⟩
  | 0, .tup xs, h => by simp [sh] at h
  | 0, .lst xs, h => by simp [sh] at h
  | n + 1, .tup xs, h => by
    simp only [sh, List.all_eq_true] at h
    obtain ⟨ps, e, h⟩ := pyA_of fun x hx => sh_py n x (h x hx)
    exact ⟨.tuple ps, by rw [toPy, e]; rfl, by rw [PyData.canLay0]; exact layA_of fun p hp => (h p hp).1, by rw [PyData.depth]; exact Nat.succ_le_succ (depA_of fun p hp => (h p hp).2.1), by rw [PyData.eqv]; exact eqvA_of fun p hp => (h p hp).2.2⟩
  | n + 1, .lst xs, h => by
    simp only [sh, List.all_eq_true] at h
    obtain ⟨ps, e, h⟩ := pyA_of fun x hx => sh_py n x (h x hx)
    exact ⟨.list ps, by rw [toPy, e]; rfl, by rw [PyData.canLay0]; exact layA_of fun p hp => (h p hp).1, by rw [PyData.depth]; exact Nat.succ_le_succ (depA_of fun p hp => (h p hp).2.1), by rw [PyData.eqv]; exact eqvA_of fun p hp => (h p hp).2.2⟩
  | n, .dct _ _, h => by cases n <;> simp [sh] at h
  | n, .scr _, h => by cases n <;> simp [sh] at h
theorem pyA_cons {x : D} {xs : List D} {ps : List PyData} (e : toPyA (x :: xs) = some ps) : ∃ a b, toPy x = some a ∧ toPyA xs = some b ∧ ps = a :: b := by
  rw [toPyA] at e
  split at e
  · rename_i a b h1 h2
    exact ⟨a, b, h1, h2, (Option.some.inj e).symm⟩
  · cases e
theorem eqvA_pl {n : Nat} (ih : ∀ (d e : D) p r, pl n d = true → pl n e = true → toPy d = some p → toPy e = some r → (PyData.eqv p r = true ↔ d = e)) : ∀ (xs ys : List D) ps rs, (∀ x ∈ xs, pl n x = true) → (∀ x ∈ ys, pl n x = true) → toPyA xs = some ps → toPyA ys = some rs → (PyData.eqvAll ps rs = true ↔ xs = ys)
  | [], [], ps, rs, _, _, e1, e2 => by rw [toPyA] at e1 e2; cases e1; cases e2; simp [PyData.eqvAll]
  | [], y :: ys, ps, rs, _, _, e1, e2 => by
    rw [toPyA] at e1; cases e1
    obtain ⟨a, b, _, _, rfl⟩ := pyA_cons e2
    simp [PyData.eqvAll]
  | x :: xs, [], ps, rs, _, _, e1, e2 => by
    rw [toPyA] at e2; cases e2
    obtain ⟨a, b, _, _, rfl⟩ := pyA_cons e1
    simp [PyData.eqvAll]
  | x :: xs, y :: ys, ps, rs, h1, h2, e1, e2 => by
    obtain ⟨a, b, a1, a2, rfl⟩ := pyA_cons e1
    obtain ⟨c, d, c1, c2, rfl⟩ := pyA_cons e2
    rw [PyData.eqvAll, Bool.and_eq_true, ih x y a c (h1 x (by simp)) (h2 y (by simp)) a1 c1, eqvA_pl ih xs ys b d (fun z hz => h1 z (by simp [hz])) (fun z hz => h2 z (by simp [hz])) a2 c2, List.cons.injEq]
theorem eqv_pl : ∀ (n : Nat) (d e : D) p r, pl n d = true → pl n e = true → toPy d = some p → toPy e = some r → (PyData.eqv p r = true ↔ d = e) := by
  intro n
  induction n with
  | zero =>
    intro d e p r h1 h2 e1 e2
    cases d <;> cases e
    all_goals first
      | (exfalso; simp [pl] at h1; done)
      | (exfalso; simp [pl] at h2; done)
      | (simp only [toPy, Option.some.injEq] at e1 e2; subst e1; subst e2; simp [PyData.eqv])
  | succ n ih =>
    intro d e p r h1 h2 e1 e2
    cases d <;> cases e
    case tup.tup xs ys =>
      simp only [pl, List.all_eq_true] at h1 h2
      rw [toPy] at e1 e2
      obtain ⟨q, e3, rfl⟩ := Option.map_eq_some_iff.mp e1
      obtain ⟨q2, e4, rfl⟩ := Option.map_eq_some_iff.mp e2
      rw [PyData.eqv, eqvA_pl ih xs ys q q2 h1 h2 e3 e4, D.tup.injEq]
    case lst.lst xs ys =>
      simp only [pl, List.all_eq_true] at h1 h2
      rw [toPy] at e1 e2
      obtain ⟨q, e3, rfl⟩ := Option.map_eq_some_iff.mp e1
      obtain ⟨q2, e4, rfl⟩ := Option.map_eq_some_iff.mp e2
      rw [PyData.eqv, eqvA_pl ih xs ys q q2 h1 h2 e3 e4, D.lst.injEq]
    all_goals first
      | (exfalso; simp [pl] at h1; done)
      | (exfalso; simp [pl] at h2; done)
      | skip
    all_goals simp only [toPy, Option.some.injEq, Option.map_eq_some_iff] at e1 e2
    all_goals (try obtain ⟨q, e3, e1⟩ := e1)
    all_goals (try obtain ⟨q2, e4, e2⟩ := e2)
    all_goals (try subst e1)
    all_goals (try subst e2)
    all_goals simp [PyData.eqv]
theorem dEqB_same {d : D} (h : sh 60 d = true) : dEqB d d = .ok true := by
  obtain ⟨p, e, c, l, q⟩ := sh_py 60 d h
  have s : SeqAt.shaped p = true := by unfold SeqAt.shaped; rw [c]; exact decide_eq_true (by omega)
  unfold dEqB
  rw [e]
  simp [s, q]
open Classical in
theorem dEqB_pl {d e : D} (h1 : pl 60 d = true) (h2 : pl 60 e = true) : dEqB d e = .ok (decide (d = e)) := by
  obtain ⟨p, e1, c1, l1, _⟩ := sh_py 60 d (pl_sh _ _ h1)
  obtain ⟨r, e2, c2, l2, _⟩ := sh_py 60 e (pl_sh _ _ h2)
  have s1 : SeqAt.shaped p = true := by unfold SeqAt.shaped; rw [c1]; exact decide_eq_true (by omega)
  have s2 : SeqAt.shaped r = true := by unfold SeqAt.shaped; rw [c2]; exact decide_eq_true (by omega)
  have k := eqv_pl 60 d e p r h1 h2 e1 e2
  unfold dEqB
  rw [e1, e2]
  simp only [s1, s2, Bool.and_self, R.ite_t]
  congr 1
  by_cases q : d = e
  · rw [k.mpr q]; simp [q]
  · have : PyData.eqv p r = false := by
      cases z : PyData.eqv p r with
      | false => rfl
      | true => exact absurd (k.mp z) q
    rw [this]; simp [q]
@[simp] theorem dEqB_bl (a b : Bool) : dEqB (.bl a) (.bl b) = .ok (decide (a = b)) := by
  have e : SeqAt.shaped (.bool a) = true := by cases a <;> rfl
  have e' : SeqAt.shaped (.bool b) = true := by cases b <;> rfl
  simp [dEqB, toPy, e, e', PyData.eqv]
  cases a <;> cases b <;> rfl
@[simp] theorem dEqB_int (a b : Int) : dEqB (.int a) (.int b) = .ok (decide (a = b)) := by
  have e : SeqAt.shaped (.int a) = true := by rfl
  have e' : SeqAt.shaped (.int b) = true := by rfl
  simp [dEqB, toPy, e, e', PyData.eqv]
  rfl
theorem dEqB_nil {xs : List D} (h : ∀ x ∈ xs, sh 59 x = true) : dEqB (.lst xs) (.lst []) = .ok xs.isEmpty := by
  obtain ⟨ps, e, hp⟩ := pyA_of fun x hx => sh_py 59 x (h x hx)
  have s1 : SeqAt.shaped (.list ps) = true := by
    unfold SeqAt.shaped
    rw [PyData.canLay0, layA_of fun p hp' => (hp p hp').1, PyData.depth]
    have := depA_of fun p hp' => (hp p hp').2.1
    exact decide_eq_true (by omega)
  have s2 : SeqAt.shaped (.list []) = true := by decide
  unfold dEqB
  rw [toPy, e, toPy, toPyA]
  cases xs with
  | nil => rw [toPyA] at e; cases e; simp [s2, PyData.eqv, PyData.eqvAll]
  | cons x xs =>
    obtain ⟨a, b, _, _, rfl⟩ := pyA_cons e
    simp [s1, s2, PyData.eqv, PyData.eqvAll]
/-! loops -/
/-- a loop whose turns all go on: from state to state -/
theorem forS_fold {α : Type} {t : DTg} {f : DS} (st : α → DEnv) (fn : α → D → α) (I : α → Prop) : ∀ (ds : List D) (a : α), I a → (∀ a d, d ∈ ds → I a → I (fn a d) ∧ (t d (st a)).bind (fun ρ => f ρ) = .ok (.nx (st (fn a d)))) → forS t f ds (st a) = .ok (.nx (st (ds.foldl fn a)))
  | [], a, _, _ => rfl
  | d :: ds, a, ia, h => by
    obtain ⟨i1, e⟩ := h a d (by simp) ia
    rw [forS]
    cases e1 : t d (st a) with
    | ok ρ1 =>
      rw [e1, R.bind_ok] at e
      rw [R.bind_ok, e, R.bind_ok]
      exact forS_fold st fn I ds _ i1 fun a d hd => h a d (by simp [hd])
    | ex c => rw [e1] at e; cases e
    | no => rw [e1] at e; cases e
/-- a loop over a list that is walked place by place -/
theorem forS_inv {t : DTg} {f : DS} (P : Nat → DEnv → Prop) (ds : List D) (h : ∀ i d ρ, ds[i]? = some d → P i ρ → ∃ ρ1 ρ2, t d ρ = .ok ρ1 ∧ f ρ1 = .ok (.nx ρ2) ∧ P (i + 1) ρ2) : ∀ ρ, P 0 ρ → ∃ ρ', forS t f ds ρ = .ok (.nx ρ') ∧ P ds.length ρ' := by
  have key : ∀ (es : List D) (k : Nat) ρ, ds.drop k = es → k + es.length = ds.length → P k ρ → ∃ ρ', forS t f es ρ = .ok (.nx ρ') ∧ P ds.length ρ' := by
    intro es
    induction es with
    | nil =>
      intro k ρ e l p
      have hk : k = ds.length := by simpa using l
      subst hk
      exact ⟨ρ, rfl, p⟩
    | cons d es ih =>
      intro k ρ e l p
      have hk : k < ds.length := by simp only [List.length_cons] at l; omega
      have e0 := e
      rw [List.drop_eq_getElem_cons hk] at e
      obtain ⟨e1, e2⟩ := List.cons.inj e
      obtain ⟨ρ1, ρ2, h1, h2, p2⟩ := h k d ρ (by rw [List.getElem?_eq_getElem hk, e1]) p
      obtain ⟨ρ', h3, p3⟩ := ih (k + 1) ρ2 e2 (by simp only [List.length_cons] at l; omega) p2
      exact ⟨ρ', by rw [forS, h1, R.bind_ok, h2, R.bind_ok]; exact h3, p3⟩
  exact fun ρ p => key ds 0 ρ rfl (by simp) p
/-- comprehensions: what each turn gives -/
theorem compS_map {t : DTg} {ft : DT} {fe : DX} {ρ : DEnv} (g : D → D) (w : D → Bool) : ∀ (ds : List D), (∀ d ∈ ds, ∃ ρ1, t d ρ = .ok ρ1 ∧ ft ρ1 = .ok (w d) ∧ (w d = true → fe ρ1 = .ok (g d, true))) → compS t ft fe ds ρ = .ok ((ds.filter w).map g)
  | [], _ => rfl
  | d :: ds, h => by
    obtain ⟨ρ1, e1, e2, e3⟩ := h d (by simp)
    have ih := compS_map g w ds fun d' hd => h d' (by simp [hd])
    rw [compS, e1, R.nox_ok, R.bind_ok, e2, R.nox_ok, R.bind_ok]
    cases c : w d with
    | false => simp [c, ih]
    | true => simp [c, ih, e3 c]
/-- a loop over encoded things -/
theorem forS_pre {α : Type} {t : DTg} {f : DS} (enc : α → D) (P : List α → DEnv → Prop) (l : List α) (h : ∀ done a rest ρ, l = done ++ a :: rest → P done ρ → ∃ ρ1 ρ2, t (enc a) ρ = .ok ρ1 ∧ f ρ1 = .ok (.nx ρ2) ∧ P (done ++ [a]) ρ2) : ∀ ρ, P [] ρ → ∃ ρ', forS t f (l.map enc) ρ = .ok (.nx ρ') ∧ P l ρ' := by
  have key : ∀ (rest done : List α) ρ, l = done ++ rest → P done ρ → ∃ ρ', forS t f (rest.map enc) ρ = .ok (.nx ρ') ∧ P l ρ' := by
    intro rest
    induction rest with
    | nil =>
      intro done ρ e p
      rw [List.append_nil] at e
      subst e
      exact ⟨ρ, rfl, p⟩
    | cons a rest ih =>
      intro done ρ e p
      obtain ⟨ρ1, ρ2, h1, h2, p2⟩ := h done a rest ρ e p
      obtain ⟨ρ', h3, p3⟩ := ih (done ++ [a]) ρ2 (by rw [e]; simp) p2
      exact ⟨ρ', by rw [List.map_cons, forS, h1, R.bind_ok, h2, R.bind_ok]; exact h3, p3⟩
  exact fun ρ p => key l [] ρ rfl p
/-- the same, where a turn may end the call -/
theorem forS_ret {α : Type} {t : DTg} {f : DS} (enc : α → D) (P : List α → DEnv → Prop) (stop : α → Bool) (r : D) (l : List α) (h : ∀ done a rest ρ, l = done ++ a :: rest → (∀ x ∈ done, stop x = false) → P done ρ → ∃ ρ1, t (enc a) ρ = .ok ρ1 ∧ (stop a = true → f ρ1 = .ok (.rt r)) ∧ (stop a = false → ∃ ρ2, f ρ1 = .ok (.nx ρ2) ∧ P (done ++ [a]) ρ2)) :
    ∀ ρ, P [] ρ → (l.any stop = true → forS t f (l.map enc) ρ = .ok (.rt r)) ∧ (l.any stop = false → ∃ ρ', forS t f (l.map enc) ρ = .ok (.nx ρ') ∧ P l ρ') := by
  have key : ∀ (rest done : List α) ρ, l = done ++ rest → (∀ x ∈ done, stop x = false) → P done ρ → (rest.any stop = true → forS t f (rest.map enc) ρ = .ok (.rt r)) ∧ (rest.any stop = false → ∃ ρ', forS t f (rest.map enc) ρ = .ok (.nx ρ') ∧ P l ρ') := by
    intro rest
    induction rest with
    | nil =>
      intro done ρ e _ p
      rw [List.append_nil] at e
      subst e
      exact ⟨fun z => by simp at z, fun _ => ⟨ρ, rfl, p⟩⟩
    | cons a rest ih =>
      intro done ρ e ns p
      obtain ⟨ρ1, h1, hs, hn⟩ := h done a rest ρ e ns p
      cases c : stop a with
      | true =>
        refine ⟨fun _ => by rw [List.map_cons, forS, h1, R.bind_ok, hs c, R.bind_ok], fun z => ?_⟩
        rw [List.any_cons, c] at z; cases z
      | false =>
        obtain ⟨ρ2, h2, p2⟩ := hn c
        have ih := ih (done ++ [a]) ρ2 (by rw [e]; simp) (fun x hx => by
          rcases List.mem_append.mp hx with hx | hx
          · exact ns x hx
          · obtain rfl : x = a := by simpa using hx
            exact c) p2
        rw [List.any_cons, c, Bool.false_or]
        have e3 : forS t f ((a :: rest).map enc) ρ = forS t f (rest.map enc) ρ2 := by
          rw [List.map_cons, forS, h1, R.bind_ok, h2, R.bind_ok]
        rw [e3]
        exact ih
  exact fun ρ p => key l [] ρ rfl (fun _ z => by cases z) p
/-- a comprehension over encoded things -/
theorem compS_enc {α : Type} {t : DTg} {ft : DT} {fe : DX} {ρ : DEnv} (enc : α → D) (F : α → D) (W : α → Bool) : ∀ (l : List α), (∀ a ∈ l, ∃ ρ1, t (enc a) ρ = .ok ρ1 ∧ ft ρ1 = .ok (W a) ∧ (W a = true → fe ρ1 = .ok (F a, true))) → compS t ft fe (l.map enc) ρ = .ok ((l.filter W).map F)
  | [], _ => rfl
  | a :: l, h => by
    obtain ⟨ρ1, e1, e2, e3⟩ := h a (by simp)
    have ih := compS_enc enc F W l fun d' hd => h d' (by simp [hd])
    rw [List.map_cons, compS, e1, R.nox_ok, R.bind_ok, e2, R.nox_ok, R.bind_ok]
    cases c : W a with
    | false => simp [c, ih]
    | true => simp [c, ih, e3 c]
/-- without a condition -/
theorem compS_all {α : Type} {t : DTg} {fe : DX} {ρ : DEnv} (enc : α → D) (F : α → D) (l : List α) (h : ∀ a ∈ l, ∃ ρ1, t (enc a) ρ = .ok ρ1 ∧ fe ρ1 = .ok (F a, true)) : compS t yesT fe (l.map enc) ρ = .ok (l.map F) := by
  have := compS_enc (t := t) (ft := yesT) (fe := fe) (ρ := ρ) enc F (fun _ => true) l fun a ha => by
    obtain ⟨ρ1, e1, e2⟩ := h a ha
    exact ⟨ρ1, e1, rfl, fun _ => e2⟩
  rw [List.filter_eq_self.mpr (fun _ _ => rfl)] at this
  exact this
theorem rangeD_eq (n : Int) : rangeD 0 n = (List.range n.toNat).map fun i : Nat => D.int i := by
  simp [rangeD]
theorem inF_int (x : Int) (l : List Int) : inF (.int x) (l.map D.int) = decide (x ∈ l) := by
  unfold inF
  induction l with
  | nil => simp
  | cons y l ih =>
    rw [List.map_cons, List.any_cons, ih, eqF]
    by_cases c : y = x
    · subst c; simp
    · simp [c, Ne.symm c]
theorem all_flat_int (l : List Int) : (l.map D.int).all flatD = true := by simp
theorem dInB_int (x : Int) (l : List Int) : dInB (.int x) (.lst (l.map D.int)) = .ok (decide (x ∈ l)) := by
  simp only [dInB, flatD, all_flat_int, Bool.and_self, R.ite_t, inF_int]
theorem atI_enc {α : Type} (f : α → D) (l : List α) (d : α) (i : Int) (h0 : 0 ≤ i) (h1 : i < l.length) : atI (l.map f) i = some (f (l.getD i.toNat d)) := by
  rw [atI_nn (l.map f) (f d) i h0 (by simpa using h1)]
  have : i.toNat < l.length := by omega
  simp [List.getD_eq_getElem?_getD, this]
end EQ
/-! EqN: what is no longer needed is forgotten; what a statement needs and gives. -/
namespace EQ
open PySem PySem.Spec PyProof.Rows L2
/-! ### less may be known -/
def Weak (τ : DEnv → DEnv) : Prop := ∀ {K : PySem.W.Frag} {B H : Hp} {σ : L2.St} {ρ : DEnv} {g : Nat → List Addr}, OkG K B H σ ρ g → ∃ B', Same B B' ∧ OkG K B' H σ (τ ρ) g
theorem OkG.forget {K : PySem.W.Frag} {B H : Hp} {σ : L2.St} {ρ : DEnv} {g : Nat → List Addr} (ok : OkG K B H σ ρ g) : ∀ vs : List Nat, OkG K B H σ (wipeE vs ρ) g
  | [] => ok
  | v :: vs => by
    have ih := ok.forget vs
    have k : ∀ {j y}, ((wipeE vs ρ).set v none)[j]? = some (some y) → j ≠ v ∧ (wipeE vs ρ)[j]? = some (some y) := fun h => by
      rcases get_set h with ⟨_, z, _⟩ | ⟨n, h⟩
      · cases z
      · exact ⟨n, h⟩
    refine ⟨?_, ih.bas, fun j d o e => ih.rep j d o (k e).2, fun j d e => ih.frz j d (k e).2, fun j d e => ih.own j d (k e).2, fun j l d e h1 h2 => ih.dis j l d e (k h1).2 (k h2).2⟩
    show σ.length = ((wipeE vs ρ).set v none).length
    rw [List.length_set]; exact ih.len
theorem weak_wipe (vs : List Nat) : Weak (wipeE vs) := fun ok => ⟨_, Same.refl _, ok.forget vs⟩
@[simp] def frzE : List Nat → DEnv → DEnv
  | [], ρ => ρ
  | i :: is, ρ => match (frzE is ρ)[i]? with
    | some (some (d, _)) => (frzE is ρ).set i (some (d, false))
    | _ => frzE is ρ
theorem weak_frz : ∀ is : List Nat, Weak (frzE is)
  | [], _, _, _, _, _, _, ok => ⟨_, Same.refl _, ok⟩
  | i :: is, K, B, H, σ, ρ, g, ok => by
    obtain ⟨B1, s1, ok1⟩ := weak_frz is ok
    unfold frzE
    split
    · rename_i d o e
      obtain ⟨B2, s2, ok2, _⟩ := ok1.freeze e
      exact ⟨B2, s1.trans s2, ok2⟩
    · exact ⟨B1, s1, ok1⟩
@[simp] def sWk (τ : DEnv → DEnv) (f : DS) : DS := fun ρ => (f ρ).bind fun o => match o with
  | .nx ρ' => .ok (.nx (τ ρ'))
  | o => .ok o
@[simp] def sPre (τ : DEnv → DEnv) (f : DS) : DS := fun ρ => f (τ ρ)
theorem wk_imp {X : Cx} {Ex : XK} {f : DS} {τ : DEnv → DEnv} (w : Weak τ) : ∀ N σ H, tS X.K X.mg Ex (sWk τ f) N σ H → tS X.K X.mg Ex f N σ H := fun N σ H ⟨B, g, ρ, ok, h⟩ => ⟨B, g, ρ, ok, h.bind.imp (fun _ z => z) fun o _ h1 => by
    cases o with
    | nx ρ' => exact fun B' g' σ' H' s' ok' => (w ok').elim fun B2 h2 => h1 B2 g' σ' H' (s'.trans h2.1) h2.2
    | rt d => exact h1
    | bk ρ' => exact h1
    | ct ρ' => exact h1⟩
theorem pre_imp {X : Cx} {Ex : XK} {f : DS} {τ : DEnv → DEnv} (w : Weak τ) : ∀ N σ H, tS X.K X.mg Ex (sPre τ f) N σ H → tS X.K X.mg Ex f N σ H := fun N σ H ⟨B, g, ρ, ok, h⟩ => by
  obtain ⟨B2, s2, ok2⟩ := w ok
  exact ⟨B2, g, _, ok2, Post.imp h (fun c z => z.mono s2) fun o _ z => z.mono s2⟩
section
variable {X : Cx} {Ex : XK} {st : Stmt} {sts : List Stmt} {f : DS} {τ : DEnv → DEnv}
theorem sx_wk (w : Weak τ) (h : PSX X Ex st f) : PSX X Ex st (sWk τ f) := PS.imp h (wk_imp w)
theorem sxs_wk (w : Weak τ) (h : PSSX X Ex sts f) : PSSX X Ex sts (sWk τ f) := PSs.imp h (wk_imp w)
theorem sx_pre (w : Weak τ) (h : PSX X Ex st f) : PSX X Ex st (sPre τ f) := PS.imp h (pre_imp w)
theorem sxs_pre (w : Weak τ) (h : PSSX X Ex sts f) : PSSX X Ex sts (sPre τ f) := PSs.imp h (pre_imp w)
end
/-! ### what a statement needs and gives -/
@[irreducible] def WS (S : DS) (ρ : DEnv) (Kn : DEnv → Prop) (Kr : D → Prop) : Prop := match S ρ with
  | .ok (.nx ρ') => Kn ρ'
  | .ok (.rt d) => Kr d
  | _ => False
theorem WS.cases {S : DS} {ρ : DEnv} {Kn : DEnv → Prop} {Kr : D → Prop} (h : WS S ρ Kn Kr) : (∃ ρ', S ρ = .ok (.nx ρ') ∧ Kn ρ') ∨ ∃ d, S ρ = .ok (.rt d) ∧ Kr d := by
  unfold WS at h
  split at h
  · rename_i ρ' e; exact .inl ⟨ρ', e, h⟩
  · rename_i d e; exact .inr ⟨d, e, h⟩
  · exact h.elim
theorem WS.nx {S : DS} {ρ ρ' : DEnv} {Kn : DEnv → Prop} {Kr : D → Prop} (e : S ρ = .ok (.nx ρ')) (h : Kn ρ') : WS S ρ Kn Kr := by unfold WS; rw [e]; exact h
theorem WS.rt {S : DS} {ρ : DEnv} {d : D} {Kn : DEnv → Prop} {Kr : D → Prop} (e : S ρ = .ok (.rt d)) (h : Kr d) : WS S ρ Kn Kr := by unfold WS; rw [e]; exact h
theorem WS.congr {S S' : DS} {ρ ρ' : DEnv} {Kn : DEnv → Prop} {Kr : D → Prop} (e : S ρ = S' ρ') (h : WS S' ρ' Kn Kr) : WS S ρ Kn Kr := by
  unfold WS at h ⊢
  rw [e]; exact h
theorem WS.imp {S : DS} {ρ : DEnv} {Kn Kn' : DEnv → Prop} {Kr : D → Prop} (h : WS S ρ Kn Kr) (i : ∀ ρ', Kn ρ' → Kn' ρ') : WS S ρ Kn' Kr := by
  rcases h.cases with ⟨ρ', e, k⟩ | ⟨d, e, k⟩
  · exact .nx e (i _ k)
  · exact .rt e k
theorem fs_of {n m : Nat} {body : DS} {ds : List D} {ρ : DEnv} {Q : D → Prop} (hl : (ds.length == n) = true) (hρ : ds.map (fun d => some (d, imm d)) ++ List.replicate (m - n) none = ρ) (h : WS body ρ (fun _ => Q .non) Q) : ∃ d, (fnSem n m body ds).nox = .ok d ∧ Q d := by
  unfold fnSem
  rw [hl, R.ite_t, hρ]
  rcases h.cases with ⟨ρ', e, k⟩ | ⟨d, e, k⟩
  · exact ⟨.non, by rw [e]; rfl, k⟩
  · exact ⟨d, by rw [e]; rfl, k⟩
theorem fs_ofX {n m : Nat} {body : DS} {ds : List D} {ρ : DEnv} {Q : D → Prop} (hl : (ds.length == n) = true) (hρ : ds.map (fun d => some (d, imm d)) ++ List.replicate (m - n) none = ρ) (h : WS body ρ (fun _ => Q .non) Q) : ∃ d, fnSem n m body ds = .ok d ∧ Q d := by
  unfold fnSem
  rw [hl, R.ite_t, hρ]
  rcases h.cases with ⟨ρ', e, k⟩ | ⟨d, e, k⟩
  · exact ⟨.non, by rw [e]; rfl, k⟩
  · exact ⟨d, by rw [e]; rfl, k⟩
section
variable {S T A B : DS} {ρ ρ1 ρ2 : DEnv} {Kn : DEnv → Prop} {Kr : D → Prop} {i : Nat} {E E1 E2 : DX} {fo : DO1} {d e : D} {τ : DEnv → DEnv} {C : DT} {b : Bool}
theorem ws_nil (h : Kn ρ) : WS sNil ρ Kn Kr := .nx rfl h
theorem ws_seq (h : WS S ρ (fun ρ' => WS T ρ' Kn Kr) Kr) : WS (sSeq S T) ρ Kn Kr := by
  rcases h.cases with ⟨ρ', e, k⟩ | ⟨d, e, k⟩
  · exact .congr (S' := T) (ρ' := ρ') (by rw [sSeq, e]; rfl) k
  · exact .rt (by rw [sSeq, e]; rfl) k
theorem ws_wk (h : WS S ρ (fun ρ' => Kn (τ ρ')) Kr) : WS (sWk τ S) ρ Kn Kr := by
  rcases h.cases with ⟨ρ', e, k⟩ | ⟨d, e, k⟩
  · exact .nx (by rw [sWk, e]; rfl) k
  · exact .rt (by rw [sWk, e]; rfl) k
theorem ws_pre (h : WS S (τ ρ) Kn Kr) : WS (sPre τ S) ρ Kn Kr := by
  unfold WS at h ⊢
  exact h
theorem ws_set {α : Type} {ec : α → D} {v : α} {ρ' : α → DEnv} (hE : E ρ = .ok (ec v, true)) (hl : decide (i < ρ.length) = true) (hρ : ∀ x, ρ.set i (some (ec x, true)) = ρ' x) (hk : ∀ x, x = v → Kn (ρ' x)) : WS (sSet i E) ρ Kn Kr :=
  .nx (ρ' := ρ' v) (by rw [← hρ v]; simp only [sSet, hE, R.bind_ok, hl, R.ite_t]) (hk v rfl)
theorem ws_setB {α : Type} {ec : α → D} {v : α} {ρ' : α → DEnv} (hE : E ρ = .ok (ec v, false)) (hl : decide (i < ρ.length) = true) (hρ : ∀ x, (lookE ρ).set i (some (ec x, false)) = ρ' x) (hk : ∀ x, x = v → Kn (ρ' x)) : WS (sSet i E) ρ Kn Kr :=
  .nx (ρ' := ρ' v) (by rw [← hρ v]; simp only [sSet, hE, R.bind_ok, hl, R.ite_t]) (hk v rfl)
theorem ws_setO {α : Type} {ec : α → D} {v : α} {ρ1 : DEnv} {ρ' : α → DEnv} (hE : fo ρ = .ok (ec v, ρ1)) (hl : decide (i < ρ1.length) = true) (hρ : ∀ x, ρ1.set i (some (ec x, true)) = ρ' x) (hk : ∀ x, x = v → Kn (ρ' x)) : WS (sSetO i fo) ρ Kn Kr :=
  .nx (ρ' := ρ' v) (by rw [← hρ v]; simp only [sSetO, hE, R.bind_ok, hl, R.ite_t]) (hk v rfl)
theorem ws_ret {d : D} {ρ1 : DEnv} (hE : fo ρ = .ok (d, ρ1)) (hk : Kr d) : WS (sRet fo) ρ Kn Kr :=
  .rt (d := d) (by simp only [sRet, hE, R.bind_ok]) hk
theorem ws_retN (hk : Kr .non) : WS sRetN ρ Kn Kr := .rt rfl hk
theorem ws_if (hc : C ρ = .ok b) (ht : b = true → WS A ρ Kn Kr) (he : b = false → WS B ρ Kn Kr) : WS (sIf C A B) ρ Kn Kr := by
  cases b with
  | true => exact .congr (by rw [sIf, hc]; rfl) (ht rfl)
  | false => exact .congr (by rw [sIf, hc]; rfl) (he rfl)
theorem ws_append {α : Type} {ec : α → D} {xs : List α} {v : α} {ρ1 : DEnv} {ρ' : List α → DEnv} (h0 : ρ[i]? = some (some (.lst (xs.map ec), true))) (hE : fo ρ = .ok (ec v, ρ1)) (h1 : ρ1[i]? = some (some (.lst (xs.map ec), true))) (hl : xs.length < 16777216)
    (hρ : ∀ x, ρ1.set i (some (.lst (List.map ec x), true)) = ρ' x) (hk : ∀ x, x = xs ++ [v] → Kn (ρ' x)) : WS (sAppend i fo) ρ Kn Kr :=
  .nx (ρ' := ρ' (xs ++ [v])) (by
    rw [← hρ, sAppend, h0]
    simp only [hE, R.bind_ok, h1, List.length_map, sizeLine_val, decide_eq_true hl, R.ite_t, List.map_append, List.map_cons, List.map_nil]) (hk _ rfl)
theorem ws_clear {α : Type} {ec : α → D} {xs : List α} {ρ' : List α → DEnv} (h0 : ρ[i]? = some (some (.lst (xs.map ec), true)))
    (hρ : ∀ x, ρ.set i (some (.lst (List.map ec x), true)) = ρ' x) (hk : ∀ x, x = [] → Kn (ρ' x)) : WS (sClear i) ρ Kn Kr :=
  .nx (ρ' := ρ' []) (by rw [← hρ, sClear, h0]; rfl) (hk _ rfl)
theorem ws_pop {α : Type} {ec : α → D} {xs : List α} {ρ' : List α → DEnv} (h0 : ρ[i]? = some (some (.lst (xs.map ec), true))) (hl : xs ≠ [])
    (hρ : ∀ x, ρ.set i (some (.lst (List.map ec x), true)) = ρ' x) (hk : ∀ x, x = xs.dropLast → Kn (ρ' x)) : WS (sPop i) ρ Kn Kr :=
  .nx (ρ' := ρ' xs.dropLast) (by
    have : 0 < xs.length := List.length_pos_iff.mpr hl
    rw [← hρ, sPop, h0]
    simp only [List.length_map, decide_eq_true this, R.ite_t, List.map_dropLast]) (hk _ rfl)
theorem ixN_nn {n : Nat} {i : Int} (h0 : 0 ≤ i) (h1 : i < n) : ixN n i = some i.toNat := by unfold ixN; rw [if_pos h0, if_pos h1]
theorem ws_store {α : Type} {ec : α → D} {xs : List α} {v : α} {k : Int} {o : Bool} {ρ1 : DEnv} {ρ' : List α → DEnv} {fk : DX} (hE : fo ρ = .ok (ec v, ρ1)) (h1 : ρ1[i]? = some (some (.lst (xs.map ec), true))) (hK : fk ρ1 = .ok (.int k, o)) (h2 : 0 ≤ k ∧ k < xs.length)
    (hρ : ∀ x, ρ1.set i (some (.lst (List.map ec x), true)) = ρ' x) (hk : ∀ x, x = xs.set k.toNat v → Kn (ρ' x)) : WS (sStore i fk fo) ρ Kn Kr :=
  .nx (ρ' := ρ' (xs.set k.toNat v)) (by
    rw [← hρ, sStore, hE]
    simp only [R.bind_ok, h1, hK, stLst, List.length_map, ixN_nn h2.1 h2.2, ofO_some, List.map_set]) (hk _ rfl)
/-- the last item -/
theorem ixN_neg {n : Nat} (h : 0 < n) : ixN n (-1) = some (n - 1) := by unfold ixN; rw [if_neg (by omega), if_pos (by omega)]; congr 1; omega
theorem ws_storeL {α : Type} {ec : α → D} {xs : List α} {v : α} {o : Bool} {ρ1 : DEnv} {ρ' : List α → DEnv} {fk : DX} (hE : fo ρ = .ok (ec v, ρ1)) (h1 : ρ1[i]? = some (some (.lst (xs.map ec), true))) (hK : fk ρ1 = .ok (.int (-1), o)) (h2 : xs ≠ [])
    (hρ : ∀ x, ρ1.set i (some (.lst (List.map ec x), true)) = ρ' x) (hk : ∀ x, x = xs.set (xs.length - 1) v → Kn (ρ' x)) : WS (sStore i fk fo) ρ Kn Kr :=
  .nx (ρ' := ρ' (xs.set (xs.length - 1) v)) (by
    have : 0 < xs.length := List.length_pos_iff.mpr h2
    rw [← hρ, sStore, hE]
    simp only [R.bind_ok, h1, hK, stLst, List.length_map, ixN_neg this, ofO_some, List.map_set]) (hk _ rfl)
/-- x[k][l] = v -/
def set2 {β : Type} (xs : List (List β)) (k l : Nat) (v : β) : List (List β) := xs.set k ((xs.getD k []).set l v)
theorem ws_store2 {β : Type} {ec : β → D} {xs : List (List β)} {v : β} {k l : Int} {o o2 : Bool} {ρ1 : DEnv} {ρ' : List (List β) → DEnv} {fk fl : DX} (hE : fo ρ = .ok (ec v, ρ1)) (hi : imm (ec v) = true) (h1 : ρ1[i]? = some (some (.lst (xs.map fun r => .lst (r.map ec)), true))) (hK : fk ρ1 = .ok (.int k, o)) (hL : fl ρ1 = .ok (.int l, o2)) (h2 : 0 ≤ k ∧ k < xs.length) (h3 : 0 ≤ l ∧ l < (xs.getD k.toNat []).length)
    (hρ : ∀ x, ρ1.set i (some (.lst (List.map (fun r => D.lst (List.map ec r)) x), true)) = ρ' x) (hk : ∀ x, x = set2 xs k.toNat l.toNat v → Kn (ρ' x)) : WS (sStore2 i fk fl fo) ρ Kn Kr :=
  .nx (ρ' := ρ' (set2 xs k.toNat l.toNat v)) (by
    have hk' : k.toNat < xs.length := by omega
    have e : (List.map (fun r => D.lst (List.map ec r)) xs)[k.toNat]? = some (.lst ((xs.getD k.toNat []).map ec)) := by
      rw [List.getElem?_map, List.getElem?_eq_getElem hk', List.getD_eq_getElem?_getD, List.getElem?_eq_getElem hk']; rfl
    rw [← hρ, sStore2, hE]
    simp only [R.bind_ok, h1, hK, rowAt, List.length_map, ixN_nn h2.1 h2.2, Option.bind_some, e, hL, st2, ixN_nn h3.1 h3.2, ofO_some, hi, R.ite_t, set2, List.map_set]) (hk _ rfl)
/-- x[k].append(v) -/
def app2 {β : Type} (xs : List (List β)) (k : Nat) (v : β) : List (List β) := xs.set k (xs.getD k [] ++ [v])
theorem ws_append2 {β : Type} {ec : β → D} {xs : List (List β)} {v : β} {k : Int} {o o2 : Bool} {ρ' : List (List β) → DEnv} {fk fe : DX} (h1 : ρ[i]? = some (some (.lst (xs.map fun r => .lst (r.map ec)), true))) (hK : fk ρ = .ok (.int k, o)) (hE : fe ρ = .ok (ec v, o2)) (hi : imm (ec v) = true) (h2 : 0 ≤ k ∧ k < xs.length) (h3 : (xs.getD k.toNat []).length < 16777216)
    (hρ : ∀ x, ρ.set i (some (.lst (List.map (fun r => D.lst (List.map ec r)) x), true)) = ρ' x) (hk : ∀ x, x = app2 xs k.toNat v → Kn (ρ' x)) : WS (sAppend2 i fk fe) ρ Kn Kr :=
  .nx (ρ' := ρ' (app2 xs k.toNat v)) (by
    have hk' : k.toNat < xs.length := by omega
    have e : (List.map (fun r => D.lst (List.map ec r)) xs)[k.toNat]? = some (.lst ((xs.getD k.toNat []).map ec)) := by
      rw [List.getElem?_map, List.getElem?_eq_getElem hk', List.getD_eq_getElem?_getD, List.getElem?_eq_getElem hk']; rfl
    rw [← hρ, sAppend2, h1]
    simp only [hK, R.bind_ok, rowAt, List.length_map, ixN_nn h2.1 h2.2, Option.bind_some, e, hE, hi, Bool.true_and, sizeLine_val, decide_eq_true h3, R.ite_t, app2, List.map_set, List.map_append, List.map_cons, List.map_nil]) (hk _ rfl)
/-- a, b = e -/
theorem ws_unp {is : List Nat} {ds : List D} (hE : E ρ = .ok (.tup ds, true)) (hl : (decide (ds.length = is.length) && is.all fun i => decide (i < ρ.length)) = true) (hρ : putAll (fun _ => true) is ds ρ = ρ1) (hk : Kn ρ1) : WS (sUnp is E) ρ Kn Kr :=
  .nx (ρ' := ρ1) (by rw [← hρ, sUnp, hE]; simp only [R.bind_ok, hl, R.ite_t]) hk
theorem ws_unpB {is : List Nat} {ds : List D} (hE : E ρ = .ok (.tup ds, false)) (hl : (decide (ds.length = is.length) && is.all fun i => decide (i < ρ.length)) = true) (hρ : putAll imm is ds (lookE ρ) = ρ1) (hk : Kn ρ1) : WS (sUnp is E) ρ Kn Kr :=
  .nx (ρ' := ρ1) (by rw [← hρ, sUnp, hE]; simp only [R.bind_ok, hl, R.ite_t]) hk
/-! loops -/
theorem ws_for {α σ : Type} {ec : α → D} {l : List α} {fi : DIt} {t : DTg} {f : DS} {st : σ → DEnv} {bd : α → σ → DEnv} (I : List α → σ → Prop) (s0 : σ) (hi : fi ρ = .ok (l.map ec, st s0)) (ht : ∀ a s, t (ec a) (st s) = .ok (bd a s)) (h0 : I [] s0)
    (hb : ∀ done a rest s, l = done ++ a :: rest → I done s → WS f (bd a s) (fun ρ' => ∃ s', ρ' = st s' ∧ I (done ++ [a]) s') Kr) (hp : ∀ s, I l s → Kn (st s)) : WS (sFor fi t f) ρ Kn Kr := by
  have key : ∀ (rest done : List α) s, l = done ++ rest → I done s → (∃ s', forS t f (rest.map ec) (st s) = .ok (.nx (st s')) ∧ I l s') ∨ ∃ d, forS t f (rest.map ec) (st s) = .ok (.rt d) ∧ Kr d := by
    intro rest
    induction rest with
    | nil =>
      intro done s e p
      rw [List.append_nil] at e
      subst e
      exact .inl ⟨s, rfl, p⟩
    | cons a rest ih =>
      intro done s e p
      rcases (hb done a rest s e p).cases with ⟨ρ', e2, s', rfl, p'⟩ | ⟨d, e2, k⟩
      · have h := ih (done ++ [a]) s' (by rw [e]; simp) p'
        have e3 : forS t f ((a :: rest).map ec) (st s) = forS t f (rest.map ec) (st s') := by rw [List.map_cons, forS, ht, R.bind_ok, e2, R.bind_ok]
        rw [e3]; exact h
      · exact .inr ⟨d, by rw [List.map_cons, forS, ht, R.bind_ok, e2, R.bind_ok], k⟩
  have e0 : sFor fi t f ρ = forS t f (l.map ec) (st s0) := by rw [sFor, hi, R.bind_ok]
  rcases key l [] s0 rfl h0 with ⟨s', e, p⟩ | ⟨d, e, k⟩
  · exact .nx (by rw [e0]; exact e) (hp s' p)
  · exact .rt (by rw [e0]; exact e) k
/-- over places: by their number -/
theorem ws_forR {σ : Type} {ec : Nat → D} {n : Nat} {fi : DIt} {t : DTg} {f : DS} {st : σ → DEnv} {bd : Nat → σ → DEnv} (I : Nat → σ → Prop) (s0 : σ) (hi : fi ρ = .ok ((List.range n).map ec, st s0)) (ht : ∀ a s, t (ec a) (st s) = .ok (bd a s)) (h0 : I 0 s0)
    (hb : ∀ a s, a < n → I a s → WS f (bd a s) (fun ρ' => ∃ s', ρ' = st s' ∧ I (a + 1) s') Kr) (hp : ∀ s, I n s → Kn (st s)) : WS (sFor fi t f) ρ Kn Kr := by
  refine ws_for (l := List.range n) (fun done s => I done.length s) s0 hi ht h0 (fun done a rest s e p => ?_) fun s p => hp s (by simpa using p)
  have ha : a = done.length := by
    have h1 : (List.range n)[done.length]? = some a := by rw [e]; simp
    obtain ⟨h2, h3⟩ := List.getElem?_eq_some_iff.mp h1
    simpa using h3.symm
  have hn : done.length < n := by
    have := congrArg List.length e
    simp at this
    omega
  subst ha
  refine (hb done.length s hn p).imp fun ρ' ⟨s', h1, h2⟩ => ⟨s', h1, by simpa using h2⟩
theorem ws_while {σ : Type} {c : DT} {f : DS} {st : σ → DEnv} {cv : σ → Bool} (I : Nat → σ → Prop) (s0 : σ) (hs : ρ = st s0) (h0 : ∃ n, I n s0) (hb : ∀ n s, I n s → c (st s) = .ok (cv s) ∧ (cv s = true → WS f (st s) (fun ρ' => ∃ s', ρ' = st s' ∧ ∃ m, m < n ∧ I m s') Kr) ∧ (cv s = false → Kn (st s))) : WS (sWhile c f) ρ Kn Kr := by
  obtain ⟨n, h0⟩ := h0
  have key : ∀ (n : Nat) s, I n s → WS (sWhile c f) (st s) Kn Kr := by
    intro n
    induction n using Nat.strongRecOn with
    | ind n ih =>
      intro s h
      obtain ⟨h1, h2, h3⟩ := hb n s h
      cases e : cv s with
      | false => exact .nx (by rw [sWhile_eq, h1, R.bind_ok, e]) (h3 e)
      | true =>
        rcases (h2 e).cases with ⟨ρ', e2, s', rfl, m, hm, p⟩ | ⟨d, e2, k⟩
        · exact .congr (by rw [sWhile_eq, h1, R.bind_ok, e]; simp only [e2, R.bind_ok]) (ih m hm s' p)
        · exact .rt (by rw [sWhile_eq, h1, R.bind_ok, e]; simp only [e2, R.bind_ok]) k
  rw [hs]
  exact key n s0 h0
end
end EQ
/-! EqO: data of a known shape; what an expression gives. -/
namespace EQ
open PySem PySem.Spec PyProof.Rows L2
structure Ship where
  b : Int
  e : Int
  n : Int
  m : Int
  deriving DecidableEq, Inhabited
def Ship.d (s : Ship) : D := .tup [.int s.b, .int s.e, .int s.n, .int s.m]
@[reducible] def eL {α : Type} (e : α → D) (l : List α) : D := .lst (l.map e)
def eP (p : Int × Int) : D := .tup [.int p.1, .int p.2]
def eT2 {α β : Type} (e1 : α → D) (e2 : β → D) (p : α × β) : D := .tup [e1 p.1, e2 p.2]
def eT3 {α β γ : Type} (e1 : α → D) (e2 : β → D) (e3 : γ → D) (p : α × β × γ) : D := .tup [e1 p.1, e2 p.2.1, e3 p.2.2]
def eO {α : Type} (e : α → D) : Option α → D
  | none => .non
  | some x => e x
def eU (_ : Unit) : D := .non
def eDI {β : Type} (e : β → D) (l : List (Int × β)) : D := .dct (l.map fun p => .inl p.1) (l.map fun p => e p.2)
/-- an item by a number -/
def ix {α : Type} [Inhabited α] (xs : List α) (k : Int) : α := xs.getD k.toNat default
def ixl {α : Type} [Inhabited α] (xs : List α) : α := xs.getD (xs.length - 1) default
def ogt {α : Type} [Inhabited α] (x : Option α) : α := x.getD default
/-- a dict's item -/
def aget {β : Type} : List (Int × β) → Int → Option β
  | [], _ => none
  | p :: r, k => if p.1 = k then some p.2 else aget r k
def ahas {β : Type} (l : List (Int × β)) (k : Int) : Bool := l.any fun p => decide (p.1 = k)
def aset {β : Type} : List (Int × β) → Int → β → List (Int × β)
  | [], _, _ => []
  | p :: r, k, v => (if p.1 = k then (p.1, v) else p) :: aset r k v
def aput {β : Type} (l : List (Int × β)) (k : Int) (v : β) : List (Int × β) := if ahas l k then aset l k v else l ++ [(k, v)]
@[simp] theorem Ship.d_imm (s : Ship) : imm s.d = true := by simp [Ship.d]
@[simp] theorem eP_imm (p : Int × Int) : imm (eP p) = true := by simp [eP]
theorem imm_T2 {α β : Type} {e1 : α → D} {e2 : β → D} (h1 : ∀ x, imm (e1 x) = true) (h2 : ∀ x, imm (e2 x) = true) (p : α × β) : imm (eT2 e1 e2 p) = true := by simp [eT2, h1, h2]
theorem imm_T2l {α β : Type} {e1 : α → D} {e2 : β → D} (h1 : ∀ x, imm (e1 x) = false) (p : α × β) : imm (eT2 e1 e2 p) = false := by simp [eT2, h1]
theorem imm_T2r {α β : Type} {e1 : α → D} {e2 : β → D} (h1 : ∀ x, imm (e2 x) = false) (p : α × β) : imm (eT2 e1 e2 p) = false := by simp [eT2, h1]
theorem imm_T3 {α β γ : Type} {e1 : α → D} {e2 : β → D} {e3 : γ → D} (h1 : ∀ x, imm (e1 x) = true) (h2 : ∀ x, imm (e2 x) = true) (h3 : ∀ x, imm (e3 x) = true) (p : α × β × γ) : imm (eT3 e1 e2 e3 p) = true := by simp [eT3, h1, h2, h3]
theorem imm_T3r {α β γ : Type} {e1 : α → D} {e2 : β → D} {e3 : γ → D} (h3 : ∀ x, imm (e3 x) = false) (p : α × β × γ) : imm (eT3 e1 e2 e3 p) = false := by simp [eT3, h3]
theorem imm_O {α : Type} {e : α → D} (h : ∀ x, imm (e x) = true) (x : Option α) : imm (eO e x) = true := by cases x <;> simp [eO, h]
theorem imm_U (x : Unit) : imm (eU x) = true := by simp [eU]
theorem imm_L {α : Type} {e : α → D} (l : List α) : imm (eL e l) = false := imm_lst _
theorem imm_DI {α : Type} {e : α → D} (l : List (Int × α)) : imm (eDI e l) = false := imm_dct _ _
theorem immA_map {α : Type} {e : α → D} (h : ∀ x, imm (e x) = true) (l : List α) : immA (l.map e) = true := (immA_all _).mpr fun x hx => by
  obtain ⟨y, _, rfl⟩ := List.mem_map.mp hx
  exact h y
theorem imm_id (d : D) : imm d = imm d := rfl
/-! ### == -/
structure Eqv {α : Type} (n : Nat) (e : α → D) : Prop where
  py : ∀ x, ∃ p, toPy (e x) = some p ∧ p.canLay0 = true ∧ p.depth ≤ n
  eq : ∀ x y p q, toPy (e x) = some p → toPy (e y) = some q → (PyData.eqv p q = true ↔ x = y)
theorem eqv_int : Eqv 0 D.int where
  py := fun x => ⟨.int x, by rw [toPy], by simp [PyData.canLay0], by simp [PyData.depth]⟩
  eq := fun x y p q h1 h2 => by rw [toPy] at h1 h2; cases h1; cases h2; simp [PyData.eqv]
theorem eqv_bl : Eqv 0 D.bl where
  py := fun x => ⟨.bool x, by rw [toPy], by simp [PyData.canLay0], by simp [PyData.depth]⟩
  eq := fun x y p q h1 h2 => by rw [toPy] at h1 h2; cases h1; cases h2; simp [PyData.eqv]
section
variable {α β : Type} {e : α → D} {f : β → D} {n : Nat}
theorem pyA_map (h : Eqv n e) : ∀ l : List α, ∃ ps, toPyA (l.map e) = some ps ∧ PyData.canLayAll0 ps = true ∧ PyData.depthAll ps ≤ n
  | [] => ⟨[], by rw [List.map_nil, toPyA], by simp [PyData.canLayAll0], by simp [PyData.depthAll]⟩
  | x :: l => by
    obtain ⟨p, e1, c1, d1⟩ := h.py x
    obtain ⟨ps, e2, c2, d2⟩ := pyA_map h l
    exact ⟨p :: ps, by rw [List.map_cons, toPyA, e1, e2], by rw [PyData.canLayAll0, c1, c2]; rfl, by rw [PyData.depthAll]; exact Nat.max_le.mpr ⟨d1, d2⟩⟩
theorem eqvA_map (h : Eqv n e) : ∀ (l m : List α) ps qs, toPyA (l.map e) = some ps → toPyA (m.map e) = some qs → (PyData.eqvAll ps qs = true ↔ l = m)
  | [], [], ps, qs, e1, e2 => by rw [List.map_nil, toPyA] at e1 e2; cases e1; cases e2; simp [PyData.eqvAll]
  | [], y :: m, ps, qs, e1, e2 => by
    rw [List.map_nil, toPyA] at e1; cases e1
    obtain ⟨a, b, _, _, rfl⟩ := pyA_cons (List.map_cons ▸ e2)
    simp [PyData.eqvAll]
  | x :: l, [], ps, qs, e1, e2 => by
    rw [List.map_nil, toPyA] at e2; cases e2
    obtain ⟨a, b, _, _, rfl⟩ := pyA_cons (List.map_cons ▸ e1)
    simp [PyData.eqvAll]
  | x :: l, y :: m, ps, qs, e1, e2 => by
    obtain ⟨a, b, a1, a2, rfl⟩ := pyA_cons (List.map_cons ▸ e1)
    obtain ⟨c, d, c1, c2, rfl⟩ := pyA_cons (List.map_cons ▸ e2)
    rw [PyData.eqvAll, Bool.and_eq_true, h.eq x y a c a1 c1, eqvA_map h l m b d a2 c2, List.cons.injEq]
theorem eqv_L (h : Eqv n e) : Eqv (n + 1) (eL e) where
  py := fun l => by
    obtain ⟨ps, e1, c1, d1⟩ := pyA_map h l
    exact ⟨.list ps, by rw [eL, toPy, e1]; rfl, by rw [PyData.canLay0]; exact c1, by rw [PyData.depth]; omega⟩
  eq := fun l m p q h1 h2 => by
    obtain ⟨ps, e1, _⟩ := pyA_map h l
    obtain ⟨qs, e2, _⟩ := pyA_map h m
    rw [eL, toPy, e1] at h1
    rw [eL, toPy, e2] at h2
    cases h1; cases h2
    rw [PyData.eqv]
    exact eqvA_map h l m ps qs e1 e2
theorem eqv_T2 (h1 : Eqv n e) (h2 : Eqv n f) : Eqv (n + 1) (eT2 e f) where
  py := fun x => by
    obtain ⟨p, e1, c1, d1⟩ := h1.py x.1
    obtain ⟨q, e2, c2, d2⟩ := h2.py x.2
    exact ⟨.tuple [p, q], by rw [eT2, toPy, toPyA, toPyA, toPyA, e1, e2]; rfl, by simp [PyData.canLay0, PyData.canLayAll0, c1, c2], by simp [PyData.depth, PyData.depthAll]; omega⟩
  eq := fun x y p q k1 k2 => by
    obtain ⟨p1, e1, _⟩ := h1.py x.1
    obtain ⟨q1, e2, _⟩ := h2.py x.2
    obtain ⟨p2, e3, _⟩ := h1.py y.1
    obtain ⟨q2, e4, _⟩ := h2.py y.2
    rw [eT2, toPy, toPyA, toPyA, toPyA, e1, e2] at k1
    rw [eT2, toPy, toPyA, toPyA, toPyA, e3, e4] at k2
    cases k1; cases k2
    simp only [PyData.eqv, PyData.eqvAll, Bool.and_true, Bool.and_eq_true, h1.eq _ _ _ _ e1 e3, h2.eq _ _ _ _ e2 e4, Prod.ext_iff]
theorem eqv_T3 {γ : Type} {g : γ → D} (h1 : Eqv n e) (h2 : Eqv n f) (h3 : Eqv n g) : Eqv (n + 1) (eT3 e f g) where
  py := fun x => by
    obtain ⟨p, e1, c1, d1⟩ := h1.py x.1
    obtain ⟨q, e2, c2, d2⟩ := h2.py x.2.1
    obtain ⟨r, e3, c3, d3⟩ := h3.py x.2.2
    exact ⟨.tuple [p, q, r], by rw [eT3, toPy, toPyA, toPyA, toPyA, toPyA, e1, e2, e3]; rfl, by simp [PyData.canLay0, PyData.canLayAll0, c1, c2, c3], by simp [PyData.depth, PyData.depthAll]; omega⟩
  eq := fun x y p q k1 k2 => by
    obtain ⟨p1, e1, _⟩ := h1.py x.1
    obtain ⟨q1, e2, _⟩ := h2.py x.2.1
    obtain ⟨r1, e5, _⟩ := h3.py x.2.2
    obtain ⟨p2, e3, _⟩ := h1.py y.1
    obtain ⟨q2, e4, _⟩ := h2.py y.2.1
    obtain ⟨r2, e6, _⟩ := h3.py y.2.2
    rw [eT3, toPy, toPyA, toPyA, toPyA, toPyA, e1, e2, e5] at k1
    rw [eT3, toPy, toPyA, toPyA, toPyA, toPyA, e3, e4, e6] at k2
    cases k1; cases k2
    simp only [PyData.eqv, PyData.eqvAll, Bool.and_true, Bool.and_eq_true, h1.eq _ _ _ _ e1 e3, h2.eq _ _ _ _ e2 e4, h3.eq _ _ _ _ e5 e6, Prod.ext_iff]
theorem eqv_le {n' : Nat} (h : Eqv n e) (l : n ≤ n') : Eqv n' e := ⟨fun x => let ⟨p, e1, c, d⟩ := h.py x; ⟨p, e1, c, Nat.le_trans d l⟩, h.eq⟩
end
theorem eqv_P : Eqv 1 eP := by
  have := eqv_T2 eqv_int eqv_int
  exact ⟨fun x => this.py x, fun x y => this.eq x y⟩
theorem eqv_ship : Eqv 1 Ship.d where
  py := fun x => ⟨.tuple [.int x.b, .int x.e, .int x.n, .int x.m], by simp [Ship.d, toPy, toPyA], by simp [PyData.canLay0, PyData.canLayAll0], by simp [PyData.depth, PyData.depthAll]⟩
  eq := fun x y p q k1 k2 => by
    simp only [Ship.d, toPy, toPyA, Option.map_some, Option.some.injEq] at k1 k2
    subst k1; subst k2
    obtain ⟨a, b, c, d⟩ := x
    obtain ⟨a', b', c', d'⟩ := y
    simp [PyData.eqv, PyData.eqvAll]
theorem dEqB_of {α : Type} [DecidableEq α] {e : α → D} {n : Nat} (h : Eqv n e) (hn : n ≤ 50) (x y : α) : dEqB (e x) (e y) = .ok (decide (x = y)) := by
  obtain ⟨p, e1, c1, d1⟩ := h.py x
  obtain ⟨q, e2, c2, d2⟩ := h.py y
  have s1 : SeqAt.shaped p = true := by unfold SeqAt.shaped; rw [c1]; exact decide_eq_true (by omega)
  have s2 : SeqAt.shaped q = true := by unfold SeqAt.shaped; rw [c2]; exact decide_eq_true (by omega)
  unfold dEqB
  rw [e1, e2]
  simp only [s1, s2, Bool.and_self, R.ite_t]
  congr 1
  by_cases c : x = y
  · rw [(h.eq x y p q e1 e2).mpr c]; simp [c]
  · have : PyData.eqv p q = false := by
      cases z : PyData.eqv p q with
      | false => rfl
      | true => exact absurd ((h.eq x y p q e1 e2).mp z) c
    rw [this]; simp [c]
/-! ### expressions -/
section
variable {α β γ : Type} {ec : α → D} {ed : β → D} {A B C E : DX} {T T1 T2 : DT} {F : DXs} {ρ ρ1 ρ2 : DEnv} {d d1 d2 : D} {o o1 o2 : Bool} {i : Nat} {a b c : Int} {p q : Bool}
theorem ev_var (h : ρ[i]? = some (some (d, o))) (hb : imm d = p) : eVar i ρ = .ok (d, p) := by rw [eVar, h, ← hb]
theorem ev_c : eC d ρ = .ok (d, true) := rfl
theorem ev_add (hA : A ρ = .ok (.int a, o1)) (hB : B ρ = .ok (.int b, o2)) : eBin dAdd A B ρ = .ok (.int (a + b), true) := by simp only [eBin, hA, hB, R.bind_ok, dAdd]
theorem ev_sub (hA : A ρ = .ok (.int a, o1)) (hB : B ρ = .ok (.int b, o2)) : eBin dSub A B ρ = .ok (.int (a - b), true) := by simp only [eBin, hA, hB, R.bind_ok, dSub]
def SM (a b : Int) : Prop := (-18446744073709551616 < a ∧ a < 18446744073709551616) ∨ (-18446744073709551616 < b ∧ b < 18446744073709551616) ∨ a.natAbs.log2 + b.natAbs.log2 < 1000000
theorem ev_mul (h : SM a b) (hA : A ρ = .ok (.int a, o1)) (hB : B ρ = .ok (.int b, o2)) : eBin dMul A B ρ = .ok (.int (a * b), true) := by
  have : mulOk a b = true := by
    unfold mulOk
    rcases h with h | h | h
    · rw [small64_of (by omega) (by omega)]; rfl
    · rw [small64_of (i := b) (by omega) (by omega), Bool.true_or, Bool.or_true]
    · rw [decide_eq_true h, Bool.or_true, Bool.or_true]
  simp only [eBin, hA, hB, R.bind_ok, dMul, this, R.ite_t]
def DV (b : Int) : Prop := 0 < b ∧ b.natAbs.log2 < 9000
theorem DV_of {b : Int} (h : 0 < b) (h2 : b < 18446744073709551616) : DV b := ⟨h, by
  have : b.natAbs.log2 < 64 := (Nat.log2_lt (by omega)).mpr (by omega)
  omega⟩
theorem ev_div (h : DV b) (hA : A ρ = .ok (.int a, o1)) (hB : B ρ = .ok (.int b, o2)) : eBin dDiv A B ρ = .ok (.int (a / b), true) := by
  have : okDiv b = true := by unfold okDiv; rw [decide_eq_true h.1, decide_eq_true h.2]; rfl
  simp only [eBin, hA, hB, R.bind_ok, dDiv, this, R.ite_t]
theorem ev_mod (h : 0 < b) (hA : A ρ = .ok (.int a, o1)) (hB : B ρ = .ok (.int b, o2)) : eBin dMod A B ρ = .ok (.int (a % b), true) := by
  simp only [eBin, hA, hB, R.bind_ok, dMod, decide_eq_true h, R.ite_t]
theorem ev_pow (h : (decide (0 ≤ b) && decide (b ≤ 1000000) && decide (a.natAbs < 2 ^ 64)) = true) (hc : a ^ b.toNat = c) (hA : A ρ = .ok (.int a, o1)) (hB : B ρ = .ok (.int b, o2)) : eBin dPow A B ρ = .ok (.int c, true) := by
  simp only [eBin, hA, hB, R.bind_ok, dPow, h, R.ite_t, hc]
theorem ev_neg (hA : A ρ = .ok (.int a, o1)) : eUn dNeg A ρ = .ok (.int (-a), true) := by simp only [eUn, hA, R.bind_ok, dNeg]
theorem ev_lt (hA : A ρ = .ok (.int a, o1)) (hB : B ρ = .ok (.int b, o2)) : eBin dLt A B ρ = .ok (.bl (decide (a < b)), true) := by simp only [eBin, hA, hB, R.bind_ok, dLt]
theorem ev_le (hA : A ρ = .ok (.int a, o1)) (hB : B ρ = .ok (.int b, o2)) : eBin dLe A B ρ = .ok (.bl (decide (a ≤ b)), true) := by simp only [eBin, hA, hB, R.bind_ok, dLe]
theorem ev_gt (hA : A ρ = .ok (.int a, o1)) (hB : B ρ = .ok (.int b, o2)) : eBin dGt A B ρ = .ok (.bl (decide (b < a)), true) := by simp only [eBin, hA, hB, R.bind_ok, dGt]
theorem ev_ge (hA : A ρ = .ok (.int a, o1)) (hB : B ρ = .ok (.int b, o2)) : eBin dGe A B ρ = .ok (.bl (decide (b ≤ a)), true) := by simp only [eBin, hA, hB, R.bind_ok, dGe]
theorem ev_eq [DecidableEq α] {n : Nat} (h : Eqv n ec) (hn : n ≤ 50) {x y : α} (hA : A ρ = .ok (ec x, o1)) (hB : B ρ = .ok (ec y, o2)) : eBin dEq A B ρ = .ok (.bl (decide (x = y)), true) := by simp only [eBin, hA, hB, R.bind_ok, dEq, dEqB_of h hn]
theorem ev_ne [DecidableEq α] {n : Nat} (h : Eqv n ec) (hn : n ≤ 50) {x y : α} (hA : A ρ = .ok (ec x, o1)) (hB : B ρ = .ok (ec y, o2)) : eBin dNe A B ρ = .ok (.bl (!decide (x = y)), true) := by simp only [eBin, hA, hB, R.bind_ok, dNe, dEqB_of h hn]
/-- x == [] -/
theorem ev_eq0 {n : Nat} (h : Eqv n ec) (hn : n ≤ 49) {x : List α} (hA : A ρ = .ok (eL ec x, o1)) (hB : B ρ = .ok (.lst [], o2)) : eBin dEq A B ρ = .ok (.bl x.isEmpty, true) := by
  classical
  have := dEqB_of (eqv_L h) (by omega) x []
  have e : decide (x = []) = x.isEmpty := by cases x <;> simp
  rw [e] at this
  simp only [eBin, hA, hB, R.bind_ok, dEq]
  rw [show (D.lst [] : D) = eL ec [] from rfl, this]; rfl
theorem ev_ne0 {n : Nat} (h : Eqv n ec) (hn : n ≤ 49) {x : List α} (hA : A ρ = .ok (eL ec x, o1)) (hB : B ρ = .ok (.lst [], o2)) : eBin dNe A B ρ = .ok (.bl (!x.isEmpty), true) := by
  classical
  have := dEqB_of (eqv_L h) (by omega) x []
  have e : decide (x = []) = x.isEmpty := by cases x <;> simp
  rw [e] at this
  simp only [eBin, hA, hB, R.bind_ok, dNe]
  rw [show (D.lst [] : D) = eL ec [] from rfl, this]; rfl
theorem ev_in {l : List Int} (hA : A ρ = .ok (.int a, o1)) (hB : B ρ = .ok (.lst (l.map D.int), o2)) : eBin dIn A B ρ = .ok (.bl (decide (a ∈ l)), true) := by simp only [eBin, hA, hB, R.bind_ok, dIn, dInB_int]
theorem ev_notin {l : List Int} (hA : A ρ = .ok (.int a, o1)) (hB : B ρ = .ok (.lst (l.map D.int), o2)) : eBin dNotIn A B ρ = .ok (.bl (!decide (a ∈ l)), true) := by simp only [eBin, hA, hB, R.bind_ok, dNotIn, dInB_int]
theorem dInB_P (a : Int) (p : Int × Int) : dInB (.int a) (eP p) = .ok (decide (a = p.1 ∨ a = p.2)) := by
  have e1 : (p.1 == a) = decide (a = p.1) := by rw [show (p.1 == a) = decide (p.1 = a) from rfl]; exact decide_eq_decide.mpr ⟨Eq.symm, Eq.symm⟩
  have e2 : (p.2 == a) = decide (a = p.2) := by rw [show (p.2 == a) = decide (p.2 = a) from rfl]; exact decide_eq_decide.mpr ⟨Eq.symm, Eq.symm⟩
  simp [eP, dInB, inF, e1, e2]
theorem ev_inP {p : Int × Int} (hA : A ρ = .ok (.int a, o1)) (hB : B ρ = .ok (eP p, o2)) : eBin dIn A B ρ = .ok (.bl (decide (a = p.1 ∨ a = p.2)), true) := by simp only [eBin, hA, hB, R.bind_ok, dIn, dInB_P]
theorem ev_inD {l : List (Int × β)} (hA : A ρ = .ok (.int a, o1)) (hB : B ρ = .ok (eDI ed l, o2)) : eBin dIn A B ρ = .ok (.bl (ahas l a), true) := by
  simp only [eBin, hA, hB, R.bind_ok, dIn, eDI, dInB, toKey, List.any_map, ahas]
  congr 3; congr 1; funext p; simp [Function.comp]
theorem ev_notinD {l : List (Int × β)} (hA : A ρ = .ok (.int a, o1)) (hB : B ρ = .ok (eDI ed l, o2)) : eBin dNotIn A B ρ = .ok (.bl (!ahas l a), true) := by
  simp only [eBin, hA, hB, R.bind_ok, dNotIn, eDI, dInB, toKey, List.any_map, ahas]
  congr 4; congr 1; funext p; simp [Function.comp]
theorem isNon_O (h : ∀ x, isNonD (ec x) = false) (x : Option α) : isNonD (eO ec x) = x.isNone := by
  cases x with
  | none => rfl
  | some v => exact h v
theorem dIs_non (d : D) : dIs d .non = .ok (.bl (isNonD d)) := by cases d <;> rfl
theorem dIsNot_non (d : D) : dIsNot d .non = .ok (.bl (!isNonD d)) := by cases d <;> rfl
theorem ev_isN (h : ∀ x, isNonD (ec x) = false) {x : Option α} (hA : A ρ = .ok (eO ec x, o1)) : eBin dIs A (eC .non) ρ = .ok (.bl x.isNone, true) := by
  simp only [eBin, hA, eC, R.bind_ok, dIs_non, isNon_O h]
theorem ev_notN (h : ∀ x, isNonD (ec x) = false) {x : Option α} (hA : A ρ = .ok (eO ec x, o1)) : eBin dIsNot A (eC .non) ρ = .ok (.bl (!x.isNone), true) := by
  simp only [eBin, hA, eC, R.bind_ok, dIsNot_non, isNon_O h]
theorem ev_isB (hA : A ρ = .ok (.bl p, o1)) : eBin dIs A (eC (.bl q)) ρ = .ok (.bl (decide (p = q)), true) := by simp only [eBin, hA, eC, R.bind_ok, dIs]
theorem ev_notB (hA : A ρ = .ok (.bl p, o1)) : eBin dIsNot A (eC (.bl q)) ρ = .ok (.bl (!decide (p = q)), true) := by simp only [eBin, hA, eC, R.bind_ok, dIsNot]
theorem ev_not (hA : A ρ = .ok (.bl p, o1)) : eNot A ρ = .ok (.bl (!p), true) := by simp only [eNot, asB, hA, R.bind_ok]
theorem ev_and (hA : A ρ = .ok (.bl p, o1)) (hB : p = true → B ρ = .ok (.bl q, o2)) (ho : p = true → o2 = true) : eAnd A B ρ = .ok (.bl (p && q), true) := by
  cases p with
  | false => simp only [eAnd, asB, hA, R.bind_ok, Bool.false_and]
  | true => have := ho rfl; subst this; simp only [eAnd, asB, hA, hB rfl, R.bind_ok, Bool.true_and]
theorem ev_or (hA : A ρ = .ok (.bl p, o1)) (hB : p = false → B ρ = .ok (.bl q, o2)) (ho : p = false → o2 = true) : eOr A B ρ = .ok (.bl (p || q), true) := by
  cases p with
  | true => simp only [eOr, asB, hA, R.bind_ok, Bool.true_or]
  | false => have := ho rfl; subst this; simp only [eOr, asB, hA, hB rfl, R.bind_ok, Bool.false_or]
theorem ev_if {x y : α} (hT : T ρ = .ok p) (hA : p = true → A ρ = .ok (ec x, o)) (hB : p = false → B ρ = .ok (ec y, o)) : eIf T A B ρ = .ok (ec (if p then x else y), o) := by
  cases p with
  | true => simp only [eIf, hT, R.bind_ok, hA rfl, if_true]
  | false => simp only [eIf, hT, R.bind_ok, hB rfl]; rfl
theorem ev_chain {f f' : D → D → R D} (hA : A ρ = .ok (d, o)) (hB : B ρ = .ok (d1, o1)) (hC : C ρ = .ok (d2, o2)) (h1 : f d d1 = .ok (.bl p)) (h2 : f' d1 d2 = .ok (.bl q)) : eChain f f' A B C ρ = .ok (.bl (p && q), true) := by
  cases p with
  | false => simp only [eChain, hA, hB, R.bind_ok, h1, Bool.false_and]
  | true => simp only [eChain, hA, hB, hC, R.bind_ok, h1, h2, Bool.true_and]
/-! tests -/
theorem tv_x (hA : A ρ = .ok (.bl p, o)) : asB A ρ = .ok p := by simp only [asB, hA, R.bind_ok]
theorem tv_not (hT : T ρ = .ok p) : eNotT T ρ = .ok (!p) := by simp only [eNotT, hT, R.bind_ok]
theorem tv_and (h1 : T1 ρ = .ok p) (h2 : p = true → T2 ρ = .ok q) : eAndT T1 T2 ρ = .ok (p && q) := by
  cases p with
  | false => simp only [eAndT, h1, R.bind_ok, Bool.false_and]
  | true => simp only [eAndT, h1, h2 rfl, R.bind_ok, Bool.true_and]
theorem tv_or (h1 : T1 ρ = .ok p) (h2 : p = false → T2 ρ = .ok q) : eOrT T1 T2 ρ = .ok (p || q) := by
  cases p with
  | true => simp only [eOrT, h1, R.bind_ok, Bool.true_or]
  | false => simp only [eOrT, h1, h2 rfl, R.bind_ok, Bool.false_or]
/-! displays -/
variable {ps : List (D × Bool)} {ds : List D} {xs : List α} {k : Int} {n : Nat}
theorem es_nil : esNil ρ = .ok [] := rfl
theorem es_cons {G : DXs} (hA : A ρ = .ok (d, o)) (hG : G ρ = .ok ps) : esCons A G ρ = .ok ((d, o) :: ps) := by simp only [esCons, hA, hG, R.bind_ok]
theorem ev_lst (h : F ρ = .ok ps) (hl : decide (ps.length ≤ 16777216) = true) (hd : ps.map (·.1) = ds) (ho : ps.all (·.2) = o) : eLst F ρ = .ok (.lst ds, o) := by
  simp only [eLst, h, R.bind_ok, sizeLine_val, hl, R.ite_t, hd, ho]
theorem ev_tup (h : F ρ = .ok ps) (hl : decide (ps.length ≤ 16777216) = true) (hd : ps.map (·.1) = ds) (ho : ps.all (·.2) = o) : eTup F ρ = .ok (.tup ds, o) := by
  simp only [eTup, h, R.bind_ok, sizeLine_val, hl, R.ite_t, hd, ho]
/-! subscripts -/
theorem atI_ix [Inhabited α] (h : 0 ≤ k ∧ k < xs.length) : atI xs k = some (ix xs k) := by
  rw [atI_nn xs default k h.1 h.2]; rfl
theorem ev_ix [Inhabited α] (h : 0 ≤ k ∧ k < xs.length) (hA : A ρ = .ok (.lst (xs.map ec), o)) (hB : B ρ = .ok (.int k, o2)) (hi : imm (ec (ix xs k)) = p) : eIdx A B ρ = .ok (ec (ix xs k), o || p) := by
  simp only [eIdx, hA, hB, R.bind_ok, dIdx, atI_map, atI_ix h, Option.map_some, ofO_some, hi]
theorem ev_ixS {ns : List Int} (h : 0 ≤ k ∧ k < ns.length) (hA : A ρ = .ok (.scr ns, o)) (hB : B ρ = .ok (.int k, o2)) : eIdx A B ρ = .ok (.int (ix ns k), true) := by
  simp only [eIdx, hA, hB, R.bind_ok, dIdx, atI_ix h, Option.map_some, ofO_some, imm_int, Bool.or_true]
theorem ev_ixl [Inhabited α] (h : xs ≠ []) (hA : A ρ = .ok (.lst (xs.map ec), o)) (hB : B ρ = .ok (.int (-1), o2)) (hi : imm (ec (ixl xs)) = p) : eIdx A B ρ = .ok (ec (ixl xs), o || p) := by
  have l : 0 < xs.length := List.length_pos_iff.mpr h
  have : atI xs (-1) = some (ixl xs) := by
    unfold atI
    rw [ixN_neg l]
    have l2 : xs.length - 1 < xs.length := by omega
    simp [ixl, List.getD_eq_getElem?_getD, l2]
  simp only [eIdx, hA, hB, R.bind_ok, dIdx, atI_map, this, Option.map_some, ofO_some, hi]
theorem ev_ixT (hA : A ρ = .ok (.tup ds, o)) (hB : B ρ = .ok (.int k, o2)) (h : atI ds k = some d) (hi : imm d = p) : eIdx A B ρ = .ok (d, o || p) := by
  simp only [eIdx, hA, hB, R.bind_ok, dIdx, h, ofO_some, hi]
theorem dGet_aget (l : List (Int × β)) (k : Int) : dGet (l.map fun p => (.inl p.1 : Key)) (l.map fun p => ed p.2) (.inl k) = (aget l k).map ed := by
  induction l with
  | nil => rfl
  | cons x r ih =>
    rw [List.map_cons, List.map_cons, dGet, aget, ih]
    by_cases c : x.1 = k <;> simp [c]
theorem ahas_aget : ∀ {l : List (Int × β)} {k : Int}, ahas l k = true → ∃ v, aget l k = some v
  | [], k, h => by simp [ahas] at h
  | x :: r, k, h => by
    rw [aget]
    by_cases c : x.1 = k
    · exact ⟨x.2, by rw [if_pos c]⟩
    · rw [if_neg c]
      exact ahas_aget (by simpa [ahas, c] using h)
theorem ev_ixD [Inhabited β] {l : List (Int × β)} (h : ahas l k = true) (hA : A ρ = .ok (eDI ed l, o)) (hB : B ρ = .ok (.int k, o2)) (hi : imm (ed (ogt (aget l k))) = p) : eIdx A B ρ = .ok (ed (ogt (aget l k)), o || p) := by
  have := ahas_aget h
  obtain ⟨v, hv⟩ := this
  rw [hv, ogt] at hi ⊢
  simp only [Option.getD_some] at hi ⊢
  simp only [eDI] at hA
  simp only [eIdx, hA, hB, R.bind_ok, dIdx, toKey, dGet_aget, hv, Option.map_some, ofO_some, hi]
/-- what may be None, where it isn't -/
theorem ev_ogt [Inhabited α] {x : Option α} (h : x.isSome = true) (hA : A ρ = .ok (eO ec x, o)) : A ρ = .ok (ec (ogt x), o) := by
  cases x with
  | none => cases h
  | some v => exact hA
/-! slices -/
variable {lo hi : Option Int} {L H : DO}
theorem ox_non : oNone ρ = .ok none := rfl
theorem ox_int (hA : A ρ = .ok (.int a, o)) : oSome A ρ = .ok (some a) := by simp only [oSome, hA, R.bind_ok]
theorem cutA_map {α β : Type} (f : α → β) (xs : List α) (lo hi : Option Int) : cutA (xs.map f) lo hi = (cutA xs lo hi).map f := by
  unfold cutA
  rw [List.length_map, List.map_take, List.map_drop]
theorem ev_slice (hA : A ρ = .ok (.lst (xs.map ec), o)) (hL : L ρ = .ok lo) (hH : H ρ = .ok hi) : eSlice A L H ρ = .ok (.lst ((cutA xs lo hi).map ec), immA ((cutA xs lo hi).map ec)) := by
  simp only [eSlice, hA, hL, hH, R.bind_ok, dSlice, cutA_map, sliceOwn]
theorem ev_sliceI (hm : ∀ x, imm (ec x) = true) (hA : A ρ = .ok (.lst (xs.map ec), o)) (hL : L ρ = .ok lo) (hH : H ρ = .ok hi) : eSlice A L H ρ = .ok (.lst ((cutA xs lo hi).map ec), true) := by
  rw [ev_slice hA hL hH, immA_map hm]
theorem ev_sliceS {ns : List Int} (hA : A ρ = .ok (.scr ns, o)) (hL : L ρ = .ok lo) (hH : H ρ = .ok hi) : eSlice A L H ρ = .ok (.lst ((cutA ns lo hi).map D.int), true) := by
  simp only [eSlice, hA, hL, hH, R.bind_ok, dSlice, sliceOwn, immA_ints]
theorem ev_slice2 {s : Ship} (hA : A ρ = .ok (s.d, o)) : eSlice A oNone (oSome (eC (.int 2))) ρ = .ok (eP (s.b, s.e), true) := by
  simp only [eSlice, hA, oNone, oSome, eC, R.bind_ok]
  rw [show dSlice s.d none (some 2) = .ok (eP (s.b, s.e)) from rfl]
  simp [sliceOwn, eP]
theorem ev_cat {ys : List α} (hm : ∀ x, imm (ec x) = true) (hA : A ρ = .ok (.lst (xs.map ec), o1)) (hB : B ρ = .ok (.lst (ys.map ec), o2)) (hl : xs.length + ys.length ≤ 16777216) : eBin dAdd A B ρ = .ok (.lst ((xs ++ ys).map ec), true) := by
  simp only [eBin, hA, hB, R.bind_ok, dAdd, immA_map hm, Bool.true_and, List.length_map, sizeLine_val, decide_eq_true hl, R.ite_t, List.map_append]
/-! calls -/
theorem ev_call {f : List D → R D} (h : F ρ = .ok ps) (hn : (ps.length == n) = true) (hf : f (ps.map (·.1)) = .ok d) : eCall n f F ρ = .ok (d, true) := by simp only [eCall, h, R.bind_ok, hn, R.ite_t, hf]
theorem ev_fn {f : List D → R D} (h : F ρ = .ok ps) (hf : f (ps.map (·.1)) = .ok d) : eFn f F ρ = .ok (d, true) := by simp only [eFn, h, R.bind_ok, hf]
theorem fn_len : dLen [.lst (xs.map ec)] = .ok (.int xs.length) := by simp only [dLen, List.length_map]
theorem fn_lenS {ns : List Int} : dLen [.scr ns] = .ok (.int ns.length) := rfl
theorem fn_sum {ns : List Int} : dSum [.lst (ns.map D.int)] = .ok (.int ns.sum) := by simp [dSum]
theorem fn_max2 : dMax [.int a, .int b] = .ok (.int (max a b)) := rfl
theorem fn_min2 : dMin [.int a, .int b] = .ok (.int (min a b)) := rfl
theorem fn_max3 : dMax3 [.int a, .int b, .int c] = .ok (.int (max (max a b) c)) := rfl
theorem fn_min3 : dMin3 [.int a, .int b, .int c] = .ok (.int (min (min a b) c)) := rfl
def mxl (ns : List Int) : Int := (lMax ns).getD 0
def mnl (ns : List Int) : Int := (lMin ns).getD 0
theorem fn_maxl {ns : List Int} (h : ns ≠ []) : dMax [.lst (ns.map D.int)] = .ok (.int (mxl ns)) := by
  cases ns with
  | nil => exact absurd rfl h
  | cons x r => rw [dMax, onInts_map]; rfl; intro _ _ z; cases z
theorem fn_minl {ns : List Int} (h : ns ≠ []) : dMin [.lst (ns.map D.int)] = .ok (.int (mnl ns)) := by
  cases ns with
  | nil => exact absurd rfl h
  | cons x r => rw [dMin, onInts_map]; rfl; intro _ _ z; cases z
theorem fn_abs : dAbs [.int a] = .ok (.int (if a < 0 then -a else a)) := rfl
theorem fn_int : dInt [.bl p] = .ok (.int (if p then 1 else 0)) := rfl
theorem fn_sorted {ns : List Int} : dSorted [.lst (ns.map D.int)] = .ok (.lst ((isort ns).map D.int)) := by simp [dSorted]
theorem ev_isi {t : String} (hA : A ρ = .ok (d, o)) (h : isaB t d = p) : eIsi t A ρ = .ok (.bl p, true) := by simp only [eIsi, hA, R.bind_ok, h]
theorem ev_list (hA : A ρ = .ok (.lst (xs.map ec), o)) : eList A ρ = .ok (.lst (xs.map ec), immA (xs.map ec)) := by simp only [eList, hA, R.bind_ok, dListOf, sliceOwn]
theorem ev_listI (hm : ∀ x, imm (ec x) = true) (hA : A ρ = .ok (.lst (xs.map ec), o)) : eList A ρ = .ok (.lst (xs.map ec), true) := by rw [ev_list hA, immA_map hm]
def RG (n : Int) : Prop := -4611686018427387904 ≤ n ∧ n < 4611686018427387904
theorem inR_of (h : RG a) : inR a = true := by
  unfold inR
  rw [decide_eq_true (by unfold RG at h; omega), decide_eq_true (by unfold RG at h; omega)]; rfl
def rg (lo hi : Int) : List Nat := List.range (hi - lo).toNat
theorem rangeD_rg (lo hi : Int) : rangeD lo hi = (rg lo hi).map fun i : Nat => D.int (lo + (i : Int)) := rfl
theorem rangeD_rg0 (hi : Int) : rangeD 0 hi = (List.range hi.toNat).map fun i : Nat => D.int (i : Int) := by
  unfold rangeD; rw [Int.sub_zero]; simp
theorem ev_listRg1 (h : 0 ≤ a ∧ a ≤ 16777216) (hA : A ρ = .ok (.int a, o)) : eListRg1 A ρ = .ok (.lst (((List.range a.toNat).map fun i : Nat => (i : Int)).map D.int), true) := by
  have : rgOkD 0 a = true := by
    simp only [rgOkD, Bool.and_eq_true, decide_eq_true_eq]
    omega
  simp only [eListRg1, hA, R.bind_ok, this, R.ite_t, rangeD_rg0, List.map_map]; rfl
/-! what is walked -/
variable {fi : DIt} {m : List α}
theorem it_var (h : ρ[i]? = some (some (.lst (m.map ec), o))) (hρ : ρ.set i (some (.lst (m.map ec), false)) = ρ1) : iVar i ρ = .ok (m.map ec, ρ1) := by rw [iVar, h, ← hρ]
theorem it_varT (h : ρ[i]? = some (some (.tup ds, o))) (hm : immA ds = true) (hd : ds = m.map ec) : iVar i ρ = .ok (m.map ec, ρ) := by rw [iVar, h, ← hd]; simp only [hm]
theorem it_varS {ns : List Int} (h : ρ[i]? = some (some (.scr ns, o))) : iVar i ρ = .ok (ns.map D.int, ρ) := by rw [iVar, h]
theorem it_x (hA : A ρ = .ok (.lst (m.map ec), o)) (hρ : ownOr o ρ = ρ1) : iX A ρ = .ok (m.map ec, ρ1) := by simp only [iX, hA, R.bind_ok, itemsOf, hρ]
theorem it_xT (hA : A ρ = .ok (.tup ds, o)) (hd : ds = m.map ec) (hρ : ownOr o ρ = ρ1) : iX A ρ = .ok (m.map ec, ρ1) := by simp only [iX, hA, R.bind_ok, itemsOf, hd, hρ]
theorem it_xS {ns : List Int} (hA : A ρ = .ok (.scr ns, o)) (hρ : ownOr o ρ = ρ1) : iX A ρ = .ok (ns.map D.int, ρ1) := by simp only [iX, hA, R.bind_ok, itemsOf, hρ]
theorem it_rg1 (h : RG a) (hA : A ρ = .ok (.int a, o)) : iRange1 A ρ = .ok ((List.range a.toNat).map fun i : Nat => D.int (i : Int), ρ) := by
  simp only [iRange1, hA, R.bind_ok, inR_of h, R.ite_t, rangeD_rg0]
theorem it_rg2 (h : RG a) (h2 : RG b) (hA : A ρ = .ok (.int a, o1)) (hB : B ρ = .ok (.int b, o2)) : iRange2 A B ρ = .ok ((rg a b).map fun i : Nat => D.int (a + (i : Int)), ρ) := by
  have e : iRange2 A B ρ = .ite (inR a && inR b) (.ok (rangeD a b, ρ)) := by rw [iRange2, hA, R.bind_ok, hB, R.bind_ok]
  rw [e, inR_of h, inR_of h2, rangeD_rg]; rfl
theorem iv_zip {ys : List β} (hA : A ρ = .ok (.lst (m.map ec), o1)) (hB : B ρ = .ok (.lst (ys.map ed), o2)) (hρ : ownOr (o1 && o2) ρ = ρ1) : iZip A B ρ = .ok ((m.zip ys).map (eT2 ec ed), ρ1) := by
  have : List.zipWith (fun a b => D.tup [a, b]) (m.map ec) (ys.map ed) = (m.zip ys).map (eT2 ec ed) := by
    clear hA hB
    induction m generalizing ys with
    | nil => rfl
    | cons x r ih =>
      cases ys with
      | nil => rfl
      | cons y s => rw [List.map_cons, List.map_cons, List.zipWith_cons_cons, List.zip_cons_cons, List.map_cons, ih]; rfl
  simp only [iZip, hA, hB, R.bind_ok, hρ, this]
def enum {α : Type} (m : List α) : List (Int × α) := m.mapIdx fun i a => ((i : Int), a)
theorem iv_enum (hA : A ρ = .ok (.lst (m.map ec), o)) (hρ : ownOr o ρ = ρ1) : iEnum A ρ = .ok ((enum m).map (eT2 D.int ec), ρ1) := by
  have : ((m.map ec).mapIdx fun i a => D.tup [.int (i : Nat), a]) = (enum m).map (eT2 D.int ec) := by
    unfold enum
    apply List.ext_getElem? ; intro j
    simp [List.getElem?_mapIdx, eT2]
    cases m[j]? <;> rfl
  simp only [iEnum, hA, R.bind_ok, hρ, this]
theorem tg_name (hl : decide (i < ρ.length) = true) (hi : imm d = p) (hρ : ρ.set i (some (d, p)) = ρ1) : tgName i d ρ = .ok ρ1 := by rw [tgName, hl, hi, R.ite_t, hρ]
theorem tg_tup {is : List Nat} (hl : (decide (ds.length = is.length) && is.all fun i => decide (i < ρ.length)) = true) (hρ : putAll imm is ds ρ = ρ1) : tgTup is (.tup ds) ρ = .ok ρ1 := by
  simp only [tgTup, hl, R.ite_t, hρ]
theorem put_nil (ρ : DEnv) (o : D → Bool) : putAll o [] [] ρ = ρ := by simp [putAll]
theorem put_cons {is : List Nat} {ρ' : DEnv} {o : D → Bool} (hi : o d = p) (h : putAll o is ds (ρ.set i (some (d, p))) = ρ') : putAll o (i :: is) (d :: ds) ρ = ρ' := by rw [putAll, hi, h]
theorem ev_comp {vs : List Nat} {t : DTg} {ft : DT} {fe : DX} {G : α → β} {bd : α → DEnv} {ρc : DEnv} (hI : fi ρ = .ok (m.map ec, ρ1)) (hl : m.length ≤ 16777216) (hc : wipeE vs (lookE ρ) = ρc) (ht : ∀ a, t (ec a) ρc = .ok (bd a)) (hw : ft = yesT) (he : ∀ a, a ∈ m → fe (bd a) = .ok (ed (G a), true)) :
    eComp vs fi t ft fe ρ = .ok (.lst ((m.map G).map ed), true) := by
  subst hw
  have := compS_all (t := t) (fe := fe) (ρ := ρc) ec (fun a => ed (G a)) m fun a ha => ⟨bd a, ht a, he a ha⟩
  simp only [eComp, hI, R.bind_ok, List.length_map, sizeLine_val, decide_eq_true hl, R.ite_t, hc, this, List.map_map]; rfl
theorem ev_compW {vs : List Nat} {t : DTg} {ft : DT} {fe : DX} {G : α → β} {W : α → Bool} {bd : α → DEnv} {ρc : DEnv} (hI : fi ρ = .ok (m.map ec, ρ1)) (hl : m.length ≤ 16777216) (hc : wipeE vs (lookE ρ) = ρc) (ht : ∀ a, t (ec a) ρc = .ok (bd a)) (hw : ∀ a, a ∈ m → ft (bd a) = .ok (W a)) (he : ∀ a, a ∈ m → W a = true → fe (bd a) = .ok (ed (G a), true)) :
    eComp vs fi t ft fe ρ = .ok (.lst (((m.filter W).map G).map ed), true) := by
  have := compS_enc (t := t) (ft := ft) (fe := fe) (ρ := ρc) ec (fun a => ed (G a)) W m fun a ha => ⟨bd a, ht a, hw a ha, he a ha⟩
  simp only [eComp, hI, R.bind_ok, List.length_map, sizeLine_val, decide_eq_true hl, R.ite_t, hc, this, List.map_map]; rfl
theorem ev_compI {vs : List Nat} {t : DTg} {ft : DT} {fe : DX} {bd : α → DEnv} {ρc : DEnv} (hI : fi ρ = .ok (m.map ec, ρ1)) (hl : m.length ≤ 16777216) (hc : wipeE vs (lookE ρ) = ρc) (ht : ∀ a, t (ec a) ρc = .ok (bd a)) (hw : ft = yesT) (he : ∀ a, a ∈ m → fe (bd a) = .ok (ec a, true)) :
    eComp vs fi t ft fe ρ = .ok (.lst (m.map ec), true) := by
  have := ev_comp (G := fun a : α => a) hI hl hc ht hw he
  rwa [List.map_id'] at this
theorem ev_compWI {vs : List Nat} {t : DTg} {ft : DT} {fe : DX} {W : α → Bool} {bd : α → DEnv} {ρc : DEnv} (hI : fi ρ = .ok (m.map ec, ρ1)) (hl : m.length ≤ 16777216) (hc : wipeE vs (lookE ρ) = ρc) (ht : ∀ a, t (ec a) ρc = .ok (bd a)) (hw : ∀ a, a ∈ m → ft (bd a) = .ok (W a)) (he : ∀ a, a ∈ m → W a = true → fe (bd a) = .ok (ec a, true)) :
    eComp vs fi t ft fe ρ = .ok (.lst ((m.filter W).map ec), true) := by
  have := ev_compW (G := fun a : α => a) hI hl hc ht hw he
  rwa [List.map_id'] at this
/-! what is moved -/
variable {fo : DO1} {fos : DO1s}
theorem ov_x (hA : A ρ = .ok (d, true)) : oX A ρ = .ok (d, ρ) := by simp only [oX, hA, R.bind_ok]
theorem ov_varI (h : ρ[i]? = some (some (d, o))) (hi : imm d = true) : oVar i ρ = .ok (d, ρ) := by rw [oVar, h]; simp only [hi]
theorem ov_varM (h : ρ[i]? = some (some (d, true))) (hi : imm d = false) (hρ : ρ.set i none = ρ1) : oVar i ρ = .ok (d, ρ1) := by rw [oVar, h, ← hρ]; simp only [hi]
theorem ov_ogt [Inhabited α] {x : Option α} (h : x.isSome = true) (hA : fo ρ = .ok (eO ec x, ρ1)) : fo ρ = .ok (ec (ogt x), ρ1) := by
  cases x with
  | none => cases h
  | some v => exact hA
theorem hasK_eq (l : List (Int × β)) (k : Int) : hasK (l.map fun p => (.inl p.1 : Key)) (.inl k) = ahas l k := by
  unfold hasK ahas
  rw [List.any_map]
  congr 1; funext p; simp [Function.comp]
theorem dSetV_eq (l : List (Int × β)) (k : Int) (v : β) : dSetV (l.map fun p => (.inl p.1 : Key)) (l.map fun p => ed p.2) (.inl k) (ed v) = (aset l k v).map fun p => ed p.2 := by
  induction l with
  | nil => rfl
  | cons x r ih =>
    rw [List.map_cons, List.map_cons, dSetV, aset, List.map_cons, ih]
    by_cases c : x.1 = k <;> simp [c]
theorem aset_keys (l : List (Int × β)) (k : Int) (v : β) : (aset l k v).map (fun p => (.inl p.1 : Key)) = l.map fun p => (.inl p.1 : Key) := by
  induction l with
  | nil => rfl
  | cons x r ih =>
    rw [aset, List.map_cons, List.map_cons, ih]
    by_cases c : x.1 = k <;> simp [c]
theorem ws_storeD {Kn : DEnv → Prop} {Kr : D → Prop} {l : List (Int × β)} {v : β} {k : Int} {ρ' : List (Int × β) → DEnv} {fk : DX} (hE : fo ρ = .ok (ed v, ρ1)) (hi : imm (ed v) = true) (h1 : ρ1[i]? = some (some (eDI ed l, true))) (hK : fk ρ1 = .ok (.int k, o)) (hl : l.length < 16777216)
    (hρ : ∀ x, ρ1.set i (some (eDI ed x, true)) = ρ' x) (hk : ∀ x, x = aput l k v → Kn (ρ' x)) : WS (sStore i fk fo) ρ Kn Kr :=
  .nx (ρ' := ρ' (aput l k v)) (by
    rw [← hρ, sStore, hE]
    have h2 : ρ1[i]? = some (some (.dct (l.map fun p => .inl p.1) (l.map fun p => ed p.2), true)) := h1
    simp only [R.bind_ok, h2, hK, stDct, toKey, List.length_map, sizeLine_val, decide_eq_true hl, hi, Bool.and_self, R.ite_t, hasK_eq]
    cases c : ahas l k with
    | true => simp only [eDI, aput, c, if_true, dSetV_eq, aset_keys]
    | false => simp [eDI, aput, c]) (hk _ rfl)
theorem os_nil : osNil ρ = .ok ([], ρ) := rfl
theorem os_cons (h : fo ρ = .ok (d, ρ1)) (hs : fos ρ1 = .ok (ds, ρ2)) : osCons fo fos ρ = .ok (d :: ds, ρ2) := by simp only [osCons, h, hs, R.bind_ok]
theorem ov_lst (h : fos ρ = .ok (ds, ρ1)) (hl : decide (ds.length ≤ 16777216) = true) : oLst fos ρ = .ok (.lst ds, ρ1) := by simp only [oLst, h, R.bind_ok, sizeLine_val, hl, R.ite_t]
theorem ov_tup (h : fos ρ = .ok (ds, ρ1)) (hl : decide (ds.length ≤ 16777216) = true) : oTup fos ρ = .ok (.tup ds, ρ1) := by simp only [oTup, h, R.bind_ok, sizeLine_val, hl, R.ite_t]
end
end EQ
/-! EqP: what isn't come to, a def that calls itself, two lists at once, a tuple given up. -/
namespace EQ
open PySem PySem.Spec PyProof.Rows L2
/-- a statement of which nothing is said -/
@[simp] def sNo : DS := fun _ => .no
theorem sx_no {X : Cx} {Ex : XK} {st : Stmt} : PSX X Ex st sNo := ⟨fun pins s σ H N I q => by
  obtain ⟨B, g, ρ, ok, h⟩ := q
  exact h.elim⟩
theorem ws_no {ρ : DEnv} {Kn : DEnv → Prop} {Kr : D → Prop} (h : False) : WS sNo ρ Kn Kr := h.elim
theorem fn_no {P : Program} {w : World} {K : PySem.W.Frag} {mg : Str → Option Value} {base : Heap} {CX : CXT} {k : Nat} {f : Addr} {fd : FuncData} {ps : List Str} {n : Nat} (hn : ps.length = n) : FnOk P w K mg base CX k f fd ps (spF K mg n (fun _ => .no)) :=
  ⟨fun vs H Q E h => by rw [hn]; exact spF_len vs H Q E h, fun A outer s H args us vs Q E _ _ _ _ h => by
    obtain ⟨ds, fp, _, _, h⟩ := h
    exact h.elim⟩
theorem ws_expr {E : DX} {ρ : DEnv} {Kn : DEnv → Prop} {Kr : D → Prop} {d : D} {o : Bool} (hE : E ρ = .ok (d, o)) (h : Kn ρ) : WS (sExpr E) ρ Kn Kr := .nx (by simp only [sExpr, hE, R.bind_ok]) h
section
variable {X : Cx} {Ex : XK} {a b e : Expr} {fa : DX} {fo : DO1} {pos p q1 q2 : Pos} {x y : Str} {elts : List Expr} {kk : Nat} {tpos : Pos}
/-- two lists that are looked at -/
@[simp] def iZipVV (i j : Nat) : DIt := fun ρ => match ρ[i]?, ρ[j]? with
  | some (some (.lst xs, false)), some (some (.lst ys, false)) => .ok (List.zipWith (fun a b => .tup [a, b]) xs ys, ρ)
  | _, _ => .no
theorem px_zipVV (i j : Nat) (hg : Gl X "zip") (hm : X.mg "zip" = none) (hNi : X.N[i]? = some x) (hvi : Vis X.env.scope x) (hdi : (x == ("__debug__" : Str)) = false) (hci : (x == ("__classdict__" : Str)) = false)
    (hNj : X.N[j]? = some y) (hvj : Vis X.env.scope y) (hdj : (y == ("__debug__" : Str)) = false) (hcj : (y == ("__classdict__" : Str)) = false)
    (hs : starEach [.Name x q1, .Name y q2] X.env = (false, eval (.Name x q1) X.env) :: starEach [.Name y q2] X.env := by rfl) (hs2 : starEach [.Name y q2] X.env = (false, eval (.Name y q2) X.env) :: starEach [] X.env := by rfl) (hpl : (backTo pos (starEach [.Name y q2] X.env)).any (·.1) = false := by rfl) :
    PIX X Ex (.Tuple elts kk tpos) (.Call (.Name "zip" p) [.Name x q1, .Name y q2] [] pos) (iZipVV i j) :=
  PI.imp (pi_zip hg hm (pa_cons (pe_var hNi hvi hdi hci) (pa_cons (pe_var hNj hvj hdj hcj) pa_nil hs2) hs) hs hpl) fun σ H Rr ⟨B, g, ρ, ok, h⟩ => by
    unfold iZipVV at h
    split at h
    · rename_i xs ys ei ej
      obtain ⟨v, e1, r⟩ := ok.rep _ _ _ ei
      obtain ⟨w, e2, r2⟩ := ok.rep _ _ _ ej
      obtain ⟨p1, us, g1, rfl, _, h1', ra⟩ := (RepA.adv ok r fun a ha k d' z m => ok.frz _ _ ei a ha ((ok.own k d' z).2 a m).1).lst_inv
      obtain ⟨p2, ws, g2, rfl, _, h2', rb⟩ := (RepA.adv ok r2 fun a ha k d' z m => ok.frz _ _ ej a ha ((ok.own k d' z).2 a m).1).lst_inv
      exact ⟨_, e1, _, e2, p1, p2, us, ws, rfl, SqL.of (adv_same _ _ h1'), SqL.of (adv_same _ _ h2'), h _ _ g H (Same.refl _) ok.adv.2 ok.adv.1 (it_zip (SqL.of h1') (SqL.of h2') ra rb)⟩
    · exact h.elim
/-- a new list and one that is looked at -/
@[simp] def iZipFV (fa : DX) (j : Nat) : DIt := fun ρ => (fa ρ).bind fun x => match x.1, x.2, ρ[j]? with
  | .lst xs, true, some (some (.lst ys, false)) => .ok (List.zipWith (fun a b => .tup [a, b]) xs ys, ρ)
  | _, _, _ => .no
theorem px_zipFV (j : Nat) (hg : Gl X "zip") (hm : X.mg "zip" = none) (ha : PX X Ex a fa)
    (hNj : X.N[j]? = some y) (hvj : Vis X.env.scope y) (hdj : (y == ("__debug__" : Str)) = false) (hcj : (y == ("__classdict__" : Str)) = false)
    (hs : starEach [a, .Name y q2] X.env = (false, eval a X.env) :: starEach [.Name y q2] X.env := by rfl) (hs2 : starEach [.Name y q2] X.env = (false, eval (.Name y q2) X.env) :: starEach [] X.env := by rfl) (hpl : (backTo pos (starEach [.Name y q2] X.env)).any (·.1) = false := by rfl) :
    PIX X Ex (.Tuple elts kk tpos) (.Call (.Name "zip" p) [a, .Name y q2] [] pos) (iZipFV fa j) :=
  PI.imp (pi_zip hg hm (pa_cons ha (pa_cons (pe_var hNj hvj hdj hcj) pa_nil hs2) hs) hs hpl) fun σ H Rr ⟨B, g, ρ, ok, h⟩ => tX_step ok h fun d o v H1 fp e s r fr h1 => by
    obtain ⟨xs, ys, hd, ho, ej⟩ : ∃ xs ys, d = .lst xs ∧ o = true ∧ ρ[j]? = some (some (.lst ys, false)) := by
      clear r fr e h s
      revert h1
      dsimp only
      split
      · rename_i xs ys ej
        exact fun _ => ⟨xs, ys, rfl, rfl, ej⟩
      · exact fun h => h.elim
    subst hd ho
    have h2 : Post (ExB X.mg Ex B) (QI X.K B H σ Rr) (.ok (List.zipWith (fun a b => .tup [a, b]) xs ys, ρ)) := by
      dsimp only at h1
      rw [ej] at h1
      exact h1
    have ok1 := ok.mono s
    have ow1 := Fresh.own ok (fr rfl)
    obtain ⟨w, e2, r2⟩ := ok1.rep _ _ _ ej
    obtain ⟨p1, us, g1, rfl, _, h1', ra⟩ := (RepA.adv ok1 r fun a ha i d' z => ow1.ap a ha i d' z).lst_inv
    obtain ⟨p2, ws, g2, rfl, _, h2', rb⟩ := (RepA.adv ok1 r2 fun a ha k d' z m => ok1.frz _ _ ej a ha ((ok1.own k d' z).2 a m).1).lst_inv
    exact ⟨_, e2, p1, p2, us, ws, rfl, SqL.of (adv_same _ _ h1'), SqL.of (adv_same _ _ h2'), h2 _ _ g H1 s ok1.adv.2 ok1.adv.1 (it_zip (SqL.of h1') (SqL.of h2') ra rb)⟩
/-- a, b = e, e given up: its parts are one's own -/
@[simp] def sUnpO (is : List Nat) (f : DO1) : DS := fun ρ => (f ρ).bind fun x => match x.1 with
  | .tup ds => .ite (decide (ds.length = is.length) && is.all fun i => decide (i < x.2.length)) (.ok (.nx (putAll (fun _ => true) is ds x.2)))
  | _ => .no
theorem sx_unpO {is : List Nat} {es : List Expr} {k : Nat} {pt : Pos} (hc : X.calm = true) (he : POw X Ex e fo) (hg : PGs X es (gNames is)) (hn : (assignEach es X.env).length = is.length := by rfl) (hst : (assignEach es X.env).findIdx? (·.1) = none := by rfl)
    (hs : swapsWithSole [.Tuple es k pt] e pos.line X.env = pure false := by rfl) (hw : swappedStores [.Tuple es k pt] e X.env = pure none := by rfl) (h1 : (assignEach [.Tuple es k pt] X.env).map (·.2) = [assign (.Tuple es k pt) X.env] := by rfl) :
    PSX X Ex (.Assign [.Tuple es k pt] e pos) (sUnpO is fo) :=
  PS.imp (ps_asg he (pg_tup hc hg hn hst) hs hw h1) fun N σ H ⟨B, g, ρ, ok, h⟩ => ⟨B, g, ρ, ok, h.bind.imp (fun _ z => z) fun q _ h1 v H1 fp s ok1 _ r ow => by
    obtain ⟨d, ρ1⟩ := q
    cases d with
    | tup ds =>
      obtain ⟨c, h1⟩ := Post.ite h1
      simp only [Bool.and_eq_true, decide_eq_true_eq, List.all_eq_true] at c
      obtain ⟨q, xs, rfl, hp, ra⟩ := r.tup_inv
      refine ⟨q, xs, rfl, SqT.of hp, by rw [ra.length]; exact c.1, ?_⟩
      exact gNames_ok (o := fun _ => true) ok1 ra c.1 c.2 (.inr ⟨fun _ => rfl, ow.nd, fun a ha => ⟨ow.nb a ha, ow.mu a ha, fun j e z => ow.ap a ha j e z⟩⟩) fun σ' g' ok' => h1 B g' σ' H1 (Same.refl B) ok'
    | _ => exact (show False from h1).elim⟩
end
section
variable {α β : Type} {ec : α → D} {ed : β → D} {ρ ρ1 : DEnv} {i j : Nat} {m : List α} {A : DX} {fo : DO1} {ds : List D} {Kn : DEnv → Prop} {Kr : D → Prop}
theorem zipD {m : List α} {ys : List β} : List.zipWith (fun a b => D.tup [a, b]) (m.map ec) (ys.map ed) = (m.zip ys).map (eT2 ec ed) := by
  induction m generalizing ys with
  | nil => rfl
  | cons x r ih =>
    cases ys with
    | nil => rfl
    | cons y s => rw [List.map_cons, List.map_cons, List.zipWith_cons_cons, List.zip_cons_cons, List.map_cons, ih]; rfl
theorem iv_zipVV {ys : List β} (h1 : ρ[i]? = some (some (.lst (m.map ec), false))) (h2 : ρ[j]? = some (some (.lst (ys.map ed), false))) : iZipVV i j ρ = .ok ((m.zip ys).map (eT2 ec ed), ρ) := by
  rw [iZipVV, h1, h2, ← zipD]
theorem iv_zipFV {ys : List β} (hA : A ρ = .ok (.lst (m.map ec), true)) (h2 : ρ[j]? = some (some (.lst (ys.map ed), false))) : iZipFV A j ρ = .ok ((m.zip ys).map (eT2 ec ed), ρ) := by
  rw [iZipFV, hA, R.bind_ok, h2, ← zipD]
theorem ws_unpO {is : List Nat} (hE : fo ρ = .ok (.tup ds, ρ1)) (hl : (decide (ds.length = is.length) && is.all fun i => decide (i < ρ1.length)) = true) {ρ2 : DEnv} (hρ : putAll (fun _ => true) is ds ρ1 = ρ2) (hk : Kn ρ2) : WS (sUnpO is fo) ρ Kn Kr :=
  .nx (ρ' := ρ2) (by rw [← hρ, sUnpO, hE]; simp only [R.bind_ok, hl, R.ite_t]) hk
end
end EQ
/-! EqQ: min of four. -/
namespace EQ
open PySem PySem.Spec PyProof.Rows L2
section
open PySem.Sem (wp)
variable {prog : Program} {w : World} {A : Around} {E : Value → Shared → Prop} {s : Shared}
theorem args_min4 (a b c d : Value) : argsOk "min" ⟨[a, b, c, d], []⟩ := by unfold argsOk; kernel_rfl
theorem call_min_four {a b c d : Value} {Q : Value → Shared → Prop}
    (h : wpAny (model prog w) A.in1 (pyIter (.ref s.heap.objs.size)) (fun it s₂ => ∃ I fp wr n P St bt, it = .ref I ∧ Walks prog w A.in1 I fp wr n P St ∧ St 0 s₂.heap ∧ (∀ b ∈ fp, b < s₂.heap.objs.size) ∧ 0 < n ∧ CmpOf prog w A.in1 .Lt P bt ∧
      ∀ v h' tk, P (argBest bt (n - 1)) v → (∀ b o, b ∉ wr → s₂.heap.get? b = some o → h'.get? b = some o) → Q v { s₂ with heap := h', toks := tk }) E
      { s with heap := s.heap.push { cls := .type "tuple", data := .seq #[a, b, c, d] } }) :
    wpAny (model prog w) A (call (.builtin "min") [a, b, c, d]) Q E s := by
  have hname : (toString "min" ++ toString ".loop" : String) = "min.loop" := by decide
  refine call_function_tree F.kind_min F.plain_min F.entry_min (args_min4 _ _ _ _) ?_
  show wpAny _ A.in1 (Builtin.Builtins.bindParams "min" ["key", "default"] 0 ⟨[], []⟩ >>= _) _ _ s
  refine wpAny_bind (wpAny_of_eq (show Builtin.Builtins.bindParams "min" ["key", "default"] 0 ⟨[], []⟩ = pure [none, none] from rfl) ?_)
  show wpAny _ A.in1 (newTuple [a, b, c, d] >>= _) _ _ s
  refine wpAny_bind (wpAny_newObj_type ?_)
  refine wpAny_bind (wpAny_mono h (fun it s₂ h₂ => ?_) fun _ _ e => e)
  obtain ⟨I, fp, wr, n, P, St, bt, rfl, W, hst, hfp, hn, hcmp, hQ⟩ := h₂
  refine wpAny_bind (wpAny_newObj_type ?_)
  have hSf : s₂.heap.objs.size ∉ fp := fun hm => Nat.lt_irrefl _ (hfp _ hm)
  rw [hname]
  refine wpAny_pure ⟨plainId_quiet F.plain_min_loop _, codeAny_min_loop_first W bt hcmp s₂.heap.objs.size hSf hn (W.frame _ _ _ hst fun b _ o e => Heap.get?_push_of_some _ e) (Heap.get?_push_size _ rfl) fun v h' tk hP hk => ?_⟩
  exact hQ v h' tk hP fun b o hbw e => hk b o hbw (Nat.ne_of_lt (Heap.lt_size e)) (Heap.get?_push_of_some _ e)
theorem min_four_ints {a b c d : Int} {t u x y : Tok} {Q : Value → Shared → Prop} (hh : A.handled = none)
    (h : ∀ h' tk t', (∀ d o, s.heap.get? d = some o → h'.get? d = some o) → Q (.int (min (min (min a b) c) d) t') { s with heap := h', toks := tk }) :
    wpAny (model prog w) A (call (.builtin "min") [.int a t, .int b u, .int c x, .int d y]) Q E s := by
  have hT : (s.heap.push { cls := .type "tuple", data := .seq #[.int a t, .int b u, .int c x, .int d y] }).IsTuple s.heap.objs.size (intItems #[(a, t), (b, u), (c, x), (d, y)]) := ⟨_, Heap.get?_push_size _ rfl, rfl, 0, by simp [intItems]⟩
  refine call_min_four (wpAny_pyIter_tuple hT ?_)
  have hsz : (s.heap.push { cls := .type "tuple", data := .seq #[.int a t, .int b u, .int c x, .int d y] }).objs.size = s.heap.objs.size + 1 := Heap.size_push ..
  refine ⟨_, [_, s.heap.objs.size], [_], _, _, _, _, rfl, Walks.tuple (A := A.in1) hh _ s.heap.objs.size (by rw [hsz]; exact Nat.ne_of_lt (Nat.lt_succ_self _)) (intItems #[(a, t), (b, u), (c, x), (d, y)]),
    ⟨⟨_, Heap.get?_push_size _ rfl, rfl, rfl⟩, hT.push _⟩, fun d hd => ?_, by simp [intItems], CmpOf.ints_lt (numAt #[(a, t), (b, u), (c, x), (d, y)]) (fun _ _ => intItems_at), fun v h' tk hP hk => ?_⟩
  · show d < ((s.heap.push _).push _).objs.size
    rw [Heap.size_push, hsz]
    rcases List.mem_cons.mp hd with rfl | hd
    · rw [hsz]; exact Nat.lt_succ_self _
    · rcases List.mem_cons.mp hd with rfl | hd
      · exact Nat.lt_succ_of_lt (Nat.lt_succ_self _)
      · cases hd
  · have hold : ∀ d o, s.heap.get? d = some o → h'.get? d = some o := fun d o e => by
      refine hk d o (fun hm => ?_) (Heap.get?_push_of_some _ (Heap.get?_push_of_some _ e))
      rcases List.mem_cons.mp hm with e1 | hm
      · have := Heap.lt_size e; rw [e1, hsz] at this; exact Nat.lt_irrefl _ (Nat.lt_of_succ_lt this)
      · cases hm
    have hP' : (intItems #[(a, t), (b, u), (c, x), (d, y)])[argBest (fun i j => decide (numAt #[(a, t), (b, u), (c, x), (d, y)] i < numAt #[(a, t), (b, u), (c, x), (d, y)] j)) 3]? = some v := by
      have hsz2 : (intItems #[(a, t), (b, u), (c, x), (d, y)]).size - 1 = 3 := by simp [intItems]
      rw [← hsz2]; exact hP
    obtain ⟨t', rfl⟩ : ∃ t', v = Value.int (min (min (min a b) c) d) t' := by
      clear hP hk hold h hT hsz
      by_cases h1 : b < a
      · by_cases h2 : c < b
        · by_cases h3 : d < c
          · have e : argBest (fun i j => decide (numAt #[(a, t), (b, u), (c, x), (d, y)] i < numAt #[(a, t), (b, u), (c, x), (d, y)] j)) 3 = 3 := by simp [argBest, numAt, h1, h2, h3]
            rw [e] at hP'
            exact ⟨y, by rw [show min (min (min a b) c) d = d by omega]; simpa [intItems] using hP'.symm⟩
          · have e : argBest (fun i j => decide (numAt #[(a, t), (b, u), (c, x), (d, y)] i < numAt #[(a, t), (b, u), (c, x), (d, y)] j)) 3 = 2 := by simp [argBest, numAt, h1, h2, h3]
            rw [e] at hP'
            exact ⟨x, by rw [show min (min (min a b) c) d = c by omega]; simpa [intItems] using hP'.symm⟩
        · by_cases h3 : d < b
          · have e : argBest (fun i j => decide (numAt #[(a, t), (b, u), (c, x), (d, y)] i < numAt #[(a, t), (b, u), (c, x), (d, y)] j)) 3 = 3 := by simp [argBest, numAt, h1, h2, h3]
            rw [e] at hP'
            exact ⟨y, by rw [show min (min (min a b) c) d = d by omega]; simpa [intItems] using hP'.symm⟩
          · have e : argBest (fun i j => decide (numAt #[(a, t), (b, u), (c, x), (d, y)] i < numAt #[(a, t), (b, u), (c, x), (d, y)] j)) 3 = 1 := by simp [argBest, numAt, h1, h2, h3]
            rw [e] at hP'
            exact ⟨u, by rw [show min (min (min a b) c) d = b by omega]; simpa [intItems] using hP'.symm⟩
      · by_cases h2 : c < a
        · by_cases h3 : d < c
          · have e : argBest (fun i j => decide (numAt #[(a, t), (b, u), (c, x), (d, y)] i < numAt #[(a, t), (b, u), (c, x), (d, y)] j)) 3 = 3 := by simp [argBest, numAt, h1, h2, h3]
            rw [e] at hP'
            exact ⟨y, by rw [show min (min (min a b) c) d = d by omega]; simpa [intItems] using hP'.symm⟩
          · have e : argBest (fun i j => decide (numAt #[(a, t), (b, u), (c, x), (d, y)] i < numAt #[(a, t), (b, u), (c, x), (d, y)] j)) 3 = 2 := by simp [argBest, numAt, h1, h2, h3]
            rw [e] at hP'
            exact ⟨x, by rw [show min (min (min a b) c) d = c by omega]; simpa [intItems] using hP'.symm⟩
        · by_cases h3 : d < a
          · have e : argBest (fun i j => decide (numAt #[(a, t), (b, u), (c, x), (d, y)] i < numAt #[(a, t), (b, u), (c, x), (d, y)] j)) 3 = 3 := by simp [argBest, numAt, h1, h2, h3]
            rw [e] at hP'
            exact ⟨y, by rw [show min (min (min a b) c) d = d by omega]; simpa [intItems] using hP'.symm⟩
          · have e : argBest (fun i j => decide (numAt #[(a, t), (b, u), (c, x), (d, y)] i < numAt #[(a, t), (b, u), (c, x), (d, y)] j)) 3 = 0 := by simp [argBest, numAt, h1, h2, h3]
            rw [e] at hP'
            exact ⟨t, by rw [show min (min (min a b) c) d = a by omega]; simpa [intItems] using hP'.symm⟩
    exact h h' tk t' hold
end
section
variable {X : Cx}
theorem vals4 {a b c d : V} {us : List Value} (r : Vals [a, b, c, d] us) : ∃ u v w x, us = [u, v, w, x] ∧ RelV a u ∧ RelV b v ∧ RelV c w ∧ RelV d x := by
  cases r with
  | cons h1 t => obtain ⟨v, w, x, rfl, h2, h3, h4⟩ := vals3 t; exact ⟨_, _, _, _, rfl, h1, h2, h3, h4⟩
theorem call_min4 (hc : X.calm = true) : CallR X (.builtin "min") (fun xs H Q => ∃ i j k l, xs = [.int i, .int j, .int k, .int l] ∧ Q (.int (min (min (min i j) k) l)) H) := by
  intro pins s σ H xs us Q I r h
  obtain ⟨i, j, k, l, rfl, q⟩ := h
  obtain ⟨u, v, w', x, rfl, ⟨t, rfl⟩, ⟨t', rfl⟩, ⟨t2, rfl⟩, ⟨t3, rfl⟩⟩ := vals4 r
  exact min_four_ints (I.ok.hd hc) fun h' tk t4 kp => ⟨.int (min (min (min i j) k) l), H, I.kept kp, ⟨_, rfl⟩, q⟩
end
@[simp] def dMin4 : List D → R D
  | [.int a, .int b, .int c, .int d] => .ok (.int (min (min (min a b) c) d))
  | _ => .no
theorem RepA.four {K : PySem.W.Frag} {H : Hp} {xs : List V} {a b c d : D} {f : List Addr} (r : RepA K H xs [a, b, c, d] f) : ∃ u v w x f1 f2 f3 f4, xs = [u, v, w, x] ∧ Rep K H u a f1 ∧ Rep K H v b f2 ∧ Rep K H w c f3 ∧ Rep K H x d f4 := by
  obtain ⟨u, us, f1, f2, rfl, rfl, r1, r2⟩ := r.cons_d
  obtain ⟨v, w, x, f3, f4, f5, rfl, r3, r4, r5⟩ := r2.three
  exact ⟨u, v, w, x, f1, f3, f4, f5, rfl, r1, r3, r4, r5⟩
theorem snd_min4 {K : PySem.W.Frag} : SndL K (fun xs H Q => ∃ i j k l, xs = [.int i, .int j, .int k, .int l] ∧ Q (.int (min (min (min i j) k) l)) H) dMin4 := fun H xs ds fp z Q r q h => by
  unfold dMin4 at q
  split at q
  · cases q
    obtain ⟨u, v, w, x, f1, f2, f3, f4, rfl, r1, r2, r3, r4⟩ := r.four
    obtain ⟨rfl, _⟩ := r1.int_inv
    obtain ⟨rfl, _⟩ := r2.int_inv
    obtain ⟨rfl, _⟩ := r3.int_inv
    obtain ⟨rfl, _⟩ := r4.int_inv
    exact ⟨_, _, _, _, rfl, h.int⟩
  · cases q
theorem ne_min4 : NoExL dMin4 := fun ds c q => by
  unfold dMin4 at q
  split at q <;> cases q
theorem fn_min4 {a b c d : Int} : dMin4 [.int a, .int b, .int c, .int d] = .ok (.int (min (min (min a b) c) d)) := rfl
end EQ
/-! EqR: a chain of comparisons as a test. -/
namespace EQ
open PySem PySem.Spec PyProof.Rows L2
def tC1 (r : R2) (tb : TE) (k : V → TT) : V → TT := fun x σ H Q => tb σ H fun y H1 => r x y H1 fun z H2 => ∃ b, z = .bl b ∧ (if b = true then k y σ H2 Q else Q false H2)
def tC0 (r : R2) (tb : TE) : V → TT := fun x σ H Q => tb σ H fun y H1 => r x y H1 fun z H2 => ∃ b, z = .bl b ∧ Q b H2
def tC (ta : TE) (k : V → TT) : TT := fun σ H Q => ta σ H fun x H1 => k x σ H1 Q
section
variable {X : Cx} {a b c d e : Expr} {ta tb tc td te : TE} {pos : Pos} {r : R2} {op : CmpOp}
theorem pt_chain5 (ho : OpR X (compareOp op) r) (ha : PE X a ta) (hb : PE X b tb) (hc : PE X c tc) (hd : PE X d td) (he : PE X e te)
    (hm : lastMarks [op, op, op, op] [b, c, d, e] = false) : PT X (.Compare a [op, op, op, op] [b, c, d, e] pos) (tC ta (tC1 r tb (tC1 r tc (tC1 r td (tC0 r te))))) := by
  refine ⟨fun pins s σ H Q I h => ?_⟩
  refine isTrue_chain (thn (ha.run pins s σ H _ I h) fun v s1 ⟨x, H1, I1, r1, q1⟩ => ?_) hm
  refine test_link (thn (hb.run pins s1 σ H1 _ I1 q1) fun u s2 ⟨y, H2, I2, r2, q2⟩ => thn (ho pins s2 σ H2 x y v u _ I2 r1 r2 q2) fun d s3 ⟨z, H3, I3, r3, k, e, q3⟩ => ?_)
  subst e
  cases r3
  refine wpAny_truthy_bool ?_
  cases k with
  | false => exact ite_ff ⟨H3, I3, q3⟩
  | true =>
    refine ite_tt (test_link (thn (hc.run pins s3 σ H3 _ I3 q3) fun u2 s4 ⟨y2, H4, I4, r4, q4⟩ => thn (ho pins s4 σ H4 y y2 u u2 _ I4 r2 r4 q4) fun d2 s5 ⟨z2, H5, I5, r5, k2, e2, q5⟩ => ?_))
    subst e2
    cases r5
    refine wpAny_truthy_bool ?_
    cases k2 with
    | false => exact ite_ff ⟨H5, I5, q5⟩
    | true =>
      refine ite_tt (test_link (thn (hd.run pins s5 σ H5 _ I5 q5) fun u3 s6 ⟨y3, H6, I6, r6, q6⟩ => thn (ho pins s6 σ H6 y2 y3 u2 u3 _ I6 r4 r6 q6) fun d3 s7 ⟨z3, H7, I7, r7, k3, e3, q7⟩ => ?_))
      subst e3
      cases r7
      refine wpAny_truthy_bool ?_
      cases k3 with
      | false => exact ite_ff ⟨H7, I7, q7⟩
      | true =>
        refine ite_tt (test_last (thn (he.run pins s7 σ H7 _ I7 q7) fun u4 s8 ⟨y4, H8, I8, r8, q8⟩ => thn (ho pins s8 σ H8 y3 y4 u3 u4 _ I8 r6 r8 q8) fun d4 s9 ⟨z4, H9, I9, r9, k4, e4, q9⟩ => ?_))
        subst e4
        cases r9
        exact wpAny_truthy_bool ⟨H9, I9, q9⟩
end
@[simp] def dC0 (f : D → D → R D) (fb : DX) (d : D) : DT := fun ρ => (fb ρ).bind fun y => (f d y.1).bind fun z => match z with
  | .bl b => .ok b
  | _ => .no
@[simp] def dC1 (f : D → D → R D) (fb : DX) (k : D → DT) (d : D) : DT := fun ρ => (fb ρ).bind fun y => (f d y.1).bind fun z => match z with
  | .bl true => k y.1 ρ
  | .bl false => .ok false
  | _ => .no
@[simp] def dCh (fa : DX) (k : D → DT) : DT := fun ρ => (fa ρ).bind fun x => k x.1 ρ
def CkR (X : Cx) (Ex : XK) (K : V → TT) (k : D → DT) : Prop := ∀ σ H Q B g ρ v d fp, OkG X.K B H σ ρ g → Rep X.K H v d fp → Post (ExB X.mg Ex B) (fun b => ∀ H', Same H H' → Q b H') (k d ρ) → K v σ H Q
section
variable {X : Cx} {Ex : XK} {fa fb fc fd fe : DX} {f : D → D → R D} {r : R2} {a b c d e : Expr} {pos : Pos} {op : CmpOp}
theorem ck0 (sd : Snd2 X.K r f) (ne : NoEx2 f) : CkR X Ex (tC0 r (tX X.K X.mg Ex fb)) (dC0 f fb) := fun σ H Q B g ρ v d fp ok rp h =>
  tX_step ok h fun e o w H1 f1 _ s1 r1 _ h1 => by
    cases q : f d e with
    | ok z =>
      rw [q] at h1
      refine sd H1 v w d e fp f1 z _ (rp.mono s1) r1 q fun u H2 fp2 s2 r2 _ => ?_
      cases z with
      | bl k =>
        obtain ⟨rfl, _⟩ := r2.bl_inv
        exact ⟨k, rfl, h1 H2 (s1.trans s2)⟩
      | _ => exact h1.elim
    | ex c => exact absurd q (ne d e c)
    | no => rw [q] at h1; exact h1.elim
theorem ck1 {K : V → TT} {k : D → DT} (sd : Snd2 X.K r f) (ne : NoEx2 f) (hk : CkR X Ex K k) : CkR X Ex (tC1 r (tX X.K X.mg Ex fb) K) (dC1 f fb k) := fun σ H Q B g ρ v d fp ok rp h =>
  tX_step ok h fun e o w H1 f1 _ s1 r1 _ h1 => by
    cases q : f d e with
    | ok z =>
      rw [q] at h1
      refine sd H1 v w d e fp f1 z _ (rp.mono s1) r1 q fun u H2 fp2 s2 r2 _ => ?_
      cases z with
      | bl b =>
        obtain ⟨rfl, _⟩ := r2.bl_inv
        refine ⟨b, rfl, ?_⟩
        cases b with
        | false => exact h1 H2 (s1.trans s2)
        | true => exact hk σ H2 Q B g ρ w e f1 (ok.mono (s1.trans s2)) (r1.mono s2) (h1.imp (fun _ z => z) fun b _ z H' s => z H' ((s1.trans s2).trans s))
      | _ => exact h1.elim
    | ex c => exact absurd q (ne d e c)
    | no => rw [q] at h1; exact h1.elim
theorem ckC {K : V → TT} {k : D → DT} (hk : CkR X Ex K k) : ∀ σ H Q, tT X.K X.mg Ex (dCh fa k) σ H Q → tC (tX X.K X.mg Ex fa) K σ H Q := fun σ H Q ⟨B, g, ρ, ok, h⟩ =>
  tX_step ok h fun d o v H1 f1 _ s1 r1 _ h1 => hk σ H1 Q B g ρ v d f1 (ok.mono s1) r1 (h1.imp (fun _ z => z) fun b _ z H' s => z H' (s1.trans s))
theorem pb_chLE4 (ha : PX X Ex a fa) (hb : PX X Ex b fb) (hc : PX X Ex c fc) (hd : PX X Ex d fd) (he : PX X Ex e fe) (hm : lastMarks [.LtE, .LtE, .LtE, .LtE] [b, c, d, e] = false := by with_unfolding_all rfl) :
    PB X Ex (.Compare a [.LtE, .LtE, .LtE, .LtE] [b, c, d, e] pos) (dCh fa (dC1 dLe fb (dC1 dLe fc (dC1 dLe fd (dC0 dLe fe))))) :=
  have n := ne_ints _ h_le fun _ _ _ q => by cases q
  PT.imp (pt_chain5 op_le ha hb hc hd he hm) (ckC (ck1 (snd_cmp h_le) n (ck1 (snd_cmp h_le) n (ck1 (snd_cmp h_le) n (ck0 (snd_cmp h_le) n)))))
end
section
variable {A B C D' E' : DX} {ρ : DEnv} {a b c d e : Int} {o1 o2 o3 o4 o5 : Bool}
theorem tv_chLE4 (h1 : A ρ = .ok (.int a, o1)) (h2 : B ρ = .ok (.int b, o2)) (h3 : C ρ = .ok (.int c, o3)) (h4 : D' ρ = .ok (.int d, o4)) (h5 : E' ρ = .ok (.int e, o5)) :
    dCh A (dC1 dLe B (dC1 dLe C (dC1 dLe D' (dC0 dLe E')))) ρ = .ok (decide (a ≤ b) && (decide (b ≤ c) && (decide (c ≤ d) && decide (d ≤ e)))) := by
  simp only [dCh, dC1, dC0, h1, h2, h3, h4, h5, R.bind_ok, dLe]
  cases decide (a ≤ b) <;> cases decide (b ≤ c) <;> cases decide (c ≤ d) <;> rfl
end
end EQ
set_option maxHeartbeats 1000000
/-! EqS: list(reversed(x)). -/
namespace EQ
open PySem PySem.Spec PyProof.Rows L2
open PySem.Sem (wp)
section
variable {prog : Program} {w : World} {A : Around} {E : Value → Shared → Prop} {s : Shared}
theorem extend_rev {R : Result → Shared → Prop} {it l : Addr} {items : Array Value} (hh : A.handled = none) (hit : s.heap.IsRevIter it l ((items.size : Int) - 1)) (hl : s.heap.IsList l items) (hne : l ≠ it) (hn : items.size ≤ sizeLine)
    (S : Addr) (res : Value) (c₀ : Nat) (hS : s.heap.get? S = some { cls := .type "list", data := .seq #[] c₀ }) (hSi : S ≠ it) (hSl : S ≠ l)
    (hR : ∀ h' tk acc' c', (∀ b o, b ≠ S → b ≠ it → s.heap.get? b = some o → h'.get? b = some o) → h'.get? S = some { cls := .type "list", dict := none, data := .seq acc' c', slots := #[] } →
      ItemsOf (fun i v => items[items.size - 1 - i]? = some v) acc' items.size → R (.ok (.ret res)) { s with heap := h', toks := tk }) :
    wpAny (model prog w) A.in1 (Builtin.List.listExtendWith (.ref S) (.ref it) res)
      (fun fin s' => match fin with | .done f => R (.ok f) s' | .again c' => c'.quiet = true ∧ codeAny (model prog w) A c' R s') (fun e s' => R (.error e) s') s := by
  have W := (Walks.listRev (prog := prog) (w := w) (A := A.in1) hh it l hne items).toS
  have hSf : S ∉ [it, l] := by simp only [List.mem_cons, List.not_mem_nil, or_false, not_or]; exact ⟨hSi, hSl⟩
  have hT : s.TypeIs (.ref it) "list_reverseiterator" := hit.typeIs
  have h1 : Builtin.List.listSameRef (.ref S) (.ref it) = false := by simp [Builtin.List.listSameRef, hSi]
  unfold Builtin.List.listExtendWith
  refine wpAny_bind (wpAny_typeOf hT ?_)
  rw [if_neg (by rw [h1]; decide)]
  refine wpAny_bind (wpAny_pyIter_revIter hit ?_)
  refine wpAny_bind (wpAny_holding ?_)
  unfold Builtin.List.listLengthHint
  refine wpAny_bind (wpAny_specialOf hT RT.nolen_lri ?_)
  show wpAny _ A.in1 (specialOf (Value.ref it) (Str.ofString "__length_hint__") >>= _) _ _ _
  refine wpAny_bind (wpAny_specialOf hT RT.hint_lri ?_)
  generalize hid : ("list_reverseiterator.__length_hint__" : String) = id0
  wp_delta
  rw [show splitId id0 = some ("list_reverseiterator", "__length_hint__") from by subst hid; decide +kernel]
  subst hid
  refine wpAny_bind (wpAny_isInstance (b := true) hT (by rw [isSubtype_type]; kernel_rfl) ?_)
  refine wpAny_pure ?_
  rw [if_neg (by decide)]
  have e0 : ((items.size : Nat) : Int) - 1 - ((0 : Nat) : Int) = (items.size : Int) - 1 := by omega
  refine wpAny_pure ⟨plainId_quiet F.plain_extend_loop _, codeAny_extend_loopS W hn _ hSf _ items.size 0 _ _ _ rfl (Nat.zero_le _) ⟨Nat.zero_le _, by rw [e0]; exact hit, hl⟩ hS (ItemsOf.nil _) fun s' acc' c' hm hS' hacc => ?_⟩
  rw [Moved.eq_with hm]
  refine hR s'.heap s'.toks acc' c' (fun b o hb hbi e => hm.heap b o (fun hmem => ?_) e) hS' hacc
  rcases List.mem_cons.mp hmem with e' | hmem
  · exact hb e'
  · exact hbi (List.mem_singleton.mp hmem)
theorem call_list_rev {it l : Addr} {items : Array Value} {Q : Value → Shared → Prop} (hh : A.handled = none) (hit : s.heap.IsRevIter it l ((items.size : Int) - 1)) (hl : s.heap.IsList l items) (hne : l ≠ it) (hn : items.size ≤ sizeLine)
    (hQ : ∀ h' tk acc' c', (∀ b o, b ≠ it → s.heap.get? b = some o → h'.get? b = some o) → h'.get? s.heap.objs.size = some { cls := .type "list", dict := none, data := .seq acc' c', slots := #[] } →
      ItemsOf (fun i v => items[items.size - 1 - i]? = some v) acc' items.size → Q (.ref s.heap.objs.size) { s with heap := h', toks := tk }) :
    wpAny (model prog w) A (call (.type "list") [.ref it]) Q E s := by
  refine callType_codes (Q₁ := fun obj s₁ => obj = .ref s.heap.objs.size ∧ s₁ = { s with heap := s.heap.push { cls := .type "list", data := .seq #[] } }) F.called_list (F.typeCall_list_1 _) F.entry_list_init
    (code_list_new _ ⟨rfl, rfl⟩) fun obj s₁ h₁ => ?_
  obtain ⟨rfl, rfl⟩ := h₁
  have hS : (s.heap.push { cls := .type "list", data := .seq #[] }).get? s.heap.objs.size = some { cls := .type "list", data := .seq #[] } := Heap.get?_push_size _ rfl
  obtain ⟨oi, hoi, _⟩ := id hit
  obtain ⟨ol, hol, _⟩ := id hl
  have hSi : s.heap.objs.size ≠ it := Nat.ne_of_gt (Heap.lt_size hoi)
  have hSl : s.heap.objs.size ≠ l := Nat.ne_of_gt (Heap.lt_size hol)
  refine ⟨⟨_, hS, rfl⟩, F.args_list_init_2 _ _, ?_⟩
  show wpAny _ _ (do let old ← Builtin.List.listItems (.ref s.heap.objs.size); Builtin.List.listUpdate (.ref s.heap.objs.size) (fun _ => #[]); letGo old.toList.reverse; Builtin.List.listExtendWith (.ref s.heap.objs.size) (.ref it) .none) _ _ _
  refine wpAny_bind ?_
  unfold Builtin.List.listItems
  refine wpAny_bind (wpAny_seqItems hS rfl (wpAny_pure ?_))
  show wpAny _ _ (updateSeq s.heap.objs.size (fun _ => #[]) >>= fun _ => letGo (#[] : Array Value).toList.reverse >>= fun _ => Builtin.List.listExtendWith (.ref s.heap.objs.size) (.ref it) .none) _ _ _
  refine wpAny_bind (wpAny_updateSeq hS rfl ?_)
  have hS₂ := Heap.get?_update_self (Obj.mapSeq (fun _ => (#[] : Array Value))) hS rfl
  have oth : ∀ b o, b ≠ s.heap.objs.size → s.heap.get? b = some o → ((s.heap.push { cls := .type "list", data := .seq #[] }).update s.heap.objs.size (Obj.mapSeq (fun _ => (#[] : Array Value)))).get? b = some o :=
    fun b o hb e => (Heap.get?_update_other _ _ (Ne.symm hb)).trans (Heap.get?_push_of_some _ e)
  refine wpAny_bind (wpAny_letGo ?_)
  refine extend_rev (A := A.in1) (s := { s with heap := (s.heap.push { cls := .type "list", data := .seq #[] }).update s.heap.objs.size (Obj.mapSeq (fun _ => (#[] : Array Value))) }) hh (hit.at fun o e => oth it o (Ne.symm hSi) e) (hl.at fun o e => oth l o (Ne.symm hSl) e) hne hn _ .none _ hS₂ hSi hSl fun h' tk acc' c' hk hS' hacc => ?_
  exact ⟨rfl, hQ h' tk acc' c' (fun b o hb e => hk b o (Nat.ne_of_lt (Heap.lt_size e)) hb (oth b o (Nat.ne_of_lt (Heap.lt_size e)) e)) hS' hacc⟩
end
/-- list(reversed(x)), x a list: a new list -/
def tLstRev (K : PySem.W.Frag) (te : TE) : TE := fun σ H Q => te σ H fun v H1 => ∃ (a : Addr) (xs : List V), v = .ref a ∧ SqL K H1 a xs ∧ ∀ q, H1 q = none → Q (.ref q) (upd H1 q (.lst xs.reverse))
section
variable {X : Cx}
theorem pe_lstRev {e : Expr} {te : TE} {p p2 pos pos2 : Pos} (hc : X.calm = true) (hg : Gl X "list") (hm : X.mg "list" = none) (hg2 : Gl X "reversed") (hm2 : X.mg "reversed" = none) (he : PE X e te)
    (hs : starEach [e] X.env = (false, eval e X.env) :: starEach [] X.env := by rfl)
    (hs2 : starEach [.Call (.Name "reversed" p2) [e] [] pos2] X.env = (false, eval (.Call (.Name "reversed" p2) [e] [] pos2) X.env) :: starEach [] X.env := by rfl) :
    PE X (.Call (.Name "list" p) [.Call (.Name "reversed" p2) [e] [] pos2] [] pos) (tLstRev X.K te) := by
  refine ⟨fun pins s σ H Q I h => ?_⟩
  refine Call_ (ld_blt I hg hm boot_list (PyProof.Rows.callWith_type1 (args_cons (Call_ (ld_blt I hg2 hm2 PyProof.Rows.boot_reversed (PyProof.Rows.callWith_type1 (args_cons (thn (he.run pins s σ H _ I h) fun u s1 ⟨v, H1, I1, r1, q1⟩ => args_nil ?_) hs) hs rfl))) hs2) hs2 rfl))
  obtain ⟨a, xs, ev, hq, q⟩ := q1
  subst ev
  obtain rfl : u = Value.ref a := r1
  obtain ⟨its, rv, p', hz⟩ := I1.list hq
  refine call_reversed_list p'.isList (args_nil ?_)
  have k0 : ∀ b o, s1.heap.get? b = some o → (s1.heap.push (revObj a ((its.toArray.size : Int) - 1))).get? b = some o := fun b o e => Heap.get?_push_of_some _ e
  have I2 : Inv X pins σ H1 { s1 with heap := s1.heap.push (revObj a ((its.toArray.size : Int) - 1)) } := I1.kept (t' := s1.toks) k0
  obtain ⟨f0, f1, f2, f3, f4, f5⟩ := I1.fpOk (H' := H1) (b := s1.heap.objs.size) (Nat.le_refl _) (I1.hok.fresh (Nat.le_refl _))
  have hl := p'.isList
  obtain ⟨ol, hol, _⟩ := id hl
  have hne : a ≠ s1.heap.objs.size := Nat.ne_of_lt (Heap.lt_size hol)
  have hn : its.toArray.size ≤ sizeLine := by rw [List.size_toArray, ← rv.length]; exact hz
  refine call_list_rev (s := { s1 with heap := s1.heap.push (revObj a ((its.toArray.size : Int) - 1)) }) (I1.ok.hd hc) ⟨_, Heap.get?_push_size _ rfl, rfl, rfl⟩ (hl.push _) hne hn fun h' tk acc c' hk e' hi => ?_
  have fr := I2.hok.fresh (Nat.le_refl _)
  have I3 : Inv X pins σ (upd H1 (s1.heap.push (revObj a ((its.toArray.size : Int) - 1))).objs.size (.lst xs.reverse)) { s1 with heap := (s1.heap.push (revObj a ((its.toArray.size : Int) - 1))).push { cls := .type "list", dict := none, data := .seq acc c', slots := #[] }, toks := tk } :=
    I2.laid (t' := tk) (fun c o e => Heap.get?_push_of_some _ e) (Nat.le_refl _) (show ObjOk X.prog X.w _ _ _ (.lst xs.reverse) from ⟨by rw [List.length_reverse]; exact hz, acc.toList, c', RT.vals_rev rv hi, by
      rw [Array.toArray_toList]; exact Heap.get?_push_size _ rfl⟩)
  have ne : s1.heap.objs.size ≠ (s1.heap.push (revObj a ((its.toArray.size : Int) - 1))).objs.size := by rw [Heap.size_push]; omega
  have I4 := I3.turned (t' := tk) (h' := h') (it := s1.heap.objs.size) (fun b o hb e => by
      rcases Heap.get?_push_cases e with ⟨rfl, rfl⟩ | e
      · exact e'
      · exact hk b o hb e) (by
      show upd H1 _ _ _ = none
      unfold upd
      rw [if_neg ne]; exact f0) f1 f3 f4 f5
  exact ⟨.ref (s1.heap.push (revObj a ((its.toArray.size : Int) - 1))).objs.size, _, I4, rfl, q _ fr⟩
end
theorem RepA.rev {K : PySem.W.Frag} {H : Hp} : ∀ {ds : List D} {xs : List V}, RepA K H xs ds [] → RepA K H xs.reverse ds.reverse []
  | [], xs, h => by obtain ⟨rfl, _⟩ := h.nil_d; exact h
  | d :: ds, xs, h => by
    obtain ⟨v, ws, f1, f2, rfl, e, r1, r2⟩ := h.cons_d
    have z : f1 = [] ∧ f2 = [] := by simpa using e.symm
    obtain ⟨rfl, rfl⟩ := z
    rw [List.reverse_cons, List.reverse_cons]
    exact (RepA.rev r2).append (RepA.cons r1 .nil)
@[simp] def eListRev (fa : DX) : DX := fun ρ => (fa ρ).bind fun x => match x.1 with
  | .lst ds => .ite (immA ds) (.ok (.lst ds.reverse, true))
  | _ => .no
section
variable {X : Cx} {Ex : XK} {a : Expr} {fa : DX} {p p2 pos pos2 : Pos}
theorem px_listRev (hc : X.calm = true) (hg : Gl X "list") (hm : X.mg "list" = none) (hg2 : Gl X "reversed") (hm2 : X.mg "reversed" = none) (ha : PX X Ex a fa)
    (hs : starEach [a] X.env = (false, eval a X.env) :: starEach [] X.env := by rfl)
    (hs2 : starEach [.Call (.Name "reversed" p2) [a] [] pos2] X.env = (false, eval (.Call (.Name "reversed" p2) [a] [] pos2) X.env) :: starEach [] X.env := by rfl) :
    PX X Ex (.Call (.Name "list" p) [.Call (.Name "reversed" p2) [a] [] pos2] [] pos) (eListRev fa) :=
  PE.imp (pe_lstRev hc hg hm hg2 hm2 ha hs hs2) fun σ H Q ⟨B, g, ρ, ok, h⟩ => tX_step ok h fun d o v H1 fp _ s r _ h1 => by
    cases d with
    | lst ds =>
      obtain ⟨b, ys, f1, rfl, rfl, hb, ra⟩ := r.lst_inv
      have h2 : Post (ExB X.mg Ex B) (QX X.K H Q) (.ite (immA ds) (.ok (.lst ds.reverse, true))) := h1
      obtain ⟨c, h2⟩ := Post.ite h2
      obtain rfl := ra.imm c
      refine ⟨b, ys, rfl, SqL.of hb, fun q nq => ?_⟩
      exact h2 _ _ [q] (s.trans (same_upd nq)) (Rep.mk_lst upd_same (ra.rev.mono (same_upd nq))) fun _ => ⟨by simp, fun a ha => by
        obtain rfl : a = q := by simpa using ha
        exact ⟨s.free nq, .inl ⟨_, upd_same⟩⟩⟩
    | _ => exact h1.elim
end
section
variable {A : DX} {ρ : DEnv} {o : Bool}
theorem ev_listRev {α : Type} {ec : α → D} {xs : List α} (hi : ∀ x, imm (ec x) = true) (hA : A ρ = .ok (.lst (xs.map ec), o)) : eListRev A ρ = .ok (.lst ((xs.reverse).map ec), true) := by
  have e : immA (xs.map ec) = true := (immA_all _).mpr fun x hx => by
    obtain ⟨y, _, rfl⟩ := List.mem_map.mp hx
    exact hi y
  simp only [eListRev, hA, R.bind_ok, e, R.ite_t, List.map_reverse]
end
end EQ
set_option maxHeartbeats 1000000
/-! EqT: zip of three lists. -/
namespace EQ
open PySem PySem.Spec PyProof.Rows L2
open PySem.Sem (wp)
abbrev IsTrip (h : Heap) (T : Addr) (a b c : Value) : Prop := h.get? T = some { cls := .type "tuple", data := .seq #[a, b, c] }
theorem zt_call (a b c : Value) : checkTypeCall "zip" ⟨[a, b, c], []⟩ = pure () := by kernel_rfl
theorem zt_new (a b c : Value) : checkBuiltinCall "zip.__new__" ⟨[.type "zip", a, b, c], []⟩ = pure () := by kernel_rfl
theorem zt_init (a b c d : Value) : argsOk "object.__init__" ⟨[a, b, c, d], []⟩ := by
  unfold argsOk; rw [signature?_of (id := "object.__init__") (n := ['_', '_', 't', 'i', 'n', 'i', '_', '_']) (o := ['t', 'c', 'e', 'j', 'b', 'o']) (by kernel_rfl) F.owner_object]; kernel_rfl
structure Apart3 (z TI TO i1 i2 i3 l1 l2 l3 : Addr) : Prop where
  TIz : TI ≠ z
  TOz : TO ≠ z
  i1z : i1 ≠ z
  i2z : i2 ≠ z
  i3z : i3 ≠ z
  TITO : TI ≠ TO
  TIi1 : TI ≠ i1
  TIi2 : TI ≠ i2
  TIi3 : TI ≠ i3
  TOi1 : TO ≠ i1
  TOi2 : TO ≠ i2
  TOi3 : TO ≠ i3
  i12 : i1 ≠ i2
  i13 : i1 ≠ i3
  i23 : i2 ≠ i3
  l1z : l1 ≠ z
  l1TO : l1 ≠ TO
  l1i1 : l1 ≠ i1
  l1i2 : l1 ≠ i2
  l1i3 : l1 ≠ i3
  l2z : l2 ≠ z
  l2TO : l2 ≠ TO
  l2i1 : l2 ≠ i1
  l2i2 : l2 ≠ i2
  l2i3 : l2 ≠ i3
  l3z : l3 ≠ z
  l3TO : l3 ≠ TO
  l3i1 : l3 ≠ i1
  l3i2 : l3 ≠ i2
  l3i3 : l3 ≠ i3
theorem apN {a b : Nat} (h : a < b ∨ b < a) : a ≠ b := by omega
theorem apart3_of (I l1 l2 l3 : Nat) (h1 : l1 < I) (h2 : l2 < I) (h3 : l3 < I) : Apart3 (I + 5) (I + 3) (I + 4) I (I + 1) (I + 2) l1 l2 l3 := by
  constructor <;> (refine apN ?_; omega)
section
variable {prog : Program} {w : World} {A : Around} {E : Value → Shared → Prop} {s : Shared}
theorem upd_trip {T : Addr} {a b c x : Value} {k : Nat} {Q : Unit → Shared → Prop} (hT : IsTrip s.heap T a b c)
    (h : ∀ h', h'.get? T = some { cls := .type "tuple", data := .seq ((#[a, b, c] : Array Value).setIfInBounds k x) } → Heap.SameBut T s.heap h' → Q () { s with heap := h' }) :
    wpAny (model prog w) A (updateSeq T (·.setIfInBounds k x)) Q E s := by
  refine wpAny_updateSeq hT rfl (h _ ?_ (Heap.SameBut.update ..))
  rw [Heap.get?_update_self _ hT rfl]
  simp [Obj.mapSeq]
theorem zip3_item {z TI TO i1 i2 i3 l1 l2 l3 : Addr} {k1 k2 k3 : Nat} {xs ys zs : Array Value} {x y u a b c : Value} {Q : Value → Shared → Prop} (D : Apart3 z TI TO i1 i2 i3 l1 l2 l3)
    (hz : IsZip s.heap z TI TO .none) (hTI : IsTrip s.heap TI (.ref i1) (.ref i2) (.ref i3)) (hTO : IsTrip s.heap TO a b c)
    (h1 : s.heap.IsListIter i1 l1 k1) (h2 : s.heap.IsListIter i2 l2 k2) (h3 : s.heap.IsListIter i3 l3 k3) (hl1 : s.heap.IsList l1 xs) (hl2 : s.heap.IsList l2 ys) (hl3 : s.heap.IsList l3 zs) (hx : xs[k1]? = some x) (hy : ys[k2]? = some y) (hu : zs[k3]? = some u)
    (hQ : ∀ h', IsZip h' z TI TO (rawInt s.heap.objs.size) → IsTrip h' TO x y u → h'.IsListIter i1 l1 (k1 + 1) → h'.IsListIter i2 l2 (k2 + 1) → h'.IsListIter i3 l3 (k3 + 1) → IsTrip h' s.heap.objs.size x y u → h'.objs.size = s.heap.objs.size + 1 →
      (∀ c o, c ≠ z → c ≠ TO → c ≠ i1 → c ≠ i2 → c ≠ i3 → s.heap.get? c = some o → h'.get? c = some o) → Q (.ref s.heap.objs.size) { s with heap := h' }) :
    wpAny (model prog w) A (Builtin.«zip.__next__» ⟨[.ref z], []⟩) (fun fin s' => ∃ v, fin = .done (.ret v) ∧ Q v s') E s := by
  show wpAny _ _ (field (.ref z) 2 >>= _) _ _ _
  refine wpAny_bind (wpAny_field hz rfl (x := .bool false) rfl ?_)
  show wpAny _ _ (field (.ref z) 3 >>= _) _ _ _
  refine wpAny_bind (wpAny_field hz rfl (x := .ref TI) rfl ?_)
  refine wpAny_bind (wpAny_seqItems hTI rfl ?_)
  show wpAny _ _ (Builtin.SmallTypes.ownedTupleIsFree (.ref z) >>= _) _ _ _
  refine wpAny_bind ?_
  unfold Builtin.SmallTypes.ownedTupleIsFree
  refine wpAny_bind (wpAny_field hz rfl (x := .none) rfl (wpAny_pure ?_))
  simp only [if_true]
  refine wpAny_bind (wpAny_rule ?_)
  refine wpAny_bind (wpAny_field hz rfl (x := .ref TO) rfl ?_)
  refine wpAny_bind (wpAny_setField_rec hz (by simp) fun h₁ hz₁ hs₁ => ?_)
  replace hz₁ : IsZip h₁ z TI TO .ellipsis := hz₁
  refine wpAny_bind ?_
  simp only [List.zipIdx_cons, List.zipIdx_nil, List.forIn_cons, List.forIn_nil]
  have K1 : ∀ c o, c ≠ z → s.heap.get? c = some o → h₁.get? c = some o := fun c o n e => hs₁.extBut _ _ n e
  refine wpAny_bind (wpAny_bind (wpAny_onRaise ?_))
  show wpAny _ _ (Builtin.SmallTypes.nextOf (.ref i1) >>= _) _ _ _
  refine wpAny_bind (wpAny_nextOf_list_item (h1.at fun o e => K1 _ o D.i1z e) (hl1.at fun o e => K1 _ o D.l1z e) hx fun h₂ h1₂ hs₂ => wpAny_pure ?_)
  have K2 : ∀ c o, c ≠ z → c ≠ i1 → s.heap.get? c = some o → h₂.get? c = some o := fun c o n n2 e => hs₂.extBut _ _ n2 (K1 c o n e)
  have hTO₂ : IsTrip h₂ TO a b c := K2 _ _ D.TOz D.TOi1 hTO
  refine wpAny_bind (wpAny_seqItems hTO₂ rfl ?_)
  refine wpAny_bind (upd_trip hTO₂ fun h₃ hTO₃ hs₃ => ?_)
  replace hTO₃ : IsTrip h₃ TO x b c := hTO₃
  refine wpAny_bind (wpAny_letGo (wpAny_pure ?_))
  have K3 : ∀ c o, c ≠ z → c ≠ i1 → c ≠ TO → s.heap.get? c = some o → h₃.get? c = some o := fun c o n n2 n3 e => hs₃.extBut _ _ n3 (K2 c o n n2 e)
  refine wpAny_bind (wpAny_bind (wpAny_onRaise ?_))
  show wpAny _ _ (Builtin.SmallTypes.nextOf (.ref i2) >>= _) _ _ _
  refine wpAny_bind (wpAny_nextOf_list_item (h2.at fun o e => K3 _ o D.i2z D.i12.symm D.TOi2.symm e) (hl2.at fun o e => K3 _ o D.l2z D.l2i1 D.l2TO e) hy fun h₄ h2₄ hs₄ => wpAny_pure ?_)
  have K4 : ∀ c o, c ≠ z → c ≠ i1 → c ≠ TO → c ≠ i2 → s.heap.get? c = some o → h₄.get? c = some o := fun c o n n2 n3 n4 e => hs₄.extBut _ _ n4 (K3 c o n n2 n3 e)
  have hTO₄ : IsTrip h₄ TO x b c := hs₄.extBut _ _ D.TOi2 hTO₃
  refine wpAny_bind (wpAny_seqItems hTO₄ rfl ?_)
  refine wpAny_bind (upd_trip hTO₄ fun h₅ hTO₅ hs₅ => ?_)
  replace hTO₅ : IsTrip h₅ TO x y c := hTO₅
  refine wpAny_bind (wpAny_letGo (wpAny_pure ?_))
  have K5 : ∀ c o, c ≠ z → c ≠ i1 → c ≠ TO → c ≠ i2 → s.heap.get? c = some o → h₅.get? c = some o := fun c o n n2 n3 n4 e => hs₅.extBut _ _ n3 (K4 c o n n2 n3 n4 e)
  refine wpAny_bind (wpAny_bind (wpAny_onRaise ?_))
  show wpAny _ _ (Builtin.SmallTypes.nextOf (.ref i3) >>= _) _ _ _
  refine wpAny_bind (wpAny_nextOf_list_item (h3.at fun o e => K5 _ o D.i3z D.i13.symm D.TOi3.symm D.i23.symm e) (hl3.at fun o e => K5 _ o D.l3z D.l3i1 D.l3TO D.l3i2 e) hu fun h₆ h3₆ hs₆ => wpAny_pure ?_)
  have K6 : ∀ c o, c ≠ z → c ≠ i1 → c ≠ TO → c ≠ i2 → c ≠ i3 → s.heap.get? c = some o → h₆.get? c = some o := fun c o n n2 n3 n4 n5 e => hs₆.extBut _ _ n5 (K5 c o n n2 n3 n4 e)
  have hTO₆ : IsTrip h₆ TO x y c := hs₆.extBut _ _ D.TOi3 hTO₅
  refine wpAny_bind (wpAny_seqItems hTO₆ rfl ?_)
  refine wpAny_bind (upd_trip hTO₆ fun h₇ hTO₇ hs₇ => ?_)
  replace hTO₇ : IsTrip h₇ TO x y u := hTO₇
  refine wpAny_bind (wpAny_letGo (wpAny_pure (wpAny_pure ?_)))
  have K7 : ∀ c o, c ≠ z → c ≠ i1 → c ≠ TO → c ≠ i2 → c ≠ i3 → s.heap.get? c = some o → h₇.get? c = some o := fun c o n n2 n3 n4 n5 e => hs₇.extBut _ _ n3 (K6 c o n n2 n3 n4 n5 e)
  refine wpAny_bind (wpAny_seqItems hTO₇ rfl ?_)
  refine wpAny_bind (wpAny_newTuple ?_)
  have hsz : h₇.objs.size = s.heap.objs.size := by rw [hs₇.1, hs₆.1, hs₅.1, hs₄.1, hs₃.1, hs₂.1, hs₁.1]
  have hz₇ : IsZip h₇ z TI TO .ellipsis := hs₇.extBut _ _ D.TOz.symm (hs₆.extBut _ _ D.i3z.symm (hs₅.extBut _ _ D.TOz.symm (hs₄.extBut _ _ D.i2z.symm (hs₃.extBut _ _ D.TOz.symm (hs₂.extBut _ _ D.i1z.symm hz₁)))))
  have h1₇ : h₇.IsListIter i1 l1 (k1 + 1) := h1₂.at fun o e => hs₇.extBut _ _ D.TOi1.symm (hs₆.extBut _ _ D.i13 (hs₅.extBut _ _ D.TOi1.symm (hs₄.extBut _ _ D.i12 (hs₃.extBut _ _ D.TOi1.symm e))))
  have h2₇ : h₇.IsListIter i2 l2 (k2 + 1) := h2₄.at fun o e => hs₇.extBut _ _ D.TOi2.symm (hs₆.extBut _ _ D.i23 (hs₅.extBut _ _ D.TOi2.symm e))
  have h3₇ : h₇.IsListIter i3 l3 (k3 + 1) := h3₆.at fun o e => hs₇.extBut _ _ D.TOi3.symm e
  have hzlt : z < h₇.objs.size := Heap.lt_size hz₇
  show wpAny _ _ (Builtin.SmallTypes.ownedTupleHandOut (.ref z) (.ref h₇.objs.size) >>= _) _ _ _
  refine wpAny_bind ?_
  unfold Builtin.SmallTypes.ownedTupleHandOut
  have hz₈ : IsZip (h₇.push { cls := .type "tuple", data := .seq #[x, y, u] }) z TI TO .ellipsis := Heap.get?_push_of_some _ hz₇
  refine wpAny_bind (wpAny_setField_rec hz₈ (by simp) fun h₉ hz₉ hs₉ => ?_)
  replace hz₉ : IsZip h₉ z TI TO (rawInt h₇.objs.size) := hz₉
  refine wpAny_setField_rec hz₉ (by simp) fun ha hza hsa => ?_
  replace hza : IsZip ha z TI TO (rawInt h₇.objs.size) := hza
  have up : ∀ c o, c ≠ z → h₇.get? c = some o → ha.get? c = some o := fun c o c1 e => hsa.extBut _ _ c1 (hs₉.extBut _ _ c1 (Heap.get?_push_of_some _ e))
  have hTa : IsTrip ha h₇.objs.size x y u := hsa.extBut _ _ (Nat.ne_of_gt hzlt) (hs₉.extBut _ _ (Nat.ne_of_gt hzlt) (Heap.get?_push_size _ rfl))
  have hza2 : ha.objs.size = h₇.objs.size + 1 := by rw [hsa.1, hs₉.1, Heap.size_push]
  rw [hsz] at hza hTa hza2
  refine wpAny_pure ⟨_, rfl, ?_⟩
  show Q (.ref h₇.objs.size) _
  rw [hsz]
  exact hQ ha hza (up _ _ D.TOz hTO₇) (h1₇.at fun o e => up _ o D.i1z e) (h2₇.at fun o e => up _ o D.i2z e) (h3₇.at fun o e => up _ o D.i3z e) hTa hza2 fun c o c1 c2 c3 c4 c5 e => up c o c1 (K7 c o c1 c3 c2 c4 c5 e)
theorem zip3_end {z TI TO i1 i2 i3 l1 l2 l3 : Addr} {k1 k2 k3 : Nat} {xs ys zs : Array Value} {a b c : Value} {Q : Fin → Shared → Prop} (hh : A.handled = none) (D : Apart3 z TI TO i1 i2 i3 l1 l2 l3)
    (hz : IsZip s.heap z TI TO .none) (hTI : IsTrip s.heap TI (.ref i1) (.ref i2) (.ref i3)) (hTO : IsTrip s.heap TO a b c)
    (h1 : s.heap.IsListIter i1 l1 k1) (h2 : s.heap.IsListIter i2 l2 k2) (h3 : s.heap.IsListIter i3 l3 k3) (hl1 : s.heap.IsList l1 xs) (hl2 : s.heap.IsList l2 ys) (hl3 : s.heap.IsList l3 zs) (hend : xs[k1]? = none ∨ ys[k2]? = none ∨ zs[k3]? = none)
    (hE : ∀ h' e, (∀ c o, c ≠ z → c ≠ TO → c ≠ i1 → c ≠ i2 → c ≠ i3 → s.heap.get? c = some o → h'.get? c = some o) → (∃ o, h'.get? e = some o ∧ o.cls = .type "StopIteration") → E (.ref e) { s with heap := h' }) :
    wpAny (model prog w) A (Builtin.«zip.__next__» ⟨[.ref z], []⟩) Q E s := by
  show wpAny _ _ (field (.ref z) 2 >>= _) _ _ _
  refine wpAny_bind (wpAny_field hz rfl (x := .bool false) rfl ?_)
  show wpAny _ _ (field (.ref z) 3 >>= _) _ _ _
  refine wpAny_bind (wpAny_field hz rfl (x := .ref TI) rfl ?_)
  refine wpAny_bind (wpAny_seqItems hTI rfl ?_)
  show wpAny _ _ (Builtin.SmallTypes.ownedTupleIsFree (.ref z) >>= _) _ _ _
  refine wpAny_bind ?_
  unfold Builtin.SmallTypes.ownedTupleIsFree
  refine wpAny_bind (wpAny_field hz rfl (x := .none) rfl (wpAny_pure ?_))
  simp only [if_true]
  refine wpAny_bind (wpAny_rule ?_)
  refine wpAny_bind (wpAny_field hz rfl (x := .ref TO) rfl ?_)
  refine wpAny_bind (wpAny_setField_rec hz (by simp) fun h₁ hz₁ hs₁ => ?_)
  replace hz₁ : IsZip h₁ z TI TO .ellipsis := hz₁
  refine wpAny_bind ?_
  simp only [List.zipIdx_cons, List.zipIdx_nil, List.forIn_cons, List.forIn_nil]
  have K1 : ∀ c o, c ≠ z → s.heap.get? c = some o → h₁.get? c = some o := fun c o n e => hs₁.extBut _ _ n e
  refine wpAny_bind (wpAny_bind (wpAny_onRaise ?_))
  show wpAny _ _ (Builtin.SmallTypes.nextOf (.ref i1) >>= _) _ _ _
  cases hx : xs[k1]? with
  | none =>
    refine wpAny_bind (wpAny_nextOf_list_end hh (h1.at fun o e => K1 _ o D.i1z e) (hl1.at fun o e => K1 _ o D.l1z e) hx fun h₂ e hs₂ he => ?_)
    obtain ⟨oe, hoe, hce⟩ := he
    have hz₂ : IsZip h₂ z TI TO .ellipsis := hs₂ _ _ D.i1z.symm hz₁
    have hez : e ≠ z := fun x => by subst x; rw [hz₂] at hoe; cases hoe; simp at hce
    refine wpAny_setField_rec hz₂ (by simp) fun h₃ _ hs₃ => hE h₃ e (fun c o c1 _ c3 _ _ x => hs₃.extBut _ _ c1 (hs₂ _ _ c3 (K1 _ _ c1 x))) ⟨oe, hs₃.extBut _ _ hez hoe, hce⟩
  | some x =>
    refine wpAny_bind (wpAny_nextOf_list_item (h1.at fun o e => K1 _ o D.i1z e) (hl1.at fun o e => K1 _ o D.l1z e) hx fun h₂ h1₂ hs₂ => wpAny_pure ?_)
    have K2 : ∀ c o, c ≠ z → c ≠ i1 → s.heap.get? c = some o → h₂.get? c = some o := fun c o n n2 e => hs₂.extBut _ _ n2 (K1 c o n e)
    have hTO₂ : IsTrip h₂ TO a b c := K2 _ _ D.TOz D.TOi1 hTO
    refine wpAny_bind (wpAny_seqItems hTO₂ rfl ?_)
    refine wpAny_bind (upd_trip hTO₂ fun h₃ hTO₃ hs₃ => ?_)
    replace hTO₃ : IsTrip h₃ TO x b c := hTO₃
    refine wpAny_bind (wpAny_letGo (wpAny_pure ?_))
    have K3 : ∀ c o, c ≠ z → c ≠ i1 → c ≠ TO → s.heap.get? c = some o → h₃.get? c = some o := fun c o n n2 n3 e => hs₃.extBut _ _ n3 (K2 c o n n2 e)
    have hz₃ : IsZip h₃ z TI TO .ellipsis := hs₃.extBut _ _ D.TOz.symm (hs₂.extBut _ _ D.i1z.symm hz₁)
    refine wpAny_bind (wpAny_bind (wpAny_onRaise ?_))
    show wpAny _ _ (Builtin.SmallTypes.nextOf (.ref i2) >>= _) _ _ _
    cases hy : ys[k2]? with
    | none =>
      refine wpAny_bind (wpAny_nextOf_list_end hh (h2.at fun o e => K3 _ o D.i2z D.i12.symm D.TOi2.symm e) (hl2.at fun o e => K3 _ o D.l2z D.l2i1 D.l2TO e) hy fun h₄ e hs₄ he => ?_)
      obtain ⟨oe, hoe, hce⟩ := he
      have hz₄ : IsZip h₄ z TI TO .ellipsis := hs₄ _ _ D.i2z.symm hz₃
      have hez : e ≠ z := fun x => by subst x; rw [hz₄] at hoe; cases hoe; simp at hce
      refine wpAny_setField_rec hz₄ (by simp) fun h₅ _ hs₅ => hE h₅ e (fun c o c1 c2 c3 c4 _ x => hs₅.extBut _ _ c1 (hs₄ _ _ c4 (K3 _ _ c1 c3 c2 x))) ⟨oe, hs₅.extBut _ _ hez hoe, hce⟩
    | some y =>
      refine wpAny_bind (wpAny_nextOf_list_item (h2.at fun o e => K3 _ o D.i2z D.i12.symm D.TOi2.symm e) (hl2.at fun o e => K3 _ o D.l2z D.l2i1 D.l2TO e) hy fun h₄ h2₄ hs₄ => wpAny_pure ?_)
      have K4 : ∀ c o, c ≠ z → c ≠ i1 → c ≠ TO → c ≠ i2 → s.heap.get? c = some o → h₄.get? c = some o := fun c o n n2 n3 n4 e => hs₄.extBut _ _ n4 (K3 c o n n2 n3 e)
      have hTO₄ : IsTrip h₄ TO x b c := hs₄.extBut _ _ D.TOi2 hTO₃
      refine wpAny_bind (wpAny_seqItems hTO₄ rfl ?_)
      refine wpAny_bind (upd_trip hTO₄ fun h₅ hTO₅ hs₅ => ?_)
      replace hTO₅ : IsTrip h₅ TO x y c := hTO₅
      refine wpAny_bind (wpAny_letGo (wpAny_pure ?_))
      have K5 : ∀ c o, c ≠ z → c ≠ i1 → c ≠ TO → c ≠ i2 → s.heap.get? c = some o → h₅.get? c = some o := fun c o n n2 n3 n4 e => hs₅.extBut _ _ n3 (K4 c o n n2 n3 n4 e)
      have hz₅ : IsZip h₅ z TI TO .ellipsis := hs₅.extBut _ _ D.TOz.symm (hs₄.extBut _ _ D.i2z.symm hz₃)
      have hu : zs[k3]? = none := by rcases hend with h | h | h; rw [hx] at h; cases h; rw [hy] at h; cases h; exact h
      refine wpAny_bind (wpAny_bind (wpAny_onRaise ?_))
      show wpAny _ _ (Builtin.SmallTypes.nextOf (.ref i3) >>= _) _ _ _
      refine wpAny_bind (wpAny_nextOf_list_end hh (h3.at fun o e => K5 _ o D.i3z D.i13.symm D.TOi3.symm D.i23.symm e) (hl3.at fun o e => K5 _ o D.l3z D.l3i1 D.l3TO D.l3i2 e) hu fun h₆ e hs₆ he => ?_)
      obtain ⟨oe, hoe, hce⟩ := he
      have hz₆ : IsZip h₆ z TI TO .ellipsis := hs₆ _ _ D.i3z.symm hz₅
      have hez : e ≠ z := fun x => by subst x; rw [hz₆] at hoe; cases hoe; simp at hce
      refine wpAny_setField_rec hz₆ (by simp) fun h₇ _ hs₇ => hE h₇ e (fun c o c1 c2 c3 c4 c5 x => hs₇.extBut _ _ c1 (hs₆ _ _ c5 (K5 _ _ c1 c3 c2 c4 x))) ⟨oe, hs₇.extBut _ _ hez hoe, hce⟩
theorem next_zip3_item {z TI TO i1 i2 i3 l1 l2 l3 : Addr} {k1 k2 k3 : Nat} {xs ys zs : Array Value} {x y u a b c : Value} {Q : Option Value → Shared → Prop} (D : Apart3 z TI TO i1 i2 i3 l1 l2 l3)
    (hz : IsZip s.heap z TI TO .none) (hTI : IsTrip s.heap TI (.ref i1) (.ref i2) (.ref i3)) (hTO : IsTrip s.heap TO a b c)
    (h1 : s.heap.IsListIter i1 l1 k1) (h2 : s.heap.IsListIter i2 l2 k2) (h3 : s.heap.IsListIter i3 l3 k3) (hl1 : s.heap.IsList l1 xs) (hl2 : s.heap.IsList l2 ys) (hl3 : s.heap.IsList l3 zs) (hx : xs[k1]? = some x) (hy : ys[k2]? = some y) (hu : zs[k3]? = some u)
    (hQ : ∀ h', IsZip h' z TI TO (rawInt s.heap.objs.size) → IsTrip h' TO x y u → h'.IsListIter i1 l1 (k1 + 1) → h'.IsListIter i2 l2 (k2 + 1) → h'.IsListIter i3 l3 (k3 + 1) → IsTrip h' s.heap.objs.size x y u → h'.objs.size = s.heap.objs.size + 1 →
      (∀ c o, c ≠ z → c ≠ TO → c ≠ i1 → c ≠ i2 → c ≠ i3 → s.heap.get? c = some o → h'.get? c = some o) → Q (some (.ref s.heap.objs.size)) { s with heap := h' }) :
    wpAny (model prog w) A (pyNext (.ref z)) Q E s := by
  have hT : s.TypeIs (.ref z) "zip" := ⟨_, hz, rfl⟩
  unfold pyNext
  exact wpAny_bind (wpAny_attempt (wpAny_callSpecial?_slot (name := Str.ofString "__next__") hT F.slot_zip_next
    (wpAny_call_entry F.slot_zip_next hT F.entry_zip_next
      (zip3_item D hz hTI hTO h1 h2 h3 hl1 hl2 hl3 hx hy hu fun h' a1 a2 a3 a4 a5 a6 a7 a8 => wpAny_pure (hQ h' a1 a2 a3 a4 a5 a6 a7 a8)) (F.args_zip_next_1 _))))
theorem next_zip3_end {z TI TO i1 i2 i3 l1 l2 l3 : Addr} {k1 k2 k3 : Nat} {xs ys zs : Array Value} {a b c : Value} {Q : Option Value → Shared → Prop} (hh : A.handled = none) (D : Apart3 z TI TO i1 i2 i3 l1 l2 l3)
    (hz : IsZip s.heap z TI TO .none) (hTI : IsTrip s.heap TI (.ref i1) (.ref i2) (.ref i3)) (hTO : IsTrip s.heap TO a b c)
    (h1 : s.heap.IsListIter i1 l1 k1) (h2 : s.heap.IsListIter i2 l2 k2) (h3 : s.heap.IsListIter i3 l3 k3) (hl1 : s.heap.IsList l1 xs) (hl2 : s.heap.IsList l2 ys) (hl3 : s.heap.IsList l3 zs) (hend : xs[k1]? = none ∨ ys[k2]? = none ∨ zs[k3]? = none)
    (hQ : ∀ h', (∀ c o, c ≠ z → c ≠ TO → c ≠ i1 → c ≠ i2 → c ≠ i3 → s.heap.get? c = some o → h'.get? c = some o) → Q none { s with heap := h' }) : wpAny (model prog w) A (pyNext (.ref z)) Q E s := by
  have hT : s.TypeIs (.ref z) "zip" := ⟨_, hz, rfl⟩
  unfold pyNext
  refine wpAny_bind (wpAny_attempt (wpAny_callSpecial?_slot (name := Str.ofString "__next__") hT F.slot_zip_next
    (wpAny_call_entry F.slot_zip_next hT F.entry_zip_next (zip3_end hh D hz hTI hTO h1 h2 h3 hl1 hl2 hl3 hend fun h' e hk he => ?_) (F.args_zip_next_1 _))))
  obtain ⟨o, ho, hc⟩ := he
  refine wpAny_bind (wpAny_isInstance (T := "StopIteration") (b := true) ⟨o, ho, hc⟩ isSubtype_stop ?_)
  exact wpAny_pure (hQ _ hk)
end
abbrev z3H1 (h : Heap) (l1 : Addr) : Heap := h.push { cls := .type "list_iterator", data := .fields #[.ref l1, .int 0 0] }
abbrev z3H2 (h : Heap) (l1 l2 : Addr) : Heap := (z3H1 h l1).push { cls := .type "list_iterator", data := .fields #[.ref l2, .int 0 0] }
abbrev z3H3 (h : Heap) (l1 l2 l3 : Addr) : Heap := (z3H2 h l1 l2).push { cls := .type "list_iterator", data := .fields #[.ref l3, .int 0 0] }
abbrev z3H4 (h : Heap) (l1 l2 l3 : Addr) : Heap := (z3H3 h l1 l2 l3).push { cls := .type "tuple", data := .seq #[.ref h.objs.size, .ref (z3H1 h l1).objs.size, .ref (z3H2 h l1 l2).objs.size] }
abbrev z3H5 (h : Heap) (l1 l2 l3 : Addr) : Heap := (z3H4 h l1 l2 l3).push { cls := .type "tuple", data := .seq #[.none, .none, .none] }
abbrev z3H6 (h : Heap) (l1 l2 l3 : Addr) : Heap := (z3H5 h l1 l2 l3).push { cls := .type "zip", data := .fields #[.none, .bool false, .bool false, .ref (z3H3 h l1 l2 l3).objs.size, .ref (z3H4 h l1 l2 l3).objs.size] }
theorem meets_zip3 (l1 l2 l3 : Addr) (xs ys zs : Array Value) :
    Meets (Builtin.«zip.__new__» ⟨[.type "zip", .ref l1, .ref l2, .ref l3], []⟩) (fun _ R s => s.heap.IsList l1 xs ∧ s.heap.IsList l2 ys ∧ s.heap.IsList l3 zs ∧
      R (.ok (.ret (.ref (z3H5 s.heap l1 l2 l3).objs.size))) { s with heap := z3H6 s.heap l1 l2 l3 }) :=
  .of_wp fun prog w A R s h => by
    obtain ⟨hp, g, d, tk, os⟩ := s; obtain ⟨hl1, hl2, hl3, h⟩ := h
    have hsub := sub_zip
    have hL1 : Heap.IsList (Shared.heap ⟨hp, g, d, tk, os⟩) l1 xs := hl1
    have hL2 : Heap.IsList (Shared.heap ⟨hp.push { cls := .type "list_iterator", data := .fields #[.ref l1, .int 0 0] }, g, d, tk, os⟩) l2 ys := Heap.IsList.push hl2 _
    have hL3 : Heap.IsList (Shared.heap ⟨(hp.push { cls := .type "list_iterator", data := .fields #[.ref l1, .int 0 0] }).push { cls := .type "list_iterator", data := .fields #[.ref l2, .int 0 0] }, g, d, tk, os⟩) l3 zs := Heap.IsList.push (Heap.IsList.push hl3 _) _
    wp_walk using wpAny_pyIter_list hL1, wpAny_pyIter_list hL2, wpAny_pyIter_list hL3
    exact ⟨_, rfl, h⟩
section
variable {prog : Program} {w : World} {A : Around} {E : Value → Shared → Prop} {s : Shared}
theorem call_zip_3 {l1 l2 l3 : Addr} {xs ys zs : Array Value} {Q : Value → Shared → Prop} (hl1 : s.heap.IsList l1 xs) (hl2 : s.heap.IsList l2 ys) (hl3 : s.heap.IsList l3 zs)
    (h : ∀ h', IsZip h' (s.heap.objs.size + 5) (s.heap.objs.size + 3) (s.heap.objs.size + 4) .none → IsTrip h' (s.heap.objs.size + 3) (.ref s.heap.objs.size) (.ref (s.heap.objs.size + 1)) (.ref (s.heap.objs.size + 2)) →
      IsTrip h' (s.heap.objs.size + 4) .none .none .none → h'.IsListIter s.heap.objs.size l1 0 → h'.IsListIter (s.heap.objs.size + 1) l2 0 → h'.IsListIter (s.heap.objs.size + 2) l3 0 →
      (∀ c o, s.heap.get? c = some o → h'.get? c = some o) → Q (.ref (s.heap.objs.size + 5)) { s with heap := h' }) :
    wpAny (model prog w) A (call (.type "zip") [.ref l1, .ref l2, .ref l3]) Q E s := by
  refine callType_new F.called_zip (by decide) (zt_call _ _ _) (zt_new _ _ _) (fun obj => zt_init obj _ _ _) F.entry_zip_new
    (meets_zip3 l1 l2 l3 xs ys zs) ⟨hl1, hl2, hl3, ?_⟩
  have z1 : (z3H1 s.heap l1).objs.size = s.heap.objs.size + 1 := Heap.size_push ..
  have z2 : (z3H2 s.heap l1 l2).objs.size = s.heap.objs.size + 2 := by rw [Heap.size_push, z1]
  have z3 : (z3H3 s.heap l1 l2 l3).objs.size = s.heap.objs.size + 3 := by rw [Heap.size_push, z2]
  have z4 : (z3H4 s.heap l1 l2 l3).objs.size = s.heap.objs.size + 4 := by rw [Heap.size_push, z3]
  have z5 : (z3H5 s.heap l1 l2 l3).objs.size = s.heap.objs.size + 5 := by rw [Heap.size_push, z4]
  have g6 : (z3H6 s.heap l1 l2 l3).get? (z3H5 s.heap l1 l2 l3).objs.size = some _ := Heap.get?_push_size _ rfl
  have g5 : (z3H6 s.heap l1 l2 l3).get? (z3H4 s.heap l1 l2 l3).objs.size = some _ := Heap.get?_push_of_some _ (Heap.get?_push_size _ rfl)
  have g4 : (z3H6 s.heap l1 l2 l3).get? (z3H3 s.heap l1 l2 l3).objs.size = some _ := Heap.get?_push_of_some _ (Heap.get?_push_of_some _ (Heap.get?_push_size _ rfl))
  have g3 : (z3H6 s.heap l1 l2 l3).get? (z3H2 s.heap l1 l2).objs.size = some _ := Heap.get?_push_of_some _ (Heap.get?_push_of_some _ (Heap.get?_push_of_some _ (Heap.get?_push_size _ rfl)))
  have g2 : (z3H6 s.heap l1 l2 l3).get? (z3H1 s.heap l1).objs.size = some _ := Heap.get?_push_of_some _ (Heap.get?_push_of_some _ (Heap.get?_push_of_some _ (Heap.get?_push_of_some _ (Heap.get?_push_size _ rfl))))
  have g1 : (z3H6 s.heap l1 l2 l3).get? s.heap.objs.size = some _ := Heap.get?_push_of_some _ (Heap.get?_push_of_some _ (Heap.get?_push_of_some _ (Heap.get?_push_of_some _ (Heap.get?_push_of_some _ (Heap.get?_push_size _ rfl)))))
  show _ ∧ _
  rw [z3, z4, z5] at g6
  rw [z1, z2, z3] at g4
  rw [z4] at g5
  rw [z2] at g3
  rw [z1] at g2
  rw [z5]
  exact ⟨⟨_, g6, rfl⟩, h _ g6 g4 g5 ⟨_, g1, rfl, rfl⟩ ⟨_, g2, rfl, rfl⟩ ⟨_, g3, rfl, rfl⟩ fun c o x =>
    Heap.get?_push_of_some _ (Heap.get?_push_of_some _ (Heap.get?_push_of_some _ (Heap.get?_push_of_some _ (Heap.get?_push_of_some _ (Heap.get?_push_of_some _ x)))))⟩
end
/-- the lists at a, b and c as they stand at each turn, the items in new tuples -/
def Itz3 (K : PySem.W.Frag) (a b c : Addr) : It :=
  ⟨fun i H => ∃ (xs ys zs : List V) (x y u : V), SqL K H a xs ∧ SqL K H b ys ∧ SqL K H c zs ∧ xs[i]? = some x ∧ ys[i]? = some y ∧ zs[i]? = some u,
    fun i H v H' => ∃ T x y u, v = .ref T ∧ H T = none ∧ H' = upd H T (.tup [x, y, u]) ∧ (∀ xs, SqL K H a xs → xs[i]? = some x) ∧ (∀ ys, SqL K H b ys → ys[i]? = some y) ∧ ∀ zs, SqL K H c zs → zs[i]? = some u,
    fun i H => ∃ xs ys zs : List V, SqL K H a xs ∧ SqL K H b ys ∧ SqL K H c zs ∧ (xs.length ≤ i ∨ ys.length ≤ i ∨ zs.length ≤ i)⟩
theorem turn_zip3 {P : Program} {w : World} {K : PySem.W.Frag} {elts : List Expr} {kk : Nat} {tpos : Pos} {a b c z TI TO i1 i2 i3 : Addr} (D : Apart3 z TI TO i1 i2 i3 a b c) :
    Turn P w K (.Tuple elts kk tpos) (Itz3 K a b c) [z, TI, TO, i1, i2, i3] z (fun i h => IsZip h z TI TO .none ∧ IsTrip h TI (.ref i1) (.ref i2) (.ref i3) ∧ (∃ x y u, IsTrip h TO x y u) ∧ h.IsListIter i1 a i ∧ h.IsListIter i2 b i ∧ h.IsListIter i3 c i) where
  mem := by simp
  obj := fun i h st c hc => by
    obtain ⟨hz, hTI, ⟨x, y, u, hTO⟩, ⟨o1, e1, _, d1⟩, ⟨o2, e2, _, d2⟩, ⟨o3, e3, _, d3⟩⟩ := st
    have e' : c = z ∨ c = TI ∨ c = TO ∨ c = i1 ∨ c = i2 ∨ c = i3 := by simpa using hc
    rcases e' with q | q | q | q | q | q
    · rw [q]; exact ⟨_, hz, fun v q => nomatch q⟩
    · rw [q]; exact ⟨_, hTI, fun v q => nomatch q⟩
    · rw [q]; exact ⟨_, hTO, fun v q => nomatch q⟩
    · rw [q]; exact ⟨o1, e1, fun v q => by rw [d1] at q; cases q⟩
    · rw [q]; exact ⟨o2, e2, fun v q => by rw [d2] at q; cases q⟩
    · rw [q]; exact ⟨o3, e3, fun v q => by rw [d3] at q; cases q⟩
  keep := fun i h h' st k => by
    obtain ⟨hz, hTI, ⟨x, y, u, hTO⟩, h1, h2, h3⟩ := st
    exact ⟨k z (by simp) _ hz, k TI (by simp) _ hTI, ⟨x, y, u, k TO (by simp) _ hTO⟩, h1.at fun o q => k i1 (by simp) o q, h2.at fun o q => k i2 (by simp) o q, h3.at fun o q => k i3 (by simp) o q⟩
  item := by
    intro X hP hw hK hc i pins s σ H E I hf st hg
    subst hP hw hK
    obtain ⟨hz, hTI, ⟨x0, y0, u0, hTO⟩, h1, h2, h3⟩ := st
    obtain ⟨xs, ys, zs, x, y, t, hqx, hqy, hqt, hx, hy, ht⟩ := hg
    obtain ⟨its, rv, p, _⟩ := I.list hqx
    obtain ⟨its2, rv2, p2, _⟩ := I.list hqy
    obtain ⟨its3, rv3, p3, _⟩ := I.list hqt
    obtain ⟨u, hu, ru⟩ := rv.get hx
    obtain ⟨u2, hu2, ru2⟩ := rv2.get hy
    obtain ⟨u3, hu3, ru3⟩ := rv3.get ht
    have hzl : z < s.heap.objs.size := Heap.lt_size hz
    refine next_zip3_item D hz hTI hTO h1 h2 h3 p.isList p2.isList p3.isList (x := u) (y := u2) (u := u3) (by simpa using hu) (by simpa using hu2) (by simpa using hu3) fun h' z' TO' h1' h2' h3' hT hsz hk => ?_
    refine ⟨_, rfl, wpAny_letOwnedTupleGo_zip (s := { s with heap := h' }) z' fun h'' z'' sb => ?_⟩
    have hT2 : h''.get? s.heap.objs.size = some { cls := .type "tuple", data := .seq #[u, u2, u3] } := (sb.2 _ (Nat.ne_of_gt hzl)).trans hT
    have new : ObjOk X.prog X.w (upd H s.heap.objs.size (.tup [x, y, t])) h'' s.heap.objs.size (.tup [x, y, t]) :=
      ⟨by show 3 ≤ sizeLine; decide, [u, u2, u3], .cons ru (.cons ru2 (.cons ru3 .nil)), ⟨_, hT2, rfl, _, rfl⟩⟩
    have I1 : Inv X pins σ (upd H s.heap.objs.size (.tup [x, y, t])) { s with heap := h'' } :=
      I.turnedNew (t' := s.toks) (ch := [z, TI, TO, i1, i2, i3]) (fun c o hb q => (sb.2 c (fun q' => hb (by simp [q']))).trans (hk c o (fun q' => hb (by simp [q'])) (fun q' => hb (by simp [q'])) (fun q' => hb (by simp [q'])) (fun q' => hb (by simp [q'])) (fun q' => hb (by simp [q'])) q)) hf (Nat.le_refl _) new
    refine ⟨.ref s.heap.objs.size, _, I1, rfl, ⟨_, x, y, t, rfl, I.hok.fresh (Nat.le_refl _), rfl, fun l hl => by rw [I.list_inj hl hqx]; exact hx, fun l hl => by rw [I.list_inj hl hqy]; exact hy, fun l hl => by rw [I.list_inj hl hqt]; exact ht⟩, ⟨z'', ?_, ⟨u, u2, u3, ?_⟩, ?_, ?_, ?_⟩, fun c hcm => ?_⟩
    · exact (sb.2 _ D.TIz).trans (hk _ _ D.TIz D.TITO D.TIi1 D.TIi2 D.TIi3 hTI)
    · exact (sb.2 _ D.TOz).trans TO'
    · exact h1'.at fun o q => (sb.2 _ D.i1z).trans q
    · exact h2'.at fun o q => (sb.2 _ D.i2z).trans q
    · exact h3'.at fun o q => (sb.2 _ D.i3z).trans q
    · have hlt : c < s.heap.objs.size := by
        have e' : c = z ∨ c = TI ∨ c = TO ∨ c = i1 ∨ c = i2 ∨ c = i3 := by simpa using hcm
        rcases e' with q | q | q | q | q | q
        · rw [q]; exact hzl
        · rw [q]; exact Heap.lt_size hTI
        · rw [q]; exact Heap.lt_size hTO
        · rw [q]; obtain ⟨_, e1, _⟩ := h1; exact Heap.lt_size e1
        · rw [q]; obtain ⟨_, e2, _⟩ := h2; exact Heap.lt_size e2
        · rw [q]; obtain ⟨_, e3, _⟩ := h3; exact Heap.lt_size e3
      rw [upd_ne (Nat.ne_of_lt hlt)]
      exact (hf c hcm).1
  done := by
    intro X hP hw hK hc i pins s σ H E I hf st hg
    subst hP hw hK
    obtain ⟨hz, hTI, ⟨x0, y0, u0, hTO⟩, h1, h2, h3⟩ := st
    obtain ⟨xs, ys, zs, hqx, hqy, hqt, hend⟩ := hg
    obtain ⟨its, rv, p, _⟩ := I.list hqx
    obtain ⟨its2, rv2, p2, _⟩ := I.list hqy
    obtain ⟨its3, rv3, p3, _⟩ := I.list hqt
    have l1 := rv.length
    have l2 := rv2.length
    have l3 := rv3.length
    have he : its.toArray[i]? = none ∨ its2.toArray[i]? = none ∨ its3.toArray[i]? = none := by
      rcases hend with q | q | q
      · exact .inl (by simp; omega)
      · exact .inr (.inl (by simp; omega))
      · exact .inr (.inr (by simp; omega))
    exact next_zip3_end (I.ok.hd hc) D hz hTI hTO h1 h2 h3 p.isList p2.isList p3.isList he fun h' hk => ⟨rfl, I.turnedL (t' := s.toks) (ch := [z, TI, TO, i1, i2, i3]) (fun c o hb q =>
      hk c o (fun q' => hb (by simp [q'])) (fun q' => hb (by simp [q'])) (fun q' => hb (by simp [q'])) (fun q' => hb (by simp [q'])) (fun q' => hb (by simp [q'])) q) hf⟩
  self := fun A i s Q E st h => wpAny_pyIter_zip st.1 h
def iZip3A (K : PySem.W.Frag) (ta : TA) : TI := fun σ H R => ta σ H fun vs H1 => ∃ a b c xs ys zs, vs = [.ref a, .ref b, .ref c] ∧ SqL K H1 a xs ∧ SqL K H1 b ys ∧ SqL K H1 c zs ∧ R (Itz3 K a b c) H1
theorem pi_zip3 {X : Cx} {e e2 e3 : Expr} {ta : TA} {p pos tpos : Pos} {elts : List Expr} {kk : Nat} (hg : Gl X "zip") (hm : X.mg "zip" = none) (ha : PA X [e, e2, e3] ta)
    (hs : starEach [e, e2, e3] X.env = (false, eval e X.env) :: starEach [e2, e3] X.env := by rfl) (hpl : (backTo pos (starEach [e2, e3] X.env)).any (·.1) = false := by rfl) :
    PI X (.Tuple elts kk tpos) (.Call (.Name "zip" p) [e, e2, e3] [] pos) (iZip3A X.K ta) := by
  refine ⟨fun pins s σ H R I h => ?_⟩
  refine Call_ (ld_blt I hg hm PyProof.Rows.boot_zip (PyProof.Rows.callWith_type1 (thn (ha.run pos pins s σ H _ I h) fun us s1 ⟨vs, H1, I1, r1, q1⟩ => ?_) hs hpl))
  obtain ⟨a, b, c, xs, ys, zs, ex, hqx, hqy, hqt, q⟩ := q1
  subst ex
  cases r1 with
  | cons r rr =>
    cases rr with
    | cons r' rr =>
      cases rr with
      | cons r'' rr =>
        cases rr
        cases r
        cases r'
        cases r''
        obtain ⟨its, rv, p1, _⟩ := I1.list hqx
        obtain ⟨its2, rv2, p2, _⟩ := I1.list hqy
        obtain ⟨its3, rv3, p3, _⟩ := I1.list hqt
        have la : a < s1.heap.objs.size := p1.lt
        have lb : b < s1.heap.objs.size := p2.lt
        have lc : c < s1.heap.objs.size := p3.lt
        refine call_zip_3 p1.isList p2.isList p3.isList fun h' hz hTI hTO h1 h2 h3 hk => wpAny_pyIter_zip hz ?_
        have I2 : Inv X pins σ H1 { s1 with heap := h' } := I1.kept (t' := s1.toks) hk
        refine ⟨s1.heap.objs.size + 5, [s1.heap.objs.size + 5, s1.heap.objs.size + 3, s1.heap.objs.size + 4, s1.heap.objs.size, s1.heap.objs.size + 1, s1.heap.objs.size + 2], _, _, H1, rfl, I2, turn_zip3 (apart3_of s1.heap.objs.size a b c la lb lc), ⟨hz, hTI, ⟨_, _, _, hTO⟩, h1, h2, h3⟩, fun d hcm => ?_, q⟩
        have e' : d = s1.heap.objs.size + 5 ∨ d = s1.heap.objs.size + 3 ∨ d = s1.heap.objs.size + 4 ∨ d = s1.heap.objs.size ∨ d = s1.heap.objs.size + 1 ∨ d = s1.heap.objs.size + 2 := by simpa using hcm
        have hle : s1.heap.objs.size ≤ d := by
          rcases e' with z | z | z | z | z | z <;> (rw [z]; omega)
        exact I1.fpOk hle (I1.hok.fresh hle)
theorem it_zip3 {K : PySem.W.Frag} {B : Hp} {a b c : Addr} {xs ys zs : List V} {ds es fs : List D} {f1 f2 f3 : List Addr} (ha : SqL K B a xs) (hb : SqL K B b ys) (hc : SqL K B c zs) (r1 : RepA K B xs ds f1) (r2 : RepA K B ys es f2) (r3 : RepA K B zs fs f3) : ItOk K B (Itz3 K a b c) (List.zipWith (fun a (p : D × D) => D.tup [a, p.1, p.2]) ds (List.zip es fs)) where
  go := fun i H s l => by
    rw [List.length_zipWith, List.length_zip] at l
    have l1 : i < xs.length := by rw [r1.length]; omega
    have l2 : i < ys.length := by rw [r2.length]; omega
    have l3 : i < zs.length := by rw [r3.length]; omega
    exact ⟨xs, ys, zs, xs[i], ys[i], zs[i], s.seq ha, s.seq hb, s.seq hc, List.getElem?_eq_getElem l1, List.getElem?_eq_getElem l2, List.getElem?_eq_getElem l3⟩
  stop := fun i H s l => by
    rw [List.length_zipWith, List.length_zip] at l
    exact ⟨xs, ys, zs, s.seq ha, s.seq hb, s.seq hc, by rw [r1.length, r2.length, r3.length]; omega⟩
  yld := fun i H x H' s l y => by
    obtain ⟨T, u, w, t, rfl, nT, rfl, e1, e2, e3⟩ := y
    rw [List.length_zipWith, List.length_zip] at l
    have l1 : i < ds.length := by omega
    have l2 : i < es.length := by omega
    have l3 : i < fs.length := by omega
    obtain ⟨v1, g1, a1, b1, m1⟩ := r1.get (List.getElem?_eq_getElem l1)
    obtain ⟨v2, g2, a2, b2, m2⟩ := r2.get (List.getElem?_eq_getElem l2)
    obtain ⟨v3, g3, a3, b3, m3⟩ := r3.get (List.getElem?_eq_getElem l3)
    have q1 := e1 xs (s.seq ha)
    have q2 := e2 ys (s.seq hb)
    have q3 := e3 zs (s.seq hc)
    rw [a1] at q1; cases q1
    rw [a2] at q2; cases q2
    rw [a3] at q3; cases q3
    refine ⟨.tup [ds[i], es[i], fs[i]], g1 ++ (g2 ++ g3), ?_, same_upd nT, Rep.mk_tup upd_same (RepA.cons ((b1.mono s).mono (same_upd nT)) (RepA.cons ((b2.mono s).mono (same_upd nT)) ((b3.mono s).mono (same_upd nT)))), fun c hc z => ?_⟩
    · rw [List.getElem?_zipWith, List.getElem?_eq_getElem l1, List.getElem?_zip_eq_some (z := (es[i], fs[i])).mpr ⟨List.getElem?_eq_getElem l2, List.getElem?_eq_getElem l3⟩]
    · rcases List.mem_append.mp hc with q | q
      · have := r1.there c (m1 c q); rw [z] at this; cases this
      · rcases List.mem_append.mp q with q | q
        · have := r2.there c (m2 c q); rw [z] at this; cases this
        · have := r3.there c (m3 c q); rw [z] at this; cases this
@[simp] def iZip3 (fa fb fc : DX) : DIt := fun ρ => (fa ρ).bind fun x => (fb ρ).bind fun y => (fc ρ).bind fun z => match x.1, y.1, z.1 with
  | .lst xs, .lst ys, .lst zs => .ok (List.zipWith (fun a (p : D × D) => .tup [a, p.1, p.2]) xs (List.zip ys zs), ownOr (x.2 && (y.2 && z.2)) ρ)
  | _, _, _ => .no
section
variable {X : Cx} {Ex : XK} {a b c : Expr} {fa fb fc : DX} {p pos tpos : Pos} {elts : List Expr} {kk : Nat}
theorem px_zip3 (hg : Gl X "zip") (hm : X.mg "zip" = none) (ha : PX X Ex a fa) (hb : PX X Ex b fb) (hc : PX X Ex c fc)
    (hs : starEach [a, b, c] X.env = (false, eval a X.env) :: starEach [b, c] X.env := by rfl) (hs2 : starEach [b, c] X.env = (false, eval b X.env) :: starEach [c] X.env := by rfl) (hs3 : starEach [c] X.env = (false, eval c X.env) :: starEach [] X.env := by rfl) (hpl : (backTo pos (starEach [b, c] X.env)).any (·.1) = false := by rfl) :
    PIX X Ex (.Tuple elts kk tpos) (.Call (.Name "zip" p) [a, b, c] [] pos) (iZip3 fa fb fc) :=
  PI.imp (pi_zip3 hg hm (pa_cons ha (pa_cons hb (pa_cons hc pa_nil hs3) hs2) hs) hs hpl) fun σ H Rr ⟨B, g, ρ, ok, h⟩ => tX_step ok h fun d o v H1 fp e s r fr h1 => tX_step (ok.mono s) h1 fun d2 o2 v2 H2 fp2 e2 s2 r2 fr2 h2 => tX_step ((ok.mono s).mono s2) h2 fun d3 o3 v3 H3 fp3 e3 s3 r3 fr3 h3 => by
    obtain ⟨xs, ys, zs, rfl, rfl, rfl⟩ : ∃ xs ys zs, d = .lst xs ∧ d2 = .lst ys ∧ d3 = .lst zs := by
      clear r fr r2 fr2 r3 fr3 e h e2 e3 s s2 s3 h1 h2
      revert h3
      dsimp only
      split
      · rename_i xs ys zs
        exact fun _ => ⟨xs, ys, zs, rfl, rfl, rfl⟩
      · exact fun h => h.elim
    have h4 : Post (ExB X.mg Ex B) (QI X.K B H σ Rr) (.ok (List.zipWith (fun a (p : D × D) => .tup [a, p.1, p.2]) xs (List.zip ys zs), ownOr (o && (o2 && o3)) ρ)) := h3
    have ok2 := (ok.mono s).mono s2
    have ok3 := ok2.mono s3
    have r' := (r.mono s2).mono s3
    have r2' := r2.mono s3
    cases q : o && (o2 && o3) with
    | true =>
      rw [q] at h4
      simp only [Bool.and_eq_true] at q
      have ow1 := Fresh.own ok (((fr q.1).mono (Same.refl _) s2).mono (Same.refl _) s3)
      have ow2 := Fresh.own (ok.mono s) ((fr2 q.2.1).mono (Same.refl _) s3)
      have ow3 := Fresh.own ok2 (fr3 q.2.2)
      obtain ⟨p1, us, g1, rfl, e1, h1', ra⟩ := (RepA.adv ok3 r' fun a ha i d' z => ow1.ap a ha i d' z).lst_inv
      obtain ⟨p2, ws, g2, rfl, e2', h2', rb⟩ := (RepA.adv ok3 r2' fun a ha i d' z => ow2.ap a ha i d' z).lst_inv
      obtain ⟨p3, ts, g3, rfl, e3', h3', rc⟩ := (RepA.adv ok3 r3 fun a ha i d' z => ow3.ap a ha i d' z).lst_inv
      exact ⟨p1, p2, p3, us, ws, ts, rfl, SqL.of (adv_same _ _ h1'), SqL.of (adv_same _ _ h2'), SqL.of (adv_same _ _ h3'), h4 _ _ g H3 ((s.trans s2).trans s3) ok3.adv.2 ok3.adv.1 (it_zip3 (SqL.of h1') (SqL.of h2') (SqL.of h3') ra rb rc)⟩
    | false =>
      rw [q] at h4
      obtain ⟨p1, us, g1, rfl, e1, h1', ra⟩ := r'.lst_inv
      obtain ⟨p2, ws, g2, rfl, e2', h2', rb⟩ := r2'.lst_inv
      obtain ⟨p3, ts, g3, rfl, e3', h3', rc⟩ := r3.lst_inv
      exact ⟨p1, p2, p3, us, ws, ts, rfl, SqL.of h1', SqL.of h2', SqL.of h3', h4 _ H3 g H3 ((s.trans s2).trans s3) ok3.bas ok3.look (it_zip3 (SqL.of h1') (SqL.of h2') (SqL.of h3') ra rb rc)⟩
end
theorem iv_zip3 {α β γ : Type} {ec : α → D} {ed : β → D} {ee : γ → D} {A B C : DX} {ρ ρ1 : DEnv} {o1 o2 o3 : Bool} {m : List α} {ys : List β} {zs : List γ} (hA : A ρ = .ok (.lst (m.map ec), o1)) (hB : B ρ = .ok (.lst (ys.map ed), o2)) (hC : C ρ = .ok (.lst (zs.map ee), o3)) (hρ : ownOr (o1 && (o2 && o3)) ρ = ρ1) :
    iZip3 A B C ρ = .ok ((m.zip (ys.zip zs)).map (eT3 ec ed ee), ρ1) := by
  have : List.zipWith (fun a (p : D × D) => D.tup [a, p.1, p.2]) (m.map ec) (List.zip (ys.map ed) (zs.map ee)) = (m.zip (ys.zip zs)).map (eT3 ec ed ee) := by
    clear hA hB hC
    induction m generalizing ys zs with
    | nil => rfl
    | cons x r ih =>
      cases ys with
      | nil => rfl
      | cons y s =>
        cases zs with
        | nil => rfl
        | cons z t => rw [List.map_cons, List.map_cons, List.map_cons, List.zip_cons_cons, List.zipWith_cons_cons, List.zip_cons_cons, List.zip_cons_cons, List.map_cons, ih]; rfl
  simp only [iZip3, hA, hB, hC, R.bind_ok, hρ, this]
end EQ
set_option maxHeartbeats 1000000
/-! EqU: d.get(k, x); sorted(d, reverse=True). -/
namespace EQ
open PySem PySem.Spec PyProof.Rows L2
open PySem.Sem (wp)
section
variable {X : Cx}
theorem cr_sortedDRev (hcalm : X.calm = true) : CallRK X (.builtin "sorted") [Str.ofString "reverse"] (fun xs zs H Q => ∃ (a : Addr) (kvs : List (Key × V)) (ks : List Int), xs = [.ref a] ∧ zs = [.bl true] ∧ Rd H a (.dK kvs) ∧ kvs.map (·.1) = ks.map Sum.inl ∧ ks.length < 64 ∧
    ∀ (ys : List Int) (p : Addr), ys.Perm ks → ys.Pairwise (· ≥ ·) → H p = none → Q (.ref p) (upd H p (.lst (ys.map V.int)))) := by
  intro pins s σ H xs zs us ws Q I r rz q
  obtain ⟨a, kvs, ks, ex, ez, hd, hks, h64, q⟩ := q
  subst ex
  subst ez
  obtain ⟨w1, rfl, e1⟩ := vals1 rz
  obtain rfl : w1 = Value.bool true := e1
  obtain ⟨u, eu, rx⟩ := vals1 r
  subst eu
  cases rx
  obtain ⟨z, lo, vs, rel, dd⟩ := dk_rd I.hok hd
  obtain ⟨ep, hat⟩ := dd.dictAt
  have hkeys : vs.map (·.1) = ks.map Sum.inl := rel.keys.symm.trans hks
  have hl : vs.length = ks.length := by
    have e := congrArg List.length hkeys
    rw [List.length_map, List.length_map] at e
    exact e
  have h16 : vs.length ≤ sizeLine := by rw [hl, sizeLine_eq]; omega
  show wpAny (model X.prog X.w) X.A (call (.builtin "sorted") [.ref a] [(Str.ofString "reverse", .bool true)]) _ _ _
  refine call_function_entry_kw kind_sorted plain_sorted entry_sorted (args_sorted_rev _ _) ?_
  unfold Builtin.«sorted»
  refine wpAny_bind (m := checkCount "sorted" 1 1 _) (wpAny_pure ?_)
  refine wpAny_bind (PySem.W.kdu_collect (A := X.A.in1) (PySem.W.kdl_dict (knd := mixKind X.prog X.w) (kvs := vs) (ep := ep) lo) (I.ok.hd hcalm) hat h16 fun h' tk acc hk hacc => ?_)
  have hal : acc.toList.length = ks.length := by rw [Array.length_toList, hacc.1, hl]
  have hS : IntsAre acc.toList ks := ints_each hal fun j v e => by
    obtain ⟨k, x, e1, e2⟩ := hacc.2 j v (by rw [← Array.getElem?_toList]; exact e)
    have e3 : (vs.map (·.1))[j]? = some k := by rw [List.getElem?_map, e1]; rfl
    rw [hkeys, List.getElem?_map] at e3
    cases e4 : ks[j]? with
    | none => rw [e4] at e3; cases e3
    | some y =>
      rw [e4] at e3
      have e5 : Sum.inl y = k := Option.some.inj e3
      subst e5
      rcases keyIs_shape (show keyIs (Sum.inl y) v = true from e2) with ⟨i, t, ek, ev⟩ | ⟨z, t, ek, ev⟩
      · cases ek
        exact ⟨y, t, rfl, ev⟩
      · cases ek
  have I1 : Inv X pins σ H { s with heap := h', toks := tk } := I.kept hk
  refine wpAny_bind (wpAny_newList ?_ (by rw [hal, sizeLine_eq]; omega))
  have hoL : (h'.push (seqObj "list" acc.toList.toArray 0)).get? h'.objs.size = some (seqObj "list" acc.toList.toArray 0) := Heap.get?_push_size _ rfl
  show wpAny _ _ _ _ _ { s with heap := h'.push (seqObj "list" acc.toList.toArray 0), toks := tk }
  refine wpAny_bind (wpAny_holding (wpAny_call_entry_kw slot_list_sort ⟨_, hoL, rfl⟩ entry_list_sort ?_ (args_list_sort_rev _ _)))
  refine SrtR.list_sort_ordR (s := { s with heap := h'.push (seqObj "list" acc.toList.toArray 0), toks := tk }) (b := true) SrtO.swo_int hoL (by rw [hal, sizeLine_eq]; omega) (fun h2 => SrtO.ints_sortable hS h2) fun out g1 g2 => ⟨_, rfl, ?_⟩
  obtain ⟨ys, k1, k2, k3⟩ := SrtR.ints_outR hS g1 g2
  obtain ⟨e', he'⟩ := PyProof.Rows.sortedHeap_at (vs := acc.toList) (out := if true = true then out.toArray.reverse else out.toArray) hoL
  have hlen : (ys.map V.int).length ≤ sizeLine := by
    rw [List.length_map, k2.length_eq]
    exact Nat.le_trans (Nat.le_of_lt h64) (by decide)
  refine wpAny_pure ⟨_, rfl, .ref h'.objs.size, upd H h'.objs.size (.lst (ys.map V.int)), I1.laid (t' := tk) (fun b u e => ?_) (Nat.le_refl _)
    (show ObjOk X.prog X.w _ _ _ (.lst (ys.map V.int)) from ⟨hlen, (if true = true then out.toArray.reverse else out.toArray).toList, e', vals_of_ints k1, by rw [Array.toArray_toList]; exact he'⟩), rfl, q ys _ k2 k3 (I1.hok.fresh (Nat.le_refl _))⟩
  have hb : b < h'.objs.size := Heap.lt_size e
  rw [PyProof.Rows.sortedHeap_old (Nat.ne_of_lt hb) (by rw [size_push']; exact Nat.lt_succ_of_lt hb)]
  exact Heap.get?_push_of_some _ e
end
/-- keys that are ints -/
def keyInts : List Key → Option (List Int)
  | [] => some []
  | .inl i :: r => (keyInts r).map (i :: ·)
  | _ :: _ => none
theorem keyInts_ok : ∀ {ks : List Key} {ns : List Int}, keyInts ks = some ns → ks = ns.map Sum.inl
  | [], ns, h => by cases h; rfl
  | .inl i :: r, ns, h => by
    rw [keyInts] at h
    obtain ⟨m, e, rfl⟩ := Option.map_eq_some_iff.mp h
    rw [keyInts_ok e]; rfl
  | .inr i :: r, ns, h => by cases h
theorem keyInts_map : ∀ ns : List Int, keyInts (ns.map fun i => (.inl i : Key)) = some ns
  | [] => rfl
  | i :: r => by rw [List.map_cons, keyInts, keyInts_map r]; rfl
theorem down_uniq {l m : List Int} (p : l.Perm m) (h1 : l.Pairwise (· ≥ ·)) : l = (isort m).reverse := by
  have a : l.reverse = isort m := sorted_uniq ((List.reverse_perm l).trans (p.trans (isort_perm m).symm)) (List.pairwise_reverse.mpr h1) (isort_sorted m)
  rw [← a, List.reverse_reverse]
@[simp] def eSortRev (fa : DX) : DX := fun ρ => (fa ρ).bind fun x => match x.1 with
  | .dct ks _ => match keyInts ks with
    | some ns => .ite (decide (ns.length < 64)) (.ok (.lst ((isort ns).reverse.map .int), true))
    | none => .no
  | _ => .no
@[simp] def eGet2 (fa fb fc : DX) : DX := fun ρ => (fa ρ).bind fun x => match x.1 with
  | .dct ks vs => (fb ρ).bind fun y => (fc ρ).bind fun z => match toKey y.1 with
    | some k => .ite (imm ((dGet ks vs k).getD z.1)) (.ok ((dGet ks vs k).getD z.1, true))
    | none => .no
  | _ => .no
section
variable {X : Cx} {Ex : XK} {a b c : Expr} {fa fb fc : DX} {p p2 p3 pos apos cpos : Pos} {jj : Nat}
theorem px_sortRev (hcalm : X.calm = true) (hg : Gl X "sorted") (hm : X.mg "sorted" = none) (hv : bootBuiltins "sorted" = some (.builtin "sorted")) (ha : PX X Ex a fa)
    (he : backTo pos (starEach [a] X.env) = (false, eval a X.env) :: backTo pos (starEach [] X.env) := by rfl) (he1 : starEach [a] X.env = (false, eval a X.env) :: starEach [] X.env := by rfl) (hpl : (backTo pos (starEach [a] X.env)).any (·.1) = false := by rfl)
    (hall : (backToKw pos (keywordEach [⟨some "reverse", .Constant (.bool true) jj p2, p⟩] X.env)).all (·.1.isSome) = true := by rfl) (hnone : (backToKw pos (keywordEach [⟨some "reverse", .Constant (.bool true) jj p2, p⟩] X.env)).any (·.1.isNone) = false := by rfl) (hks : (backToKw pos (keywordEach [⟨some "reverse", .Constant (.bool true) jj p2, p⟩] X.env)).filterMap (·.1) = [Str.ofString "reverse"] := by rfl) :
    PX X Ex (.Call (.Name "sorted" p3) [a] [⟨some "reverse", .Constant (.bool true) jj p2, p⟩] pos) (eSortRev fa) :=
  PE.imp (pe_callBK (cr_sortedDRev hcalm) hg hm hv (pa_cons ha pa_nil he1) (pk_cons pe_bl pk_nil) (by decide) (by decide) he hpl hall hnone hks) fun σ H Q ⟨B, g, ρ, ok, h⟩ => tX_step ok h fun d o v H1 fp _ s r _ h1 => by
    cases d with
    | dct ks vs =>
      have h2 : Post (ExB X.mg Ex B) (QX X.K H Q) (match keyInts ks with
        | some ns => .ite (decide (ns.length < 64)) (.ok (.lst ((isort ns).reverse.map .int), true))
        | none => .no) := h1
      cases ek : keyInts ks with
      | none => rw [ek] at h2; exact h2.elim
      | some ns =>
        rw [ek] at h2
        obtain ⟨c, h2⟩ := Post.ite h2
        obtain ⟨p, kvs, g1, rfl, rfl, hp, hk, ra⟩ := r.dct_inv
        refine ⟨p, kvs, ns, rfl, rfl, hp, by rw [hk, keyInts_ok ek], of_decide_eq_true c, fun ys q hy1 hy2 nq => ?_⟩
        rw [down_uniq hy1 hy2]
        exact h2 _ _ [q] (s.trans (same_upd nq)) (Rep.mk_lst upd_same (RepA.ints _)) fun _ => ⟨by simp, fun a ha => by
          obtain rfl : a = q := by simpa using ha
          exact ⟨s.free nq, .inl ⟨_, upd_same⟩⟩⟩
    | _ => exact h1.elim
theorem px_get2 (hu : X.A.units + 1 < cLine) (ha : PX X Ex a fa) (hb : PX X Ex b fb) (hc : PX X Ex c fc) (m : M2 X a "get" apos b c cpos) : PX X Ex (.Call (.Attribute a "get" apos) [b, c] [] cpos) (eGet2 fa fb fc) :=
  PE.imp (pe_dget2 hu ha hb hc m) fun σ H Q ⟨B, g, ρ, ok, h⟩ => tX_step ok h fun d o v H1 f1 _ s1 r1 _ h1 => by
    cases d with
    | dct ks vs =>
      obtain ⟨p, kvs, g1, rfl, rfl, hp, rfl, ra⟩ := r1.dct_inv
      refine ⟨p, rfl, .inl ⟨kvs, hp⟩, tX_step (ok.mono s1) h1 fun e o2 w H2 f2 _ s2 r2 _ h2 => tX_step ((ok.mono s1).mono s2) h2 fun f o3 t H3 f3 _ s3 r3 _ h3 => ?_⟩
      have h4 : Post (ExB X.mg Ex B) (QX X.K H Q) (match toKey e with
        | some k => .ite (imm ((dGet (kvs.map (·.1)) vs k).getD f)) (.ok ((dGet (kvs.map (·.1)) vs k).getD f, true))
        | none => .no) := h3
      cases ek : toKey e with
      | none => rw [ek] at h4; exact h4.elim
      | some k =>
        rw [ek] at h4
        obtain ⟨c, h4⟩ := Post.ite h4
        have hp3 := Rd.mono s3 (Rd.mono s2 hp)
        have ra3 := (ra.mono s2).mono s3
        have sa := (s1.trans s2).trans s3
        refine ⟨valV kvs k, .inl ⟨kvs, k, hp3, kV_toKey r2 ek, rfl⟩, ?_⟩
        cases eg : dGet (kvs.map (·.1)) vs k with
        | none =>
          rw [eg] at h4 c
          rw [(dGet_rep ra3).2 eg]
          exact h4 _ _ f3 sa r3 fun _ => by rw [Rep.imm r3 c]; exact Fresh.nil
        | some x =>
          rw [eg] at h4 c
          obtain ⟨u, f4, e1, r4, _⟩ := (dGet_rep ra3).1 x eg
          rw [e1]
          exact h4 _ _ f4 sa r4 fun _ => by rw [Rep.imm r4 c]; exact Fresh.nil
    | _ => exact h1.elim
end
section
variable {β : Type} {ed : β → D} {A B C : DX} {ρ : DEnv} {o o2 o3 : Bool}
theorem ev_sortRev {l : List (Int × β)} (hl : l.length < 64) (hA : A ρ = .ok (eDI ed l, o)) : eSortRev A ρ = .ok (.lst ((isort (l.map (·.1))).reverse.map D.int), true) := by
  have e : keyInts (l.map fun p => (.inl p.1 : Key)) = some (l.map (·.1)) := by
    have := keyInts_map (l.map (·.1))
    rwa [List.map_map] at this
  simp only [eDI] at hA
  simp only [eSortRev, hA, R.bind_ok, e, List.length_map, decide_eq_true hl, R.ite_t]
theorem ev_get2 {l : List (Int × β)} {k : Int} {x : β} (hi : ∀ y, imm (ed y) = true) (hA : A ρ = .ok (eDI ed l, o)) (hB : B ρ = .ok (.int k, o2)) (hC : C ρ = .ok (ed x, o3)) : eGet2 A B C ρ = .ok (ed ((aget l k).getD x), true) := by
  simp only [eDI] at hA
  have e : ((aget l k).map ed).getD (ed x) = ed ((aget l k).getD x) := by cases aget l k <;> rfl
  simp only [eGet2, hA, hB, hC, R.bind_ok, toKey, dGet_aget, e, hi, R.ite_t]
end
end EQ
/-! EqV: {k: v}; for k in d. -/
namespace EQ
open PySem PySem.Spec PyProof.Rows L2
@[simp] def eDct1 (fk fv : DX) : DX := fun ρ => (fk ρ).bind fun x => (fv ρ).bind fun y => match toKey x.1 with
  | some k => .ite (imm y.1) (.ok (.dct [k] [y.1], true))
  | none => .no
section
variable {X : Cx} {Ex : XK} {k v : Expr} {fk fv : DX} {pos : Pos}
theorem px_dct1 (hk : PX X Ex k fk) (hv : PX X Ex v fv) : PX X Ex (.Dict [some k] [v] pos) (eDct1 fk fv) :=
  PE.imp (pe_disp (pps_cons hk hv pps_nil) rfl rfl (by simp) (by simp)) fun σ H Q ⟨B, g, ρ, ok, h⟩ => fun p np => by
    have s0 : Same H (upd H p (.dK [])) := same_upd np
    refine tX_step (ok.mono s0) (P := QX X.K H Q) h fun d o w H1 f1 _ s1 r1 _ h1 => tX_step ((ok.mono s0).mono s1) (P := QX X.K H Q) h1 fun e o2 u H2 f2 _ s2 r2 _ h2 => ?_
    have h3 : Post (ExB X.mg Ex B) (QX X.K H Q) (match toKey d with
      | some k => .ite (imm e) (.ok (.dct [k] [e], true))
      | none => .no) := h2
    have hp2 : H2 p = some (.dK []) := s2 _ _ (s1 _ _ upd_same)
    refine ⟨hp2, ?_⟩
    cases ek : toKey d with
    | none => rw [ek] at h3; exact h3.elim
    | some key =>
      rw [ek] at h3
      obtain ⟨c, h3⟩ := Post.ite h3
      obtain rfl := Rep.imm r2 c
      refine ⟨[(key, u)], by rw [kV_toKey r1 ek]; rfl, by simp, ?_⟩
      have em : mergeK [] [(key, u)] = [(key, u)] := rfl
      rw [em]
      have sH : Same H (upd H2 p (.dK [(key, u)])) := fun b x e => by
        have : b ≠ p := ne_of_none e np
        rw [upd_ne this]; exact s2 _ _ (s1 _ _ (s0 _ _ e))
      have ru : Rep X.K (upd H2 p (.dK [(key, u)])) u e [] := RepA.upd r2 (by simp) (.inr (.inr ⟨_, hp2⟩))
      exact h3 _ _ [p] sH (Rep.mk_dct (kvs := [(key, u)]) (.inl upd_same) rfl ru) fun _ => ⟨by simp, fun a ha => by
        obtain rfl : a = p := by simpa using ha
        exact ⟨np, .inr ⟨_, upd_same⟩⟩⟩
end
section
variable {β : Type} {ed : β → D} {A B : DX} {ρ : DEnv} {o o2 : Bool}
theorem ev_dct1 {k : Int} {x : β} (hi : imm (ed x) = true) (hA : A ρ = .ok (.int k, o)) (hB : B ρ = .ok (ed x, o2)) : eDct1 A B ρ = .ok (eDI ed [(k, x)], true) := by
  simp only [eDct1, hA, hB, R.bind_ok, toKey, hi, R.ite_t]; rfl
end
/-! ### a dict is locked while it is walked -/
section
variable {K : PySem.W.Frag} {H : Hp} {vs : List V} {ds : List D} {f : List Addr} {a : Addr} {kvs : List (Key × V)} {od : Obj}
theorem repA_lock (h : RepA K H vs ds f) (ha : H a = some (.dK kvs)) : RepA K (upd H a (.frz od (.dK kvs))) vs ds f := by
  have key : ∀ {b u}, H b = some u → (∀ k, u ≠ .dK k) → upd H a (.frz od (.dK kvs)) b = some u := fun {b u} e n => by
    by_cases c : b = a
    · subst c; rw [ha] at e; cases e; exact absurd rfl (n _)
    · rw [upd_ne c]; exact e
  induction h with
  | nil => exact .nil
  | non _ ih => exact .non ih
  | bl _ ih => exact .bl ih
  | int _ ih => exact .int ih
  | str _ ih => exact .str ih
  | scr s _ ih =>
    refine .scr ?_ ih
    rcases s with ⟨o, s⟩ | s
    · exact .inl ⟨o, key s fun _ z => by cases z⟩
    · exact .inr s
  | tup r _ _ ih1 ih2 => exact .tup (key r fun _ z => by cases z) ih1 ih2
  | lst r _ _ ih1 ih2 => exact .lst (key r fun _ z => by cases z) ih1 ih2
  | @dct b kv _ _ _ _ _ _ r e _ _ ih1 ih2 =>
    refine .dct ?_ e ih1 ih2
    by_cases c : b = a
    · subst c
      rcases r with r | ⟨o, r⟩
      · rw [ha] at r; cases r; exact .inr ⟨od, upd_same⟩
      · rw [ha] at r; cases r
    · rcases r with r | ⟨o, r⟩
      · exact .inl (by rw [upd_ne c]; exact r)
      · exact .inr ⟨o, by rw [upd_ne c]; exact r⟩
theorem repA_unlock (h : RepA K H vs ds f) (ha : H a = some (.frz od (.dK kvs))) : RepA K (upd H a (.dK kvs)) vs ds f := by
  have key : ∀ {b u}, H b = some u → (∀ o k, u ≠ .frz o (.dK k)) → upd H a (.dK kvs) b = some u := fun {b u} e n => by
    by_cases c : b = a
    · subst c; rw [ha] at e; cases e; exact absurd rfl (n _ _)
    · rw [upd_ne c]; exact e
  induction h with
  | nil => exact .nil
  | non _ ih => exact .non ih
  | bl _ ih => exact .bl ih
  | int _ ih => exact .int ih
  | str _ ih => exact .str ih
  | scr s _ ih =>
    refine .scr ?_ ih
    rcases s with ⟨o, s⟩ | s
    · exact .inl ⟨o, key s fun _ _ z => by cases z⟩
    · exact .inr s
  | tup r _ _ ih1 ih2 => exact .tup (key r fun _ _ z => by cases z) ih1 ih2
  | lst r _ _ ih1 ih2 => exact .lst (key r fun _ _ z => by cases z) ih1 ih2
  | @dct b kv _ _ _ _ _ _ r e _ _ ih1 ih2 =>
    refine .dct ?_ e ih1 ih2
    by_cases c : b = a
    · subst c
      rcases r with r | ⟨o, r⟩
      · rw [ha] at r; cases r
      · rw [ha] at r; cases r; exact .inl upd_same
    · rcases r with r | ⟨o, r⟩
      · exact .inl (by rw [upd_ne c]; exact r)
      · exact .inr ⟨o, by rw [upd_ne c]; exact r⟩
end
theorem mutA_off {H : Hp} {a b : Addr} {u : HO} (h : MutA H b) (n : b ≠ a) : MutA (upd H a u) b := by
  unfold MutA; rw [upd_ne n]; exact h
theorem okG_lock {K : PySem.W.Frag} {B H : Hp} {σ : L2.St} {ρ : DEnv} {g : Nat → List Addr} {a : Addr} {kvs : List (Key × V)} (od : Obj) (ok : OkG K B H σ ρ g) (hb : B a = some (.dK kvs)) : OkG K (upd B a (.frz od (.dK kvs))) (upd H a (.frz od (.dK kvs))) σ ρ g := by
  have ha : H a = some (.dK kvs) := ok.bas _ _ hb
  have nb : ∀ {b}, B b = none → b ≠ a := fun {b} z c => by subst c; rw [hb] at z; cases z
  refine ⟨ok.len, fun b x e => ?_, fun i d o e => ?_, fun i d e b hbm z => ?_, fun i d e => ⟨(ok.own i d e).1, fun b hbm => ?_⟩, ok.dis⟩
  · by_cases c : b = a
    · subst c; rw [upd_same] at e ⊢; exact e
    · rw [upd_ne c] at e ⊢; exact ok.bas _ _ e
  · obtain ⟨v, e1, r⟩ := ok.rep i d o e
    exact ⟨v, e1, repA_lock r ha⟩
  · by_cases c : b = a
    · subst c; rw [upd_same] at z; cases z
    · rw [upd_ne c] at z; exact ok.frz i d e b hbm z
  · obtain ⟨z, m⟩ := (ok.own i d e).2 b hbm
    exact ⟨by rw [upd_ne (nb z)]; exact z, mutA_off m (nb z)⟩
theorem okG_unlock {K : PySem.W.Frag} {B H : Hp} {σ : L2.St} {ρ : DEnv} {g : Nat → List Addr} {a : Addr} {kvs : List (Key × V)} {od : Obj} (ok : OkG K B H σ ρ g) (hb : B a = some (.frz od (.dK kvs))) : OkG K (upd B a (.dK kvs)) (upd H a (.dK kvs)) σ ρ g := by
  have ha : H a = some (.frz od (.dK kvs)) := ok.bas _ _ hb
  have nb : ∀ {b}, B b = none → b ≠ a := fun {b} z c => by subst c; rw [hb] at z; cases z
  refine ⟨ok.len, fun b x e => ?_, fun i d o e => ?_, fun i d e b hbm z => ?_, fun i d e => ⟨(ok.own i d e).1, fun b hbm => ?_⟩, ok.dis⟩
  · by_cases c : b = a
    · subst c; rw [upd_same] at e ⊢; exact e
    · rw [upd_ne c] at e ⊢; exact ok.bas _ _ e
  · obtain ⟨v, e1, r⟩ := ok.rep i d o e
    exact ⟨v, e1, repA_unlock r ha⟩
  · by_cases c : b = a
    · subst c; rw [upd_same] at z; cases z
    · rw [upd_ne c] at z; exact ok.frz i d e b hbm z
  · obtain ⟨z, m⟩ := (ok.own i d e).2 b hbm
    exact ⟨by rw [upd_ne (nb z)]; exact z, mutA_off m (nb z)⟩
theorem it_keys {K : PySem.W.Frag} {B : Hp} {a : Addr} {od : Obj} {kvs : List (Key × V)} {ns : List Int} (h : B a = some (.frz od (.dK kvs))) (hk : kvs.map (·.1) = ns.map Sum.inl) : ItOk K B (Itk a od kvs) (ns.map D.int) where
  go := fun i H s l => by
    rw [List.length_map] at l
    have := congrArg List.length hk
    rw [List.length_map, List.length_map] at this
    exact ⟨s _ _ h, by omega⟩
  stop := fun i H s l => by
    rw [List.length_map] at l
    have := congrArg List.length hk
    rw [List.length_map, List.length_map] at this
    exact ⟨s _ _ h, by omega⟩
  yld := fun i H x H' s l y => by
    obtain ⟨rfl, k, v, e, rfl⟩ := y
    have e2 : (kvs.map (·.1))[i]? = some k := by rw [List.getElem?_map, e]; rfl
    rw [hk, List.getElem?_map] at e2
    obtain ⟨n, en, rfl⟩ := Option.map_eq_some_iff.mp e2
    exact ⟨.int n, [], by rw [List.getElem?_map, en]; rfl, Same.refl _, Rep.mk_int, fun a ha => by cases ha⟩
/-- for x in d, d an own def's dict with keys ints -/
@[simp] def sForK (i : Nat) (t : DTg) (f : DS) : DS := fun ρ => match ρ[i]? with
  | some (some (.dct ks _, false)) => match keyInts ks with
    | some ns => (forS t f (ns.map .int) ρ).nox
    | none => .no
  | _ => .no
section
variable {X : Cx} {Ex : XK} {tg : Expr} {t : DTg} {f : DS} {is : List Nat} {body : List Stmt} {i : Nat} {x : Str} {q pos : Pos}
theorem for_core {B H : Hp} {σ : L2.St} {ρ : DEnv} {g : Nat → List Addr} {N : Ends} {J : It} {ds : List D} (ht : TgOk t) (ok : OkG X.K B H σ ρ g) (it : ItOk X.K B J ds) (h2 : Post (ExB X.mg Ex B) (QS X.K B N) (forS t f ds ρ)) :
    ∃ W : Nat → Nat → L2.St → Hp → Prop, (∃ m, W 0 m σ H) ∧ ∀ i m σ H, W i m σ H →
      (J.stop i H ∧ N.nx σ H) ∨ (J.go i H ∧ ∃ N' : L2.St → Hp → Prop, (∀ σ' H', N' σ' H' → ∃ m', m' < m ∧ W (i + 1) m' σ' H') ∧ ∀ x H', J.yld i H x H' → gT X.K is t x σ H' fun σ2 H2 => tS X.K X.mg Ex f { N with nx := N', ct := N', bk := N.nx } σ2 H2) := by
  refine ⟨fun i m σ2 H2 => ∃ B2 g2 ρ2, m = ds.length - i ∧ i ≤ ds.length ∧ Same B B2 ∧ OkG X.K B2 H2 σ2 ρ2 g2 ∧ Post (ExB X.mg Ex B2) (QS X.K B2 N) (forS t f (ds.drop i) ρ2), ⟨_, B, g, ρ, rfl, Nat.zero_le _, Same.refl _, ok, by simpa using h2⟩, fun i m σ2 H2 ⟨B2, g2, ρ2, em, hi, s2, ok2, h3⟩ => ?_⟩
  by_cases hlt : i < ds.length
  · refine .inr ⟨it.go i H2 (s2.trans ok2.bas) hlt, fun σ3 H3 => ∃ B3 g3 ρ3, Same B B3 ∧ OkG X.K B3 H3 σ3 ρ3 g3 ∧ Post (ExB X.mg Ex B3) (QS X.K B3 N) (forS t f (ds.drop (i + 1)) ρ3), fun σ3 H3 ⟨B3, g3, ρ3, s3, ok3, h4⟩ => ⟨ds.length - (i + 1), by omega, B3, g3, ρ3, rfl, hlt, s3, ok3, h4⟩, fun x H3 y => ?_⟩
    obtain ⟨d, fp, e1, s3, r, nb⟩ := it.yld i H2 x H3 (s2.trans ok2.bas) hlt y
    have ed : ds.drop i = d :: ds.drop (i + 1) := by
      rw [List.drop_eq_getElem_cons hlt]
      rw [List.getElem?_eq_getElem hlt] at e1
      rw [Option.some.inj e1]
    rw [ed] at h3
    obtain ⟨ρ3, e3, h4⟩ := R.bind_okE h3 fun c _ => ht.ne d ρ2 c
    refine ⟨B2, g2, ρ2, d, fp, ρ3, ok2.mono s3, r, fun a ha z => nb a ha (s2.free z), e3, fun σ4 g4 ok4 _ => ⟨B2, g4, ρ3, ok4, h4.bind.imp (fun _ z => z) fun o _ h5 => ?_⟩⟩
    cases o with
    | nx ρ4 => exact fun B5 g5 σ5 H5 s5 ok5 => ⟨B5, g5, ρ4, s2.trans s5, ok5, Post.imp h5 (fun c z => z.mono s5) fun o _ z => z.mono s5⟩
    | ct ρ4 => exact fun B5 g5 σ5 H5 s5 ok5 => ⟨B5, g5, ρ4, s2.trans s5, ok5, Post.imp h5 (fun c z => z.mono s5) fun o _ z => z.mono s5⟩
    | bk ρ4 => exact h5
    | rt d => exact h5
  · refine .inl ⟨it.stop i H2 (s2.trans ok2.bas) (by show ds.length ≤ i; omega), ?_⟩
    rw [List.drop_eq_nil_of_le (by omega)] at h3
    exact h3 B2 g2 σ2 H2 (Same.refl _) ok2
theorem sx_forK (hp : PassesOwn (model X.prog X.w) X.A X.env X.xe) (hc : X.calm = true) (hN : X.N[i]? = some x) (hv : Vis X.env.scope x) (hd : (x == ("__debug__" : Str)) = false) (hcd : (x == ("__classdict__" : Str)) = false) (hg : PGX X tg is t) (ht : TgOk t) (hb : PSSX X Ex body f)
    (hs : ∀ z, foldedSetIterable (.Name x q) X.env z = pure z := by intro _; rfl) : PSX X Ex (.For tg (.Name x q) body [] pos) (sForK i t f) :=
  have base := ps_for (pos := pos) hp hc (pi_keys (pe_var (pos := q) hN hv hd hcd)) hg hb hs
  PS.imp (PS.or (ps_lock base) base) fun N σ H ⟨B, g, ρ, ok, h⟩ => by
    have h : Post (ExB X.mg Ex B) (QS X.K B N) (sForK i t f ρ) := h
    unfold sForK at h
    split at h
    · rename_i ks vs ei
      split at h
      · rename_i ns ek
        obtain ⟨o, eo, ho⟩ : ∃ o, forS t f (ns.map D.int) ρ = .ok o ∧ QS X.K B N o := by
          cases z : forS t f (ns.map D.int) ρ with
          | ok o => rw [z] at h; exact ⟨o, rfl, h⟩
          | ex c => rw [z] at h; exact h.elim
          | no => rw [z] at h; exact h.elim
        obtain ⟨v, e1, r⟩ := ok.rep _ _ _ ei
        have nb := ok.frz _ _ ei
        obtain ⟨a, kvs, f1, rfl, ef, hp', hk, ra⟩ := r.dct_inv
        have hk' : kvs.map (·.1) = ns.map Sum.inl := by rw [hk, keyInts_ok ek]
        have na : B a ≠ none := nb a (by rw [ef]; simp)
        have ba : ∃ u, B a = some u ∧ H a = some u := by
          cases z : B a with
          | none => exact absurd z na
          | some u => exact ⟨u, rfl, ok.bas _ _ z⟩
        obtain ⟨u, b1, b2⟩ := ba
        rcases hp' with hp' | ⟨od, hp'⟩
        · rw [hp'] at b2; cases b2
          refine .inl ⟨a, .dK kvs, hp', trivial, fun od => ?_⟩
          have ok1 := okG_lock od ok b1
          refine ⟨.ref a, e1, a, od, rfl, .inl ⟨kvs, upd_same, ?_⟩⟩
          have back : ∀ {B2 : Hp}, Same (upd B a (.frz od (.dK kvs))) B2 → B2 a = some (.frz od (.dK kvs)) ∧ Same B (upd B2 a (.dK kvs)) := fun {B2} s => ⟨s _ _ upd_same, fun b y e => by
            by_cases c : b = a
            · subst c; rw [b1] at e; cases e; exact upd_same
            · rw [upd_ne c]; exact s _ _ (by rw [upd_ne c]; exact e)⟩
          refine for_core ht ok1 (it_keys upd_same hk') ?_
          rw [eo]
          cases o with
          | nx ρ' => exact fun B2 g2 σ2 H2 s2 ok2 => ⟨ok2.bas _ _ (back s2).1, ho _ g2 σ2 _ (back s2).2 (okG_unlock ok2 (back s2).1)⟩
          | bk ρ' => exact fun B2 g2 σ2 H2 s2 ok2 => ⟨ok2.bas _ _ (back s2).1, ho _ g2 σ2 _ (back s2).2 (okG_unlock ok2 (back s2).1)⟩
          | ct ρ' => exact fun B2 g2 σ2 H2 s2 ok2 => ⟨ok2.bas _ _ (back s2).1, ho _ g2 σ2 _ (back s2).2 (okG_unlock ok2 (back s2).1)⟩
          | rt d => exact fun v H2 fp s2 r2 n2 m2 => ⟨(back s2).1, ho v _ fp (back s2).2 (repA_unlock r2 (back s2).1) n2 fun b hbm => by
              obtain ⟨z, m⟩ := m2 b hbm
              have c : b ≠ a := fun c => by subst c; rw [upd_same] at z; cases z
              rw [upd_ne c] at z
              exact ⟨z, mutA_off m c⟩⟩
        · rw [hp'] at b2; cases b2
          refine .inr ⟨.ref a, e1, a, od, rfl, .inl ⟨kvs, hp', ?_⟩⟩
          exact for_core ht ok (it_keys b1 hk') (by rw [eo]; exact ho)
      · exact h.elim
    · exact h.elim
end
/-- over a dict's keys -/
theorem ws_forK {β σ : Type} {ed : β → D} {l : List (Int × β)} {i : Nat} {t : DTg} {f : DS} {ρ : DEnv} {Kn : DEnv → Prop} {Kr : D → Prop} {st : σ → DEnv} {bd : Int → σ → DEnv} (I : List Int → σ → Prop) (s0 : σ) (h1 : ρ[i]? = some (some (eDI ed l, false))) (hs : ρ = st s0) (ht : ∀ a s, t (.int a) (st s) = .ok (bd a s)) (h0 : I [] s0)
    (hb : ∀ done a rest s, l.map (·.1) = done ++ a :: rest → I done s → WS f (bd a s) (fun ρ' => ∃ s', ρ' = st s' ∧ I (done ++ [a]) s') Kr) (hp : ∀ s, I (l.map (·.1)) s → Kn (st s)) : WS (sForK i t f) ρ Kn Kr := by
  have w : WS (sFor (fun ρ => .ok ((l.map (·.1)).map D.int, ρ)) t f) ρ Kn Kr := ws_for (ec := D.int) I s0 (by rw [hs]) ht h0 hb hp
  have ek : keyInts (l.map fun p => (.inl p.1 : Key)) = some (l.map (·.1)) := by
    have := keyInts_map (l.map (·.1))
    rwa [List.map_map] at this
  have e : sForK i t f ρ = (sFor (fun ρ => .ok ((l.map (·.1)).map D.int, ρ)) t f ρ).nox := by
    simp only [eDI] at h1
    simp only [sForK, h1, ek]; rfl
  rcases w.cases with ⟨ρ', e2, k⟩ | ⟨d, e2, k⟩
  · exact .nx (by rw [e, e2]; rfl) k
  · exact .rt (by rw [e, e2]; rfl) k
end EQ
/-! EqW: [x for x in .. if ..] of what isn't own. -/
namespace EQ
open PySem PySem.Spec PyProof.Rows L2
def filtS (t : DTg) (ft : DT) (i : Nat) : List D → DEnv → R (List D)
  | [], _ => .ok []
  | d :: ds, ρ => (t d ρ).nox.bind fun ρ1 => (ft ρ1).nox.bind fun b => match b with
    | false => filtS t ft i ds ρ
    | true => match ρ1[i]? with
      | some (some (e, o)) => .ite (imm e || !o) ((filtS t ft i ds ρ).bind fun r => .ok (e :: r))
      | _ => .no
@[simp] def eFilt (vs : List Nat) (fi : DIt) (t : DTg) (ft : DT) (i : Nat) : DX := fun ρ => (fi ρ).bind fun p => .ite (decide (p.1.length ≤ sizeLine)) ((filtS t ft i p.1 (wipeE vs (lookE ρ))).bind fun r => .ok (.lst r, false))
theorem filtS_ex {t : DTg} {ft : DT} {i : Nat} : ∀ {ds : List D} {ρ : DEnv} {c : Str}, filtS t ft i ds ρ ≠ .ex c
  | [], ρ, c, q => by cases q
  | d :: ds, ρ, c, q => by
    rw [filtS] at q
    cases e : (t d ρ).nox with
    | ex c => cases ht : t d ρ <;> rw [ht] at e <;> cases e
    | no => rw [e] at q; cases q
    | ok ρ1 =>
      rw [e, R.bind_ok] at q
      cases e2 : (ft ρ1).nox with
      | ex c => cases ht : ft ρ1 <;> rw [ht] at e2 <;> cases e2
      | no => rw [e2] at q; cases q
      | ok b =>
        rw [e2, R.bind_ok] at q
        cases b with
        | false => exact filtS_ex q
        | true =>
          simp only at q
          split at q
          · have q' := R.ite_ex q
            cases e4 : filtS t ft i ds ρ with
            | ok r => rw [e4] at q'; cases q'
            | ex c' => exact filtS_ex e4
            | no => rw [e4] at q'; cases q'
          · cases q
section
variable {X : Cx} {Ex : XK} {a b c e elt tg iter : Expr} {es ifs : List Expr} {fa fb fe : DX} {fs : DXs} {pos p : Pos} {x : Str} {fi : DIt} {t : DTg} {ft : DT} {is vs : List Nat}
theorem pv_var (i : Nat) {x : Str} (hN : X.N[i]? = some x := by rfl) (hv : Vis X.env.scope x := by first | exact Or.inl rfl | exact Or.inr (Or.inl rfl) | exact Or.inr (Or.inr rfl)) (hd : (x == ("__debug__" : Str)) = false := by decide)
    (hcd : (x == ("__classdict__" : Str)) = false := by decide) : PE X (.Name x pos) (tVar i) := pe_var hN hv hd hcd
theorem filt_imp {k : Nat} (ht : TgOk t) (hsub : ∀ i ∈ is, i ∈ vs) : ∀ σ H Q, tX X.K X.mg Ex (eFilt vs fi t ft k) σ H Q → tLc (tI X.K X.mg Ex fi) (gT X.K is t) (tT X.K X.mg E0 ft) (tVar k) vs σ H Q := fun σ H Q ⟨B, g, ρ, ok, h⟩ =>
  ⟨B, g, ρ, ok, h.bind.imp (fun _ z => z) fun q _ h1 J B' g' H1 s1 sB ok1 it Dn nD => by
    obtain ⟨ds, ρ'⟩ := q
    obtain ⟨c, h1⟩ := h1.ite
    have hsz : ds.length ≤ sizeLine := of_decide_eq_true c
    have okw := ((ok.mono s1).look).wipe vs
    have it' := it.mono ok1.bas
    cases et : filtS t ft k ds (wipeE vs (lookE ρ)) with
    | ex c => exact absurd et filtS_ex
    | no => rw [et] at h1; exact h1.elim
    | ok total =>
      rw [et] at h1
      refine ⟨fun i m H2 => ∃ acc accD fpa r, m = ds.length - i ∧ i ≤ ds.length ∧ Same H1 H2 ∧ H2 Dn = some (.lst acc) ∧ RepA X.K H2 acc accD fpa ∧ (∀ a ∈ fpa, H1 a ≠ none) ∧ accD.length ≤ i ∧
        filtS t ft k (ds.drop i) (wipeE vs (lookE ρ)) = .ok r ∧ accD ++ r = total, ⟨_, [], [], [], total, rfl, Nat.zero_le _, same_upd nD, upd_same, .nil, fun a ha => (by cases ha), Nat.zero_le _, by simpa using et, rfl⟩, fun i m H2 ⟨acc, accD, fpa, r, em, hi, s2, eD, ra, fr, hl, er, etot⟩ => ?_⟩
      by_cases hlt : i < ds.length
      · refine .inr ⟨it'.go i H2 s2 hlt, fun H3 => ∃ acc accD fpa r, Same H1 H3 ∧ H3 Dn = some (.lst acc) ∧ RepA X.K H3 acc accD fpa ∧ (∀ a ∈ fpa, H1 a ≠ none) ∧ accD.length ≤ i + 1 ∧
          filtS t ft k (ds.drop (i + 1)) (wipeE vs (lookE ρ)) = .ok r ∧ accD ++ r = total, fun H3 ⟨acc, accD, fpa, r, k1, k2, k3, k5, k6, k7, k8⟩ => ⟨ds.length - (i + 1), by omega, acc, accD, fpa, r, rfl, hlt, k1, k2, k3, k5, k6, k7, k8⟩, fun y H3 hy => ?_⟩
        obtain ⟨d, fp, e1, s3, rd, nb⟩ := it'.yld i H2 y H3 s2 hlt hy
        have ed : ds.drop i = d :: ds.drop (i + 1) := by
          rw [List.drop_eq_getElem_cons hlt]
          rw [List.getElem?_eq_getElem hlt] at e1
          rw [Option.some.inj e1]
        rw [ed, filtS] at er
        cases e3 : (t d (wipeE vs (lookE ρ))).nox with
        | ex c => rw [e3] at er; cases er
        | no => rw [e3] at er; cases er
        | ok ρ1 =>
          rw [e3, R.bind_ok] at er
          refine ⟨H1, g, _, d, fp, ρ1, okw.mono (s2.trans s3), rd, nb, R.nox_eq e3, fun σ2 g2 ok2 fr2 => ⟨?_, ?_⟩⟩
          · rw [wipe_eq (σ := L2.wipe σ vs) (fun j hj => fr2 j fun z => hj (hsub j z)) ?_]
            · have : ∀ (vs ws : List Nat) (τ : L2.St), (∀ v ∈ vs, v ∈ ws) → L2.wipe (L2.wipe τ ws) vs = L2.wipe τ ws := fun vs ws τ hv => by
                induction vs with
                | nil => rfl
                | cons v vs ih =>
                  show (L2.wipe (L2.wipe τ ws) vs).set v none = _
                  rw [ih fun v hv' => hv v (by simp [hv'])]
                  have hm : v ∈ ws := hv v (by simp)
                  clear ih hv
                  refine List.ext_getElem? fun j => ?_
                  by_cases q : v = j
                  · subst q
                    by_cases l : v < (L2.wipe τ ws).length
                    · rw [List.getElem?_set_self l]
                      cases z : (L2.wipe τ ws)[v]? with
                      | none => rw [List.getElem?_eq_none_iff] at z; omega
                      | some u =>
                        cases u with
                        | none => rfl
                        | some u => exact absurd hm (L2.wipe_some z).2
                    · rw [List.getElem?_eq_none (by rw [List.length_set]; omega), List.getElem?_eq_none (by omega)]
                  · rw [List.getElem?_set_ne q]
              exact this vs vs σ fun _ z => z
            · rw [ok2.len, okw.len]
              exact ht.len _ _ _ (R.nox_eq e3)
          · cases e4 : (ft ρ1).nox with
            | ex c => rw [e4] at er; cases er
            | no => rw [e4] at er; cases er
            | ok b =>
              rw [e4, R.bind_ok] at er
              refine ⟨H1, g2, ρ1, ok2, ?_⟩
              rw [R.nox_eq e4]
              intro H4 s4
              have s24 := s3.trans s4
              cases b with
              | false =>
                rw [if_neg (by decide)]
                exact ⟨acc, accD, fpa, r, s2.trans s24, s24 _ _ eD, ra.mono s24, fr, by omega, er, etot⟩
              | true =>
                rw [if_pos rfl]
                simp only at er
                split at er
                · rename_i z o e5
                  obtain ⟨oz, er⟩ := R.ite_ok er
                  cases e6 : filtS t ft k (ds.drop (i + 1)) (wipeE vs (lookE ρ)) with
                  | ex c => rw [e6] at er; cases er
                  | no => rw [e6] at er; cases er
                  | ok r' =>
                    rw [e6] at er
                    cases er
                    obtain ⟨v, ev, r5⟩ := ok2.rep k z o e5
                    have r5 := r5.mono s4
                    have f5 : ∀ a ∈ g2 k, H1 a ≠ none := by
                      rw [Bool.or_eq_true] at oz
                      rcases oz with oz | oz
                      · rw [Rep.imm r5 oz]; intro a ha; cases ha
                      · have : o = false := by cases o <;> first | rfl | cases oz
                        subst this
                        exact ok2.frz k z e5
                    have nD5 : Dn ∉ g2 k := fun m => f5 Dn m nD
                    have nDa : Dn ∉ fpa := fun m => fr Dn m nD
                    have mD : H4 Dn = none ∨ (∃ xs, H4 Dn = some (.lst xs)) ∨ ∃ kvs, H4 Dn = some (.dK kvs) := .inr (.inl ⟨_, s24 _ _ eD⟩)
                    refine ⟨v, ev, acc, s24 _ _ eD, ?_, acc ++ [v], accD ++ [z], fpa ++ g2 k, r', fun a o ha => ?_, upd_same, ((ra.mono s24).upd nDa mD).append (r5.upd nD5 mD), fun a ha => ?_, by rw [List.length_append]; simp; omega, rfl, by rw [← etot]; simp⟩
                    · rw [ra.length]; omega
                    · rw [upd_ne (ne_of_none ha nD)]
                      exact s24 _ _ (s2 _ _ ha)
                    · rcases List.mem_append.mp ha with ha | ha
                      · exact fr a ha
                      · exact f5 a ha
                · cases er
      · refine .inl ⟨it'.stop i H2 s2 (by show ds.length ≤ i; omega), ?_⟩
        rw [List.drop_eq_nil_of_le (by show ds.length ≤ i; omega)] at er
        cases er
        rw [List.append_nil] at etot
        subst etot
        exact h1 _ H2 (Dn :: fpa) (s1.trans s2) (Rep.mk_lst eD ra) fun z => (by cases z)⟩
theorem px_filt {k : Nat} {scope : Scope} {own : List (Str × Nat)} (hc : X.calm = true) (hN : X.N.Nodup) (hi : PIX X Ex tg iter fi) (ok : BlkOk X.N X.env.scope scope own) (ht : TgOk t) (hsub : ∀ i ∈ is, i ∈ own.map (·.2))
    (hg : ∀ (s : Shared) (H : Hp) (C : Addr) (cl : List (Str × Addr)) (fp : List Addr), PGX (X.blk s H scope (compEnvC scope cl C X.env) fp) tg is t)
    (hts : ∀ (s : Shared) (H : Hp) (C : Addr) (cl : List (Str × Addr)) (fp : List Addr), PTsX (X.blk s H scope (compEnvC scope cl C X.env) fp) E0 ifs ft)
    (he : ∀ (s : Shared) (H : Hp) (C : Addr) (cl : List (Str × Addr)) (fp : List Addr), PE (X.blk s H scope (compEnvC scope cl C X.env) fp) elt (tVar k)) (hs : ∀ x, foldedSetIterable iter X.env x = pure x := by intro _; rfl) :
    PX X Ex (.ListComp elt [⟨tg, iter, ifs, 0⟩] scope pos) (eFilt (own.map (·.2)) fi t ft k) :=
  PE.imp (pe_lc hc hN hi ok hg hts he hs) (filt_imp ht hsub)
end
end EQ
/-! EqX: things of any type. -/
namespace EQ
open PySem PySem.Spec PyProof.Rows L2
@[reducible] def eA (d : D) : D := d
theorem map_eA (l : List D) : l.map eA = l := List.map_id l
theorem eLA {α : Type} (f : α → D) (l : List α) : eL eA (l.map f) = eL f l := by show D.lst ((l.map f).map eA) = _; rw [map_eA]
/-- a variable's last look: it is forgotten -/
@[simp] def oVarK (i : Nat) : DO1 := fun ρ => match ρ[i]? with
  | some (some (d, o)) => .ite (imm d || o) (.ok (d, ρ.set i none))
  | _ => .no
section
variable {X : Cx} {Ex : XK} {pos : Pos}
theorem po_varK (i : Nat) {x : Str} (hN : X.N[i]? = some x := by rfl) (hv : Vis X.env.scope x := by first | exact Or.inl rfl | exact Or.inr (Or.inl rfl) | exact Or.inr (Or.inr rfl)) (hd : (x == ("__debug__" : Str)) = false := by decide)
    (hcd : (x == ("__classdict__" : Str)) = false := by decide) : POw X Ex (.Name x pos) (oVarK i) :=
  PE.imp (pe_var hN hv hd hcd) fun σ H Q ⟨B, g, ρ, ok, h⟩ => by
    unfold oVarK at h
    split at h
    · rename_i d o e
      obtain ⟨v, e1, r⟩ := ok.rep i d o e
      refine ⟨v, e1, ?_⟩
      obtain ⟨c, h2⟩ := Post.ite h
      have le : LeE (ρ.set i none) ρ := fun j d' z => by
        rcases get_set z with ⟨_, z, _⟩ | ⟨_, z⟩
        · cases z
        · exact z
      rw [Bool.or_eq_true] at c
      by_cases im : imm d = true
      · have r0 := r
        rw [Rep.imm r im] at r0
        exact h2 v H [] (Same.refl H) (ok.kill i) le r0 ⟨List.nodup_nil, fun a ha => (by cases ha), fun a ha => (by cases ha), fun a ha => (by cases ha), fun a ha => (by cases ha)⟩
      · have : o = true := by
          rcases c with c | c
          · exact absurd c im
          · exact c
        subst this
        refine h2 v H (g i) (Same.refl H) (ok.kill i) le r ⟨(ok.own i d e).1, fun a ha => .inr ⟨i, d, e, ha⟩, fun a ha => ((ok.own i d e).2 a ha).2, fun a ha j d' z => ?_, fun a ha => ((ok.own i d e).2 a ha).1⟩
        rcases get_set z with ⟨_, z, _⟩ | ⟨n, z⟩
        · cases z
        · exact ok.dis i j d d' e z (Ne.symm n) a ha
    · exact h.elim
end
theorem weak_look : Weak lookE := fun ok => ⟨_, ok.bas, ok.look⟩
/-- equal, as far as that is told -/
def eqA (x y : D) : Bool := match dEqB x y with
  | .ok b => b
  | _ => false
section
variable {α β γ : Type} {ec : α → D} {ed : β → D} {A B C E : DX} {T T1 T2 : DT} {F : DXs} {ρ ρ1 ρ2 : DEnv} {d d1 d2 : D} {o o1 o2 : Bool} {i : Nat} {a b c : Int} {p q : Bool} {fo : DO1} {fk : DX} {k : Int} {Kn : DEnv → Prop} {Kr : D → Prop}
theorem ev_eqA (h : dEqB d1 d2 = .ok (eqA d1 d2)) (hA : A ρ = .ok (d1, o1)) (hB : B ρ = .ok (d2, o2)) : eBin dEq A B ρ = .ok (.bl (eqA d1 d2), true) := by simp only [eBin, hA, hB, R.bind_ok, dEq, h]
theorem ev_neA (h : dEqB d1 d2 = .ok (eqA d1 d2)) (hA : A ρ = .ok (d1, o1)) (hB : B ρ = .ok (d2, o2)) : eBin dNe A B ρ = .ok (.bl (!eqA d1 d2), true) := by simp only [eBin, hA, hB, R.bind_ok, dNe, h]
theorem ev_tupOf {xs : List α} (hA : A ρ = .ok (.lst (xs.map ec), o)) : eTupOf A ρ = .ok (.tup (xs.map ec), imm (.tup (xs.map ec))) := by simp only [eTupOf, hA, R.bind_ok, dTupOf]
theorem ov_varK (h : ρ[i]? = some (some (d, true))) (hρ : ρ.set i none = ρ1) : oVarK i ρ = .ok (d, ρ1) := by simp only [oVarK, h, Bool.or_true, R.ite_t, hρ]
theorem ov_tupMv {xs : List D} (h : fo ρ = .ok (.lst xs, ρ1)) : oTupMv fo ρ = .ok (.tup xs, ρ1) := by simp only [oTupMv, h, R.bind_ok]
theorem cvLA {x : List α} (h : A ρ = .ok (eL ec x, o)) : A ρ = .ok (eL eA (x.map ec), o) := by rw [h, eLA]
theorem cvLAo {x : List α} (h : fo ρ = .ok (eL ec x, ρ1)) : fo ρ = .ok (eL eA (x.map ec), ρ1) := by rw [h, eLA]
theorem ws_setA {v : α} {ρ' : α → DEnv} (hE : E ρ = .ok (ec v, o)) (hl : decide (i < ρ.length) = true) (hρ : ∀ x, (lookE ρ).set i (some (ec x, false)) = ρ' x) (hk : ∀ x, x = v → Kn (ρ' x)) : WS (sWk lookE (sSet i E)) ρ Kn Kr := by
  have e1 : lookE ((lookE ρ).set i (some (ec v, false))) = (lookE ρ).set i (some (ec v, false)) := by
    have : lookE (lookE ρ) = lookE ρ := by unfold lookE; rw [List.map_map]; congr 1; funext x; cases x <;> rfl
    rw [show lookE ((lookE ρ).set i (some (ec v, false))) = (lookE (lookE ρ)).set i (some (ec v, false)) from by unfold lookE; rw [List.map_set]; rfl, this]
  refine ws_wk ?_
  cases o with
  | true =>
    refine WS.nx (ρ' := ρ.set i (some (ec v, true))) (by simp only [sSet, hE, R.bind_ok, hl, R.ite_t]) ?_
    have : lookE (ρ.set i (some (ec v, true))) = ρ' v := by rw [← hρ]; unfold lookE; rw [List.map_set]; rfl
    rw [this]
    exact hk v rfl
  | false =>
    refine WS.nx (ρ' := (lookE ρ).set i (some (ec v, false))) (by simp only [sSet, hE, R.bind_ok, hl, R.ite_t]) ?_
    rw [e1, hρ]
    exact hk v rfl
theorem ws_insert {xs : List α} {v : α} {ρ' : List α → DEnv} (h0 : ρ[i]? = some (some (.lst (xs.map ec), true))) (hK : fk ρ = .ok (.int k, o)) (hE : fo ρ = .ok (ec v, ρ1)) (h1 : ρ1[i]? = some (some (.lst (xs.map ec), true))) (hl : xs.length < 16777216 ∧ 0 ≤ k ∧ k < 9223372036854775808)
    (hρ : ∀ x, ρ1.set i (some (.lst (List.map ec x), true)) = ρ' x) (hk : ∀ x, x = xs.take k.toNat ++ [v] ++ xs.drop k.toNat → Kn (ρ' x)) : WS (sInsert i fk fo) ρ Kn Kr :=
  .nx (ρ' := ρ' (xs.take k.toNat ++ [v] ++ xs.drop k.toNat)) (by
    rw [← hρ, sInsert, h0]
    have : (decide ((xs.map ec).length < sizeLine) && decide (0 ≤ k) && decide (k < 2 ^ 63)) = true := by
      rw [List.length_map, sizeLine_val, decide_eq_true hl.1, decide_eq_true hl.2.1, decide_eq_true (show k < 2 ^ 63 by omega)]; rfl
    simp only [hK, R.bind_ok, hE, h1, insD, this, R.ite_t, List.map_append, List.map_take, List.map_drop, List.map_cons, List.map_nil]) (hk _ rfl)
end
/-! data that == can tell -/
def PyN (n : Nat) (d : D) : Prop := ∃ p, toPy d = some p ∧ p.canLay0 = true ∧ p.depth ≤ n
theorem PyN.le {n m : Nat} {d : D} (h : PyN n d) (l : n ≤ m) : PyN m d := let ⟨p, a, b, c⟩ := h; ⟨p, a, b, Nat.le_trans c l⟩
theorem pyN_int (n : Nat) (i : Int) : PyN n (.int i) := ⟨.int i, by rw [toPy], by simp [PyData.canLay0], by simp [PyData.depth]⟩
theorem pyN_bl (n : Nat) (b : Bool) : PyN n (.bl b) := ⟨.bool b, by rw [toPy], by simp [PyData.canLay0], by simp [PyData.depth]⟩
theorem pyN_non (n : Nat) : PyN n .non := ⟨.none, by rw [toPy], by simp [PyData.canLay0], by simp [PyData.depth]⟩
theorem pyN_str (n : Nat) {x : Str} (h : (PyData.str x).canLay0 = true) : PyN n (.str x) := ⟨.str x, by rw [toPy], h, by simp [PyData.depth]⟩
theorem pyAn_of {n : Nat} : ∀ {ds : List D}, (∀ d ∈ ds, PyN n d) → ∃ ps, toPyA ds = some ps ∧ PyData.canLayAll0 ps = true ∧ PyData.depthAll ps ≤ n
  | [], _ => ⟨[], by rw [toPyA], by simp [PyData.canLayAll0], by simp [PyData.depthAll]⟩
  | x :: l, h => by
    obtain ⟨p, e1, c1, d1⟩ := h x (by simp)
    obtain ⟨ps, e2, c2, d2⟩ := pyAn_of (ds := l) fun d hd => h d (by simp [hd])
    exact ⟨p :: ps, by rw [toPyA, e1, e2], by rw [PyData.canLayAll0, c1, c2]; rfl, by rw [PyData.depthAll]; exact Nat.max_le.mpr ⟨d1, d2⟩⟩
theorem pyN_lst {n : Nat} {ds : List D} (h : ∀ d ∈ ds, PyN n d) : PyN (n + 1) (.lst ds) := by
  obtain ⟨ps, e1, c1, d1⟩ := pyAn_of h
  exact ⟨.list ps, by rw [toPy, e1]; rfl, by rw [PyData.canLay0]; exact c1, by rw [PyData.depth]; omega⟩
theorem pyN_tup {n : Nat} {ds : List D} (h : ∀ d ∈ ds, PyN n d) : PyN (n + 1) (.tup ds) := by
  obtain ⟨ps, e1, c1, d1⟩ := pyAn_of h
  exact ⟨.tuple ps, by rw [toPy, e1]; rfl, by rw [PyData.canLay0]; exact c1, by rw [PyData.depth]; omega⟩
theorem shaped_py {p : PyData} {n : Nat} (c : p.canLay0 = true) (h : p.depth ≤ n) (hn : n ≤ 50) : SeqAt.shaped p = true := by unfold SeqAt.shaped; rw [c]; exact decide_eq_true (by omega)
theorem dEqB_self {n : Nat} {d : D} (h : PyN n d) (hn : n ≤ 50) : dEqB d d = .ok true := by
  obtain ⟨p, e1, c1, d1⟩ := h
  unfold dEqB
  rw [e1]
  simp only [shaped_py c1 d1 hn, Bool.and_self, R.ite_t]
  rw [PySem.SeqAt.eqv_refl _ c1]
theorem dEqB_nilN {n : Nat} {ds : List D} (h : ∀ d ∈ ds, PyN n d) (hn : n ≤ 49) : dEqB (.lst ds) (.lst []) = .ok ds.isEmpty := by
  obtain ⟨ps, e1, c1, d1⟩ := pyAn_of h
  unfold dEqB
  have s1 : SeqAt.shaped (.list ps) = true := shaped_py (n := n + 1) (by rw [PyData.canLay0]; exact c1) (by rw [PyData.depth]; omega) (by omega)
  have s2 : SeqAt.shaped (.list []) = true := shaped_py (n := 1) (by simp [PyData.canLay0, PyData.canLayAll0]) (by simp [PyData.depth, PyData.depthAll]) (by omega)
  have e2 : toPy (.lst ds) = some (.list ps) := by rw [toPy, e1]; rfl
  have e3 : toPy (.lst []) = some (.list []) := by rw [toPy, toPyA]; rfl
  rw [e2, e3]
  simp only [s1, s2, Bool.and_self, R.ite_t]
  cases ds with
  | nil => rw [toPyA] at e1; cases e1; simp [PyData.eqv, PyData.eqvAll]
  | cons x l =>
    obtain ⟨a, b, _, _, rfl⟩ := pyA_cons e1
    simp [PyData.eqv, PyData.eqvAll]
theorem eqA_self {n : Nat} {d : D} (h : PyN n d) (hn : n ≤ 50) : eqA d d = true := by unfold eqA; rw [dEqB_self h hn]
end EQ
/-! EqY: texts. -/
namespace EQ
open PySem PySem.Spec PyProof.Rows L2
@[simp] def dStr : List D → R D
  | [.int i] => .ite (decide (i.natAbs.log2 < 1920)) (.ok (.str (toString i)))
  | _ => .no
theorem snd_str {K : PySem.W.Frag} : SndL K (fun xs H Q => ∃ i, xs = [.int i] ∧ i.natAbs.log2 < 1920 ∧ Q (.str (toString i)) H) dStr := fun H xs ds fp z Q r q h => by
  unfold dStr at q
  split at q
  · obtain ⟨c, q⟩ := R.ite_ok q
    cases q
    obtain ⟨v, rfl, r⟩ := r.one
    obtain ⟨rfl, _⟩ := r.int_inv
    exact ⟨_, rfl, of_decide_eq_true c, h.str⟩
  · cases q
theorem ne_str : NoExL dStr := fun ds c q => by
  unfold dStr at q
  split at q
  · cases R.ite_ex q
  · cases q
@[simp] def dIntT : List D → R D
  | [.str a] => match PySem.intText? a with
    | some n => .ite (decide (a.length ≤ 640)) (.ok (.int n))
    | none => .no
  | _ => .no
theorem snd_intT {K : PySem.W.Frag} : SndL K (fun xs H Q => ∃ a n, xs = [.str a] ∧ PySem.intText? a = some n ∧ a.length ≤ 640 ∧ Q (.int n) H) dIntT := fun H xs ds fp z Q r q h => by
  unfold dIntT at q
  split at q
  · split at q
    · rename_i n e
      obtain ⟨c, q⟩ := R.ite_ok q
      cases q
      obtain ⟨v, rfl, r⟩ := r.one
      obtain ⟨rfl, _⟩ := r.str_inv
      exact ⟨_, n, rfl, e, of_decide_eq_true c, h.int⟩
    · cases q
  · cases q
theorem ne_intT : NoExL dIntT := fun ds c q => by
  unfold dIntT at q
  split at q
  · split at q
    · cases R.ite_ex q
    · cases q
  · cases q
theorem RepA.strs {K : PySem.W.Frag} {H : Hp} : ∀ ys : List Str, RepA K H (ys.map V.str) (ys.map D.str) []
  | [] => .nil
  | _ :: ys => .str (RepA.strs ys)
def strsOf : List D → Option (List Str)
  | [] => some []
  | .str x :: r => (strsOf r).map fun l => x :: l
  | _ :: _ => none
theorem strsOf_map : ∀ ys : List Str, strsOf (ys.map D.str) = some ys
  | [] => rfl
  | y :: ys => by rw [List.map_cons, strsOf, strsOf_map ys]; rfl
theorem strsOf_inv : ∀ {ds : List D} {zs : List Str}, strsOf ds = some zs → ds = zs.map D.str
  | [], zs, e => by cases e; rfl
  | d :: r, zs, e => by
    cases d with
    | str x =>
      rw [strsOf] at e
      cases h : strsOf r with
      | none => rw [h] at e; cases e
      | some l => rw [h] at e; cases e; rw [strsOf_inv h]; rfl
    | _ => cases e
theorem RepA.strs_inv {K : PySem.W.Frag} {H : Hp} : ∀ {zs : List Str} {vs : List V} {f : List Addr}, RepA K H vs (zs.map D.str) f → vs = zs.map V.str
  | [], vs, f, r => (r.nil_d).1
  | z :: zs, vs, f, r => by
    obtain ⟨v, ws, f1, f2, rfl, rfl, h1, h2⟩ := r.cons_d
    obtain ⟨rfl, _⟩ := h1.str_inv
    rw [RepA.strs_inv h2]; rfl
@[simp] def dSplit : D → D → R D
  | .str a, .str b => .ite (!(b.length == 0) && decide (a.length + 2 ≤ sizeLine)) (.ok (.lst ((Txt.split a b).map .str)))
  | _, _ => .no
@[simp] def dJoin : D → D → R D
  | .str a, .lst ds => match strsOf ds with
    | some ys => .ite (decide ((ys.map (·.length)).sum + ys.length * a.length ≤ 16777216)) (.ok (.str (Txt.join a ys)))
    | none => .no
  | _, _ => .no
@[simp] def isStrD : D → Bool
  | .str _ => true
  | _ => false
/-- a text's method of one argument -/
@[simp] def eTwo (f : D → D → R D) (fa fb : DX) : DX := fun ρ => (fa ρ).bind fun x => .ite (isStrD x.1) ((fb ρ).bind fun y => (f x.1 y.1).bind fun z => .ok (z, true))
section
variable {X : Cx} {Ex : XK} {a b c e o : Expr} {fa fb : DX} {pos p apos : Pos}
theorem two_imp {r : V → List V → Hp → VK → Prop} {f : D → D → R D} (sd : ∀ H x y d e f1 f2 z Q, Rep X.K H x d f1 → Rep X.K H y e f2 → f d e = .ok z → QN X.K H Q z → r x [y] H Q) (ne : ∀ d e c, f d e ≠ .ex c) :
    ∀ σ H Q, tX X.K X.mg Ex (eTwo f fa fb) σ H Q → tM1 r (tX X.K X.mg Ex fa) (tX X.K X.mg Ex fb) σ H Q := fun σ H Q ⟨B, g, ρ, ok, h⟩ =>
  tX_step ok h fun d o v H1 fp _ s r1 _ h1 => by
    have h1 : Post (ExB X.mg Ex B) (QX X.K H Q) (.ite (isStrD d) ((fb ρ).bind fun y => (f d y.1).bind fun z => .ok (z, true))) := h1
    obtain ⟨c, h1⟩ := Post.ite h1
    have hx : ∃ a, v = .str a := by
      cases d <;> first | (obtain ⟨rfl, _⟩ := r1.str_inv; exact ⟨_, rfl⟩) | cases c
    refine ⟨hx, tX_step (ok.mono s) h1 fun e o2 w H2 f2 eb s2 r2 _ h2 => ?_⟩
    have h2 : Post (ExB X.mg Ex B) (QX X.K H Q) ((f d e).bind fun z => .ok (z, true)) := h2
    cases q : f d e with
    | ok z =>
      rw [q] at h2
      exact sd H2 v w d e fp f2 z Q (r1.mono s2) r2 q fun u H3 f3 s3 r3 fr => h2 u H3 f3 ((s.trans s2).trans s3) r3 fun _ => fr.mono (s.trans s2) (Same.refl _)
    | ex c => exact absurd q (ne _ _ _)
    | no => rw [q] at h2; exact h2.elim
theorem dSplit_ex (d e : D) (c : Str) : dSplit d e ≠ .ex c := fun q => by
  unfold dSplit at q
  split at q
  · cases R.ite_ex q
  · cases q
theorem dJoin_ex (d e : D) (c : Str) : dJoin d e ≠ .ex c := fun q => by
  unfold dJoin at q
  split at q
  · split at q
    · cases R.ite_ex q
    · cases q
  · cases q
theorem px_split (ho : PX X Ex o fa) (he : PX X Ex e fb) (hs : starEach [e] X.env = [(false, eval e X.env)] := by rfl) (hbase : attributeBase o "split" X.env (eval o X.env) = eval o X.env := by rfl) (hline : (apos.endLine == pos.line) = true := by rfl) :
    PX X Ex (.Call (.Attribute o "split" apos) [e] [] pos) (eTwo dSplit fa fb) :=
  PE.imp (pe_split ho he hs hbase hline) (two_imp (fun H x y d e f1 f2 z Q r1 r2 q h => by
    unfold dSplit at q
    split at q
    · obtain ⟨c, q⟩ := R.ite_ok q
      cases q
      rw [Bool.and_eq_true] at c
      obtain ⟨rfl, _⟩ := r1.str_inv
      obtain ⟨rfl, _⟩ := r2.str_inv
      refine ⟨_, _, rfl, rfl, by simpa using c.1, of_decide_eq_true c.2, fun p np => ?_⟩
      exact h _ _ [p] (same_upd np) (Rep.mk_lst upd_same (RepA.strs _)) ⟨by simp, fun a ha => by
        obtain rfl : a = p := by simpa using ha
        exact ⟨np, .inl ⟨_, upd_same⟩⟩⟩
    · cases q) dSplit_ex)
theorem px_join (ho : PX X Ex o fa) (he : PX X Ex e fb) (hs : starEach [e] X.env = [(false, eval e X.env)] := by rfl) (hbase : attributeBase o "join" X.env (eval o X.env) = eval o X.env := by rfl) (hline : (apos.endLine == pos.line) = true := by rfl) :
    PX X Ex (.Call (.Attribute o "join" apos) [e] [] pos) (eTwo dJoin fa fb) :=
  PE.imp (pe_join ho he hs hbase hline) (two_imp (fun H x y d e f1 f2 z Q r1 r2 q h => by
    unfold dJoin at q
    split at q
    · split at q
      · rename_i ys hys
        obtain ⟨c, q⟩ := R.ite_ok q
        cases q
        obtain rfl := strsOf_inv hys
        obtain ⟨rfl, _⟩ := r1.str_inv
        obtain ⟨b, ws, f3, rfl, rfl, hb, ra⟩ := r2.lst_inv
        obtain rfl := ra.strs_inv
        exact ⟨_, _, _, rfl, rfl, .inl (SqL.of hb), of_decide_eq_true c, h.str⟩
      · cases q
    · cases q) dJoin_ex)
end
/-! typed -/
section
variable {A B : DX} {ρ : DEnv} {o o1 o2 : Bool} {i : Int} {a b : Str} {ys : List Str}
theorem fn_str (h : i.natAbs.log2 < 1920) : dStr [.int i] = .ok (.str (toString i)) := by simp only [dStr, decide_eq_true h, R.ite_t]
theorem fn_intT {n : Int} (h : PySem.intText? a = some n ∧ a.length ≤ 640) : dIntT [.str a] = .ok (.int n) := by simp only [dIntT, h.1, decide_eq_true h.2, R.ite_t]
theorem ev_split (h : (b.length == 0) = false ∧ a.length + 2 ≤ 16777216) (hA : A ρ = .ok (.str a, o1)) (hB : B ρ = .ok (.str b, o2)) : eTwo dSplit A B ρ = .ok (.lst ((Txt.split a b).map D.str), true) := by
  simp only [eTwo, hA, hB, R.bind_ok, isStrD, R.ite_t, dSplit, h.1, sizeLine_val, decide_eq_true h.2, Bool.not_false, Bool.and_self]
theorem ev_join (h : (ys.map (·.length)).sum + ys.length * a.length ≤ 16777216) (hA : A ρ = .ok (.str a, o1)) (hB : B ρ = .ok (.lst (ys.map D.str), o2)) : eTwo dJoin A B ρ = .ok (.str (Txt.join a ys), true) := by
  simp only [eTwo, hA, hB, R.bind_ok, isStrD, R.ite_t, dJoin, strsOf_map, decide_eq_true h]
theorem ev_addS (h : a.length + b.length ≤ 16777216) (hA : A ρ = .ok (.str a, o1)) (hB : B ρ = .ok (.str b, o2)) : eBin dAdd A B ρ = .ok (.str (a ++ b), true) := by
  simp only [eBin, hA, hB, R.bind_ok, dAdd, sizeLine_val, decide_eq_true h, R.ite_t]
end
/-! a, b = a list -/
@[simp] def sUnpL (is : List Nat) (f : DX) : DS := fun ρ => (f ρ).bind fun x => match x.1 with
  | .lst ds => .ite (decide (ds.length = is.length) && is.all (fun i => decide (i < ρ.length)) && immA ds) (.ok (.nx (putAll (fun _ => true) is ds ρ)))
  | _ => .no
section
variable {X : Cx} {Ex : XK} {a b c e o : Expr} {fa fb : DX} {pos p apos : Pos}
theorem sx_unpL {is : List Nat} {es : List Expr} {k : Nat} {pt : Pos} (hc : X.calm = true) (he : PX X Ex e fa) (hg : PGs X es (gNames is)) (hn : (assignEach es X.env).length = is.length := by rfl) (hst : (assignEach es X.env).findIdx? (·.1) = none := by rfl)
    (hs : swapsWithSole [.Tuple es k pt] e pos.line X.env = pure false := by rfl) (hw : swappedStores [.Tuple es k pt] e X.env = pure none := by rfl) (h1 : (assignEach [.Tuple es k pt] X.env).map (·.2) = [assign (.Tuple es k pt) X.env] := by rfl) :
    PSX X Ex (.Assign [.Tuple es k pt] e pos) (sUnpL is fa) :=
  PS.imp (ps_asg he (pg_lst hc hg hn hst) hs hw h1) fun N σ H ⟨B, g, ρ, ok, h⟩ => tX_step ok h fun d o v H1 fp _ s r fr h1 => by
    cases d with
    | lst ds =>
      have h1 : Post (ExB X.mg Ex B) (QS X.K B N) (.ite (decide (ds.length = is.length) && is.all (fun i => decide (i < ρ.length)) && immA ds) (.ok (.nx (putAll (fun _ => true) is ds ρ)))) := h1
      obtain ⟨c, h1⟩ := Post.ite h1
      simp only [Bool.and_eq_true, decide_eq_true_eq, List.all_eq_true] at c
      obtain ⟨⟨c1, c2⟩, c3⟩ := c
      obtain ⟨q, xs, f1, rfl, rfl, hp, ra⟩ := r.lst_inv
      obtain rfl := ra.imm c3
      refine ⟨q, xs, rfl, SqL.of hp, by rw [ra.length]; exact c1, ?_⟩
      exact gNames_ok (o := fun _ => true) (ok.mono s) ra c1 c2 (.inr ⟨fun _ => rfl, List.nodup_nil, fun a ha => (by cases ha)⟩) fun σ' g' ok' => h1 B g' σ' H1 (Same.refl B) ok'
    | _ => exact h1.elim
end
section
variable {α : Type} {ec : α → D} {A B E : DX} {ρ ρ1 : DEnv} {o o1 o2 : Bool} {i : Nat} {k : Int} {a b z : Str} {ys : List Str} {lo hi : Option Int} {L H : DO} {Kn : DEnv → Prop} {Kr : D → Prop}
theorem fn_lenT (h : a.length ≤ 16777216) : dLen [.str a] = .ok (.int a.length) := by simp only [dLen, sizeLine_val, decide_eq_true h, R.ite_t]
def chS (z : Str) (k : Int) : Str := ⟨#[z.cps.toList.getD k.toNat 0]⟩
theorem ev_ixZ (h : (0 ≤ k ∧ k < (z.length : Int)) ∧ z.length ≤ 16777216) (hA : A ρ = .ok (.str z, o)) (hB : B ρ = .ok (.int k, o2)) : eIdx A B ρ = .ok (.str (chS z k), true) := by
  have : atI z.cps.toList k = some (z.cps.toList.getD k.toNat 0) := by
    rw [atI_nn z.cps.toList 0 k h.1.1 (by have := h.1.2; rw [Array.length_toList]; exact this)]
  simp only [eIdx, hA, hB, R.bind_ok, dIdx, sizeLine_val, decide_eq_true h.2, R.ite_t, this, Option.map_some, ofO_some, imm_str, Bool.or_true, chS]
theorem ev_sliceZ (h : z.length ≤ 16777216) (hA : A ρ = .ok (.str z, o)) (hL : L ρ = .ok lo) (hH : H ρ = .ok hi) : eSlice A L H ρ = .ok (.str (cutS z lo hi), true) := by
  simp only [eSlice, hA, hL, hH, R.bind_ok, dSlice, sizeLine_val, decide_eq_true h, R.ite_t, sliceOwn, imm_str]
def okS (a : Str) : Prop := PyData.strOk a = true
theorem dEqB_Z (h : okS a ∧ okS b) : dEqB (.str a) (.str b) = .ok (decide (a = b)) := by
  have s1 : SeqAt.shaped (.str a) = true := shaped_py (n := 0) (by rw [PyData.canLay0]; exact h.1) (by simp [PyData.depth]) (by omega)
  have s2 : SeqAt.shaped (.str b) = true := shaped_py (n := 0) (by rw [PyData.canLay0]; exact h.2) (by simp [PyData.depth]) (by omega)
  unfold dEqB
  rw [toPy, toPy]
  simp only [s1, s2, Bool.and_self, R.ite_t, PyData.eqv]
  rfl
theorem ev_eqZ (h : okS a ∧ okS b) (hA : A ρ = .ok (.str a, o1)) (hB : B ρ = .ok (.str b, o2)) : eBin dEq A B ρ = .ok (.bl (decide (a = b)), true) := by simp only [eBin, hA, hB, R.bind_ok, dEq, dEqB_Z h]
theorem ev_neZ (h : okS a ∧ okS b) (hA : A ρ = .ok (.str a, o1)) (hB : B ρ = .ok (.str b, o2)) : eBin dNe A B ρ = .ok (.bl (!decide (a = b)), true) := by simp only [eBin, hA, hB, R.bind_ok, dNe, dEqB_Z h]
def chrs (z : Str) : List Str := z.cps.toList.map fun c => ⟨#[c]⟩
theorem it_varZ (h : ρ[i]? = some (some (.str z, o))) : iVar i ρ = .ok ((chrs z).map D.str, ρ) := by rw [iVar, h]; simp only [chrs, List.map_map]; rfl
theorem it_xZ (hA : A ρ = .ok (.str z, o)) (hρ : ownOr o ρ = ρ1) : iX A ρ = .ok ((chrs z).map D.str, ρ1) := by
  simp only [iX, hA, R.bind_ok, itemsOf, hρ, chrs, List.map_map]; rfl
def inZ (c z : Str) : Bool := match c.cps.toList with
  | [n] => decide (n ∈ z.cps.toList)
  | _ => false
theorem dInB_Z (h : c.length = 1) : dInB (.str c) (.str z) = .ok (inZ c z) := by
  have h : c.cps.toList.length = 1 := by rw [Array.length_toList]; exact h
  match e : c.cps.toList, h with
  | [n], _ => simp only [dInB, inZ, e]
theorem ev_inZ {c : Str} (h : c.length = 1) (hA : A ρ = .ok (.str c, o1)) (hB : B ρ = .ok (.str z, o2)) : eBin dIn A B ρ = .ok (.bl (inZ c z), true) := by simp only [eBin, hA, hB, R.bind_ok, dIn, dInB_Z h]
theorem ev_notinZ {c : Str} (h : c.length = 1) (hA : A ρ = .ok (.str c, o1)) (hB : B ρ = .ok (.str z, o2)) : eBin dNotIn A B ρ = .ok (.bl (!inZ c z), true) := by simp only [eBin, hA, hB, R.bind_ok, dNotIn, dInB_Z h]
theorem dInB_LS : dInB (.str a) (.lst (ys.map D.str)) = .ok (decide (a ∈ ys)) := by
  have e1 : (ys.map D.str).all flatD = true := by simp [List.all_map]
  have e2 : inF (.str a) (ys.map D.str) = decide (a ∈ ys) := by
    unfold inF
    rw [List.any_map]
    clear e1
    induction ys with
    | nil => rfl
    | cons y r ih =>
      rw [List.any_cons, ih]
      show ((y == a) || decide (a ∈ r)) = _
      by_cases c : a = y
      · subst c; simp
      · have : ¬ y = a := fun h => c h.symm
        simp [c, this]
  simp only [dInB, e1, flatD, Bool.and_self, R.ite_t, e2]
theorem ev_inLS (hA : A ρ = .ok (.str a, o1)) (hB : B ρ = .ok (.lst (ys.map D.str), o2)) : eBin dIn A B ρ = .ok (.bl (decide (a ∈ ys)), true) := by simp only [eBin, hA, hB, R.bind_ok, dIn, dInB_LS]
theorem ev_notinLS (hA : A ρ = .ok (.str a, o1)) (hB : B ρ = .ok (.lst (ys.map D.str), o2)) : eBin dNotIn A B ρ = .ok (.bl (!decide (a ∈ ys)), true) := by simp only [eBin, hA, hB, R.bind_ok, dNotIn, dInB_LS]
theorem dInB_NO (l : List (Option Int)) : dInB .non (.lst (l.map (eO D.int))) = .ok (l.any Option.isNone) := by
  have e1 : (l.map (eO D.int)).all flatD = true := by
    rw [List.all_map, List.all_eq_true]
    intro x _
    cases x <;> rfl
  have e2 : inF .non (l.map (eO D.int)) = l.any Option.isNone := by
    unfold inF
    rw [List.any_map]
    congr 1; funext x; cases x <;> rfl
  simp only [dInB, e1, flatD, Bool.and_self, R.ite_t, e2]
theorem ev_inNO {l : List (Option Int)} (hB : B ρ = .ok (.lst (l.map (eO D.int)), o2)) : eBin dIn (eC .non) B ρ = .ok (.bl (l.any Option.isNone), true) := by simp only [eBin, eC, hB, R.bind_ok, dIn, dInB_NO]
theorem ws_unpL {is : List Nat} {ds : List D} (hE : E ρ = .ok (.lst ds, o)) (hl : (decide (ds.length = is.length) && is.all (fun i => decide (i < ρ.length)) && immA ds) = true) (hρ : putAll (fun _ => true) is ds ρ = ρ1) (hk : Kn ρ1) : WS (sUnpL is E) ρ Kn Kr :=
  .nx (ρ' := ρ1) (by rw [← hρ, sUnpL, hE]; simp only [R.bind_ok, hl, R.ite_t]) hk
end
theorem len4 {α : Type} {l : List α} (h : l.length = 4) : ∃ a b c d, l = [a, b, c, d] := by
  match l, h with
  | [a, b, c, d], _ => exact ⟨a, b, c, d, rfl⟩
@[simp] theorem imm_OI (x : Option Int) : imm (eO D.int x) = true := by cases x <;> simp [eO]
/-! x[k].append(e), x[k].clear(): x a tuple of lists -/
@[simp] def sAppendT (i : Nat) (fk : DX) (fo : DX) : DS := fun ρ => match ρ[i]? with
  | some (some (.tup ds, true)) => (fk ρ).bind fun k1 => match rowAt ds k1.1 with
    | some (j1, es) => (fo ρ).bind fun p => .ite (imm p.1 && decide (es.length < sizeLine)) (.ok (.nx (ρ.set i (some (.tup (ds.set j1 (.lst (es ++ [p.1]))), true)))))
    | none => .no
  | _ => .no
@[simp] def sClearT (i : Nat) (fk : DX) : DS := fun ρ => match ρ[i]? with
  | some (some (.tup ds, true)) => (fk ρ).bind fun k1 => match rowAt ds k1.1 with
    | some (j1, _) => .ok (.nx (ρ.set i (some (.tup (ds.set j1 (.lst [])), true))))
    | none => .no
  | _ => .no
section
variable {X : Cx} {Ex : XK} {a b c e k : Expr} {fa fb fk : DX} {pos p apos cpos : Pos} {x : Str}
theorem sx_appendT {i : Nat} {ipos : Pos} (hN : X.N[i]? = some x) (hv : Vis X.env.scope x) (hd : (x == ("__debug__" : Str)) = false) (hcd : (x == ("__classdict__" : Str)) = false) (hk : PX X Ex k fk) (hsk : PlainIx k) (he : PX X Ex e fa)
    (hst : starEach [e] X.env = (false, eval e X.env) :: starEach [] X.env := by rfl)
    (hbase : attributeBase (.Subscript (.Name x p) k ipos) "append" X.env (eval (.Subscript (.Name x p) k ipos) X.env) = eval (.Subscript (.Name x p) k ipos) X.env := by rfl)
    (hfew : ((backTo cpos (starEach [e] X.env)).all (fun x => !x.1) && (backToKw cpos (keywordEach [] X.env)).all (fun x => x.1.isSome)
      && decide (([e] : List Expr).length + ([] : List Keyword).length + (if ([] : List Keyword).isEmpty then 0 else 1) < 30)) = true := by rfl)
    (hline : (apos.endLine == cpos.line) = true := by rfl) (hplain : (backTo cpos (starEach [] X.env)).any (·.1) = false := by rfl)
    (hs : swapsWith (.Call (.Attribute (.Subscript (.Name x p) k ipos) "append" apos) [e] [] cpos) none pos.line X.env = pure false := by rfl) :
    PSX X Ex (.Expr (.Call (.Attribute (.Subscript (.Name x p) k ipos) "append" apos) [e] [] cpos) pos) (sAppendT i fk fa) :=
  PS.imp (ps_expr (pe_bm PySem.F.plainAttrs_list PySem.F.slot_list_append PySem.F.type_list_append mt_append (pe_ix ix_tup (pe_var hN hv hd hcd) hk hsk) (pa_cons he pa_nil hst) hbase hfew hline hst hplain) hs) fun N σ H ⟨B, g, ρ, ok, h⟩ => by
    unfold sAppendT at h
    split at h
    · rename_i ds e2
      obtain ⟨va, e1, rv⟩ := ok.rep i _ _ e2
      refine ⟨va, e1, tX_step ok h fun d o2 vk H2 fpk _ s2 rk _ h2 => ?_⟩
      have h3 : Post (ExB X.mg Ex B) (QS X.K B N) (match rowAt ds d with | some (j1, es) => (fa ρ).bind fun p => .ite (imm p.1 && decide (es.length < sizeLine)) (.ok (.nx (ρ.set i (some (.tup (ds.set j1 (.lst (es ++ [p.1]))), true))))) | none => .no) := h2
      cases er : rowAt ds d with
      | none => rw [er] at h3; exact h3.elim
      | some je =>
        obtain ⟨j1, es⟩ := je
        rw [er] at h3
        unfold rowAt at er
        split at er
        · rename_i z1 hz1
          obtain ⟨rfl, _⟩ := rk.int_inv
          obtain ⟨j, ej, er⟩ := Option.bind_eq_some_iff.mp er
          split at er
          · rename_i es' ee
            cases er
            obtain ⟨a, xs, rfl, ha, ra⟩ := (rv.mono s2).tup_inv
            have nd := (ok.own i _ e2).1
            obtain ⟨b, ys, fi, a1, a2, a3, a4, a5, a6, a7⟩ := RepA.inner ra nd ee
            refine ⟨a, xs, z1, .ref b, rfl, rfl, SqT.of ha, ?_, .inl ⟨rfl, _, SqL.of a3⟩, ?_⟩
            · unfold atI
              rw [ra.length, ej]
              exact a1
            · refine tX_step (ok.mono s2) h3 fun d2 o3 vk2 H3 fpk2 _ s3 rk2 _ h4 => ?_
              have h5 : Post (ExB X.mg Ex B) (QS X.K B N) (.ite (imm d2 && decide (es.length < sizeLine)) (.ok (.nx (ρ.set i (some (.tup (ds.set j1 (.lst (es ++ [d2]))), true)))))) := h4
              obtain ⟨ci, h6⟩ := Post.ite h5
              simp only [Bool.and_eq_true, decide_eq_true_eq] at ci
              have efp := Rep.imm rk2 ci.1
              subst efp
              have ok3 := (ok.mono s2).mono s3
              have ra3 := ra.mono s3
              obtain ⟨b', ys', fi', c1, c2, c3, c4, c5, c6, c7⟩ := RepA.inner ra3 nd ee
              obtain rfl : b = b' := by rw [a1] at c1; exact V.ref.inj (Option.some.inj c1)
              have eys : ys' = ys := by
                have := s3 _ _ a3
                rw [c3] at this; cases this; rfl
              subst eys
              have rs := c4.append (show RepA X.K H3 [vk2] [d2] [] from rk2)
              rw [List.append_nil] at rs
              have mm : H3 b = none ∨ (∃ xs, H3 b = some (.lst xs)) ∨ ∃ kvs, H3 b = some (.dK kvs) := .inr (.inl ⟨_, c3⟩)
              obtain ⟨f', d1, d2', d3⟩ := c7 (ys' ++ [vk2]) (es ++ [d2]) fi' (rs.upd c5 mm) c6 c5 fun _ z => z
              refine ⟨b, ys', vk2, rfl, rfl, c3, by rw [c4.length]; exact ci.2, ?_⟩
              have ha3 := s3 _ _ ha
              have hab : a ≠ b := fun z => by rw [z, c3] at ha3; cases ha3
              exact h6 B _ _ _ (Same.refl _) (ok3.write (v := .ref a) (fp := f' ++ []) e2 e1 c2 (.inl ⟨_, rfl⟩) (RepA.tup (by rw [upd_ne hab]; exact ha3) d1 .nil) (by rw [List.append_nil]; exact d2') fun c hc => .inl (d3 c (by simpa using hc)))
          · cases er
        · cases er
    · exact h.elim
theorem sx_clearT {i : Nat} {ipos : Pos} (hN : X.N[i]? = some x) (hv : Vis X.env.scope x) (hd : (x == ("__debug__" : Str)) = false) (hcd : (x == ("__classdict__" : Str)) = false) (hk : PX X Ex k fk) (hsk : PlainIx k)
    (hbase : attributeBase (.Subscript (.Name x p) k ipos) "clear" X.env (eval (.Subscript (.Name x p) k ipos) X.env) = eval (.Subscript (.Name x p) k ipos) X.env := by rfl)
    (hline : (apos.endLine == cpos.line) = true := by rfl)
    (hs : swapsWith (.Call (.Attribute (.Subscript (.Name x p) k ipos) "clear" apos) [] [] cpos) none pos.line X.env = pure false := by rfl) :
    PSX X Ex (.Expr (.Call (.Attribute (.Subscript (.Name x p) k ipos) "clear" apos) [] [] cpos) pos) (sClearT i fk) :=
  PS.imp (ps_expr (pe_bm0 PySem.F.plainAttrs_list PySem.F.slot_list_clear PySem.F.type_list_clear mt_clear (pe_ix ix_tup (pe_var hN hv hd hcd) hk hsk) hbase hline) hs) fun N σ H ⟨B, g, ρ, ok, h⟩ => by
    unfold sClearT at h
    split at h
    · rename_i ds e2
      obtain ⟨va, e1, rv⟩ := ok.rep i _ _ e2
      refine ⟨va, e1, tX_step ok h fun d o2 vk H2 fpk _ s2 rk _ h2 => ?_⟩
      have h3 : Post (ExB X.mg Ex B) (QS X.K B N) (match rowAt ds d with | some (j1, _) => .ok (.nx (ρ.set i (some (.tup (ds.set j1 (.lst [])), true)))) | none => .no) := h2
      cases er : rowAt ds d with
      | none => rw [er] at h3; exact h3.elim
      | some je =>
        obtain ⟨j1, es⟩ := je
        rw [er] at h3
        unfold rowAt at er
        split at er
        · rename_i z1 hz1
          obtain ⟨rfl, _⟩ := rk.int_inv
          obtain ⟨j, ej, er⟩ := Option.bind_eq_some_iff.mp er
          split at er
          · rename_i es' ee
            cases er
            obtain ⟨a, xs, rfl, ha, ra⟩ := (rv.mono s2).tup_inv
            have nd := (ok.own i _ e2).1
            obtain ⟨b, ys, fi, a1, a2, a3, a4, a5, a6, a7⟩ := RepA.inner ra nd ee
            have ok2 := ok.mono s2
            obtain ⟨f', d1, d2', d3⟩ := a7 [] [] [] .nil List.nodup_nil (by simp) fun _ z => by cases z
            refine ⟨a, xs, z1, .ref b, rfl, rfl, SqT.of ha, ?_, .inl ⟨rfl, _, SqL.of a3⟩, b, ys, rfl, rfl, a3, ?_⟩
            · unfold atI
              rw [ra.length, ej]
              exact a1
            · have hab : a ≠ b := fun z => by rw [z, a3] at ha; cases ha
              exact h3 B _ _ _ (Same.refl _) (ok2.write (v := .ref a) (fp := f' ++ []) e2 e1 a2 (.inl ⟨_, rfl⟩) (RepA.tup (by rw [upd_ne hab]; exact ha) d1 .nil) (by rw [List.append_nil]; exact d2') fun c hc => .inl (d3 c (by simpa using hc)))
          · cases er
        · cases er
    · exact h.elim
end
end EQ
/-! EqZ: for x in e: if T: return c (nothing changes hands). -/
namespace EQ
open PySem PySem.Spec PyProof.Rows L2
def anyS (t : DTg) (T : DT) (fo : DO1) (ρe ρn : DEnv) : List D → R Out
  | [] => .ok (.nx ρn)
  | d :: ds => (t d ρe).nox.bind fun ρ1 => (T ρ1).nox.bind fun b => match b with
    | false => anyS t T fo ρe ρn ds
    | true => (fo ρ1).nox.bind fun p => .ok (.rt p.1)
@[simp] def sForAny (is : List Nat) (fi : DIt) (t : DTg) (T : DT) (fo : DO1) : DS := fun ρ => (fi ρ).bind fun p => anyS t T fo (wipeE is (lookE ρ)) (wipeE is ρ) p.1
theorem wipeE_get {vs : List Nat} {ρ : DEnv} {j : Nat} {y : D × Bool} (h : (wipeE vs ρ)[j]? = some (some y)) : j ∉ vs ∧ ρ[j]? = some (some y) := by
  induction vs with
  | nil => exact ⟨by simp, h⟩
  | cons v vs ih =>
    rcases get_set (show ((wipeE vs ρ).set v none)[j]? = some (some y) from h) with ⟨_, z, _⟩ | ⟨n, h⟩
    · cases z
    · obtain ⟨a, b⟩ := ih h
      exact ⟨by simp [n, a], b⟩
theorem wipeE_len (vs : List Nat) (ρ : DEnv) : (wipeE vs ρ).length = ρ.length := by
  induction vs with
  | nil => rfl
  | cons v vs ih => show ((wipeE vs ρ).set v none).length = _; rw [List.length_set, ih]
theorem okG_agree {K : PySem.W.Frag} {B H : Hp} {σ σ2 : L2.St} {ρ : DEnv} {g : Nat → List Addr} {vs : List Nat} (ok : OkG K B H σ ρ g) (h : ∀ j : Nat, j ∉ vs → σ2[j]? = σ[j]?) (l : σ2.length = σ.length) : OkG K B H σ2 (wipeE vs ρ) g := by
  refine ⟨by rw [l, wipeE_len]; exact ok.len, ok.bas, fun j d o e => ?_, fun j d e => ok.frz j d (wipeE_get e).2, fun j d e => ok.own j d (wipeE_get e).2, fun j k d e h1 h2 => ok.dis j k d e (wipeE_get h1).2 (wipeE_get h2).2⟩
  obtain ⟨n, e⟩ := wipeE_get e
  obtain ⟨v, e1, r⟩ := ok.rep j d o e
  exact ⟨v, by rw [h j n]; exact e1, r⟩
section
variable {X : Cx} {Ex : XK} {tg e test c : Expr} {fi : DIt} {t : DTg} {T : DT} {fo : DO1} {is : List Nat} {pos ipos rpos : Pos}
theorem sx_forAny (hp : PassesOwn (model X.prog X.w) X.A X.env X.xe) (hc : X.calm = true) (hi : PIX X Ex tg e fi) (hg : PGX X tg is t) (ht : TgOk t) (hT : PB X E0 test T) (hr : POw X E0 c fo)
    (hs : ∀ x, foldedSetIterable e X.env x = pure x := by intro _; rfl) : PSX X Ex (.For tg e [.If test [.Return (some c) rpos] [] ipos] [] pos) (sForAny is fi t T fo) :=
  PS.imp (ps_for hp hc hi hg (pss_one (ps_if hT (pss_one (ps_ret hr)) pss_nil)) hs) fun N σ H ⟨B, g, ρ, ok, h⟩ => ⟨B, g, ρ, ok, h.bind.imp (fun _ z => z) fun q _ h1 J B1 g1 H1 s1 sB ok1 it => by
    obtain ⟨ds, ρ1⟩ := q
    have h1 : Post (ExB X.mg Ex B) (QS X.K B N) (anyS t T fo (wipeE is (lookE ρ)) (wipeE is ρ) ds) := h1
    refine ⟨fun k m σ2 H2 => m = ds.length - k ∧ k ≤ ds.length ∧ Same H1 H2 ∧ (∀ j, j ∉ is → σ2[j]? = σ[j]?) ∧ σ2.length = σ.length ∧ Post (ExB X.mg Ex B) (QS X.K B N) (anyS t T fo (wipeE is (lookE ρ)) (wipeE is ρ) (ds.drop k)), ⟨_, rfl, Nat.zero_le _, Same.refl _, fun _ _ => rfl, rfl, by simpa using h1⟩, fun k m σ2 H2 ⟨em, hk, s2, ag, le, h3⟩ => ?_⟩
    have it' := it.mono ok1.bas
    by_cases hlt : k < ds.length
    · refine .inr ⟨it'.go k H2 s2 hlt, fun σ3 H3 => Same H1 H3 ∧ (∀ j, j ∉ is → σ3[j]? = σ[j]?) ∧ σ3.length = σ.length ∧ Post (ExB X.mg Ex B) (QS X.K B N) (anyS t T fo (wipeE is (lookE ρ)) (wipeE is ρ) (ds.drop (k + 1))), fun σ3 H3 ⟨a, b, c, d⟩ => ⟨ds.length - (k + 1), by omega, rfl, hlt, a, b, c, d⟩, fun x H3 y => ?_⟩
      obtain ⟨d, fp, e1, s3, r, nb⟩ := it'.yld k H2 x H3 s2 hlt y
      have ed : ds.drop k = d :: ds.drop (k + 1) := by
        rw [List.drop_eq_getElem_cons hlt]
        rw [List.getElem?_eq_getElem hlt] at e1
        rw [Option.some.inj e1]
      rw [ed, anyS] at h3
      have okl := (okG_agree ((ok.mono s1).look) ag le).mono (s2.trans s3)
      cases e3 : (t d (wipeE is (lookE ρ))).nox with
      | ex c => cases z : t d (wipeE is (lookE ρ)) <;> rw [z] at e3 <;> cases e3
      | no => rw [e3] at h3; exact h3.elim
      | ok ρ3 =>
        rw [e3, R.bind_ok] at h3
        refine ⟨H1, g, _, d, fp, ρ3, okl, r, nb, R.nox_eq e3, fun σ4 g4 ok4 fr4 => ?_⟩
        have ag4 : ∀ j, j ∉ is → σ4[j]? = σ[j]? := fun j hj => by rw [fr4 j hj]; exact ag j hj
        have le4 : σ4.length = σ.length := by rw [ok4.len, ht.len _ _ _ (R.nox_eq e3), ← okl.len, le]
        cases e4 : (T ρ3).nox with
        | ex c => cases z : T ρ3 <;> rw [z] at e4 <;> cases e4
        | no => rw [e4] at h3; exact h3.elim
        | ok b =>
          rw [e4, R.bind_ok] at h3
          refine ⟨H1, g4, ρ3, ok4, ?_⟩
          rw [R.nox_eq e4]
          intro H4 s4
          cases b with
          | false =>
            rw [if_neg (by decide)]
            exact ⟨(s2.trans s3).trans s4, ag4, le4, h3⟩
          | true =>
            rw [if_pos rfl]
            have h3 : Post (ExB X.mg Ex B) (QS X.K B N) ((fo ρ3).nox.bind fun p => .ok (.rt p.1)) := h3
            cases e5 : (fo ρ3).nox with
            | ex c => cases z : fo ρ3 <;> rw [z] at e5 <;> cases e5
            | no => rw [e5] at h3; exact h3.elim
            | ok p =>
              rw [e5] at h3
              refine ⟨H1, g4, ρ3, ok4.mono s4, ?_⟩
              rw [R.nox_eq e5]
              intro v H5 fp5 s5 ok5 le5 r5 ow5
              have sB1 : Same B H1 := ok.bas.trans s1
              exact h3 v H5 fp5 (((sB1.trans (s2.trans s3)).trans s4).trans s5) r5 ow5.nd fun a ha => ⟨sB1.free (ow5.nb a ha), ow5.mu a ha⟩
    · refine .inl ⟨it'.stop k H2 s2 (by show ds.length ≤ k; omega), ?_⟩
      rw [List.drop_eq_nil_of_le (by omega)] at h3
      exact h3 B g σ2 H2 (Same.refl _) (okG_agree ((ok.mono s1).mono s2) ag le)⟩
end
theorem ws_forAny {α : Type} {ec : α → D} {l : List α} {ρ p1 : DEnv} {bd : α → DEnv} {fi : DIt} {t : DTg} {T : DT} {fo : DO1} {is : List Nat} {dr : D} {Kn : DEnv → Prop} {Kr : D → Prop} (Tv : α → Bool) (hi : fi ρ = .ok (l.map ec, p1)) (ht : ∀ a, t (ec a) (wipeE is (lookE ρ)) = .ok (bd a)) (hT : ∀ a ∈ l, T (bd a) = .ok (Tv a))
    (hr : ∀ a, ∃ ρ2, fo (bd a) = .ok (dr, ρ2)) (h1 : l.any Tv = true → Kr dr) (h2 : l.any Tv = false → Kn (wipeE is ρ)) : WS (sForAny is fi t T fo) ρ Kn Kr := by
  have key : ∀ l : List α, (∀ a ∈ l, T (bd a) = .ok (Tv a)) → anyS t T fo (wipeE is (lookE ρ)) (wipeE is ρ) (l.map ec) = if l.any Tv then .ok (.rt dr) else .ok (.nx (wipeE is ρ)) := fun l => by
    induction l with
    | nil => intro _; rfl
    | cons a r ih =>
      intro hT
      have ih := ih fun b hb => hT b (by simp [hb])
      rw [List.map_cons, anyS, ht a, R.nox_ok, R.bind_ok, hT a (by simp), R.nox_ok, R.bind_ok, List.any_cons]
      cases c : Tv a with
      | true =>
        obtain ⟨ρ2, e⟩ := hr a
        simp only [e, R.nox_ok, R.bind_ok, Bool.true_or, if_true]
      | false => simp only [Bool.false_or]; exact ih
  have e : sForAny is fi t T fo ρ = if l.any Tv then .ok (.rt dr) else .ok (.nx (wipeE is ρ)) := by
    unfold sForAny
    rw [hi, R.bind_ok]
    exact key l hT
  cases c : l.any Tv with
  | true => exact .rt (by rw [e, c]; rfl) (h1 c)
  | false => exact .nx (by rw [e, c]; rfl) (h2 c)
section
variable {α β : Type} {ec : α → D} {ed : β → D} {ρ : DEnv} {i : Nat} {o o2 p : Bool} {A B fe : DX} {v : α} {d : D} {ds : List D} {k : Int} {Kn : DEnv → Prop} {Kr : D → Prop}
theorem ws_appT0 {q : List α × β} {ρ' : List α × β → DEnv} (h1 : ρ[i]? = some (some (eT2 (eL ec) ed q, true))) (hE : fe ρ = .ok (ec v, o2)) (hi : imm (ec v) = true) (hl : q.1.length < 16777216) (hρ : ∀ x, ρ.set i (some (eT2 (eL ec) ed x, true)) = ρ' x) (hk : ∀ x, x = (q.1 ++ [v], q.2) → Kn (ρ' x)) : WS (sAppendT i (eC (.int 0)) fe) ρ Kn Kr :=
  .nx (ρ' := ρ' (q.1 ++ [v], q.2)) (by
    have h1 : ρ[i]? = some (some (.tup [.lst (q.1.map ec), ed q.2], true)) := h1
    have er : rowAt [.lst (q.1.map ec), ed q.2] (.int 0) = some (0, q.1.map ec) := rfl
    rw [← hρ, sAppendT, h1]
    simp only [eC, R.bind_ok, er, hE, hi, Bool.true_and, List.length_map, sizeLine_val, decide_eq_true hl, R.ite_t]
    show _ = R.ok (Out.nx (ρ.set i (some (.tup [.lst ((q.1 ++ [v]).map ec), ed q.2], true))))
    rw [List.map_append]; rfl) (hk _ rfl)
theorem ws_clrT1 {q : β × List α} {ρ' : β × List α → DEnv} (h1 : ρ[i]? = some (some (eT2 ed (eL ec) q, true))) (hρ : ∀ x, ρ.set i (some (eT2 ed (eL ec) x, true)) = ρ' x) (hk : ∀ x, x = (q.1, []) → Kn (ρ' x)) : WS (sClearT i (eC (.int 1))) ρ Kn Kr :=
  .nx (ρ' := ρ' (q.1, [])) (by
    have h1 : ρ[i]? = some (some (.tup [ed q.1, .lst (q.2.map ec)], true)) := h1
    have er : rowAt [ed q.1, .lst (q.2.map ec)] (.int 1) = some (1, q.2.map ec) := rfl
    rw [← hρ, sClearT, h1]
    simp only [eC, R.bind_ok, er]; rfl) (hk _ rfl)
/-- a list of two things of unlike types -/
def eM2 {α β : Type} (e1 : α → D) (e2 : β → D) (p : α × β) : D := .lst [e1 p.1, e2 p.2]
theorem imm_M2 (e1 : α → D) (e2 : β → D) (p : α × β) : imm (eM2 e1 e2 p) = false := imm_lst _
theorem ev_ixM (hA : A ρ = .ok (.lst ds, o)) (hB : B ρ = .ok (.int k, o2)) (h : atI ds k = some d) (hi : imm d = p) : eIdx A B ρ = .ok (d, o || p) := by
  simp only [eIdx, hA, hB, R.bind_ok, dIdx, h, ofO_some, hi]
end
end EQ
namespace EQ
open PySem PySem.Spec PyProof.Rows L2
/-! cells, ships, stretches -/
def cell (ns : List Int) (k : Int) : Int := if k < ns.length then ns.getD k.toNat 0 else 0
structure Ship.Ok (s : Ship) : Prop where
  be : s.b < s.e
  m0 : 0 ≤ s.m
  m1 : s.m ≤ 10000000000000000
  n0 : 0 ≤ s.n
  n1 : s.n ≤ s.m * (s.e - s.b)
  b0 : -100000000000000000 ≤ s.b
  e1 : s.e ≤ 100000000000000000
theorem pick_t {α : Type} {b : Bool} {x y : α} (h : b = true) : x = if b = true then x else y := by rw [if_pos h]
theorem pick_f {α : Type} {b : Bool} {x y : α} (h : b = false) : y = if b = true then x else y := by rw [if_neg (by rw [h]; decide)]
/-- an item, 0 behind the end -/
def nth (l : List Int) (i : Nat) : Int := l.getD i 0
theorem nth_cons0 (a : Int) (l : List Int) : nth (a :: l) 0 = a := rfl
theorem nth_succ (a : Int) (l : List Int) (i : Nat) : nth (a :: l) (i + 1) = nth l i := rfl
theorem nth_get {l : List Int} {i : Nat} (h : i < l.length) : nth l i = l[i] := by
  unfold nth; rw [List.getD_eq_getElem?_getD, List.getElem?_eq_getElem h]; rfl
def prs : List Int → List (Int × Int)
  | a :: b :: r => (a, b) :: prs (b :: r)
  | _ => []
theorem prs_range : ∀ hs : List Int, (List.range (hs.length - 1)).map (fun i => (nth hs i, nth hs (i + 1))) = prs hs
  | [] => rfl
  | [a] => rfl
  | a :: b :: r => by
    have ih := prs_range (b :: r)
    rw [prs, ← ih]
    simp only [List.length_cons, Nat.add_sub_cancel]
    rw [List.range_succ_eq_map, List.map_cons, List.map_map]
    rfl
abbrev SS (l : List Int) : Prop := l.Pairwise (· < ·)
theorem ss_uniq : ∀ {a b : List Int}, SS a → SS b → (∀ x, x ∈ a ↔ x ∈ b) → a = b
  | [], [], _, _, _ => rfl
  | [], y :: b, _, _, h => by have := (h y).mpr (by simp); cases this
  | x :: a, [], _, _, h => by have := (h x).mp (by simp); cases this
  | x :: a, y :: b, ha, hb, h => by
    rw [SS, List.pairwise_cons] at ha hb
    have e : x = y := by
      have h1 := (h x).mp (by simp)
      have h2 := (h y).mpr (by simp)
      rcases List.mem_cons.mp h1 with e | m
      · exact e
      · rcases List.mem_cons.mp h2 with e | m2
        · exact e.symm
        · have := hb.1 x m; have := ha.1 y m2; omega
    subst e
    rw [ss_uniq ha.2 hb.2 fun z => ?_]
    have k := h z
    simp only [List.mem_cons] at k
    constructor
    · intro m
      rcases k.mp (.inr m) with e | m'
      · have := ha.1 z m; omega
      · exact m'
    · intro m
      rcases k.mpr (.inr m) with e | m'
      · have := hb.1 z m; omega
      · exact m'
theorem isort_ss {l : List Int} (h : l.Nodup) : SS (isort l) := by
  have h1 := isort_sorted l
  have h2 : (isort l).Nodup := (isort_perm l).nodup_iff.mpr h
  exact (List.Pairwise.and h1 h2).imp fun ⟨a, b⟩ => by omega
theorem isort_mem {l : List Int} {x : Int} : x ∈ isort l ↔ x ∈ l := (isort_perm l).mem_iff
/-- each once -/
def dd : List Int → List Int
  | [] => []
  | x :: r => if x ∈ r then dd r else x :: dd r
theorem dd_mem : ∀ {l : List Int} {x : Int}, x ∈ dd l ↔ x ∈ l
  | [], x => by simp [dd]
  | y :: r, x => by
    rw [dd]
    by_cases c : y ∈ r
    · rw [if_pos c, dd_mem, List.mem_cons]
      exact ⟨.inr, fun h => h.elim (fun e => e ▸ c) id⟩
    · rw [if_neg c, List.mem_cons, List.mem_cons, dd_mem]
theorem dd_nodup : ∀ l : List Int, (dd l).Nodup
  | [] => by simp [dd]
  | y :: r => by
    rw [dd]
    by_cases c : y ∈ r
    · rw [if_pos c]; exact dd_nodup r
    · rw [if_neg c]; exact List.nodup_cons.mpr ⟨fun m => c (dd_mem.mp m), dd_nodup r⟩
/-- the bounds, rising -/
def bds (fl : List Ship) : List Int := isort (dd (fl.flatMap fun s => [s.b, s.e]))
theorem bds_ss (fl : List Ship) : SS (bds fl) := isort_ss (dd_nodup _)
theorem bds_mem {fl : List Ship} {x : Int} : x ∈ bds fl ↔ ∃ s ∈ fl, x = s.b ∨ x = s.e := by
  unfold bds
  rw [isort_mem, dd_mem, List.mem_flatMap]
  simp
/-- of a list that rises, each once -/
def sq : List Int → List Int
  | a :: b :: r => if a < b then a :: sq (b :: r) else sq (b :: r)
  | l => l
theorem sq_mem : ∀ {l : List Int} {x : Int}, l.Pairwise (· ≤ ·) → (x ∈ sq l ↔ x ∈ l)
  | [], x, _ => by simp [sq]
  | [a], x, _ => by simp [sq]
  | a :: b :: r, x, h => by
    have h' := List.pairwise_cons.mp h
    have ih := sq_mem (x := x) h'.2
    rw [sq]
    by_cases c : a < b
    · rw [if_pos c, List.mem_cons, ih, List.mem_cons (a := x) (b := a)]
    · rw [if_neg c, ih, List.mem_cons (a := x) (b := a)]
      have e : a = b := by have := h'.1 b (by simp); omega
      subst e
      simp
theorem sq_ss : ∀ {l : List Int}, l.Pairwise (· ≤ ·) → SS (sq l)
  | [], _ => by simp [sq]
  | [a], _ => by simp [sq]
  | a :: b :: r, h => by
    have h' := List.pairwise_cons.mp h
    rw [sq]
    by_cases c : a < b
    · rw [if_pos c]
      refine List.pairwise_cons.mpr ⟨fun x hx => ?_, sq_ss h'.2⟩
      have := (sq_mem h'.2).mp hx
      rcases List.mem_cons.mp this with e | m
      · omega
      · have := (List.pairwise_cons.mp h'.2).1 x m; omega
    · rw [if_neg c]; exact sq_ss h'.2
theorem prs_sq : ∀ {l : List Int}, l.Pairwise (· ≤ ·) → (prs l).filter (fun p => decide (p.1 < p.2)) = prs (sq l)
  | [], _ => rfl
  | [a], _ => rfl
  | a :: b :: r, h => by
    have h' := List.pairwise_cons.mp h
    have ih := prs_sq h'.2
    rw [prs, sq]
    by_cases c : a < b
    · rw [if_pos c, List.filter_cons_of_pos (by simpa using c), ih]
      cases q : sq (b :: r) with
      | nil => have := (sq_mem (x := b) h'.2).mpr (by simp); rw [q] at this; cases this
      | cons y ys =>
        have e : y = b := by
          have m1 := (sq_mem (x := b) h'.2).mpr (by simp)
          have m2 := (sq_mem (x := y) h'.2).mp (by rw [q]; simp)
          have s := sq_ss h'.2
          rw [q] at m1 s
          have s1 := (List.pairwise_cons.mp s).1
          rcases List.mem_cons.mp m1 with e | m1
          · exact e.symm
          · have := s1 b m1
            rcases List.mem_cons.mp m2 with e | m2
            · exact e
            · have := (List.pairwise_cons.mp h'.2).1 y m2; omega
        subst e
        rw [prs]
    · rw [if_neg c, List.filter_cons_of_neg (by simpa using c), ih]
theorem parts_bds (fl : List Ship) : (prs (isort (fl.map (·.b) ++ fl.map (·.e)))).filter (fun p => decide (p.1 < p.2)) = prs (bds fl) := by
  rw [prs_sq (isort_sorted _)]
  congr 1
  refine ss_uniq (sq_ss (isort_sorted _)) (bds_ss fl) fun x => ?_
  rw [sq_mem (isort_sorted _), isort_mem, bds_mem, List.mem_append, List.mem_map, List.mem_map]
  constructor
  · rintro (⟨s, h, rfl⟩ | ⟨s, h, rfl⟩)
    · exact ⟨s, h, .inl rfl⟩
    · exact ⟨s, h, .inr rfl⟩
  · rintro ⟨s, h, rfl | rfl⟩
    · exact .inl ⟨s, h, rfl⟩
    · exact .inr ⟨s, h, rfl⟩
/-- the stretches -/
def segs (fl : List Ship) : List (Int × Int) := prs (bds fl)
theorem prs_length : ∀ l : List Int, (prs l).length = l.length - 1
  | [] => rfl
  | [_] => rfl
  | a :: b :: r => by rw [prs, List.length_cons, prs_length (b :: r)]; simp
theorem prs_nth (l : List Int) (i : Nat) (h : i < l.length - 1) : (prs l)[i]? = some (nth l i, nth l (i + 1)) := by
  rw [← prs_range, List.getElem?_map, List.getElem?_range h]
  rfl
theorem ss_get {l : List Int} (h : SS l) {i j : Nat} (hij : i < j) (hj : j < l.length) : nth l i < nth l j := by
  have hi : i < l.length := by omega
  rw [nth_get hi, nth_get hj]
  exact List.pairwise_iff_getElem.mp h i j hi hj hij
theorem nth_mem {l : List Int} {i : Nat} (h : i < l.length) : nth l i ∈ l := by
  rw [nth_get h]; exact List.getElem_mem h
theorem mem_nth {l : List Int} {x : Int} (h : x ∈ l) : ∃ i, i < l.length ∧ nth l i = x := by
  obtain ⟨i, hi, e⟩ := List.getElem_of_mem h
  exact ⟨i, hi, by rw [nth_get hi, e]⟩
theorem prs_mem {l : List Int} {p : Int × Int} (h : p ∈ prs l) : ∃ i, i + 1 < l.length ∧ p = (nth l i, nth l (i + 1)) := by
  rw [← prs_range] at h
  obtain ⟨i, hi, e⟩ := List.mem_map.mp h
  have := List.mem_range.mp hi
  exact ⟨i, by omega, e.symm⟩
theorem prs_of {l : List Int} {i : Nat} (h : i + 1 < l.length) : (nth l i, nth l (i + 1)) ∈ prs l := by
  rw [← prs_range]
  exact List.mem_map.mpr ⟨i, List.mem_range.mpr (by omega), rfl⟩
theorem prs_lt {l : List Int} (h : SS l) {p : Int × Int} (m : p ∈ prs l) : p.1 < p.2 := by
  obtain ⟨i, hi, rfl⟩ := prs_mem m
  exact ss_get h (by omega) hi
/-- how many hold an hour -/
theorem prs_count : ∀ {l : List Int}, SS l → ∀ h : Int, ((prs l).filter fun p => decide (p.1 ≤ h) && decide (h < p.2)).length = if nth l 0 ≤ h ∧ h < nth l (l.length - 1) then 1 else 0
  | [], _, h => by simp [prs]
  | [a], _, h => by simp [prs]
  | a :: b :: r, s, h => by
    have s' := List.pairwise_cons.mp s
    have ih := prs_count s'.2 h
    have ab := s'.1 b (by simp)
    have last : nth (b :: r) ((b :: r).length - 1) ∈ b :: r := nth_mem (by simp)
    have bl : b ≤ nth (b :: r) ((b :: r).length - 1) := by
      rcases List.mem_cons.mp last with e | m
      · omega
      · have := (List.pairwise_cons.mp s'.2).1 _ m; omega
    have e0 : nth (a :: b :: r) ((a :: b :: r).length - 1) = nth (b :: r) ((b :: r).length - 1) := by
      simp only [List.length_cons, Nat.add_sub_cancel]; rfl
    rw [e0]
    have h0 : nth (a :: b :: r) 0 = a := rfl
    have h1 : nth (b :: r) 0 = b := rfl
    rw [h0]
    rw [h1] at ih
    rw [prs, List.filter_cons]
    generalize nth (b :: r) ((b :: r).length - 1) = z at *
    by_cases c1 : a ≤ h
    · by_cases c2 : h < b
      · rw [if_pos (by simp [c1, c2]), List.length_cons, ih, if_neg (by omega), if_pos (by omega)]
      · rw [if_neg (by simp [c1, c2]), ih]
        by_cases c3 : h < z
        · rw [if_pos (by omega), if_pos (by omega)]
        · rw [if_neg (by omega), if_neg (by omega)]
    · rw [if_neg (by simp [c1]), ih, if_neg (by omega), if_neg (by omega)]
theorem dd_len : ∀ l : List Int, (dd l).length ≤ l.length
  | [] => by simp [dd]
  | x :: r => by
    have := dd_len r
    rw [dd]
    split <;> simp only [List.length_cons] <;> omega
theorem fm_len : ∀ fl : List Ship, (fl.flatMap fun s => [s.b, s.e]).length = 2 * fl.length
  | [] => rfl
  | s :: r => by
    rw [List.flatMap_cons, List.length_append, fm_len r]
    simp only [List.length_cons, List.length_nil]; omega
theorem bds_len (fl : List Ship) : (bds fl).length ≤ 2 * fl.length := by
  unfold bds
  rw [(isort_perm _).length_eq, ← fm_len]
  exact dd_len _
/-! rooms, rows -/
def lens (fl : List Ship) : List Int := (segs fl).map fun p => p.2 - p.1
def capOf (s : Ship) (p : Int × Int) : Int := if s.b ≤ p.1 ∧ p.2 ≤ s.e then s.m * (p.2 - p.1) else 0
def caps (fl : List Ship) : List (List Int) := fl.map fun s => (segs fl).map (capOf s)
theorem segs_len (fl : List Ship) : (segs fl).length = (bds fl).length - 1 := prs_length _
theorem segs_le (fl : List Ship) : (segs fl).length ≤ 2 * fl.length := by have := bds_len fl; rw [segs_len]; omega
@[simp] theorem lens_length (fl : List Ship) : (lens fl).length = (segs fl).length := by simp [lens]
@[simp] theorem caps_length (fl : List Ship) : (caps fl).length = fl.length := by simp [caps]
/-! items by number -/
@[simp] theorem ix_int (l : List Int) (n : Nat) : ix l (n : Int) = nth l n := rfl
@[simp] theorem ix_lit (l : List Int) (n : Nat) : ix l (no_index (OfNat.ofNat n)) = nth l n := rfl
@[simp] theorem ix_zero {α : Type} [Inhabited α] (l : List α) : ix l 0 = l.getD 0 default := rfl
@[simp] theorem ix_one {α : Type} [Inhabited α] (l : List α) : ix l 1 = l.getD 1 default := rfl
theorem ix_nat {α : Type} [Inhabited α] (l : List α) (n : Nat) : ix l (n : Int) = l.getD n default := rfl
theorem ix_of {α : Type} [Inhabited α] {l : List α} {k : Int} (h0 : 0 ≤ k) (h : k < l.length) : ∃ n : Nat, k = n ∧ n < l.length ∧ ix l k = l[n]! := ⟨k.toNat, by omega, by omega, by unfold ix; rw [List.getD_eq_getElem?_getD, List.getElem!_eq_getElem?_getD]⟩
theorem ix_mem {α : Type} [Inhabited α] {l : List α} {k : Int} (h0 : 0 ≤ k) (h : k < l.length) : ix l k ∈ l := by
  unfold ix
  have h2 : k.toNat < l.length := by omega
  rw [List.getD_eq_getElem?_getD, List.getElem?_eq_getElem h2]
  exact List.getElem_mem h2
theorem ixl_mem {α : Type} [Inhabited α] {l : List α} (h : l ≠ []) : ixl l ∈ l := by
  unfold ixl
  have := List.length_pos_iff.mpr h
  have h2 : l.length - 1 < l.length := by omega
  rw [List.getD_eq_getElem?_getD, List.getElem?_eq_getElem h2]
  exact List.getElem_mem h2
@[simp] theorem RG_nat (n : Nat) : RG (n : Int) ↔ n < 4611686018427387904 := by unfold RG; omega
@[simp] theorem RG_lit (n : Nat) : RG (no_index (OfNat.ofNat n)) ↔ n < 4611686018427387904 := RG_nat n
@[simp] theorem RG_one : RG 1 := by unfold RG; omega
@[simp] theorem RG_zero : RG 0 := by unfold RG; omega
theorem mxl_mem {l : List Int} (h : l ≠ []) : mxl l ∈ l ∧ ∀ y ∈ l, y ≤ mxl l := by
  cases l with
  | nil => exact absurd rfl h
  | cons x r =>
    have := foldl_max_ge r x
    refine ⟨foldl_max_mem r x, fun y hy => ?_⟩
    rcases List.mem_cons.mp hy with e | m
    · subst e; exact this.1
    · exact this.2 y m
theorem mnl_mem {l : List Int} (h : l ≠ []) : mnl l ∈ l ∧ ∀ y ∈ l, mnl l ≤ y := by
  cases l with
  | nil => exact absurd rfl h
  | cons x r =>
    have := foldl_min_le r x
    refine ⟨foldl_min_mem r x, fun y hy => ?_⟩
    rcases List.mem_cons.mp hy with e | m
    · subst e; exact this.1
    · exact this.2 y m
theorem ss_first {l : List Int} (s : SS l) {m : Int} (h1 : m ∈ l) (h2 : ∀ y ∈ l, m ≤ y) : nth l 0 = m := by
  obtain ⟨i, hi, e⟩ := mem_nth h1
  have h0 := h2 _ (nth_mem (show 0 < l.length by omega))
  rcases Nat.eq_zero_or_pos i with z | z
  · subst z; exact e
  · have := ss_get s z hi; omega
theorem ss_last {l : List Int} (s : SS l) {m : Int} (h1 : m ∈ l) (h2 : ∀ y ∈ l, y ≤ m) : nth l (l.length - 1) = m := by
  obtain ⟨i, hi, e⟩ := mem_nth h1
  have h0 := h2 _ (nth_mem (show l.length - 1 < l.length by omega))
  by_cases z : i = l.length - 1
  · subst z; exact e
  · have := ss_get s (show i < l.length - 1 by omega) (by omega); omega
theorem bds_two {fl : List Ship} (h : fl ≠ []) (ok : ∀ s ∈ fl, s.Ok) : 2 ≤ (bds fl).length := by
  obtain ⟨s, hs⟩ := List.exists_mem_of_ne_nil fl h
  obtain ⟨i, hi, ei⟩ := mem_nth (bds_mem.mpr ⟨s, hs, .inl rfl⟩)
  obtain ⟨j, hj, ej⟩ := mem_nth (bds_mem.mpr ⟨s, hs, .inr rfl⟩)
  have : i ≠ j := fun e => by subst e; have := (ok s hs).be; omega
  omega
theorem hours_bds {fl : List Ship} {x : Int} : x ∈ (fl.map fun s => s.b) ++ (fl.map fun s => s.e) ↔ x ∈ bds fl := by
  rw [bds_mem, List.mem_append, List.mem_map, List.mem_map]
  constructor
  · rintro (⟨s, h, rfl⟩ | ⟨s, h, rfl⟩)
    · exact ⟨s, h, .inl rfl⟩
    · exact ⟨s, h, .inr rfl⟩
  · rintro ⟨s, h, rfl | rfl⟩
    · exact .inl ⟨s, h, rfl⟩
    · exact .inr ⟨s, h, rfl⟩
theorem segs_get {fl : List Ship} {i : Nat} (h : i < (segs fl).length) : (segs fl).getD i default = (nth (bds fl) i, nth (bds fl) (i + 1)) := by
  rw [segs_len] at h
  rw [List.getD_eq_getElem?_getD]
  unfold segs
  rw [prs_nth _ _ h]; rfl
theorem segs_ix {fl : List Ship} {k : Int} (h0 : 0 ≤ k) (h : k < (segs fl).length) : ix (segs fl) k = (nth (bds fl) k.toNat, nth (bds fl) (k.toNat + 1)) := segs_get (by omega)
theorem segs_lt {fl : List Ship} {p : Int × Int} (h : p ∈ segs fl) : p.1 < p.2 := prs_lt (bds_ss fl) h
/-! rows: sums, items, changes -/
theorem sum_app (a b : List Int) : (a ++ b).sum = a.sum + b.sum := by
  induction a with
  | nil => simp
  | cons x r ih => simp only [List.cons_append, List.sum_cons, ih]; omega
theorem sum_one (x : Int) : [x].sum = x := by simp
theorem sum_nn : ∀ {l : List Int}, (∀ x ∈ l, 0 ≤ x) → 0 ≤ l.sum
  | [], _ => by simp
  | x :: r, h => by
    have h1 := h x (by simp)
    have h2 := sum_nn (l := r) fun y hy => h y (by simp [hy])
    rw [List.sum_cons]; omega
theorem nth_app_lt {a b : List Int} {i : Nat} (h : i < a.length) : nth (a ++ b) i = nth a i := by
  unfold nth; rw [List.getD_eq_getElem?_getD, List.getD_eq_getElem?_getD, List.getElem?_append_left h]
theorem nth_app_eq {a : List Int} {x : Int} {i : Nat} (h : i = a.length) : nth (a ++ [x]) i = x := by
  subst h; unfold nth; rw [List.getD_eq_getElem?_getD]; simp
theorem nth_set {l : List Int} {i j : Nat} {v : Int} (h : i < l.length) : nth (l.set i v) j = if j = i then v else nth l j := by
  unfold nth
  rw [List.getD_eq_getElem?_getD, List.getD_eq_getElem?_getD]
  by_cases c : j = i
  · subst c; rw [if_pos rfl, List.getElem?_set_self h]; rfl
  · rw [if_neg c, List.getElem?_set_ne (fun e => c e.symm)]
theorem sum_set : ∀ {l : List Int} {i : Nat} {v : Int}, i < l.length → (l.set i v).sum = l.sum - nth l i + v
  | [], i, v, h => by simp at h
  | x :: r, 0, v, h => by simp only [List.set_cons_zero, List.sum_cons, nth_cons0]; omega
  | x :: r, i + 1, v, h => by
    simp only [List.set_cons_succ, List.sum_cons, nth_succ]
    rw [sum_set (by simpa using h)]; omega
theorem nth_ext {a b : List Int} (hl : a.length = b.length) (h : ∀ i, i < a.length → nth a i = nth b i) : a = b := by
  apply List.ext_getElem hl
  intro i h1 h2
  have := h i h1
  rwa [nth_get h1, nth_get h2] at this
theorem nth_map {α : Type} (f : α → Int) (l : List α) (d : α) {i : Nat} (h : i < l.length) : nth (l.map f) i = f (l.getD i d) := by
  unfold nth; rw [List.getD_eq_getElem?_getD, List.getD_eq_getElem?_getD, List.getElem?_map, List.getElem?_eq_getElem h]; rfl
theorem nth_out {l : List Int} {i : Nat} (h : l.length ≤ i) : nth l i = 0 := by
  unfold nth; rw [List.getD_eq_getElem?_getD, List.getElem?_eq_none h]; rfl
theorem sum_le_nth : ∀ {a b : List Int}, a.length = b.length → (∀ i, i < a.length → nth a i ≤ nth b i) → a.sum ≤ b.sum
  | [], [], _, _ => by simp
  | [], _ :: _, h, _ => by simp at h
  | _ :: _, [], h, _ => by simp at h
  | x :: a, y :: b, h, k => by
    have h0 := k 0 (by simp)
    have := sum_le_nth (a := a) (b := b) (by simpa using h) fun i hi => k (i + 1) (by simpa using hi)
    rw [nth_cons0, nth_cons0] at h0
    rw [List.sum_cons, List.sum_cons]; omega
theorem sum_nth_nn {l : List Int} (h : ∀ i, i < l.length → 0 ≤ nth l i) : 0 ≤ l.sum := sum_nn fun x hx => by
  obtain ⟨i, hi, e⟩ := mem_nth hx
  rw [← e]; exact h i hi
/-- the sum of f over the places below n -/
def sm (n : Nat) (f : Nat → Int) : Int := ((List.range n).map f).sum
@[simp] theorem sm_zero (f : Nat → Int) : sm 0 f = 0 := rfl
theorem sm_succ (n : Nat) (f : Nat → Int) : sm (n + 1) f = sm n f + f n := by
  unfold sm; rw [List.range_succ, List.map_append, sum_app]; simp
theorem sm_congr {n : Nat} {f g : Nat → Int} (h : ∀ i, i < n → f i = g i) : sm n f = sm n g := by
  unfold sm; rw [List.map_congr_left fun i hi => h i (List.mem_range.mp hi)]
theorem sm_le {n : Nat} {f g : Nat → Int} (h : ∀ i, i < n → f i ≤ g i) : sm n f ≤ sm n g := by
  induction n with
  | zero => simp
  | succ n ih =>
    rw [sm_succ, sm_succ]
    have := h n (by omega)
    have := ih fun i hi => h i (by omega)
    omega
theorem sm_nn {n : Nat} {f : Nat → Int} (h : ∀ i, i < n → 0 ≤ f i) : 0 ≤ sm n f := by
  have := sm_le (n := n) (f := fun _ => 0) (g := f) h
  have e : sm n (fun _ => 0) = 0 := by
    clear this h
    induction n with
    | zero => rfl
    | succ n ih => rw [sm_succ, ih]; rfl
  omega
theorem sm_add (n : Nat) (f g : Nat → Int) : sm n (fun i => f i + g i) = sm n f + sm n g := by
  induction n with
  | zero => rfl
  | succ n ih => rw [sm_succ, sm_succ, sm_succ, ih]; omega
theorem sm_sub (n : Nat) (f g : Nat → Int) : sm n (fun i => f i - g i) = sm n f - sm n g := by
  induction n with
  | zero => rfl
  | succ n ih => rw [sm_succ, sm_succ, sm_succ, ih]; omega
theorem sm_mul (n : Nat) (c : Int) (f : Nat → Int) : sm n (fun i => c * f i) = c * sm n f := by
  induction n with
  | zero => simp
  | succ n ih => rw [sm_succ, sm_succ, ih, Int.mul_add]
theorem sm_comm (n m : Nat) (f : Nat → Nat → Int) : sm n (fun i => sm m fun j => f i j) = sm m fun j => sm n fun i => f i j := by
  induction n with
  | zero =>
    have : sm m (fun j => sm 0 fun i => f i j) = sm m fun _ => 0 := rfl
    rw [this]
    clear this
    induction m with
    | zero => rfl
    | succ m ih => rw [sm_succ, ← ih]; rfl
  | succ n ih =>
    rw [sm_succ, ih, ← sm_add]
    exact sm_congr fun j _ => (sm_succ n _).symm
theorem sm_zero' (n : Nat) : sm n (fun _ => 0) = 0 := by
  induction n with
  | zero => rfl
  | succ n ih => rw [sm_succ, ih]; rfl
theorem sum_sm (l : List Int) : l.sum = sm l.length (nth l) := by
  unfold sm
  congr 1
  refine nth_ext (by simp) fun i hi => ?_
  rw [nth_map _ _ 0 (by simpa using hi)]
  simp [List.getD_eq_getElem?_getD, hi]
theorem sm_range_map (n : Nat) (f : Nat → Int) : ((List.range n).map fun i => f i).sum = sm n f := rfl
theorem nth_range_map (n : Nat) (f : Nat → Int) {i : Nat} (h : i < n) : nth ((List.range n).map f) i = f i := by
  rw [nth_map _ _ 0 (by simpa using h)]; simp [List.getD_eq_getElem?_getD, h]
/-- one place taken out -/
theorem sm_upd {n : Nat} {f g : Nat → Int} {k : Nat} (hk : k < n) (h : ∀ i, i < n → i ≠ k → f i = g i) : sm n f = sm n g - g k + f k := by
  induction n with
  | zero => omega
  | succ n ih =>
    rw [sm_succ, sm_succ]
    by_cases c : k = n
    · subst c
      rw [sm_congr (g := g) fun i hi => h i (by omega) (by omega)]; omega
    · rw [ih (by omega) fun i hi ne => h i (by omega) ne, h n (by omega) fun e => c e.symm]; omega
theorem sm_le_one {n : Nat} {f : Nat → Int} (h : ∀ i, i < n → 0 ≤ f i) {k : Nat} (hk : k < n) : f k ≤ sm n f := by
  have := sm_upd (f := fun i => if i = k then 0 else f i) (g := f) hk fun i _ ne => if_neg ne
  have nn := sm_nn (n := n) (f := fun i => if i = k then 0 else f i) fun i hi => by
    by_cases c : i = k
    · simp [c]
    · simp [c, h i hi]
  simp only [if_true] at this
  omega
/-! a window's stretches -/
theorem cap_sum_go {m b e : Int} : ∀ {l : List Int}, SS l → b < e → b ∈ l → e ∈ l → ((prs l).map fun p => if b ≤ p.1 ∧ p.2 ≤ e then m * (p.2 - p.1) else 0).sum = m * (e - b)
  | [], _, _, h, _ => by simp at h
  | [a], _, hbe, hb, he => by
    simp at hb he; omega
  | a :: c :: r, s, hbe, hb, he => by
    have s' := List.pairwise_cons.mp s
    rw [prs, List.map_cons, List.sum_cons]
    have ac := s'.1 c (by simp)
    rcases List.mem_cons.mp he with e1 | e1
    · subst e1
      rcases List.mem_cons.mp hb with e2 | e2
      · omega
      · have := s'.1 b e2; omega
    · have cb : c ≤ e := by
        rcases List.mem_cons.mp e1 with z | z
        · omega
        · have := (List.pairwise_cons.mp s'.2).1 e z; omega
      rcases List.mem_cons.mp hb with e2 | e2
      · subst e2
        rw [if_pos ⟨Int.le_refl _, cb⟩]
        by_cases q : c = e
        · subst q
          have : ((prs (c :: r)).map fun p => if b ≤ p.1 ∧ p.2 ≤ c then m * (p.2 - p.1) else 0).sum = 0 := by
            have z : ∀ p ∈ prs (c :: r), (if b ≤ p.1 ∧ p.2 ≤ c then m * (p.2 - p.1) else 0) = 0 := fun p hp => by
              obtain ⟨i, hi, rfl⟩ := prs_mem hp
              rw [if_neg]
              rintro ⟨_, h2⟩
              have h3 := ss_get s'.2 (show 0 < i + 1 by omega) hi
              rw [nth_cons0] at h3
              have h2 : nth (c :: r) (i + 1) ≤ c := h2
              omega
            rw [List.map_congr_left z]
            clear z
            induction (prs (c :: r)) with
            | nil => rfl
            | cons _ _ ih => simpa using ih
          rw [this]; show m * (c - b) + 0 = _; omega
        · have ih := cap_sum_go (m := m) (b := c) (e := e) s'.2 (by omega) (by simp) e1
          have : ((prs (c :: r)).map fun p => if b ≤ p.1 ∧ p.2 ≤ e then m * (p.2 - p.1) else 0) = ((prs (c :: r)).map fun p => if c ≤ p.1 ∧ p.2 ≤ e then m * (p.2 - p.1) else 0) := by
            refine List.map_congr_left fun p hp => ?_
            obtain ⟨i, hi, rfl⟩ := prs_mem hp
            have h3 : c ≤ nth (c :: r) i := by
              rcases Nat.eq_zero_or_pos i with z | z
              · subst z; exact Int.le_refl _
              · have := ss_get s'.2 z (by omega); rw [nth_cons0] at this; omega
            have h4 : b ≤ nth (c :: r) i := by omega
            simp only [h3, h4, true_and]
          rw [this, ih, ← Int.mul_add]
          congr 1; omega
      · have ab := s'.1 b e2
        rw [if_neg (by omega), cap_sum_go s'.2 hbe e2 e1]; omega
theorem cap_sum {fl : List Ship} {s : Ship} (hs : s ∈ fl) (ok : s.Ok) : ((segs fl).map (capOf s)).sum = s.m * (s.e - s.b) :=
  cap_sum_go (bds_ss fl) ok.be (bds_mem.mpr ⟨s, hs, .inl rfl⟩) (bds_mem.mpr ⟨s, hs, .inr rfl⟩)
theorem cap_nn {s : Ship} {p : Int × Int} (ok : s.Ok) (h : p.1 < p.2) : 0 ≤ capOf s p := by
  unfold capOf; split
  · exact Int.mul_nonneg ok.m0 (by omega)
  · omega
/-! plans -/
@[simp] theorem ix_succ (l : List Int) (n : Nat) : ix l ((n : Int) + 1) = nth l (n + 1) := by
  unfold ix nth; congr 1
def at2 (pl : List (List Int)) (i s : Nat) : Int := nth (pl.getD i []) s
def cp (fl : List Ship) (i s : Nat) : Int := capOf (fl.getD i default) ((segs fl).getD s default)
def tot (pl : List (List Int)) (n : Nat) : List Int := (List.range n).map fun s => (pl.map fun row => nth row s).sum
@[simp] theorem tot_length (pl : List (List Int)) (n : Nat) : (tot pl n).length = n := by simp [tot]
structure IsPlan (fl : List Ship) (pl : List (List Int)) : Prop where
  len : pl.length = fl.length
  row : ∀ i, i < fl.length → (pl.getD i []).length = (segs fl).length
  nn : ∀ i s, i < fl.length → s < (segs fl).length → 0 ≤ at2 pl i s
  cap : ∀ i s, i < fl.length → s < (segs fl).length → at2 pl i s ≤ cp fl i s
  need : ∀ i, i < fl.length → (pl.getD i []).sum = (fl.getD i default).n
theorem getD_get {α : Type} [Inhabited α] {l : List α} {i : Nat} (h : i < l.length) (d : α) : l.getD i d = l[i] := by
  rw [List.getD_eq_getElem?_getD, List.getElem?_eq_getElem h]; rfl
theorem getD_mem {α : Type} {l : List α} {i : Nat} (h : i < l.length) (d : α) : l.getD i d ∈ l := by
  rw [List.getD_eq_getElem?_getD, List.getElem?_eq_getElem h]; exact List.getElem_mem h
theorem mem_getD {α : Type} {l : List α} {x : α} (h : x ∈ l) (d : α) : ∃ i, i < l.length ∧ l.getD i d = x := by
  obtain ⟨i, hi, e⟩ := List.mem_iff_getElem.mp h
  exact ⟨i, hi, by rw [List.getD_eq_getElem?_getD, List.getElem?_eq_getElem hi]; exact e⟩
theorem getD_dflt {α : Type} {l : List α} {i : Nat} (h : i < l.length) (d e : α) : l.getD i d = l.getD i e := by
  rw [List.getD_eq_getElem?_getD, List.getD_eq_getElem?_getD, List.getElem?_eq_getElem h]; rfl
theorem IsPlan.mem {fl : List Ship} {pl : List (List Int)} (h : IsPlan fl pl) {row : List Int} (m : row ∈ pl) : row.length = (segs fl).length := by
  obtain ⟨i, hi, e⟩ := mem_getD m []
  rw [← e]; exact h.row i (by rw [← h.len]; exact hi)
theorem nth_tot {pl : List (List Int)} {n s : Nat} (h : s < n) : nth (tot pl n) s = sm pl.length fun i => at2 pl i s := by
  unfold tot
  rw [nth_range_map n _ h, sum_sm, List.length_map]
  exact sm_congr fun i hi => by rw [nth_map _ _ [] hi]; rfl
theorem nth_lens {fl : List Ship} {s : Nat} (h : s < (segs fl).length) : nth (lens fl) s = ((segs fl).getD s default).2 - ((segs fl).getD s default).1 := by
  unfold lens; rw [nth_map _ _ default h]
theorem lens_pos {fl : List Ship} {s : Nat} (h : s < (segs fl).length) : 0 < nth (lens fl) s := by
  rw [nth_lens h]
  have := segs_lt (getD_mem h default)
  omega
theorem segs_bnd {fl : List Ship} (ok : ∀ s ∈ fl, s.Ok) {p : Int × Int} (h : p ∈ segs fl) : -100000000000000000 ≤ p.1 ∧ p.2 ≤ 100000000000000000 := by
  obtain ⟨i, hi, rfl⟩ := prs_mem h
  obtain ⟨s, hs, e⟩ := bds_mem.mp (nth_mem (show i < (bds fl).length by omega))
  obtain ⟨t, ht, e2⟩ := bds_mem.mp (nth_mem hi)
  have a := ok s hs
  have b := ok t ht
  have := a.be; have := b.be; have := a.b0; have := a.e1; have := b.b0; have := b.e1
  exact ⟨by show _ ≤ nth (bds fl) i; omega, by show nth (bds fl) (i + 1) ≤ _; omega⟩
theorem lens_bnd {fl : List Ship} (ok : ∀ s ∈ fl, s.Ok) {s : Nat} (h : s < (segs fl).length) : nth (lens fl) s ≤ 200000000000000000 := by
  rw [nth_lens h]
  have := segs_bnd ok (getD_mem h default)
  omega
theorem nth_caps {fl : List Ship} {i s : Nat} (hi : i < fl.length) (hs : s < (segs fl).length) : at2 (caps fl) i s = cp fl i s := by
  unfold at2 caps cp
  rw [List.getD_eq_getElem?_getD, List.getElem?_map, List.getElem?_eq_getElem hi]
  show nth ((segs fl).map (capOf fl[i])) s = _
  rw [nth_map _ _ default hs, getD_get hi]
theorem cp_nn {fl : List Ship} (ok : ∀ s ∈ fl, s.Ok) {i s : Nat} (hi : i < fl.length) (hs : s < (segs fl).length) : 0 ≤ cp fl i s := cap_nn (ok _ (getD_mem hi _)) (segs_lt (getD_mem hs _))
theorem cp_sum {fl : List Ship} (ok : ∀ s ∈ fl, s.Ok) {i : Nat} (hi : i < fl.length) : sm (segs fl).length (cp fl i) = (fl.getD i default).m * ((fl.getD i default).e - (fl.getD i default).b) := by
  rw [← cap_sum (getD_mem hi default) (ok _ (getD_mem hi _)), sum_sm, List.length_map]
  exact sm_congr fun s hs => by rw [nth_map _ _ default hs]; rfl
theorem SM_m {s : Ship} (ok : s.Ok) (x : Int) : SM s.m x := .inl (by have := ok.m0; have := ok.m1; omega)
theorem cp_of {fl : List Ship} {i s : Nat} : cp fl i s = if (fl.getD i default).b ≤ ((segs fl).getD s default).1 ∧ ((segs fl).getD s default).2 ≤ (fl.getD i default).e then (fl.getD i default).m * (((segs fl).getD s default).2 - ((segs fl).getD s default).1) else 0 := rfl
/-! what is above a number -/
@[simp] theorem ix_row (l : List (List Int)) (n : Nat) : ix l (n : Int) = l.getD n [] := rfl
def abv (ls ts : List Int) (k : Int) : Int := sm ls.length fun s => max 0 (nth ts s - k * nth ls s)
structure PartsOk (ps : List (Int × Int)) : Prop where
  len : ps.length ≤ 2000
  pos : ∀ i, i < ps.length → 0 < (ps.getD i default).2 - (ps.getD i default).1 ∧ (ps.getD i default).2 - (ps.getD i default).1 < 18446744073709551616
theorem PartsOk.of {fl : List Ship} (h : fl.length ≤ 1000) (ok : ∀ s ∈ fl, s.Ok) : PartsOk (segs fl) := ⟨by have := segs_le fl; omega, fun i hi => by
  have h1 := lens_pos hi
  have h2 := lens_bnd ok hi
  rw [nth_lens hi] at h1 h2
  omega⟩
structure Fits (pl : List (List Int)) (n : Nat) : Prop where
  len : pl.length ≤ 1000
  row : ∀ r ∈ pl, n ≤ r.length
theorem IsPlan.fits {fl : List Ship} {pl : List (List Int)} (h : IsPlan fl pl) (hl : fl.length ≤ 1000) : Fits pl (segs fl).length := ⟨by rw [h.len]; exact hl, fun r hr => by rw [h.mem hr]; exact Nat.le_refl _⟩
def plen (ps : List (Int × Int)) : List Int := ps.map fun p => p.2 - p.1
theorem plen_segs (fl : List Ship) : plen (segs fl) = lens fl := rfl
@[simp] theorem plen_length (ps : List (Int × Int)) : (plen ps).length = ps.length := by simp [plen]
theorem nth_plen {ps : List (Int × Int)} {s : Nat} (h : s < ps.length) : nth (plen ps) s = (ps.getD s default).2 - (ps.getD s default).1 := by
  unfold plen; rw [nth_map _ _ default h]
theorem zip_sum {a b : List Int} (f : Int → Int → Int) (h : a.length = b.length) : ((List.zip a b).map fun p : Int × Int => f p.1 p.2).sum = sm b.length fun s => f (nth a s) (nth b s) := by
  rw [sum_sm]
  have l : ((List.zip a b).map fun p : Int × Int => f p.1 p.2).length = b.length := by simp [List.length_zip]; omega
  rw [l]
  refine sm_congr fun i hi => ?_
  rw [nth_map _ _ default (by simp [List.length_zip]; omega)]
  have h1 : i < a.length := by omega
  rw [List.getD_eq_getElem?_getD, List.getElem?_zip_eq_some (z := (a[i], b[i])).mpr ⟨List.getElem?_eq_getElem h1, List.getElem?_eq_getElem hi⟩]
  show f a[i] b[i] = _
  rw [nth_get h1, nth_get hi]
theorem sum_hours (ls ts : List Int) (k : Int) : abv ls ts k - abv ls ts (k + 1) = sm ls.length fun s => max 0 (nth ts s - k * nth ls s) - max 0 (nth ts s - (k + 1) * nth ls s) := by
  unfold abv; rw [sm_sub]
/-! what must fall into marked stretches -/
def mk (l : List Bool) (i : Nat) : Bool := l.getD i false
@[simp] theorem ix_mk (l : List Bool) (i : Nat) : ix l (i : Int) = mk l i := rfl
/-- the room of a ship outside of the marks -/
def outOf (ps : List (Int × Int)) (m : Nat → Bool) (s : Ship) : Int := sm ps.length fun i => if m i then 0 else capOf s (ps.getD i default)
def wnt (ps : List (Int × Int)) (m : Nat → Bool) (fl : List Ship) : Int := (fl.map fun s => max 0 (s.n - outOf ps m s)).sum
def hrs (ps : List (Int × Int)) (m : Nat → Bool) : Int := sm ps.length fun i => if m i then (ps.getD i default).2 - (ps.getD i default).1 else 0
theorem sum_map_le {α : Type} {f g : α → Int} : ∀ {l : List α}, (∀ x ∈ l, f x ≤ g x) → (l.map f).sum ≤ (l.map g).sum
  | [], _ => by simp
  | x :: r, h => by
    have h1 := h x (by simp)
    have h2 := sum_map_le (l := r) fun y hy => h y (by simp [hy])
    simp only [List.map_cons, List.sum_cons]; omega
theorem sum_map_eq {α : Type} {f g : α → Int} {l : List α} (h : ∀ x ∈ l, f x = g x) : (l.map f).sum = (l.map g).sum := by rw [List.map_congr_left h]
theorem sum_map_add {α : Type} {f g : α → Int} : ∀ {l : List α}, (l.map fun x => f x + g x).sum = (l.map f).sum + (l.map g).sum
  | [] => by simp
  | x :: r => by
    have := sum_map_add (f := f) (g := g) (l := r)
    simp only [List.map_cons, List.sum_cons, this]; omega
theorem filt_zip_sum : ∀ {a : List Int} {b : List Bool} (f : Bool → Bool), a.length = b.length → (((List.zip a b).filter fun p : Int × Bool => f p.2).map fun p : Int × Bool => p.1).sum = sm a.length fun i => if f (mk b i) then nth a i else 0
  | [], [], f, _ => rfl
  | [], _ :: _, f, h => by simp at h
  | _ :: _, [], f, h => by simp at h
  | x :: a, y :: b, f, h => by
    have ih := filt_zip_sum (a := a) (b := b) f (by simpa using h)
    have e : sm (x :: a).length (fun i => if f (mk (y :: b) i) then nth (x :: a) i else 0) = (if f y then x else 0) + sm a.length fun i => if f (mk b i) then nth a i else 0 := by
      unfold sm
      rw [List.length_cons, List.range_succ_eq_map, List.map_cons, List.sum_cons, List.map_map]
      rfl
    rw [e, ← ih, List.zip_cons_cons, List.filter_cons]
    cases c : f y <;> simp
theorem filt_range_sum (n : Nat) (w : Nat → Bool) (f : Nat → Int) : (((List.range n).filter w).map f).sum = sm n fun i => if w i then f i else 0 := by
  induction n with
  | zero => rfl
  | succ n ih =>
    rw [List.range_succ, List.filter_append, List.map_append, sum_app, ih, sm_succ]
    congr 1
    cases c : w n <;> simp [c]
theorem outOf_nn {fl : List Ship} {s : Ship} (ok : s.Ok) (m : Nat → Bool) : 0 ≤ outOf (segs fl) m s := sm_nn fun i hi => by
  split
  · exact Int.le_refl _
  · exact cap_nn ok (segs_lt (getD_mem hi _))
theorem outOf_none {fl : List Ship} {s : Ship} (hs : s ∈ fl) (ok : s.Ok) : outOf (segs fl) (fun _ => false) s = s.m * (s.e - s.b) := by
  rw [← cap_sum hs ok, sum_sm, List.length_map]
  exact sm_congr fun i hi => by rw [nth_map _ _ default hi]; rfl
theorem outOf_all (ps : List (Int × Int)) (s : Ship) : outOf ps (fun _ => true) s = 0 := by
  unfold outOf; simp only [if_true]; exact sm_zero' _
theorem outOf_congr {ps : List (Int × Int)} {m m' : Nat → Bool} (h : ∀ i, i < ps.length → m i = m' i) (s : Ship) : outOf ps m s = outOf ps m' s := sm_congr fun i hi => by rw [h i hi]
theorem wnt_congr {ps : List (Int × Int)} {m m' : Nat → Bool} (h : ∀ i, i < ps.length → m i = m' i) (fl : List Ship) : wnt ps m fl = wnt ps m' fl := sum_map_eq fun s _ => by rw [outOf_congr h]
theorem outOf_mono {fl : List Ship} {s : Ship} (ok : s.Ok) {m m' : Nat → Bool} (h : ∀ i, i < (segs fl).length → m i = true → m' i = true) : outOf (segs fl) m' s ≤ outOf (segs fl) m s := sm_le fun i hi => by
  have c := cap_nn ok (segs_lt (getD_mem hi default))
  by_cases q : m i = true
  · rw [h i hi q, q]; exact Int.le_refl _
  · split <;> simp [q] <;> exact c
theorem outOf_both (ps : List (Int × Int)) (m m' : Nat → Bool) (s : Ship) : outOf ps (fun i => m i || m' i) s + outOf ps (fun i => m i && m' i) s = outOf ps m s + outOf ps m' s := by
  unfold outOf
  rw [← sm_add, ← sm_add]
  refine sm_congr fun i _ => ?_
  cases h : m i <;> cases h' : m' i <;> simp [h, h']
theorem wnt_mono {fl gl : List Ship} (ok : ∀ s ∈ gl, s.Ok) {m m' : Nat → Bool} (h : ∀ i, i < (segs fl).length → m i = true → m' i = true) : wnt (segs fl) m gl ≤ wnt (segs fl) m' gl := sum_map_le fun s hs => by
  have := outOf_mono (fl := fl) (ok s hs) h
  omega
theorem wnt_super {fl gl : List Ship} (ok : ∀ s ∈ gl, s.Ok) (m m' : Nat → Bool) : wnt (segs fl) m gl + wnt (segs fl) m' gl ≤ wnt (segs fl) (fun i => m i || m' i) gl + wnt (segs fl) (fun i => m i && m' i) gl := by
  unfold wnt
  rw [← sum_map_add, ← sum_map_add]
  refine sum_map_le fun s hs => ?_
  have a := outOf_both (segs fl) m m' s
  have b := outOf_mono (fl := fl) (ok s hs) (m := m) (m' := fun i => m i || m' i) fun i _ h => by simp [h]
  have c := outOf_mono (fl := fl) (ok s hs) (m := m') (m' := fun i => m i || m' i) fun i _ h => by simp [h]
  omega
theorem wnt_none {fl : List Ship} (ok : ∀ s ∈ fl, s.Ok) : wnt (segs fl) (fun _ => false) fl = 0 := by
  unfold wnt
  have : ∀ s ∈ fl, max 0 (s.n - outOf (segs fl) (fun _ => false) s) = (fun _ : Ship => (0 : Int)) s := fun s hs => by
    rw [outOf_none hs (ok s hs)]
    have := (ok s hs).n1
    show _ = (0 : Int)
    omega
  rw [List.map_congr_left this]
  clear this ok
  generalize segs fl = x
  clear x
  induction fl with
  | nil => rfl
  | cons s r ih => simpa using ih
theorem wnt_all {ps : List (Int × Int)} {fl : List Ship} (ok : ∀ s ∈ fl, s.Ok) : wnt ps (fun _ => true) fl = (fl.map fun s => s.n).sum := sum_map_eq fun s hs => by
  rw [outOf_all]; have := (ok s hs).n0; omega
theorem wnt_app (ps : List (Int × Int)) (m : Nat → Bool) (a b : List Ship) : wnt ps m (a ++ b) = wnt ps m a + wnt ps m b := by
  unfold wnt; rw [List.map_append, sum_app]
/-! bounds of fleets alike -/
theorem bds_congr {a b : List Ship} (h : ∀ x, (∃ s ∈ a, x = s.b ∨ x = s.e) ↔ ∃ s ∈ b, x = s.b ∨ x = s.e) : bds a = bds b :=
  ss_uniq (bds_ss a) (bds_ss b) fun x => by rw [bds_mem, bds_mem, h]
theorem segs_congr {a b : List Ship} (h : ∀ x, (∃ s ∈ a, x = s.b ∨ x = s.e) ↔ ∃ s ∈ b, x = s.b ∨ x = s.e) : segs a = segs b := by unfold segs; rw [bds_congr h]
theorem segs_swap (a b : List Ship) : segs (a ++ b) = segs (b ++ a) := segs_congr fun x => by
  simp only [List.mem_append]
  constructor <;> rintro ⟨s, h, k⟩ <;> exact ⟨s, h.symm, k⟩
def Ship.mv (d : Int) (s : Ship) : Ship := ⟨s.b + d, s.e + d, s.n, s.m⟩
theorem bds_mv (d : Int) (fl : List Ship) : bds (fl.map (Ship.mv d)) = (bds fl).map (· + d) := by
  refine ss_uniq (bds_ss _) ?_ fun x => ?_
  · rw [SS, List.pairwise_map]
    exact (bds_ss fl).imp fun h => by omega
  · rw [bds_mem, List.mem_map]
    constructor
    · rintro ⟨s, hs, h⟩
      obtain ⟨t, ht, rfl⟩ := List.mem_map.mp hs
      rcases h with h | h
      · exact ⟨t.b, bds_mem.mpr ⟨t, ht, .inl rfl⟩, h.symm⟩
      · exact ⟨t.e, bds_mem.mpr ⟨t, ht, .inr rfl⟩, h.symm⟩
    · rintro ⟨y, hy, rfl⟩
      obtain ⟨t, ht, h⟩ := bds_mem.mp hy
      refine ⟨t.mv d, List.mem_map.mpr ⟨t, ht, rfl⟩, ?_⟩
      rcases h with h | h
      · left; rw [h]; rfl
      · right; rw [h]; rfl
theorem prs_map (d : Int) : ∀ l : List Int, prs (l.map (· + d)) = (prs l).map fun p => (p.1 + d, p.2 + d)
  | [] => rfl
  | [a] => rfl
  | a :: b :: r => by
    have ih := prs_map d (b :: r)
    rw [List.map_cons] at ih
    simp only [List.map_cons, prs, ih]
theorem segs_mv (d : Int) (fl : List Ship) : segs (fl.map (Ship.mv d)) = (segs fl).map fun p => (p.1 + d, p.2 + d) := by
  unfold segs; rw [bds_mv, prs_map]
theorem getD_map' {α β : Type} (f : α → β) (l : List α) (d : α) (e : β) {i : Nat} (h : i < l.length) : (l.map f).getD i e = f (l.getD i d) := by
  rw [List.getD_eq_getElem?_getD, List.getD_eq_getElem?_getD, List.getElem?_map, List.getElem?_eq_getElem h]; rfl
theorem capOf_mv (d : Int) (s : Ship) (p : Int × Int) : capOf (s.mv d) (p.1 + d, p.2 + d) = capOf s p := by
  unfold capOf Ship.mv
  simp only [Int.add_le_add_iff_right]
  rw [show p.2 + d - (p.1 + d) = p.2 - p.1 by omega]
theorem wnt_mv (d : Int) (fl : List Ship) (m : Nat → Bool) : wnt (segs (fl.map (Ship.mv d))) m (fl.map (Ship.mv d)) = wnt (segs fl) m fl := by
  rw [segs_mv]
  unfold wnt
  rw [List.map_map]
  refine sum_map_eq fun s _ => ?_
  show max 0 (s.n - outOf ((segs fl).map fun p => (p.1 + d, p.2 + d)) m (s.mv d)) = _
  congr 2
  unfold outOf
  rw [List.length_map]
  exact sm_congr fun i hi => by rw [getD_map' _ _ default _ hi, capOf_mv]
theorem hrs_mv (d : Int) (fl : List Ship) (m : Nat → Bool) : hrs (segs (fl.map (Ship.mv d))) m = hrs (segs fl) m := by
  rw [segs_mv]
  unfold hrs
  rw [List.length_map]
  exact sm_congr fun i hi => by
    rw [getD_map' _ _ default _ hi]
    split <;> simp <;> omega
/-- a stretch lies in a ship's window, ahead of it or behind it -/
theorem seg_in {fl : List Ship} {s : Ship} {p : Int × Int} (hs : s ∈ fl) (hp : p ∈ segs fl) : p.2 ≤ s.b ∨ s.e ≤ p.1 ∨ (s.b ≤ p.1 ∧ p.2 ≤ s.e) := by
  obtain ⟨i, hi, rfl⟩ := prs_mem hp
  obtain ⟨j, hj, ej⟩ := mem_nth (bds_mem.mpr ⟨s, hs, .inl rfl⟩)
  obtain ⟨k, hk, ek⟩ := mem_nth (bds_mem.mpr ⟨s, hs, .inr rfl⟩)
  have mono : ∀ {a b : Nat}, a ≤ b → b < (bds fl).length → nth (bds fl) a ≤ nth (bds fl) b := fun {a b} h hb => by
    rcases Nat.eq_or_lt_of_le h with e | l
    · rw [e]; exact Int.le_refl _
    · have := ss_get (bds_ss fl) l hb; omega
  rw [← ej, ← ek]
  rcases Nat.lt_or_ge i j with l | l
  · exact .inl (mono l hj)
  · rcases Nat.lt_or_ge i k with l2 | l2
    · exact .inr (.inr ⟨mono l (by omega), mono l2 hk⟩)
    · exact .inr (.inl (mono l2 (by omega)))
/-- what a plan has in the marks -/
theorem plan_want {fl : List Ship} {pl : List (List Int)} (ok : ∀ s ∈ fl, s.Ok) (ip : IsPlan fl pl) (m : Nat → Bool) : wnt (segs fl) m fl ≤ sm (segs fl).length fun s => if m s then nth (tot pl (segs fl).length) s else 0 := by
  have e1 : (sm (segs fl).length fun s => if m s then nth (tot pl (segs fl).length) s else 0) = sm pl.length fun i => sm (segs fl).length fun s => if m s then at2 pl i s else 0 := by
    rw [sm_comm]
    refine sm_congr fun s hs => ?_
    rw [nth_tot hs]
    cases m s with
    | true => rfl
    | false => simp only [Bool.false_eq_true, if_false]; exact (sm_zero' _).symm
  rw [e1, ip.len]
  unfold wnt
  rw [sum_sm, List.length_map]
  refine sm_le fun i hi => ?_
  rw [nth_map _ _ default hi]
  have nd : sm (segs fl).length (at2 pl i) = (fl.getD i default).n := by
    rw [← ip.need i hi, sum_sm, ip.row i hi]; rfl
  have e2 : sm (segs fl).length (at2 pl i) = (sm (segs fl).length fun s => if m s then at2 pl i s else 0) + sm (segs fl).length fun s => if m s then 0 else at2 pl i s := by
    rw [← sm_add]
    exact sm_congr fun s _ => by cases m s <;> simp
  have e3 : (sm (segs fl).length fun s => if m s then 0 else at2 pl i s) ≤ outOf (segs fl) m (fl.getD i default) := sm_le fun s hs => by
    cases m s with
    | true => simp
    | false => simp only [Bool.false_eq_true, if_false]; exact ip.cap i s hi hs
  have e4 : 0 ≤ sm (segs fl).length fun s => if m s then at2 pl i s else 0 := sm_nn fun s hs => by
    cases m s with
    | true => simpa using ip.nn i s hi hs
    | false => simp
  omega
/-- above a number there is no less than the marks want beyond it -/
theorem abv_marks {ls ts : List Int} (k : Int) (m : Nat → Bool) : (sm ls.length fun s => if m s then nth ts s else 0) - k * (sm ls.length fun s => if m s then nth ls s else 0) ≤ abv ls ts k := by
  rw [← sm_mul, ← sm_sub]
  refine sm_le fun s _ => ?_
  cases m s with
  | true => simp only [if_true]; omega
  | false => simp only [Bool.false_eq_true, if_false, Int.mul_zero]; omega
theorem hrs_lens (fl : List Ship) (m : Nat → Bool) : hrs (segs fl) m = sm (lens fl).length fun s => if m s then nth (lens fl) s else 0 := by
  rw [lens_length]
  exact sm_congr fun s hs => by rw [nth_lens hs]
theorem prs_sum : ∀ l : List Int, ((prs l).map fun p => p.2 - p.1).sum = nth l (l.length - 1) - nth l 0
  | [] => rfl
  | [a] => by simp [prs]
  | a :: b :: r => by
    have ih := prs_sum (b :: r)
    rw [prs, List.map_cons, List.sum_cons, ih]
    simp only [List.length_cons, Nat.add_sub_cancel, nth_cons0]
    rw [nth_succ]; show b - a + (nth (b :: r) r.length - b) = _
    omega
theorem hrs_bnd {fl : List Ship} (ok : ∀ s ∈ fl, s.Ok) (m : Nat → Bool) : 0 ≤ hrs (segs fl) m ∧ hrs (segs fl) m ≤ 200000000000000000 := by
  have h0 : ∀ i, i < (segs fl).length → 0 ≤ if m i then ((segs fl).getD i default).2 - ((segs fl).getD i default).1 else 0 := fun i hi => by
    have := segs_lt (getD_mem hi default)
    split <;> omega
  refine ⟨sm_nn h0, ?_⟩
  have h1 : hrs (segs fl) m ≤ (lens fl).sum := by
    rw [hrs_lens, sum_sm]
    refine sm_le fun s hs => ?_
    have := lens_pos (fl := fl) (s := s) (by simpa using hs)
    split <;> omega
  have h2 : (lens fl).sum = nth (bds fl) ((bds fl).length - 1) - nth (bds fl) 0 := prs_sum _
  rcases Nat.eq_zero_or_pos (bds fl).length with z | z
  · have : bds fl = [] := List.eq_nil_of_length_eq_zero z
    rw [this] at h2
    simp [nth] at h2
    omega
  · obtain ⟨s, hs, e⟩ := bds_mem.mp (nth_mem (show 0 < (bds fl).length by omega))
    obtain ⟨t, ht, e2⟩ := bds_mem.mp (nth_mem (show (bds fl).length - 1 < (bds fl).length by omega))
    have a := ok s hs
    have b := ok t ht
    have := a.be; have := b.be; have := a.b0; have := a.e1; have := b.b0; have := b.e1
    omega
/-! marks, slices -/
theorem mk_map_c {α : Type} (l : List α) (b : Bool) {i : Nat} (h : i < l.length) : mk (l.map fun _ => b) i = b := by
  unfold mk; rw [List.getD_eq_getElem?_getD, List.getElem?_map, List.getElem?_eq_getElem h]; rfl
theorem mk_zip {a b : List Bool} (f : Bool → Bool → Bool) {i : Nat} (h1 : i < a.length) (h2 : i < b.length) : mk ((List.zip a b).map fun p : Bool × Bool => f p.1 p.2) i = f (mk a i) (mk b i) := by
  unfold mk
  rw [List.getD_eq_getElem?_getD, List.getElem?_map, List.getElem?_zip_eq_some (z := (a[i], b[i])).mpr ⟨List.getElem?_eq_getElem h1, List.getElem?_eq_getElem h2⟩, List.getD_eq_getElem?_getD, List.getD_eq_getElem?_getD, List.getElem?_eq_getElem h1, List.getElem?_eq_getElem h2]; rfl
theorem cutA_from {α : Type} (l : List α) {k : Int} (h0 : 0 ≤ k) (h1 : k ≤ l.length) : cutA l (some k) none = l.drop k.toNat := by
  obtain ⟨n, rfl⟩ : ∃ n : Nat, k = n := ⟨k.toNat, by omega⟩
  unfold cutA
  rw [HT.sIx_nat, HT.sIx_none, Nat.min_eq_left (by omega), Int.toNat_natCast]
  exact List.take_of_length_le (by simp)
theorem cutA_to {α : Type} (l : List α) {k : Int} (h0 : 0 ≤ k) (h1 : k ≤ l.length) : cutA l none (some k) = l.take k.toNat := by
  obtain ⟨n, rfl⟩ : ∃ n : Nat, k = n := ⟨k.toNat, by omega⟩
  unfold cutA
  rw [HT.sIx_nat, HT.sIx_none, Nat.min_eq_left (by omega), Int.toNat_natCast, Nat.sub_zero, List.drop_zero]
/-! crane hours dealt out -/
theorem div_spec {a b : Int} (hb : 0 < b) : b * (a / b) ≤ a ∧ a < b * (a / b) + b := by
  have h1 := Int.emod_add_mul_ediv a b
  have h2 := Int.emod_nonneg a (show b ≠ 0 by omega)
  have h3 := Int.emod_lt_of_pos a hb
  omega
theorem div_uniq {a b q : Int} (hb : 0 < b) (h1 : b * q ≤ a) (h2 : a < b * q + b) : a / b = q := by
  obtain ⟨k1, k2⟩ := div_spec (a := a) hb
  have e1 : q < a / b + 1 := by
    refine Int.lt_of_mul_lt_mul_left (a := b) ?_ (by omega)
    rw [Int.mul_add, Int.mul_one]; omega
  have e2 : a / b < q + 1 := by
    refine Int.lt_of_mul_lt_mul_left (a := b) ?_ (by omega)
    rw [Int.mul_add, Int.mul_one]; omega
  omega
theorem div_mono {a c b : Int} (hb : 0 < b) (h : a ≤ c) : a / b ≤ c / b := Int.ediv_le_ediv hb h
theorem div_addm {a b q : Int} (hb : 0 < b) : (a + b * q) / b = a / b + q := by
  rw [Int.add_mul_ediv_left _ _ (by omega)]
def dl (n off len : Int) : Int := (n - 1 - off) / len + 1
theorem dl_zero {off len : Int} (h0 : 0 ≤ off) (h1 : off < len) : dl 0 off len = 0 := by
  unfold dl
  rw [div_uniq (q := -1) (by omega) (by omega) (by omega)]; rfl
theorem dl_mono {n m off len : Int} (hl : 0 < len) (h : n ≤ m) : dl n off len ≤ dl m off len := by
  have := div_mono (a := n - 1 - off) (c := m - 1 - off) hl (by omega)
  unfold dl; omega
theorem dl_most {f many m off len : Int} (hl : 0 < len) (h : many ≤ m * len) : dl (f + many) off len - dl f off len ≤ m := by
  have h1 := div_mono (a := f + many - 1 - off) (c := (f - 1 - off) + len * m) hl (by rw [Int.mul_comm] at h; omega)
  rw [div_addm hl] at h1
  unfold dl; omega
theorem dl_count {f many off len : Int} (hl : 0 < len) (hm : 0 ≤ many) : (if f + many ≤ f + (off - f) % len then 0 else (f + many - 1 - (f + (off - f) % len)) / len + 1) = dl (f + many) off len - dl f off len := by
  have e0 := Int.emod_add_mul_ediv (off - f) len
  have m0 := Int.emod_nonneg (off - f) (show len ≠ 0 by omega)
  have m1 := Int.emod_lt_of_pos (off - f) hl
  generalize (off - f) % len = r at *
  generalize (off - f) / len = c at *
  have hq : (f - 1 - off) / len = -c - 1 := div_uniq hl (by rw [Int.mul_sub, Int.mul_neg]; omega) (by rw [Int.mul_sub, Int.mul_neg]; omega)
  unfold dl
  rw [hq]
  split
  · rename_i h
    rw [div_uniq (a := f + many - 1 - off) (q := -c - 1) hl (by rw [Int.mul_sub, Int.mul_neg]; omega) (by rw [Int.mul_sub, Int.mul_neg]; omega)]
    omega
  · rename_i h
    have : f + many - 1 - off = (f + many - 1 - (f + r)) + len * -c := by rw [Int.mul_neg]; omega
    rw [this, div_addm hl]; omega
theorem dl_load {t off len : Int} (h0 : 0 ≤ off) (h1 : off < len) : dl t off len = t / len + (if off < t % len then 1 else 0) := by
  have hl : 0 < len := by omega
  have e0 := Int.emod_add_mul_ediv t len
  have m0 := Int.emod_nonneg t (show len ≠ 0 by omega)
  have m1 := Int.emod_lt_of_pos t hl
  unfold dl
  generalize t % len = r at *
  generalize t / len = c at *
  split
  · rw [div_uniq (q := c) hl (by omega) (by omega)]
  · rw [div_uniq (q := c - 1) hl (by rw [Int.mul_sub]; omega) (by rw [Int.mul_sub]; omega)]; omega
theorem sm_tele (n : Nat) (g : Int → Int) (x : Int) : sm n (fun i => g (x - i) - g (x - 1 - i)) = g x - g (x - n) := by
  induction n with
  | zero => simp
  | succ n ih =>
    rw [sm_succ, ih, show x - 1 - (n : Int) = x - ((n + 1 : Nat) : Int) by omega]
    omega
theorem dl_sum {L : Nat} (hl : 0 < L) : ∀ n : Nat, sm L (fun off => dl n off L) = n
  | 0 => by
    show sm L (fun off => dl 0 off L) = 0
    rw [sm_congr (g := fun _ => 0) fun i hi => dl_zero (by omega) (by omega)]
    exact sm_zero' _
  | n + 1 => by
    have ih := dl_sum hl n
    have t := sm_tele L (fun x => x / (L : Int)) n
    have e : sm L (fun off => dl ((n + 1 : Nat) : Int) off L) - sm L (fun off => dl n off L) = sm L fun i => ((n : Int) - i) / (L : Int) - ((n : Int) - 1 - i) / (L : Int) := by
      rw [← sm_sub]
      refine sm_congr fun i _ => ?_
      unfold dl
      rw [show ((n + 1 : Nat) : Int) - 1 - (i : Int) = (n : Int) - i by omega]
      omega
    rw [ih, t] at e
    have h2 : ((n : Int) - L) / (L : Int) = (n : Int) / L - 1 := by
      have := div_addm (a := (n : Int)) (b := (L : Int)) (q := -1) (by omega)
      rw [show (n : Int) + (L : Int) * -1 = n - L by omega] at this
      omega
    rw [h2] at e
    omega
/-- the sum of the numbers of the rows ahead -/
def ahd (pl : List (List Int)) (i s : Nat) : Int := sm i fun j => at2 pl j s
theorem ahd_succ (pl : List (List Int)) (i s : Nat) : ahd pl (i + 1) s = ahd pl i s + at2 pl i s := sm_succ _ _
theorem IsPlan.ahd_nn {fl : List Ship} {pl : List (List Int)} (ip : IsPlan fl pl) {i s : Nat} (hi : i ≤ fl.length) (hs : s < (segs fl).length) : 0 ≤ ahd pl i s := sm_nn fun j hj => ip.nn j s (by omega) hs
/-- an hour in a stretch -/
def inS (fl : List Ship) (h : Int) (s : Nat) : Prop := s < (segs fl).length ∧ ((segs fl).getD s default).1 ≤ h ∧ h < ((segs fl).getD s default).2
theorem inS_uniq {fl : List Ship} {h : Int} {s t : Nat} (a : inS fl h s) (b : inS fl h t) : s = t := by
  obtain ⟨a1, a2, a3⟩ := a
  obtain ⟨b1, b2, b3⟩ := b
  rw [segs_get a1] at a2 a3
  rw [segs_get b1] at b2 b3
  have sl := segs_len fl
  have mono : ∀ {x y : Nat}, x ≤ y → y < (bds fl).length → nth (bds fl) x ≤ nth (bds fl) y := fun {x y} h hb => by
    rcases Nat.eq_or_lt_of_le h with e | l
    · rw [e]; exact Int.le_refl _
    · have := ss_get (bds_ss fl) l hb; omega
  rcases Nat.lt_trichotomy s t with l | l | l
  · have := mono (show s + 1 ≤ t by omega) (by omega)
    simp only at a2 a3 b2 b3; omega
  · exact l
  · have := mono (show t + 1 ≤ s by omega) (by omega)
    simp only at a2 a3 b2 b3; omega
open Classical in
/-- the stretch of an hour -/
noncomputable def stOf (fl : List Ship) (h : Int) : Option Nat := if x : ∃ s, inS fl h s then some x.choose else none
theorem stOf_some {fl : List Ship} {h : Int} {s : Nat} : stOf fl h = some s ↔ inS fl h s := by
  unfold stOf
  constructor
  · intro e
    split at e
    · rename_i x; cases e; exact x.choose_spec
    · cases e
  · intro a
    rw [dif_pos ⟨s, a⟩]
    congr 1
    exact inS_uniq (Exists.choose_spec (p := fun s => inS fl h s) ⟨s, a⟩) a
theorem stOf_none {fl : List Ship} {h : Int} : stOf fl h = none ↔ ∀ s, ¬ inS fl h s := by
  unfold stOf
  constructor
  · intro e s a
    rw [dif_pos ⟨s, a⟩] at e; cases e
  · intro a
    rw [dif_neg]
    rintro ⟨s, b⟩; exact a s b
def segL (fl : List Ship) (s : Nat) : Int := ((segs fl).getD s default).2 - ((segs fl).getD s default).1
noncomputable def crn (fl : List Ship) (pl : List (List Int)) (i : Nat) (h : Int) : Int := match stOf fl h with
  | none => 0
  | some s => dl (ahd pl (i + 1) s) (h - ((segs fl).getD s default).1) (segL fl s) - dl (ahd pl i s) (h - ((segs fl).getD s default).1) (segL fl s)
theorem segL_pos {fl : List Ship} {s : Nat} (h : s < (segs fl).length) : 0 < segL fl s := by
  have := segs_lt (getD_mem h default); unfold segL; omega
theorem segL_bnd {fl : List Ship} (ok : ∀ s ∈ fl, s.Ok) {s : Nat} (h : s < (segs fl).length) : segL fl s < 18446744073709551616 := by
  have := segs_bnd ok (getD_mem h default); unfold segL; omega
theorem filt_one {n s : Nat} {w : Nat → Bool} (hs : s < n) (h : ∀ t, t < n → (w t = true ↔ t = s)) : (List.range n).filter w = [s] := by
  induction n with
  | zero => omega
  | succ n ih =>
    rw [List.range_succ, List.filter_append]
    by_cases c : s = n
    · subst c
      have e : (List.range s).filter w = [] := List.filter_eq_nil_iff.mpr fun t ht => by
        have := List.mem_range.mp ht
        intro q
        have := (h t (by omega)).mp q
        omega
      rw [e]
      simp [(h s (by omega)).mpr rfl]
    · rw [ih (by omega) fun t ht => h t (by omega)]
      have : w n = false := by
        cases q : w n with
        | false => rfl
        | true => exact absurd ((h n (by omega)).mp q).symm c
      simp [this]
theorem inside_some {fl : List Ship} {h : Int} {s : Nat} (a : inS fl h s) : ((List.range (segs fl).length).filter fun t : Nat => (decide ((ix (segs fl) (t : Int)).1 ≤ h)) && (decide (h < (ix (segs fl) (t : Int)).2))) = [s] :=
  filt_one a.1 fun t ht => by
    rw [ix_nat, Bool.and_eq_true, decide_eq_true_eq, decide_eq_true_eq]
    exact ⟨fun b => inS_uniq ⟨ht, b.1, b.2⟩ a, fun e => by subst e; exact ⟨a.2.1, a.2.2⟩⟩
theorem inside_none {fl : List Ship} {h : Int} (a : ∀ s, ¬ inS fl h s) : ((List.range (segs fl).length).filter fun t : Nat => (decide ((ix (segs fl) (t : Int)).1 ≤ h)) && (decide (h < (ix (segs fl) (t : Int)).2))) = [] :=
  List.filter_eq_nil_iff.mpr fun t ht => by
    have := List.mem_range.mp ht
    rw [ix_nat, Bool.and_eq_true, decide_eq_true_eq, decide_eq_true_eq]
    exact fun b => a t ⟨this, b.1, b.2⟩
theorem at2_le {fl : List Ship} {pl : List (List Int)} (ok : ∀ s ∈ fl, s.Ok) (ip : IsPlan fl pl) {i s : Nat} (hi : i < fl.length) (hs : s < (segs fl).length) : at2 pl i s ≤ (fl.getD i default).m * segL fl s := by
  have h1 := ip.cap i s hi hs
  have o := ok _ (getD_mem hi default)
  have h2 := Int.mul_nonneg o.m0 (show 0 ≤ segL fl s by have := segL_pos hs; omega)
  unfold cp capOf at h1
  split at h1
  · exact h1
  · unfold segL at h2; unfold segL; omega
theorem crn_none {fl : List Ship} {pl : List (List Int)} {i : Nat} {h : Int} (a : ∀ s, ¬ inS fl h s) : crn fl pl i h = 0 := by
  unfold crn; rw [stOf_none.mpr a]
theorem crn_some {fl : List Ship} {pl : List (List Int)} {i : Nat} {h : Int} {s : Nat} (a : inS fl h s) : crn fl pl i h = dl (ahd pl i s + at2 pl i s) (h - ((segs fl).getD s default).1) (segL fl s) - dl (ahd pl i s) (h - ((segs fl).getD s default).1) (segL fl s) := by
  unfold crn; rw [stOf_some.mpr a]
  show dl (ahd pl (i + 1) s) _ _ - _ = _
  rw [ahd_succ]
theorem crn_bnd {fl : List Ship} {pl : List (List Int)} (ok : ∀ s ∈ fl, s.Ok) (ip : IsPlan fl pl) {i : Nat} (hi : i < fl.length) (h : Int) : 0 ≤ crn fl pl i h ∧ crn fl pl i h ≤ (fl.getD i default).m := by
  cases e : stOf fl h with
  | none =>
    rw [crn_none (stOf_none.mp e)]
    exact ⟨Int.le_refl _, (ok _ (getD_mem hi default)).m0⟩
  | some s =>
    have a := stOf_some.mp e
    have hl := segL_pos a.1
    rw [crn_some a]
    have nn := ip.nn i s hi a.1
    refine ⟨?_, dl_most hl (at2_le ok ip hi a.1)⟩
    have := dl_mono (n := ahd pl i s) (m := ahd pl i s + at2 pl i s) (off := h - ((segs fl).getD s default).1) hl (by omega)
    omega
/-! dicts -/
section
variable {β : Type}
theorem ahas_iff {l : List (Int × β)} {k : Int} : ahas l k = true ↔ ∃ v, aget l k = some v := by
  constructor
  · exact ahas_aget
  · rintro ⟨v, h⟩
    induction l with
    | nil => cases h
    | cons p r ih =>
      rw [aget] at h
      by_cases c : p.1 = k
      · simp [ahas, c]
      · rw [if_neg c] at h
        have := ih h
        simp only [ahas, List.any_cons, Bool.or_eq_true]
        exact .inr this
theorem aget_none {l : List (Int × β)} {k : Int} (h : ahas l k = false) : aget l k = none := by
  cases e : aget l k with
  | none => rfl
  | some v => rw [ahas_iff.mpr ⟨v, e⟩] at h; cases h
theorem aget_app {l m : List (Int × β)} {k : Int} : aget (l ++ m) k = (aget l k).or (aget m k) := by
  induction l with
  | nil => rfl
  | cons p r ih =>
    rw [List.cons_append, aget, aget]
    by_cases c : p.1 = k
    · rw [if_pos c, if_pos c]; rfl
    · rw [if_neg c, if_neg c, ih]
theorem aget_aset {l : List (Int × β)} {k j : Int} {v : β} : aget (aset l k v) j = if j = k ∧ ahas l k = true then some v else aget l j := by
  induction l with
  | nil => simp [aset, ahas, aget]
  | cons p r ih =>
    rw [aset, aget]
    by_cases c : p.1 = k
    · rw [if_pos c]
      by_cases d : p.1 = j
      · have : j = k := by rw [← d, c]
        rw [if_pos d, if_pos ⟨this, by simp [ahas, c]⟩]
      · have : j ≠ k := fun e => d (by rw [e, c])
        rw [if_neg d, ih, if_neg (fun z => this z.1), if_neg (fun z => this z.1), aget, if_neg d]
    · rw [if_neg c]
      by_cases d : p.1 = j
      · have : j ≠ k := fun e => c (by rw [d, e])
        rw [if_pos d, if_neg (fun z => this z.1), aget, if_pos d]
      · have e : ahas (p :: r) k = ahas r k := by simp [ahas, c]
        rw [if_neg d, ih, e]
        simp only [aget, if_neg d]
theorem aget_aput {l : List (Int × β)} {k j : Int} {v : β} : aget (aput l k v) j = if j = k then some v else aget l j := by
  unfold aput
  cases h : ahas l k with
  | true =>
    simp only [if_true]
    rw [aget_aset, h]
    simp
  | false =>
    simp only [Bool.false_eq_true, if_false]
    rw [aget_app]
    by_cases c : j = k
    · subst c
      rw [aget_none h, if_pos rfl]; simp [aget]
    · rw [if_neg c]
      have : aget [(k, v)] j = none := by simp [aget, Ne.symm c]
      rw [this]; simp
theorem ahas_aput {l : List (Int × β)} {k j : Int} {v : β} : ahas (aput l k v) j = (decide (j = k) || ahas l j) := by
  have h1 : ahas (aput l k v) j = true ↔ (j = k ∨ ahas l j = true) := by
    rw [ahas_iff, ahas_iff]
    constructor
    · rintro ⟨w, h⟩
      rw [aget_aput] at h
      by_cases c : j = k
      · exact .inl c
      · rw [if_neg c] at h; exact .inr ⟨w, h⟩
    · rintro (h | ⟨w, h⟩)
      · exact ⟨v, by rw [aget_aput, if_pos h]⟩
      · by_cases c : j = k
        · exact ⟨v, by rw [aget_aput, if_pos c]⟩
        · exact ⟨w, by rw [aget_aput, if_neg c, h]⟩
  by_cases c : j = k
  · rw [h1.mpr (.inl c)]; simp [c]
  · cases d : ahas l j with
    | true => rw [h1.mpr (.inr d)]; simp
    | false =>
      cases e : ahas (aput l k v) j with
      | false => simp [c]
      | true => rcases h1.mp e with z | z
                · exact absurd z c
                · rw [d] at z; cases z
theorem aput_new {l : List (Int × β)} {k : Int} {v : β} (h : ahas l k = false) : aput l k v = l ++ [(k, v)] := by unfold aput; rw [h]; rfl
theorem aput_len {l : List (Int × β)} {k : Int} {v : β} : (aput l k v).length ≤ l.length + 1 := by
  unfold aput
  split
  · have : ∀ l : List (Int × β), (aset l k v).length = l.length := fun l => by
      induction l with
      | nil => rfl
      | cons p r ih => rw [aset, List.length_cons, ih, List.length_cons]
    rw [this]; omega
  · simp
theorem ogt_of {l : List (Int × Option β)} {k : Int} {v : Option β} (h : aget l k = some v) : (ogt (aget l k) : Option β) = v := by rw [h]; rfl
end
/-! what may be filled -/
structure Shape (caps : List (List Int)) (needs tops : List Int) (part : List (List Int)) : Prop where
  n1 : needs.length ≤ 1000
  m1 : tops.length ≤ 2000
  cl : caps.length = needs.length
  pl : part.length = needs.length
  cr : ∀ i, i < needs.length → (caps.getD i []).length = tops.length
  pr : ∀ i, i < needs.length → (part.getD i []).length = tops.length
structure FOk (caps : List (List Int)) (needs tops : List Int) (part : List (List Int)) : Prop extends Shape caps needs tops part where
  nn : ∀ i s, i < needs.length → s < tops.length → 0 ≤ at2 part i s
  cap : ∀ i s, i < needs.length → s < tops.length → at2 part i s ≤ at2 caps i s
  row : ∀ i, i < needs.length → (part.getD i []).sum ≤ nth needs i
  col : ∀ s, s < tops.length → nth (tot part tops.length) s ≤ nth tops s
theorem Shape.fits {caps part : List (List Int)} {needs tops : List Int} (h : Shape caps needs tops part) : Fits part tops.length := ⟨by rw [h.pl]; exact h.n1, fun r hr => by
  obtain ⟨i, hi, e⟩ := mem_getD hr []
  rw [← e, h.pr i (by rw [← h.pl]; exact hi)]; exact Nat.le_refl _⟩
theorem ix2 (p : List (List Int)) (i s : Int) : ix (ix p i) s = at2 p i.toNat s.toNat := rfl
theorem ixr (p : List (List Int)) (i : Int) : ix p i = p.getD i.toNat [] := rfl
theorem ixi (p : List Int) (i : Int) : ix p i = nth p i.toNat := rfl
/-- what a search has come to: by rising numbers -/
structure Came (caps : List (List Int)) (needs tops : List Int) (part : List (List Int)) (ships : List (Int × Option Int)) (spots : List (Int × Int)) (rk : Int → Nat) : Prop where
  shk : ∀ i, ahas ships i = true → 0 ≤ i ∧ i < needs.length
  spk : ∀ s, ahas spots s = true → 0 ≤ s ∧ s < tops.length
  sp : ∀ s i, aget spots s = some i → ahas ships i = true ∧ at2 part i.toNat s.toNat < at2 caps i.toNat s.toNat
  sh0 : ∀ i, aget ships i = some none → (part.getD i.toNat []).sum < nth needs i.toNat
  sh1 : ∀ i s, aget ships i = some (some s) → ahas spots s = true ∧ 0 < at2 part i.toNat s.toNat ∧ ∀ j, aget spots s = some j → rk j < rk i
  rkb : ∀ i, ahas ships i = true → rk i < 1000
/-- nothing leads on -/
structure Shut (caps : List (List Int)) (needs tops : List Int) (part : List (List Int)) (ships : List (Int × Option Int)) (spots : List (Int × Int)) : Prop where
  st : ∀ i : Nat, i < needs.length → (part.getD i []).sum < nth needs i → ahas ships i = true
  out : ∀ i s : Nat, i < needs.length → s < tops.length → ahas ships i = true → ahas spots s = false → ¬ at2 part i s < at2 caps i s
  top : ∀ s : Nat, s < tops.length → ahas spots s = true → ¬ nth (tot part tops.length) s < nth tops s
  back : ∀ s i : Nat, s < tops.length → i < needs.length → ahas spots s = true → 0 < at2 part i s → ahas ships i = true
/-! changes in a part -/
theorem set2_len {α : Type} (p : List (List α)) (k l : Nat) (v : α) : (set2 p k l v).length = p.length := by unfold set2; simp
theorem set2_row {α : Type} {p : List (List α)} {k l j : Nat} {v : α} (hk : k < p.length) : (set2 p k l v).getD j [] = if j = k then (p.getD k []).set l v else p.getD j [] := by
  unfold set2
  rw [List.getD_eq_getElem?_getD]
  by_cases c : j = k
  · subst c
    rw [if_pos rfl, List.getElem?_set_self hk]; rfl
  · rw [if_neg c, List.getElem?_set_ne (fun e => c e.symm), ← List.getD_eq_getElem?_getD]
/-- a row's sum over its places -/
def rsum (p : List (List Int)) (i : Nat) : Int := (p.getD i []).sum
def siz (p : List (List Int)) : Int := sm p.length (rsum p)
theorem rsum_sm {p : List (List Int)} {i m : Nat} (h : (p.getD i []).length = m) : rsum p i = sm m (at2 p i) := by
  unfold rsum; rw [sum_sm, h]; rfl
theorem siz_tot {p : List (List Int)} {m : Nat} (h : ∀ i, i < p.length → (p.getD i []).length = m) : siz p = sm m fun s => nth (tot p m) s := by
  unfold siz
  rw [sm_congr fun i hi => rsum_sm (h i hi), sm_comm]
  exact sm_congr fun s hs => (nth_tot hs).symm
/-- what a filling gives: no more fits, and why -/
structure FilledOk (caps : List (List Int)) (needs tops : List Int) (part : List (List Int)) (r : List (List Int) × List Bool) : Prop where
  ok : FOk caps needs tops r.1
  ml : r.2.length = tops.length
  up : ∀ s, s < tops.length → nth (tot part tops.length) s ≤ nth (tot r.1 tops.length) s
  cut : ∃ SH : Nat → Bool, (∀ i, i < needs.length → SH i = false → rsum r.1 i = nth needs i) ∧ (∀ i s, i < needs.length → s < tops.length → SH i = true → mk r.2 s = false → at2 r.1 i s = at2 caps i s) ∧
    (∀ s, s < tops.length → mk r.2 s = true → nth (tot r.1 tops.length) s = nth tops s) ∧ ∀ i s, i < needs.length → s < tops.length → mk r.2 s = true → SH i = false → at2 r.1 i s = 0
/-- the size is the cut's -/
theorem filled_size {caps part : List (List Int)} {needs tops : List Int} {r : List (List Int) × List Bool} (h : FilledOk caps needs tops part r) :
    siz r.1 = sm needs.length (fun i => min (nth needs i) (sm tops.length fun s => if mk r.2 s then 0 else at2 caps i s)) + sm tops.length fun s => if mk r.2 s then nth tops s else 0 := by
  obtain ⟨SH, h1, h2, h3, h4⟩ := h.cut
  have o := h.ok
  have pl := o.pl
  have split : ∀ i, i < needs.length → rsum r.1 i = (sm tops.length fun s => if mk r.2 s then at2 r.1 i s else 0) + sm tops.length fun s => if mk r.2 s then 0 else at2 r.1 i s := fun i hi => by
    rw [rsum_sm (o.pr i hi), ← sm_add]
    exact sm_congr fun s _ => by cases mk r.2 s <;> simp
  unfold siz
  rw [pl, sm_congr split, sm_add, Int.add_comm]
  congr 1
  · refine sm_congr fun i hi => ?_
    have nn : ∀ s, s < tops.length → 0 ≤ at2 r.1 i s := fun s hs => o.nn i s hi hs
    have le : (sm tops.length fun s => if mk r.2 s then 0 else at2 r.1 i s) ≤ sm tops.length fun s => if mk r.2 s then 0 else at2 caps i s := sm_le fun s hs => by
      cases mk r.2 s with
      | true => simp
      | false => simpa using o.cap i s hi hs
    have le2 : (sm tops.length fun s => if mk r.2 s then 0 else at2 r.1 i s) ≤ rsum r.1 i := by
      rw [split i hi]
      have : 0 ≤ sm tops.length fun s => if mk r.2 s then at2 r.1 i s else 0 := sm_nn fun s hs => by
        cases mk r.2 s with
        | true => simpa using nn s hs
        | false => simp
      omega
    have rn := o.row i hi
    have rn : rsum r.1 i ≤ nth needs i := rn
    cases c : SH i with
    | true =>
      have e : (sm tops.length fun s => if mk r.2 s then 0 else at2 r.1 i s) = sm tops.length fun s => if mk r.2 s then 0 else at2 caps i s := sm_congr fun s hs => by
        cases d : mk r.2 s with
        | true => simp
        | false => simpa using h2 i s hi hs c d
      omega
    | false =>
      have e : (sm tops.length fun s => if mk r.2 s then at2 r.1 i s else 0) = 0 := by
        rw [sm_congr (g := fun _ => 0) fun s hs => ?_]
        · exact sm_zero' _
        · cases d : mk r.2 s with
          | true => simpa using h4 i s hi hs d c
          | false => simp
      have e2 := split i hi
      have e3 := h1 i hi c
      omega
  · rw [sm_comm]
    refine sm_congr fun s hs => ?_
    cases d : mk r.2 s with
    | true =>
      simp only [if_true]
      rw [← h3 s hs d, nth_tot hs, pl]
    | false =>
      simp only [Bool.false_eq_true, if_false]; exact sm_zero' _
/-! evening out: a cut parts it -/
section
variable (caps : List (List Int)) (needs long : List Int) (m : Nat)
def capS (S : Nat → Bool) (i : Nat) : Int := sm m fun s => if S s then at2 caps i s else 0
def wantS (S M : Nat → Bool) : Int := sm needs.length fun i => max 0 (nth needs i - capS caps m (fun s => S s && !M s) i)
def lenS (M : Nat → Bool) : Int := sm m fun s => if M s then nth long s else 0
def abvS (x : List (List Int)) (S : Nat → Bool) (k : Int) : Int := sm m fun s => if S s then max 0 (nth (tot x m) s - k * nth long s) else 0
/-- the cut's worth -/
def cutS (S M : Nat → Bool) (k : Int) : Int := (sm needs.length fun i => min (nth needs i) (capS caps m (fun s => S s && !M s) i)) + k * lenS long m M
end
structure LevOk (caps : List (List Int)) (needs long : List Int) (S : Nat → Bool) (x : List (List Int)) : Prop where
  len : x.length = needs.length
  row : ∀ i, i < needs.length → (x.getD i []).length = long.length
  nn : ∀ i s, i < needs.length → s < long.length → 0 ≤ at2 x i s
  cap : ∀ i s, i < needs.length → s < long.length → S s = true → at2 x i s ≤ at2 caps i s
  out : ∀ i s, i < needs.length → s < long.length → S s = false → at2 x i s = 0
  need : ∀ i, i < needs.length → rsum x i = nth needs i
  even : ∀ k : Int, 0 ≤ k → ∃ M : Nat → Bool, (∀ s, M s = true → S s = true) ∧ abvS long long.length x S k = wantS caps needs long.length S M - k * lenS long long.length M
theorem capS_split (caps : List (List Int)) (m : Nat) (S M : Nat → Bool) (i : Nat) : capS caps m S i = capS caps m (fun s => S s && M s) i + capS caps m (fun s => S s && !M s) i := by
  unfold capS
  rw [← sm_add]
  refine sm_congr fun s _ => ?_
  cases c : S s <;> cases d : M s <;> simp [c, d]
theorem lenS_split (long : List Int) (m : Nat) (S M : Nat → Bool) : lenS long m S = lenS long m (fun s => S s && M s) + lenS long m (fun s => S s && !M s) := by
  unfold lenS
  rw [← sm_add]
  refine sm_congr fun s _ => ?_
  cases c : S s <;> cases d : M s <;> simp [c, d]
theorem capS_congr {caps : List (List Int)} {m : Nat} {S T : Nat → Bool} (h : ∀ s, s < m → S s = T s) (i : Nat) : capS caps m S i = capS caps m T i := sm_congr fun s hs => by rw [h s hs]
theorem lenS_congr {long : List Int} {m : Nat} {S T : Nat → Bool} (h : ∀ s, s < m → S s = T s) : lenS long m S = lenS long m T := sm_congr fun s hs => by rw [h s hs]
theorem capS_nn {caps : List (List Int)} {m : Nat} {i : Nat} (h : ∀ s, s < m → 0 ≤ at2 caps i s) (S : Nat → Bool) : 0 ≤ capS caps m S i := sm_nn fun s hs => by
  cases S s with
  | true => simpa using h s hs
  | false => simp
/-- a part is no more than any cut's worth -/
theorem weak_dual {caps : List (List Int)} {needs tops : List Int} {x : List (List Int)} (o : FOk caps needs tops x) (M : Nat → Bool) :
    siz x ≤ (sm needs.length fun i => min (nth needs i) (sm tops.length fun s => if M s then 0 else at2 caps i s)) + sm tops.length fun s => if M s then nth tops s else 0 := by
  have pl := o.pl
  have split : ∀ i, i < needs.length → rsum x i = (sm tops.length fun s => if M s then at2 x i s else 0) + sm tops.length fun s => if M s then 0 else at2 x i s := fun i hi => by
    rw [rsum_sm (o.pr i hi), ← sm_add]
    exact sm_congr fun s _ => by cases M s <;> simp
  have a : siz x = (sm needs.length fun i => sm tops.length fun s => if M s then 0 else at2 x i s) + sm tops.length fun s => if M s then nth (tot x tops.length) s else 0 := by
    unfold siz
    rw [pl, sm_congr split, sm_add, Int.add_comm]
    congr 1
    rw [sm_comm]
    refine sm_congr fun s hs => ?_
    cases d : M s with
    | true => simp only [if_true]; rw [nth_tot hs, pl]
    | false => simp only [Bool.false_eq_true, if_false]; exact sm_zero' _
  have b : (sm needs.length fun i => sm tops.length fun s => if M s then 0 else at2 x i s) ≤ sm needs.length fun i => min (nth needs i) (sm tops.length fun s => if M s then 0 else at2 caps i s) := sm_le fun i hi => by
    have le : (sm tops.length fun s => if M s then 0 else at2 x i s) ≤ sm tops.length fun s => if M s then 0 else at2 caps i s := sm_le fun s hs => by
      cases M s with
      | true => simp
      | false => simpa using o.cap i s hi hs
    have nn : 0 ≤ sm tops.length fun s => if M s then at2 x i s else 0 := sm_nn fun s hs => by
      cases M s with
      | true => simpa using o.nn i s hi hs
      | false => simp
    have := split i hi
    have rn : rsum x i ≤ nth needs i := o.row i hi
    omega
  have c : (sm tops.length fun s => if M s then nth (tot x tops.length) s else 0) ≤ sm tops.length fun s => if M s then nth tops s else 0 := sm_le fun s hs => by
    cases M s with
    | true => simpa using o.col s hs
    | false => simp
  omega
/-- from the marks' wants to the cut -/
theorem want_cut (caps : List (List Int)) (needs long : List Int) (m : Nat) (S M : Nat → Bool) (k : Int) : wantS caps needs m S M - k * lenS long m M = (sm needs.length fun i => nth needs i) - cutS caps needs long m S M k := by
  have : wantS caps needs m S M = (sm needs.length fun i => nth needs i) - sm needs.length fun i => min (nth needs i) (capS caps m (fun s => S s && !M s) i) := by
    unfold wantS
    rw [← sm_sub]
    exact sm_congr fun i _ => by omega
  unfold cutS
  rw [this]; omega
/-- all load above a number, where each is no less -/
theorem abvS_full {long : List Int} {m : Nat} {x : List (List Int)} {S : Nat → Bool} {k : Int} (h : ∀ s, s < m → S s = true → k * nth long s ≤ nth (tot x m) s) : abvS long m x S k = (sm m fun s => if S s then nth (tot x m) s else 0) - k * lenS long m S := by
  unfold abvS lenS
  rw [← sm_mul, ← sm_sub]
  refine sm_congr fun s hs => ?_
  cases c : S s with
  | true => have := h s hs c; simp only [if_true]; omega
  | false => simp
theorem abvS_none {long : List Int} {m : Nat} {x : List (List Int)} {S : Nat → Bool} {k : Int} (h : ∀ s, s < m → S s = true → nth (tot x m) s ≤ k * nth long s) : abvS long m x S k = 0 := by
  unfold abvS
  rw [sm_congr (g := fun _ => 0) fun s hs => ?_]
  · exact sm_zero' _
  · cases c : S s with
    | true => have := h s hs c; simp only [if_true]; omega
    | false => simp
/-- the whole load -/
theorem LevOk.all {caps : List (List Int)} {needs long : List Int} {S : Nat → Bool} {x : List (List Int)} (h : LevOk caps needs long S x) : (sm long.length fun s => if S s then nth (tot x long.length) s else 0) = sm needs.length fun i => nth needs i := by
  rw [← sm_congr fun i hi => h.need i hi, sm_congr fun i hi => rsum_sm (h.row i hi), sm_comm]
  refine sm_congr fun s hs => ?_
  rw [nth_tot hs, h.len]
  cases c : S s with
  | true => rfl
  | false =>
    simp only [Bool.false_eq_true, if_false]
    rw [sm_congr (g := fun _ => 0) fun i hi => h.out i s hi hs c]; exact (sm_zero' _).symm
/-- the needs of the two parts -/
def moreOf (caps : List (List Int)) (needs : List Int) (m : Nat) (L : Nat → Bool) : List Int := (List.range needs.length).map fun i => max 0 (nth needs i - capS caps m L i)
def lessOf (caps : List (List Int)) (needs : List Int) (m : Nat) (L : Nat → Bool) : List Int := (List.range needs.length).map fun i => min (nth needs i) (capS caps m L i)
@[simp] theorem moreOf_len (caps : List (List Int)) (needs : List Int) (m : Nat) (L : Nat → Bool) : (moreOf caps needs m L).length = needs.length := by simp [moreOf]
@[simp] theorem lessOf_len (caps : List (List Int)) (needs : List Int) (m : Nat) (L : Nat → Bool) : (lessOf caps needs m L).length = needs.length := by simp [lessOf]
theorem nth_more {caps : List (List Int)} {needs : List Int} {m : Nat} {L : Nat → Bool} {i : Nat} (h : i < needs.length) : nth (moreOf caps needs m L) i = max 0 (nth needs i - capS caps m L i) := nth_range_map _ _ h
theorem nth_less {caps : List (List Int)} {needs : List Int} {m : Nat} {L : Nat → Bool} {i : Nat} (h : i < needs.length) : nth (lessOf caps needs m L) i = min (nth needs i) (capS caps m L i) := nth_range_map _ _ h
def addP (x y : List (List Int)) : List (List Int) := List.zipWith (fun r q => List.zipWith (· + ·) r q) x y
theorem addP_row {x y : List (List Int)} {i : Nat} (h1 : i < x.length) (h2 : i < y.length) : (addP x y).getD i [] = List.zipWith (· + ·) (x.getD i []) (y.getD i []) := by
  unfold addP
  rw [List.getD_eq_getElem?_getD, List.getElem?_zipWith, List.getElem?_eq_getElem h1, List.getElem?_eq_getElem h2, getD_get h1, getD_get h2]; rfl
theorem nth_zipAdd {a b : List Int} {s : Nat} (h1 : s < a.length) (h2 : s < b.length) : nth (List.zipWith (· + ·) a b) s = nth a s + nth b s := by
  unfold nth
  rw [List.getD_eq_getElem?_getD, List.getElem?_zipWith, List.getElem?_eq_getElem h1, List.getElem?_eq_getElem h2, getD_get h1, getD_get h2]; rfl
theorem lev_join {caps : List (List Int)} {needs long : List Int} {S M : Nat → Bool} {x y : List (List Int)} {k : Int} (k0 : 0 ≤ k)
    (cn : ∀ i s, i < needs.length → s < long.length → 0 ≤ at2 caps i s) (lp : ∀ s, s < long.length → 0 < nth long s) (MS : ∀ s, M s = true → S s = true)
    (mc : ∀ T : Nat → Bool, (∀ s, T s = true → S s = true) → cutS caps needs long long.length S M k ≤ cutS caps needs long long.length S T k)
    (hx : LevOk caps (moreOf caps needs long.length fun s => S s && !M s) long M x) (hy : LevOk caps (lessOf caps needs long.length fun s => S s && !M s) long (fun s => S s && !M s) y) : LevOk caps needs long S (addP x y) := by
  have lx := hx.len
  have ly := hy.len
  rw [moreOf_len] at lx
  rw [lessOf_len] at ly
  have xr : ∀ i, i < needs.length → (x.getD i []).length = long.length := fun i hi => hx.row i (by simpa using hi)
  have yr : ∀ i, i < needs.length → (y.getD i []).length = long.length := fun i hi => hy.row i (by simpa using hi)
  have al : (addP x y).length = needs.length := by unfold addP; rw [List.length_zipWith]; omega
  have aa : ∀ i s, i < needs.length → s < long.length → at2 (addP x y) i s = at2 x i s + at2 y i s := fun i s hi hs => by
    unfold at2
    rw [addP_row (by omega) (by omega), nth_zipAdd (by rw [xr i hi]; exact hs) (by rw [yr i hi]; exact hs)]
  have ar : ∀ i, i < needs.length → ((addP x y).getD i []).length = long.length := fun i hi => by
    rw [addP_row (by omega) (by omega), List.length_zipWith, xr i hi, yr i hi, Nat.min_self]
  have xn : ∀ i s, i < needs.length → s < long.length → 0 ≤ at2 x i s := fun i s hi hs => hx.nn i s (by simpa using hi) hs
  have yn : ∀ i s, i < needs.length → s < long.length → 0 ≤ at2 y i s := fun i s hi hs => hy.nn i s (by simpa using hi) hs
  have xo : ∀ i s, i < needs.length → s < long.length → M s = false → at2 x i s = 0 := fun i s hi hs h => hx.out i s (by simpa using hi) hs h
  have yo : ∀ i s, i < needs.length → s < long.length → (S s && !M s) = false → at2 y i s = 0 := fun i s hi hs h => hy.out i s (by simpa using hi) hs h
  have at' : ∀ s, s < long.length → nth (tot (addP x y) long.length) s = nth (tot x long.length) s + nth (tot y long.length) s := fun s hs => by
    rw [nth_tot hs, nth_tot hs, nth_tot hs, al, lx, ly, ← sm_add]
    exact sm_congr fun i hi => aa i s hi hs
  have xto : ∀ s, s < long.length → M s = false → nth (tot x long.length) s = 0 := fun s hs h => by
    rw [nth_tot hs, lx, sm_congr (g := fun _ => 0) fun i hi => xo i s hi hs h]; exact sm_zero' _
  have yto : ∀ s, s < long.length → (S s && !M s) = false → nth (tot y long.length) s = 0 := fun s hs h => by
    rw [nth_tot hs, ly, sm_congr (g := fun _ => 0) fun i hi => yo i s hi hs h]; exact sm_zero' _
  have ab : ∀ j : Int, abvS long long.length (addP x y) S j = abvS long long.length x M j + abvS long long.length y (fun s => S s && !M s) j := fun j => by
    unfold abvS
    rw [← sm_add]
    refine sm_congr fun s hs => ?_
    rw [at' s hs]
    cases c : S s with
    | true =>
      cases d : M s with
      | true => rw [yto s hs (by simp [c, d])]; simp [c, d]
      | false => rw [xto s hs d]; simp [c, d]
    | false =>
      have d : M s = false := by cases d : M s with
        | false => rfl
        | true => rw [MS s d] at c; cases c
      simp [c, d]
  -- the parts' sets within the whole
  have wl : ∀ T : Nat → Bool, (∀ s, T s = true → (S s && !M s) = true) → ∀ i, i < needs.length → min (nth needs i) (capS caps long.length (fun s => S s && !(M s || T s)) i) = min (nth (lessOf caps needs long.length fun s => S s && !M s) i) (capS caps long.length (fun s => (S s && !M s) && !T s) i) := fun T hT i hi => by
    have e : capS caps long.length (fun s => S s && !(M s || T s)) i = capS caps long.length (fun s => (S s && !M s) && !T s) i := capS_congr (fun s _ => by cases S s <;> cases M s <;> cases T s <;> rfl) i
    have sp := capS_split caps long.length (fun s => S s && !M s) T i
    have nn := capS_nn (fun s hs => cn i s hi hs) (fun s => (S s && !M s) && T s)
    rw [e, nth_less hi]
    omega
  have wh : ∀ T : Nat → Bool, (∀ s, T s = true → M s = true) → ∀ i, i < needs.length → min (nth needs i) (capS caps long.length (fun s => S s && !T s) i) = min (nth needs i) (capS caps long.length (fun s => S s && !M s) i) + min (nth (moreOf caps needs long.length fun s => S s && !M s) i) (capS caps long.length (fun s => M s && !T s) i) := fun T hT i hi => by
    have e : capS caps long.length (fun s => S s && !T s) i = capS caps long.length (fun s => S s && !M s) i + capS caps long.length (fun s => M s && !T s) i := by
      unfold capS
      rw [← sm_add]
      refine sm_congr fun s _ => ?_
      cases d : T s with
      | true => simp [d, hT s d]
      | false =>
        cases c : M s with
        | true => simp [c, d, MS s c]
        | false => cases e : S s <;> simp [c, d, e]
    have nn := capS_nn (fun s hs => cn i s hi hs) (fun s => M s && !T s)
    rw [e, nth_more hi]
    omega
  have cl : ∀ (T : Nat → Bool) (j : Int), (∀ s, T s = true → (S s && !M s) = true) → cutS caps needs long long.length S (fun s => M s || T s) j = cutS caps (lessOf caps needs long.length fun s => S s && !M s) long long.length (fun s => S s && !M s) T j + j * lenS long long.length M := fun T j hT => by
    unfold cutS
    rw [lessOf_len, sm_congr fun i hi => wl T hT i hi]
    have : lenS long long.length (fun s => M s || T s) = lenS long long.length M + lenS long long.length T := by
      unfold lenS
      rw [← sm_add]
      refine sm_congr fun s _ => ?_
      cases d : T s with
      | true => have := hT s d; simp at this; simp [d, this.2]
      | false => simp [d]
    rw [this, Int.mul_add]
    dsimp only
    omega
  have ch : ∀ (T : Nat → Bool) (j : Int), (∀ s, T s = true → M s = true) → cutS caps needs long long.length S T j = (sm needs.length fun i => min (nth needs i) (capS caps long.length (fun s => S s && !M s) i)) + cutS caps (moreOf caps needs long.length fun s => S s && !M s) long long.length M T j := fun T j hT => by
    unfold cutS
    rw [moreOf_len, sm_congr fun i hi => wh T hT i hi, sm_add]; omega
  have nl : (sm (lessOf caps needs long.length fun s => S s && !M s).length fun i => nth (lessOf caps needs long.length fun s => S s && !M s) i) = sm needs.length fun i => min (nth needs i) (capS caps long.length (fun s => S s && !M s) i) := by
    rw [lessOf_len]; exact sm_congr fun i hi => nth_less hi
  have nm : (sm needs.length fun i => nth needs i) = (sm needs.length fun i => min (nth needs i) (capS caps long.length (fun s => S s && !M s) i)) + sm (moreOf caps needs long.length fun s => S s && !M s).length fun i => nth (moreOf caps needs long.length fun s => S s && !M s) i := by
    rw [moreOf_len, ← sm_add]
    exact sm_congr fun i hi => by rw [nth_more hi]; omega
  -- high ones are high
  have high : ∀ s, s < long.length → M s = true → k * nth long s ≤ nth (tot x long.length) s := fun s hs hm => by
    obtain ⟨T, hT, eT⟩ := hx.even k k0
    rw [want_cut] at eT
    have c1 := mc T fun s h => MS s (hT s h)
    rw [ch T k hT] at c1
    have c2 : cutS caps needs long long.length S M k = (sm needs.length fun i => min (nth needs i) (capS caps long.length (fun s => S s && !M s) i)) + k * lenS long long.length M := rfl
    have tot' := hx.all
    have low : abvS long long.length x M k ≤ (sm long.length fun s => if M s then nth (tot x long.length) s else 0) - k * lenS long long.length M := by rw [eT, tot']; omega
    have up : ∀ t, t < long.length → (if M t then max 0 (nth (tot x long.length) t - k * nth long t) else 0) - (if M t then nth (tot x long.length) t else 0) + k * (if M t then nth long t else 0) ≥ 0 := fun t _ => by
      cases M t with
      | true => simp only [if_true]; omega
      | false => simp
    have one := sm_le_one (n := long.length) (f := fun t => (if M t then max 0 (nth (tot x long.length) t - k * nth long t) else 0) - (if M t then nth (tot x long.length) t else 0) + k * (if M t then nth long t else 0)) up hs
    rw [sm_add, sm_sub, sm_mul] at one
    simp only [hm, if_true] at one
    unfold abvS lenS at low
    omega
  -- low ones are low
  have lows : ∀ s, s < long.length → (S s && !M s) = true → nth (tot y long.length) s ≤ k * nth long s := fun s hs hm => by
    obtain ⟨T, hT, eT⟩ := hy.even k k0
    rw [want_cut] at eT
    have c1 := mc (fun s => M s || T s) fun s h => by
      simp only [Bool.or_eq_true] at h
      rcases h with h | h
      · exact MS s h
      · have := hT s h; simp at this; exact this.1
    rw [cl T k hT] at c1
    have c2 : cutS caps needs long long.length S M k = (sm needs.length fun i => min (nth needs i) (capS caps long.length (fun s => S s && !M s) i)) + k * lenS long long.length M := rfl
    have low : abvS long long.length y (fun s => S s && !M s) k ≤ 0 := by rw [eT, nl]; omega
    have up : ∀ t, t < long.length → 0 ≤ (if (S t && !M t) then max 0 (nth (tot y long.length) t - k * nth long t) else 0) := fun t _ => by
      split
      · omega
      · exact Int.le_refl _
    have one := sm_le_one (n := long.length) (f := fun t => if (S t && !M t) then max 0 (nth (tot y long.length) t - k * nth long t) else 0) up hs
    simp only [hm, if_true] at one
    simp only [abvS] at low
    omega
  refine ⟨al, ar, fun i s hi hs => ?_, fun i s hi hs hS => ?_, fun i s hi hs hS => ?_, fun i hi => ?_, fun j hj => ?_⟩
  · rw [aa i s hi hs]
    have := xn i s hi hs
    have := yn i s hi hs
    omega
  · rw [aa i s hi hs]
    cases d : M s with
    | true =>
      rw [yo i s hi hs (by simp [d])]
      have := hx.cap i s (by simpa using hi) hs d
      omega
    | false =>
      rw [xo i s hi hs d]
      have := hy.cap i s (by simpa using hi) hs (by simp [hS, d])
      omega
  · rw [aa i s hi hs]
    have d : M s = false := by cases d : M s with
      | false => rfl
      | true => rw [MS s d] at hS; cases hS
    rw [xo i s hi hs d, yo i s hi hs (by simp [hS])]; rfl
  · rw [rsum_sm (ar i hi), sm_congr fun s hs => aa i s hi hs, sm_add, ← rsum_sm (xr i hi), ← rsum_sm (yr i hi), hx.need i (by simpa using hi), hy.need i (by simpa using hi), nth_more hi, nth_less hi]
    omega
  · rw [ab]
    have ml : ∀ s, s < long.length → 0 < nth long s := lp
    by_cases c : j ≤ k
    · obtain ⟨T, hT, eT⟩ := hy.even j hj
      refine ⟨fun s => M s || T s, fun s h => ?_, ?_⟩
      · simp only [Bool.or_eq_true] at h
        rcases h with h | h
        · exact MS s h
        · have := hT s h; simp at this; exact this.1
      · have f : abvS long long.length x M j = (sm long.length fun s => if M s then nth (tot x long.length) s else 0) - j * lenS long long.length M := abvS_full fun s hs h => by
          have a := high s hs h
          have b := Int.mul_le_mul_of_nonneg_right c (Int.le_of_lt (ml s hs))
          omega
        rw [f, hx.all, eT, want_cut, want_cut, cl T j hT, nl, nm]
        omega
    · obtain ⟨T, hT, eT⟩ := hx.even j hj
      refine ⟨T, fun s h => MS s (hT s h), ?_⟩
      have f : abvS long long.length y (fun s => S s && !M s) j = 0 := abvS_none fun s hs h => by
        have a := lows s hs h
        have b := Int.mul_le_mul_of_nonneg_right (show k ≤ j by omega) (Int.le_of_lt (ml s hs))
        omega
      rw [f, eT, want_cut, want_cut, ch T j hT, nm]
      omega
/-! marks of hours -/
theorem sm_cut (a m : Nat) (f : Nat → Int) : sm (a + m) f = sm a f + sm m fun i => f (a + i) := by
  induction m with
  | zero => simp
  | succ m ih => rw [← Nat.add_assoc, sm_succ, ih, sm_succ]; omega
theorem sm_win {N a L : Nat} (h : a + L ≤ N) (f : Nat → Int) (g : Nat → Int) (hin : ∀ t, t < L → f (a + t) = g t) (hout : ∀ t, t < N → ¬ (a ≤ t ∧ t < a + L) → f t = 0) : sm N f = sm L g := by
  obtain ⟨d, rfl⟩ : ∃ d, N = a + (L + d) := ⟨N - a - L, by omega⟩
  rw [sm_cut, sm_cut]
  rw [sm_congr (n := a) (g := fun _ => 0) fun i hi => hout i (by omega) (by omega), sm_zero']
  rw [sm_congr (n := d) (g := fun _ => 0) fun i hi => hout _ (by omega) (by omega), sm_zero']
  rw [sm_congr hin]; omega
theorem crn_z0 {fl : List Ship} {pl : List (List Int)} {i : Nat} {h : Int} {s : Nat} (a : inS fl h s) (z : at2 pl i s = 0) : crn fl pl i h = 0 := by
  rw [crn_some a, z, Int.add_zero]; omega
theorem at2_o0 {fl : List Ship} {pl : List (List Int)} (ip : IsPlan fl pl) {i s : Nat} (hi : i < fl.length) (hs : s < (segs fl).length) (h : ¬ ((fl.getD i default).b ≤ ((segs fl).getD s default).1 ∧ ((segs fl).getD s default).2 ≤ (fl.getD i default).e)) : at2 pl i s = 0 := by
  have c := ip.cap i s hi hs
  have n := ip.nn i s hi hs
  rw [cp_of, if_neg h] at c
  omega
theorem crn_o0 {fl : List Ship} {pl : List (List Int)} (ip : IsPlan fl pl) {i : Nat} {h : Int} (hi : i < fl.length) (o : h < (fl.getD i default).b ∨ (fl.getD i default).e ≤ h) : crn fl pl i h = 0 := by
  cases q : stOf fl h with
  | none => exact crn_none (stOf_none.mp q)
  | some s =>
    have a := stOf_some.mp q
    refine crn_z0 a (at2_o0 ip hi a.1 ?_)
    have := a.2
    omega
theorem sm_const (n : Nat) (c : Int) : sm n (fun _ => c) = n * c := by
  induction n with
  | zero => simp [sm]
  | succ n ih => rw [sm_succ, ih]; simp only [Int.natCast_add, Int.natCast_one]; rw [Int.add_mul]; omega
theorem sm_pick {n s0 : Nat} (h : s0 < n) (v : Nat → Int) {w : Nat → Prop} [DecidablePred w] (hw : ∀ s, s < n → (w s ↔ s = s0)) : sm n (fun s => if w s then v s else 0) = v s0 := by
  rw [sm_upd (f := fun s => if w s then v s else 0) (g := fun _ => 0) (k := s0) h fun i hi ne => by
    show (if w i then v i else 0) = 0
    rw [if_neg fun c => ne ((hw i hi).mp c)], sm_zero']
  simp only [(hw s0 h).mpr rfl, if_true]; omega
/-- all windows lie in the hours looked at -/
def Cov (fl : List Ship) (lo : Int) (N : Nat) : Prop := ∀ s ∈ fl, lo ≤ s.b ∧ s.b < s.e ∧ s.e ≤ lo + N
theorem Cov.bd {fl : List Ship} {lo : Int} {N : Nat} (h : Cov fl lo N) {x : Int} (hx : x ∈ bds fl) : lo ≤ x ∧ x ≤ lo + N := by
  obtain ⟨s, hs, e⟩ := bds_mem.mp hx
  have := h s hs
  omega
theorem Cov.seg {fl : List Ship} {lo : Int} {N : Nat} (h : Cov fl lo N) {s : Nat} (hs : s < (segs fl).length) : lo ≤ ((segs fl).getD s default).1 ∧ ((segs fl).getD s default).2 ≤ lo + N := by
  rw [segs_get hs]
  have sl := segs_len fl
  exact ⟨(h.bd (nth_mem (by omega))).1, (h.bd (nth_mem (by omega))).2⟩
/-- a sum over the hours, stretch by stretch -/
theorem sm_part {fl : List Ship} {lo : Int} {N : Nat} (cv : Cov fl lo N) (f : Nat → Int → Int) :
    (sm N fun t => match stOf fl (lo + (t : Int)) with | none => 0 | some s => f s (lo + (t : Int) - ((segs fl).getD s default).1)) = sm (segs fl).length fun s => sm (segL fl s).toNat fun o => f s (o : Int) := by
  have e : ∀ t : Nat, t < N → (match stOf fl (lo + (t : Int)) with | none => 0 | some s => f s (lo + (t : Int) - ((segs fl).getD s default).1)) = sm (segs fl).length fun s => if ((segs fl).getD s default).1 ≤ lo + (t : Int) ∧ lo + (t : Int) < ((segs fl).getD s default).2 then f s (lo + (t : Int) - ((segs fl).getD s default).1) else 0 := fun t _ => by
    cases q : stOf fl (lo + (t : Int)) with
    | none =>
      have a := stOf_none.mp q
      rw [sm_congr (g := fun _ => 0) fun s hs => if_neg fun c => a s ⟨hs, c.1, c.2⟩, sm_zero']
    | some s0 =>
      have a := stOf_some.mp q
      exact (sm_pick a.1 (fun s => f s (lo + (t : Int) - ((segs fl).getD s default).1)) fun s hs => ⟨fun c => inS_uniq ⟨hs, c.1, c.2⟩ a, fun c => by subst c; exact a.2⟩).symm
  rw [sm_congr e, sm_comm]
  refine sm_congr fun s hs => ?_
  have b := cv.seg hs
  have lt := segs_lt (getD_mem hs (default : Int × Int))
  refine sm_win (a := (((segs fl).getD s default).1 - lo).toNat) (L := (segL fl s).toNat) ?_ _ _ ?_ ?_
  · unfold segL; omega
  · intro t ht
    unfold segL at ht
    rw [if_pos (by omega)]
    congr 1; omega
  · intro t ht o
    unfold segL at o
    rw [if_neg (by omega)]
/-- an hour in a window lies in a stretch -/
theorem win_st {fl : List Ship} {s : Ship} (hs : s ∈ fl) {h : Int} (h1 : s.b ≤ h) (h2 : h < s.e) : ∃ t, inS fl h t := by
  have c := prs_count (bds_ss fl) h
  have hb : s.b ∈ bds fl := bds_mem.mpr ⟨s, hs, .inl rfl⟩
  have he : s.e ∈ bds fl := bds_mem.mpr ⟨s, hs, .inr rfl⟩
  obtain ⟨i, hi, ei⟩ := mem_nth hb
  obtain ⟨j, hj, ej⟩ := mem_nth he
  have a1 : nth (bds fl) 0 ≤ s.b := by
    rcases Nat.eq_zero_or_pos i with z | z
    · rw [z] at ei; omega
    · have := ss_get (bds_ss fl) z hi; omega
  have a2 : s.e ≤ nth (bds fl) ((bds fl).length - 1) := by
    rcases Nat.eq_or_lt_of_le (show j ≤ (bds fl).length - 1 by omega) with z | z
    · rw [← z]; omega
    · have := ss_get (bds_ss fl) z (by omega); omega
  rw [if_pos ⟨by omega, by omega⟩] at c
  cases q : (prs (bds fl)).filter (fun p => decide (p.1 ≤ h) && decide (h < p.2)) with
  | nil => rw [q] at c; simp at c
  | cons p r =>
    have m : p ∈ (prs (bds fl)).filter (fun p => decide (p.1 ≤ h) && decide (h < p.2)) := by rw [q]; simp
    obtain ⟨m1, m2⟩ := List.mem_filter.mp m
    simp only [Bool.and_eq_true, decide_eq_true_eq] at m2
    obtain ⟨t, ht, e⟩ := mem_getD (l := segs fl) m1 default
    exact ⟨t, ht, by rw [e]; exact m2.1, by rw [e]; exact m2.2⟩
/-- how many of the hours are marked; what a fleet wants in them -/
def hcnt (H : Int → Bool) (lo : Int) (N : Nat) : Int := sm N fun t => if H (lo + (t : Int)) then 1 else 0
def hout (H : Int → Bool) (lo : Int) (N : Nat) (s : Ship) : Int := sm N fun t => if (s.b ≤ lo + (t : Int) ∧ lo + (t : Int) < s.e) ∧ H (lo + (t : Int)) = false then 1 else 0
def hwnt (H : Int → Bool) (lo : Int) (N : Nat) (fl : List Ship) : Int := (fl.map fun s => max 0 (s.n - s.m * hout H lo N s)).sum
noncomputable def hOf (fl : List Ship) (M : Nat → Bool) (h : Int) : Bool := match stOf fl h with | none => false | some s => M s
theorem hrs_hcnt {fl : List Ship} {lo : Int} {N : Nat} (cv : Cov fl lo N) (M : Nat → Bool) : hcnt (hOf fl M) lo N = hrs (segs fl) M := by
  have p := sm_part cv fun s _ => if M s then 1 else 0
  unfold hcnt hrs
  rw [sm_congr (g := fun t : Nat => match stOf fl (lo + (t : Int)) with | none => 0 | some s => if M s then 1 else 0) fun t _ => by
    unfold hOf
    cases stOf fl (lo + (t : Int)) <;> rfl]
  rw [p]
  refine sm_congr fun s hs => ?_
  rw [sm_const]
  have := segL_pos hs
  unfold segL at *
  cases M s with
  | true => rw [if_pos rfl, if_pos rfl]; omega
  | false => simp
theorem out_hout {fl : List Ship} {lo : Int} {N : Nat} (cv : Cov fl lo N) (M : Nat → Bool) {s : Ship} (hs : s ∈ fl) : s.m * hout (hOf fl M) lo N s = outOf (segs fl) M s := by
  have p := sm_part cv fun t _ => if (s.b ≤ ((segs fl).getD t default).1 ∧ ((segs fl).getD t default).2 ≤ s.e) ∧ M t = false then 1 else 0
  unfold hout outOf
  rw [sm_congr (g := fun t : Nat => match stOf fl (lo + (t : Int)) with | none => 0 | some t => if (s.b ≤ ((segs fl).getD t default).1 ∧ ((segs fl).getD t default).2 ≤ s.e) ∧ M t = false then 1 else 0) fun t _ => by
    unfold hOf
    cases q : stOf fl (lo + (t : Int)) with
    | none =>
      have a := stOf_none.mp q
      dsimp only
      rw [if_neg]
      rintro ⟨⟨c1, c2⟩, _⟩
      obtain ⟨u, hu⟩ := win_st hs c1 c2
      exact a u hu
    | some u =>
      have a := stOf_some.mp q
      have b := seg_in hs (getD_mem a.1 default)
      have a2 := a.2
      have e : (s.b ≤ lo + (t : Int) ∧ lo + (t : Int) < s.e) ↔ (s.b ≤ ((segs fl).getD u default).1 ∧ ((segs fl).getD u default).2 ≤ s.e) := by omega
      dsimp only
      simp only [e]]
  rw [p, ← sm_mul]
  refine sm_congr fun t ht => ?_
  rw [sm_const]
  have := segL_pos ht
  unfold capOf
  cases M t with
  | true => simp
  | false =>
    have e : (((segL fl t).toNat : Nat) : Int) = ((segs fl).getD t default).2 - ((segs fl).getD t default).1 := by unfold segL at *; omega
    rw [e]
    by_cases c : s.b ≤ ((segs fl).getD t default).1 ∧ ((segs fl).getD t default).2 ≤ s.e
    · rw [if_pos ⟨c, rfl⟩, if_neg (by decide), if_pos c, Int.mul_one]
    · rw [if_neg (fun z => c z.1), if_neg (by decide), if_neg c]; simp
theorem wnt_hwnt {fl : List Ship} {lo : Int} {N : Nat} (cv : Cov fl lo N) (M : Nat → Bool) : hwnt (hOf fl M) lo N fl = wnt (segs fl) M fl := sum_map_eq fun s hs => by rw [out_hout cv M hs]
/-- cranes by the hour that come to all needs: above a number no fewer than any marks of hours want -/
structure ByHour (fl : List Ship) (lo : Int) (N : Nat) (c : Nat → Nat → Int) : Prop where
  nn : ∀ i t, i < fl.length → t < N → 0 ≤ c i t
  most : ∀ i t, i < fl.length → t < N → c i t ≤ (fl.getD i default).m
  out : ∀ i t, i < fl.length → t < N → ¬ ((fl.getD i default).b ≤ lo + (t : Int) ∧ lo + (t : Int) < (fl.getD i default).e) → c i t = 0
  need : ∀ i, i < fl.length → sm N (c i) = (fl.getD i default).n
theorem ByHour.want {fl : List Ship} {lo : Int} {N : Nat} {c : Nat → Nat → Int} (h : ByHour fl lo N c) (H : Int → Bool) (k : Int) :
    hwnt H lo N fl - k * hcnt H lo N ≤ sm N fun t => max 0 ((sm fl.length fun i => c i t) - k) := by
  have a : hwnt H lo N fl ≤ sm N fun t => if H (lo + (t : Int)) then sm fl.length fun i => c i t else 0 := by
    have e : (sm N fun t => if H (lo + (t : Int)) then sm fl.length fun i => c i t else 0) = sm fl.length fun i => sm N fun t => if H (lo + (t : Int)) then c i t else 0 := by
      rw [sm_comm]
      refine sm_congr fun t _ => ?_
      cases H (lo + (t : Int)) with
      | true => simp
      | false => simp [sm_zero']
    unfold hwnt
    rw [e, sum_sm, List.length_map]
    refine sm_le fun i hi => ?_
    rw [nth_map _ fl default hi]
    have p : 0 ≤ sm N fun t => if H (lo + (t : Int)) then c i t else 0 := sm_nn fun t ht => by
      have := h.nn i t hi ht
      split <;> omega
    have q : (fl.getD i default).n - (fl.getD i default).m * hout H lo N (fl.getD i default) ≤ sm N fun t => if H (lo + (t : Int)) then c i t else 0 := by
      unfold hout
      rw [← h.need i hi, ← sm_mul, ← sm_sub]
      refine sm_le fun t ht => ?_
      have p1 := h.nn i t hi ht
      have p2 := h.most i t hi ht
      have p3 := h.out i t hi ht
      cases H (lo + (t : Int)) with
      | true => simp
      | false =>
        by_cases w : (fl.getD i default).b ≤ lo + (t : Int) ∧ lo + (t : Int) < (fl.getD i default).e
        · rw [if_pos ⟨w, rfl⟩, if_neg (by decide), Int.mul_one]; omega
        · rw [if_neg (fun z => w z.1), if_neg (by decide), p3 w]; omega
    omega
  unfold hcnt
  rw [← sm_mul]
  have b : ((sm N fun t => if H (lo + (t : Int)) then sm fl.length fun i => c i t else 0) - sm N fun t => k * if H (lo + (t : Int)) then 1 else 0) ≤ sm N fun t => max 0 ((sm fl.length fun i => c i t) - k) := by
    rw [← sm_sub]
    refine sm_le fun t _ => ?_
    cases H (lo + (t : Int)) with
    | true => simp; omega
    | false => simp; omega
  omega
theorem crn_by {fl : List Ship} {pl : List (List Int)} (ok : ∀ s ∈ fl, s.Ok) (ip : IsPlan fl pl) {lo : Int} {N : Nat} (cv : Cov fl lo N) : ByHour fl lo N fun i t => crn fl pl i (lo + (t : Int)) := by
  refine ⟨fun i t hi _ => (crn_bnd ok ip hi _).1, fun i t hi _ => (crn_bnd ok ip hi _).2, fun i t hi _ h => crn_o0 ip hi (by omega), fun i hi => ?_⟩
  have p := sm_part cv fun s o => dl (ahd pl (i + 1) s) o (segL fl s) - dl (ahd pl i s) o (segL fl s)
  have e : (sm N fun t => crn fl pl i (lo + (t : Int))) = _ := p
  rw [e, ← ip.need i hi, sum_sm, ip.row i hi]
  refine sm_congr fun s hs => ?_
  have hL := segL_pos hs
  have nn := ip.nn i s hi hs
  have an := ip.ahd_nn (i := i) (by omega) hs
  rw [ahd_succ, sm_sub]
  obtain ⟨L, eL⟩ : ∃ L : Nat, segL fl s = L := ⟨(segL fl s).toNat, by omega⟩
  obtain ⟨x, ex⟩ : ∃ x : Nat, ahd pl i s = x := ⟨(ahd pl i s).toNat, by omega⟩
  obtain ⟨y, ey⟩ : ∃ y : Nat, ahd pl i s + at2 pl i s = y := ⟨(ahd pl i s + at2 pl i s).toNat, by omega⟩
  rw [ey, ex, eL, Int.toNat_natCast, dl_sum (by omega), dl_sum (by omega)]
  show _ = at2 pl i s
  omega
theorem load_in {fl : List Ship} {pl : List (List Int)} {h : Int} {s : Nat} (a : inS fl h s) (n : Nat) : sm n (fun i => crn fl pl i h) = dl (ahd pl n s) (h - ((segs fl).getD s default).1) (segL fl s) := by
  have h0 : 0 ≤ h - ((segs fl).getD s default).1 := by have := a.2.1; omega
  have h1 : h - ((segs fl).getD s default).1 < segL fl s := by have := a.2.2; unfold segL; omega
  induction n with
  | zero => exact (dl_zero h0 h1).symm
  | succ n ih => rw [sm_succ, ih, crn_some a, ahd_succ]; omega
/-- above a number the hours have what the stretches have -/
theorem abv_hours {fl : List Ship} {pl : List (List Int)} (ip : IsPlan fl pl) {lo : Int} {N : Nat} (cv : Cov fl lo N) {k : Int} (hk : 0 ≤ k) : (sm N fun t => max 0 ((sm fl.length fun i => crn fl pl i (lo + (t : Int))) - k)) = abv (lens fl) (tot pl (segs fl).length) k := by
  have p := sm_part cv fun s o => max 0 (dl (ahd pl fl.length s) o (segL fl s) - k)
  rw [sm_congr (g := fun t : Nat => match stOf fl (lo + (t : Int)) with | none => 0 | some s => max 0 (dl (ahd pl fl.length s) (lo + (t : Int) - ((segs fl).getD s default).1) (segL fl s) - k)) fun t _ => by
    cases q : stOf fl (lo + (t : Int)) with
    | none =>
      have a := stOf_none.mp q
      dsimp only
      rw [sm_congr (g := fun _ => 0) fun i _ => crn_none a, sm_zero']; omega
    | some s =>
      dsimp only
      rw [load_in (stOf_some.mp q)]]
  rw [p]
  unfold abv
  rw [lens_length]
  refine sm_congr fun s hs => ?_
  have hL := segL_pos hs
  have an := ip.ahd_nn (i := fl.length) (Nat.le_refl _) hs
  have et : nth (tot pl (segs fl).length) s = ahd pl fl.length s := by rw [nth_tot hs, ip.len]; rfl
  have el : nth (lens fl) s = segL fl s := nth_lens hs
  rw [et, el]
  obtain ⟨L, eL⟩ : ∃ L : Nat, segL fl s = L := ⟨(segL fl s).toNat, by omega⟩
  obtain ⟨x, ex⟩ : ∃ x : Nat, ahd pl fl.length s = x := ⟨(ahd pl fl.length s).toNat, by omega⟩
  rw [ex, eL, Int.toNat_natCast]
  have L0 : 0 < (L : Int) := by omega
  have sum := dl_sum (L := L) (by omega) x
  have ld : ∀ o : Nat, o < L → dl x o L = (x : Int) / L + (if (o : Int) < (x : Int) % L then 1 else 0) := fun o ho => dl_load (by omega) (by omega)
  obtain ⟨d1, d2⟩ := div_spec (a := (x : Int)) L0
  by_cases c : k * L ≤ x
  · have kq : k ≤ (x : Int) / L := (Int.le_ediv_iff_mul_le L0).mpr c
    rw [sm_congr (g := fun o : Nat => dl x o L - k) fun o ho => by
      rw [ld o ho]
      split <;> omega]
    rw [sm_sub, sum, sm_const, Int.mul_comm (L : Int) k]; omega
  · have kq : (x : Int) / L < k := Int.ediv_lt_of_lt_mul L0 (by omega)
    rw [sm_congr (g := fun _ => 0) fun o ho => by
      rw [ld o ho]
      split <;> omega, sm_zero']
    omega
/-! hours again: windows, sums over ships -/
/-- hours that hold all windows -/
theorem cov_ex : ∃ lo : Int, ∃ N : Nat, ∀ fl : List Ship, (∀ s ∈ fl, s.Ok) → Cov fl lo N := by
  refine ⟨-100000000000000000, 200000000000000000, fun fl ok s hs => ?_⟩
  have o := ok s hs
  have := o.b0
  have := o.e1
  have := o.be
  omega
theorem plan_hours {fl : List Ship} {pl : List (List Int)} (ok : ∀ s ∈ fl, s.Ok) (ip : IsPlan fl pl) {lo : Int} {N : Nat} (cv : Cov fl lo N) (H : Int → Bool) {k : Int} (hk : 0 ≤ k) : hwnt H lo N fl - k * hcnt H lo N ≤ abv (lens fl) (tot pl (segs fl).length) k := by
  have a := (crn_by ok ip cv).want H k
  rw [abv_hours ip cv hk] at a
  exact a
theorem hout_nn (H : Int → Bool) (lo : Int) (N : Nat) (s : Ship) : 0 ≤ hout H lo N s := sm_nn fun t _ => by split <;> omega
theorem hwnt_app (H : Int → Bool) (lo : Int) (N : Nat) (fl : List Ship) (s : Ship) : hwnt H lo N (fl ++ [s]) = hwnt H lo N fl + max 0 (s.n - s.m * hout H lo N s) := by
  unfold hwnt; rw [List.map_append, sum_app]; simp
theorem hwnt_one {H : Int → Bool} {lo : Int} {N : Nat} {s : Ship} (ok : s.Ok) : max 0 (s.n - s.m * hout H lo N s) ≤ s.n := by
  have a := Int.mul_nonneg ok.m0 (hout_nn H lo N s)
  have := ok.n0
  omega
/-- a wider window and a greater most want no more -/
theorem hwnt_wide {H : Int → Bool} {lo : Int} {N : Nat} {fl : List Ship} {a : Nat} (ha : a < fl.length) {s : Ship} (m0 : 0 ≤ (fl.getD a default).m) (hn : s.n = (fl.getD a default).n) (hm : (fl.getD a default).m ≤ s.m) (hb : s.b ≤ (fl.getD a default).b) (he : (fl.getD a default).e ≤ s.e) : hwnt H lo N (fl.set a s) ≤ hwnt H lo N fl := by
  unfold hwnt
  rw [List.map_set, sum_set (by simpa using ha), nth_map _ fl default ha]
  have q : hout H lo N (fl.getD a default) ≤ hout H lo N s := sm_le fun t _ => by
    by_cases c : ((fl.getD a default).b ≤ lo + (t : Int) ∧ lo + (t : Int) < (fl.getD a default).e) ∧ H (lo + (t : Int)) = false
    · rw [if_pos c, if_pos ⟨by omega, c.2⟩]; exact Int.le_refl _
    · rw [if_neg c]; split <;> omega
  have p1 := Int.mul_le_mul_of_nonneg_left q m0
  have p2 := Int.mul_le_mul_of_nonneg_right hm (hout_nn H lo N s)
  rw [hn]
  omega
/-- the hours of a window -/
theorem win_hours {s : Ship} {lo : Int} {N : Nat} (h0 : lo ≤ s.b) (h1 : s.b ≤ s.e) (h2 : s.e ≤ lo + N) : (sm N fun t => if s.b ≤ lo + (t : Int) ∧ lo + (t : Int) < s.e then 1 else 0) = s.e - s.b := by
  rw [sm_win (a := (s.b - lo).toNat) (L := (s.e - s.b).toNat) (by omega) _ (fun _ => 1) (fun t ht => if_pos (by omega)) fun t ht o => if_neg (by omega), sm_const]
  omega
theorem win_out {s : Ship} {lo : Int} {N : Nat} (h0 : lo ≤ s.b) (h1 : s.b ≤ s.e) (h2 : s.e ≤ lo + N) (H : Int → Bool) : s.e - s.b ≤ hout H lo N s + hcnt H lo N := by
  rw [← win_hours h0 h1 h2]
  unfold hout hcnt
  rw [← sm_add]
  refine sm_le fun t _ => ?_
  cases H (lo + (t : Int)) with
  | true => split <;> simp
  | false => simp
theorem hwnt_sm (H : Int → Bool) (lo : Int) (N : Nat) (fl : List Ship) : hwnt H lo N fl = sm fl.length fun i => max 0 ((fl.getD i default).n - (fl.getD i default).m * hout H lo N (fl.getD i default)) := by
  unfold hwnt
  rw [sum_sm, List.length_map]
  exact sm_congr fun i hi => nth_map _ fl default hi
theorem hwnt_cons (H : Int → Bool) (lo : Int) (N : Nat) (fl : List Ship) (s : Ship) : hwnt H lo N (s :: fl) = max 0 (s.n - s.m * hout H lo N s) + hwnt H lo N fl := by
  unfold hwnt; rw [List.map_cons, List.sum_cons]
theorem sum_perm' {a b : List Int} (p : a.Perm b) : a.sum = b.sum := by
  induction p with
  | nil => rfl
  | cons x _ ih => rw [List.sum_cons, List.sum_cons, ih]
  | swap x y l => simp only [List.sum_cons]; omega
  | trans _ _ h1 h2 => rw [h1, h2]
theorem hwnt_perm {fl gl : List Ship} (p : fl.Perm gl) (H : Int → Bool) (lo : Int) (N : Nat) : hwnt H lo N fl = hwnt H lo N gl := sum_perm' (p.map _)
theorem hwnt_true {H : Int → Bool} (hH : ∀ h, H h = true) {lo : Int} {N : Nat} {fl : List Ship} (ok : ∀ s ∈ fl, s.Ok) : hwnt H lo N fl = (fl.map fun s : Ship => s.n).sum := sum_map_eq fun s hs => by
  have : hout H lo N s = 0 := by
    unfold hout
    rw [sm_congr (g := fun _ => 0) fun t _ => if_neg fun c => by rw [hH] at c; exact absurd c.2 (by decide), sm_zero']
  rw [this]
  have := (ok s hs).n0
  simp; omega
theorem hwnt_mosts {H : Int → Bool} {lo : Int} {N : Nat} : ∀ {fl : List Ship}, (∀ s ∈ fl, s.Ok) → Cov fl lo N → hwnt H lo N fl ≤ (fl.map fun s : Ship => s.m).sum * hcnt H lo N
  | [], _, _ => by simp [hwnt]
  | s :: r, ok, cv => by
    have ih := hwnt_mosts (H := H) (lo := lo) (N := N) (fl := r) (fun t ht => ok t (by simp [ht])) fun t ht => cv t (by simp [ht])
    have c := cv s (by simp)
    have o := ok s (by simp)
    have w := win_out c.1 (by omega) c.2.2 H
    have cn : 0 ≤ hcnt H lo N := sm_nn fun t _ => by split <;> omega
    have a := Int.mul_le_mul_of_nonneg_left w o.m0
    have b := Int.mul_nonneg o.m0 cn
    rw [Int.mul_add] at a
    have := o.n1
    rw [hwnt_cons, List.map_cons, List.sum_cons, Int.add_mul]
    omega
/-- a part under k is no more than any hours let through -/
theorem part_hours {fl : List Ship} {x : List (List Int)} (ok : ∀ s ∈ fl, s.Ok) {k : Int} (hk : 0 ≤ k) (fo : FOk (caps fl) (fl.map fun s : Ship => s.n) ((lens fl).map fun h : Int => k * h) x) {lo : Int} {N : Nat} (cv : Cov fl lo N) (H : Int → Bool) :
    siz x ≤ (fl.map fun s : Ship => s.n).sum - (hwnt H lo N fl - k * hcnt H lo N) := by
  obtain ⟨gl, egl⟩ : ∃ gl : List Ship, gl = (List.range fl.length).map fun i => { fl.getD i default with n := rsum x i } := ⟨_, rfl⟩
  have gln : gl.length = fl.length := by rw [egl]; simp
  have gi : ∀ i, i < fl.length → gl.getD i default = { fl.getD i default with n := rsum x i } := fun i hi => by
    rw [egl, getD_map' _ _ 0 _ (by simpa using hi)]
    have : (List.range fl.length).getD i 0 = i := by simp [List.getD_eq_getElem?_getD, hi]
    rw [this]
  have gm : ∀ t ∈ gl, ∃ i, i < fl.length ∧ t = { fl.getD i default with n := rsum x i } := fun t ht => by
    obtain ⟨i, hi, e⟩ := mem_getD ht default
    exact ⟨i, by omega, by rw [← e, gi i (by omega)]⟩
  have sg : segs gl = segs fl := segs_congr fun y => by
    constructor
    · rintro ⟨t, ht, h⟩
      obtain ⟨i, hi, rfl⟩ := gm t ht
      exact ⟨_, getD_mem hi default, h⟩
    · rintro ⟨t, ht, h⟩
      obtain ⟨i, hi, e⟩ := mem_getD ht default
      refine ⟨gl.getD i default, getD_mem (by omega) _, ?_⟩
      rw [gi i hi, e]; exact h
  have pl := fo.pl
  have pr := fo.pr
  have row := fo.row
  have nn := fo.nn
  have cap := fo.cap
  have col := fo.col
  simp only [List.length_map, lens_length] at pl pr row nn cap col
  have nd : ∀ i, i < fl.length → nth (fl.map fun s : Ship => s.n) i = (fl.getD i default).n := fun i hi => nth_map _ fl default hi
  have rs : ∀ i, i < fl.length → 0 ≤ rsum x i ∧ rsum x i ≤ (fl.getD i default).n := fun i hi => by
    refine ⟨?_, ?_⟩
    · rw [rsum_sm (pr i hi)]; exact sm_nn fun s hs => nn i s hi hs
    · have := row i hi; rw [nd i hi] at this; exact this
  have okg : ∀ t ∈ gl, t.Ok := fun t ht => by
    obtain ⟨i, hi, rfl⟩ := gm t ht
    have o := ok _ (getD_mem hi default)
    have := rs i hi
    have := o.n1
    exact ⟨o.be, o.m0, o.m1, (rs i hi).1, by show rsum x i ≤ (fl.getD i default).m * ((fl.getD i default).e - (fl.getD i default).b); omega, o.b0, o.e1⟩
  have cvg : Cov gl lo N := fun t ht => by
    obtain ⟨i, hi, rfl⟩ := gm t ht
    exact cv (fl.getD i default) (getD_mem hi default)
  have cpe : ∀ i s, i < fl.length → cp gl i s = cp fl i s := fun i s hi => by
    unfold cp; rw [sg, gi i hi]; rfl
  have ip : IsPlan gl x := ⟨by omega, fun i hi => by rw [sg]; exact pr i (by omega), fun i s hi hs => by rw [sg] at hs; exact nn i s (by omega) hs, fun i s hi hs => by
    rw [sg] at hs
    rw [cpe i s (by omega), ← nth_caps (by omega) hs]; exact cap i s (by omega) hs, fun i hi => by rw [gi i (by omega)]; rfl⟩
  have a := plan_hours okg ip cvg H hk
  have z : abv (lens gl) (tot x (segs gl).length) k = 0 := by
    unfold abv
    rw [lens_length, sm_congr (g := fun _ => 0) fun s hs => ?_, sm_zero']
    rw [sg] at hs ⊢
    have c := col s hs
    rw [nth_map _ _ 0 (by simpa using hs)] at c
    have : lens gl = lens fl := by unfold lens; rw [sg]
    rw [this]
    have c : nth (tot x (segs fl).length) s ≤ k * nth (lens fl) s := c
    omega
  rw [z] at a
  have e1 : (fl.map fun s : Ship => s.n).sum = sm fl.length fun i => (fl.getD i default).n := by
    rw [sum_sm, List.length_map]; exact sm_congr fun i hi => nd i hi
  have e2 : siz x = sm fl.length (rsum x) := by unfold siz; rw [pl]
  have e3 : hwnt H lo N fl - (sm fl.length (fun i => (fl.getD i default).n) - sm fl.length (rsum x)) ≤ hwnt H lo N gl := by
    rw [hwnt_sm, hwnt_sm, gln, ← sm_sub, ← sm_sub]
    refine sm_le fun i hi => ?_
    rw [gi i hi]
    show _ ≤ max 0 (rsum x i - (fl.getD i default).m * hout H lo N (fl.getD i default))
    have := rs i hi
    omega
  omega
/-! two lists at once, by place -/
theorem getD_of_get {α : Type} {l : List α} {i : Nat} {x : α} (h : l[i]? = some x) (d : α) : l.getD i d = x := by rw [List.getD_eq_getElem?_getD, h]; rfl
theorem nth_of_get {a : List Int} {i : Nat} {x : Int} (h : a[i]? = some x) : nth a i = x := getD_of_get h 0
theorem get_lt {α : Type} {l : List α} {i : Nat} {x : α} (h : l[i]? = some x) : i < l.length := (List.getElem?_eq_some_iff.mp h).1
theorem at_of {α : Type} {l done rest : List α} {p : α} (h : l = done ++ p :: rest) : l[done.length]? = some p := by rw [h]; simp
theorem at_lt {α : Type} {l done rest : List α} {p : α} (h : l = done ++ p :: rest) : done.length < l.length := get_lt (at_of h)
theorem zip_at {a b : List Int} {done rest : List (Int × Int)} {p : Int × Int} (h : List.zip a b = done ++ p :: rest) : p.1 = nth a done.length ∧ p.2 = nth b done.length ∧ done.length < a.length ∧ done.length < b.length := by
  obtain ⟨h1, h2⟩ := List.getElem?_zip_eq_some.mp (at_of h)
  exact ⟨(nth_of_get h1).symm, (nth_of_get h2).symm, get_lt h1, get_lt h2⟩
theorem caps_row {fl : List Ship} {i : Nat} (h : i < fl.length) : (caps fl).getD i [] = (segs fl).map (capOf (fl.getD i default)) := getD_map' _ fl default [] h
def RowFits (r m : List Int) : Prop := r.length = m.length ∧ ∀ s, s < m.length → 0 ≤ nth r s ∧ nth r s ≤ nth m s
theorem isplan_iff {fl : List Ship} {pl : List (List Int)} : IsPlan fl pl ↔ pl.length = fl.length ∧ ∀ i, i < fl.length → RowFits (pl.getD i []) ((segs fl).map (capOf (fl.getD i default))) ∧ (pl.getD i []).sum = (fl.getD i default).n := by
  have e : ∀ i s, s < (segs fl).length → nth ((segs fl).map (capOf (fl.getD i default))) s = cp fl i s := fun i s hs => nth_map _ _ default hs
  constructor
  · intro h
    refine ⟨h.len, fun i hi => ⟨⟨by rw [h.row i hi, List.length_map], fun s hs => ?_⟩, h.need i hi⟩⟩
    rw [List.length_map] at hs
    rw [e i s hs]
    exact ⟨h.nn i s hi hs, h.cap i s hi hs⟩
  · rintro ⟨h1, h2⟩
    refine ⟨h1, fun i hi => by have := (h2 i hi).1.1; rwa [List.length_map] at this, fun i s hi hs => ((h2 i hi).1.2 s (by simpa using hs)).1, fun i s hi hs => ?_, fun i hi => (h2 i hi).2⟩
    have := ((h2 i hi).1.2 s (by simpa using hs)).2
    rw [e i s hs] at this
    exact this
/-! loads, counted -/
def cterm (ls ts : List Int) (j : Int) (s : Nat) : Int := (if nth ts s / nth ls s = j then nth ls s - nth ts s % nth ls s else 0) + if nth ts s / nth ls s + 1 = j then nth ts s % nth ls s else 0
def cnt (ls ts : List Int) (j : Int) : Int := sm ls.length (cterm ls ts j)
structure RowOk (ls ts : List Int) (row : List (Int × Int)) : Prop where
  down : row.Pairwise fun p q => q.1 < p.1
  pos : ∀ p ∈ row, 0 < p.2
  num : ∀ p ∈ row, p.2 = cnt ls ts p.1
  all : ∀ j, 0 < cnt ls ts j → ∃ p ∈ row, p.1 = j
def Dom (ls ts : List Int) : Prop := ∀ s, s < ls.length → 0 < nth ls s ∧ 0 ≤ nth ts s
theorem qr {t l : Int} (hl : 0 < l) : t = l * (t / l) + t % l ∧ 0 ≤ t % l ∧ t % l < l := by
  have h1 := Int.emod_add_mul_ediv t l
  exact ⟨by omega, Int.emod_nonneg t (by omega), Int.emod_lt_of_pos t hl⟩
theorem cterm_nn {ls ts : List Int} {s : Nat} (h : 0 < nth ls s) (j : Int) : 0 ≤ cterm ls ts j s := by
  obtain ⟨_, a, b⟩ := qr (t := nth ts s) h
  unfold cterm
  split <;> split <;> omega
theorem cnt_ge {ls ts : List Int} (d : Dom ls ts) {s : Nat} (hs : s < ls.length) (j : Int) : cterm ls ts j s ≤ cnt ls ts j := sm_le_one (fun i hi => cterm_nn (d i hi).1 j) hs
theorem sum_sm_comm {α : Type} (n : Nat) (g : α → Nat → Int) : ∀ l : List α, (l.map fun p => sm n (g p)).sum = sm n fun s => (l.map fun p => g p s).sum
  | [] => by simp [sm_zero']
  | p :: r => by
    rw [List.map_cons, List.sum_cons, sum_sm_comm n g r, ← sm_add]
    exact sm_congr fun s _ => by rw [List.map_cons, List.sum_cons]
theorem sum_map_mul {α : Type} (f : α → Int) (c : Int) : ∀ l : List α, (l.map fun p => c * f p).sum = c * (l.map f).sum
  | [] => by simp
  | p :: r => by rw [List.map_cons, List.sum_cons, sum_map_mul f c r, List.map_cons, List.sum_cons, Int.mul_add]
theorem sum_zero {α : Type} (l : List α) : (l.map fun _ => (0 : Int)).sum = 0 := by
  induction l with
  | nil => rfl
  | cons _ _ ih => rw [List.map_cons, List.sum_cons, ih]; rfl
theorem row_pick {row : List (Int × Int)} (hd : row.Pairwise fun p q => q.1 < p.1) (j v : Int) : ((∃ p ∈ row, p.1 = j) → (row.map fun p => if j = p.1 then v else 0).sum = v) ∧ ((¬ ∃ p ∈ row, p.1 = j) → (row.map fun p => if j = p.1 then v else 0).sum = 0) := by
  induction row with
  | nil => simp
  | cons p r ih =>
    obtain ⟨h1, h2⟩ := List.pairwise_cons.mp hd
    obtain ⟨i1, i2⟩ := ih h2
    rw [List.map_cons, List.sum_cons]
    by_cases c : j = p.1
    · have : ¬ ∃ q ∈ r, q.1 = j := by
        rintro ⟨q, hq, e⟩
        have := h1 q hq; omega
      rw [if_pos c, i2 this]
      exact ⟨fun _ => by omega, fun n => absurd ⟨p, by simp, c.symm⟩ n⟩
    · rw [if_neg c]
      constructor
      · rintro ⟨q, hq, e⟩
        rcases List.mem_cons.mp hq with rfl | hq
        · exact absurd e.symm c
        · rw [i1 ⟨q, hq, e⟩]; omega
      · intro n
        rw [i2 fun ⟨q, hq, e⟩ => n ⟨q, by simp [hq], e⟩]; omega
theorem RowOk.sum {ls ts : List Int} {row : List (Int × Int)} (h : RowOk ls ts row) (d : Dom ls ts) (f : Int → Int) : (row.map fun p => f p.1 * p.2).sum = sm ls.length fun s => f (nth ts s / nth ls s) * (nth ls s - nth ts s % nth ls s) + f (nth ts s / nth ls s + 1) * (nth ts s % nth ls s) := by
  have e1 : (row.map fun p => f p.1 * p.2).sum = (row.map fun p => sm ls.length fun s => f p.1 * cterm ls ts p.1 s).sum := sum_map_eq fun p hp => by
    rw [sm_mul, h.num p hp]; rfl
  rw [e1, sum_sm_comm]
  refine sm_congr fun s hs => ?_
  obtain ⟨_, r0, r1⟩ := qr (t := nth ts s) (d s hs).1
  have e2 : (row.map fun p => f p.1 * cterm ls ts p.1 s).sum = (row.map fun p => if nth ts s / nth ls s = p.1 then f (nth ts s / nth ls s) * (nth ls s - nth ts s % nth ls s) else 0).sum + (row.map fun p => if nth ts s / nth ls s + 1 = p.1 then f (nth ts s / nth ls s + 1) * (nth ts s % nth ls s) else 0).sum := by
    rw [← sum_map_add]
    refine sum_map_eq fun p _ => ?_
    unfold cterm
    rw [Int.mul_add]
    congr 1
    · split
      · rename_i e; rw [e]
      · simp
    · split
      · rename_i e; rw [e]
      · simp
  rw [e2]
  have p1 : ∃ p ∈ row, p.1 = nth ts s / nth ls s := h.all _ (by
    have := cnt_ge d hs (nth ts s / nth ls s)
    have q : cterm ls ts (nth ts s / nth ls s) s = nth ls s - nth ts s % nth ls s := by unfold cterm; rw [if_pos rfl, if_neg (by omega)]; omega
    omega)
  rw [(row_pick h.down _ _).1 p1]
  congr 1
  rcases Int.lt_or_eq_of_le r0 with r0 | r0
  · refine (row_pick h.down _ _).1 (h.all _ ?_)
    have := cnt_ge d hs (nth ts s / nth ls s + 1)
    have q : cterm ls ts (nth ts s / nth ls s + 1) s = nth ts s % nth ls s := by unfold cterm; rw [if_neg (by omega), if_pos rfl]; omega
    omega
  · rw [← r0]
    simp only [Int.mul_zero, ite_self]
    exact sum_zero _
theorem RowOk.abv {ls ts : List Int} {row : List (Int × Int)} (h : RowOk ls ts row) (d : Dom ls ts) {k : Int} : (row.map fun p => max 0 (p.1 - k) * p.2).sum = abv ls ts k := by
  rw [h.sum d fun j => max 0 (j - k)]
  refine sm_congr fun s hs => ?_
  obtain ⟨e, r0, r1⟩ := qr (t := nth ts s) (d s hs).1
  have hl := (d s hs).1
  generalize nth ts s / nth ls s = q at *
  generalize nth ts s % nth ls s = r at *
  generalize nth ls s = l at *
  by_cases c : k ≤ q
  · have m1 : max 0 (q - k) = q - k := by omega
    have m2 : max 0 (q + 1 - k) = q - k + 1 := by omega
    have n := Int.mul_nonneg (show 0 ≤ q - k by omega) (show 0 ≤ l by omega)
    rw [m1, m2, Int.mul_sub, Int.add_mul, e]
    rw [Int.sub_mul] at n ⊢
    rw [Int.mul_comm l q]
    rw [Int.sub_mul]
    omega
  · have m1 : max 0 (q - k) = 0 := by omega
    have m2 : max 0 (q + 1 - k) = 0 := by omega
    rw [m1, m2, e, Int.zero_mul, Int.zero_mul]
    have n := Int.mul_le_mul_of_nonneg_right (show q + 1 ≤ k by omega) (show 0 ≤ l by omega)
    rw [Int.add_mul, Int.one_mul, Int.mul_comm q l] at n
    omega
theorem RowOk.hours {ls ts : List Int} {row : List (Int × Int)} (h : RowOk ls ts row) (d : Dom ls ts) : (row.map fun p => p.2).sum = ls.sum := by
  have := h.sum d fun _ => 1
  simp only [Int.one_mul] at this
  rw [this, sum_sm]
  exact sm_congr fun s _ => by omega
theorem RowOk.total {ls ts : List Int} {row : List (Int × Int)} (h : RowOk ls ts row) (d : Dom ls ts) (hl : ts.length = ls.length) : (row.map fun p => p.1 * p.2).sum = ts.sum := by
  rw [h.sum d fun j => j, sum_sm ts, hl]
  refine sm_congr fun s hs => ?_
  obtain ⟨e, r0, r1⟩ := qr (t := nth ts s) (d s hs).1
  generalize nth ts s / nth ls s = q at *
  generalize nth ts s % nth ls s = r at *
  rw [e, Int.mul_sub, Int.add_mul, Int.mul_comm (nth ls s) q]; omega
theorem cnt_abv {ls ts : List Int} (d : Dom ls ts) (j : Int) : (j < 0 → cnt ls ts j = 0) ∧ (j = 0 → cnt ls ts j = ls.sum - abv ls ts 0 + abv ls ts 1) ∧ (0 < j → cnt ls ts j = abv ls ts (j - 1) - 2 * abv ls ts j + abv ls ts (j + 1)) := by
  have g : ∀ s, s < ls.length → ∀ k : Int, (k ≤ nth ts s / nth ls s → max 0 (nth ts s - k * nth ls s) = (nth ts s / nth ls s - k) * nth ls s + nth ts s % nth ls s) ∧ (nth ts s / nth ls s < k → max 0 (nth ts s - k * nth ls s) = 0) := fun s hs k => by
    obtain ⟨e, r0, r1⟩ := qr (t := nth ts s) (d s hs).1
    have hl := (d s hs).1
    generalize nth ts s / nth ls s = q at *
    generalize nth ts s % nth ls s = r at *
    generalize nth ls s = l at *
    constructor
    · intro c
      have n := Int.mul_nonneg (show 0 ≤ q - k by omega) (show 0 ≤ l by omega)
      rw [Int.sub_mul] at n ⊢
      rw [e, Int.mul_comm l q]; omega
    · intro c
      have n := Int.mul_le_mul_of_nonneg_right (show q + 1 ≤ k by omega) (show 0 ≤ l by omega)
      rw [Int.add_mul, Int.one_mul, Int.mul_comm q l] at n
      rw [e]; omega
  have q0 : ∀ s, s < ls.length → 0 ≤ nth ts s / nth ls s := fun s hs => Int.ediv_nonneg (d s hs).2 (Int.le_of_lt (d s hs).1)
  refine ⟨fun hj => ?_, fun hj => ?_, fun hj => ?_⟩
  · unfold cnt
    rw [sm_congr (g := fun _ => 0) fun s hs => ?_, sm_zero']
    have := q0 s hs
    unfold cterm
    rw [if_neg (by omega), if_neg (by omega)]; rfl
  · subst hj
    unfold cnt abv
    rw [sum_sm, ← sm_sub, ← sm_add]
    refine sm_congr fun s hs => ?_
    have a := q0 s hs
    have g0 := (g s hs 0).1 a
    unfold cterm
    by_cases c : nth ts s / nth ls s = 0
    · have g1 := (g s hs 1).2 (by omega)
      rw [g0, g1, if_pos c, if_neg (by omega), c]; simp
    · have g1 := (g s hs 1).1 (by omega)
      rw [g0, g1, if_neg c, if_neg (by omega), Int.sub_mul, Int.sub_mul, Int.one_mul, Int.zero_mul]; omega
  · unfold cnt abv
    rw [← sm_mul, ← sm_sub, ← sm_add]
    refine sm_congr fun s hs => ?_
    unfold cterm
    rcases Int.lt_trichotomy j (nth ts s / nth ls s) with c | c | c
    · rw [(g s hs (j - 1)).1 (by omega), (g s hs j).1 (by omega), (g s hs (j + 1)).1 (by omega), if_neg (by omega), if_neg (by omega)]
      have e1 : nth ts s / nth ls s - (j - 1) = nth ts s / nth ls s - j + 1 := by omega
      have e2 : nth ts s / nth ls s - (j + 1) = nth ts s / nth ls s - j - 1 := by omega
      rw [e1, e2, Int.add_mul, Int.sub_mul (_ - j) 1]; omega
    · rw [(g s hs (j - 1)).1 (by omega), (g s hs j).1 (by omega), (g s hs (j + 1)).2 (by omega), if_pos c.symm, if_neg (by omega)]
      have e1 : nth ts s / nth ls s - (j - 1) = 1 := by omega
      have e2 : nth ts s / nth ls s - j = 0 := by omega
      rw [e1, e2]; omega
    · by_cases c2 : nth ts s / nth ls s + 1 = j
      · rw [(g s hs (j - 1)).1 (by omega), (g s hs j).2 (by omega), (g s hs (j + 1)).2 (by omega), if_neg (by omega), if_pos c2]
        have e1 : nth ts s / nth ls s - (j - 1) = 0 := by omega
        rw [e1]; omega
      · rw [(g s hs (j - 1)).2 (by omega), (g s hs j).2 (by omega), (g s hs (j + 1)).2 (by omega), if_neg (by omega), if_neg c2]; rfl
theorem RowOk.nn {ls ts : List Int} {row : List (Int × Int)} (h : RowOk ls ts row) (d : Dom ls ts) : ∀ p ∈ row, 0 ≤ p.1 := fun p hp => by
  by_cases c : p.1 < 0
  · have a := h.pos p hp
    rw [h.num p hp, (cnt_abv d p.1).1 c] at a; omega
  · omega
/-- rows are alike where what is above all numbers is, and all hours -/
theorem row_uniq {ls ts ls' ts' : List Int} {row row' : List (Int × Int)} (h : RowOk ls ts row) (h' : RowOk ls' ts' row') (e : ∀ j, cnt ls ts j = cnt ls' ts' j) : row = row' := by
  have fst : ∀ {ls ts : List Int} {row : List (Int × Int)}, RowOk ls ts row → ∀ j, j ∈ row.map (·.1) ↔ 0 < cnt ls ts j := fun {ls ts row} h j => by
    rw [List.mem_map]
    constructor
    · rintro ⟨p, hp, rfl⟩
      rw [← h.num p hp]; exact h.pos p hp
    · intro c
      obtain ⟨p, hp, e⟩ := h.all j c
      exact ⟨p, hp, e⟩
  have ss : ∀ {ls ts : List Int} {row : List (Int × Int)}, RowOk ls ts row → SS (row.map (·.1)).reverse := fun {ls ts row} h => by
    rw [SS, List.pairwise_reverse, List.pairwise_map]
    exact h.down
  have eq : ∀ {ls ts : List Int} {row : List (Int × Int)}, RowOk ls ts row → row = (row.map (·.1)).map fun j => (j, cnt ls ts j) := fun {ls ts row} h => by
    rw [List.map_map]
    have : row.map id = row.map ((fun j => (j, cnt ls ts j)) ∘ (·.1)) := List.map_congr_left fun p hp => by
      show p = (p.1, cnt ls ts p.1)
      rw [← h.num p hp]
    rwa [List.map_id] at this
  have f : row.map (·.1) = row'.map (·.1) := by
    have := ss_uniq (ss h) (ss h') fun j => by rw [List.mem_reverse, List.mem_reverse, fst h, fst h', e]
    exact List.reverse_inj.mp this
  rw [eq h, eq h', f]
  exact List.map_congr_left fun j _ => by rw [e]
theorem row_same {ls ts ls' ts' : List Int} {row row' : List (Int × Int)} (h : RowOk ls ts row) (h' : RowOk ls' ts' row') (d : Dom ls ts) (d' : Dom ls' ts') (hs : ls.sum = ls'.sum) (e : ∀ k, 0 ≤ k → abv ls ts k = abv ls' ts' k) : row = row' := by
  refine row_uniq h h' fun j => ?_
  obtain ⟨a1, a2, a3⟩ := cnt_abv d j
  obtain ⟨b1, b2, b3⟩ := cnt_abv d' j
  rcases Int.lt_trichotomy j 0 with c | c | c
  · rw [a1 c, b1 c]
  · rw [a2 c, b2 c, hs, e 0 (by omega), e 1 (by omega)]
  · rw [a3 c, b3 c, e (j - 1) (by omega), e j (by omega), e (j + 1) (by omega)]
/-! dicts with keys each once -/
section
variable {β : Type}
theorem aset_fst (k : Int) (v : β) : ∀ l : List (Int × β), (aset l k v).map (·.1) = l.map (·.1)
  | [] => rfl
  | p :: r => by
    rw [aset, List.map_cons, List.map_cons, aset_fst k v r]
    by_cases c : p.1 = k
    · rw [if_pos c]
    · rw [if_neg c]
theorem ahas_mem {l : List (Int × β)} {k : Int} : ahas l k = true ↔ k ∈ l.map (·.1) := by
  unfold ahas
  rw [List.any_eq_true, List.mem_map]
  constructor
  · rintro ⟨p, hp, e⟩; exact ⟨p, hp, of_decide_eq_true e⟩
  · rintro ⟨p, hp, e⟩; exact ⟨p, hp, decide_eq_true e⟩
theorem aput_nodup {l : List (Int × β)} (h : (l.map (·.1)).Nodup) (k : Int) (v : β) : ((aput l k v).map (·.1)).Nodup := by
  unfold aput
  split
  · rw [aset_fst]; exact h
  · rename_i c
    rw [List.map_append, List.nodup_append]
    refine ⟨h, by simp, fun x hx y hy e => ?_⟩
    have : y = k := by simpa using hy
    exact c (ahas_mem.mpr (by rw [← this, ← e]; exact hx))
end
theorem ff_of {b : Bool} {p : Prop} (h : b = true ↔ p) (n : ¬ p) : false = b := by
  cases b with
  | false => rfl
  | true => exact absurd (h.mp rfl) n
theorem tt_of {b : Bool} {p : Prop} (h : b = true ↔ p) (y : p) : true = b := (h.mpr y).symm
theorem nodup_len : ∀ (n : Nat) {l : List Int}, l.Nodup → (∀ i ∈ l, 0 ≤ i ∧ i < n) → l.length ≤ n
  | 0, l, _, h => by
    cases l with
    | nil => simp
    | cons x r => have := h x (by simp); omega
  | n + 1, l, nd, h => by
    have h1 := nodup_len n (l := l.erase (n : Int)) (nd.erase _) fun i hi => by
      have a := h i (List.mem_of_mem_erase hi)
      have b : i ≠ (n : Int) := fun e => by
        subst e
        exact (List.Nodup.not_mem_erase nd) hi
      omega
    have := List.length_erase_of_mem (a := (n : Int)) (l := l)
    by_cases c : (n : Int) ∈ l
    · have := this c; omega
    · rw [List.erase_of_not_mem c] at h1; omega
/-! what a tight cut is -/
theorem sm_all_zero {n : Nat} {f : Nat → Int} (h : ∀ i, i < n → 0 ≤ f i) (z : sm n f ≤ 0) : ∀ i, i < n → f i = 0 := fun i hi => by
  have := sm_le_one h hi
  have := h i hi
  omega
theorem wnt_sm (ps : List (Int × Int)) (M : Nat → Bool) (fl : List Ship) : wnt ps M fl = sm fl.length fun i => max 0 ((fl.getD i default).n - outOf ps M (fl.getD i default)) := by
  unfold wnt
  rw [sum_sm, List.length_map]
  exact sm_congr fun i hi => nth_map _ fl default hi
def inM (pl : List (List Int)) (n : Nat) (M : Nat → Bool) (i : Nat) : Int := sm n fun s => if M s then at2 pl i s else 0
theorem inM_sum {pl : List (List Int)} {n m : Nat} (hl : pl.length = m) (M : Nat → Bool) : (sm m fun i => inM pl n M i) = sm n fun s => if M s then nth (tot pl n) s else 0 := by
  unfold inM
  rw [sm_comm]
  refine sm_congr fun s hs => ?_
  rw [nth_tot hs, hl]
  cases M s with
  | true => rfl
  | false => simp only [Bool.false_eq_true, if_false]; exact sm_zero' _
structure Cut (fl : List Ship) (pl : List (List Int)) (k : Int) (M : Nat → Bool) : Prop where
  up : ∀ s, s < (segs fl).length → k * nth (lens fl) s < nth (tot pl (segs fl).length) s → M s = true
  dn : ∀ s, s < (segs fl).length → M s = true → k * nth (lens fl) s ≤ nth (tot pl (segs fl).length) s
  st : ∀ i s g, i < fl.length → s < (segs fl).length → g < (segs fl).length → M s = true → M g = false → 0 < at2 pl i s → at2 pl i g = cp fl i g
section
variable {fl : List Ship} {pl : List (List Int)} {k : Int} {M : Nat → Bool}
theorem ship_in (ip : IsPlan fl pl) (M : Nat → Bool) {i : Nat} (hi : i < fl.length) : (fl.getD i default).n = inM pl (segs fl).length M i + sm (segs fl).length fun s => if M s then 0 else at2 pl i s := by
  rw [← ip.need i hi, sum_sm, ip.row i hi]
  unfold inM
  rw [← sm_add]
  exact sm_congr fun s _ => by cases M s <;> simp [at2]
theorem ship_out (ip : IsPlan fl pl) (M : Nat → Bool) {i : Nat} (hi : i < fl.length) : (sm (segs fl).length fun s => if M s then 0 else at2 pl i s) ≤ outOf (segs fl) M (fl.getD i default) := sm_le fun s hs => by
  cases M s with
  | true => simp
  | false => simp only [Bool.false_eq_true, if_false]; exact ip.cap i s hi hs
theorem inM_nn (ip : IsPlan fl pl) (M : Nat → Bool) {i : Nat} (hi : i < fl.length) : 0 ≤ inM pl (segs fl).length M i := sm_nn fun s hs => by
  cases M s with
  | true => simpa using ip.nn i s hi hs
  | false => simp
theorem tight_cut (ok : ∀ s ∈ fl, s.Ok) (ip : IsPlan fl pl) (e : abv (lens fl) (tot pl (segs fl).length) k = wnt (segs fl) M fl - k * hrs (segs fl) M) : Cut fl pl k M := by
  have a := plan_want ok ip M
  have b := abv_marks (ls := lens fl) (ts := tot pl (segs fl).length) k M
  rw [← hrs_lens, lens_length] at b
  have z1 : ∀ s, s < (segs fl).length → max 0 (nth (tot pl (segs fl).length) s - k * nth (lens fl) s) - (if M s then nth (tot pl (segs fl).length) s - k * nth (lens fl) s else 0) = 0 := by
    refine sm_all_zero (fun s hs => by split <;> omega) ?_
    rw [sm_sub]
    have e1 : (sm (segs fl).length fun s => if M s then nth (tot pl (segs fl).length) s - k * nth (lens fl) s else 0) = (sm (segs fl).length fun s => if M s then nth (tot pl (segs fl).length) s else 0) - k * hrs (segs fl) M := by
      rw [hrs_lens, lens_length, ← sm_mul, ← sm_sub]
      exact sm_congr fun s _ => by cases M s <;> simp
    have e2 : (sm (segs fl).length fun s => max 0 (nth (tot pl (segs fl).length) s - k * nth (lens fl) s)) = abv (lens fl) (tot pl (segs fl).length) k := by unfold EQ.abv; rw [lens_length]
    rw [e1, e2]; omega
  have z2 : ∀ i, i < fl.length → inM pl (segs fl).length M i - max 0 ((fl.getD i default).n - outOf (segs fl) M (fl.getD i default)) = 0 := by
    refine sm_all_zero (fun i hi => ?_) ?_
    · have := ship_in ip M hi
      have := ship_out ip M hi
      have := inM_nn ip M hi
      omega
    · rw [sm_sub, ← wnt_sm, inM_sum ip.len]; omega
  refine ⟨fun s hs h => ?_, fun s hs h => ?_, fun i s g hi hs hg hs1 hg0 h => ?_⟩
  · have := z1 s hs
    cases q : M s with
    | true => rfl
    | false => rw [q] at this; simp at this; omega
  · have := z1 s hs
    rw [h] at this; simp at this; omega
  · have q := z2 i hi
    have c1 := ship_in ip M hi
    have c2 : at2 pl i s ≤ inM pl (segs fl).length M i := by
      have := sm_le_one (n := (segs fl).length) (f := fun s => if M s then at2 pl i s else 0) (fun t ht => by
        cases M t with
        | true => simpa using ip.nn i t hi ht
        | false => simp) hs
      simp only [hs1, if_true] at this
      exact this
    have z : ∀ t, t < (segs fl).length → (if M t then 0 else cp fl i t) - (if M t then 0 else at2 pl i t) = 0 := by
      refine sm_all_zero (fun t ht => ?_) ?_
      · have := ip.cap i t hi ht
        split <;> omega
      · rw [sm_sub]
        have : (sm (segs fl).length fun t => if M t then 0 else cp fl i t) = outOf (segs fl) M (fl.getD i default) := rfl
        rw [this]; omega
    have := z g hg
    rw [hg0] at this
    simp at this
    omega
theorem cut_tight (ok : ∀ s ∈ fl, s.Ok) (ip : IsPlan fl pl) (c : Cut fl pl k M) : abv (lens fl) (tot pl (segs fl).length) k = wnt (segs fl) M fl - k * hrs (segs fl) M := by
  have e1 : wnt (segs fl) M fl = sm (segs fl).length fun s => if M s then nth (tot pl (segs fl).length) s else 0 := by
    rw [wnt_sm, ← inM_sum ip.len]
    refine sm_congr fun i hi => ?_
    have c1 := ship_in ip M hi
    have c2 := ship_out ip M hi
    have c3 := inM_nn ip M hi
    by_cases q : ∃ s, s < (segs fl).length ∧ M s = true ∧ 0 < at2 pl i s
    · obtain ⟨s, hs, hm, h0⟩ := q
      have : (sm (segs fl).length fun s => if M s then 0 else at2 pl i s) = outOf (segs fl) M (fl.getD i default) := sm_congr fun g hg => by
        cases w : M g with
        | true => simp
        | false => simp only [Bool.false_eq_true, if_false]; exact c.st i s g hi hs hg hm w h0
      omega
    · have : inM pl (segs fl).length M i = 0 := by
        unfold inM
        rw [sm_congr (g := fun _ => 0) fun s hs => ?_, sm_zero']
        cases w : M s with
        | true =>
          have := ip.nn i s hi hs
          have : ¬ 0 < at2 pl i s := fun h => q ⟨s, hs, w, h⟩
          simp only [if_true]; omega
        | false => simp
      omega
  rw [e1, hrs_lens, lens_length, ← sm_mul, ← sm_sub]
  unfold EQ.abv
  rw [lens_length]
  refine sm_congr fun s hs => ?_
  cases w : M s with
  | true => have := c.dn s hs w; simp only [if_true]; omega
  | false =>
    have : ¬ k * nth (lens fl) s < nth (tot pl (segs fl).length) s := fun h => by rw [c.up s hs h] at w; cases w
    simp only [Bool.false_eq_true, if_false, Int.mul_zero]; omega
end
/-! time turned about, moved; ships in another order -/
theorem sm_rev (n : Nat) (f : Nat → Int) : sm n f = sm n fun t => f (n - 1 - t) := by
  induction n generalizing f with
  | zero => rfl
  | succ n ih =>
    rw [sm_succ, Nat.add_comm n 1, sm_cut, ih f]
    have e : sm 1 (fun t => f (1 + n - 1 - t)) = f n := by
      show sm (0 + 1) _ = _
      rw [sm_succ, sm_zero]; simp
    rw [e, Int.add_comm]
    congr 1
    exact sm_congr fun i hi => by congr 1; omega
def Ship.mr (d : Int) (s : Ship) : Ship := ⟨d - s.e, d - s.b, s.n, s.m⟩
theorem mr_mr (d : Int) (s : Ship) : (s.mr d).mr d = s := by
  obtain ⟨b, e, n, m⟩ := s
  show Ship.mk _ _ _ _ = _
  congr 1
  · show d - (d - b) = b; omega
  · show d - (d - e) = e; omega
def hmir (d : Int) (H : Int → Bool) (h : Int) : Bool := H (d - 1 - h)
theorem hout_mir (d : Int) (H : Int → Bool) (lo : Int) (N : Nat) (s : Ship) : hout (hmir d H) (d - lo - N) N (s.mr d) = hout H lo N s := by
  unfold hout
  rw [sm_rev N fun t => if (s.b ≤ lo + (t : Int) ∧ lo + (t : Int) < s.e) ∧ H (lo + (t : Int)) = false then 1 else 0]
  refine sm_congr fun t ht => ?_
  have e1 : hmir d H (d - lo - (N : Int) + (t : Int)) = H (lo + ((N - 1 - t : Nat) : Int)) := by
    unfold hmir; congr 1; omega
  have e2 : ((s.mr d).b ≤ d - lo - (N : Int) + (t : Int) ∧ d - lo - (N : Int) + (t : Int) < (s.mr d).e) ↔ (s.b ≤ lo + ((N - 1 - t : Nat) : Int) ∧ lo + ((N - 1 - t : Nat) : Int) < s.e) := by
    show (d - s.e ≤ _ ∧ _ < d - s.b) ↔ _
    omega
  simp only [e1, e2]
theorem hcnt_mir (d : Int) (H : Int → Bool) (lo : Int) (N : Nat) : hcnt (hmir d H) (d - lo - N) N = hcnt H lo N := by
  unfold hcnt
  rw [sm_rev N fun t => if H (lo + (t : Int)) then 1 else 0]
  refine sm_congr fun t ht => ?_
  have e1 : hmir d H (d - lo - (N : Int) + (t : Int)) = H (lo + ((N - 1 - t : Nat) : Int)) := by
    unfold hmir; congr 1; omega
  simp only [e1]
theorem hwnt_mir (d : Int) (H : Int → Bool) (lo : Int) (N : Nat) (fl : List Ship) : hwnt (hmir d H) (d - lo - N) N (fl.map (Ship.mr d)) = hwnt H lo N fl := by
  unfold hwnt
  rw [List.map_map]
  refine sum_map_eq fun s _ => ?_
  show max 0 (s.n - s.m * hout (hmir d H) (d - lo - N) N (s.mr d)) = _
  rw [hout_mir]
theorem Cov.mir {fl : List Ship} {lo : Int} {N : Nat} (cv : Cov fl lo N) (d : Int) : Cov (fl.map (Ship.mr d)) (d - lo - N) N := fun s hs => by
  obtain ⟨t, ht, rfl⟩ := List.mem_map.mp hs
  have := cv t ht
  show d - lo - N ≤ d - t.e ∧ d - t.e < d - t.b ∧ d - t.b ≤ d - lo - N + N
  omega
def hmv (d : Int) (H : Int → Bool) (h : Int) : Bool := H (h - d)
theorem hout_mv (d : Int) (H : Int → Bool) (lo : Int) (N : Nat) (s : Ship) : hout (hmv d H) (lo + d) N (s.mv d) = hout H lo N s := by
  unfold hout
  refine sm_congr fun t ht => ?_
  have e1 : hmv d H (lo + d + (t : Int)) = H (lo + (t : Int)) := by
    unfold hmv; congr 1; omega
  have e2 : ((s.mv d).b ≤ lo + d + (t : Int) ∧ lo + d + (t : Int) < (s.mv d).e) ↔ (s.b ≤ lo + (t : Int) ∧ lo + (t : Int) < s.e) := by
    show (s.b + d ≤ _ ∧ _ < s.e + d) ↔ _
    omega
  simp only [e1, e2]
theorem hcnt_mv (d : Int) (H : Int → Bool) (lo : Int) (N : Nat) : hcnt (hmv d H) (lo + d) N = hcnt H lo N := by
  unfold hcnt
  refine sm_congr fun t ht => ?_
  have e1 : hmv d H (lo + d + (t : Int)) = H (lo + (t : Int)) := by
    unfold hmv; congr 1; omega
  simp only [e1]
theorem hwnt_mv (d : Int) (H : Int → Bool) (lo : Int) (N : Nat) (fl : List Ship) : hwnt (hmv d H) (lo + d) N (fl.map (Ship.mv d)) = hwnt H lo N fl := by
  unfold hwnt
  rw [List.map_map]
  refine sum_map_eq fun s _ => ?_
  show max 0 (s.n - s.m * hout (hmv d H) (lo + d) N (s.mv d)) = _
  rw [hout_mv]
theorem Cov.mv {fl : List Ship} {lo : Int} {N : Nat} (cv : Cov fl lo N) (d : Int) : Cov (fl.map (Ship.mv d)) (lo + d) N := fun s hs => by
  obtain ⟨t, ht, rfl⟩ := List.mem_map.mp hs
  have := cv t ht
  show lo + d ≤ t.b + d ∧ t.b + d < t.e + d ∧ t.e + d ≤ lo + d + N
  omega
theorem Cov.perm {fl gl : List Ship} {lo : Int} {N : Nat} (cv : Cov fl lo N) (p : gl.Perm fl) : Cov gl lo N := fun s hs => cv s (p.mem_iff.mp hs)
theorem segs_perm {fl gl : List Ship} (p : gl.Perm fl) : segs gl = segs fl := segs_congr fun x => by
  constructor
  · rintro ⟨s, hs, h⟩; exact ⟨s, p.mem_iff.mp hs, h⟩
  · rintro ⟨s, hs, h⟩; exact ⟨s, p.mem_iff.mpr hs, h⟩
theorem lens_sum (fl : List Ship) : (lens fl).sum = nth (bds fl) ((bds fl).length - 1) - nth (bds fl) 0 := prs_sum _
theorem lens_mv (d : Int) (fl : List Ship) : lens (fl.map (Ship.mv d)) = lens fl := by
  unfold lens
  rw [segs_mv, List.map_map]
  exact List.map_congr_left fun p _ => by show p.2 + d - (p.1 + d) = p.2 - p.1; omega
theorem bds_mir {fl : List Ship} {d x : Int} : x ∈ bds (fl.map (Ship.mr d)) ↔ d - x ∈ bds fl := by
  rw [bds_mem, bds_mem]
  constructor
  · rintro ⟨s, hs, h⟩
    obtain ⟨t, ht, rfl⟩ := List.mem_map.mp hs
    refine ⟨t, ht, ?_⟩
    rcases h with h | h
    · right; have h : x = d - t.e := h; omega
    · left; have h : x = d - t.b := h; omega
  · rintro ⟨t, ht, h⟩
    refine ⟨t.mr d, List.mem_map.mpr ⟨t, ht, rfl⟩, ?_⟩
    rcases h with h | h
    · right; show x = d - t.b; omega
    · left; show x = d - t.e; omega
theorem lens_mir (d : Int) (fl : List Ship) : (lens (fl.map (Ship.mr d))).sum = (lens fl).sum := by
  rw [lens_sum, lens_sum]
  cases q : fl with
  | nil => rfl
  | cons s r =>
    rw [← q]
    have hs : s ∈ fl := by rw [q]; simp
    have hb : s.b ∈ bds fl := bds_mem.mpr ⟨s, hs, .inl rfl⟩
    obtain ⟨i, hi, _⟩ := mem_nth hb
    have pos : 0 < (bds fl).length := by omega
    have mono : ∀ {a b : Nat}, a ≤ b → b < (bds fl).length → nth (bds fl) a ≤ nth (bds fl) b := fun {a b} h hb => by
      rcases Nat.eq_or_lt_of_le h with e | l
      · rw [e]; exact Int.le_refl _
      · have := ss_get (bds_ss fl) l hb; omega
    have lo : ∀ y ∈ bds fl, nth (bds fl) 0 ≤ y := fun y hy => by
      obtain ⟨j, hj, e⟩ := mem_nth hy
      rw [← e]; exact mono (by omega) hj
    have hi' : ∀ y ∈ bds fl, y ≤ nth (bds fl) ((bds fl).length - 1) := fun y hy => by
      obtain ⟨j, hj, e⟩ := mem_nth hy
      rw [← e]; exact mono (by omega) (by omega)
    have f := ss_first (bds_ss (fl.map (Ship.mr d))) (m := d - nth (bds fl) ((bds fl).length - 1)) (bds_mir.mpr (by
      have : d - (d - nth (bds fl) ((bds fl).length - 1)) = nth (bds fl) ((bds fl).length - 1) := by omega
      rw [this]; exact nth_mem (by omega))) fun y hy => by
      have := hi' _ (bds_mir.mp hy); omega
    have l := ss_last (bds_ss (fl.map (Ship.mr d))) (m := d - nth (bds fl) 0) (bds_mir.mpr (by
      have : d - (d - nth (bds fl) 0) = nth (bds fl) 0 := by omega
      rw [this]; exact nth_mem pos)) fun y hy => by
      have := lo _ (bds_mir.mp hy); omega
    rw [f, l]; omega
theorem cut_perm {α : Type} (l : List α) {a : Int} (h0 : 0 ≤ a) (h1 : a ≤ l.length) : (cutA l (some a) none ++ cutA l none (some a)).Perm l := by
  rw [cutA_from _ h0 h1, cutA_to _ h0 h1]
  exact List.perm_append_comm.trans (by rw [List.take_append_drop])
/-! prices -/
def hc (ps : List Int) (j : Int) : Int := (ps.take j.toNat).sum + max 0 (j - ps.length) * nth ps (ps.length - 1)
theorem take_sum_succ {ps : List Int} {j : Nat} (h : j < ps.length) : (ps.take (j + 1)).sum = (ps.take j).sum + nth ps j := by
  rw [List.take_succ_eq_append_getElem h, sum_app, nth_get h]; simp
theorem step_tele (g : Nat → Int) (j : Nat) : ∀ n : Nat, (sm n fun i => if i < j then g (i + 1) - g i else 0) = g (min j n) - g 0
  | 0 => by simp
  | n + 1 => by
    rw [sm_succ, step_tele g j n]
    by_cases c : n < j
    · rw [if_pos c, Nat.min_eq_right (by omega), Nat.min_eq_right (by omega)]; omega
    · rw [if_neg c, Nat.min_eq_left (by omega), Nat.min_eq_left (by omega)]; omega
theorem hc_steps {ps : List Int} (h : ps ≠ []) : ∀ j : Nat, hc ps j = nth ps 0 * j + sm (ps.length - 1) fun i => (nth ps (i + 1) - nth ps i) * max 0 ((j : Int) - ((i : Int) + 1))
  | 0 => by
    have : sm (ps.length - 1) (fun i => (nth ps (i + 1) - nth ps i) * max 0 (((0 : Nat) : Int) - ((i : Int) + 1))) = 0 := by
      rw [sm_congr (g := fun _ => 0) fun i _ => ?_, sm_zero']
      have m : max 0 (((0 : Nat) : Int) - ((i : Int) + 1)) = 0 := by omega
      rw [m, Int.mul_zero]
    rw [this]
    unfold hc
    have m : max 0 (((0 : Nat) : Int) - (ps.length : Int)) = 0 := by omega
    rw [m]; simp
  | j + 1 => by
    have ih := hc_steps h j
    have lp := List.length_pos_iff.mpr h
    have e1 : hc ps ((j + 1 : Nat) : Int) = hc ps (j : Int) + nth ps (min j (ps.length - 1)) := by
      unfold hc
      rw [Int.toNat_natCast, Int.toNat_natCast]
      by_cases c : j < ps.length
      · have m1 : max 0 (((j + 1 : Nat) : Int) - (ps.length : Int)) = 0 := by omega
        have m2 : max 0 ((j : Int) - (ps.length : Int)) = 0 := by omega
        rw [m1, m2, take_sum_succ c, Nat.min_eq_left (by omega)]; omega
      · have m1 : max 0 (((j + 1 : Nat) : Int) - (ps.length : Int)) = max 0 ((j : Int) - (ps.length : Int)) + 1 := by omega
        rw [m1, List.take_of_length_le (by omega), List.take_of_length_le (by omega), Nat.min_eq_right (by omega), Int.add_mul]; omega
    have e2 : (sm (ps.length - 1) fun i => (nth ps (i + 1) - nth ps i) * max 0 (((j + 1 : Nat) : Int) - ((i : Int) + 1))) = (sm (ps.length - 1) fun i => (nth ps (i + 1) - nth ps i) * max 0 ((j : Int) - ((i : Int) + 1))) + (nth ps (min j (ps.length - 1)) - nth ps 0) := by
      rw [← step_tele (nth ps) j, ← sm_add]
      refine sm_congr fun i _ => ?_
      by_cases c : i < j
      · have m1 : max 0 (((j + 1 : Nat) : Int) - ((i : Int) + 1)) = max 0 ((j : Int) - ((i : Int) + 1)) + 1 := by omega
        rw [m1, if_pos c, Int.mul_add]; omega
      · have m1 : max 0 (((j + 1 : Nat) : Int) - ((i : Int) + 1)) = 0 := by omega
        have m2 : max 0 ((j : Int) - ((i : Int) + 1)) = 0 := by omega
        rw [m1, m2, if_neg c]; omega
    rw [e1, ih, e2, show ((j + 1 : Nat) : Int) = (j : Int) + 1 from rfl, Int.mul_add]; omega
theorem RowOk.cost {ls ts : List Int} {row : List (Int × Int)} (h : RowOk ls ts row) (d : Dom ls ts) (hl : ts.length = ls.length) {ps : List Int} (hp : ps ≠ []) :
    (row.map fun p => hc ps p.1 * p.2).sum = nth ps 0 * ts.sum + sm (ps.length - 1) fun i => (nth ps (i + 1) - nth ps i) * EQ.abv ls ts ((i : Int) + 1) := by
  have nn := h.nn d
  have e1 : (row.map fun p => hc ps p.1 * p.2).sum = (row.map fun p => nth ps 0 * (p.1 * p.2) + sm (ps.length - 1) fun i => (nth ps (i + 1) - nth ps i) * (max 0 (p.1 - ((i : Int) + 1)) * p.2)).sum := sum_map_eq fun p hp' => by
    obtain ⟨j, ej⟩ : ∃ j : Nat, p.1 = j := ⟨p.1.toNat, by have := nn p hp'; omega⟩
    rw [ej, hc_steps hp j, Int.add_mul, Int.mul_assoc]
    congr 1
    rw [Int.mul_comm, ← sm_mul]
    exact sm_congr fun i _ => by rw [Int.mul_comm p.2, Int.mul_assoc]
  rw [e1, sum_map_add, sum_map_mul, h.total d hl, sum_sm_comm]
  congr 1
  exact sm_congr fun i _ => by rw [sum_map_mul, h.abv d]
theorem RowOk.bnd {ls ts : List Int} {row : List (Int × Int)} (h : RowOk ls ts row) (d : Dom ls ts) (hl : ts.length = ls.length) {p : Int × Int} (hp : p ∈ row) : p.2 ≤ ls.sum ∧ p.1 ≤ ts.sum := by
  have nn := h.nn d
  have le : ∀ (f : Int × Int → Int), (∀ q ∈ row, 0 ≤ f q) → f p ≤ (row.map f).sum := fun f hf => by
    clear h nn
    induction row with
    | nil => cases hp
    | cons q r ih =>
      rw [List.map_cons, List.sum_cons]
      have s0 : 0 ≤ (r.map f).sum := sum_nn fun x hx => by
        obtain ⟨y, hy, rfl⟩ := List.mem_map.mp hx
        exact hf y (by simp [hy])
      rcases List.mem_cons.mp hp with rfl | hp
      · omega
      · have := ih hp fun y hy => hf y (by simp [hy])
        have := hf q (by simp)
        omega
  have a := le (fun q => q.2) fun q hq => Int.le_of_lt (h.pos q hq)
  have b := le (fun q => q.1 * q.2) fun q hq => Int.mul_nonneg (nn q hq) (Int.le_of_lt (h.pos q hq))
  have ha : (row.map fun q => q.2).sum = ls.sum := h.hours d
  have hb : (row.map fun q => q.1 * q.2).sum = ts.sum := h.total d hl
  have c : p.1 ≤ p.1 * p.2 := by
    have := Int.mul_le_mul_of_nonneg_left (show 1 ≤ p.2 from h.pos p hp) (nn p hp)
    omega

  omega
theorem plan_total {fl : List Ship} {pl : List (List Int)} (ip : IsPlan fl pl) : (tot pl (segs fl).length).sum = (fl.map fun s : Ship => s.n).sum := by
  rw [sum_sm, tot_length, sum_sm, List.length_map]
  rw [sm_congr (g := fun s => sm fl.length fun i => at2 pl i s) fun s hs => by rw [nth_tot hs, ip.len], ← sm_comm]
  refine sm_congr fun i hi => ?_
  rw [nth_map _ fl default hi, ← ip.need i hi, sum_sm, ip.row i hi]; rfl
theorem abv_le_total {ls ts : List Int} (d : Dom ls ts) (hl : ts.length = ls.length) {k : Int} (hk : 0 ≤ k) : abv ls ts k ≤ ts.sum := by
  unfold abv
  rw [sum_sm ts, hl]
  refine sm_le fun s hs => ?_
  have := d s hs
  have := Int.mul_nonneg hk (Int.le_of_lt this.1)
  omega
theorem need_bnd {s : Ship} (ok : s.Ok) : 0 ≤ s.n ∧ s.n ≤ 2000000000000000000000000000000000 := by
  refine ⟨ok.n0, ?_⟩
  have a := Int.mul_le_mul_of_nonneg_right ok.m1 (show 0 ≤ s.e - s.b by have := ok.be; omega)
  have b := Int.mul_le_mul_of_nonneg_left (show s.e - s.b ≤ 200000000000000000 by have := ok.b0; have := ok.e1; omega) (show (0 : Int) ≤ 10000000000000000 by omega)
  have := ok.n1
  omega
theorem needs_bnd : ∀ {fl : List Ship}, (∀ s ∈ fl, s.Ok) → 0 ≤ (fl.map fun s : Ship => s.n).sum ∧ (fl.map fun s : Ship => s.n).sum ≤ fl.length * 2000000000000000000000000000000000
  | [], _ => by simp
  | s :: r, ok => by
    have a := need_bnd (ok s (by simp))
    have b := needs_bnd (fl := r) fun t ht => ok t (by simp [ht])
    rw [List.map_cons, List.sum_cons, List.length_cons]
    omega
theorem lens_bound {fl : List Ship} (ok : ∀ s ∈ fl, s.Ok) : 0 ≤ (lens fl).sum ∧ (lens fl).sum ≤ 200000000000000000 := by
  have a := hrs_bnd (fl := fl) ok fun _ => true
  rw [hrs_lens] at a
  simp only [if_true] at a
  rw [sum_sm]
  exact a
def Big (x : Int) : Prop := -1000000000000000000000000000000000000000000000000000000000000 ≤ x ∧ x ≤ 1000000000000000000000000000000000000000000000000000000000000
theorem Big.lt {x : Int} (h : Big x) : x.natAbs < 2 ^ 200 := Nat.lt_of_lt_of_le (show x.natAbs < 1000000000000000000000000000000000000000000000000000000000001 by unfold Big at h; omega) (by decide)
theorem SM_big {a b : Int} (ha : Big a) (hb : Big b) : SM a b := .inr (.inr (wide_mul ha.lt hb.lt (by decide) (by decide) (by decide)))
/-- prices as the laws draw them -/
structure PricesOk (ps : List Int) : Prop where
  ne : ps ≠ []
  len : ps.length ≤ 60
  up : ∀ i, i + 1 < ps.length → nth ps i ≤ nth ps (i + 1)
  bnd : ∀ x ∈ ps, -20000000000000000000000000000000000000000 ≤ x ∧ x ≤ 20000000000000000000000000000000000000000
/-! chains of moves -/
structure Edge (fl : List Ship) (pl : List (List Int)) (i s g : Int) : Prop where
  i0 : 0 ≤ i ∧ i < fl.length
  s0 : 0 ≤ s ∧ s < (segs fl).length
  g0 : 0 ≤ g ∧ g < (segs fl).length
  off : 0 < at2 pl i.toNat s.toNat
  on : at2 pl i.toNat g.toNat < cp fl i.toNat g.toNat
def Chn (fl : List Ship) (pl : List (List Int)) : Int → List (Int × Int × Int) → Int → Prop
  | a, [], b => a = b
  | a, m :: r, b => m.2.1 = a ∧ Edge fl pl m.1 a m.2.2 ∧ Chn fl pl m.2.2 r b
structure ChainOk (fl : List Ship) (pl : List (List Int)) (a : Int) (ms : List (Int × Int × Int)) (b : Int) : Prop where
  ch : Chn fl pl a ms b
  nd : (a :: ms.map (·.2.2)).Nodup
theorem Chn.edge {fl : List Ship} {pl : List (List Int)} : ∀ {ms : List (Int × Int × Int)} {a b : Int}, Chn fl pl a ms b → ∀ m ∈ ms, Edge fl pl m.1 m.2.1 m.2.2
  | [], _, _, _, m, hm => by cases hm
  | x :: r, a, b, h, m, hm => by
    obtain ⟨e, ed, t⟩ := h
    rcases List.mem_cons.mp hm with rfl | hm
    · rw [e]; exact ed
    · exact Chn.edge t m hm
theorem Chn.offs {fl : List Ship} {pl : List (List Int)} : ∀ {ms : List (Int × Int × Int)} {a b : Int}, Chn fl pl a ms b → ms.map (·.2.1) = (a :: ms.map (·.2.2)).dropLast
  | [], _, _, _ => rfl
  | x :: r, a, b, h => by
    obtain ⟨e, _, t⟩ := h
    have ih := Chn.offs t
    rw [List.map_cons, List.map_cons, ih, e]; rfl
theorem Chn.last {fl : List Ship} {pl : List (List Int)} : ∀ {ms : List (Int × Int × Int)} {a b : Int}, Chn fl pl a ms b → ms ≠ [] → (ixl ms).2.2 = b ∧ (ms.getD 0 default).2.1 = a
  | [], _, _, _, n => absurd rfl n
  | [x], a, b, h, _ => by
    obtain ⟨e, _, t⟩ := h
    exact ⟨t, e⟩
  | x :: y :: r, a, b, h, _ => by
    obtain ⟨e, _, t⟩ := h
    have ih := Chn.last t (by simp)
    refine ⟨?_, e⟩
    rw [← ih.1]; rfl
theorem Chn.app {fl : List Ship} {pl : List (List Int)} : ∀ {ms ns : List (Int × Int × Int)} {a b c : Int}, Chn fl pl a ms b → Chn fl pl b ns c → Chn fl pl a (ms ++ ns) c
  | [], _, _, _, _, h, t => by cases h; exact t
  | _ :: _, _, _, _, _, ⟨e, ed, h⟩, t => ⟨e, ed, Chn.app h t⟩
/-! what moves do -/
def mv1 (p : List (List Int)) (m : Int × Int × Int) : List (List Int) :=
  set2 (set2 p m.1.toNat m.2.1.toNat (ix (ix p m.1) m.2.1 - 1)) m.1.toNat m.2.2.toNat (ix (ix (set2 p m.1.toNat m.2.1.toNat (ix (ix p m.1) m.2.1 - 1)) m.1) m.2.2 + 1)
def Rect (p : List (List Int)) (n N : Nat) : Prop := p.length = n ∧ ∀ i, i < n → (p.getD i []).length = N
def MvIn (n N : Nat) (m : Int × Int × Int) : Prop := (0 ≤ m.1 ∧ m.1 < n) ∧ (0 ≤ m.2.1 ∧ m.2.1 < N) ∧ 0 ≤ m.2.2 ∧ m.2.2 < N
def dlt (m : Int × Int × Int) (i s : Nat) : Int := if m.1 = i then (if m.2.2 = s then 1 else 0) - (if m.2.1 = s then 1 else 0) else 0
theorem at2_set2 {p : List (List Int)} {n N k l : Nat} {v : Int} (r : Rect p n N) (hk : k < n) (hl : l < N) (i s : Nat) : at2 (set2 p k l v) i s = if i = k ∧ s = l then v else at2 p i s := by
  unfold at2
  rw [set2_row (by rw [r.1]; exact hk)]
  by_cases c : i = k
  · subst c
    rw [if_pos rfl, nth_set (by rw [r.2 i hk]; exact hl)]
    by_cases d : s = l
    · subst d; rw [if_pos rfl, if_pos ⟨rfl, rfl⟩]
    · rw [if_neg d, if_neg fun z => d z.2]
  · rw [if_neg c, if_neg fun z => c z.1]
theorem rect_set2 {p : List (List Int)} {n N k l : Nat} {v : Int} (r : Rect p n N) (hk : k < n) : Rect (set2 p k l v) n N := by
  refine ⟨by rw [set2_len]; exact r.1, fun i hi => ?_⟩
  rw [set2_row (by rw [r.1]; exact hk)]
  by_cases c : i = k
  · subst c; rw [if_pos rfl, List.length_set]; exact r.2 i hi
  · rw [if_neg c]; exact r.2 i hi
theorem rect_mv1 {p : List (List Int)} {n N : Nat} {m : Int × Int × Int} (r : Rect p n N) (h : MvIn n N m) : Rect (mv1 p m) n N := by
  obtain ⟨h1, h2, h3⟩ := h
  exact rect_set2 (rect_set2 r (by omega)) (by omega)
theorem at2_mv1 {p : List (List Int)} {n N : Nat} {m : Int × Int × Int} (r : Rect p n N) (h : MvIn n N m) (i s : Nat) : at2 (mv1 p m) i s = at2 p i s + dlt m i s := by
  obtain ⟨h1, h2, h3⟩ := h
  obtain ⟨a, b, c⟩ := m
  obtain ⟨a, rfl⟩ : ∃ k : Nat, a = k := ⟨a.toNat, by simp only at h1; omega⟩
  obtain ⟨b, rfl⟩ : ∃ k : Nat, b = k := ⟨b.toNat, by simp only at h2; omega⟩
  obtain ⟨c, rfl⟩ : ∃ k : Nat, c = k := ⟨c.toNat, by simp only at h3; omega⟩
  simp only at h1 h2 h3
  have r1 : Rect (set2 p a b (at2 p a b - 1)) n N := rect_set2 r (by omega)
  have e : mv1 p ((a : Int), (b : Int), (c : Int)) = set2 (set2 p a b (at2 p a b - 1)) a c (at2 (set2 p a b (at2 p a b - 1)) a c + 1) := rfl
  rw [e, at2_set2 r1 (by omega) (by omega), at2_set2 r (by omega) (by omega), at2_set2 r (by omega) (by omega)]
  unfold dlt
  simp only
  by_cases c1 : i = a
  · subst c1
    rw [if_pos rfl]
    by_cases c2 : s = c
    · subst c2
      by_cases c3 : s = b
      · subst c3; simp
      · have : ¬ (b : Int) = (s : Int) := by omega
        simp [c3, this]
    · have n2 : ¬ (c : Int) = (s : Int) := by omega
      by_cases c3 : s = b
      · subst c3; simp [c2, n2]; omega
      · have : ¬ (b : Int) = (s : Int) := by omega
        simp [c2, c3, n2, this]
  · have : ¬ (a : Int) = (i : Int) := by omega
    simp [c1, this]
def mvs (p : List (List Int)) (ms : List (Int × Int × Int)) : List (List Int) := ms.foldl mv1 p
theorem mvs_app (p : List (List Int)) (ms : List (Int × Int × Int)) (m : Int × Int × Int) : mvs p (ms ++ [m]) = mv1 (mvs p ms) m := by unfold mvs; rw [List.foldl_append]; rfl
theorem rect_mvs {n N : Nat} : ∀ {ms : List (Int × Int × Int)} {p : List (List Int)}, Rect p n N → (∀ m ∈ ms, MvIn n N m) → Rect (mvs p ms) n N
  | [], p, r, _ => r
  | m :: ms, p, r, h => rect_mvs (ms := ms) (p := mv1 p m) (rect_mv1 r (h m (by simp))) fun x hx => h x (by simp [hx])
theorem at2_mvs {n N : Nat} (i s : Nat) : ∀ {ms : List (Int × Int × Int)} {p : List (List Int)}, Rect p n N → (∀ m ∈ ms, MvIn n N m) → at2 (mvs p ms) i s = at2 p i s + (ms.map fun m => dlt m i s).sum
  | [], p, r, _ => by simp [mvs]
  | m :: ms, p, r, h => by
    have e : mvs p (m :: ms) = mvs (mv1 p m) ms := rfl
    rw [e, at2_mvs i s (rect_mv1 r (h m (by simp))) fun x hx => h x (by simp [hx]), at2_mv1 r (h m (by simp)), List.map_cons, List.sum_cons]; omega
/-- at most one of a list has a key -/
theorem once {α : Type} (P : α → Prop) [DecidablePred P] (key : α → Int) (x : Int) : ∀ {l : List α}, (l.map key).Nodup → 0 ≤ (l.map fun m => if P m ∧ key m = x then (1 : Int) else 0).sum ∧ (l.map fun m => if P m ∧ key m = x then (1 : Int) else 0).sum ≤ 1 ∧ (0 < (l.map fun m => if P m ∧ key m = x then (1 : Int) else 0).sum → ∃ m ∈ l, P m ∧ key m = x)
  | [], _ => by simp
  | m :: l, nd => by
    rw [List.map_cons, List.nodup_cons] at nd
    obtain ⟨a, b, c⟩ := once P key x (l := l) nd.2
    rw [List.map_cons, List.sum_cons]
    by_cases d : P m ∧ key m = x
    · have z : (l.map fun m => if P m ∧ key m = x then (1 : Int) else 0).sum = 0 := by
        rw [sum_map_eq (g := fun _ => (0 : Int)) fun y hy => if_neg fun q => nd.1 (List.mem_map.mpr ⟨y, hy, by rw [q.2, d.2]⟩)]
        exact sum_zero _
      rw [if_pos d, z]
      exact ⟨by omega, by omega, fun _ => ⟨m, by simp, d⟩⟩
    · rw [if_neg d]
      refine ⟨by omega, by omega, fun h => ?_⟩
      obtain ⟨y, hy, q⟩ := c (by omega)
      exact ⟨y, by simp [hy], q⟩
section
variable {fl : List Ship} {pl : List (List Int)}
theorem IsPlan.rect (ip : IsPlan fl pl) : Rect pl fl.length (segs fl).length := ⟨ip.len, ip.row⟩
theorem Edge.mvIn {m : Int × Int × Int} (h : Edge fl pl m.1 m.2.1 m.2.2) : MvIn fl.length (segs fl).length m := ⟨h.i0, h.s0, h.g0⟩
theorem dlt_row {N : Nat} {m : Int × Int × Int} (h2 : 0 ≤ m.2.1 ∧ m.2.1 < N) (h3 : 0 ≤ m.2.2 ∧ m.2.2 < N) (i : Nat) : (sm N fun s => dlt m i s) = 0 := by
  unfold dlt
  by_cases c : m.1 = i
  · simp only [c, if_true]
    rw [sm_sub, sm_pick (s0 := m.2.2.toNat) (by omega) (fun _ => 1) fun s _ => by omega, sm_pick (s0 := m.2.1.toNat) (by omega) (fun _ => 1) fun s _ => by omega]; rfl
  · simp only [c, if_false]; exact sm_zero' _
theorem dlt_col {n : Nat} {m : Int × Int × Int} (h1 : 0 ≤ m.1 ∧ m.1 < n) (s : Nat) : (sm n fun i => dlt m i s) = (if m.2.2 = s then 1 else 0) - (if m.2.1 = s then 1 else 0) := by
  unfold dlt
  rw [sm_pick (s0 := m.1.toNat) (by omega) (fun _ => (if m.2.2 = (s : Int) then (1 : Int) else 0) - (if m.2.1 = (s : Int) then 1 else 0)) fun i _ => by omega]
theorem chn_tele (s : Int) : ∀ {ms : List (Int × Int × Int)} {a b : Int}, Chn fl pl a ms b → (ms.map fun m => (if m.2.2 = s then (1 : Int) else 0) - (if m.2.1 = s then 1 else 0)).sum = (if b = s then 1 else 0) - (if a = s then 1 else 0)
  | [], a, b, h => by
    have h : a = b := h
    subst h; simp
  | m :: r, a, b, ⟨e, _, t⟩ => by
    rw [List.map_cons, List.sum_cons, chn_tele s t, e]; omega
theorem plan_moved (ip : IsPlan fl pl) {a b : Int} {ms : List (Int × Int × Int)} (c : ChainOk fl pl a ms b) : IsPlan fl (mvs pl ms) := by
  have ed := c.ch.edge
  have inr : ∀ m ∈ ms, MvIn fl.length (segs fl).length m := fun m hm => (ed m hm).mvIn
  have r := rect_mvs ip.rect inr
  have at' := fun i s => at2_mvs i s ip.rect inr
  have nd1 : (ms.map (·.2.2)).Nodup := (List.nodup_cons.mp c.nd).2
  have nd2 : (ms.map (·.2.1)).Nodup := by rw [c.ch.offs]; exact c.nd.sublist (List.dropLast_sublist _)
  have parts : ∀ i s : Nat, (ms.map fun m => dlt m i s).sum = (ms.map fun m => if m.1 = (i : Int) ∧ m.2.2 = (s : Int) then (1 : Int) else 0).sum - (ms.map fun m => if m.1 = (i : Int) ∧ m.2.1 = (s : Int) then (1 : Int) else 0).sum := fun i s => by
    have : ∀ l : List (Int × Int × Int), (l.map fun m => dlt m i s).sum = (l.map fun m => if m.1 = (i : Int) ∧ m.2.2 = (s : Int) then (1 : Int) else 0).sum - (l.map fun m => if m.1 = (i : Int) ∧ m.2.1 = (s : Int) then (1 : Int) else 0).sum := fun l => by
      induction l with
      | nil => simp
      | cons m l ih =>
        simp only [List.map_cons, List.sum_cons, ih]
        unfold dlt
        by_cases c : m.1 = (i : Int) <;> simp [c] <;> omega
    exact this ms
  refine ⟨r.1, r.2, fun i s hi hs => ?_, fun i s hi hs => ?_, fun i hi => ?_⟩
  · rw [at', parts]
    have p := once (fun m : Int × Int × Int => m.1 = (i : Int)) (fun m => m.2.2) (s : Int) nd1
    have n := once (fun m : Int × Int × Int => m.1 = (i : Int)) (fun m => m.2.1) (s : Int) nd2
    have b0 := ip.nn i s hi hs
    by_cases z : 0 < (ms.map fun m => if m.1 = (i : Int) ∧ m.2.1 = (s : Int) then (1 : Int) else 0).sum
    · obtain ⟨m, hm, e1, e2⟩ := n.2.2 z
      have := (ed m hm).off
      rw [e1, e2, Int.toNat_natCast, Int.toNat_natCast] at this
      omega
    · omega
  · rw [at', parts]
    have p := once (fun m : Int × Int × Int => m.1 = (i : Int)) (fun m => m.2.2) (s : Int) nd1
    have n := once (fun m : Int × Int × Int => m.1 = (i : Int)) (fun m => m.2.1) (s : Int) nd2
    have b0 := ip.cap i s hi hs
    by_cases z : 0 < (ms.map fun m => if m.1 = (i : Int) ∧ m.2.2 = (s : Int) then (1 : Int) else 0).sum
    · obtain ⟨m, hm, e1, e2⟩ := p.2.2 z
      have := (ed m hm).on
      rw [e1, e2, Int.toNat_natCast, Int.toNat_natCast] at this
      omega
    · omega
  · have e0 : (fl.getD i default).n = sm (segs fl).length (at2 pl i) := by rw [← ip.need i hi, sum_sm, ip.row i hi]; rfl
    rw [sum_sm, r.2 i hi, e0]
    have : (sm (segs fl).length fun s => nth ((mvs pl ms).getD i []) s) = sm (segs fl).length fun s => at2 pl i s + (ms.map fun m => dlt m i s).sum := sm_congr fun s _ => at' i s
    show (sm (segs fl).length fun s => nth ((mvs pl ms).getD i []) s) = _
    rw [this, sm_add, ← sum_sm_comm, sum_map_eq (g := fun _ => (0 : Int)) fun m hm => dlt_row (inr m hm).2.1 (inr m hm).2.2 i, sum_zero]
    show sm _ (at2 pl i) + 0 = _; omega
theorem tot_moved (ip : IsPlan fl pl) {a b : Int} {ms : List (Int × Int × Int)} (c : ChainOk fl pl a ms b) {s : Nat} (hs : s < (segs fl).length) :
    nth (tot (mvs pl ms) (segs fl).length) s = nth (tot pl (segs fl).length) s + (if b = (s : Int) then 1 else 0) - (if a = (s : Int) then 1 else 0) := by
  have ed := c.ch.edge
  have inr : ∀ m ∈ ms, MvIn fl.length (segs fl).length m := fun m hm => (ed m hm).mvIn
  have r := rect_mvs ip.rect inr
  rw [nth_tot hs, nth_tot hs, r.1, ip.len, sm_congr fun i _ => at2_mvs i s ip.rect inr, sm_add, ← sum_sm_comm, sum_map_eq fun m hm => dlt_col (inr m hm).1 s, chn_tele (s : Int) c.ch]
  omega
end
/-! loads of the ends -/
def mostOf (T l : Int) : Int := (T + l - 1) / l
theorem most_gt {T l k : Int} (hl : 0 < l) : k < mostOf T l ↔ k * l < T := by
  unfold mostOf
  rw [show k < (T + l - 1) / l ↔ k + 1 ≤ (T + l - 1) / l from Iff.rfl, Int.le_ediv_iff_mul_le hl, Int.add_mul]
  omega
theorem few_ge {T l k : Int} (hl : 0 < l) : k ≤ T / l ↔ k * l ≤ T := Int.le_ediv_iff_mul_le hl
theorem most_pred {T l : Int} (hl : 0 < l) : mostOf T l = (T - 1) / l + 1 := by
  unfold mostOf
  rw [show T + l - 1 = T - 1 + l * 1 by omega, Int.add_mul_ediv_left _ _ (by omega)]
section
variable {fl : List Ship} {pl : List (List Int)}
/-- the ends of a chain that evens -/
structure Evens (fl : List Ship) (pl : List (List Int)) (a b : Int) : Prop where
  a0 : 0 ≤ a ∧ a < (segs fl).length
  b0 : 0 ≤ b ∧ b < (segs fl).length
  gap : nth (tot pl (segs fl).length) b.toNat / nth (lens fl) b.toNat + 2 ≤ mostOf (nth (tot pl (segs fl).length) a.toNat) (nth (lens fl) a.toNat)
theorem Evens.ne (ip : IsPlan fl pl) {a b : Int} (h : Evens fl pl a b) : a ≠ b := by
  intro e
  subst e
  have hl := lens_pos (fl := fl) (s := a.toNat) (by have := h.a0; omega)
  have g := h.gap
  have m := (most_gt (T := nth (tot pl (segs fl).length) a.toNat) (k := nth (tot pl (segs fl).length) a.toNat / nth (lens fl) a.toNat + 1) hl).mp (by omega)
  obtain ⟨_, d2⟩ := div_spec (a := nth (tot pl (segs fl).length) a.toNat) hl
  rw [Int.add_mul, Int.mul_comm] at m
  omega
theorem sm_two {n : Nat} {f g : Nat → Int} {x y : Nat} (hx : x < n) (hy : y < n) (xy : x ≠ y) (h : ∀ i, i < n → i ≠ x → i ≠ y → f i = g i) : sm n f = sm n g - g x + f x - g y + f y := by
  have e1 := sm_upd (n := n) (f := f) (g := fun i => if i = x then f x else g i) (k := y) hy fun i hi ne => by
    by_cases c : i = x
    · subst c; rw [if_pos rfl]
    · rw [if_neg c]; exact h i hi c ne
  have e2 := sm_upd (n := n) (f := fun i => if i = x then f x else g i) (g := g) (k := x) hx fun i hi ne => if_neg ne
  simp only [if_true, if_neg (Ne.symm xy)] at e1 e2
  omega
theorem moved_abv (ip : IsPlan fl pl) {a b : Int} {ms : List (Int × Int × Int)} (c : ChainOk fl pl a ms b) (ev : Evens fl pl a b) (k : Int) :
    abv (lens fl) (tot (mvs pl ms) (segs fl).length) k = abv (lens fl) (tot pl (segs fl).length) k - (if k < mostOf (nth (tot pl (segs fl).length) a.toNat) (nth (lens fl) a.toNat) then 1 else 0) + (if k ≤ nth (tot pl (segs fl).length) b.toNat / nth (lens fl) b.toNat then 1 else 0) := by
  have ne := ev.ne ip
  obtain ⟨a', rfl⟩ : ∃ x : Nat, a = x := ⟨a.toNat, by have := ev.a0; omega⟩
  obtain ⟨b', rfl⟩ : ∃ x : Nat, b = x := ⟨b.toNat, by have := ev.b0; omega⟩
  have ha : a' < (segs fl).length := by have := ev.a0; omega
  have hb : b' < (segs fl).length := by have := ev.b0; omega
  have nn : a' ≠ b' := fun e => ne (by rw [e])
  have la := lens_pos ha
  have lb := lens_pos hb
  unfold EQ.abv
  rw [lens_length, sm_two (g := fun s => max 0 (nth (tot pl (segs fl).length) s - k * nth (lens fl) s)) ha hb nn fun s hs n1 n2 => by
    rw [tot_moved ip c hs, if_neg (by omega), if_neg (by omega)]; congr 1; omega]
  rw [tot_moved ip c ha, tot_moved ip c hb, Int.toNat_natCast, Int.toNat_natCast]
  have m := most_gt (T := nth (tot pl (segs fl).length) a') (k := k) la
  have f := few_ge (T := nth (tot pl (segs fl).length) b') (k := k) lb
  have z1 : ¬ (b' : Int) = (a' : Int) := by omega
  have z2 : ¬ (a' : Int) = (b' : Int) := by omega
  simp only [z1, z2, if_true, if_false, m, f]
  split <;> split <;> omega
theorem moved_le (ip : IsPlan fl pl) {a b : Int} {ms : List (Int × Int × Int)} (c : ChainOk fl pl a ms b) (ev : Evens fl pl a b) (k : Int) :
    abv (lens fl) (tot (mvs pl ms) (segs fl).length) k ≤ abv (lens fl) (tot pl (segs fl).length) k := by
  rw [moved_abv ip c ev k]
  have := ev.gap
  split <;> split <;> omega
/-! squares of the loads -/
def sqt (l T : Int) : Int := T % l * ((T / l + 1) * (T / l + 1)) + (l - T % l) * (T / l * (T / l))
def sqs (ls ts : List Int) : Int := sm ls.length fun s => sqt (nth ls s) (nth ts s)
theorem sqt_succ {l T : Int} (hl : 0 < l) : sqt l (T + 1) = sqt l T + 2 * (T / l) + 1 := by
  obtain ⟨e, r0, r1⟩ := qr (t := T) hl
  unfold sqt
  generalize hq : T / l = q at *
  generalize hr : T % l = r at *
  have sq1 : (q + 1) * (q + 1) = q * q + 2 * q + 1 := by rw [Int.add_mul, Int.mul_add]; omega
  by_cases c : r + 1 < l
  · have q1 : (T + 1) / l = q := div_uniq hl (by omega) (by omega)
    have m1 : (T + 1) % l = r + 1 := by
      have := Int.emod_add_mul_ediv (T + 1) l
      rw [q1] at this; omega
    rw [q1, m1]
    generalize (q + 1) * (q + 1) = A at *
    generalize q * q = B at *
    rw [Int.add_mul r 1 A, Int.sub_mul l (r + 1) B, Int.sub_mul l r B, Int.add_mul r 1 B, Int.one_mul, Int.one_mul]
    omega
  · have q1 : (T + 1) / l = q + 1 := div_uniq hl (by rw [Int.mul_add]; omega) (by rw [Int.mul_add]; omega)
    have m1 : (T + 1) % l = 0 := by
      have := Int.emod_add_mul_ediv (T + 1) l
      rw [q1, Int.mul_add] at this; omega
    have er : r = l - 1 := by omega
    rw [q1, m1, er]
    have e2 : l - (l - 1) = 1 := by omega
    rw [e2, Int.zero_mul, Int.sub_zero, Int.one_mul]
    generalize (q + 1) * (q + 1) = A at *
    generalize q * q = B at *
    rw [Int.sub_mul l 1 A, Int.one_mul]
    omega
theorem moved_sqs (ip : IsPlan fl pl) {a b : Int} {ms : List (Int × Int × Int)} (c : ChainOk fl pl a ms b) (ev : Evens fl pl a b) :
    sqs (lens fl) (tot (mvs pl ms) (segs fl).length) ≤ sqs (lens fl) (tot pl (segs fl).length) - 2 := by
  have ne := ev.ne ip
  obtain ⟨a', rfl⟩ : ∃ x : Nat, a = x := ⟨a.toNat, by have := ev.a0; omega⟩
  obtain ⟨b', rfl⟩ : ∃ x : Nat, b = x := ⟨b.toNat, by have := ev.b0; omega⟩
  have ha : a' < (segs fl).length := by have := ev.a0; omega
  have hb : b' < (segs fl).length := by have := ev.b0; omega
  have nn : a' ≠ b' := fun e => ne (by rw [e])
  have la := lens_pos ha
  have lb := lens_pos hb
  have g := ev.gap
  rw [Int.toNat_natCast, Int.toNat_natCast, most_pred la] at g
  unfold sqs
  rw [lens_length, sm_two (g := fun s => sqt (nth (lens fl) s) (nth (tot pl (segs fl).length) s)) ha hb nn fun s hs n1 n2 => by
    rw [tot_moved ip c hs, if_neg (by omega), if_neg (by omega)]; congr 1; omega]
  rw [tot_moved ip c ha, tot_moved ip c hb]
  have z1 : ¬ (b' : Int) = (a' : Int) := by omega
  have z2 : ¬ (a' : Int) = (b' : Int) := by omega
  simp only [z1, z2, if_true, if_false]
  have s1 := sqt_succ (T := nth (tot pl (segs fl).length) b') lb
  have s2 := sqt_succ (T := nth (tot pl (segs fl).length) a' - 1) la
  rw [show nth (tot pl (segs fl).length) a' - 1 + 1 = nth (tot pl (segs fl).length) a' by omega] at s2
  rw [show nth (tot pl (segs fl).length) b' + 1 - 0 = nth (tot pl (segs fl).length) b' + 1 by omega, show nth (tot pl (segs fl).length) a' + 0 - 1 = nth (tot pl (segs fl).length) a' - 1 by omega]
  omega
/-! no chain evens just where it is even -/
theorem even_of_none (ok : ∀ s ∈ fl, s.Ok) (ip : IsPlan fl pl) (no : ∀ a ms b, Chn fl pl a ms b → 0 ≤ a ∧ a < (segs fl).length → ¬ Evens fl pl a b) (k : Int) : ∃ M : Nat → Bool, Cut fl pl k M := by
  classical
  refine ⟨fun s => decide (∃ a : Nat, ∃ ms, a < (segs fl).length ∧ k * nth (lens fl) a < nth (tot pl (segs fl).length) a ∧ Chn fl pl (a : Int) ms (s : Int)), fun s hs h => decide_eq_true ⟨s, [], hs, h, rfl⟩, fun s hs h => ?_, fun i s g hi hs hg h1 h2 h3 => ?_⟩
  · obtain ⟨a, ms, ha, hk, ch⟩ := of_decide_eq_true h
    have ls := lens_pos hs
    have la := lens_pos ha
    have n := no a ms s ch ⟨by omega, by omega⟩
    by_cases c : k * nth (lens fl) s ≤ nth (tot pl (segs fl).length) s
    · exact c
    · exfalso
      refine n ⟨⟨by omega, by omega⟩, ⟨by omega, by omega⟩, ?_⟩
      rw [Int.toNat_natCast, Int.toNat_natCast]
      have m := (most_gt (T := nth (tot pl (segs fl).length) a) (k := k) la).mpr hk
      have f := (few_ge (T := nth (tot pl (segs fl).length) s) (k := k) ls)
      have : ¬ k ≤ nth (tot pl (segs fl).length) s / nth (lens fl) s := fun z => c (f.mp z)
      omega
  · obtain ⟨a, ms, ha, hk, ch⟩ := of_decide_eq_true h1
    have cap := ip.cap i g hi hg
    by_cases c : at2 pl i g < cp fl i g
    · exfalso
      refine (of_decide_eq_false h2) ⟨a, ms ++ [((i : Int), (s : Int), (g : Int))], ha, hk, ch.app ⟨rfl, (show Edge fl pl (i : Int) (s : Int) (g : Int) from ⟨⟨by omega, by omega⟩, ⟨by omega, by omega⟩, ⟨by omega, by omega⟩, by rw [Int.toNat_natCast, Int.toNat_natCast]; exact h3, by rw [Int.toNat_natCast, Int.toNat_natCast]; exact c⟩), rfl⟩⟩
    · omega
theorem Chn.inM {M : Nat → Bool} {k : Int} (cu : Cut fl pl k M) : ∀ {ms : List (Int × Int × Int)} {a b : Int}, Chn fl pl a ms b → M a.toNat = true → M b.toNat = true
  | [], a, b, h, m => by
    have h : a = b := h
    rw [← h]; exact m
  | x :: r, a, b, ⟨e, ed, t⟩, m => by
    refine Chn.inM cu t ?_
    cases z : M x.2.2.toNat with
    | true => rfl
    | false =>
      have i0 := ed.i0
      have s0 := ed.s0
      have g0 := ed.g0
      have := cu.st x.1.toNat a.toNat x.2.2.toNat (by omega) (by omega) (by omega) m z ed.off
      have := ed.on
      omega
theorem none_of_even (ip : IsPlan fl pl) (even : ∀ k : Int, 0 ≤ k → ∃ M, Cut fl pl k M) {a b : Int} {ms : List (Int × Int × Int)} (c : Chn fl pl a ms b) : ¬ Evens fl pl a b := by
  intro ev
  have a0 := ev.a0
  have b0 := ev.b0
  have g := ev.gap
  have la := lens_pos (fl := fl) (s := a.toNat) (by omega)
  have lb := lens_pos (fl := fl) (s := b.toNat) (by omega)
  have tb : 0 ≤ nth (tot pl (segs fl).length) b.toNat := by
    rw [nth_tot (by omega), ip.len]
    exact sm_nn fun i hi => ip.nn i _ hi (by omega)
  have q0 : 0 ≤ nth (tot pl (segs fl).length) b.toNat / nth (lens fl) b.toNat := Int.ediv_nonneg tb (by omega)
  obtain ⟨M, cu⟩ := even (nth (tot pl (segs fl).length) b.toNat / nth (lens fl) b.toNat + 1) (by omega)
  have ma := cu.up a.toNat (by omega) ((most_gt la).mp (by omega))
  have mb := c.inM cu ma
  have := (few_ge lb).mpr (cu.dn b.toNat (by omega) mb)
  omega
end
theorem idx_app {l : List Int} {x i : Int} (h : i ∈ l) : (l ++ [x]).idxOf i = l.idxOf i := by rw [List.idxOf_append, if_pos h]
theorem idx_new {l : List Int} {x : Int} (h : x ∉ l) : (l ++ [x]).idxOf x = l.length := by rw [List.idxOf_append, if_neg h]; simp
/-! what is come to from a stretch -/
structure MEdge (caps pl : List (List Int)) (i s g : Int) : Prop where
  i0 : 0 ≤ i ∧ i < pl.length
  off : 0 < at2 pl i.toNat s.toNat
  on : at2 pl i.toNat g.toNat < at2 caps i.toNat g.toNat
structure Base (caps pl : List (List Int)) (N : Nat) (off : Int) (found : List (Int × Option (Int × Int × Int))) (line : List Int) : Prop where
  ks : found.map (·.1) = line
  nd : line.Nodup
  rg : ∀ k ∈ line, 0 ≤ k ∧ k < N
  st : aget found off = some none
  fr : ∀ k m, aget found k = some (some m) → m.2.2 = k ∧ MEdge caps pl m.1 m.2.1 k ∧ m.2.1 ∈ line ∧ line.idxOf m.2.1 < line.idxOf k
  sm : ∀ k ∈ line, k ≠ off → ∃ m, aget found k = some (some m)
structure ComeOk (caps pl : List (List Int)) (N : Nat) (off : Int) (found : List (Int × Option (Int × Int × Int))) : Prop where
  base : Base caps pl N off found (found.map (·.1))
  cl : ∀ s ∈ found.map (·.1), ∀ i g : Int, 0 ≤ g ∧ g < N → MEdge caps pl i s g → g ∈ found.map (·.1)
theorem Base.off {caps pl : List (List Int)} {N : Nat} {off : Int} {found : List (Int × Option (Int × Int × Int))} {line : List Int} (h : Base caps pl N off found line) : off ∈ line := by
  rw [← h.ks]; exact ahas_mem.mp (ahas_iff.mpr ⟨_, h.st⟩)
theorem Base.le {caps pl : List (List Int)} {N : Nat} {off : Int} {found : List (Int × Option (Int × Int × Int))} {line : List Int} (h : Base caps pl N off found line) : line.length ≤ N := nodup_len N h.nd h.rg
theorem Base.add {caps pl : List (List Int)} {N : Nat} {off : Int} {found : List (Int × Option (Int × Int × Int))} {line : List Int} (h : Base caps pl N off found line) {i s g : Int} (hs : s ∈ line) (hg : g ∉ line) (g0 : 0 ≤ g ∧ g < N) (e : MEdge caps pl i s g) :
    Base caps pl N off (aput found g (some (i, s, g))) (line ++ [g]) := by
  have na : ahas found g = false := by
    cases z : ahas found g with
    | false => rfl
    | true => exact absurd (by rw [← h.ks]; exact ahas_mem.mp z) hg
  have ne : g ≠ off := fun c => hg (by rw [c]; exact h.off)
  have ag : ∀ k, aget (aput found g (some (i, s, g))) k = if k = g then some (some (i, s, g)) else aget found k := fun k => aget_aput
  refine ⟨by rw [aput_new na, List.map_append, h.ks]; rfl, ?_, fun k hk => ?_, by rw [ag, if_neg ne.symm]; exact h.st, fun k m hm => ?_, fun k hk n => ?_⟩
  · rw [List.nodup_append]
    exact ⟨h.nd, by simp, fun x hx y hy c => hg (by
      have : y = g := by simpa using hy
      rw [← this, ← c]; exact hx)⟩
  · rcases List.mem_append.mp hk with q | q
    · exact h.rg k q
    · have : k = g := by simpa using q
      rw [this]; exact g0
  · rw [ag] at hm
    by_cases c : k = g
    · subst c
      rw [if_pos rfl] at hm
      cases hm
      exact ⟨rfl, e, List.mem_append.mpr (.inl hs), by rw [idx_app hs, idx_new hg]; exact List.idxOf_lt_length_iff.mpr hs⟩
    · rw [if_neg c] at hm
      obtain ⟨a1, a2, a3, a4⟩ := h.fr k m hm
      have kl : k ∈ line := by rw [← h.ks]; exact ahas_mem.mp (ahas_iff.mpr ⟨_, hm⟩)
      exact ⟨a1, a2, List.mem_append.mpr (.inl a3), by rw [idx_app a3, idx_app kl]; exact a4⟩
  · rw [ag]
    by_cases c : k = g
    · exact ⟨_, by rw [if_pos c]⟩
    · rw [if_neg c]
      refine h.sm k ?_ n
      rcases List.mem_append.mp hk with q | q
      · exact q
      · exact absurd (by simpa using q) c
/-- a way back through what was found -/
def Wy (found : List (Int × Option (Int × Int × Int))) : Int → List (Int × Int × Int) → Int → Prop
  | a, [], b => a = b
  | a, m :: r, b => m.2.1 = a ∧ aget found m.2.2 = some (some m) ∧ Wy found m.2.2 r b
theorem ComeOk.chn {fl : List Ship} {pl : List (List Int)} {off : Int} {found : List (Int × Option (Int × Int × Int))} (hl : pl.length = fl.length) (h : ComeOk (caps fl) pl (segs fl).length off found) : ∀ {ms : List (Int × Int × Int)} {a b : Int}, a ∈ found.map (·.1) → Wy found a ms b →
    Chn fl pl a ms b ∧ (∀ x ∈ ms.map (·.2.2), x ∈ found.map (·.1) ∧ (found.map (·.1)).idxOf a < (found.map (·.1)).idxOf x) ∧ (ms.map (·.2.2)).Nodup
  | [], a, b, _, w => ⟨w, by simp, by simp⟩
  | m :: r, a, b, ha, ⟨e, g, w⟩ => by
    obtain ⟨f1, f2, f3, f4⟩ := h.base.fr _ _ g
    have gk : m.2.2 ∈ found.map (·.1) := ahas_mem.mp (ahas_iff.mpr ⟨_, g⟩)
    obtain ⟨c1, c2, c3⟩ := ComeOk.chn hl h gk w
    have r0 := h.base.rg _ ha
    have r1 := h.base.rg _ gk
    have i0 := f2.i0
    have on := f2.on
    rw [nth_caps (by omega) (by omega)] at on
    refine ⟨⟨e, ⟨⟨i0.1, by omega⟩, r0, r1, by rw [← e]; exact f2.off, on⟩, c1⟩, fun x hx => ?_, ?_⟩
    · rw [List.map_cons, List.mem_cons] at hx
      rcases hx with rfl | hx
      · exact ⟨gk, by rw [← e]; exact f4⟩
      · have := c2 x hx
        exact ⟨this.1, by have := this.2; rw [e] at f4; omega⟩
    · rw [List.map_cons, List.nodup_cons]
      exact ⟨fun hx => by have := (c2 _ hx).2; omega, c3⟩
theorem ComeOk.reach {fl : List Ship} {pl : List (List Int)} {off : Int} {found : List (Int × Option (Int × Int × Int))} (hl : pl.length = fl.length) (h : ComeOk (caps fl) pl (segs fl).length off found) : ∀ {ms : List (Int × Int × Int)} {a b : Int}, a ∈ found.map (·.1) → Chn fl pl a ms b → b ∈ found.map (·.1)
  | [], a, b, ha, w => by
    have w : a = b := w
    rw [← w]; exact ha
  | m :: r, a, b, ha, ⟨e, ed, w⟩ => by
    have i0 := ed.i0
    have g0 := ed.g0
    refine ComeOk.reach hl h (h.cl a ha m.1 m.2.2 g0 ⟨⟨i0.1, by omega⟩, ed.off, ?_⟩) w
    rw [nth_caps (by omega) (by omega)]; exact ed.on
theorem chn_split {fl : List Ship} {pl : List (List Int)} : ∀ {xs ys : List (Int × Int × Int)} {a b : Int}, Chn fl pl a (xs ++ ys) b → ∃ c, Chn fl pl a xs c ∧ Chn fl pl c ys b ∧ ixl (a :: xs.map (·.2.2)) = c
  | [], ys, a, b, h => ⟨a, rfl, h, rfl⟩
  | [x], ys, a, b, ⟨e, ed, h⟩ => ⟨x.2.2, ⟨e, ed, rfl⟩, h, rfl⟩
  | x :: y :: r, ys, a, b, ⟨e, ed, h⟩ => by
    obtain ⟨c, h1, h2, h3⟩ := chn_split (xs := y :: r) h
    exact ⟨c, ⟨e, ed, h1⟩, h2, by rw [← h3]; rfl⟩
/-! texts -/
open TL (tl numL)
theorem tl_inj {a b : Str} (h : tl a = tl b) : a = b := TL.ext_tl h
theorem tl_len (a : Str) : a.length = (tl a).length := TL.len_tl a
theorem tl_app (a b : Str) : tl (a ++ b) = tl a ++ tl b := TL.tl_append a b
/-- the signs of a number -/
def nt (i : Int) : List Nat := if i < 0 then 45 :: numL (-i).toNat else numL i.toNat
theorem tl_nt (i : Int) : tl (Str.ofString (toString i)) = nt i := by
  by_cases c : i < 0
  · obtain ⟨m, rfl⟩ : ∃ m : Nat, i = Int.negSucc m := ⟨(-i - 1).toNat, by omega⟩
    unfold nt
    rw [if_pos c, TL.tl_ofString]
    have e : toString (Int.negSucc m) = "-" ++ Nat.repr (m + 1) := rfl
    rw [e, String.toList_append, Nat.toList_repr, List.map_append]
    have e2 : (-Int.negSucc m).toNat = m + 1 := by omega
    rw [e2]; rfl
  · obtain ⟨m, rfl⟩ : ∃ m : Nat, i = m := ⟨i.toNat, by omega⟩
    unfold nt
    rw [if_neg c, TL.tl_num]; rfl
theorem head_numL (n : Nat) : 0 < n → ∃ c r, numL n = c :: r ∧ c ≠ 48 := by
  induction n using Nat.strongRecOn with
  | _ n ih =>
    intro h
    by_cases c : n < 10
    · exact ⟨48 + n, [], TL.numL_lt c, by omega⟩
    · obtain ⟨d, r, e, hd⟩ := ih (n / 10) (by omega) (by omega)
      exact ⟨d, r ++ [48 + n % 10], by rw [TL.numL_step (by omega), e]; rfl, hd⟩
/-- the digits of a word, its value -/
def fig (l : List Nat) : List Nat := if l.head? = some 45 then l.tail else l
open Classical in
noncomputable def nword (l : List Nat) : Option Int :=
  if fig l = [] ∨ 31 < (fig l).length ∨ ((fig l).head? = some 48 ∧ l ≠ [48]) then none
  else if ∀ c ∈ fig l, 48 ≤ c ∧ c ≤ 57 then some (if l.head? = some 45 then -((NumText.digitsVal (fig l) : Nat) : Int) else ((NumText.digitsVal (fig l) : Nat) : Int)) else none
theorem fig_nt (i : Int) : fig (nt i) = numL i.natAbs ∧ ((nt i).head? = some 45 ↔ i < 0) := by
  have ne : ∀ n : Nat, ¬ (numL n).head? = some 45 := fun n h => by
    have := TL.numL_digits n 45 (List.mem_of_mem_head? h)
    omega
  by_cases c : i < 0
  · have e : nt i = 45 :: numL i.natAbs := by unfold nt; rw [if_pos c, show (-i).toNat = i.natAbs by omega]
    rw [e]
    exact ⟨if_pos rfl, fun _ => c, fun _ => rfl⟩
  · have e : nt i = numL i.natAbs := by unfold nt; rw [if_neg c, show i.toNat = i.natAbs by omega]
    rw [e]
    exact ⟨by unfold fig; rw [if_neg (ne _)], fun h => absurd h (ne _), fun h => absurd h c⟩
theorem nword_nt {i : Int} (h : (numL i.natAbs).length ≤ 31) : nword (nt i) = some i := by
  obtain ⟨e, hn⟩ := fig_nt i
  unfold nword
  rw [e, if_neg, if_pos (fun c hc => TL.numL_digits _ c hc), TL.numL_val]
  · by_cases c : i < 0
    · rw [if_pos (hn.mpr c)]; congr 1; omega
    · rw [if_neg fun z => c (hn.mp z)]; congr 1; omega
  · rintro (z | z | ⟨z1, z2⟩)
    · exact TL.numL_ne _ z
    · omega
    · by_cases p : i.natAbs = 0
      · have : i = 0 := by omega
        subst this
        exact z2 (by decide +kernel)
      · obtain ⟨d, r, e2, hd⟩ := head_numL i.natAbs (by omega)
        rw [e2] at z1
        exact hd (by simpa using z1)
theorem numL_short {n : Nat} (h : n < 10 ^ 31) : (numL n).length ≤ 31 := TL.numL_len (by decide) h
theorem tl_cut1 (z : Str) : tl (L2.cutS z none (some 1)) = (tl z).take 1 := by
  have : HT.sIx z.length 0 none = 0 := rfl
  show ((tl z).drop (HT.sIx z.length 0 none)).take (HT.sIx z.length z.length (some ((1 : Nat) : Int)) - HT.sIx z.length 0 none) = _
  rw [this, HT.sIx_nat, List.drop_zero, Nat.sub_zero, tl_len]
  by_cases c : 1 ≤ (tl z).length
  · rw [Nat.min_eq_left c]
  · have : tl z = [] := List.eq_nil_of_length_eq_zero (by omega)
    rw [this]; rfl
theorem tl_cut2 (z : Str) : tl (L2.cutS z (some 1) none) = (tl z).tail := by
  show ((tl z).drop (HT.sIx z.length 0 (some ((1 : Nat) : Int)))).take (HT.sIx z.length z.length none - HT.sIx z.length 0 (some ((1 : Nat) : Int))) = _
  rw [HT.sIx_nat, HT.sIx_none, tl_len]
  cases h : tl z with
  | nil => rfl
  | cons x r =>
    have : min 1 (x :: r).length = 1 := by simp
    rw [this]
    show List.take (r.length + 1 - 1) r = r
    rw [Nat.add_sub_cancel, List.take_length]
theorem tl_chrs (z : Str) : (chrs z).map tl = (tl z).map fun c => [c] := by
  unfold chrs
  rw [List.map_map]; rfl
theorem chrs_mem {z : Str} {done rest : List Str} {s : Str} (h : chrs z = done ++ s :: rest) : ∃ c ∈ TL.tl z, s = ⟨#[c]⟩ := by
  have : s ∈ chrs z := by rw [h]; simp
  obtain ⟨c, hc, e⟩ := List.mem_map.mp this
  exact ⟨c, hc, e.symm⟩
theorem chrs_all {z : Str} {f : Nat → Bool} (h : ∀ s ∈ chrs z, ∃ c, s = ⟨#[c]⟩ ∧ f c = true) : ∀ c ∈ TL.tl z, f c = true := fun c hc => by
  obtain ⟨d, e, hd⟩ := h ⟨#[c]⟩ (List.mem_map.mpr ⟨c, hc, rfl⟩)
  have : c = d := by
    have := congrArg (fun s : Str => s.cps.toList) e
    simpa using this
  rw [this]; exact hd
noncomputable def b_law_cell_at_1t_1 : DS := sRet (oX (eIdx (eVar 0) (eVar 1)))
noncomputable def b_law_cell_at_1 : DS := sWk (wipeE [0, 1]) (sIf (asB (eBin dLt (eVar 1) (eFn dLen (esCons (eVar 0) (esNil))))) b_law_cell_at_1t_1 sNil)
noncomputable def b_law_cell_at_2 : DS := sRet (oX (eC (.int 0)))
noncomputable def b_law_cell_at : DS := sSeq b_law_cell_at_1 (b_law_cell_at_2)
noncomputable def f_law_cell_at : List D → R D := fun ds => (fnSem 2 2 b_law_cell_at ds).nox
def W_law_cell_at (script : (List Int)) (k : Int) (Q : Int → Prop) : Prop :=
(((decide (k < ((script).length : Int))) = true →
(0 ≤ k ∧ k < ((script).length : Int)) ∧
Q (ix script k)) ∧
((decide (k < ((script).length : Int))) = false →
Q (0 : Int)))
set_option maxHeartbeats 4000000 in
theorem s_law_cell_at (script : (List Int)) (k : Int) (Q : Int → Prop) (h : W_law_cell_at script k Q) : ∃ r, f_law_cell_at [D.scr script, D.int k] = .ok (D.int r) ∧ Q r := by
  unfold W_law_cell_at at h
  obtain ⟨_, e, r, rfl, hq⟩ := fs_of (n := 2) (m := 2) (body := b_law_cell_at) (ds := [D.scr script, D.int k]) (ρ := [some (D.scr script, true), some (D.int k, true)]) (Q := fun d => ∃ r, d = D.int r ∧ Q r) (by rfl) (by simp only [List.map_cons, List.map_nil, Ship.d_imm, eP_imm, imm_bl, imm_int, imm_lst, imm_scr, imm_str]; rfl) (by
    show WS _ [some (D.scr script, true), some (D.int k, true)] _ _
    refine ws_seq (ws_wk (ws_if (b := (decide (k < ((script).length : Int)))) (tv_x (ev_lt (ev_var (i := 1) (d := D.int k) rfl (imm_int _)) (ev_fn (es_cons (ev_var (i := 0) (d := D.scr script) rfl (imm_scr _)) es_nil) (fn_lenS)))) (fun hb1 => ?_) (fun hb1 => ?_)))
    · replace h := h.1 hb1
      show WS _ [some (D.scr script, true), some (D.int k, true)] _ _
      have hc2 := And.left h
      replace h := And.right h
      exact ws_ret (ov_x (ev_ixS hc2 (ev_var (i := 0) (d := D.scr script) rfl (imm_scr _)) (ev_var (i := 1) (d := D.int k) rfl (imm_int _)))) ⟨(ix script k), rfl, h⟩
    · replace h := h.2 hb1
      refine ws_nil ?_
      show WS _ [none, none] _ _
      exact ws_ret (ov_x ev_c) ⟨(0 : Int), rfl, h⟩)
  exact ⟨r, e, hq⟩
def v_law_cell_at (ns : List Int) (k : Int) : Int := cell ns k
def P_law_cell_at (ns : List Int) (k : Int) : Prop := 0 ≤ k
theorem c_law_cell_at (ns : List Int) (k : Int) (h : P_law_cell_at ns k) : f_law_cell_at [.scr ns, .int k] = .ok (.int (v_law_cell_at ns k)) := by
  obtain ⟨r, e, hr⟩ := s_law_cell_at ns k (fun r => r = cell ns k) (by
    have h : 0 ≤ k := h
    refine ⟨fun c => ?_, fun c => ?_⟩
    · have c := of_decide_eq_true c
      exact ⟨⟨h, c⟩, by rw [cell, if_pos c]; rfl⟩
    · have c := of_decide_eq_false c
      show 0 = cell ns k
      rw [cell, if_neg c])
  rw [e, hr]; rfl
@[simp] theorem P_cell_ok {ns : List Int} {k : Int} : P_law_cell_at ns k ↔ 0 ≤ k := Iff.rfl
noncomputable def b_law_ship_1 : DS := sWk (wipeE [4, 5, 6, 7, 8]) (sSet 3 (eBin dSub (eBin dMod (eVar 0) (eC (.int 6))) (eC (.int 2))))
noncomputable def b_law_ship_2 : DS := sWk (wipeE [5, 6, 7, 8]) (sSet 4 (eBin dAdd (eBin dAdd (eVar 3) (eC (.int 1))) (eBin dMod (eBin dDiv (eVar 0) (eC (.int 6))) (eC (.int 5)))))
noncomputable def b_law_ship_3t_1 : DS := sWk (wipeE [4, 5, 6, 7, 8]) (sSet 3 (eBin dSub (eBin dMod (eVar 0) (eC (.int 50))) (eC (.int 25))))
noncomputable def b_law_ship_3t_2 : DS := sWk (wipeE [5, 6, 7, 8]) (sSet 4 (eBin dAdd (eBin dAdd (eVar 3) (eC (.int 1))) (eBin dMod (eBin dDiv (eVar 0) (eC (.int 50))) (eC (.int 40)))))
noncomputable def b_law_ship_3t : DS := sSeq b_law_ship_3t_1 (b_law_ship_3t_2)
noncomputable def b_law_ship_3 : DS := sWk (wipeE [5, 6, 7, 8]) (sIf (asB (eBin dEq (eVar 2) (eC (.int 1)))) b_law_ship_3t sNil)
noncomputable def b_law_ship_4t_1 : DS := sWk (wipeE [2, 4, 5, 6, 7, 8]) (sSet 3 (eBin dMul (eBin dSub (eBin dMod (eBin dMul (eVar 0) (eC (.int 1103515245))) (eC (.int 2147483647))) (eBin dPow (eC (.int 10)) (eC (.int 9)))) (eBin dPow (eC (.int 10)) (eC (.int 5)))))
noncomputable def b_law_ship_4t_2 : DS := sWk (wipeE [0, 2, 5, 6, 7, 8]) (sSet 4 (eBin dAdd (eBin dAdd (eVar 3) (eC (.int 1))) (eBin dMul (eBin dMod (eBin dMul (eVar 0) (eC (.int 1664525013))) (eC (.int 2147483629))) (eBin dPow (eC (.int 10)) (eC (.int 5))))))
noncomputable def b_law_ship_4t : DS := sSeq b_law_ship_4t_1 (b_law_ship_4t_2)
noncomputable def b_law_ship_4 : DS := sWk (wipeE [0, 2, 5, 6, 7, 8]) (sIf (asB (eBin dEq (eVar 2) (eC (.int 2)))) b_law_ship_4t sNil)
noncomputable def b_law_ship_5 : DS := sWk (wipeE [0, 2, 6, 7, 8]) (sSet 5 (eIdx (eLst (esCons (eC (.int 2)) (esCons (eC (.int 1)) (esCons (eC (.int 3)) (esCons (eC (.int 5)) (esCons (eBin dPow (eC (.int 10)) (eC (.int 15))) (esCons (eBin dAdd (eC (.int 1)) (eBin dMod (eBin dDiv (eVar 1) (eC (.int 8))) (eC (.int 50)))) (esCons (eC (.int 0)) (esCons (eC (.int 4)) (esNil)))))))))) (eBin dMod (eVar 1) (eC (.int 8)))))
noncomputable def b_law_ship_6 : DS := sWk (wipeE [0, 1, 2, 7, 8]) (sSet 6 (eBin dMod (eBin dMul (eVar 1) (eC (.int 1103515245))) (eC (.int 2147483647))))
noncomputable def b_law_ship_7 : DS := sWk (wipeE [0, 1, 2, 8]) (sSet 7 (eBin dMul (eVar 5) (eBin dSub (eVar 4) (eVar 3))))
noncomputable def b_law_ship_8 : DS := sWk (wipeE [0, 1, 2, 6, 7]) (sSet 8 (eIdx (eLst (esCons (eBin dDiv (eBin dMul (eVar 7) (eBin dMod (eVar 6) (eC (.int 17)))) (eC (.int 16))) (esCons (eBin dMod (eVar 6) (eBin dAdd (eVar 7) (eC (.int 1)))) (esCons (eFn dMin (esCons (eVar 7) (esCons (eBin dMod (eVar 6) (eC (.int 9))) (esNil)))) (esCons (eVar 7) (esNil)))))) (eBin dMod (eBin dDiv (eVar 6) (eC (.int 17))) (eC (.int 4)))))
noncomputable def b_law_ship_9 : DS := sRet (oTup (osCons (oVar 3) (osCons (oVar 4) (osCons (oVar 8) (osCons (oVar 5) (osNil))))))
noncomputable def b_law_ship : DS := sSeq b_law_ship_1 (sSeq b_law_ship_2 (sSeq b_law_ship_3 (sSeq b_law_ship_4 (sSeq b_law_ship_5 (sSeq b_law_ship_6 (sSeq b_law_ship_7 (sSeq b_law_ship_8 (b_law_ship_9))))))))
noncomputable def f_law_ship : List D → R D := fun ds => (fnSem 3 9 b_law_ship ds).nox
def W_law_ship (one : Int) (two : Int) (kind : Int) (Q : Ship → Prop) : Prop :=
∀ begin : Int, begin = ((one % (6 : Int)) - (2 : Int)) →
∀ end_ : Int, end_ = ((begin + (1 : Int)) + ((one / (6 : Int)) % (5 : Int))) →
∀ begin2 : Int, ∀ end_2 : Int, begin2 = (if (decide (kind = (1 : Int))) then ((one % (50 : Int)) - (25 : Int)) else begin) → end_2 = (if (decide (kind = (1 : Int))) then ((((one % (50 : Int)) - (25 : Int)) + (1 : Int)) + ((one / (50 : Int)) % (40 : Int))) else end_) → 
∀ begin3 : Int, ∀ end_3 : Int, begin3 = (if (decide (kind = (2 : Int))) then ((((one * (1103515245 : Int)) % (2147483647 : Int)) - (1000000000 : Int)) * (100000 : Int)) else begin2) → end_3 = (if (decide (kind = (2 : Int))) then ((((((one * (1103515245 : Int)) % (2147483647 : Int)) - (1000000000 : Int)) * (100000 : Int)) + (1 : Int)) + (((one * (1664525013 : Int)) % (2147483629 : Int)) * (100000 : Int))) else end_2) → 
(0 ≤ (two % (8 : Int)) ∧ (two % (8 : Int)) < ((([(2 : Int), (1 : Int), (3 : Int), (5 : Int), (1000000000000000 : Int), ((1 : Int) + ((two / (8 : Int)) % (50 : Int))), (0 : Int), (4 : Int)] : (List Int))).length : Int)) ∧
∀ most : Int, most = (ix ([(2 : Int), (1 : Int), (3 : Int), (5 : Int), (1000000000000000 : Int), ((1 : Int) + ((two / (8 : Int)) % (50 : Int))), (0 : Int), (4 : Int)] : (List Int)) (two % (8 : Int))) →
∀ mixed : Int, mixed = ((two * (1103515245 : Int)) % (2147483647 : Int)) →
(SM most (end_3 - begin3)) ∧
∀ full : Int, full = (most * (end_3 - begin3)) →
((SM full (mixed % (17 : Int))) ∧ (0 < (full + (1 : Int))) ∧ (0 ≤ ((mixed / (17 : Int)) % (4 : Int)) ∧ ((mixed / (17 : Int)) % (4 : Int)) < ((([((full * (mixed % (17 : Int))) / (16 : Int)), (mixed % (full + (1 : Int))), (min full (mixed % (9 : Int))), full] : (List Int))).length : Int))) ∧
∀ need : Int, need = (ix ([((full * (mixed % (17 : Int))) / (16 : Int)), (mixed % (full + (1 : Int))), (min full (mixed % (9 : Int))), full] : (List Int)) ((mixed / (17 : Int)) % (4 : Int))) →
Q (⟨begin3, end_3, need, most⟩ : Ship)
set_option maxHeartbeats 4000000 in
theorem s_law_ship (one : Int) (two : Int) (kind : Int) (Q : Ship → Prop) (h : W_law_ship one two kind Q) : ∃ r, f_law_ship [D.int one, D.int two, D.int kind] = .ok (Ship.d r) ∧ Q r := by
  unfold W_law_ship at h
  obtain ⟨_, e, r, rfl, hq⟩ := fs_of (n := 3) (m := 9) (body := b_law_ship) (ds := [D.int one, D.int two, D.int kind]) (ρ := [some (D.int one, true), some (D.int two, true), some (D.int kind, true), none, none, none, none, none, none]) (Q := fun d => ∃ r, d = Ship.d r ∧ Q r) (by rfl) (by simp only [List.map_cons, List.map_nil, Ship.d_imm, eP_imm, imm_bl, imm_int, imm_lst, imm_scr, imm_str]; rfl) (by
    show WS _ [some (D.int one, true), some (D.int two, true), some (D.int kind, true), none, none, none, none, none, none] _ _
    refine ws_seq (ws_wk (ws_set (ec := D.int) (v := ((one % (6 : Int)) - (2 : Int))) (ρ' := fun begin => [some (D.int one, true), some (D.int two, true), some (D.int kind, true), some (D.int begin, true), none, none, none, none, none]) (ev_sub (ev_mod (by decide) (ev_var (i := 0) (d := D.int one) rfl (imm_int _)) ev_c) ev_c) (by rfl) (fun _ => rfl) fun begin e1 => ?_))
    replace h := h begin e1
    show WS _ [some (D.int one, true), some (D.int two, true), some (D.int kind, true), some (D.int begin, true), none, none, none, none, none] _ _
    refine ws_seq (ws_wk (ws_set (ec := D.int) (v := ((begin + (1 : Int)) + ((one / (6 : Int)) % (5 : Int)))) (ρ' := fun end_ => [some (D.int one, true), some (D.int two, true), some (D.int kind, true), some (D.int begin, true), some (D.int end_, true), none, none, none, none]) (ev_add (ev_add (ev_var (i := 3) (d := D.int begin) rfl (imm_int _)) ev_c) (ev_mod (by decide) (ev_div (DV_of (by decide) (by decide)) (ev_var (i := 0) (d := D.int one) rfl (imm_int _)) ev_c) ev_c)) (by rfl) (fun _ => rfl) fun end_ e2 => ?_))
    replace h := h end_ e2
    show WS _ [some (D.int one, true), some (D.int two, true), some (D.int kind, true), some (D.int begin, true), some (D.int end_, true), none, none, none, none] _ _
    refine ws_seq (WS.imp (Kn := fun ρ' => ∃ begin2 : Int, ∃ end_2 : Int, ρ' = [some (D.int one, true), some (D.int two, true), some (D.int kind, true), some (D.int begin2, true), some (D.int end_2, true), none, none, none, none] ∧ begin2 = (if (decide (kind = (1 : Int))) then ((one % (50 : Int)) - (25 : Int)) else begin) ∧ end_2 = (if (decide (kind = (1 : Int))) then ((((one % (50 : Int)) - (25 : Int)) + (1 : Int)) + ((one / (50 : Int)) % (40 : Int))) else end_)) (ws_wk (ws_if (b := (decide (kind = (1 : Int)))) (tv_x (ev_eq (ec := D.int) (x := kind) (y := (1 : Int)) eqv_int (by decide) (ev_var (i := 2) (d := D.int kind) rfl (imm_int _)) ev_c)) (fun hb3 => ?_) (fun hb3 => ?_))) ?_)
    · refine ws_seq (ws_wk (ws_set (ec := D.int) (v := ((one % (50 : Int)) - (25 : Int))) (ρ' := fun x5 => [some (D.int one, true), some (D.int two, true), some (D.int kind, true), some (D.int x5, true), some (D.int end_, true), none, none, none, none]) (ev_sub (ev_mod (by decide) (ev_var (i := 0) (d := D.int one) rfl (imm_int _)) ev_c) ev_c) (by rfl) (fun _ => rfl) fun x5 he => ?_))
      have he := he.symm
      subst he
      refine ws_wk (ws_set (ec := D.int) (v := ((((one % (50 : Int)) - (25 : Int)) + (1 : Int)) + ((one / (50 : Int)) % (40 : Int)))) (ρ' := fun x6 => [some (D.int one, true), some (D.int two, true), some (D.int kind, true), some (D.int ((one % (50 : Int)) - (25 : Int)), true), some (D.int x6, true), none, none, none, none]) (ev_add (ev_add (ev_var (i := 3) (d := D.int ((one % (50 : Int)) - (25 : Int))) rfl (imm_int _)) ev_c) (ev_mod (by decide) (ev_div (DV_of (by decide) (by decide)) (ev_var (i := 0) (d := D.int one) rfl (imm_int _)) ev_c) ev_c)) (by rfl) (fun _ => rfl) fun x6 he => ?_)
      have he := he.symm
      subst he
      exact ⟨((one % (50 : Int)) - (25 : Int)), ((((one % (50 : Int)) - (25 : Int)) + (1 : Int)) + ((one / (50 : Int)) % (40 : Int))), rfl, pick_t hb3, pick_t hb3⟩
    · refine ws_nil ?_
      exact ⟨begin, end_, rfl, pick_f hb3, pick_f hb3⟩
    rintro _ ⟨begin2, end_2, rfl, e20, e21⟩
    replace h := h begin2 end_2 e20 e21
    show WS _ [some (D.int one, true), some (D.int two, true), some (D.int kind, true), some (D.int begin2, true), some (D.int end_2, true), none, none, none, none] _ _
    refine ws_seq (WS.imp (Kn := fun ρ' => ∃ begin3 : Int, ∃ end_3 : Int, ρ' = [none, some (D.int two, true), none, some (D.int begin3, true), some (D.int end_3, true), none, none, none, none] ∧ begin3 = (if (decide (kind = (2 : Int))) then ((((one * (1103515245 : Int)) % (2147483647 : Int)) - (1000000000 : Int)) * (100000 : Int)) else begin2) ∧ end_3 = (if (decide (kind = (2 : Int))) then ((((((one * (1103515245 : Int)) % (2147483647 : Int)) - (1000000000 : Int)) * (100000 : Int)) + (1 : Int)) + (((one * (1664525013 : Int)) % (2147483629 : Int)) * (100000 : Int))) else end_2)) (ws_wk (ws_if (b := (decide (kind = (2 : Int)))) (tv_x (ev_eq (ec := D.int) (x := kind) (y := (2 : Int)) eqv_int (by decide) (ev_var (i := 2) (d := D.int kind) rfl (imm_int _)) ev_c)) (fun hb7 => ?_) (fun hb7 => ?_))) ?_)
    · refine ws_seq (ws_wk (ws_set (ec := D.int) (v := ((((one * (1103515245 : Int)) % (2147483647 : Int)) - (1000000000 : Int)) * (100000 : Int))) (ρ' := fun x9 => [some (D.int one, true), some (D.int two, true), some (D.int kind, true), some (D.int x9, true), some (D.int end_2, true), none, none, none, none]) (ev_mul (.inr (.inl (by decide))) (ev_sub (ev_mod (by decide) (ev_mul (.inr (.inl (by decide))) (ev_var (i := 0) (d := D.int one) rfl (imm_int _)) ev_c) ev_c) (ev_pow (by decide) (by decide +kernel) ev_c ev_c)) (ev_pow (by decide) (by decide +kernel) ev_c ev_c)) (by rfl) (fun _ => rfl) fun x9 he => ?_))
      have he := he.symm
      subst he
      refine ws_wk (ws_set (ec := D.int) (v := ((((((one * (1103515245 : Int)) % (2147483647 : Int)) - (1000000000 : Int)) * (100000 : Int)) + (1 : Int)) + (((one * (1664525013 : Int)) % (2147483629 : Int)) * (100000 : Int)))) (ρ' := fun x10 => [some (D.int one, true), some (D.int two, true), none, some (D.int ((((one * (1103515245 : Int)) % (2147483647 : Int)) - (1000000000 : Int)) * (100000 : Int)), true), some (D.int x10, true), none, none, none, none]) (ev_add (ev_add (ev_var (i := 3) (d := D.int ((((one * (1103515245 : Int)) % (2147483647 : Int)) - (1000000000 : Int)) * (100000 : Int))) rfl (imm_int _)) ev_c) (ev_mul (.inr (.inl (by decide))) (ev_mod (by decide) (ev_mul (.inr (.inl (by decide))) (ev_var (i := 0) (d := D.int one) rfl (imm_int _)) ev_c) ev_c) (ev_pow (by decide) (by decide +kernel) ev_c ev_c))) (by rfl) (fun _ => rfl) fun x10 he => ?_)
      have he := he.symm
      subst he
      exact ⟨((((one * (1103515245 : Int)) % (2147483647 : Int)) - (1000000000 : Int)) * (100000 : Int)), ((((((one * (1103515245 : Int)) % (2147483647 : Int)) - (1000000000 : Int)) * (100000 : Int)) + (1 : Int)) + (((one * (1664525013 : Int)) % (2147483629 : Int)) * (100000 : Int))), rfl, pick_t hb7, pick_t hb7⟩
    · refine ws_nil ?_
      exact ⟨begin2, end_2, rfl, pick_f hb7, pick_f hb7⟩
    rintro _ ⟨begin3, end_3, rfl, e18, e19⟩
    replace h := h begin3 end_3 e18 e19
    show WS _ [none, some (D.int two, true), none, some (D.int begin3, true), some (D.int end_3, true), none, none, none, none] _ _
    have hc11 := And.left h
    replace h := And.right h
    refine ws_seq (ws_wk (ws_set (ec := D.int) (v := (ix ([(2 : Int), (1 : Int), (3 : Int), (5 : Int), (1000000000000000 : Int), ((1 : Int) + ((two / (8 : Int)) % (50 : Int))), (0 : Int), (4 : Int)] : (List Int)) (two % (8 : Int)))) (ρ' := fun most => [none, some (D.int two, true), none, some (D.int begin3, true), some (D.int end_3, true), some (D.int most, true), none, none, none]) (ev_ix (ec := D.int) (xs := ([(2 : Int), (1 : Int), (3 : Int), (5 : Int), (1000000000000000 : Int), ((1 : Int) + ((two / (8 : Int)) % (50 : Int))), (0 : Int), (4 : Int)] : (List Int))) hc11 (ev_lst (ds := List.map D.int ([(2 : Int), (1 : Int), (3 : Int), (5 : Int), (1000000000000000 : Int), ((1 : Int) + ((two / (8 : Int)) % (50 : Int))), (0 : Int), (4 : Int)] : (List Int))) (es_cons ev_c (es_cons ev_c (es_cons ev_c (es_cons ev_c (es_cons (ev_pow (by decide) (by decide +kernel) ev_c ev_c) (es_cons (ev_add ev_c (ev_mod (by decide) (ev_div (DV_of (by decide) (by decide)) (ev_var (i := 1) (d := D.int two) rfl (imm_int _)) ev_c) ev_c)) (es_cons ev_c (es_cons ev_c es_nil)))))))) rfl rfl rfl) (ev_mod (by decide) (ev_var (i := 1) (d := D.int two) rfl (imm_int _)) ev_c) (imm_int _)) (by rfl) (fun _ => rfl) fun most e12 => ?_))
    replace h := h most e12
    show WS _ [none, some (D.int two, true), none, some (D.int begin3, true), some (D.int end_3, true), some (D.int most, true), none, none, none] _ _
    refine ws_seq (ws_wk (ws_set (ec := D.int) (v := ((two * (1103515245 : Int)) % (2147483647 : Int))) (ρ' := fun mixed => [none, some (D.int two, true), none, some (D.int begin3, true), some (D.int end_3, true), some (D.int most, true), some (D.int mixed, true), none, none]) (ev_mod (by decide) (ev_mul (.inr (.inl (by decide))) (ev_var (i := 1) (d := D.int two) rfl (imm_int _)) ev_c) ev_c) (by rfl) (fun _ => rfl) fun mixed e13 => ?_))
    replace h := h mixed e13
    show WS _ [none, none, none, some (D.int begin3, true), some (D.int end_3, true), some (D.int most, true), some (D.int mixed, true), none, none] _ _
    have hc14 := And.left h
    replace h := And.right h
    refine ws_seq (ws_wk (ws_set (ec := D.int) (v := (most * (end_3 - begin3))) (ρ' := fun full => [none, none, none, some (D.int begin3, true), some (D.int end_3, true), some (D.int most, true), some (D.int mixed, true), some (D.int full, true), none]) (ev_mul hc14 (ev_var (i := 5) (d := D.int most) rfl (imm_int _)) (ev_sub (ev_var (i := 4) (d := D.int end_3) rfl (imm_int _)) (ev_var (i := 3) (d := D.int begin3) rfl (imm_int _)))) (by rfl) (fun _ => rfl) fun full e15 => ?_))
    replace h := h full e15
    show WS _ [none, none, none, some (D.int begin3, true), some (D.int end_3, true), some (D.int most, true), some (D.int mixed, true), some (D.int full, true), none] _ _
    have hc16 := And.left h
    replace h := And.right h
    refine ws_seq (ws_wk (ws_set (ec := D.int) (v := (ix ([((full * (mixed % (17 : Int))) / (16 : Int)), (mixed % (full + (1 : Int))), (min full (mixed % (9 : Int))), full] : (List Int)) ((mixed / (17 : Int)) % (4 : Int)))) (ρ' := fun need => [none, none, none, some (D.int begin3, true), some (D.int end_3, true), some (D.int most, true), some (D.int mixed, true), some (D.int full, true), some (D.int need, true)]) (ev_ix (ec := D.int) (xs := ([((full * (mixed % (17 : Int))) / (16 : Int)), (mixed % (full + (1 : Int))), (min full (mixed % (9 : Int))), full] : (List Int))) hc16.2.2 (ev_lst (ds := List.map D.int ([((full * (mixed % (17 : Int))) / (16 : Int)), (mixed % (full + (1 : Int))), (min full (mixed % (9 : Int))), full] : (List Int))) (es_cons (ev_div (DV_of (by decide) (by decide)) (ev_mul hc16.1 (ev_var (i := 7) (d := D.int full) rfl (imm_int _)) (ev_mod (by decide) (ev_var (i := 6) (d := D.int mixed) rfl (imm_int _)) ev_c)) ev_c) (es_cons (ev_mod hc16.2.1 (ev_var (i := 6) (d := D.int mixed) rfl (imm_int _)) (ev_add (ev_var (i := 7) (d := D.int full) rfl (imm_int _)) ev_c)) (es_cons (ev_fn (es_cons (ev_var (i := 7) (d := D.int full) rfl (imm_int _)) (es_cons (ev_mod (by decide) (ev_var (i := 6) (d := D.int mixed) rfl (imm_int _)) ev_c) es_nil)) (fn_min2)) (es_cons (ev_var (i := 7) (d := D.int full) rfl (imm_int _)) es_nil)))) rfl rfl rfl) (ev_mod (by decide) (ev_div (DV_of (by decide) (by decide)) (ev_var (i := 6) (d := D.int mixed) rfl (imm_int _)) ev_c) ev_c) (imm_int _)) (by rfl) (fun _ => rfl) fun need e17 => ?_))
    replace h := h need e17
    show WS _ [none, none, none, some (D.int begin3, true), some (D.int end_3, true), some (D.int most, true), none, none, some (D.int need, true)] _ _
    exact ws_ret (ov_tup (ds := [D.int begin3, D.int end_3, D.int need, D.int most]) (os_cons (ov_varI (i := 3) (d := D.int begin3) rfl (imm_int _)) (os_cons (ov_varI (i := 4) (d := D.int end_3) rfl (imm_int _)) (os_cons (ov_varI (i := 8) (d := D.int need) rfl (imm_int _)) (os_cons (ov_varI (i := 5) (d := D.int most) rfl (imm_int _)) os_nil)))) rfl) ⟨(⟨begin3, end_3, need, most⟩ : Ship), rfl, h⟩)
  exact ⟨r, e, hq⟩
/-- a ship as the laws draw it -/
structure Drawn (kind : Int) (s : Ship) : Prop where
  ok : s.Ok
  m15 : s.m ≤ 1000000000000000
  b15 : -1000000000000000 ≤ s.b
  e15 : s.e ≤ 1000000000000000
  near : kind ≠ 2 → -25 ≤ s.b ∧ s.e ≤ 65
  near0 : kind ≠ 2 → kind ≠ 1 → -2 ≤ s.b ∧ s.e ≤ 8
theorem law_ship_ex (one two kind : Int) : ∃ r, f_law_ship [.int one, .int two, .int kind] = .ok r.d ∧ Drawn kind r := by
  refine s_law_ship one two kind _ ?_
  intro b0 hb0 e0 he0 b1 e1 hb1 he1 b2 e2 hb2 he2
  simp only [decide_eq_true_eq] at hb1 he1 hb2 he2
  have hb : b2 < e2 ∧ -1000000000000000 ≤ b2 ∧ e2 ≤ 1000000000000000 ∧ (kind ≠ 2 → -25 ≤ b2 ∧ e2 ≤ 65) ∧ (kind ≠ 2 → kind ≠ 1 → -2 ≤ b2 ∧ e2 ≤ 8) := by
    by_cases k2 : kind = 2
    · simp only [k2, if_true] at hb2 he2
      omega
    · rw [if_neg k2] at hb2 he2
      by_cases k1 : kind = 1
      · simp only [k1, if_true] at hb1 he1
        omega
      · rw [if_neg k1] at hb1 he1
        omega
  clear hb0 he0 hb1 he1 hb2 he2
  obtain ⟨h1, h2, h3, h4, h5⟩ := hb
  have l8 : 0 ≤ two % 8 ∧ two % 8 < (([2, 1, 3, 5, 1000000000000000, 1 + two / 8 % 50, 0, 4] : List Int).length : Int) := by simp only [List.length_cons, List.length_nil]; omega
  refine ⟨l8, fun m hm => ?_⟩
  have mm := ix_mem l8.1 l8.2
  rw [← hm] at mm
  clear hm
  simp only [List.mem_cons, List.not_mem_nil, or_false] at mm
  have m0 : 0 ≤ m ∧ m ≤ 1000000000000000 := by omega
  clear mm l8
  intro mi hmi
  have hx : 0 ≤ mi ∧ mi < 2147483647 := by omega
  refine ⟨.inl (by omega), fun fu hfu => ?_⟩
  have hf : 0 ≤ fu := by rw [hfu]; exact Int.mul_nonneg m0.1 (by omega)
  have l4 : 0 ≤ mi / 17 % 4 ∧ mi / 17 % 4 < (([fu * (mi % 17) / 16, mi % (fu + 1), min fu (mi % 9), fu] : List Int).length : Int) := by simp only [List.length_cons, List.length_nil]; omega
  refine ⟨⟨.inr (by omega), by omega, l4⟩, fun n hn => ?_⟩
  have nm := ix_mem l4.1 l4.2
  rw [← hn] at nm
  clear hn l4
  simp only [List.mem_cons, List.not_mem_nil, or_false] at nm
  have n0 : 0 ≤ n ∧ n ≤ fu := by
    rcases nm with e | e | e | e
    · have a1 : 0 ≤ fu * (mi % 17) := Int.mul_nonneg hf (by omega)
      have a2 : fu * (mi % 17) ≤ fu * 16 := Int.mul_le_mul_of_nonneg_left (by omega) hf
      omega
    · have a1 := Int.emod_nonneg mi (show fu + 1 ≠ 0 by omega)
      have a2 := Int.emod_lt_of_pos mi (show 0 < fu + 1 by omega)
      omega
    · omega
    · omega
  have a1 : m ≤ 10000000000000000 := by omega
  have a2 : -100000000000000000 ≤ b2 := by omega
  have a3 : e2 ≤ 100000000000000000 := by omega
  have a4 : n ≤ m * (e2 - b2) := by rw [← hfu]; exact n0.2
  exact ⟨⟨h1, m0.1, a1, n0.1, a4, a2, a3⟩, m0.2, h2, h3, h4, h5⟩
noncomputable def v_law_ship (one two kind : Int) : Ship := (law_ship_ex one two kind).choose
theorem c_law_ship (one two kind : Int) : f_law_ship [.int one, .int two, .int kind] = .ok (v_law_ship one two kind).d := (law_ship_ex one two kind).choose_spec.1
theorem law_ship_ok (one two kind : Int) : Drawn kind (v_law_ship one two kind) := (law_ship_ex one two kind).choose_spec.2
noncomputable def b_law_fleet_1 : DS := sWk (wipeE [3, 4, 5]) (sSet 2 (eCall 2 f_law_cell_at (esCons (eVar 0) (esCons (eVar 1) (esNil)))))
noncomputable def b_law_fleet_2 : DS := sWk (wipeE [4, 5]) (sSet 3 (eLst (esNil)))
noncomputable def b_law_fleet_3b_1 : DS := sSet 5 (eCall 2 f_law_cell_at (esCons (eVar 0) (esCons (eBin dAdd (eBin dAdd (eVar 1) (eC (.int 1))) (eBin dMul (eC (.int 2)) (eVar 4))) (esNil))))
noncomputable def b_law_fleet_3b_2 : DS := sWk (wipeE [4, 5]) (sAppend 3 (oX (eCall 3 f_law_ship (esCons (eVar 5) (esCons (eCall 2 f_law_cell_at (esCons (eVar 0) (esCons (eBin dAdd (eBin dAdd (eVar 1) (eC (.int 2))) (eBin dMul (eC (.int 2)) (eVar 4))) (esNil)))) (esCons (eBin dMod (eBin dDiv (eVar 2) (eC (.int 8))) (eC (.int 3))) (esNil)))))))
noncomputable def b_law_fleet_3b : DS := sSeq b_law_fleet_3b_1 (b_law_fleet_3b_2)
noncomputable def b_law_fleet_3 : DS := sWk (wipeE [0, 1, 4, 5]) (sFor (iRange1 (eIdx (eLst (esCons (eC (.int 3)) (esCons (eC (.int 4)) (esCons (eC (.int 2)) (esCons (eC (.int 4)) (esCons (eC (.int 1)) (esCons (eC (.int 3)) (esCons (eC (.int 0)) (esCons (eC (.int 4)) (esNil)))))))))) (eBin dMod (eVar 2) (eC (.int 8))))) (tgName 4) b_law_fleet_3b)
noncomputable def b_law_fleet_4t_1 : DS := sWk (wipeE [0, 1, 2, 4, 5]) (sStore 3 (eUn dNeg (eC (.int 1))) (oX (eIdx (eVar 3) (eC (.int 0)))))
noncomputable def b_law_fleet_4 : DS := sWk (wipeE [0, 1, 2, 4, 5]) (sIf (eAndT (asB (eBin dGt (eFn dLen (esCons (eVar 3) (esNil))) (eC (.int 1)))) (asB (eBin dEq (eBin dMod (eBin dDiv (eVar 2) (eC (.int 24))) (eC (.int 4))) (eC (.int 1))))) b_law_fleet_4t_1 sNil)
noncomputable def b_law_fleet_5 : DS := sRet (oVar 3)
noncomputable def b_law_fleet : DS := sSeq b_law_fleet_1 (sSeq b_law_fleet_2 (sSeq b_law_fleet_3 (sSeq b_law_fleet_4 (b_law_fleet_5))))
noncomputable def f_law_fleet : List D → R D := fun ds => (fnSem 2 6 b_law_fleet ds).nox
def W_law_fleet (script : (List Int)) (start : Int) (Q : (List Ship) → Prop) : Prop :=
(P_law_cell_at script start) ∧
∀ cell : Int, cell = (v_law_cell_at script start) →
∀ fleet : (List Ship), fleet = ([] : (List Ship)) →
((0 ≤ (cell % (8 : Int)) ∧ (cell % (8 : Int)) < ((([(3 : Int), (4 : Int), (2 : Int), (4 : Int), (1 : Int), (3 : Int), (0 : Int), (4 : Int)] : (List Int))).length : Int)) ∧ (RG (ix ([(3 : Int), (4 : Int), (2 : Int), (4 : Int), (1 : Int), (3 : Int), (0 : Int), (4 : Int)] : (List Int)) (cell % (8 : Int))))) ∧
∃ I5 : Nat → (List Ship) → Prop, I5 0 fleet ∧
(∀ (k : Nat) (fleet2 : (List Ship)), k < ((ix ([(3 : Int), (4 : Int), (2 : Int), (4 : Int), (1 : Int), (3 : Int), (0 : Int), (4 : Int)] : (List Int)) (cell % (8 : Int)))).toNat → I5 k fleet2 →
(P_law_cell_at script ((start + (1 : Int)) + ((2 : Int) * (k : Int)))) ∧
∀ one : Int, one = (v_law_cell_at script ((start + (1 : Int)) + ((2 : Int) * (k : Int)))) →
((P_law_cell_at script ((start + (2 : Int)) + ((2 : Int) * (k : Int)))) ∧ ((fleet2).length < 16777216)) ∧
∀ fleet3 : (List Ship), fleet3 = (fleet2 ++ [(v_law_ship one (v_law_cell_at script ((start + (2 : Int)) + ((2 : Int) * (k : Int)))) ((cell / (8 : Int)) % (3 : Int)))]) →
I5 (k + 1) fleet3) ∧
(∀ (fleet2 : (List Ship)), I5 ((ix ([(3 : Int), (4 : Int), (2 : Int), (4 : Int), (1 : Int), (3 : Int), (0 : Int), (4 : Int)] : (List Int)) (cell % (8 : Int)))).toNat fleet2 →
∃ J15 : (List Ship) → Prop, (((decide ((1 : Int) < ((fleet2).length : Int))) && (decide (((cell / (24 : Int)) % (4 : Int)) = (1 : Int)))) = true →
((0 ≤ (0 : Int) ∧ (0 : Int) < ((fleet2).length : Int)) ∧ (fleet2 ≠ [])) ∧
∀ fleet5 : (List Ship), fleet5 = (fleet2.set (fleet2.length - 1) (ix fleet2 (0 : Int))) →
J15 fleet5) ∧
(((decide ((1 : Int) < ((fleet2).length : Int))) && (decide (((cell / (24 : Int)) % (4 : Int)) = (1 : Int)))) = false →
J15 fleet2) ∧
(∀ fleet4 : (List Ship), J15 fleet4 →
Q fleet4))
set_option maxHeartbeats 4000000 in
theorem s_law_fleet (script : (List Int)) (start : Int) (Q : (List Ship) → Prop) (h : W_law_fleet script start Q) : ∃ r, f_law_fleet [D.scr script, D.int start] = .ok ((eL Ship.d) r) ∧ Q r := by
  unfold W_law_fleet at h
  obtain ⟨_, e, r, rfl, hq⟩ := fs_of (n := 2) (m := 6) (body := b_law_fleet) (ds := [D.scr script, D.int start]) (ρ := [some (D.scr script, true), some (D.int start, true), none, none, none, none]) (Q := fun d => ∃ r, d = (eL Ship.d) r ∧ Q r) (by rfl) (by simp only [List.map_cons, List.map_nil, Ship.d_imm, eP_imm, imm_bl, imm_int, imm_lst, imm_scr, imm_str]; rfl) (by
    show WS _ [some (D.scr script, true), some (D.int start, true), none, none, none, none] _ _
    have hc1 := And.left h
    replace h := And.right h
    refine ws_seq (ws_wk (ws_set (ec := D.int) (v := (v_law_cell_at script start)) (ρ' := fun cell => [some (D.scr script, true), some (D.int start, true), some (D.int cell, true), none, none, none]) (ev_call (es_cons (ev_var (i := 0) (d := D.scr script) rfl (imm_scr _)) (es_cons (ev_var (i := 1) (d := D.int start) rfl (imm_int _)) es_nil)) rfl (c_law_cell_at script start hc1)) (by rfl) (fun _ => rfl) fun cell e2 => ?_))
    replace h := h cell e2
    show WS _ [some (D.scr script, true), some (D.int start, true), some (D.int cell, true), none, none, none] _ _
    refine ws_seq (ws_wk (ws_set (ec := (eL Ship.d)) (v := ([] : (List Ship))) (ρ' := fun fleet => [some (D.scr script, true), some (D.int start, true), some (D.int cell, true), some ((eL Ship.d) fleet, true), none, none]) (ev_lst es_nil rfl rfl rfl) (by rfl) (fun _ => rfl) fun fleet e3 => ?_))
    replace h := h fleet e3
    show WS _ [some (D.scr script, true), some (D.int start, true), some (D.int cell, true), some ((eL Ship.d) fleet, true), none, none] _ _
    have hc4 := And.left h
    replace h := And.right h
    refine Exists.elim h fun I5 h => ?_
    have h20 := And.left h
    have h21 := And.left (And.right h)
    have h22 := And.right (And.right h)
    refine ws_seq (ws_wk (ws_forR (σ := (List Ship)) (ec := (fun i : Nat => D.int (i : Int))) (n := ((ix ([(3 : Int), (4 : Int), (2 : Int), (4 : Int), (1 : Int), (3 : Int), (0 : Int), (4 : Int)] : (List Int)) (cell % (8 : Int)))).toNat) (st := fun z => [some (D.scr script, true), some (D.int start, true), some (D.int cell, true), some ((eL Ship.d) z, true), none, none]) (bd := fun k z => [some (D.scr script, true), some (D.int start, true), some (D.int cell, true), some ((eL Ship.d) z, true), some (D.int (k : Int), true), none]) (fun done6 z => I5 done6 z) fleet (it_rg1 hc4.2 (ev_ix (ec := D.int) (xs := ([(3 : Int), (4 : Int), (2 : Int), (4 : Int), (1 : Int), (3 : Int), (0 : Int), (4 : Int)] : (List Int))) hc4.1 (ev_lst (ds := List.map D.int ([(3 : Int), (4 : Int), (2 : Int), (4 : Int), (1 : Int), (3 : Int), (0 : Int), (4 : Int)] : (List Int))) (es_cons ev_c (es_cons ev_c (es_cons ev_c (es_cons ev_c (es_cons ev_c (es_cons ev_c (es_cons ev_c (es_cons ev_c es_nil)))))))) rfl rfl rfl) (ev_mod (by decide) (ev_var (i := 2) (d := D.int cell) rfl (imm_int _)) ev_c) (imm_int _))) (fun k z => (tg_name (i := 4) (by rfl) (imm_int _) rfl)) h20 ?_ ?_))
    · rintro k fleet2 he8 hi9
      have h := h21 k fleet2 he8 hi9
      show WS _ [some (D.scr script, true), some (D.int start, true), some (D.int cell, true), some ((eL Ship.d) fleet2, true), some (D.int (k : Int), true), none] _ _
      have hc10 := And.left h
      replace h := And.right h
      refine ws_seq (ws_set (ec := D.int) (v := (v_law_cell_at script ((start + (1 : Int)) + ((2 : Int) * (k : Int))))) (ρ' := fun one => [some (D.scr script, true), some (D.int start, true), some (D.int cell, true), some ((eL Ship.d) fleet2, true), some (D.int (k : Int), true), some (D.int one, true)]) (ev_call (es_cons (ev_var (i := 0) (d := D.scr script) rfl (imm_scr _)) (es_cons (ev_add (ev_add (ev_var (i := 1) (d := D.int start) rfl (imm_int _)) ev_c) (ev_mul (.inl (by decide)) ev_c (ev_var (i := 4) (d := D.int (k : Int)) rfl (imm_int _)))) es_nil)) rfl (c_law_cell_at script ((start + (1 : Int)) + ((2 : Int) * (k : Int))) hc10)) (by rfl) (fun _ => rfl) fun one e11 => ?_)
      replace h := h one e11
      show WS _ [some (D.scr script, true), some (D.int start, true), some (D.int cell, true), some ((eL Ship.d) fleet2, true), some (D.int (k : Int), true), some (D.int one, true)] _ _
      have hc12 := And.left h
      replace h := And.right h
      refine ws_wk (ws_append (ec := Ship.d) (xs := fleet2) (v := (v_law_ship one (v_law_cell_at script ((start + (2 : Int)) + ((2 : Int) * (k : Int)))) ((cell / (8 : Int)) % (3 : Int)))) (ρ' := fun fleet3 => [some (D.scr script, true), some (D.int start, true), some (D.int cell, true), some ((eL Ship.d) fleet3, true), some (D.int (k : Int), true), some (D.int one, true)]) rfl (ov_x (ev_call (es_cons (ev_var (i := 5) (d := D.int one) rfl (imm_int _)) (es_cons (ev_call (es_cons (ev_var (i := 0) (d := D.scr script) rfl (imm_scr _)) (es_cons (ev_add (ev_add (ev_var (i := 1) (d := D.int start) rfl (imm_int _)) ev_c) (ev_mul (.inl (by decide)) ev_c (ev_var (i := 4) (d := D.int (k : Int)) rfl (imm_int _)))) es_nil)) rfl (c_law_cell_at script ((start + (2 : Int)) + ((2 : Int) * (k : Int))) hc12.1)) (es_cons (ev_mod (by decide) (ev_div (DV_of (by decide) (by decide)) (ev_var (i := 2) (d := D.int cell) rfl (imm_int _)) ev_c) ev_c) es_nil))) rfl (c_law_ship one (v_law_cell_at script ((start + (2 : Int)) + ((2 : Int) * (k : Int)))) ((cell / (8 : Int)) % (3 : Int))))) rfl hc12.2 (fun _ => rfl) fun fleet3 e13 => ?_)
      replace h := h fleet3 e13
      exact ⟨fleet3, rfl, h⟩
    · rintro fleet2 hi9
      have h := h22 fleet2 hi9
      show WS _ [none, none, some (D.int cell, true), some ((eL Ship.d) fleet2, true), none, none] _ _
      refine Exists.elim h fun J15 h => ?_
      have h1_ := And.left h
      have h2_ := And.left (And.right h)
      have hk18 := And.right (And.right h)
      refine ws_seq (WS.imp (Kn := fun ρ' => ∃ fleet4 : (List Ship), ρ' = [none, none, none, some ((eL Ship.d) fleet4, true), none, none] ∧ J15 fleet4) (ws_wk (ws_if (b := ((decide ((1 : Int) < ((fleet2).length : Int))) && (decide (((cell / (24 : Int)) % (4 : Int)) = (1 : Int))))) (tv_and (tv_x (ev_gt (ev_fn (es_cons (ev_var (i := 3) (d := (eL Ship.d) fleet2) rfl (imm_lst _)) es_nil) (fn_len (ec := Ship.d) (xs := fleet2))) ev_c)) (fun hb19 => (tv_x (ev_eq (ec := D.int) (x := ((cell / (24 : Int)) % (4 : Int))) (y := (1 : Int)) eqv_int (by decide) (ev_mod (by decide) (ev_div (DV_of (by decide) (by decide)) (ev_var (i := 2) (d := D.int cell) rfl (imm_int _)) ev_c) ev_c) ev_c)))) (fun hb14 => ?_) (fun hb14 => ?_))) ?_)
      · have h := h1_ hb14
        show WS _ [none, none, some (D.int cell, true), some ((eL Ship.d) fleet2, true), none, none] _ _
        have hc16 := And.left h
        replace h := And.right h
        refine ws_wk (ws_storeL (ec := Ship.d) (xs := fleet2) (v := (ix fleet2 (0 : Int))) (ρ' := fun fleet5 => [none, none, some (D.int cell, true), some ((eL Ship.d) fleet5, true), none, none]) (ov_x (ev_ix (ec := Ship.d) (xs := fleet2) hc16.1 (ev_var (i := 3) (d := (eL Ship.d) fleet2) rfl (imm_lst _)) ev_c (Ship.d_imm _))) rfl (ev_neg ev_c) hc16.2 (fun _ => rfl) fun fleet5 e17 => ?_)
        replace h := h fleet5 e17
        exact ⟨fleet5, by first | (simp only [wipeE, List.set_cons_succ, List.set_cons_zero]; done) | rfl, h⟩
      · have h := h2_ hb14
        refine ws_nil ?_
        exact ⟨fleet2, by first | (simp only [wipeE, List.set_cons_succ, List.set_cons_zero]; done) | rfl, h⟩
      rintro _ ⟨fleet4, rfl, h⟩
      replace h := hk18 fleet4 h
      show WS _ [none, none, none, some ((eL Ship.d) fleet4, true), none, none] _ _
      exact ws_ret (ov_varM (i := 3) (d := (eL Ship.d) fleet4) rfl (imm_lst _) rfl) ⟨fleet4, rfl, h⟩)
  exact ⟨r, e, hq⟩
theorem law_fleet_ex (ns : List Int) (st : Int) (h0 : 0 ≤ st) : ∃ r, f_law_fleet [.scr ns, .int st] = .ok (eL Ship.d r) ∧ (∀ s ∈ r, Drawn (cell ns st / 8 % 3) s) ∧ r.length ≤ 4 := by
  refine s_law_fleet ns st _ ?_
  refine ⟨h0, fun c hc f0 hf0 => ?_⟩
  have l8 : 0 ≤ c % 8 ∧ c % 8 < (([3, 4, 2, 4, 1, 3, 0, 4] : List Int).length : Int) := by simp only [List.length_cons, List.length_nil]; omega
  have m := ix_mem l8.1 l8.2
  simp only [List.mem_cons, List.not_mem_nil, or_false] at m
  generalize ix ([3, 4, 2, 4, 1, 3, 0, 4] : List Int) (c % 8) = n at m
  have hn : 0 ≤ n ∧ n ≤ 4 := by omega
  refine ⟨⟨l8, by unfold RG; omega⟩, fun k fl => (∀ s ∈ fl, Drawn (cell ns st / 8 % 3) s) ∧ fl.length = k, by subst hf0; simp, ?_, ?_⟩
  · rintro k fl hk ⟨i1, i2⟩
    refine ⟨by simp; omega, fun one h1 => ⟨⟨by simp; omega, by omega⟩, fun fl' e => ?_⟩⟩
    subst e
    refine ⟨fun s hs => ?_, by simp [i2]⟩
    rcases List.mem_append.mp hs with hs | hs
    · exact i1 s hs
    · rw [List.mem_singleton.mp hs, hc]
      exact law_ship_ok _ _ _
  · rintro fl ⟨i1, i2⟩
    refine ⟨fun fl => (∀ s ∈ fl, Drawn (cell ns st / 8 % 3) s) ∧ fl.length ≤ 4, fun hb => ?_, fun _ => ⟨i1, by omega⟩, fun fl h => h⟩
    simp only [Bool.and_eq_true, decide_eq_true_eq] at hb
    have l0 : (0 : Int) ≤ 0 ∧ (0 : Int) < fl.length := by omega
    refine ⟨⟨l0, fun e => by rw [e] at hb; simp at hb⟩, fun f2 e => ?_⟩
    subst e
    refine ⟨fun s hs => ?_, by rw [List.length_set]; omega⟩
    rcases List.mem_or_eq_of_mem_set hs with h | h
    · exact i1 s h
    · rw [h]; exact i1 _ (ix_mem l0.1 l0.2)
noncomputable def v_law_fleet (ns : List Int) (st : Int) : List Ship := if h : 0 ≤ st then (law_fleet_ex ns st h).choose else []
def P_law_fleet (_ : List Int) (st : Int) : Prop := 0 ≤ st
theorem c_law_fleet (ns : List Int) (st : Int) (h : P_law_fleet ns st) : f_law_fleet [.scr ns, .int st] = .ok (eL Ship.d (v_law_fleet ns st)) := by
  have h : 0 ≤ st := h
  unfold v_law_fleet; rw [dif_pos h]; exact (law_fleet_ex ns st h).choose_spec.1
theorem law_fleet_ok (ns : List Int) (st : Int) (h : 0 ≤ st) : (∀ s ∈ v_law_fleet ns st, Drawn (cell ns st / 8 % 3) s) ∧ (v_law_fleet ns st).length ≤ 4 := by
  unfold v_law_fleet; rw [dif_pos h]; exact (law_fleet_ex ns st h).choose_spec.2
@[simp] theorem P_fleet_ok {ns : List Int} {k : Int} : P_law_fleet ns k ↔ 0 ≤ k := Iff.rfl
noncomputable def b_law_names_1 : DS := sWk (wipeE [3, 4, 5, 6, 7]) (sSet 2 (eC (.str "abcdefghijklmnopqrstuvwxyz")))
noncomputable def b_law_names_2 : DS := sWk (wipeE [4, 5, 6, 7]) (sSet 3 (eBin dMod (eBin dMul (eVar 0) (eC (.int 1664525013))) (eC (.int 2147483629))))
noncomputable def b_law_names_3 : DS := sWk (wipeE [5, 6, 7]) (sSet 4 (eC (.str "")))
noncomputable def b_law_names_4b_1 : DS := sWk (wipeE [5, 6, 7]) (sSet 4 (eBin dAdd (eVar 4) (eIdx (eVar 2) (eBin dMod (eBin dDiv (eVar 3) (eBin dAdd (eC (.int 1)) (eBin dMul (eC (.int 26)) (eVar 5)))) (eC (.int 26))))))
noncomputable def b_law_names_4 : DS := sWk (wipeE [5, 6, 7]) (sFor (iRange1 (eBin dMod (eVar 0) (eC (.int 4)))) (tgName 5) b_law_names_4b_1)
noncomputable def b_law_names_5 : DS := sWk (wipeE [5, 7]) (sSet 6 (eC (.str "")))
noncomputable def b_law_names_6b_1 : DS := sWk (wipeE [5, 7]) (sSet 6 (eBin dAdd (eVar 6) (eIdx (eVar 2) (eBin dMod (eBin dDiv (eVar 3) (eBin dAdd (eC (.int 3)) (eBin dMul (eC (.int 31)) (eVar 5)))) (eC (.int 26))))))
noncomputable def b_law_names_6 : DS := sWk (wipeE [3, 5, 7]) (sFor (iRange1 (eBin dMod (eBin dDiv (eVar 0) (eC (.int 4))) (eC (.int 5)))) (tgName 5) b_law_names_6b_1)
noncomputable def b_law_names_7 : DS := sRet (oX (eComp [7] (iRange1 (eVar 1)) (tgName 7) (yesT) (eBin dAdd (eBin dAdd (eVar 4) (eIdx (eVar 2) (eBin dMod (eBin dAdd (eBin dDiv (eVar 0) (eC (.int 20))) (eBin dMul (eC (.int 7)) (eVar 7))) (eC (.int 26))))) (eVar 6))))
noncomputable def b_law_names : DS := sSeq b_law_names_1 (sSeq b_law_names_2 (sSeq b_law_names_3 (sSeq b_law_names_4 (sSeq b_law_names_5 (sSeq b_law_names_6 (b_law_names_7))))))
noncomputable def f_law_names : List D → R D := fun ds => (fnSem 2 8 b_law_names ds).nox
def W_law_names (cell : Int) (many : Int) (Q : (List Str) → Prop) : Prop :=
∀ some_ : Str, some_ = ("abcdefghijklmnopqrstuvwxyz" : Str) →
∀ mixed : Int, mixed = ((cell * (1664525013 : Int)) % (2147483629 : Int)) →
∀ front : Str, front = ("" : Str) →
(RG (cell % (4 : Int))) ∧
∃ I5 : Nat → Str → Prop, I5 0 front ∧
(∀ (k : Nat) (front2 : Str), k < ((cell % (4 : Int))).toNat → I5 k front2 →
((DV ((1 : Int) + ((26 : Int) * (k : Int)))) ∧ ((0 ≤ ((mixed / ((1 : Int) + ((26 : Int) * (k : Int)))) % (26 : Int)) ∧ ((mixed / ((1 : Int) + ((26 : Int) * (k : Int)))) % (26 : Int)) < ((some_).length : Int)) ∧ (some_).length ≤ 16777216) ∧ ((front2).length + ((chS some_ ((mixed / ((1 : Int) + ((26 : Int) * (k : Int)))) % (26 : Int)))).length ≤ 16777216)) ∧
∀ front3 : Str, front3 = (front2 ++ (chS some_ ((mixed / ((1 : Int) + ((26 : Int) * (k : Int)))) % (26 : Int)))) →
I5 (k + 1) front3) ∧
(∀ (front2 : Str), I5 ((cell % (4 : Int))).toNat front2 →
∀ beyond : Str, beyond = ("" : Str) →
(RG ((cell / (4 : Int)) % (5 : Int))) ∧
∃ I14 : Nat → Str → Prop, I14 0 beyond ∧
(∀ (k2 : Nat) (beyond2 : Str), k2 < (((cell / (4 : Int)) % (5 : Int))).toNat → I14 k2 beyond2 →
((DV ((3 : Int) + ((31 : Int) * (k2 : Int)))) ∧ ((0 ≤ ((mixed / ((3 : Int) + ((31 : Int) * (k2 : Int)))) % (26 : Int)) ∧ ((mixed / ((3 : Int) + ((31 : Int) * (k2 : Int)))) % (26 : Int)) < ((some_).length : Int)) ∧ (some_).length ≤ 16777216) ∧ ((beyond2).length + ((chS some_ ((mixed / ((3 : Int) + ((31 : Int) * (k2 : Int)))) % (26 : Int)))).length ≤ 16777216)) ∧
∀ beyond3 : Str, beyond3 = (beyond2 ++ (chS some_ ((mixed / ((3 : Int) + ((31 : Int) * (k2 : Int)))) % (26 : Int)))) →
I14 (k2 + 1) beyond3) ∧
(∀ (beyond2 : Str), I14 (((cell / (4 : Int)) % (5 : Int))).toNat beyond2 →
((RG many) ∧ ((List.range (many).toNat).length ≤ 16777216) ∧ (∀ p : Nat, p ∈ List.range (many).toNat → ((0 ≤ (((cell / (20 : Int)) + ((7 : Int) * (p : Int))) % (26 : Int)) ∧ (((cell / (20 : Int)) + ((7 : Int) * (p : Int))) % (26 : Int)) < ((some_).length : Int)) ∧ (some_).length ≤ 16777216) ∧ ((front2).length + ((chS some_ (((cell / (20 : Int)) + ((7 : Int) * (p : Int))) % (26 : Int)))).length ≤ 16777216) ∧ (((front2 ++ (chS some_ (((cell / (20 : Int)) + ((7 : Int) * (p : Int))) % (26 : Int))))).length + (beyond2).length ≤ 16777216))) ∧
Q ((List.range (many).toNat).map fun p : Nat => ((front2 ++ (chS some_ (((cell / (20 : Int)) + ((7 : Int) * (p : Int))) % (26 : Int)))) ++ beyond2))))
set_option maxHeartbeats 4000000 in
theorem s_law_names (cell : Int) (many : Int) (Q : (List Str) → Prop) (h : W_law_names cell many Q) : ∃ r, f_law_names [D.int cell, D.int many] = .ok ((eL D.str) r) ∧ Q r := by
  unfold W_law_names at h
  obtain ⟨_, e, r, rfl, hq⟩ := fs_of (n := 2) (m := 8) (body := b_law_names) (ds := [D.int cell, D.int many]) (ρ := [some (D.int cell, true), some (D.int many, true), none, none, none, none, none, none]) (Q := fun d => ∃ r, d = (eL D.str) r ∧ Q r) (by rfl) (by simp only [List.map_cons, List.map_nil, Ship.d_imm, eP_imm, imm_bl, imm_int, imm_lst, imm_scr, imm_str]; rfl) (by
    show WS _ [some (D.int cell, true), some (D.int many, true), none, none, none, none, none, none] _ _
    refine ws_seq (ws_wk (ws_set (ec := D.str) (v := ("abcdefghijklmnopqrstuvwxyz" : Str)) (ρ' := fun some_ => [some (D.int cell, true), some (D.int many, true), some (D.str some_, true), none, none, none, none, none]) ev_c (by rfl) (fun _ => rfl) fun some_ e1 => ?_))
    replace h := h some_ e1
    show WS _ [some (D.int cell, true), some (D.int many, true), some (D.str some_, true), none, none, none, none, none] _ _
    refine ws_seq (ws_wk (ws_set (ec := D.int) (v := ((cell * (1664525013 : Int)) % (2147483629 : Int))) (ρ' := fun mixed => [some (D.int cell, true), some (D.int many, true), some (D.str some_, true), some (D.int mixed, true), none, none, none, none]) (ev_mod (by decide) (ev_mul (.inr (.inl (by decide))) (ev_var (i := 0) (d := D.int cell) rfl (imm_int _)) ev_c) ev_c) (by rfl) (fun _ => rfl) fun mixed e2 => ?_))
    replace h := h mixed e2
    show WS _ [some (D.int cell, true), some (D.int many, true), some (D.str some_, true), some (D.int mixed, true), none, none, none, none] _ _
    refine ws_seq (ws_wk (ws_set (ec := D.str) (v := ("" : Str)) (ρ' := fun front => [some (D.int cell, true), some (D.int many, true), some (D.str some_, true), some (D.int mixed, true), some (D.str front, true), none, none, none]) ev_c (by rfl) (fun _ => rfl) fun front e3 => ?_))
    replace h := h front e3
    show WS _ [some (D.int cell, true), some (D.int many, true), some (D.str some_, true), some (D.int mixed, true), some (D.str front, true), none, none, none] _ _
    have hc4 := And.left h
    replace h := And.right h
    refine Exists.elim h fun I5 h => ?_
    have h27 := And.left h
    have h28 := And.left (And.right h)
    have h29 := And.right (And.right h)
    refine ws_seq (ws_wk (ws_forR (σ := Str) (ec := (fun i : Nat => D.int (i : Int))) (n := ((cell % (4 : Int))).toNat) (st := fun z => [some (D.int cell, true), some (D.int many, true), some (D.str some_, true), some (D.int mixed, true), some (D.str z, true), none, none, none]) (bd := fun k z => [some (D.int cell, true), some (D.int many, true), some (D.str some_, true), some (D.int mixed, true), some (D.str z, true), some (D.int (k : Int), true), none, none]) (fun done6 z => I5 done6 z) front (it_rg1 hc4 (ev_mod (by decide) (ev_var (i := 0) (d := D.int cell) rfl (imm_int _)) ev_c)) (fun k z => (tg_name (i := 5) (by rfl) (imm_int _) rfl)) h27 ?_ ?_))
    · rintro k front2 he8 hi9
      have h := h28 k front2 he8 hi9
      show WS _ [some (D.int cell, true), some (D.int many, true), some (D.str some_, true), some (D.int mixed, true), some (D.str front2, true), some (D.int (k : Int), true), none, none] _ _
      have hc10 := And.left h
      replace h := And.right h
      refine ws_wk (ws_set (ec := D.str) (v := (front2 ++ (chS some_ ((mixed / ((1 : Int) + ((26 : Int) * (k : Int)))) % (26 : Int))))) (ρ' := fun front3 => [some (D.int cell, true), some (D.int many, true), some (D.str some_, true), some (D.int mixed, true), some (D.str front3, true), some (D.int (k : Int), true), none, none]) (ev_addS hc10.2.2 (ev_var (i := 4) (d := D.str front2) rfl (imm_str _)) (ev_ixZ hc10.2.1 (ev_var (i := 2) (d := D.str some_) rfl (imm_str _)) (ev_mod (by decide) (ev_div hc10.1 (ev_var (i := 3) (d := D.int mixed) rfl (imm_int _)) (ev_add ev_c (ev_mul (.inl (by decide)) ev_c (ev_var (i := 5) (d := D.int (k : Int)) rfl (imm_int _))))) ev_c))) (by rfl) (fun _ => rfl) fun front3 e11 => ?_)
      replace h := h front3 e11
      exact ⟨front3, rfl, h⟩
    · rintro front2 hi9
      have h := h29 front2 hi9
      show WS _ [some (D.int cell, true), some (D.int many, true), some (D.str some_, true), some (D.int mixed, true), some (D.str front2, true), none, none, none] _ _
      refine ws_seq (ws_wk (ws_set (ec := D.str) (v := ("" : Str)) (ρ' := fun beyond => [some (D.int cell, true), some (D.int many, true), some (D.str some_, true), some (D.int mixed, true), some (D.str front2, true), none, some (D.str beyond, true), none]) ev_c (by rfl) (fun _ => rfl) fun beyond e12 => ?_))
      replace h := h beyond e12
      show WS _ [some (D.int cell, true), some (D.int many, true), some (D.str some_, true), some (D.int mixed, true), some (D.str front2, true), none, some (D.str beyond, true), none] _ _
      have hc13 := And.left h
      replace h := And.right h
      refine Exists.elim h fun I14 h => ?_
      have h24 := And.left h
      have h25 := And.left (And.right h)
      have h26 := And.right (And.right h)
      refine ws_seq (ws_wk (ws_forR (σ := Str) (ec := (fun i : Nat => D.int (i : Int))) (n := (((cell / (4 : Int)) % (5 : Int))).toNat) (st := fun z => [some (D.int cell, true), some (D.int many, true), some (D.str some_, true), some (D.int mixed, true), some (D.str front2, true), none, some (D.str z, true), none]) (bd := fun k2 z => [some (D.int cell, true), some (D.int many, true), some (D.str some_, true), some (D.int mixed, true), some (D.str front2, true), some (D.int (k2 : Int), true), some (D.str z, true), none]) (fun done15 z => I14 done15 z) beyond (it_rg1 hc13 (ev_mod (by decide) (ev_div (DV_of (by decide) (by decide)) (ev_var (i := 0) (d := D.int cell) rfl (imm_int _)) ev_c) ev_c)) (fun k2 z => (tg_name (i := 5) (by rfl) (imm_int _) rfl)) h24 ?_ ?_))
      · rintro k2 beyond2 he17 hi18
        have h := h25 k2 beyond2 he17 hi18
        show WS _ [some (D.int cell, true), some (D.int many, true), some (D.str some_, true), some (D.int mixed, true), some (D.str front2, true), some (D.int (k2 : Int), true), some (D.str beyond2, true), none] _ _
        have hc19 := And.left h
        replace h := And.right h
        refine ws_wk (ws_set (ec := D.str) (v := (beyond2 ++ (chS some_ ((mixed / ((3 : Int) + ((31 : Int) * (k2 : Int)))) % (26 : Int))))) (ρ' := fun beyond3 => [some (D.int cell, true), some (D.int many, true), some (D.str some_, true), some (D.int mixed, true), some (D.str front2, true), some (D.int (k2 : Int), true), some (D.str beyond3, true), none]) (ev_addS hc19.2.2 (ev_var (i := 6) (d := D.str beyond2) rfl (imm_str _)) (ev_ixZ hc19.2.1 (ev_var (i := 2) (d := D.str some_) rfl (imm_str _)) (ev_mod (by decide) (ev_div hc19.1 (ev_var (i := 3) (d := D.int mixed) rfl (imm_int _)) (ev_add ev_c (ev_mul (.inl (by decide)) ev_c (ev_var (i := 5) (d := D.int (k2 : Int)) rfl (imm_int _))))) ev_c))) (by rfl) (fun _ => rfl) fun beyond3 e20 => ?_)
        replace h := h beyond3 e20
        exact ⟨beyond3, rfl, h⟩
      · rintro beyond2 hi18
        have h := h26 beyond2 hi18
        show WS _ [some (D.int cell, true), some (D.int many, true), some (D.str some_, true), none, some (D.str front2, true), none, some (D.str beyond2, true), none] _ _
        have hc21 := And.left h
        replace h := And.right h
        exact ws_ret (ov_x (ev_comp (m := List.range (many).toNat) (ec := (fun i : Nat => D.int (i : Int))) (ed := D.str) (G := fun p : Nat => ((front2 ++ (chS some_ (((cell / (20 : Int)) + ((7 : Int) * (p : Int))) % (26 : Int)))) ++ beyond2)) (bd := fun p : Nat => [some (D.int cell, false), some (D.int many, false), some (D.str some_, false), none, some (D.str front2, false), none, some (D.str beyond2, false), some (D.int (p : Int), true)]) (ρc := [some (D.int cell, false), some (D.int many, false), some (D.str some_, false), none, some (D.str front2, false), none, some (D.str beyond2, false), none]) (it_rg1 hc21.1 (ev_var (i := 1) (d := D.int many) rfl (imm_int _))) hc21.2.1 rfl (fun p => (tg_name (i := 7) (by rfl) (imm_int _) rfl)) rfl (fun p ha22 => (ev_addS (hc21.2.2 p ha22).2.2 (ev_addS (hc21.2.2 p ha22).2.1 (ev_var (i := 4) (d := D.str front2) rfl (imm_str _)) (ev_ixZ (hc21.2.2 p ha22).1 (ev_var (i := 2) (d := D.str some_) rfl (imm_str _)) (ev_mod (by decide) (ev_add (ev_div (DV_of (by decide) (by decide)) (ev_var (i := 0) (d := D.int cell) rfl (imm_int _)) ev_c) (ev_mul (.inl (by decide)) ev_c (ev_var (i := 7) (d := D.int (p : Int)) rfl (imm_int _)))) ev_c))) (ev_var (i := 6) (d := D.str beyond2) rfl (imm_str _)))))) ⟨((List.range (many).toNat).map fun p : Nat => ((front2 ++ (chS some_ (((cell / (20 : Int)) + ((7 : Int) * (p : Int))) % (26 : Int)))) ++ beyond2)), rfl, h⟩)
  exact ⟨r, e, hq⟩
noncomputable def b_is_name_1b_1t_1 : DS := sRet (oX (eC (.bl false)))
noncomputable def b_is_name_1b_1 : DS := sWk (wipeE [1]) (sIf (asB (eBin dNotIn (eVar 1) (eC (.str "abcdefghijklmnopqrstuvwxyz")))) b_is_name_1b_1t_1 sNil)
noncomputable def b_is_name_1 : DS := sWk (wipeE [1]) (sFor (iVar 0) (tgName 1) b_is_name_1b_1)
noncomputable def b_is_name_2 : DS := sRet (oX (eChain dLe dLe (eC (.int 1)) (eFn dLen (esCons (eVar 0) (esNil))) (eC (.int 8))))
noncomputable def b_is_name : DS := sSeq b_is_name_1 (b_is_name_2)
noncomputable def f_is_name : List D → R D := fun ds => (fnSem 1 2 b_is_name ds).nox
def W_is_name (word : Str) (Q : Bool → Prop) : Prop :=
∃ I1 : List Str → Prop, I1 []  ∧
(∀ (done2 : List Str) (sign : Str) (rest3 : List Str), (chrs word) = done2 ++ sign :: rest3 → I1 done2  →
((sign).length = 1) ∧
(((!inZ sign ("abcdefghijklmnopqrstuvwxyz" : Str)) = true →
Q false) ∧
((!inZ sign ("abcdefghijklmnopqrstuvwxyz" : Str)) = false →
I1 (done2 ++ [sign]) ))) ∧
(I1 ((chrs word))  →
((word).length ≤ 16777216) ∧
Q (decide ((1 : Int) ≤ ((word).length : Int)) && decide (((word).length : Int) ≤ (8 : Int))))
set_option maxHeartbeats 4000000 in
theorem s_is_name (word : Str) (Q : Bool → Prop) (h : W_is_name word Q) : ∃ r, f_is_name [D.str word] = .ok (D.bl r) ∧ Q r := by
  unfold W_is_name at h
  obtain ⟨_, e, r, rfl, hq⟩ := fs_of (n := 1) (m := 2) (body := b_is_name) (ds := [D.str word]) (ρ := [some (D.str word, true), none]) (Q := fun d => ∃ r, d = D.bl r ∧ Q r) (by rfl) (by simp only [List.map_cons, List.map_nil, Ship.d_imm, eP_imm, imm_bl, imm_int, imm_lst, imm_scr, imm_str]; rfl) (by
    show WS _ [some (D.str word, true), none] _ _
    refine Exists.elim h fun I1 h => ?_
    have h9 := And.left h
    have h10 := And.left (And.right h)
    have h11 := And.right (And.right h)
    refine ws_seq (ws_wk (ws_for (σ := Unit) (ec := D.str) (l := (chrs word)) (st := fun z => [some (D.str word, true), none]) (bd := fun sign z => [some (D.str word, true), some (D.str sign, true)]) (fun done2 z => I1 done2 ) () (it_varZ (i := 0) rfl) (fun sign z => (tg_name (i := 1) (by rfl) (imm_str _) rfl)) h9 ?_ ?_))
    · rintro done2 sign rest3 _ he4 hi5
      have h := h10 done2 sign rest3  he4 hi5
      show WS _ [some (D.str word, true), some (D.str sign, true)] _ _
      have hc6 := And.left h
      replace h := And.right h
      refine ws_wk (ws_if (b := (!inZ sign ("abcdefghijklmnopqrstuvwxyz" : Str))) (tv_x (ev_notinZ hc6 (ev_var (i := 1) (d := D.str sign) rfl (imm_str _)) ev_c)) (fun hb7 => ?_) (fun hb7 => ?_))
      · replace h := h.1 hb7
        show WS _ [some (D.str word, true), some (D.str sign, true)] _ _
        exact ws_ret (ov_x ev_c) ⟨false, rfl, h⟩
      · replace h := h.2 hb7
        refine ws_nil ?_
        exact ⟨(), rfl, h⟩
    · rintro _ hi5
      have h := h11 hi5
      show WS _ [some (D.str word, true), none] _ _
      have hc8 := And.left h
      replace h := And.right h
      exact ws_ret (ov_x (ev_chain ev_c (ev_fn (es_cons (ev_var (i := 0) (d := D.str word) rfl (imm_str _)) es_nil) (fn_lenT hc8)) ev_c rfl rfl)) ⟨(decide ((1 : Int) ≤ ((word).length : Int)) && decide (((word).length : Int) ≤ (8 : Int))), rfl, h⟩)
  exact ⟨r, e, hq⟩
def lett (c : Nat) : Bool := decide (97 ≤ c) && decide (c ≤ 122)
theorem inZ_lett (c : Nat) : inZ ⟨#[c]⟩ ("abcdefghijklmnopqrstuvwxyz" : Str) = lett c := by
  have e : TL.tl ("abcdefghijklmnopqrstuvwxyz" : Str) = List.range' 97 26 := by decide +kernel
  show decide (c ∈ TL.tl ("abcdefghijklmnopqrstuvwxyz" : Str)) = _
  rw [e]
  unfold lett
  by_cases h : 97 ≤ c ∧ c ≤ 122
  · rw [decide_eq_true h.1, decide_eq_true h.2, decide_eq_true (List.mem_range'_1.mpr (by omega))]; rfl
  · rw [decide_eq_false fun z => h (by have := List.mem_range'_1.mp z; omega)]
    by_cases a : 97 ≤ c
    · rw [decide_eq_false (p := c ≤ 122) fun z => h ⟨a, z⟩, Bool.and_false]
    · rw [decide_eq_false a, Bool.false_and]
def v_is_name (w : Str) : Bool := (TL.tl w).all lett && (decide (1 ≤ w.length) && decide (w.length ≤ 8))
def P_is_name (w : Str) : Prop := w.length ≤ 16777216
theorem c_is_name (w : Str) (h : P_is_name w) : f_is_name [.str w] = .ok (.bl (v_is_name w)) := by
  obtain ⟨r, e, hr⟩ := s_is_name w (fun r => r = v_is_name w) (by
    refine ⟨fun done => ∀ s ∈ done, ∃ c, s = ⟨#[c]⟩ ∧ lett c = true, (by intro s hs; cases hs), ?_, ?_⟩
    · rintro done s rest he hd
      obtain ⟨c, hc, rfl⟩ := chrs_mem he
      refine ⟨rfl, fun hb => ?_, fun hb => ?_⟩
      · rw [inZ_lett] at hb
        have : (TL.tl w).all lett = false := List.all_eq_false.mpr ⟨c, hc, by simpa using hb⟩
        unfold v_is_name
        rw [this, Bool.false_and]
      · rw [inZ_lett] at hb
        intro s hs
        rcases List.mem_append.mp hs with q | q
        · exact hd s q
        · have : s = ⟨#[c]⟩ := by simpa using q
          exact ⟨c, this, by simpa using hb⟩
    · intro hall
      refine ⟨h, ?_⟩
      have : (TL.tl w).all lett = true := List.all_eq_true.mpr (chrs_all hall)
      unfold v_is_name
      rw [this, Bool.true_and]
      congr 1
      · exact decide_eq_decide.mpr (by omega)
      · exact decide_eq_decide.mpr (by omega))
  rw [e, hr]
-- needs is_name
theorem lett_chS {k : Int} (h : 0 ≤ k ∧ k < 26) : TL.tl (chS ("abcdefghijklmnopqrstuvwxyz" : Str) k) = [97 + k.toNat] := by
  have e : TL.tl ("abcdefghijklmnopqrstuvwxyz" : Str) = List.range' 97 26 := by decide +kernel
  show [(TL.tl ("abcdefghijklmnopqrstuvwxyz" : Str)).getD k.toNat 0] = _
  rw [e, List.getD_eq_getElem?_getD, List.getElem?_range' (by omega)]
  simp
structure NamesOk (many : Nat) (r : List Str) : Prop where
  len : r.length = many
  ok : ∀ z ∈ r, v_is_name z = true
  nd : r.Nodup
def P_law_names (_ many : Int) : Prop := 0 ≤ many ∧ many ≤ 20
theorem law_names_ex (cell many : Int) (h : P_law_names cell many) : ∃ r, f_law_names [.int cell, .int many] = .ok (eL D.str r) ∧ NamesOk many.toNat r := by
  obtain ⟨m0, m20⟩ := h
  refine s_law_names cell many (NamesOk many.toNat) ?_
  rintro some_ hs
  have sl : some_.length = 26 := by rw [hs]; decide +kernel
  rintro mixed hm front0 hf
  have c0 := Int.emod_nonneg cell (show (4 : Int) ≠ 0 by decide)
  have c1 := Int.emod_lt_of_pos cell (show (0 : Int) < 4 by decide)
  have d0 := Int.emod_nonneg (cell / 4) (show (5 : Int) ≠ 0 by decide)
  have d1 := Int.emod_lt_of_pos (cell / 4) (show (0 : Int) < 5 by decide)
  have r26 : ∀ x : Int, 0 ≤ x % 26 ∧ x % 26 < 26 := fun x => ⟨Int.emod_nonneg x (by decide), Int.emod_lt_of_pos x (by decide)⟩
  have let1 : ∀ x : Int, TL.tl (chS some_ (x % 26)) = [97 + (x % 26).toNat] := fun x => by rw [hs]; exact lett_chS (r26 x)
  have ll1 : ∀ x : Int, (chS some_ (x % 26)).length = 1 := fun x => by rw [tl_len, let1]; rfl
  have la : ∀ x : Int, ∀ c ∈ TL.tl (chS some_ (x % 26)), lett c = true := fun x c hc => by
    rw [let1] at hc
    have : c = 97 + (x % 26).toNat := by simpa using hc
    have := r26 x
    unfold lett
    rw [decide_eq_true (show 97 ≤ c by omega), decide_eq_true (show c ≤ 122 by omega)]; rfl
  refine ⟨by unfold RG; omega, fun k z => z.length = k ∧ ∀ c ∈ TL.tl z, lett c = true, ⟨by rw [hf]; decide +kernel, by rw [hf, show TL.tl ("" : Str) = [] by decide +kernel]; intro c hc; cases hc⟩, ?_, ?_⟩
  · rintro k z hk ⟨l, a⟩
    have q := r26 (mixed / (1 + 26 * (k : Int)))
    refine ⟨⟨DV_of (by omega) (by omega), ⟨⟨q.1, by omega⟩, by omega⟩, by rw [ll1]; omega⟩, ?_⟩
    rintro z2 rfl
    refine ⟨by rw [tl_len, tl_app, List.length_append, ← tl_len, ← tl_len, ll1, l], fun c hc => ?_⟩
    rw [tl_app] at hc
    rcases List.mem_append.mp hc with hc | hc
    · exact a c hc
    · exact la _ c hc
  · rintro front ⟨fl, fa⟩ b0 hb
    refine ⟨by unfold RG; omega, fun k z => z.length = k ∧ ∀ c ∈ TL.tl z, lett c = true, ⟨by rw [hb]; decide +kernel, by rw [hb, show TL.tl ("" : Str) = [] by decide +kernel]; intro c hc; cases hc⟩, ?_, ?_⟩
    · rintro k z hk ⟨l, a⟩
      have q := r26 (mixed / (3 + 31 * (k : Int)))
      refine ⟨⟨DV_of (by omega) (by omega), ⟨⟨q.1, by omega⟩, by omega⟩, by rw [ll1]; omega⟩, ?_⟩
      rintro z2 rfl
      refine ⟨by rw [tl_len, tl_app, List.length_append, ← tl_len, ← tl_len, ll1, l], fun c hc => ?_⟩
      rw [tl_app] at hc
      rcases List.mem_append.mp hc with hc | hc
      · exact a c hc
      · exact la _ c hc
    · rintro beyond ⟨bl, ba⟩
      have f1 : ∀ x : Int, (front ++ chS some_ (x % 26)).length = front.length + 1 := fun x => by rw [tl_len, tl_app, List.length_append, ← tl_len, ← tl_len, ll1]
      refine ⟨⟨by unfold RG; omega, by simp; omega, fun p hp => ?_⟩, ?_⟩
      · have q := r26 (cell / 20 + 7 * (p : Int))
        exact ⟨⟨⟨q.1, by omega⟩, by omega⟩, by rw [ll1]; omega, by rw [f1]; omega⟩
      · refine ⟨by simp, fun z hz => ?_, ?_⟩
        · obtain ⟨p, hp, rfl⟩ := List.mem_map.mp hz
          have lz : (front ++ chS some_ ((cell / 20 + 7 * (p : Int)) % 26) ++ beyond).length = front.length + 1 + beyond.length := by rw [tl_len, tl_app, List.length_append, ← tl_len, ← tl_len, f1]
          unfold v_is_name
          rw [lz, decide_eq_true (show 1 ≤ front.length + 1 + beyond.length by omega), decide_eq_true (show front.length + 1 + beyond.length ≤ 8 by omega), Bool.and_self, Bool.and_true, List.all_eq_true]
          intro c hc
          rw [tl_app, tl_app] at hc
          rcases List.mem_append.mp hc with hc | hc
          · rcases List.mem_append.mp hc with hc | hc
            · exact fa c hc
            · exact la _ c hc
          · exact ba c hc
        · refine List.Pairwise.map _ (R := fun a b : Nat => a < many.toNat ∧ b < many.toNat ∧ a ≠ b) (fun a b h z => ?_) ?_
          · have z := congrArg TL.tl z
            rw [tl_app, tl_app, tl_app, tl_app] at z
            have z := List.append_cancel_left (List.append_cancel_right z)
            rw [let1, let1] at z
            have z : 97 + ((cell / 20 + 7 * (a : Int)) % 26).toNat = 97 + ((cell / 20 + 7 * (b : Int)) % 26).toNat := by simpa using z
            have q1 := r26 (cell / 20 + 7 * (a : Int))
            have q2 := r26 (cell / 20 + 7 * (b : Int))
            omega
          · refine List.Pairwise.imp_of_mem (R := fun a b : Nat => a < b) (fun {a b} ha hb h => ?_) List.pairwise_lt_range
            have := List.mem_range.mp ha
            have := List.mem_range.mp hb
            exact ⟨by omega, by omega, by omega⟩
open Classical in
noncomputable def v_law_names (cell many : Int) : List Str := if h : P_law_names cell many then (law_names_ex cell many h).choose else []
theorem c_law_names (cell many : Int) (h : P_law_names cell many) : f_law_names [.int cell, .int many] = .ok (eL D.str (v_law_names cell many)) := by
  unfold v_law_names; rw [dif_pos h]; exact (law_names_ex cell many h).choose_spec.1
theorem law_names_ok {cell many : Int} (h : P_law_names cell many) : NamesOk many.toNat (v_law_names cell many) := by
  unfold v_law_names; rw [dif_pos h]; exact (law_names_ex cell many h).choose_spec.2
noncomputable def b_law_text_1 : DS := sWk (wipeE [3, 4]) (sSet 2 (eC (.str "")))
noncomputable def b_law_text_2b_1t_1 : DS := sWk (wipeE [4]) (sSet 2 (eBin dAdd (eVar 2) (eC (.str "; "))))
noncomputable def b_law_text_2b_1 : DS := sWk (wipeE [4]) (sIf (asB (eBin dGt (eVar 3) (eC (.int 0)))) b_law_text_2b_1t_1 sNil)
noncomputable def b_law_text_2b_2 : DS := sWk (wipeE [4]) (sSet 2 (eBin dAdd (eVar 2) (eIdx (eVar 0) (eVar 3))))
noncomputable def b_law_text_2b_3b_1 : DS := sWk (wipeE [4]) (sSet 2 (eBin dAdd (eBin dAdd (eVar 2) (eC (.str " "))) (eFn dStr (esCons (eVar 4) (esNil)))))
noncomputable def b_law_text_2b_3 : DS := sWk (wipeE [3, 4]) (sFor (iX (eIdx (eVar 1) (eVar 3))) (tgName 4) b_law_text_2b_3b_1)
noncomputable def b_law_text_2b : DS := sSeq b_law_text_2b_1 (sSeq b_law_text_2b_2 (b_law_text_2b_3))
noncomputable def b_law_text_2 : DS := sWk (wipeE [0, 1, 3, 4]) (sFor (iRange1 (eFn dLen (esCons (eVar 1) (esNil)))) (tgName 3) b_law_text_2b)
noncomputable def b_law_text_3 : DS := sRet (oVar 2)
noncomputable def b_law_text : DS := sSeq b_law_text_1 (sSeq b_law_text_2 (b_law_text_3))
noncomputable def f_law_text : List D → R D := fun ds => (fnSem 2 5 b_law_text ds).nox
def W_law_text (names : (List Str)) (fleet : (List Ship)) (Q : Str → Prop) : Prop :=
∀ text : Str, text = ("" : Str) →
(RG ((fleet).length : Int)) ∧
∃ I3 : Nat → Str → Prop, I3 0 text ∧
(∀ (k : Nat) (text2 : Str), k < (fleet).length → I3 k text2 →
((decide ((0 : Int) < (k : Int))) = true → (text2).length + (("; " : Str)).length ≤ 16777216) ∧
∀ text3 : Str, text3 = (if (decide ((0 : Int) < (k : Int))) then (text2 ++ ("; " : Str)) else text2) → 
((0 ≤ (k : Int) ∧ (k : Int) < ((names).length : Int)) ∧ ((text3).length + ((ix names (k : Int))).length ≤ 16777216)) ∧
∀ text4 : Str, text4 = (text3 ++ (ix names (k : Int))) →
(0 ≤ (k : Int) ∧ (k : Int) < ((fleet).length : Int)) ∧
∃ I15 : List Int → Str → Prop, I15 [] text4 ∧
(∀ (done16 : List Int) (number : Int) (rest17 : List Int) (text5 : Str), [(ix fleet (k : Int)).b, (ix fleet (k : Int)).e, (ix fleet (k : Int)).n, (ix fleet (k : Int)).m] = done16 ++ number :: rest17 → I15 done16 text5 →
(((text5).length + ((" " : Str)).length ≤ 16777216) ∧ ((number).natAbs.log2 < 1920) ∧ (((text5 ++ (" " : Str))).length + ((Str.ofString (toString number))).length ≤ 16777216)) ∧
∀ text6 : Str, text6 = ((text5 ++ (" " : Str)) ++ (Str.ofString (toString number))) →
I15 (done16 ++ [number]) text6) ∧
(∀ (text5 : Str), I15 ([(ix fleet (k : Int)).b, (ix fleet (k : Int)).e, (ix fleet (k : Int)).n, (ix fleet (k : Int)).m]) text5 →
I3 (k + 1) text5)) ∧
(∀ (text2 : Str), I3 (fleet).length text2 →
Q text2)
set_option maxHeartbeats 4000000 in
theorem s_law_text (names : (List Str)) (fleet : (List Ship)) (Q : Str → Prop) (h : W_law_text names fleet Q) : ∃ r, f_law_text [(eL D.str) names, (eL Ship.d) fleet] = .ok (D.str r) ∧ Q r := by
  unfold W_law_text at h
  obtain ⟨_, e, r, rfl, hq⟩ := fs_of (n := 2) (m := 5) (body := b_law_text) (ds := [(eL D.str) names, (eL Ship.d) fleet]) (ρ := [some ((eL D.str) names, false), some ((eL Ship.d) fleet, false), none, none, none]) (Q := fun d => ∃ r, d = D.str r ∧ Q r) (by rfl) (by simp only [List.map_cons, List.map_nil, Ship.d_imm, eP_imm, imm_bl, imm_int, imm_lst, imm_scr, imm_str]; rfl) (by
    show WS _ [some ((eL D.str) names, false), some ((eL Ship.d) fleet, false), none, none, none] _ _
    refine ws_seq (ws_wk (ws_set (ec := D.str) (v := ("" : Str)) (ρ' := fun text => [some ((eL D.str) names, false), some ((eL Ship.d) fleet, false), some (D.str text, true), none, none]) ev_c (by rfl) (fun _ => rfl) fun text e1 => ?_))
    replace h := h text e1
    show WS _ [some ((eL D.str) names, false), some ((eL Ship.d) fleet, false), some (D.str text, true), none, none] _ _
    have hc2 := And.left h
    replace h := And.right h
    refine Exists.elim h fun I3 h => ?_
    have h26 := And.left h
    have h27 := And.left (And.right h)
    have h28 := And.right (And.right h)
    refine ws_seq (ws_wk (ws_forR (σ := Str) (ec := (fun i : Nat => D.int (i : Int))) (n := (fleet).length) (st := fun z => [some ((eL D.str) names, false), some ((eL Ship.d) fleet, false), some (D.str z, true), none, none]) (bd := fun k z => [some ((eL D.str) names, false), some ((eL Ship.d) fleet, false), some (D.str z, true), some (D.int (k : Int), true), none]) (fun done4 z => I3 done4 z) text (it_rg1 hc2 (ev_fn (es_cons (ev_var (i := 1) (d := (eL Ship.d) fleet) rfl (imm_lst _)) es_nil) (fn_len (ec := Ship.d) (xs := fleet)))) (fun k z => (tg_name (i := 3) (by rfl) (imm_int _) rfl)) h26 ?_ ?_))
    · rintro k text2 he6 hi7
      have h := h27 k text2 he6 hi7
      show WS _ [some ((eL D.str) names, false), some ((eL Ship.d) fleet, false), some (D.str text2, true), some (D.int (k : Int), true), none] _ _
      have hc11 := And.left h
      replace h := And.right h
      refine ws_seq (WS.imp (Kn := fun ρ' => ∃ text3 : Str, ρ' = [some ((eL D.str) names, false), some ((eL Ship.d) fleet, false), some (D.str text3, true), some (D.int (k : Int), true), none] ∧ text3 = (if (decide ((0 : Int) < (k : Int))) then (text2 ++ ("; " : Str)) else text2)) (ws_wk (ws_if (b := (decide ((0 : Int) < (k : Int)))) (tv_x (ev_gt (ev_var (i := 3) (d := D.int (k : Int)) rfl (imm_int _)) ev_c)) (fun hb8 => ?_) (fun hb8 => ?_))) ?_)
      · refine ws_wk (ws_set (ec := D.str) (v := (text2 ++ ("; " : Str))) (ρ' := fun x10 => [some ((eL D.str) names, false), some ((eL Ship.d) fleet, false), some (D.str x10, true), some (D.int (k : Int), true), none]) (ev_addS (hc11 hb8) (ev_var (i := 2) (d := D.str text2) rfl (imm_str _)) ev_c) (by rfl) (fun _ => rfl) fun x10 he => ?_)
        have he := he.symm
        subst he
        exact ⟨(text2 ++ ("; " : Str)), rfl, pick_t hb8⟩
      · refine ws_nil ?_
        exact ⟨text2, rfl, pick_f hb8⟩
      rintro _ ⟨text3, rfl, e25⟩
      replace h := h text3 e25
      show WS _ [some ((eL D.str) names, false), some ((eL Ship.d) fleet, false), some (D.str text3, true), some (D.int (k : Int), true), none] _ _
      have hc12 := And.left h
      replace h := And.right h
      refine ws_seq (ws_wk (ws_set (ec := D.str) (v := (text3 ++ (ix names (k : Int)))) (ρ' := fun text4 => [some ((eL D.str) names, false), some ((eL Ship.d) fleet, false), some (D.str text4, true), some (D.int (k : Int), true), none]) (ev_addS hc12.2 (ev_var (i := 2) (d := D.str text3) rfl (imm_str _)) (ev_ix (ec := D.str) (xs := names) hc12.1 (ev_var (i := 0) (d := (eL D.str) names) rfl (imm_lst _)) (ev_var (i := 3) (d := D.int (k : Int)) rfl (imm_int _)) (imm_str _))) (by rfl) (fun _ => rfl) fun text4 e13 => ?_))
      replace h := h text4 e13
      show WS _ [some ((eL D.str) names, false), some ((eL Ship.d) fleet, false), some (D.str text4, true), some (D.int (k : Int), true), none] _ _
      have hc14 := And.left h
      replace h := And.right h
      refine Exists.elim h fun I15 h => ?_
      have h22 := And.left h
      have h23 := And.left (And.right h)
      have h24 := And.right (And.right h)
      refine ws_wk (ws_for (σ := Str) (ec := D.int) (l := [(ix fleet (k : Int)).b, (ix fleet (k : Int)).e, (ix fleet (k : Int)).n, (ix fleet (k : Int)).m]) (st := fun z => [some ((eL D.str) names, false), some ((eL Ship.d) fleet, false), some (D.str z, true), some (D.int (k : Int), true), none]) (bd := fun number z => [some ((eL D.str) names, false), some ((eL Ship.d) fleet, false), some (D.str z, true), some (D.int (k : Int), true), some (D.int number, true)]) (fun done16 z => I15 done16 z) text4 (it_xT (m := [(ix fleet (k : Int)).b, (ix fleet (k : Int)).e, (ix fleet (k : Int)).n, (ix fleet (k : Int)).m]) (ec := D.int) (ev_ix (ec := Ship.d) (xs := fleet) hc14 (ev_var (i := 1) (d := (eL Ship.d) fleet) rfl (imm_lst _)) (ev_var (i := 3) (d := D.int (k : Int)) rfl (imm_int _)) (Ship.d_imm _)) rfl rfl) (fun number z => (tg_name (i := 4) (by rfl) (imm_int _) rfl)) h22 ?_ ?_)
      · rintro done16 number rest17 text5 he18 hi19
        have h := h23 done16 number rest17 text5 he18 hi19
        show WS _ [some ((eL D.str) names, false), some ((eL Ship.d) fleet, false), some (D.str text5, true), some (D.int (k : Int), true), some (D.int number, true)] _ _
        have hc20 := And.left h
        replace h := And.right h
        refine ws_wk (ws_set (ec := D.str) (v := ((text5 ++ (" " : Str)) ++ (Str.ofString (toString number)))) (ρ' := fun text6 => [some ((eL D.str) names, false), some ((eL Ship.d) fleet, false), some (D.str text6, true), some (D.int (k : Int), true), some (D.int number, true)]) (ev_addS hc20.2.2 (ev_addS hc20.1 (ev_var (i := 2) (d := D.str text5) rfl (imm_str _)) ev_c) (ev_fn (es_cons (ev_var (i := 4) (d := D.int number) rfl (imm_int _)) es_nil) (fn_str hc20.2.1))) (by rfl) (fun _ => rfl) fun text6 e21 => ?_)
        replace h := h text6 e21
        exact ⟨text6, rfl, h⟩
      · rintro text5 hi19
        have h := h24 text5 hi19
        exact ⟨text5, rfl, h⟩
    · rintro text2 hi7
      have h := h28 text2 hi7
      show WS _ [none, none, some (D.str text2, true), none, none] _ _
      exact ws_ret (ov_varI (i := 2) (d := D.str text2) rfl (imm_str _)) ⟨text2, rfl, h⟩)
  exact ⟨r, e, hq⟩
noncomputable def b_shown_ship_1 : DS := sRet (oX (eTwo dJoin (eC (.str " ")) (eBin dAdd (eLst (esCons (eVar 0) (esNil))) (eComp [2] (iX (eVar 1)) (tgName 2) (yesT) (eFn dStr (esCons (eVar 2) (esNil)))))))
noncomputable def b_shown_ship : DS := b_shown_ship_1
noncomputable def f_shown_ship : List D → R D := fun ds => (fnSem 2 3 b_shown_ship ds).nox
def W_shown_ship (name : Str) (ship : Ship) (Q : Str → Prop) : Prop :=
((([ship.b, ship.e, ship.n, ship.m]).length ≤ 16777216) ∧ (∀ number2 : Int, number2 ∈ [ship.b, ship.e, ship.n, ship.m] → (number2).natAbs.log2 < 1920) ∧ ((([name] : (List Str))).length + ((([ship.b, ship.e, ship.n, ship.m]).map fun number2 : Int => (Str.ofString (toString number2)))).length ≤ 16777216) ∧ ((((([name] : (List Str)) ++ (([ship.b, ship.e, ship.n, ship.m]).map fun number2 : Int => (Str.ofString (toString number2))))).map (·.length)).sum + ((([name] : (List Str)) ++ (([ship.b, ship.e, ship.n, ship.m]).map fun number2 : Int => (Str.ofString (toString number2))))).length * ((" " : Str)).length ≤ 16777216)) ∧
Q (Txt.join (" " : Str) (([name] : (List Str)) ++ (([ship.b, ship.e, ship.n, ship.m]).map fun number2 : Int => (Str.ofString (toString number2)))))
set_option maxHeartbeats 4000000 in
theorem s_shown_ship (name : Str) (ship : Ship) (Q : Str → Prop) (h : W_shown_ship name ship Q) : ∃ r, f_shown_ship [D.str name, Ship.d ship] = .ok (D.str r) ∧ Q r := by
  unfold W_shown_ship at h
  obtain ⟨_, e, r, rfl, hq⟩ := fs_of (n := 2) (m := 3) (body := b_shown_ship) (ds := [D.str name, Ship.d ship]) (ρ := [some (D.str name, true), some (Ship.d ship, true), none]) (Q := fun d => ∃ r, d = D.str r ∧ Q r) (by rfl) (by simp only [List.map_cons, List.map_nil, Ship.d_imm, eP_imm, imm_bl, imm_int, imm_lst, imm_scr, imm_str]; rfl) (by
    show WS _ [some (D.str name, true), some (Ship.d ship, true), none] _ _
    have hc1 := And.left h
    replace h := And.right h
    exact ws_ret (ov_x (ev_join hc1.2.2.2 ev_c (ev_cat (ec := D.str) (fun _ => imm_str _) (ev_lst (ds := List.map D.str ([name] : (List Str))) (es_cons (ev_var (i := 0) (d := D.str name) rfl (imm_str _)) es_nil) rfl rfl rfl) (ev_comp (m := [ship.b, ship.e, ship.n, ship.m]) (ec := D.int) (ed := D.str) (G := fun number2 : Int => (Str.ofString (toString number2))) (bd := fun number2 : Int => [some (D.str name, false), some (Ship.d ship, false), some (D.int number2, true)]) (ρc := [some (D.str name, false), some (Ship.d ship, false), none]) (it_xT (m := [ship.b, ship.e, ship.n, ship.m]) (ec := D.int) (ev_var (i := 1) (d := Ship.d ship) rfl (Ship.d_imm _)) rfl rfl) hc1.1 rfl (fun number2 => (tg_name (i := 2) (by rfl) (imm_int _) rfl)) rfl (fun number2 ha2 => (ev_fn (es_cons (ev_var (i := 2) (d := D.int number2) rfl (imm_int _)) es_nil) (fn_str (hc1.2.1 number2 ha2))))) hc1.2.2.1))) ⟨(Txt.join (" " : Str) (([name] : (List Str)) ++ (([ship.b, ship.e, ship.n, ship.m]).map fun number2 : Int => (Str.ofString (toString number2))))), rfl, h⟩)
  exact ⟨r, e, hq⟩
def shipW (name : Str) (s : Ship) : List Str := [name] ++ [s.b, s.e, s.n, s.m].map fun i : Int => Str.ofString (toString i)
def v_shown_ship (name : Str) (s : Ship) : Str := Txt.join " " (shipW name s)
def numOk (i : Int) : Prop := i.natAbs < 10 ^ 31
def P_shown_ship (name : Str) (s : Ship) : Prop := name.length ≤ 8 ∧ numOk s.b ∧ numOk s.e ∧ numOk s.n ∧ numOk s.m
theorem nt_len {i : Int} (h : numOk i) : (nt i).length ≤ 32 := by
  have a := numL_short h
  have := (fig_nt i).1
  unfold fig at this
  split at this
  · have e : (nt i).length ≤ (nt i).tail.length + 1 := by rw [List.length_tail]; omega
    rw [this] at e; omega
  · rw [this]; omega
theorem num_log {i : Int} (h : numOk i) : i.natAbs.log2 < 1920 := by
  by_cases z : i.natAbs = 0
  · rw [z]; decide
  · have : i.natAbs.log2 < 104 := (Nat.log2_lt z).mpr (Nat.lt_of_lt_of_le h (by decide))
    omega
theorem str_len {i : Int} (h : numOk i) : (Str.ofString (toString i)).length ≤ 32 := by rw [tl_len, tl_nt]; exact nt_len h
theorem shipW_len {name : Str} {s : Ship} (h : P_shown_ship name s) : ((shipW name s).map (·.length)).sum + (shipW name s).length * (" " : Str).length ≤ 141 := by
  obtain ⟨h0, h1, h2, h3, h4⟩ := h
  have a1 := str_len h1
  have a2 := str_len h2
  have a3 := str_len h3
  have a4 := str_len h4
  have e1 : (" " : Str).length = 1 := by decide +kernel
  rw [e1]
  simp only [shipW, List.map_cons, List.map_nil, List.cons_append, List.nil_append, List.sum_cons, List.sum_nil, List.length_cons, List.length_nil]
  omega
theorem c_shown_ship (name : Str) (s : Ship) (h : P_shown_ship name s) : f_shown_ship [.str name, s.d] = .ok (.str (v_shown_ship name s)) := by
  have l := shipW_len h
  obtain ⟨r, e, hr⟩ := s_shown_ship name s (fun r => r = v_shown_ship name s) (by
    obtain ⟨h0, h1, h2, h3, h4⟩ := h
    refine ⟨⟨by simp, fun i hi => ?_, by simp, ?_⟩, rfl⟩
    · simp only [List.mem_cons, List.not_mem_nil, or_false] at hi
      rcases hi with q | q | q | q <;> rw [q] <;> apply num_log <;> assumption
    · have l : ((shipW name s).map (·.length)).sum + (shipW name s).length * (" " : Str).length ≤ 141 := l
      show ((shipW name s).map (·.length)).sum + (shipW name s).length * (" " : Str).length ≤ 16777216
      omega)
  rw [e, hr]
noncomputable def b_show_fleet_1 : DS := sRet (oX (eTwo dJoin (eC (.str "; ")) (eComp [2, 3] (iZip (eVar 0) (eVar 1)) (tgTup [2, 3]) (yesT) (eCall 2 f_shown_ship (esCons (eVar 2) (esCons (eVar 3) (esNil)))))))
noncomputable def b_show_fleet : DS := b_show_fleet_1
noncomputable def f_show_fleet : List D → R D := fun ds => (fnSem 2 4 b_show_fleet ds).nox
def W_show_fleet (names : (List Str)) (fleet : (List Ship)) (Q : Str → Prop) : Prop :=
(((List.zip names fleet).length ≤ 16777216) ∧ (∀ p : (Str × Ship), p ∈ List.zip names fleet → P_shown_ship p.1 p.2) ∧ (((((List.zip names fleet).map fun p : (Str × Ship) => (v_shown_ship p.1 p.2))).map (·.length)).sum + (((List.zip names fleet).map fun p : (Str × Ship) => (v_shown_ship p.1 p.2))).length * (("; " : Str)).length ≤ 16777216)) ∧
Q (Txt.join ("; " : Str) ((List.zip names fleet).map fun p : (Str × Ship) => (v_shown_ship p.1 p.2)))
set_option maxHeartbeats 4000000 in
theorem s_show_fleet (names : (List Str)) (fleet : (List Ship)) (Q : Str → Prop) (h : W_show_fleet names fleet Q) : ∃ r, f_show_fleet [(eL D.str) names, (eL Ship.d) fleet] = .ok (D.str r) ∧ Q r := by
  unfold W_show_fleet at h
  obtain ⟨_, e, r, rfl, hq⟩ := fs_of (n := 2) (m := 4) (body := b_show_fleet) (ds := [(eL D.str) names, (eL Ship.d) fleet]) (ρ := [some ((eL D.str) names, false), some ((eL Ship.d) fleet, false), none, none]) (Q := fun d => ∃ r, d = D.str r ∧ Q r) (by rfl) (by simp only [List.map_cons, List.map_nil, Ship.d_imm, eP_imm, imm_bl, imm_int, imm_lst, imm_scr, imm_str]; rfl) (by
    show WS _ [some ((eL D.str) names, false), some ((eL Ship.d) fleet, false), none, none] _ _
    have hc1 := And.left h
    replace h := And.right h
    exact ws_ret (ov_x (ev_join hc1.2.2 ev_c (ev_comp (m := List.zip names fleet) (ec := (eT2 D.str Ship.d)) (ed := D.str) (G := fun p : (Str × Ship) => (v_shown_ship p.1 p.2)) (bd := fun p : (Str × Ship) => [some ((eL D.str) names, false), some ((eL Ship.d) fleet, false), some (D.str p.1, true), some (Ship.d p.2, true)]) (ρc := [some ((eL D.str) names, false), some ((eL Ship.d) fleet, false), none, none]) (iv_zip (m := names) (ys := fleet) (ec := D.str) (ed := Ship.d) (ev_var (i := 0) (d := (eL D.str) names) rfl (imm_lst _)) (ev_var (i := 1) (d := (eL Ship.d) fleet) rfl (imm_lst _)) rfl) hc1.1 rfl (fun p => (tg_tup (is := [2, 3]) (ds := [D.str p.1, Ship.d p.2]) (by rfl) (put_cons (imm_str _) (put_cons (Ship.d_imm _) (put_nil _ _))))) rfl (fun p ha2 => (ev_call (es_cons (ev_var (i := 2) (d := D.str p.1) rfl (imm_str _)) (es_cons (ev_var (i := 3) (d := Ship.d p.2) rfl (Ship.d_imm _)) es_nil)) rfl (c_shown_ship p.1 p.2 (hc1.2.1 p ha2))))))) ⟨(Txt.join ("; " : Str) ((List.zip names fleet).map fun p : (Str × Ship) => (v_shown_ship p.1 p.2))), rfl, h⟩)
  exact ⟨r, e, hq⟩
theorem join_len (sep : Str) (ys : List Str) : (Txt.join sep ys).length ≤ (ys.map (·.length)).sum + ys.length * sep.length := by
  rw [TL.join_eq]; exact StrLaws.join_length_le sep ys
def shownL (names : List Str) (fl : List Ship) : List Str := (List.zip names fl).map fun p : Str × Ship => v_shown_ship p.1 p.2
def v_show_fleet (names : List Str) (fl : List Ship) : Str := Txt.join "; " (shownL names fl)
def P_show_fleet (names : List Str) (fl : List Ship) : Prop := fl.length ≤ 10000 ∧ ∀ p ∈ List.zip names fl, P_shown_ship p.1 p.2
theorem sum_le_mul {l : List Nat} {k : Nat} (h : ∀ x ∈ l, x ≤ k) : l.sum ≤ l.length * k := by
  induction l with
  | nil => simp
  | cons x r ih =>
    have a := ih fun y hy => h y (by simp [hy])
    have b := h x (by simp)
    rw [List.sum_cons, List.length_cons, Nat.add_mul]; omega
theorem shown_len {names : List Str} {fl : List Ship} (h : P_show_fleet names fl) : ((shownL names fl).map (·.length)).sum + (shownL names fl).length * ("; " : Str).length ≤ fl.length * 143 := by
  have e2 : ("; " : Str).length = 2 := by decide +kernel
  have ll : (shownL names fl).length ≤ fl.length := by
    unfold shownL
    rw [List.length_map, List.length_zip]; omega
  have a : ((shownL names fl).map (·.length)).sum ≤ ((shownL names fl).map (·.length)).length * 141 := sum_le_mul fun x hx => by
    obtain ⟨z, hz, rfl⟩ := List.mem_map.mp hx
    obtain ⟨p, hp, rfl⟩ := List.mem_map.mp hz
    have b := join_len " " (shipW p.1 p.2)
    have c := shipW_len (h.2 p hp)
    show (Txt.join " " (shipW p.1 p.2)).length ≤ 141
    omega
  rw [List.length_map] at a
  rw [e2]
  omega
theorem c_show_fleet (names : List Str) (fl : List Ship) (h : P_show_fleet names fl) : f_show_fleet [eL D.str names, eL Ship.d fl] = .ok (.str (v_show_fleet names fl)) := by
  have l := shown_len h
  obtain ⟨r, e, hr⟩ := s_show_fleet names fl (fun r => r = v_show_fleet names fl) (by
    obtain ⟨h1, h2⟩ := h
    refine ⟨⟨by rw [List.length_zip]; omega, h2, ?_⟩, rfl⟩
    have l : ((shownL names fl).map (·.length)).sum + (shownL names fl).length * ("; " : Str).length ≤ fl.length * 143 := l
    show ((shownL names fl).map (·.length)).sum + (shownL names fl).length * ("; " : Str).length ≤ 16777216
    omega)
  rw [e, hr]
-- needs show_fleet
theorem joinL_cons (y x : List Nat) : ∀ l : List (List Nat), TL.joinL y (x :: l) = x ++ (l.map fun z => y ++ z).flatten
  | [] => by simp [TL.joinL]
  | z :: r => by
    have e : TL.joinL y (x :: z :: r) = x ++ (y ++ TL.joinL y (z :: r)) := rfl
    rw [e, joinL_cons y z r, List.map_cons, List.flatten_cons, List.append_assoc]
theorem tl_Join (y : Str) (l : List Str) : TL.tl (Txt.join y l) = TL.joinL (TL.tl y) (l.map TL.tl) := by rw [TL.join_eq, TL.tl_join]
theorem tl_sp : TL.tl (" " : Str) = [32] := by decide +kernel
theorem tl_sc : TL.tl ("; " : Str) = [59, 32] := by decide +kernel
theorem tl_em : TL.tl ("" : Str) = [] := by decide +kernel
theorem tl_shown (name : Str) (s : Ship) : TL.tl (v_shown_ship name s) = TL.tl name ++ ([s.b, s.e, s.n, s.m].map fun i => 32 :: nt i).flatten := by
  unfold v_shown_ship shipW
  rw [tl_Join, tl_sp, List.singleton_append, List.map_cons, joinL_cons]
  simp only [List.map_map]
  congr 2
  refine List.map_congr_left fun i _ => ?_
  show [32] ++ TL.tl (Str.ofString (toString i)) = _
  rw [tl_nt]; rfl
theorem shownL_get {names : List Str} {fl : List Ship} (h : names.length = fl.length) {k : Nat} (hk : k < fl.length) : (shownL names fl)[k]? = some (v_shown_ship (names.getD k default) (fl.getD k default)) := by
  unfold shownL
  have h2 : k < names.length := by omega
  rw [List.getElem?_map, (List.getElem?_zip_eq_some (z := (names[k], fl[k]))).mpr ⟨List.getElem?_eq_getElem h2, List.getElem?_eq_getElem hk⟩]
  simp [List.getD_eq_getElem?_getD, h2, hk]
def v_law_text (names : List Str) (fl : List Ship) : Str := v_show_fleet names fl
def P_law_text (names : List Str) (fl : List Ship) : Prop := names.length = fl.length ∧ P_show_fleet names fl
theorem c_law_text (names : List Str) (fl : List Ship) (h : P_law_text names fl) : f_law_text [eL D.str names, eL Ship.d fl] = .ok (.str (v_law_text names fl)) := by
  obtain ⟨r, e, hr⟩ := s_law_text names fl (fun r => r = v_law_text names fl) (by
    obtain ⟨he, hl, hp⟩ := h
    have ll : (shownL names fl).length = fl.length := by unfold shownL; rw [List.length_map, List.length_zip]; omega
    let J : Nat → List Nat := fun k => TL.joinL [59, 32] (((shownL names fl).take k).map TL.tl)
    rintro t0 ht
    refine ⟨by simp; omega, fun k t => TL.tl t = J k ∧ t.length ≤ k * 150, ⟨by rw [ht, tl_em]; rfl, by rw [ht]; decide +kernel⟩, ?_, ?_⟩
    · rintro k t hk ⟨i1, i2⟩
      have hkn : k < names.length := by omega
      have pk := hp (names.getD k default, fl.getD k default) (by
        refine List.mem_iff_getElem?.mpr ⟨k, ?_⟩
        rw [List.getElem?_zip_eq_some]
        simp [List.getD_eq_getElem?_getD, hkn, hk])
      obtain ⟨p0, p1, p2, p3, p4⟩ := pk
      have p0 : (names.getD k default).length ≤ 8 := p0
      have l2 : ("; " : Str).length = 2 := by decide +kernel
      have l1 : (" " : Str).length = 1 := by decide +kernel
      refine ⟨fun _ => by omega, ?_⟩
      rintro t3 ht3
      have l3 : t3.length ≤ k * 150 + 2 := by
        rw [ht3]
        split
        · rw [tl_len, tl_app, List.length_append, ← tl_len, ← tl_len]; omega
        · omega
      have ixn : ix names (k : Int) = names.getD k default := rfl
      have ixf : ix fl (k : Int) = fl.getD k default := rfl
      rw [ixn]
      refine ⟨⟨⟨by omega, by omega⟩, by omega⟩, ?_⟩
      rintro t4 ht4
      have l4 : t4.length ≤ k * 150 + 10 := by rw [ht4, tl_len, tl_app, List.length_append, ← tl_len, ← tl_len]; omega
      rw [ixf]
      refine ⟨⟨by omega, by omega⟩, fun done t => TL.tl t = TL.tl t4 ++ (done.map fun i => 32 :: nt i).flatten ∧ t.length ≤ t4.length + done.length * 33, ⟨by simp, by simp⟩, ?_, ?_⟩
      · rintro done i rest t5 hd ⟨j1, j2⟩
        have dl : done.length + 1 ≤ 4 := by
          have := congrArg List.length hd
          simp at this; omega
        have ni : numOk i := by
          have : i ∈ [(fl.getD k default).b, (fl.getD k default).e, (fl.getD k default).n, (fl.getD k default).m] := by rw [hd]; simp
          simp only [List.mem_cons, List.not_mem_nil, or_false] at this
          rcases this with q | q | q | q <;> rw [q] <;> assumption
        have sl := str_len ni
        have l51 : (t5 ++ (" " : Str)).length = t5.length + 1 := by rw [tl_len, tl_app, List.length_append, ← tl_len, ← tl_len, l1]
        refine ⟨⟨by omega, num_log ni, by omega⟩, ?_⟩
        rintro t6 rfl
        refine ⟨?_, ?_⟩
        · rw [tl_app, tl_app, j1, tl_sp, tl_nt, List.map_append, List.flatten_append]
          simp
        · rw [tl_len, tl_app, List.length_append, ← tl_len, ← tl_len, l51, List.length_append, List.length_singleton]
          omega
      · rintro t5 ⟨j1, j2⟩
        have j3 : t5.length ≤ t4.length + 4 * 33 := j2
        refine ⟨?_, by show t5.length ≤ (k + 1) * 150; omega⟩
        have tk : (shownL names fl).take (k + 1) = (shownL names fl).take k ++ [v_shown_ship (names.getD k default) (fl.getD k default)] := by
          rw [List.take_add_one, shownL_get he hk]; rfl
        show _ = TL.joinL [59, 32] (((shownL names fl).take (k + 1)).map TL.tl)
        rw [tk, List.map_append, List.map_singleton, tl_shown, j1, ht4, tl_app, ht3]
        cases q : ((shownL names fl).take k).map TL.tl with
        | nil =>
          have : k = 0 := by
            have := congrArg List.length q
            rw [List.length_map, List.length_take, ll, List.length_nil] at this
            omega
          subst this
          rw [if_neg (by simp), i1]
          show TL.joinL [59, 32] (((shownL names fl).take 0).map TL.tl) ++ _ ++ _ = _
          simp [TL.joinL]
        | cons x r =>
          have : 0 < k := by
            by_cases z : k = 0
            · subst z; simp at q
            · omega
          rw [if_pos (by rw [decide_eq_true_eq]; omega), tl_app, i1, tl_sc]
          show TL.joinL [59, 32] (((shownL names fl).take k).map TL.tl) ++ _ ++ _ ++ _ = _
          rw [q, List.cons_append, joinL_cons, joinL_cons, List.map_append, List.flatten_append]
          simp
    · rintro t ⟨i1, _⟩
      refine tl_inj ?_
      rw [i1]
      show TL.joinL [59, 32] (((shownL names fl).take fl.length).map TL.tl) = TL.tl (Txt.join "; " (shownL names fl))
      rw [tl_Join, tl_sc, List.take_of_length_le (by omega)])
  rw [e, hr]
noncomputable def b_number_of_1 : DS := sWk (wipeE [2]) (sSet 1 (eVar 0))
noncomputable def b_number_of_2t_1 : DS := sWk (wipeE [2]) (sSet 1 (eSlice (eVar 0) (oSome (eC (.int 1))) (oNone)))
noncomputable def b_number_of_2 : DS := sWk (wipeE [2]) (sIf (asB (eBin dEq (eSlice (eVar 0) (oNone) (oSome (eC (.int 1)))) (eC (.str "-")))) b_number_of_2t_1 sNil)
noncomputable def b_number_of_3t_1 : DS := sRet (oX (eC .non))
noncomputable def b_number_of_3 : DS := sWk (wipeE [2]) (sIf (eOrT (asB (eBin dEq (eVar 1) (eC (.str "")))) (eOrT (asB (eBin dGt (eFn dLen (esCons (eVar 1) (esNil))) (eC (.int 31)))) (eAndT (asB (eBin dEq (eIdx (eVar 1) (eC (.int 0))) (eC (.str "0")))) (asB (eBin dNe (eVar 0) (eC (.str "0"))))))) b_number_of_3t_1 sNil)
noncomputable def b_number_of_4b_1t_1 : DS := sRet (oX (eC .non))
noncomputable def b_number_of_4b_1 : DS := sWk (wipeE [2]) (sIf (asB (eBin dNotIn (eVar 2) (eC (.str "0123456789")))) b_number_of_4b_1t_1 sNil)
noncomputable def b_number_of_4 : DS := sWk (wipeE [1, 2]) (sFor (iVar 1) (tgName 2) b_number_of_4b_1)
noncomputable def b_number_of_5 : DS := sRet (oX (eFn dIntT (esCons (eVar 0) (esNil))))
noncomputable def b_number_of : DS := sSeq b_number_of_1 (sSeq b_number_of_2 (sSeq b_number_of_3 (sSeq b_number_of_4 (b_number_of_5))))
noncomputable def f_number_of : List D → R D := fun ds => (fnSem 1 3 b_number_of ds).nox
def W_number_of (word : Str) (Q : (Option Int) → Prop) : Prop :=
∀ figures : Str, figures = word →
(((word).length ≤ 16777216) ∧ (okS (L2.cutS word none (some (1 : Int))) ∧ okS ("-" : Str))) ∧
((decide ((L2.cutS word none (some (1 : Int))) = ("-" : Str))) = true → (word).length ≤ 16777216) ∧
∀ figures2 : Str, figures2 = (if (decide ((L2.cutS word none (some (1 : Int))) = ("-" : Str))) then (L2.cutS word (some (1 : Int)) none) else figures) → 
((okS figures2 ∧ okS ("" : Str)) ∧ ((decide (figures2 = ("" : Str))) = false → ((figures2).length ≤ 16777216) ∧ ((decide ((31 : Int) < ((figures2).length : Int))) = false → ((0 ≤ (0 : Int) ∧ (0 : Int) < ((figures2).length : Int)) ∧ (figures2).length ≤ 16777216) ∧ (okS (chS figures2 (0 : Int)) ∧ okS ("0" : Str)) ∧ ((decide ((chS figures2 (0 : Int)) = ("0" : Str))) = true → okS word ∧ okS ("0" : Str))))) ∧
((((decide (figures2 = ("" : Str))) || ((decide ((31 : Int) < ((figures2).length : Int))) || ((decide ((chS figures2 (0 : Int)) = ("0" : Str))) && (!decide (word = ("0" : Str)))))) = true →
Q none) ∧
(((decide (figures2 = ("" : Str))) || ((decide ((31 : Int) < ((figures2).length : Int))) || ((decide ((chS figures2 (0 : Int)) = ("0" : Str))) && (!decide (word = ("0" : Str)))))) = false →
∃ I9 : List Str → Prop, I9 []  ∧
(∀ (done10 : List Str) (sign : Str) (rest11 : List Str), (chrs figures2) = done10 ++ sign :: rest11 → I9 done10  →
((sign).length = 1) ∧
(((!inZ sign ("0123456789" : Str)) = true →
Q none) ∧
((!inZ sign ("0123456789" : Str)) = false →
I9 (done10 ++ [sign]) ))) ∧
(I9 ((chrs figures2))  →
(PySem.intText? word = some ((PySem.intText? word).getD 0) ∧ (word).length ≤ 640) ∧
Q (some ((PySem.intText? word).getD 0)))))
set_option maxHeartbeats 4000000 in
theorem s_number_of (word : Str) (Q : (Option Int) → Prop) (h : W_number_of word Q) : ∃ r, f_number_of [D.str word] = .ok ((eO D.int) r) ∧ Q r := by
  unfold W_number_of at h
  obtain ⟨_, e, r, rfl, hq⟩ := fs_of (n := 1) (m := 3) (body := b_number_of) (ds := [D.str word]) (ρ := [some (D.str word, true), none, none]) (Q := fun d => ∃ r, d = (eO D.int) r ∧ Q r) (by rfl) (by simp only [List.map_cons, List.map_nil, Ship.d_imm, eP_imm, imm_bl, imm_int, imm_lst, imm_scr, imm_str]; rfl) (by
    show WS _ [some (D.str word, true), none, none] _ _
    refine ws_seq (ws_wk (ws_set (ec := D.str) (v := word) (ρ' := fun figures => [some (D.str word, true), some (D.str figures, true), none]) (ev_var (i := 0) (d := D.str word) rfl (imm_str _)) (by rfl) (fun _ => rfl) fun figures e1 => ?_))
    replace h := h figures e1
    show WS _ [some (D.str word, true), some (D.str figures, true), none] _ _
    have hc2 := And.left h
    replace h := And.right h
    have hc6 := And.left h
    replace h := And.right h
    refine ws_seq (WS.imp (Kn := fun ρ' => ∃ figures2 : Str, ρ' = [some (D.str word, true), some (D.str figures2, true), none] ∧ figures2 = (if (decide ((L2.cutS word none (some (1 : Int))) = ("-" : Str))) then (L2.cutS word (some (1 : Int)) none) else figures)) (ws_wk (ws_if (b := (decide ((L2.cutS word none (some (1 : Int))) = ("-" : Str)))) (tv_x (ev_eqZ hc2.2 (ev_sliceZ hc2.1 (ev_var (i := 0) (d := D.str word) rfl (imm_str _)) ox_non (ox_int ev_c)) ev_c)) (fun hb3 => ?_) (fun hb3 => ?_))) ?_)
    · refine ws_wk (ws_set (ec := D.str) (v := (L2.cutS word (some (1 : Int)) none)) (ρ' := fun x5 => [some (D.str word, true), some (D.str x5, true), none]) (ev_sliceZ (hc6 hb3) (ev_var (i := 0) (d := D.str word) rfl (imm_str _)) (ox_int ev_c) ox_non) (by rfl) (fun _ => rfl) fun x5 he => ?_)
      have he := he.symm
      subst he
      exact ⟨(L2.cutS word (some (1 : Int)) none), rfl, pick_t hb3⟩
    · refine ws_nil ?_
      exact ⟨figures, rfl, pick_f hb3⟩
    rintro _ ⟨figures2, rfl, e23⟩
    replace h := h figures2 e23
    show WS _ [some (D.str word, true), some (D.str figures2, true), none] _ _
    have hc7 := And.left h
    replace h := And.right h
    refine ws_seq (ws_wk (ws_if (b := ((decide (figures2 = ("" : Str))) || ((decide ((31 : Int) < ((figures2).length : Int))) || ((decide ((chS figures2 (0 : Int)) = ("0" : Str))) && (!decide (word = ("0" : Str))))))) (tv_or (tv_x (ev_eqZ hc7.1 (ev_var (i := 1) (d := D.str figures2) rfl (imm_str _)) ev_c)) (fun hb20 => (tv_or (tv_x (ev_gt (ev_fn (es_cons (ev_var (i := 1) (d := D.str figures2) rfl (imm_str _)) es_nil) (fn_lenT (hc7.2 hb20).1)) ev_c)) (fun hb21 => (tv_and (tv_x (ev_eqZ ((hc7.2 hb20).2 hb21).2.1 (ev_ixZ ((hc7.2 hb20).2 hb21).1 (ev_var (i := 1) (d := D.str figures2) rfl (imm_str _)) ev_c) ev_c)) (fun hb22 => (tv_x (ev_neZ (((hc7.2 hb20).2 hb21).2.2 hb22) (ev_var (i := 0) (d := D.str word) rfl (imm_str _)) ev_c)))))))) (fun hb8 => ?_) (fun hb8 => ?_)))
    · replace h := h.1 hb8
      show WS _ [some (D.str word, true), some (D.str figures2, true), none] _ _
      exact ws_ret (ov_x ev_c) ⟨none, rfl, h⟩
    · replace h := h.2 hb8
      refine ws_nil ?_
      show WS _ [some (D.str word, true), some (D.str figures2, true), none] _ _
      refine Exists.elim h fun I9 h => ?_
      have h17 := And.left h
      have h18 := And.left (And.right h)
      have h19 := And.right (And.right h)
      refine ws_seq (ws_wk (ws_for (σ := Unit) (ec := D.str) (l := (chrs figures2)) (st := fun z => [some (D.str word, true), some (D.str figures2, true), none]) (bd := fun sign z => [some (D.str word, true), some (D.str figures2, true), some (D.str sign, true)]) (fun done10 z => I9 done10 ) () (it_varZ (i := 1) rfl) (fun sign z => (tg_name (i := 2) (by rfl) (imm_str _) rfl)) h17 ?_ ?_))
      · rintro done10 sign rest11 _ he12 hi13
        have h := h18 done10 sign rest11  he12 hi13
        show WS _ [some (D.str word, true), some (D.str figures2, true), some (D.str sign, true)] _ _
        have hc14 := And.left h
        replace h := And.right h
        refine ws_wk (ws_if (b := (!inZ sign ("0123456789" : Str))) (tv_x (ev_notinZ hc14 (ev_var (i := 2) (d := D.str sign) rfl (imm_str _)) ev_c)) (fun hb15 => ?_) (fun hb15 => ?_))
        · replace h := h.1 hb15
          show WS _ [some (D.str word, true), some (D.str figures2, true), some (D.str sign, true)] _ _
          exact ws_ret (ov_x ev_c) ⟨none, rfl, h⟩
        · replace h := h.2 hb15
          refine ws_nil ?_
          exact ⟨(), rfl, h⟩
      · rintro _ hi13
        have h := h19 hi13
        show WS _ [some (D.str word, true), none, none] _ _
        have hc16 := And.left h
        replace h := And.right h
        exact ws_ret (ov_x (ev_fn (es_cons (ev_var (i := 0) (d := D.str word) rfl (imm_str _)) es_nil) (fn_intT hc16))) ⟨(some ((PySem.intText? word).getD 0)), rfl, h⟩)
  exact ⟨r, e, hq⟩
theorem inZ_dig (c : Nat) : inZ ⟨#[c]⟩ ("0123456789" : Str) = decide (48 ≤ c ∧ c ≤ 57) := by
  have e : TL.tl ("0123456789" : Str) = List.range' 48 10 := by decide +kernel
  show decide (c ∈ TL.tl ("0123456789" : Str)) = _
  rw [e]
  refine decide_eq_decide.mpr ⟨fun z => ?_, fun z => List.mem_range'_1.mpr (by omega)⟩
  have := List.mem_range'_1.mp z; omega
noncomputable def v_number_of (w : Str) : Option Int := nword (TL.tl w)
def P_number_of (w : Str) : Prop := okS w ∧ w.length ≤ 16777216
theorem okS_iff (w : Str) : okS w ↔ ∀ c ∈ TL.tl w, c < 1114112 := by
  show (w.cps.all (· < 0x110000)) = true ↔ _
  rw [← Array.all_toList, List.all_eq_true]
  simp [TL.tl]
theorem okS_const {a : Str} (h : (PyData.strOk a) = true := by decide +kernel) : okS a := h
theorem c_number_of (w : Str) (h : P_number_of w) : f_number_of [.str w] = .ok (eO D.int (v_number_of w)) := by
  obtain ⟨r, e, hr⟩ := s_number_of w (fun r => r = v_number_of w) (by
    obtain ⟨ho, hl⟩ := h
    have ho' := (okS_iff w).mp ho
    rintro f0 rfl
    have o1 : okS (L2.cutS f0 none (some 1)) := (okS_iff _).mpr fun c hc => by
      rw [tl_cut1] at hc
      exact ho' c (List.mem_of_mem_take hc)
    refine ⟨⟨hl, o1, okS_const⟩, fun _ => hl, ?_⟩
    rintro f2 hf2
    have e2 : TL.tl f2 = fig (TL.tl f0) := by
      have eq : (L2.cutS f0 none (some 1) = ("-" : Str)) ↔ (TL.tl f0).head? = some 45 := by
        have e45 : TL.tl ("-" : Str) = [45] := by decide +kernel
        constructor
        · intro z
          have := congrArg TL.tl z
          rw [tl_cut1, e45] at this
          cases q : TL.tl f0 with
          | nil => rw [q] at this; cases this
          | cons x r => rw [q] at this; cases this; rfl
        · intro z
          refine tl_inj ?_
          rw [tl_cut1, e45]
          cases q : TL.tl f0 with
          | nil => rw [q] at z; cases z
          | cons x r => rw [q] at z; cases z; rfl
      rw [hf2]
      unfold fig
      by_cases c : (TL.tl f0).head? = some 45
      · rw [if_pos (decide_eq_true (eq.mpr c)), if_pos c, tl_cut2]
      · rw [if_neg (by rw [decide_eq_true_eq]; exact fun z => c (eq.mp z)), if_neg c]
    have sub : ∀ c ∈ TL.tl f2, c ∈ TL.tl f0 := fun c hc => by
      rw [e2] at hc
      unfold fig at hc
      split at hc
      · exact List.mem_of_mem_tail hc
      · exact hc
    have o2 : okS f2 := (okS_iff _).mpr fun c hc => ho' c (sub c hc)
    have l2 : f2.length ≤ f0.length := by
      rw [tl_len, tl_len, e2]
      unfold fig
      split
      · rw [List.length_tail]; omega
      · exact Nat.le_refl _
    have emp : (f2 = ("" : Str)) ↔ fig (TL.tl f0) = [] := by
      have e0 : TL.tl ("" : Str) = [] := by decide +kernel
      rw [← e2]
      exact ⟨fun z => by rw [z]; exact e0, fun z => tl_inj (by rw [z, e0])⟩
    have hd0 : f2 ≠ ("" : Str) → ((chS f2 0 = ("0" : Str)) ↔ (fig (TL.tl f0)).head? = some 48) := fun ne => by
      have e48 : TL.tl ("0" : Str) = [48] := by decide +kernel
      rw [← e2]
      have e1 : TL.tl (chS f2 0) = [(TL.tl f2).getD 0 0] := rfl
      cases q : TL.tl f2 with
      | nil => exact absurd (emp.mpr (by rw [← e2]; exact q)) ne
      | cons x r =>
        rw [q] at e1
        constructor
        · intro z
          have := congrArg TL.tl z
          rw [e1, e48] at this
          cases this; rfl
        · intro z
          refine tl_inj ?_
          rw [e1, e48]
          cases z; rfl
    have w0 : (f0 = ("0" : Str)) ↔ TL.tl f0 = [48] := by
      have e48 : TL.tl ("0" : Str) = [48] := by decide +kernel
      exact ⟨fun z => by rw [z]; exact e48, fun z => tl_inj (by rw [z, e48])⟩
    have lf : f2.length = (fig (TL.tl f0)).length := by rw [tl_len, e2]
    have oc : okS (chS f2 0) := (okS_iff _).mpr fun c hc => by
      have hc : c ∈ [(TL.tl f2).getD 0 0] := hc
      have : c = (TL.tl f2).getD 0 0 := by simpa using hc
      rw [this]
      cases q : TL.tl f2 with
      | nil => show 0 < 1114112; omega
      | cons x r => exact ho' x (sub x (by rw [q]; simp))
    have bad : ((((decide (f2 = ("" : Str))) || ((decide ((31 : Int) < ((f2).length : Int))) || ((decide ((chS f2 (0 : Int)) = ("0" : Str))) && (!decide (f0 = ("0" : Str)))))) = true)) ↔ (fig (TL.tl f0) = [] ∨ 31 < (fig (TL.tl f0)).length ∨ ((fig (TL.tl f0)).head? = some 48 ∧ TL.tl f0 ≠ [48])) := by
      by_cases c0 : f2 = ("" : Str)
      · rw [decide_eq_true c0, Bool.true_or]
        exact ⟨fun _ => .inl (emp.mp c0), fun _ => rfl⟩
      · rw [decide_eq_false c0, Bool.false_or, Bool.or_eq_true, decide_eq_true_eq, Bool.and_eq_true, decide_eq_true_eq, hd0 c0, Bool.not_eq_true', decide_eq_false_iff_not, w0, lf]
        constructor
        · rintro (z | z)
          · exact .inr (.inl (by omega))
          · exact .inr (.inr z)
        · rintro (z | z | z)
          · exact absurd (emp.mpr z) c0
          · exact .inl (by omega)
          · exact .inr z
    refine ⟨⟨⟨o2, okS_const⟩, fun hb => ⟨by omega, fun hb2 => ⟨⟨⟨by omega, ?_⟩, by omega⟩, ⟨oc, okS_const⟩, fun _ => ⟨ho, okS_const⟩⟩⟩⟩, fun hb => ?_, fun hb => ?_⟩
    · have ne : f2 ≠ ("" : Str) := of_decide_eq_false hb
      have : fig (TL.tl f0) ≠ [] := fun z => ne (emp.mpr z)
      have := List.length_pos_iff.mpr this
      omega
    · show none = nword _
      unfold nword
      rw [if_pos (bad.mp hb)]
    · have nb : ¬ _ := fun z => by rw [bad.mpr z] at hb; cases hb
      refine ⟨fun done => ∀ s ∈ done, ∃ c, s = ⟨#[c]⟩ ∧ decide (48 ≤ c ∧ c ≤ 57) = true, (by intro s hs; cases hs), ?_, ?_⟩
      · rintro done s rest he hd
        obtain ⟨c, hc, rfl⟩ := chrs_mem he
        refine ⟨rfl, fun hb => ?_, fun hb => ?_⟩
        · rw [inZ_dig] at hb
          show none = nword _
          unfold nword
          rw [if_neg nb, if_neg]
          intro z
          have := z c (by rw [← e2]; exact hc)
          rw [decide_eq_true this] at hb; cases hb
        · rw [inZ_dig] at hb
          intro s hs
          rcases List.mem_append.mp hs with q | q
          · exact hd s q
          · have : s = ⟨#[c]⟩ := by simpa using q
            exact ⟨c, this, by simpa using hb⟩
      · intro hall
        have dg : ∀ c ∈ fig (TL.tl f0), 48 ≤ c ∧ c ≤ 57 := fun c hc => of_decide_eq_true (chrs_all hall c (by rw [e2]; exact hc))
        have ne : fig (TL.tl f0) ≠ [] := fun z => nb (.inl z)
        have sh : (fig (TL.tl f0)).length ≤ 31 := by
          by_cases c : (fig (TL.tl f0)).length ≤ 31
          · exact c
          · exact absurd (.inr (.inl (by omega))) nb
        have w32 : f0.length ≤ 32 := by
          rw [tl_len]
          have : (TL.tl f0).length ≤ (fig (TL.tl f0)).length + 1 := by
            unfold fig
            split
            · rw [List.length_tail]; omega
            · omega
          omega
        have it : PySem.intText? f0 = nword (TL.tl f0) := by
          unfold nword
          rw [if_neg nb, if_pos dg]
          by_cases c : (TL.tl f0).head? = some 45
          · rw [if_pos c]
            have e45 : f0.cps.toList = 45 :: fig (TL.tl f0) := by
              show TL.tl f0 = _
              unfold fig
              rw [if_pos c]
              cases q : TL.tl f0 with
              | nil => rw [q] at c; cases c
              | cons x r => rw [q] at c; cases c; rfl
            exact PySem.intText_neg e45 dg ne (by omega)
          · rw [if_neg c]
            have e45 : f0.cps.toList = fig (TL.tl f0) := by
              show TL.tl f0 = _
              unfold fig
              rw [if_neg c]
            have := PySem.intText_digits (x := f0) (by rw [e45]; exact dg) (by rw [e45]; exact ne) (by omega)
            rw [this, e45]
        have some_ : nword (TL.tl f0) = some ((nword (TL.tl f0)).getD 0) := by
          unfold nword
          rw [if_neg nb, if_pos dg]; rfl
        refine ⟨⟨by rw [it]; exact some_, by omega⟩, ?_⟩
        rw [it]
        exact some_.symm)
  rw [e, hr]
noncomputable def b_four_of_1 : DS := sWk (wipeE [0, 2, 3, 4, 5, 6]) (sSet 1 (eComp [6] (iX (eVar 0)) (tgName 6) (yesT) (eCall 1 f_number_of (esCons (eVar 6) (esNil)))))
noncomputable def b_four_of_2t_1 : DS := sRet (oX (eC .non))
noncomputable def b_four_of_2 : DS := sWk (wipeE [0, 2, 3, 4, 5, 6]) (sIf (eOrT (asB (eBin dNe (eFn dLen (esCons (eVar 1) (esNil))) (eC (.int 4)))) (asB (eBin dIn (eC .non) (eVar 1)))) b_four_of_2t_1 sNil)
noncomputable def b_four_of_3 : DS := sWk (wipeE [0, 1, 6]) (sUnpL [2, 3, 4, 5] (eVar 1))
noncomputable def b_four_of_4t_1 : DS := sRet (oX (eC .non))
noncomputable def b_four_of_4 : DS := sWk (wipeE [0, 1, 6]) (sIf (eOrT (eNotT (asB (eChain dLe dLe (eBin dSub (eC (.int 0)) (eC (.int 1000000000000000))) (eVar 2) (eC (.int 1000000000000000))))) (eOrT (eNotT (asB (eChain dLe dLe (eBin dSub (eC (.int 0)) (eC (.int 1000000000000000))) (eVar 3) (eC (.int 1000000000000000))))) (eNotT (asB (eChain dLe dLe (eC (.int 0)) (eVar 5) (eC (.int 1000000000000000))))))) b_four_of_4t_1 sNil)
noncomputable def b_four_of_5 : DS := sRet (oTup (osCons (oVar 2) (osCons (oVar 3) (osCons (oVar 4) (osCons (oVar 5) (osNil))))))
noncomputable def b_four_of : DS := sSeq b_four_of_1 (sSeq b_four_of_2 (sSeq b_four_of_3 (sSeq b_four_of_4 (b_four_of_5))))
noncomputable def f_four_of : List D → R D := fun ds => (fnSem 1 7 b_four_of ds).nox
def W_four_of (words : (List Str)) (Q : (Option Ship) → Prop) : Prop :=
(((words).length ≤ 16777216) ∧ (∀ word : Str, word ∈ words → P_number_of word)) ∧
∀ found : (List (Option Int)), found = ((words).map fun word : Str => (v_number_of word)) →
((((!decide (((found).length : Int) = (4 : Int))) || ((found).any Option.isNone)) = true →
Q none) ∧
(((!decide (((found).length : Int) = (4 : Int))) || ((found).any Option.isNone)) = false →
((found).length = 4) ∧
∀ begin end_ need most : (Option Int), found = [begin, end_, need, most] →
((begin.isSome = true) ∧ ((!(decide (((0 : Int) - (1000000000000000 : Int)) ≤ (ogt begin)) && decide ((ogt begin) ≤ (1000000000000000 : Int)))) = false → (end_.isSome = true) ∧ ((!(decide (((0 : Int) - (1000000000000000 : Int)) ≤ (ogt end_)) && decide ((ogt end_) ≤ (1000000000000000 : Int)))) = false → most.isSome = true))) ∧
((((!(decide (((0 : Int) - (1000000000000000 : Int)) ≤ (ogt begin)) && decide ((ogt begin) ≤ (1000000000000000 : Int)))) || ((!(decide (((0 : Int) - (1000000000000000 : Int)) ≤ (ogt end_)) && decide ((ogt end_) ≤ (1000000000000000 : Int)))) || (!(decide ((0 : Int) ≤ (ogt most)) && decide ((ogt most) ≤ (1000000000000000 : Int)))))) = true →
Q none) ∧
(((!(decide (((0 : Int) - (1000000000000000 : Int)) ≤ (ogt begin)) && decide ((ogt begin) ≤ (1000000000000000 : Int)))) || ((!(decide (((0 : Int) - (1000000000000000 : Int)) ≤ (ogt end_)) && decide ((ogt end_) ≤ (1000000000000000 : Int)))) || (!(decide ((0 : Int) ≤ (ogt most)) && decide ((ogt most) ≤ (1000000000000000 : Int)))))) = false →
((begin.isSome = true) ∧ (end_.isSome = true) ∧ (need.isSome = true) ∧ (most.isSome = true)) ∧
Q (some (⟨(ogt begin), (ogt end_), (ogt need), (ogt most)⟩ : Ship))))))
set_option maxHeartbeats 4000000 in
theorem s_four_of (words : (List Str)) (Q : (Option Ship) → Prop) (h : W_four_of words Q) : ∃ r, f_four_of [(eL D.str) words] = .ok ((eO Ship.d) r) ∧ Q r := by
  unfold W_four_of at h
  obtain ⟨_, e, r, rfl, hq⟩ := fs_of (n := 1) (m := 7) (body := b_four_of) (ds := [(eL D.str) words]) (ρ := [some ((eL D.str) words, false), none, none, none, none, none, none]) (Q := fun d => ∃ r, d = (eO Ship.d) r ∧ Q r) (by rfl) (by simp only [List.map_cons, List.map_nil, Ship.d_imm, eP_imm, imm_bl, imm_int, imm_lst, imm_scr, imm_str]; rfl) (by
    show WS _ [some ((eL D.str) words, false), none, none, none, none, none, none] _ _
    have hc1 := And.left h
    replace h := And.right h
    refine ws_seq (ws_wk (ws_set (ec := (eL (eO D.int))) (v := ((words).map fun word : Str => (v_number_of word))) (ρ' := fun found => [some ((eL D.str) words, false), some ((eL (eO D.int)) found, true), none, none, none, none, none]) (ev_comp (m := words) (ec := D.str) (ed := (eO D.int)) (G := fun word : Str => (v_number_of word)) (bd := fun word : Str => [some ((eL D.str) words, false), none, none, none, none, none, some (D.str word, true)]) (ρc := [some ((eL D.str) words, false), none, none, none, none, none, none]) (it_x (m := words) (ec := D.str) (ev_var (i := 0) (d := (eL D.str) words) rfl (imm_lst _)) rfl) hc1.1 rfl (fun word => (tg_name (i := 6) (by rfl) (imm_str _) rfl)) rfl (fun word ha12 => (ev_call (es_cons (ev_var (i := 6) (d := D.str word) rfl (imm_str _)) es_nil) rfl (c_number_of word (hc1.2 word ha12))))) (by rfl) (fun _ => rfl) fun found e2 => ?_))
    replace h := h found e2
    show WS _ [none, some ((eL (eO D.int)) found, true), none, none, none, none, none] _ _
    refine ws_seq (ws_wk (ws_if (b := ((!decide (((found).length : Int) = (4 : Int))) || ((found).any Option.isNone))) (tv_or (tv_x (ev_ne (ec := D.int) (x := ((found).length : Int)) (y := (4 : Int)) eqv_int (by decide) (ev_fn (es_cons (ev_var (i := 1) (d := (eL (eO D.int)) found) rfl (imm_lst _)) es_nil) (fn_len (ec := (eO D.int)) (xs := found))) ev_c)) (fun hb11 => (tv_x (ev_inNO (ev_var (i := 1) (d := (eL (eO D.int)) found) rfl (imm_lst _)))))) (fun hb3 => ?_) (fun hb3 => ?_)))
    · replace h := h.1 hb3
      show WS _ [none, some ((eL (eO D.int)) found, true), none, none, none, none, none] _ _
      exact ws_ret (ov_x ev_c) ⟨none, rfl, h⟩
    · replace h := h.2 hb3
      refine ws_nil ?_
      show WS _ [none, some ((eL (eO D.int)) found, true), none, none, none, none, none] _ _
      have hc4 := And.left h
      replace h := And.right h
      obtain ⟨begin, end_, need, most, e5⟩ := len4 hc4
      replace h := h begin end_ need most e5
      refine ws_seq (ws_wk (ws_unpL (ds := [(eO D.int) begin, (eO D.int) end_, (eO D.int) need, (eO D.int) most]) (by rw [show D.lst [(eO D.int) begin, (eO D.int) end_, (eO D.int) need, (eO D.int) most] = (eL (eO D.int)) (found) from by rw [e5]; rfl]; exact (ev_var (i := 1) (d := (eL (eO D.int)) found) rfl (imm_lst _))) (by simp) (by rfl) ?_))
      show WS _ [none, none, some ((eO D.int) begin, true), some ((eO D.int) end_, true), some ((eO D.int) need, true), some ((eO D.int) most, true), none] _ _
      have hc6 := And.left h
      replace h := And.right h
      refine ws_seq (ws_wk (ws_if (b := ((!(decide (((0 : Int) - (1000000000000000 : Int)) ≤ (ogt begin)) && decide ((ogt begin) ≤ (1000000000000000 : Int)))) || ((!(decide (((0 : Int) - (1000000000000000 : Int)) ≤ (ogt end_)) && decide ((ogt end_) ≤ (1000000000000000 : Int)))) || (!(decide ((0 : Int) ≤ (ogt most)) && decide ((ogt most) ≤ (1000000000000000 : Int))))))) (tv_or (tv_not (tv_x (ev_chain (ev_sub ev_c ev_c) (ev_ogt (x := begin) hc6.1 (ev_var (i := 2) (d := (eO D.int) begin) rfl (imm_O (fun _ => imm_int _) _))) ev_c rfl rfl))) (fun hb9 => (tv_or (tv_not (tv_x (ev_chain (ev_sub ev_c ev_c) (ev_ogt (x := end_) (hc6.2 hb9).1 (ev_var (i := 3) (d := (eO D.int) end_) rfl (imm_O (fun _ => imm_int _) _))) ev_c rfl rfl))) (fun hb10 => (tv_not (tv_x (ev_chain ev_c (ev_ogt (x := most) ((hc6.2 hb9).2 hb10) (ev_var (i := 5) (d := (eO D.int) most) rfl (imm_O (fun _ => imm_int _) _))) ev_c rfl rfl))))))) (fun hb7 => ?_) (fun hb7 => ?_)))
      · replace h := h.1 hb7
        show WS _ [none, none, some ((eO D.int) begin, true), some ((eO D.int) end_, true), some ((eO D.int) need, true), some ((eO D.int) most, true), none] _ _
        exact ws_ret (ov_x ev_c) ⟨none, rfl, h⟩
      · replace h := h.2 hb7
        refine ws_nil ?_
        show WS _ [none, none, some ((eO D.int) begin, true), some ((eO D.int) end_, true), some ((eO D.int) need, true), some ((eO D.int) most, true), none] _ _
        have hc8 := And.left h
        replace h := And.right h
        exact ws_ret (ov_tup (ds := [D.int (ogt begin), D.int (ogt end_), D.int (ogt need), D.int (ogt most)]) (os_cons (ov_ogt (ec := D.int) (x := begin) hc8.1 (ov_varI (i := 2) (d := (eO D.int) begin) rfl (imm_O (fun _ => imm_int _) _))) (os_cons (ov_ogt (ec := D.int) (x := end_) hc8.2.1 (ov_varI (i := 3) (d := (eO D.int) end_) rfl (imm_O (fun _ => imm_int _) _))) (os_cons (ov_ogt (ec := D.int) (x := need) hc8.2.2.1 (ov_varI (i := 4) (d := (eO D.int) need) rfl (imm_O (fun _ => imm_int _) _))) (os_cons (ov_ogt (ec := D.int) (x := most) hc8.2.2.2 (ov_varI (i := 5) (d := (eO D.int) most) rfl (imm_O (fun _ => imm_int _) _))) os_nil)))) rfl) ⟨(some (⟨(ogt begin), (ogt end_), (ogt need), (ogt most)⟩ : Ship)), rfl, h⟩)
  exact ⟨r, e, hq⟩
def farB (b e m : Int) : Bool := (decide (-1000000000000000 ≤ b) && decide (b ≤ 1000000000000000)) && ((decide (-1000000000000000 ≤ e) && decide (e ≤ 1000000000000000)) && (decide (0 ≤ m) && decide (m ≤ 1000000000000000)))
def four4 : List (Option Int) → Option Ship
  | [some b, some e, some n, some m] => if farB b e m then some ⟨b, e, n, m⟩ else none
  | _ => none
noncomputable def v_four_of (ws : List Str) : Option Ship := four4 (ws.map v_number_of)
def P_four_of (ws : List Str) : Prop := ws.length ≤ 16777216 ∧ ∀ w ∈ ws, P_number_of w
theorem c_four_of (ws : List Str) (h : P_four_of ws) : f_four_of [eL D.str ws] = .ok (eO Ship.d (v_four_of ws)) := by
  obtain ⟨r, e, hr⟩ := s_four_of ws (fun r => r = v_four_of ws) (by
    obtain ⟨hl, hp⟩ := h
    refine ⟨⟨hl, hp⟩, ?_⟩
    rintro found hf
    have ev : v_four_of ws = four4 found := by rw [hf]; rfl
    clear hf
    refine ⟨fun hb => ?_, fun hb => ?_⟩
    · rw [ev]
      unfold four4
      split
      · simp at hb
      · rfl
    · rw [Bool.or_eq_false_iff, Bool.not_eq_false', decide_eq_true_eq] at hb
      refine ⟨by omega, ?_⟩
      rintro b e n m hbe
      have all := hb.2
      rw [hbe] at all
      simp only [List.any_cons, List.any_nil, Bool.or_false, Bool.or_eq_false_iff] at all
      cases b with
      | none => simp at all
      | some b =>
      cases e with
      | none => simp at all
      | some e =>
      cases n with
      | none => simp at all
      | some n =>
      cases m with
      | none => simp at all
      | some m =>
      refine ⟨⟨rfl, fun _ => ⟨rfl, fun _ => rfl⟩⟩, fun hb => ?_, fun hb => ⟨⟨rfl, rfl, rfl, rfl⟩, ?_⟩⟩
      · have : farB b e m = false := by
          rw [Bool.or_eq_true, Bool.or_eq_true, Bool.not_eq_true', Bool.not_eq_true', Bool.not_eq_true'] at hb
          unfold farB
          rcases hb with h | h | h
          · have h : (decide (-1000000000000000 ≤ b) && decide (b ≤ 1000000000000000)) = false := h
            rw [h, Bool.false_and]
          · have h : (decide (-1000000000000000 ≤ e) && decide (e ≤ 1000000000000000)) = false := h
            rw [h, Bool.false_and, Bool.and_false]
          · have h : (decide (0 ≤ m) && decide (m ≤ 1000000000000000)) = false := h
            rw [h, Bool.and_false, Bool.and_false]
        rw [ev, hbe]
        show none = if farB b e m then _ else none
        rw [this]; rfl
      · have : farB b e m = true := by
          rw [Bool.or_eq_false_iff, Bool.or_eq_false_iff, Bool.not_eq_false', Bool.not_eq_false', Bool.not_eq_false'] at hb
          obtain ⟨h1, h2, h3⟩ := hb
          have h1 : (decide (-1000000000000000 ≤ b) && decide (b ≤ 1000000000000000)) = true := h1
          have h2 : (decide (-1000000000000000 ≤ e) && decide (e ≤ 1000000000000000)) = true := h2
          have h3 : (decide (0 ≤ m) && decide (m ≤ 1000000000000000)) = true := h3
          unfold farB
          rw [h1, h2, h3]; rfl
        rw [ev, hbe]
        show some _ = if farB b e m then _ else none
        rw [this]; rfl)
  rw [e, hr]
noncomputable def b_whole_1 : DS := sRet (oX (eAnd (eIsi "int" (eVar 0)) (eNot (eIsi "bool" (eVar 0)))))
noncomputable def b_whole : DS := b_whole_1
noncomputable def f_whole : List D → R D := fun ds => (fnSem 1 1 b_whole ds).nox
def W_whole (thing : Int) (Q : Bool → Prop) : Prop :=
Q (true && (!false))
set_option maxHeartbeats 4000000 in
theorem s_whole (thing : Int) (Q : Bool → Prop) (h : W_whole thing Q) : ∃ r, f_whole [D.int thing] = .ok (D.bl r) ∧ Q r := by
  unfold W_whole at h
  obtain ⟨_, e, r, rfl, hq⟩ := fs_of (n := 1) (m := 1) (body := b_whole) (ds := [D.int thing]) (ρ := [some (D.int thing, true)]) (Q := fun d => ∃ r, d = D.bl r ∧ Q r) (by rfl) (by simp only [List.map_cons, List.map_nil, Ship.d_imm, eP_imm, imm_bl, imm_int, imm_lst, imm_scr, imm_str]; rfl) (by
    show WS _ [some (D.int thing, true)] _ _
    exact ws_ret (ov_x (ev_and (ev_isi (ev_var (i := 0) (d := D.int thing) rfl (imm_int _)) (by rfl)) (fun hb1 => (ev_not (ev_isi (ev_var (i := 0) (d := D.int thing) rfl (imm_int _)) (by rfl)))) (fun _ => rfl))) ⟨(true && (!false)), rfl, h⟩)
  exact ⟨r, e, hq⟩
noncomputable def v_whole (thing : Int) : Bool := (true && (!false))
theorem c_whole (thing : Int) : f_whole [D.int thing] = .ok (D.bl (v_whole thing)) := by
  obtain ⟨r, e, hr⟩ := s_whole thing (fun r => r = v_whole thing) rfl
  rw [e, hr]
noncomputable def b_is_ship_1t_1 : DS := sRet (oX (eC (.bl false)))
noncomputable def b_is_ship_1 : DS := sWk (wipeE [1, 2, 3, 4, 5]) (sIf (eOrT (eNotT (asB (eIsi "tuple" (eVar 0)))) (asB (eBin dNe (eFn dLen (esCons (eVar 0) (esNil))) (eC (.int 4))))) b_is_ship_1t_1 sNil)
noncomputable def b_is_ship_2b_1t_1 : DS := sRet (oX (eC (.bl false)))
noncomputable def b_is_ship_2b_1 : DS := sWk (wipeE [1, 2, 3, 4, 5]) (sIf (eNotT (asB (eCall 1 f_whole (esCons (eVar 1) (esNil))))) b_is_ship_2b_1t_1 sNil)
noncomputable def b_is_ship_2 : DS := sWk (wipeE [1, 2, 3, 4, 5]) (sFor (iVar 0) (tgName 1) b_is_ship_2b_1)
noncomputable def b_is_ship_3 : DS := sWk (wipeE [0, 1]) (sUnp [2, 3, 4, 5] (eVar 0))
noncomputable def b_is_ship_4 : DS := sRet (oX (eAnd (eBin dLt (eVar 2) (eVar 3)) (eAnd (eBin dGe (eVar 5) (eC (.int 0))) (eChain dLe dLe (eC (.int 0)) (eVar 4) (eBin dMul (eVar 5) (eBin dSub (eVar 3) (eVar 2)))))))
noncomputable def b_is_ship : DS := sSeq b_is_ship_1 (sSeq b_is_ship_2 (sSeq b_is_ship_3 (b_is_ship_4)))
noncomputable def f_is_ship : List D → R D := fun ds => (fnSem 1 6 b_is_ship ds).nox
def W_is_ship (thing : Ship) (Q : Bool → Prop) : Prop :=
((((!true) || (!decide ((4 : Int) = (4 : Int)))) = true →
Q false) ∧
(((!true) || (!decide ((4 : Int) = (4 : Int)))) = false →
∃ I2 : List Int → Prop, I2 []  ∧
(∀ (done3 : List Int) (part : Int) (rest4 : List Int), [thing.b, thing.e, thing.n, thing.m] = done3 ++ part :: rest4 → I2 done3  →
(((!(v_whole part)) = true →
Q false) ∧
((!(v_whole part)) = false →
I2 (done3 ++ [part]) ))) ∧
(I2 ([thing.b, thing.e, thing.n, thing.m])  →
∀ begin : Int, ∀ end_ : Int, ∀ need : Int, ∀ most : Int, (⟨begin, end_, need, most⟩ : Ship) = thing →
((decide (begin < end_)) = true → (decide ((0 : Int) ≤ most)) = true → SM most (end_ - begin)) ∧
Q ((decide (begin < end_)) && ((decide ((0 : Int) ≤ most)) && (decide ((0 : Int) ≤ need) && decide (need ≤ (most * (end_ - begin)))))))))
set_option maxHeartbeats 4000000 in
theorem s_is_ship (thing : Ship) (Q : Bool → Prop) (h : W_is_ship thing Q) : ∃ r, f_is_ship [Ship.d thing] = .ok (D.bl r) ∧ Q r := by
  unfold W_is_ship at h
  obtain ⟨_, e, r, rfl, hq⟩ := fs_of (n := 1) (m := 6) (body := b_is_ship) (ds := [Ship.d thing]) (ρ := [some (Ship.d thing, true), none, none, none, none, none]) (Q := fun d => ∃ r, d = D.bl r ∧ Q r) (by rfl) (by simp only [List.map_cons, List.map_nil, Ship.d_imm, eP_imm, imm_bl, imm_int, imm_lst, imm_scr, imm_str]; rfl) (by
    show WS _ [some (Ship.d thing, true), none, none, none, none, none] _ _
    refine ws_seq (ws_wk (ws_if (b := ((!true) || (!decide ((4 : Int) = (4 : Int))))) (tv_or (tv_not (tv_x (ev_isi (ev_var (i := 0) (d := Ship.d thing) rfl (Ship.d_imm _)) (by rfl)))) (fun hb20 => (tv_x (ev_ne (ec := D.int) (x := (4 : Int)) (y := (4 : Int)) eqv_int (by decide) (ev_fn (es_cons (ev_var (i := 0) (d := Ship.d thing) rfl (Ship.d_imm _)) es_nil) (rfl)) ev_c)))) (fun hb1 => ?_) (fun hb1 => ?_)))
    · replace h := h.1 hb1
      show WS _ [some (Ship.d thing, true), none, none, none, none, none] _ _
      exact ws_ret (ov_x ev_c) ⟨false, rfl, h⟩
    · replace h := h.2 hb1
      refine ws_nil ?_
      show WS _ [some (Ship.d thing, true), none, none, none, none, none] _ _
      refine Exists.elim h fun I2 h => ?_
      have h17 := And.left h
      have h18 := And.left (And.right h)
      have h19 := And.right (And.right h)
      refine ws_seq (ws_wk (ws_for (σ := Unit) (ec := D.int) (l := [thing.b, thing.e, thing.n, thing.m]) (st := fun z => [some (Ship.d thing, true), none, none, none, none, none]) (bd := fun part z => [some (Ship.d thing, true), some (D.int part, true), none, none, none, none]) (fun done3 z => I2 done3 ) () (it_varT (i := 0) (ec := D.int) (m := [thing.b, thing.e, thing.n, thing.m]) rfl (by simp) rfl) (fun part z => (tg_name (i := 1) (by rfl) (imm_int _) rfl)) h17 ?_ ?_))
      · rintro done3 part rest4 _ he5 hi6
        have h := h18 done3 part rest4  he5 hi6
        show WS _ [some (Ship.d thing, true), some (D.int part, true), none, none, none, none] _ _
        refine ws_wk (ws_if (b := (!(v_whole part))) (tv_not (tv_x (ev_call (es_cons (ev_var (i := 1) (d := D.int part) rfl (imm_int _)) es_nil) rfl (c_whole part)))) (fun hb7 => ?_) (fun hb7 => ?_))
        · replace h := h.1 hb7
          show WS _ [some (Ship.d thing, true), some (D.int part, true), none, none, none, none] _ _
          exact ws_ret (ov_x ev_c) ⟨false, rfl, h⟩
        · replace h := h.2 hb7
          refine ws_nil ?_
          exact ⟨(), rfl, h⟩
      · rintro _ hi6
        have h := h19 hi6
        show WS _ [some (Ship.d thing, true), none, none, none, none, none] _ _
        obtain ⟨w12, e13⟩ : ∃ w : Ship, w = thing := ⟨_, rfl⟩
        refine ws_seq (ws_wk (ws_unp (ds := [D.int w12.b, D.int w12.e, D.int w12.n, D.int w12.m]) (by rw [e13]; exact (ev_var (i := 0) (d := Ship.d thing) rfl (Ship.d_imm _))) (by rfl) (put_cons (rfl) (put_cons (rfl) (put_cons (rfl) (put_cons (rfl) (put_nil _ _))))) ?_))
        obtain ⟨begin, end_, need, most⟩ := w12
        replace h := h begin end_ need most e13
        show WS _ [none, none, some (D.int begin, true), some (D.int end_, true), some (D.int need, true), some (D.int most, true)] _ _
        have hc14 := And.left h
        replace h := And.right h
        exact ws_ret (ov_x (ev_and (ev_lt (ev_var (i := 2) (d := D.int begin) rfl (imm_int _)) (ev_var (i := 3) (d := D.int end_) rfl (imm_int _))) (fun hb15 => (ev_and (ev_ge (ev_var (i := 5) (d := D.int most) rfl (imm_int _)) ev_c) (fun hb16 => (ev_chain ev_c (ev_var (i := 4) (d := D.int need) rfl (imm_int _)) (ev_mul ((hc14 hb15) hb16) (ev_var (i := 5) (d := D.int most) rfl (imm_int _)) (ev_sub (ev_var (i := 3) (d := D.int end_) rfl (imm_int _)) (ev_var (i := 2) (d := D.int begin) rfl (imm_int _)))) rfl rfl)) (fun _ => rfl))) (fun _ => rfl))) ⟨((decide (begin < end_)) && ((decide ((0 : Int) ≤ most)) && (decide ((0 : Int) ≤ need) && decide (need ≤ (most * (end_ - begin)))))), rfl, h⟩)
  exact ⟨r, e, hq⟩
def v_is_ship (_ : Ship) : Bool := true
def P_is_ship (s : Ship) : Prop := s.Ok
theorem c_is_ship (s : Ship) (h : P_is_ship s) : f_is_ship [s.d] = .ok (.bl (v_is_ship s)) := by
  obtain ⟨r, e, hr⟩ := s_is_ship s (fun r => r = true) (by
    have h : s.Ok := h
    refine ⟨by simp, fun _ => ⟨fun _ => True, trivial, fun done p rest e _ => ⟨by simp [v_whole], fun _ => trivial⟩, fun _ => ?_⟩⟩
    rintro b e n m hs
    have hb : s.b = b := by rw [← hs]
    have he : s.e = e := by rw [← hs]
    have hn : s.n = n := by rw [← hs]
    have hm : s.m = m := by rw [← hs]
    have a1 := h.be; have a2 := h.m0; have a3 := h.m1; have a4 := h.n0; have a5 := h.n1
    rw [hb, he, hn, hm] at *
    exact ⟨fun _ _ => .inl (by omega), by simp [a1, a2, a4, a5]⟩)
  rw [e, hr]; rfl
/-! any thing -/
def wholeD : D → Bool
  | .int _ => true
  | _ => false
theorem cA_whole (d : D) : f_whole [d] = .ok (.bl (wholeD d)) := by cases d <;> rfl
def shipB (s : Ship) : Bool := decide (s.b < s.e) && (decide (0 ≤ s.m) && (decide (0 ≤ s.n) && decide (s.n ≤ s.m * (s.e - s.b))))
def vA_is_ship : D → Bool
  | .tup [.int b, .int e, .int n, .int m] => shipB ⟨b, e, n, m⟩
  | _ => false
def PA_is_ship : D → Prop
  | .tup [.int b, .int e, .int n, .int m] => SM m (e - b)
  | _ => True
theorem is_ship_typed (s : Ship) (h : SM s.m (s.e - s.b)) : f_is_ship [s.d] = .ok (.bl (shipB s)) := by
  obtain ⟨r, e, hr⟩ := s_is_ship s (fun r => r = shipB s) (by
    refine ⟨by simp, fun _ => ⟨fun _ => True, trivial, fun done p rest e _ => ⟨by simp [v_whole], fun _ => trivial⟩, fun _ => ?_⟩⟩
    rintro b e n m rfl
    exact ⟨fun _ _ => h, rfl⟩)
  rw [e, hr]
theorem cA_is_ship (d : D) (h : PA_is_ship d) : f_is_ship [d] = .ok (.bl (vA_is_ship d)) := by
  by_cases c : ∃ s : Ship, d = s.d
  · obtain ⟨s, rfl⟩ := c
    exact is_ship_typed s h
  · have hv : vA_is_ship d = false := by
      unfold vA_is_ship
      split
      · exact absurd ⟨⟨_, _, _, _⟩, rfl⟩ c
      · rfl
    obtain ⟨r, e, hr⟩ := fs_of (n := 1) (m := 6) (body := b_is_ship) (ds := [d]) (ρ := [some (d, imm d), none, none, none, none, none]) (Q := fun r => r = .bl false) rfl rfl (by
      by_cases c2 : ∃ ds, d = .tup ds ∧ ds.length = 4
      · obtain ⟨ds, rfl, l⟩ := c2
        refine ws_seq (ws_wk (ws_if (b := false) (tv_or (p := false) (q := false) (tv_not (p := true) (tv_x (ev_isi (ev_var (i := 0) rfl rfl) rfl))) fun _ => tv_x (o := true) ?_) (fun h => by cases h) fun _ => ws_nil ?_))
        · have := ev_ne (ρ := [some (.tup ds, imm (.tup ds)), none, none, none, none, none]) (A := eFn dLen (esCons (eVar 0) (esNil))) (B := eC (.int 4)) eqv_int (by decide) (x := (ds.length : Int)) (y := 4) (ev_fn (es_cons (ev_var (i := 0) rfl rfl) es_nil) rfl) ev_c
          rw [this, l]; rfl
        refine ws_seq (ws_wk (ws_for (ec := eA) (l := ds) (σ := Unit) (st := fun _ => [some (.tup ds, imm (.tup ds)), none, none, none, none, none]) (bd := fun x _ => [some (.tup ds, imm (.tup ds)), some (x, imm x), none, none, none, none]) (fun done _ => ∀ x ∈ done, wholeD x = true) () ?_ (fun _ _ => rfl) (fun x hx => by cases hx) ?_ ?_))
        · rw [map_eA]
          show (match immA ds with | true => _ | false => _) = _
          rw [imm_tup]
          cases immA ds <;> rfl
        · rintro done x rest _ _ hd
          refine ws_wk ?_
          refine ws_if (b := !wholeD x) (tv_not (tv_x (ev_call (es_cons (ev_var (i := 1) rfl rfl) es_nil) rfl (cA_whole x)))) (fun h => ws_ret (ov_x ev_c) rfl) fun h => ws_nil ⟨(), rfl, fun y hy => ?_⟩
          rcases List.mem_append.mp hy with q | q
          · exact hd y q
          · have : y = x := by simpa using q
            rw [this]; simpa using h
        · rintro _ hall
          exfalso
          have int : ∀ x : D, wholeD x = true → ∃ i, x = .int i := fun x hx => by cases x <;> first | exact ⟨_, rfl⟩ | cases hx
          match ds, l, hall, c with
          | [x, y, z, w], _, hall, c =>
            obtain ⟨b, rfl⟩ := int x (hall _ (by simp))
            obtain ⟨e, rfl⟩ := int y (hall _ (by simp))
            obtain ⟨n, rfl⟩ := int z (hall _ (by simp))
            obtain ⟨m, rfl⟩ := int w (hall _ (by simp))
            exact c ⟨⟨b, e, n, m⟩, rfl⟩
      · refine ws_seq (ws_wk (ws_if (b := true) ?_ (fun _ => ws_ret (ov_x ev_c) rfl) (fun h => by cases h)))
        by_cases c3 : ∃ ds, d = .tup ds
        · obtain ⟨ds, rfl⟩ := c3
          have l : ¬ (ds.length : Int) = 4 := fun z => c2 ⟨ds, rfl, by omega⟩
          refine tv_or (p := false) (q := true) (tv_not (p := true) (tv_x (ev_isi (ev_var (i := 0) rfl rfl) rfl))) fun _ => tv_x (o := true) ?_
          have := ev_ne (ρ := [some (.tup ds, imm (.tup ds)), none, none, none, none, none]) (A := eFn dLen (esCons (eVar 0) (esNil))) (B := eC (.int 4)) eqv_int (by decide) (x := (ds.length : Int)) (y := 4) (ev_fn (es_cons (ev_var (i := 0) rfl rfl) es_nil) rfl) ev_c
          rw [this, decide_eq_false l]; rfl
        · refine tv_or (p := true) (q := true) (tv_not (p := false) (tv_x (ev_isi (ev_var (i := 0) rfl rfl) ?_))) fun h => by cases h
          cases d <;> first | rfl | exact absurd ⟨_, rfl⟩ c3)
    show (fnSem 1 6 b_is_ship [d]).nox = _
    rw [e, hr, hv]
noncomputable def b_read_fleet_1t_1 : DS := sNo
noncomputable def b_read_fleet_1 : DS := sWk (wipeE [1, 2, 3, 4, 5]) (sIf (eNotT (asB (eIsi "str" (eVar 0)))) b_read_fleet_1t_1 sNil)
noncomputable def b_read_fleet_2 : DS := sWk (wipeE [2, 3, 4, 5]) (sSet 1 (eLst (esNil)))
noncomputable def b_read_fleet_3 : DS := sWk (wipeE [3, 4, 5]) (sSet 2 (eLst (esNil)))
noncomputable def b_read_fleet_4t_1 : DS := sRet (oTup (osCons (oVar 1) (osCons (oVar 2) (osNil))))
noncomputable def b_read_fleet_4 : DS := sWk (wipeE [3, 4, 5]) (sIf (asB (eBin dEq (eVar 0) (eC (.str "")))) b_read_fleet_4t_1 sNil)
noncomputable def b_read_fleet_5b_1 : DS := sWk (wipeE [3, 5]) (sSet 4 (eTwo dSplit (eVar 3) (eC (.str " "))))
noncomputable def b_read_fleet_5b_2 : DS := sWk (wipeE [3]) (sSet 5 (eCall 1 f_four_of (esCons (eSlice (eVar 4) (oSome (eC (.int 1))) (oNone)) (esNil))))
noncomputable def b_read_fleet_5b_3t_1 : DS := sNo
noncomputable def b_read_fleet_5b_3 : DS := sWk (wipeE [3]) (sIf (eOrT (eNotT (asB (eCall 1 f_is_name (esCons (eIdx (eVar 4) (eC (.int 0))) (esNil))))) (eOrT (asB (eBin dIn (eIdx (eVar 4) (eC (.int 0))) (eVar 1))) (eOrT (asB (eBin dIs (eVar 5) (eC .non))) (eNotT (asB (eCall 1 f_is_ship (esCons (eVar 5) (esNil)))))))) b_read_fleet_5b_3t_1 sNil)
noncomputable def b_read_fleet_5b_4 : DS := sWk (wipeE [3, 4]) (sAppend 1 (oX (eIdx (eVar 4) (eC (.int 0)))))
noncomputable def b_read_fleet_5b_5 : DS := sWk (wipeE [3, 4, 5]) (sAppend 2 (oVar 5))
noncomputable def b_read_fleet_5b : DS := sSeq b_read_fleet_5b_1 (sSeq b_read_fleet_5b_2 (sSeq b_read_fleet_5b_3 (sSeq b_read_fleet_5b_4 (b_read_fleet_5b_5))))
noncomputable def b_read_fleet_5 : DS := sWk (wipeE [0, 3, 4, 5]) (sFor (iX (eTwo dSplit (eVar 0) (eC (.str "; ")))) (tgName 3) b_read_fleet_5b)
noncomputable def b_read_fleet_6 : DS := sRet (oTup (osCons (oVar 1) (osCons (oVar 2) (osNil))))
noncomputable def b_read_fleet : DS := sSeq b_read_fleet_1 (sSeq b_read_fleet_2 (sSeq b_read_fleet_3 (sSeq b_read_fleet_4 (sSeq b_read_fleet_5 (b_read_fleet_6)))))
noncomputable def f_read_fleet : List D → R D := fun ds => (fnSem 1 6 b_read_fleet ds).nox
def W_read_fleet (text : Str) (Q : ((List Str) × (List Ship)) → Prop) : Prop :=
(((!true) = true →
False) ∧
((!true) = false →
∀ names : (List Str), names = ([] : (List Str)) →
∀ fleet : (List Ship), fleet = ([] : (List Ship)) →
(okS text ∧ okS ("" : Str)) ∧
(((decide (text = ("" : Str))) = true →
Q (⟨names, fleet⟩ : ((List Str) × (List Ship)))) ∧
((decide (text = ("" : Str))) = false →
(((("; " : Str)).length == 0) = false ∧ (text).length + 2 ≤ 16777216) ∧
∃ I7 : List Str → (List Str) → (List Ship) → Prop, I7 [] names fleet ∧
(∀ (done8 : List Str) (part : Str) (rest9 : List Str) (names2 : (List Str)) (fleet2 : (List Ship)), (Txt.split text ("; " : Str)) = done8 ++ part :: rest9 → I7 done8 names2 fleet2 →
((((" " : Str)).length == 0) = false ∧ (part).length + 2 ≤ 16777216) ∧
∀ words : (List Str), words = (Txt.split part (" " : Str)) →
(P_four_of (cutA words (some (1 : Int)) none)) ∧
∀ ship : (Option Ship), ship = (v_four_of (cutA words (some (1 : Int)) none)) →
((0 ≤ (0 : Int) ∧ (0 : Int) < ((words).length : Int)) ∧ (P_is_name (ix words (0 : Int))) ∧ ((!(v_is_name (ix words (0 : Int)))) = false → (0 ≤ (0 : Int) ∧ (0 : Int) < ((words).length : Int)) ∧ ((decide ((ix words (0 : Int)) ∈ names2)) = false → (ship.isNone) = false → (ship.isSome = true) ∧ (P_is_ship (ogt ship))))) ∧
((((!(v_is_name (ix words (0 : Int)))) || ((decide ((ix words (0 : Int)) ∈ names2)) || ((ship.isNone) || (!(v_is_ship (ogt ship)))))) = true →
False) ∧
(((!(v_is_name (ix words (0 : Int)))) || ((decide ((ix words (0 : Int)) ∈ names2)) || ((ship.isNone) || (!(v_is_ship (ogt ship)))))) = false →
((0 ≤ (0 : Int) ∧ (0 : Int) < ((words).length : Int)) ∧ ((names2).length < 16777216)) ∧
∀ names3 : (List Str), names3 = (names2 ++ [(ix words (0 : Int))]) →
((ship.isSome = true) ∧ ((fleet2).length < 16777216)) ∧
∀ fleet3 : (List Ship), fleet3 = (fleet2 ++ [(ogt ship)]) →
I7 (done8 ++ [part]) names3 fleet3))) ∧
(∀ (names2 : (List Str)) (fleet2 : (List Ship)), I7 ((Txt.split text ("; " : Str))) names2 fleet2 →
Q (⟨names2, fleet2⟩ : ((List Str) × (List Ship))))))))
set_option maxHeartbeats 4000000 in
theorem s_read_fleet (text : Str) (Q : ((List Str) × (List Ship)) → Prop) (h : W_read_fleet text Q) : ∃ r, f_read_fleet [D.str text] = .ok ((eT2 (eL D.str) (eL Ship.d)) r) ∧ Q r := by
  unfold W_read_fleet at h
  obtain ⟨_, e, r, rfl, hq⟩ := fs_of (n := 1) (m := 6) (body := b_read_fleet) (ds := [D.str text]) (ρ := [some (D.str text, true), none, none, none, none, none]) (Q := fun d => ∃ r, d = (eT2 (eL D.str) (eL Ship.d)) r ∧ Q r) (by rfl) (by simp only [List.map_cons, List.map_nil, Ship.d_imm, eP_imm, imm_bl, imm_int, imm_lst, imm_scr, imm_str]; rfl) (by
    show WS _ [some (D.str text, true), none, none, none, none, none] _ _
    refine ws_seq (ws_wk (ws_if (b := (!true)) (tv_not (tv_x (ev_isi (ev_var (i := 0) (d := D.str text) rfl (imm_str _)) (by rfl)))) (fun hb1 => ?_) (fun hb1 => ?_)))
    · replace h := h.1 hb1
      show WS _ [some (D.str text, true), none, none, none, none, none] _ _
      exact ws_no h
    · replace h := h.2 hb1
      refine ws_nil ?_
      show WS _ [some (D.str text, true), none, none, none, none, none] _ _
      refine ws_seq (ws_wk (ws_set (ec := (eL D.str)) (v := ([] : (List Str))) (ρ' := fun names => [some (D.str text, true), some ((eL D.str) names, true), none, none, none, none]) (ev_lst es_nil rfl rfl rfl) (by rfl) (fun _ => rfl) fun names e2 => ?_))
      replace h := h names e2
      show WS _ [some (D.str text, true), some ((eL D.str) names, true), none, none, none, none] _ _
      refine ws_seq (ws_wk (ws_set (ec := (eL Ship.d)) (v := ([] : (List Ship))) (ρ' := fun fleet => [some (D.str text, true), some ((eL D.str) names, true), some ((eL Ship.d) fleet, true), none, none, none]) (ev_lst es_nil rfl rfl rfl) (by rfl) (fun _ => rfl) fun fleet e3 => ?_))
      replace h := h fleet e3
      show WS _ [some (D.str text, true), some ((eL D.str) names, true), some ((eL Ship.d) fleet, true), none, none, none] _ _
      have hc4 := And.left h
      replace h := And.right h
      refine ws_seq (ws_wk (ws_if (b := (decide (text = ("" : Str)))) (tv_x (ev_eqZ hc4 (ev_var (i := 0) (d := D.str text) rfl (imm_str _)) ev_c)) (fun hb5 => ?_) (fun hb5 => ?_)))
      · replace h := h.1 hb5
        show WS _ [some (D.str text, true), some ((eL D.str) names, true), some ((eL Ship.d) fleet, true), none, none, none] _ _
        exact ws_ret (ov_tup (ds := [(eL D.str) names, (eL Ship.d) fleet]) (os_cons (ov_varM (i := 1) (d := (eL D.str) names) rfl (imm_lst _) rfl) (os_cons (ov_varM (i := 2) (d := (eL Ship.d) fleet) rfl (imm_lst _) rfl) os_nil)) rfl) ⟨(⟨names, fleet⟩ : ((List Str) × (List Ship))), rfl, h⟩
      · replace h := h.2 hb5
        refine ws_nil ?_
        show WS _ [some (D.str text, true), some ((eL D.str) names, true), some ((eL Ship.d) fleet, true), none, none, none] _ _
        have hc6 := And.left h
        replace h := And.right h
        refine Exists.elim h fun I7 h => ?_
        have h25 := And.left h
        have h26 := And.left (And.right h)
        have h27 := And.right (And.right h)
        refine ws_seq (ws_wk (ws_for (σ := (List Str) × (List Ship)) (ec := D.str) (l := (Txt.split text ("; " : Str))) (st := fun z => [some (D.str text, true), some ((eL D.str) z.1, true), some ((eL Ship.d) z.2, true), none, none, none]) (bd := fun part z => [some (D.str text, true), some ((eL D.str) z.1, true), some ((eL Ship.d) z.2, true), some (D.str part, true), none, none]) (fun done8 z => I7 done8 z.1 z.2) (names, fleet) (it_x (m := (Txt.split text ("; " : Str))) (ec := D.str) (ev_split hc6 (ev_var (i := 0) (d := D.str text) rfl (imm_str _)) ev_c) rfl) (fun part z => (tg_name (i := 3) (by rfl) (imm_str _) rfl)) h25 ?_ ?_))
        · rintro done8 part rest9 ⟨names2, fleet2⟩ he10 hi11
          have h := h26 done8 part rest9 names2 fleet2 he10 hi11
          show WS _ [some (D.str text, true), some ((eL D.str) names2, true), some ((eL Ship.d) fleet2, true), some (D.str part, true), none, none] _ _
          have hc12 := And.left h
          replace h := And.right h
          refine ws_seq (ws_wk (ws_set (ec := (eL D.str)) (v := (Txt.split part (" " : Str))) (ρ' := fun words => [some (D.str text, true), some ((eL D.str) names2, true), some ((eL Ship.d) fleet2, true), some (D.str part, true), some ((eL D.str) words, true), none]) (ev_split hc12 (ev_var (i := 3) (d := D.str part) rfl (imm_str _)) ev_c) (by rfl) (fun _ => rfl) fun words e13 => ?_))
          replace h := h words e13
          show WS _ [some (D.str text, true), some ((eL D.str) names2, true), some ((eL Ship.d) fleet2, true), none, some ((eL D.str) words, true), none] _ _
          have hc14 := And.left h
          replace h := And.right h
          refine ws_seq (ws_wk (ws_set (ec := (eO Ship.d)) (v := (v_four_of (cutA words (some (1 : Int)) none))) (ρ' := fun ship => [some (D.str text, true), some ((eL D.str) names2, true), some ((eL Ship.d) fleet2, true), none, some ((eL D.str) words, true), some ((eO Ship.d) ship, true)]) (ev_call (es_cons (ev_sliceI (ec := D.str) (xs := words) (fun _ => imm_str _) (ev_var (i := 4) (d := (eL D.str) words) rfl (imm_lst _)) (ox_int ev_c) ox_non) es_nil) rfl (c_four_of (cutA words (some (1 : Int)) none) hc14)) (by rfl) (fun _ => rfl) fun ship e15 => ?_))
          replace h := h ship e15
          show WS _ [some (D.str text, true), some ((eL D.str) names2, true), some ((eL Ship.d) fleet2, true), none, some ((eL D.str) words, true), some ((eO Ship.d) ship, true)] _ _
          have hc16 := And.left h
          replace h := And.right h
          refine ws_seq (ws_wk (ws_if (b := ((!(v_is_name (ix words (0 : Int)))) || ((decide ((ix words (0 : Int)) ∈ names2)) || ((ship.isNone) || (!(v_is_ship (ogt ship))))))) (tv_or (tv_not (tv_x (ev_call (es_cons (ev_ix (ec := D.str) (xs := words) hc16.1 (ev_var (i := 4) (d := (eL D.str) words) rfl (imm_lst _)) ev_c (imm_str _)) es_nil) rfl (c_is_name (ix words (0 : Int)) hc16.2.1)))) (fun hb22 => (tv_or (tv_x (ev_inLS (ev_ix (ec := D.str) (xs := words) (hc16.2.2 hb22).1 (ev_var (i := 4) (d := (eL D.str) words) rfl (imm_lst _)) ev_c (imm_str _)) (ev_var (i := 1) (d := (eL D.str) names2) rfl (imm_lst _)))) (fun hb23 => (tv_or (tv_x (ev_isN (ec := Ship.d) (fun _ => rfl) (ev_var (i := 5) (d := (eO Ship.d) ship) rfl (imm_O (fun _ => Ship.d_imm _) _)))) (fun hb24 => (tv_not (tv_x (ev_call (es_cons (ev_ogt (x := ship) (((hc16.2.2 hb22).2 hb23) hb24).1 (ev_var (i := 5) (d := (eO Ship.d) ship) rfl (imm_O (fun _ => Ship.d_imm _) _))) es_nil) rfl (c_is_ship (ogt ship) (((hc16.2.2 hb22).2 hb23) hb24).2)))))))))) (fun hb17 => ?_) (fun hb17 => ?_)))
          · replace h := h.1 hb17
            show WS _ [some (D.str text, true), some ((eL D.str) names2, true), some ((eL Ship.d) fleet2, true), none, some ((eL D.str) words, true), some ((eO Ship.d) ship, true)] _ _
            exact ws_no h
          · replace h := h.2 hb17
            refine ws_nil ?_
            show WS _ [some (D.str text, true), some ((eL D.str) names2, true), some ((eL Ship.d) fleet2, true), none, some ((eL D.str) words, true), some ((eO Ship.d) ship, true)] _ _
            have hc18 := And.left h
            replace h := And.right h
            refine ws_seq (ws_wk (ws_append (ec := D.str) (xs := names2) (v := (ix words (0 : Int))) (ρ' := fun names3 => [some (D.str text, true), some ((eL D.str) names3, true), some ((eL Ship.d) fleet2, true), none, some ((eL D.str) words, true), some ((eO Ship.d) ship, true)]) rfl (ov_x (ev_ix (ec := D.str) (xs := words) hc18.1 (ev_var (i := 4) (d := (eL D.str) words) rfl (imm_lst _)) ev_c (imm_str _))) rfl hc18.2 (fun _ => rfl) fun names3 e19 => ?_))
            replace h := h names3 e19
            show WS _ [some (D.str text, true), some ((eL D.str) names3, true), some ((eL Ship.d) fleet2, true), none, none, some ((eO Ship.d) ship, true)] _ _
            have hc20 := And.left h
            replace h := And.right h
            refine ws_wk (ws_append (ec := Ship.d) (xs := fleet2) (v := (ogt ship)) (ρ' := fun fleet3 => [some (D.str text, true), some ((eL D.str) names3, true), some ((eL Ship.d) fleet3, true), none, none, some ((eO Ship.d) ship, true)]) rfl (ov_ogt (ec := Ship.d) (x := ship) hc20.1 (ov_varI (i := 5) (d := (eO Ship.d) ship) rfl (imm_O (fun _ => Ship.d_imm _) _))) rfl hc20.2 (fun _ => rfl) fun fleet3 e21 => ?_)
            replace h := h fleet3 e21
            exact ⟨(names3, fleet3), rfl, h⟩
        · rintro ⟨names2, fleet2⟩ hi11
          have h := h27 names2 fleet2 hi11
          show WS _ [none, some ((eL D.str) names2, true), some ((eL Ship.d) fleet2, true), none, none, none] _ _
          exact ws_ret (ov_tup (ds := [(eL D.str) names2, (eL Ship.d) fleet2]) (os_cons (ov_varM (i := 1) (d := (eL D.str) names2) rfl (imm_lst _) rfl) (os_cons (ov_varM (i := 2) (d := (eL Ship.d) fleet2) rfl (imm_lst _) rfl) os_nil)) rfl) ⟨(⟨names2, fleet2⟩ : ((List Str) × (List Ship))), rfl, h⟩)
  exact ⟨r, e, hq⟩
-- needs law_text
-- needs show_fleet
structure Told (names : List Str) (fl : List Ship) : Prop where
  len : names.length = fl.length
  few : fl.length ≤ 1000
  name : ∀ z ∈ names, v_is_name z = true
  nd : names.Nodup
  ok : ∀ s ∈ fl, s.Ok
  far : ∀ s ∈ fl, farB s.b s.e s.m = true
theorem name_len {z : Str} (h : v_is_name z = true) : 1 ≤ z.length ∧ z.length ≤ 8 ∧ ∀ c ∈ TL.tl z, 97 ≤ c ∧ c ≤ 122 := by
  unfold v_is_name at h
  rw [Bool.and_eq_true, Bool.and_eq_true, decide_eq_true_eq, decide_eq_true_eq, List.all_eq_true] at h
  refine ⟨h.2.1, h.2.2, fun c hc => ?_⟩
  have := h.1 c hc
  unfold lett at this
  rw [Bool.and_eq_true, decide_eq_true_eq, decide_eq_true_eq] at this
  exact this
theorem far_num {s : Ship} (o : s.Ok) (h : farB s.b s.e s.m = true) : numOk s.b ∧ numOk s.e ∧ numOk s.n ∧ numOk s.m := by
  unfold farB at h
  simp only [Bool.and_eq_true, decide_eq_true_eq] at h
  obtain ⟨⟨b1, b2⟩, ⟨e1, e2⟩, m1, m2⟩ := h
  have n0 := o.n0
  have n1 := o.n1
  have be := o.be
  have : s.m * (s.e - s.b) ≤ 1000000000000000 * 2000000000000000 := by
    have a := Int.mul_le_mul_of_nonneg_right m2 (show 0 ≤ s.e - s.b by omega)
    have b := Int.mul_le_mul_of_nonneg_left (show s.e - s.b ≤ 2000000000000000 by omega) (show (0 : Int) ≤ 1000000000000000 by decide)
    omega
  unfold numOk
  refine ⟨by omega, by omega, by omega, by omega⟩
theorem Told.shown {names : List Str} {fl : List Ship} (h : Told names fl) : P_show_fleet names fl := ⟨by have := h.few; omega, fun p hp => by
  obtain ⟨a, b⟩ := List.of_mem_zip hp
  have := far_num (h.ok _ b) (h.far _ b)
  exact ⟨(name_len (h.name _ a)).2.1, this⟩⟩
theorem nt_free (i : Int) {c : Nat} (h : c ∈ nt i) : c = 45 ∨ (48 ≤ c ∧ c ≤ 57) := by
  unfold nt at h
  split at h
  · rcases List.mem_cons.mp h with h | h
    · exact .inl h
    · exact .inr (TL.numL_digits _ c h)
  · exact .inr (TL.numL_digits _ c h)
theorem split_ship {name : Str} {s : Ship} (hn : v_is_name name = true) : Txt.split (v_shown_ship name s) " " = shipW name s := by
  refine TL.split_join (s := 32) (S := []) tl_sp (by decide +kernel) (by simp [shipW]) fun p hp hc => ?_
  unfold shipW at hp
  rcases List.mem_append.mp hp with q | q
  · have : p = name := by simpa using q
    rw [this] at hc
    have := (name_len hn).2.2 32 hc
    omega
  · obtain ⟨i, _, rfl⟩ := List.mem_map.mp q
    rw [tl_nt] at hc
    have := nt_free i hc
    omega
theorem split_fleet {names : List Str} {fl : List Ship} (h : Told names fl) (ne : fl ≠ []) : Txt.split (v_show_fleet names fl) "; " = shownL names fl := by
  refine TL.split_join (s := 59) (S := [32]) tl_sc (by decide +kernel) ?_ fun p hp hc => ?_
  · intro z
    have := congrArg List.length z
    unfold shownL at this
    rw [List.length_map, List.length_zip, h.len, Nat.min_self, List.length_nil] at this
    exact ne (List.eq_nil_of_length_eq_zero this)
  · obtain ⟨q, hq, rfl⟩ := List.mem_map.mp hp
    obtain ⟨a, b⟩ := List.of_mem_zip hq
    rw [tl_shown] at hc
    rcases List.mem_append.mp hc with hc | hc
    · have := (name_len (h.name _ a)).2.2 59 hc
      omega
    · obtain ⟨l, hl, hc⟩ := List.mem_flatten.mp hc
      obtain ⟨i, _, rfl⟩ := List.mem_map.mp hl
      rcases List.mem_cons.mp hc with hc | hc
      · omega
      · have := nt_free i hc
        omega
theorem cutA_one {α : Type} (x : α) (r : List α) : cutA (x :: r) (some 1) none = r := by
  show List.take (HT.sIx (r.length + 1) (r.length + 1) none - HT.sIx (r.length + 1) 0 (some ((1 : Nat) : Int))) (List.drop (HT.sIx (r.length + 1) 0 (some ((1 : Nat) : Int))) (x :: r)) = r
  rw [HT.sIx_nat, HT.sIx_none, Nat.min_eq_left (by omega)]
  show List.take (r.length + 1 - 1) r = r
  rw [Nat.add_sub_cancel, List.take_length]
theorem four_ship {s : Ship} (o : s.Ok) (h : farB s.b s.e s.m = true) : v_four_of ([s.b, s.e, s.n, s.m].map fun i : Int => Str.ofString (toString i)) = some s := by
  obtain ⟨h1, h2, h3, h4⟩ := far_num o h
  have g : ∀ i : Int, numOk i → v_number_of (Str.ofString (toString i)) = some i := fun i hi => by
    unfold v_number_of
    rw [tl_nt]
    exact nword_nt (numL_short hi)
  unfold v_four_of
  simp only [List.map_cons, List.map_nil]
  rw [g _ h1, g _ h2, g _ h3, g _ h4]
  show (if farB s.b s.e s.m then some _ else none) = _
  rw [h]; rfl
theorem okS_nt (i : Int) : okS (Str.ofString (toString i)) := (okS_iff _).mpr fun c hc => by
  rw [tl_nt] at hc
  have := nt_free i hc
  omega
theorem okS_shown {names : List Str} {fl : List Ship} (h : Told names fl) : okS (v_show_fleet names fl) := (okS_iff _).mpr fun c hc => by
  unfold v_show_fleet at hc
  rw [tl_Join, tl_sc] at hc
  have key : ∀ l : List (List Nat), (∀ z ∈ l, ∀ c ∈ z, c < 1114112) → ∀ c ∈ TL.joinL [59, 32] l, c < 1114112 := fun l hl c hc => by
    cases l with
    | nil => cases hc
    | cons x r =>
      rw [joinL_cons] at hc
      rcases List.mem_append.mp hc with hc | hc
      · exact hl x (by simp) c hc
      · obtain ⟨m, hm, hc⟩ := List.mem_flatten.mp hc
        obtain ⟨z, hz, rfl⟩ := List.mem_map.mp hm
        rcases List.mem_append.mp hc with hc | hc
        · have : c = 59 ∨ c = 32 := by simpa using hc
          omega
        · exact hl z (by simp [hz]) c hc
  refine key _ (fun z hz c hc => ?_) c hc
  obtain ⟨p, hp, rfl⟩ := List.mem_map.mp hz
  obtain ⟨q, hq, rfl⟩ := List.mem_map.mp hp
  obtain ⟨a, _⟩ := List.of_mem_zip hq
  rw [tl_shown] at hc
  rcases List.mem_append.mp hc with hc | hc
  · have := (name_len (h.name _ a)).2.2 c hc
    omega
  · obtain ⟨l, hl, hc⟩ := List.mem_flatten.mp hc
    obtain ⟨i, _, rfl⟩ := List.mem_map.mp hl
    rcases List.mem_cons.mp hc with hc | hc
    · omega
    · have := nt_free i hc
      omega
def P_read_fleet (t : Str) : Prop := ∃ names fl, Told names fl ∧ t = v_show_fleet names fl
theorem read_fleet_ex (names : List Str) (fl : List Ship) (h : Told names fl) : f_read_fleet [.str (v_show_fleet names fl)] = .ok (eT2 (eL D.str) (eL Ship.d) (names, fl)) := by
  obtain ⟨r, e, hr⟩ := s_read_fleet (v_show_fleet names fl) (fun r => r = (names, fl)) (by
    have few := h.few
    have len := h.len
    refine ⟨fun hb => (by cases hb), fun _ => ?_⟩
    rintro n0 hn0 f0 hf0
    have sl := shown_len h.shown
    have tl0 : (v_show_fleet names fl).length ≤ 143000 := by
      have := join_len "; " (shownL names fl)
      show (Txt.join "; " (shownL names fl)).length ≤ 143000
      omega
    have emp : v_show_fleet names fl = ("" : Str) ↔ fl = [] := by
      constructor
      · intro z
        cases q : fl with
        | nil => rfl
        | cons s r =>
          exfalso
          have z := congrArg TL.tl z
          unfold v_show_fleet at z
          rw [tl_Join, tl_sc, tl_em] at z
          have l1 : (shownL names fl).length = fl.length := by unfold shownL; rw [List.length_map, List.length_zip]; omega
          cases q2 : shownL names fl with
          | nil => rw [q2, q] at l1; simp at l1
          | cons x y =>
            rw [q2, List.map_cons, joinL_cons] at z
            have z1 := (List.append_eq_nil_iff.mp z).1
            have : x ∈ shownL names fl := by rw [q2]; simp
            obtain ⟨p, hp, rfl⟩ := List.mem_map.mp this
            obtain ⟨a, _⟩ := List.of_mem_zip hp
            rw [tl_shown] at z1
            have z2 := (List.append_eq_nil_iff.mp z1).1
            have := (name_len (h.name _ a)).1
            rw [tl_len, z2] at this
            simp at this
      · intro z
        subst z
        have : names = [] := List.eq_nil_of_length_eq_zero (by rw [len]; rfl)
        subst this
        rfl
    refine ⟨⟨okS_shown h, okS_const⟩, fun hb => ?_, fun hb => ⟨⟨by decide +kernel, by omega⟩, ?_⟩⟩
    · have z := emp.mp (of_decide_eq_true hb)
      subst z
      have : names = [] := List.eq_nil_of_length_eq_zero (by rw [len]; rfl)
      subst this
      show (n0, f0) = _
      rw [hn0, hf0]
    · have ne : fl ≠ [] := fun z => of_decide_eq_false hb (emp.mpr z)
      rw [split_fleet h ne]
      have l1 : (shownL names fl).length = fl.length := by unfold shownL; rw [List.length_map, List.length_zip]; omega
      refine ⟨fun done n f => n = names.take done.length ∧ f = fl.take done.length, ⟨by rw [hn0]; rfl, by rw [hf0]; rfl⟩, ?_, ?_⟩
      · rintro done part rest n f he ⟨i1, i2⟩
        have dl : done.length < fl.length := by
          have := congrArg List.length he
          rw [l1] at this
          simp at this; omega
        generalize hk : done.length = k at *
        have hkn : k < names.length := by omega
        have pe : part = v_shown_ship (names.getD k default) (fl.getD k default) := by
          have a := shownL_get len dl
          rw [he, ← hk] at a
          simp at a
          rw [hk] at a; exact a
        have an := h.name _ (getD_mem hkn default)
        have ao := h.ok _ (getD_mem dl default)
        have af := h.far _ (getD_mem dl default)
        have fn := far_num ao af
        have pl := join_len " " (shipW (names.getD k default) (fl.getD k default))
        have pl2 := shipW_len (name := names.getD k default) (s := fl.getD k default) ⟨(name_len an).2.1, fn⟩
        have plen : part.length ≤ 141 := by
          rw [pe]
          show (Txt.join " " (shipW (names.getD k default) (fl.getD k default))).length ≤ 141
          omega
        refine ⟨⟨by decide +kernel, by omega⟩, ?_⟩
        rintro words hw
        rw [pe, split_ship an] at hw
        have hw : words = names.getD k default :: ([(fl.getD k default).b, (fl.getD k default).e, (fl.getD k default).n, (fl.getD k default).m].map fun i : Int => Str.ofString (toString i)) := hw
        have wl : words.length = 5 := by rw [hw]; rfl
        have wc : cutA words (some 1) none = [(fl.getD k default).b, (fl.getD k default).e, (fl.getD k default).n, (fl.getD k default).m].map fun i : Int => Str.ofString (toString i) := by rw [hw, cutA_one]
        have w0 : ix words (0 : Int) = names.getD k default := by rw [hw]; rfl
        rw [wc, w0]
        refine ⟨⟨by simp, fun w hw => ?_⟩, ?_⟩
        · obtain ⟨i, hi, rfl⟩ := List.mem_map.mp hw
          have ni : numOk i := by
            simp only [List.mem_cons, List.not_mem_nil, or_false] at hi
            rcases hi with q | q | q | q <;> rw [q]
            · exact fn.1
            · exact fn.2.1
            · exact fn.2.2.1
            · exact fn.2.2.2
          have := str_len ni
          exact ⟨okS_nt i, by omega⟩
        rintro ship hs
        rw [four_ship ao af] at hs
        subst hs
        have nin : names.getD k default ∉ n := fun z => by
          rw [i1] at z
          obtain ⟨j, hj, ej⟩ := List.mem_iff_getElem.mp z
          rw [List.length_take] at hj
          have hj2 : j < names.length := by omega
          rw [List.getElem_take] at ej
          have : names[j] = names[k] := by rw [ej]; simp [List.getD_eq_getElem?_getD, hkn]
          exact List.pairwise_iff_getElem.mp h.nd j k hj2 hkn (by omega) this
        refine ⟨⟨⟨by omega, by omega⟩, by have := (name_len an).2.1; show (names.getD k default).length ≤ 16777216; omega, fun _ => ⟨⟨by omega, by omega⟩, fun _ _ => ⟨rfl, ao⟩⟩⟩, fun hb => ?_, fun _ => ⟨⟨⟨by omega, by omega⟩, ?_⟩, ?_⟩⟩
        · rw [an, decide_eq_false nin] at hb
          cases hb
        · rw [i1, List.length_take]; omega
        · rintro n3 hn3
          refine ⟨⟨rfl, by rw [i2, List.length_take]; omega⟩, ?_⟩
          rintro f3 hf3
          rw [List.length_append, hk, List.length_singleton]
          refine ⟨?_, ?_⟩
          · rw [hn3, i1, List.take_add_one, List.getElem?_eq_getElem hkn]
            simp [List.getD_eq_getElem?_getD, hkn]
          · rw [hf3, i2, List.take_add_one, List.getElem?_eq_getElem dl]
            simp [List.getD_eq_getElem?_getD, dl, ogt]
      · rintro n f ⟨i1, i2⟩
        rw [l1] at i1 i2
        rw [i1, i2, List.take_of_length_le (by omega), List.take_of_length_le (Nat.le_refl _)])
  rw [e, hr]
open Classical in
noncomputable def v_read_fleet (t : Str) : List Str × List Ship := if h : P_read_fleet t then (h.choose, h.choose_spec.choose) else ([], [])
theorem c_read_fleet (t : Str) (h : P_read_fleet t) : f_read_fleet [.str t] = .ok (eT2 (eL D.str) (eL Ship.d) (v_read_fleet t)) := by
  have hs := h.choose_spec.choose_spec
  have e : v_read_fleet t = (h.choose, h.choose_spec.choose) := by unfold v_read_fleet; rw [dif_pos h]
  rw [e]
  have := read_fleet_ex _ _ hs.1
  rw [← hs.2] at this
  exact this
theorem map_inj' {α β : Type} {f : α → β} (hf : ∀ x y, f x = f y → x = y) : ∀ {l m : List α}, l.map f = m.map f → l = m
  | [], [], _ => rfl
  | [], _ :: _, h => by cases h
  | _ :: _, [], h => by cases h
  | x :: l, y :: m, h => by
    rw [List.map_cons, List.map_cons] at h
    injection h with h1 h2
    rw [hf _ _ h1, map_inj' hf h2]
theorem read_show {names : List Str} {fl : List Ship} (h : Told names fl) : v_read_fleet (v_show_fleet names fl) = (names, fl) := by
  have a := read_fleet_ex names fl h
  have b := c_read_fleet (v_show_fleet names fl) ⟨names, fl, h, rfl⟩
  rw [a] at b
  generalize v_read_fleet (v_show_fleet names fl) = r at b
  obtain ⟨n, f⟩ := r
  have b : R.ok (D.tup [.lst (names.map D.str), .lst (fl.map Ship.d)]) = R.ok (D.tup [.lst (n.map D.str), .lst (f.map Ship.d)]) := b
  injection b with b
  injection b with b
  simp only [List.cons.injEq, D.lst.injEq, and_true] at b
  have e1 : names = n := map_inj' (f := D.str) (fun x y h => by injection h) b.1
  have e2 : fl = f := map_inj' (f := Ship.d) (fun x y h => by
    obtain ⟨_, _, _, _⟩ := x
    obtain ⟨_, _, _, _⟩ := y
    simp only [Ship.d, D.tup.injEq, List.cons.injEq, D.int.injEq, and_true] at h
    obtain ⟨rfl, rfl, rfl, rfl⟩ := h
    rfl) b.2
  rw [e1, e2]
noncomputable def b_law_whole_1 : DS := sRet (oX (eAnd (eIsi "int" (eVar 0)) (eNot (eIsi "bool" (eVar 0)))))
noncomputable def b_law_whole : DS := b_law_whole_1
noncomputable def f_law_whole : List D → R D := fun ds => (fnSem 1 1 b_law_whole ds).nox
def W_law_whole (found : Int) (Q : Bool → Prop) : Prop :=
Q (true && (!false))
set_option maxHeartbeats 4000000 in
theorem s_law_whole (found : Int) (Q : Bool → Prop) (h : W_law_whole found Q) : ∃ r, f_law_whole [D.int found] = .ok (D.bl r) ∧ Q r := by
  unfold W_law_whole at h
  obtain ⟨_, e, r, rfl, hq⟩ := fs_of (n := 1) (m := 1) (body := b_law_whole) (ds := [D.int found]) (ρ := [some (D.int found, true)]) (Q := fun d => ∃ r, d = D.bl r ∧ Q r) (by rfl) (by simp only [List.map_cons, List.map_nil, Ship.d_imm, eP_imm, imm_bl, imm_int, imm_lst, imm_scr, imm_str]; rfl) (by
    show WS _ [some (D.int found, true)] _ _
    exact ws_ret (ov_x (ev_and (ev_isi (ev_var (i := 0) (d := D.int found) rfl (imm_int _)) (by rfl)) (fun hb1 => (ev_not (ev_isi (ev_var (i := 0) (d := D.int found) rfl (imm_int _)) (by rfl)))) (fun _ => rfl))) ⟨(true && (!false)), rfl, h⟩)
  exact ⟨r, e, hq⟩
noncomputable def v_law_whole (found : Int) : Bool := (true && (!false))
theorem c_law_whole (found : Int) : f_law_whole [D.int found] = .ok (D.bl (v_law_whole found)) := by
  obtain ⟨r, e, hr⟩ := s_law_whole found (fun r => r = v_law_whole found) rfl
  rw [e, hr]
noncomputable def b_law_k70_1 : DS := sWk (wipeE [2, 3, 4, 5, 6, 7, 8, 9]) (sSet 1 (eCall 2 f_law_fleet (esCons (eVar 0) (esCons (eC (.int 1)) (esNil)))))
noncomputable def b_law_k70_2 : DS := sWk (wipeE [0, 3, 4, 5, 6, 7, 8, 9]) (sSet 2 (eCall 2 f_law_names (esCons (eCall 2 f_law_cell_at (esCons (eVar 0) (esCons (eC (.int 0)) (esNil)))) (esCons (eFn dLen (esCons (eVar 1) (esNil))) (esNil)))))
noncomputable def b_law_k70_3 : DS := sWk (wipeE [0, 4, 5, 6, 7, 8, 9]) (sSet 3 (eCall 2 f_law_text (esCons (eVar 2) (esCons (eVar 1) (esNil)))))
noncomputable def b_law_k70_4 : DS := sWk (wipeE [0, 5, 6, 7, 8, 9]) (sSet 4 (eLst (esCons (eList (eVar 2)) (esCons (eList (eVar 1)) (esNil)))))
noncomputable def b_law_k70_5 : DS := sWk (wipeE [0, 6, 7, 8, 9]) (sSet 5 (eCall 2 f_show_fleet (esCons (eIdx (eVar 4) (eC (.int 0))) (esCons (eIdx (eVar 4) (eC (.int 1))) (esNil)))))
noncomputable def b_law_k70_6t_1 : DS := sRet (oX (eC (.bl false)))
noncomputable def b_law_k70_6 : DS := sWk (wipeE [0, 4, 5, 6, 7, 8, 9]) (sIf (eOrT (eNotT (asB (eIsi "str" (eVar 5)))) (eOrT (asB (eBin dNe (eVar 5) (eVar 3))) (asB (eBin dNe (eVar 4) (eLst (esCons (eVar 2) (esCons (eVar 1) (esNil)))))))) b_law_k70_6t_1 sNil)
noncomputable def b_law_k70_7b_1 : DS := sWk (wipeE [0, 4, 5, 6, 8, 9]) (sSet 7 (eCall 1 f_read_fleet (esCons (eVar 3) (esNil))))
noncomputable def b_law_k70_7b_2t_1 : DS := sRet (oX (eC (.bl false)))
noncomputable def b_law_k70_7b_2 : DS := sWk (wipeE [0, 4, 5, 6, 8, 9]) (sIf (eOrT (eNotT (asB (eIsi "tuple" (eVar 7)))) (asB (eBin dNe (eFn dLen (esCons (eVar 7) (esNil))) (eC (.int 2))))) b_law_k70_7b_2t_1 sNil)
noncomputable def b_law_k70_7b_3t_1 : DS := sRet (oX (eC (.bl false)))
noncomputable def b_law_k70_7b_3 : DS := sWk (wipeE [0, 4, 5, 6, 8, 9]) (sIf (eOrT (eNotT (asB (eIsi "list" (eIdx (eVar 7) (eC (.int 0)))))) (eNotT (asB (eIsi "list" (eIdx (eVar 7) (eC (.int 1))))))) b_law_k70_7b_3t_1 sNil)
noncomputable def b_law_k70_7b_4t_1 : DS := sRet (oX (eC (.bl false)))
noncomputable def b_law_k70_7b_4 : DS := sWk (wipeE [0, 4, 5, 6, 8, 9]) (sIf (eOrT (asB (eBin dNe (eIdx (eVar 7) (eC (.int 0))) (eVar 2))) (asB (eBin dNe (eIdx (eVar 7) (eC (.int 1))) (eVar 1)))) b_law_k70_7b_4t_1 sNil)
noncomputable def b_law_k70_7b_5 : DS := sWk (wipeE [0, 4, 5, 6, 8, 9]) (sForAny [8] (iX (eIdx (eVar 7) (eC (.int 1)))) (tgName 8) (eOrT (eNotT (asB (eIsi "tuple" (eVar 8)))) (asB (eBin dNe (eComp [9] (iX (eVar 8)) (tgName 9) (eNotT (asB (eCall 1 f_law_whole (esCons (eVar 9) (esNil))))) (eVar 9)) (eLst (esNil))))) (oX (eC (.bl false))))
noncomputable def b_law_k70_7b_6 : DS := sWk (wipeE [0, 4, 5, 6, 8, 9]) (sAppendT 7 (eC (.int 0)) (eC (.str "z")))
noncomputable def b_law_k70_7b_7 : DS := sWk (wipeE [0, 4, 5, 6, 7, 8, 9]) (sClearT 7 (eC (.int 1)))
noncomputable def b_law_k70_7b : DS := sSeq b_law_k70_7b_1 (sSeq b_law_k70_7b_2 (sSeq b_law_k70_7b_3 (sSeq b_law_k70_7b_4 (sSeq b_law_k70_7b_5 (sSeq b_law_k70_7b_6 (b_law_k70_7b_7))))))
noncomputable def b_law_k70_7 : DS := sWk (wipeE [0, 1, 2, 3, 4, 5, 6, 7, 8, 9]) (sFor (iRange1 (eC (.int 2))) (tgName 6) b_law_k70_7b)
noncomputable def b_law_k70_8 : DS := sRet (oX (eC (.bl true)))
noncomputable def b_law_k70 : DS := sSeq b_law_k70_1 (sSeq b_law_k70_2 (sSeq b_law_k70_3 (sSeq b_law_k70_4 (sSeq b_law_k70_5 (sSeq b_law_k70_6 (sSeq b_law_k70_7 (b_law_k70_8)))))))
noncomputable def f_law_k70 : List D → R D := fun ds => (fnSem 1 10 b_law_k70 ds).nox
def W_law_k70 (script : (List Int)) (Q : Bool → Prop) : Prop :=
(P_law_fleet script (1 : Int)) ∧
∀ fleet : (List Ship), fleet = (v_law_fleet script (1 : Int)) →
((P_law_cell_at script (0 : Int)) ∧ (P_law_names (v_law_cell_at script (0 : Int)) ((fleet).length : Int))) ∧
∀ names : (List Str), names = (v_law_names (v_law_cell_at script (0 : Int)) ((fleet).length : Int)) →
(P_law_text names fleet) ∧
∀ text : Str, text = (v_law_text names fleet) →
∀ handed : ((List Str) × (List Ship)), handed = (⟨names, fleet⟩ : ((List Str) × (List Ship))) →
(P_show_fleet handed.1 handed.2) ∧
∀ shown : Str, shown = (v_show_fleet handed.1 handed.2) →
((!true) = false → (okS shown ∧ okS text) ∧ ((!decide (shown = text)) = false → dEqB ((eM2 (eL D.str) (eL Ship.d)) handed) ((eM2 (eL D.str) (eL Ship.d)) (⟨names, fleet⟩ : ((List Str) × (List Ship)))) = .ok (eqA ((eM2 (eL D.str) (eL Ship.d)) handed) ((eM2 (eL D.str) (eL Ship.d)) (⟨names, fleet⟩ : ((List Str) × (List Ship))))))) ∧
((((!true) || ((!decide (shown = text)) || (!eqA ((eM2 (eL D.str) (eL Ship.d)) handed) ((eM2 (eL D.str) (eL Ship.d)) (⟨names, fleet⟩ : ((List Str) × (List Ship))))))) = true →
Q false) ∧
(((!true) || ((!decide (shown = text)) || (!eqA ((eM2 (eL D.str) (eL Ship.d)) handed) ((eM2 (eL D.str) (eL Ship.d)) (⟨names, fleet⟩ : ((List Str) × (List Ship))))))) = false →
(RG (2 : Int)) ∧
∃ I13 : Nat → Prop, I13 0  ∧
(∀ (k : Nat), k < ((2 : Int)).toNat → I13 k  →
(P_read_fleet text) ∧
∀ found : ((List Str) × (List Ship)), found = (v_read_fleet text) →
((((!true) || (!decide ((2 : Int) = (2 : Int)))) = true →
Q false) ∧
(((!true) || (!decide ((2 : Int) = (2 : Int)))) = false →
((((!true) || (!true)) = true →
Q false) ∧
(((!true) || (!true)) = false →
(dEqB ((eL D.str) found.1) ((eL D.str) names) = .ok (eqA ((eL D.str) found.1) ((eL D.str) names))) ∧
((((!eqA ((eL D.str) found.1) ((eL D.str) names)) || (!decide (found.2 = fleet))) = true →
Q false) ∧
(((!eqA ((eL D.str) found.1) ((eL D.str) names)) || (!decide (found.2 = fleet))) = false →
(∀ ship : Ship, ship ∈ found.2 → (!true) = false → ([ship.b, ship.e, ship.n, ship.m]).length ≤ 16777216) ∧
((found.2.any fun ship : Ship => ((!true) || (!(([ship.b, ship.e, ship.n, ship.m]).filter fun part : Int => (!(v_law_whole part))).isEmpty))) = true →
Q false) ∧
((found.2.any fun ship : Ship => ((!true) || (!(([ship.b, ship.e, ship.n, ship.m]).filter fun part : Int => (!(v_law_whole part))).isEmpty))) = false →
((found.1).length < 16777216) ∧
∀ found2 : ((List Str) × (List Ship)), found2 = (⟨found.1 ++ [("z" : Str)], found.2⟩ : ((List Str) × (List Ship))) →
∀ found3 : ((List Str) × (List Ship)), found3 = (⟨found2.1, []⟩ : ((List Str) × (List Ship))) →
I13 (k + 1) )))))))) ∧
(I13 ((2 : Int)).toNat  →
Q true)))
set_option maxHeartbeats 4000000 in
theorem s_law_k70 (script : (List Int)) (Q : Bool → Prop) (h : W_law_k70 script Q) : ∃ r, f_law_k70 [D.scr script] = .ok (D.bl r) ∧ Q r := by
  unfold W_law_k70 at h
  obtain ⟨_, e, r, rfl, hq⟩ := fs_of (n := 1) (m := 10) (body := b_law_k70) (ds := [D.scr script]) (ρ := [some (D.scr script, true), none, none, none, none, none, none, none, none, none]) (Q := fun d => ∃ r, d = D.bl r ∧ Q r) (by rfl) (by simp only [List.map_cons, List.map_nil, Ship.d_imm, eP_imm, imm_bl, imm_int, imm_lst, imm_scr, imm_str]; rfl) (by
    show WS _ [some (D.scr script, true), none, none, none, none, none, none, none, none, none] _ _
    have hc1 := And.left h
    replace h := And.right h
    refine ws_seq (ws_wk (ws_set (ec := (eL Ship.d)) (v := (v_law_fleet script (1 : Int))) (ρ' := fun fleet => [some (D.scr script, true), some ((eL Ship.d) fleet, true), none, none, none, none, none, none, none, none]) (ev_call (es_cons (ev_var (i := 0) (d := D.scr script) rfl (imm_scr _)) (es_cons ev_c es_nil)) rfl (c_law_fleet script (1 : Int) hc1)) (by rfl) (fun _ => rfl) fun fleet e2 => ?_))
    replace h := h fleet e2
    show WS _ [some (D.scr script, true), some ((eL Ship.d) fleet, true), none, none, none, none, none, none, none, none] _ _
    have hc3 := And.left h
    replace h := And.right h
    refine ws_seq (ws_wk (ws_set (ec := (eL D.str)) (v := (v_law_names (v_law_cell_at script (0 : Int)) ((fleet).length : Int))) (ρ' := fun names => [some (D.scr script, true), some ((eL Ship.d) fleet, true), some ((eL D.str) names, true), none, none, none, none, none, none, none]) (ev_call (es_cons (ev_call (es_cons (ev_var (i := 0) (d := D.scr script) rfl (imm_scr _)) (es_cons ev_c es_nil)) rfl (c_law_cell_at script (0 : Int) hc3.1)) (es_cons (ev_fn (es_cons (ev_var (i := 1) (d := (eL Ship.d) fleet) rfl (imm_lst _)) es_nil) (fn_len (ec := Ship.d) (xs := fleet))) es_nil)) rfl (c_law_names (v_law_cell_at script (0 : Int)) ((fleet).length : Int) hc3.2)) (by rfl) (fun _ => rfl) fun names e4 => ?_))
    replace h := h names e4
    show WS _ [none, some ((eL Ship.d) fleet, true), some ((eL D.str) names, true), none, none, none, none, none, none, none] _ _
    have hc5 := And.left h
    replace h := And.right h
    refine ws_seq (ws_wk (ws_set (ec := D.str) (v := (v_law_text names fleet)) (ρ' := fun text => [none, some ((eL Ship.d) fleet, true), some ((eL D.str) names, true), some (D.str text, true), none, none, none, none, none, none]) (ev_call (es_cons (ev_var (i := 2) (d := (eL D.str) names) rfl (imm_lst _)) (es_cons (ev_var (i := 1) (d := (eL Ship.d) fleet) rfl (imm_lst _)) es_nil)) rfl (c_law_text names fleet hc5)) (by rfl) (fun _ => rfl) fun text e6 => ?_))
    replace h := h text e6
    show WS _ [none, some ((eL Ship.d) fleet, true), some ((eL D.str) names, true), some (D.str text, true), none, none, none, none, none, none] _ _
    refine ws_seq (ws_wk (ws_set (ec := (eM2 (eL D.str) (eL Ship.d))) (v := (⟨names, fleet⟩ : ((List Str) × (List Ship)))) (ρ' := fun handed => [none, some ((eL Ship.d) fleet, true), some ((eL D.str) names, true), some (D.str text, true), some ((eM2 (eL D.str) (eL Ship.d)) handed, true), none, none, none, none, none]) (ev_lst (ds := [(eL D.str) names, (eL Ship.d) fleet]) (es_cons (ev_listI (ec := D.str) (xs := names) (fun _ => imm_str _) (ev_var (i := 2) (d := (eL D.str) names) rfl (imm_lst _))) (es_cons (ev_listI (ec := Ship.d) (xs := fleet) (fun _ => Ship.d_imm _) (ev_var (i := 1) (d := (eL Ship.d) fleet) rfl (imm_lst _))) es_nil)) rfl rfl rfl) (by rfl) (fun _ => rfl) fun handed e7 => ?_))
    replace h := h handed e7
    show WS _ [none, some ((eL Ship.d) fleet, true), some ((eL D.str) names, true), some (D.str text, true), some ((eM2 (eL D.str) (eL Ship.d)) handed, true), none, none, none, none, none] _ _
    have hc8 := And.left h
    replace h := And.right h
    refine ws_seq (ws_wk (ws_set (ec := D.str) (v := (v_show_fleet handed.1 handed.2)) (ρ' := fun shown => [none, some ((eL Ship.d) fleet, true), some ((eL D.str) names, true), some (D.str text, true), some ((eM2 (eL D.str) (eL Ship.d)) handed, true), some (D.str shown, true), none, none, none, none]) (ev_call (es_cons (ev_ixM (d := (eL D.str) handed.1) (ev_var (i := 4) (d := (eM2 (eL D.str) (eL Ship.d)) handed) rfl (imm_M2 _ _ _)) ev_c rfl (imm_lst _)) (es_cons (ev_ixM (d := (eL Ship.d) handed.2) (ev_var (i := 4) (d := (eM2 (eL D.str) (eL Ship.d)) handed) rfl (imm_M2 _ _ _)) ev_c rfl (imm_lst _)) es_nil)) rfl (c_show_fleet handed.1 handed.2 hc8)) (by rfl) (fun _ => rfl) fun shown e9 => ?_))
    replace h := h shown e9
    show WS _ [none, some ((eL Ship.d) fleet, true), some ((eL D.str) names, true), some (D.str text, true), some ((eM2 (eL D.str) (eL Ship.d)) handed, true), some (D.str shown, true), none, none, none, none] _ _
    have hc10 := And.left h
    replace h := And.right h
    refine ws_seq (ws_wk (ws_if (b := ((!true) || ((!decide (shown = text)) || (!eqA ((eM2 (eL D.str) (eL Ship.d)) handed) ((eM2 (eL D.str) (eL Ship.d)) (⟨names, fleet⟩ : ((List Str) × (List Ship)))))))) (tv_or (tv_not (tv_x (ev_isi (ev_var (i := 5) (d := D.str shown) rfl (imm_str _)) (by rfl)))) (fun hb39 => (tv_or (tv_x (ev_neZ (hc10 hb39).1 (ev_var (i := 5) (d := D.str shown) rfl (imm_str _)) (ev_var (i := 3) (d := D.str text) rfl (imm_str _)))) (fun hb40 => (tv_x (ev_neA ((hc10 hb39).2 hb40) (ev_var (i := 4) (d := (eM2 (eL D.str) (eL Ship.d)) handed) rfl (imm_M2 _ _ _)) (ev_lst (ds := [(eL D.str) names, (eL Ship.d) fleet]) (es_cons (ev_var (i := 2) (d := (eL D.str) names) rfl (imm_lst _)) (es_cons (ev_var (i := 1) (d := (eL Ship.d) fleet) rfl (imm_lst _)) es_nil)) rfl rfl rfl))))))) (fun hb11 => ?_) (fun hb11 => ?_)))
    · replace h := h.1 hb11
      show WS _ [none, some ((eL Ship.d) fleet, true), some ((eL D.str) names, true), some (D.str text, true), some ((eM2 (eL D.str) (eL Ship.d)) handed, true), some (D.str shown, true), none, none, none, none] _ _
      exact ws_ret (ov_x ev_c) ⟨false, rfl, h⟩
    · replace h := h.2 hb11
      refine ws_nil ?_
      show WS _ [none, some ((eL Ship.d) fleet, true), some ((eL D.str) names, true), some (D.str text, true), none, none, none, none, none, none] _ _
      have hc12 := And.left h
      replace h := And.right h
      refine Exists.elim h fun I13 h => ?_
      have h36 := And.left h
      have h37 := And.left (And.right h)
      have h38 := And.right (And.right h)
      refine ws_seq (ws_wk (ws_forR (σ := Unit) (ec := (fun i : Nat => D.int (i : Int))) (n := ((2 : Int)).toNat) (st := fun z => [none, some ((eL Ship.d) fleet, true), some ((eL D.str) names, true), some (D.str text, true), none, none, none, none, none, none]) (bd := fun k z => [none, some ((eL Ship.d) fleet, true), some ((eL D.str) names, true), some (D.str text, true), none, none, some (D.int (k : Int), true), none, none, none]) (fun done14 z => I13 done14 ) () (it_rg1 hc12 ev_c) (fun k z => (tg_name (i := 6) (by rfl) (imm_int _) rfl)) h36 ?_ ?_))
      · rintro k _ he16 hi17
        have h := h37 k  he16 hi17
        show WS _ [none, some ((eL Ship.d) fleet, true), some ((eL D.str) names, true), some (D.str text, true), none, none, some (D.int (k : Int), true), none, none, none] _ _
        have hc18 := And.left h
        replace h := And.right h
        refine ws_seq (ws_wk (ws_set (ec := (eT2 (eL D.str) (eL Ship.d))) (v := (v_read_fleet text)) (ρ' := fun found => [none, some ((eL Ship.d) fleet, true), some ((eL D.str) names, true), some (D.str text, true), none, none, some (D.int (k : Int), true), some ((eT2 (eL D.str) (eL Ship.d)) found, true), none, none]) (ev_call (es_cons (ev_var (i := 3) (d := D.str text) rfl (imm_str _)) es_nil) rfl (c_read_fleet text hc18)) (by rfl) (fun _ => rfl) fun found e19 => ?_))
        replace h := h found e19
        show WS _ [none, some ((eL Ship.d) fleet, true), some ((eL D.str) names, true), some (D.str text, true), none, none, none, some ((eT2 (eL D.str) (eL Ship.d)) found, true), none, none] _ _
        refine ws_seq (ws_wk (ws_if (b := ((!true) || (!decide ((2 : Int) = (2 : Int))))) (tv_or (tv_not (tv_x (ev_isi (ev_var (i := 7) (d := (eT2 (eL D.str) (eL Ship.d)) found) rfl (imm_T2l (fun _ => imm_lst _) _)) (by rfl)))) (fun hb35 => (tv_x (ev_ne (ec := D.int) (x := (2 : Int)) (y := (2 : Int)) eqv_int (by decide) (ev_fn (es_cons (ev_var (i := 7) (d := (eT2 (eL D.str) (eL Ship.d)) found) rfl (imm_T2l (fun _ => imm_lst _) _)) es_nil) (rfl)) ev_c)))) (fun hb20 => ?_) (fun hb20 => ?_)))
        · replace h := h.1 hb20
          show WS _ [none, some ((eL Ship.d) fleet, true), some ((eL D.str) names, true), some (D.str text, true), none, none, none, some ((eT2 (eL D.str) (eL Ship.d)) found, true), none, none] _ _
          exact ws_ret (ov_x ev_c) ⟨false, rfl, h⟩
        · replace h := h.2 hb20
          refine ws_nil ?_
          show WS _ [none, some ((eL Ship.d) fleet, true), some ((eL D.str) names, true), some (D.str text, true), none, none, none, some ((eT2 (eL D.str) (eL Ship.d)) found, true), none, none] _ _
          refine ws_seq (ws_wk (ws_if (b := ((!true) || (!true))) (tv_or (tv_not (tv_x (ev_isi (ev_ixT (d := (eL D.str) found.1) (ev_var (i := 7) (d := (eT2 (eL D.str) (eL Ship.d)) found) rfl (imm_T2l (fun _ => imm_lst _) _)) ev_c rfl (imm_lst _)) (by rfl)))) (fun hb34 => (tv_not (tv_x (ev_isi (ev_ixT (d := (eL Ship.d) found.2) (ev_var (i := 7) (d := (eT2 (eL D.str) (eL Ship.d)) found) rfl (imm_T2l (fun _ => imm_lst _) _)) ev_c rfl (imm_lst _)) (by rfl)))))) (fun hb21 => ?_) (fun hb21 => ?_)))
          · replace h := h.1 hb21
            show WS _ [none, some ((eL Ship.d) fleet, true), some ((eL D.str) names, true), some (D.str text, true), none, none, none, some ((eT2 (eL D.str) (eL Ship.d)) found, true), none, none] _ _
            exact ws_ret (ov_x ev_c) ⟨false, rfl, h⟩
          · replace h := h.2 hb21
            refine ws_nil ?_
            show WS _ [none, some ((eL Ship.d) fleet, true), some ((eL D.str) names, true), some (D.str text, true), none, none, none, some ((eT2 (eL D.str) (eL Ship.d)) found, true), none, none] _ _
            have hc22 := And.left h
            replace h := And.right h
            refine ws_seq (ws_wk (ws_if (b := ((!eqA ((eL D.str) found.1) ((eL D.str) names)) || (!decide (found.2 = fleet)))) (tv_or (tv_x (ev_neA hc22 (ev_ixT (d := (eL D.str) found.1) (ev_var (i := 7) (d := (eT2 (eL D.str) (eL Ship.d)) found) rfl (imm_T2l (fun _ => imm_lst _) _)) ev_c rfl (imm_lst _)) (ev_var (i := 2) (d := (eL D.str) names) rfl (imm_lst _)))) (fun hb33 => (tv_x (ev_ne (ec := (eL Ship.d)) (x := found.2) (y := fleet) (eqv_L eqv_ship) (by decide) (ev_ixT (d := (eL Ship.d) found.2) (ev_var (i := 7) (d := (eT2 (eL D.str) (eL Ship.d)) found) rfl (imm_T2l (fun _ => imm_lst _) _)) ev_c rfl (imm_lst _)) (ev_var (i := 1) (d := (eL Ship.d) fleet) rfl (imm_lst _)))))) (fun hb23 => ?_) (fun hb23 => ?_)))
            · replace h := h.1 hb23
              show WS _ [none, some ((eL Ship.d) fleet, true), some ((eL D.str) names, true), some (D.str text, true), none, none, none, some ((eT2 (eL D.str) (eL Ship.d)) found, true), none, none] _ _
              exact ws_ret (ov_x ev_c) ⟨false, rfl, h⟩
            · replace h := h.2 hb23
              refine ws_nil ?_
              show WS _ [none, some ((eL Ship.d) fleet, true), some ((eL D.str) names, true), some (D.str text, true), none, none, none, some ((eT2 (eL D.str) (eL Ship.d)) found, true), none, none] _ _
              have hc24 := And.left h
              replace h := And.right h
              refine ws_seq (ws_wk (ws_forAny (ec := Ship.d) (l := found.2) (is := [8]) (bd := fun ship : Ship => [none, some ((eL Ship.d) fleet, false), some ((eL D.str) names, false), some (D.str text, false), none, none, none, some ((eT2 (eL D.str) (eL Ship.d)) found, false), some (Ship.d ship, true), none]) (dr := D.bl false) (fun ship : Ship => ((!true) || (!(([ship.b, ship.e, ship.n, ship.m]).filter fun part : Int => (!(v_law_whole part))).isEmpty))) (it_x (m := found.2) (ec := Ship.d) (ev_ixT (d := (eL Ship.d) found.2) (ev_var (i := 7) (d := (eT2 (eL D.str) (eL Ship.d)) found) rfl (imm_T2l (fun _ => imm_lst _) _)) ev_c rfl (imm_lst _)) rfl) (fun ship => (tg_name (i := 8) (by rfl) (Ship.d_imm _) rfl)) (fun ship ha28 => (tv_or (tv_not (tv_x (ev_isi (ev_var (i := 8) (d := Ship.d ship) rfl (Ship.d_imm _)) (by rfl)))) (fun hb30 => (tv_x (ev_ne0 (ec := D.int) (x := (([ship.b, ship.e, ship.n, ship.m]).filter fun part : Int => (!(v_law_whole part)))) eqv_int (by decide) (ev_compWI (m := [ship.b, ship.e, ship.n, ship.m]) (ec := D.int) (W := fun part : Int => (!(v_law_whole part))) (bd := fun part : Int => [none, some ((eL Ship.d) fleet, false), some ((eL D.str) names, false), some (D.str text, false), none, none, none, some ((eT2 (eL D.str) (eL Ship.d)) found, false), some (Ship.d ship, false), some (D.int part, true)]) (ρc := [none, some ((eL Ship.d) fleet, false), some ((eL D.str) names, false), some (D.str text, false), none, none, none, some ((eT2 (eL D.str) (eL Ship.d)) found, false), some (Ship.d ship, false), none]) (it_xT (m := [ship.b, ship.e, ship.n, ship.m]) (ec := D.int) (ev_var (i := 8) (d := Ship.d ship) rfl (Ship.d_imm _)) rfl rfl) ((hc24 ship ha28) hb30) rfl (fun part => (tg_name (i := 9) (by rfl) (imm_int _) rfl)) (fun part ha31 => (tv_not (tv_x (ev_call (es_cons (ev_var (i := 9) (d := D.int part) rfl (imm_int _)) es_nil) rfl (c_law_whole part))))) (fun part ha31 hw32 => (ev_var (i := 9) (d := D.int part) rfl (imm_int _)))) (ev_lst es_nil rfl rfl rfl)))))) (fun ship => ⟨_, (ov_x ev_c)⟩) (fun hb29 => ?_) (fun hb29 => ?_)))
              · replace h := h.1 hb29
                exact ⟨false, rfl, h⟩
              replace h := h.2 hb29
              show WS _ [none, some ((eL Ship.d) fleet, true), some ((eL D.str) names, true), some (D.str text, true), none, none, none, some ((eT2 (eL D.str) (eL Ship.d)) found, true), none, none] _ _
              have hc25 := And.left h
              replace h := And.right h
              refine ws_seq (ws_wk (ws_appT0 (ec := D.str) (ed := (eL Ship.d)) (q := found) (v := ("z" : Str)) (ρ' := fun found2 => [none, some ((eL Ship.d) fleet, true), some ((eL D.str) names, true), some (D.str text, true), none, none, none, some ((eT2 (eL D.str) (eL Ship.d)) found2, true), none, none]) rfl ev_c (imm_str _) hc25 (fun _ => rfl) fun found2 e26 => ?_))
              replace h := h found2 e26
              show WS _ [none, some ((eL Ship.d) fleet, true), some ((eL D.str) names, true), some (D.str text, true), none, none, none, some ((eT2 (eL D.str) (eL Ship.d)) found2, true), none, none] _ _
              refine ws_wk (ws_clrT1 (ec := Ship.d) (ed := (eL D.str)) (q := found2) (ρ' := fun found3 => [none, some ((eL Ship.d) fleet, true), some ((eL D.str) names, true), some (D.str text, true), none, none, none, some ((eT2 (eL D.str) (eL Ship.d)) found3, true), none, none]) rfl (fun _ => rfl) fun found3 e27 => ?_)
              replace h := h found3 e27
              exact ⟨(), rfl, h⟩
      · rintro _ hi17
        have h := h38 hi17
        show WS _ [none, none, none, none, none, none, none, none, none, none] _ _
        exact ws_ret (ov_x ev_c) ⟨true, rfl, h⟩)
  exact ⟨r, e, hq⟩
theorem law_true (ns : List Int) (hns : ns.length ≤ 63) : f_law_k70 [.scr ns] = .ok (.bl true) := by
  obtain ⟨r, e, hr⟩ := s_law_k70 ns (fun r => r = true) (by
    refine ⟨by simp, ?_⟩
    rintro fl hf
    obtain ⟨dr, l4⟩ := law_fleet_ok ns 1 (by omega)
    rw [← hf] at dr l4
    clear hf
    have pn : P_law_names (v_law_cell_at ns 0) (fl.length : Int) := ⟨by omega, by omega⟩
    refine ⟨⟨by simp, pn⟩, ?_⟩
    rintro names hn
    have no := law_names_ok pn
    rw [← hn] at no
    clear hn
    have told : Told names fl := ⟨by rw [no.len]; simp, by omega, no.ok, no.nd, fun s hs => (dr s hs).ok, fun s hs => by
      have a := dr s hs
      have b15 := a.b15
      have e15 := a.e15
      have m15 := a.m15
      have be := a.ok.be
      have m0 := a.ok.m0
      unfold farB
      rw [decide_eq_true b15, decide_eq_true (show s.b ≤ 1000000000000000 by omega), decide_eq_true (show -1000000000000000 ≤ s.e by omega), decide_eq_true e15, decide_eq_true m0, decide_eq_true m15]; rfl⟩
    have ps := told.shown
    refine ⟨⟨told.len, ps⟩, ?_⟩
    rintro text ht
    have et : text = v_show_fleet names fl := ht
    subst et
    rintro handed hh
    subst hh
    refine ⟨ps, ?_⟩
    rintro shown hs
    have es : shown = v_show_fleet names fl := hs
    have oz : ∀ z ∈ names, okS z := fun z hz => (okS_iff z).mpr fun c hc => by
      have := (name_len (no.ok z hz)).2.2 c hc
      omega
    have pyn : PyN 20 (.lst (names.map D.str)) := (pyN_lst (n := 1) fun d hd => by
      obtain ⟨z, hz, rfl⟩ := List.mem_map.mp hd
      exact pyN_str _ (by rw [PyData.canLay0]; exact oz z hz)).le (by decide)
    have pyf : PyN 20 (.lst (fl.map Ship.d)) := (pyN_lst (n := 1) fun d hd => by
      obtain ⟨s, _, rfl⟩ := List.mem_map.mp hd
      refine pyN_tup (n := 0) fun d hd => ?_
      simp only [List.mem_cons, List.not_mem_nil, or_false] at hd
      rcases hd with h | h | h | h <;> rw [h] <;> exact pyN_int _ _).le (by decide)
    have pym : PyN 21 (eM2 (eL D.str) (eL Ship.d) (names, fl)) := pyN_lst (n := 20) fun d hd => by
      simp only [List.mem_cons, List.not_mem_nil, or_false] at hd
      rcases hd with h | h <;> rw [h]
      · exact pyn
      · exact pyf
    have em := eqA_self pym (by decide)
    have dm := dEqB_self pym (by decide)
    refine ⟨fun _ => ⟨⟨by rw [es]; exact okS_shown told, okS_shown told⟩, fun _ => by rw [em]; exact dm⟩, fun hb => ?_, fun _ => ?_⟩
    · rw [decide_eq_true es, em] at hb; cases hb
    refine ⟨by unfold RG; omega, fun _ => True, trivial, ?_, fun _ => rfl⟩
    rintro k _ _
    refine ⟨⟨names, fl, told, rfl⟩, ?_⟩
    rintro found hfo
    rw [read_show told] at hfo
    subst hfo
    have en := eqA_self pyn (by decide)
    have dn := dEqB_self pyn (by decide)
    refine ⟨fun hb => (by simp at hb), fun _ => ⟨fun hb => (by cases hb), fun _ => ⟨?_, fun hb => ?_, fun _ => ?_⟩⟩⟩
    · show dEqB (.lst (names.map D.str)) (.lst (names.map D.str)) = .ok (eqA (.lst (names.map D.str)) (.lst (names.map D.str)))
      rw [en]; exact dn
    · have hb : (!eqA (.lst (names.map D.str)) (.lst (names.map D.str)) || !decide (fl = fl)) = true := hb
      rw [en, decide_eq_true rfl] at hb; cases hb
    · refine ⟨fun s _ _ => by simp, fun hb => ?_, fun _ => ?_⟩
      · obtain ⟨s, _, h⟩ := List.any_eq_true.mp hb
        simp [v_law_whole] at h
      · refine ⟨?_, ?_⟩
        · show names.length < 16777216
          rw [told.len]; omega
        · rintro _ _ _ _
          trivial)
  rw [e, hr]
end EQ
namespace EQ
open PySem PySem.Spec PyProof.Rows L2
def topS (i : Nat) : Stmt := PySem.Challenge.pw_evenquay_k70_texts_forth_and_back.main.body.getD i (.Pass ⟨0, 0, 0, 0⟩)
section
variable {P : Program} {w : World} {K : PySem.W.Frag} {mg : Str → Option Value} {base : Heap}
abbrev st_law_cell_at : Stmt := topS 17
theorem sc_law_cell_at : FnScope ["script", "k"] ["script", "k"] (defScope st_law_cell_at) := ⟨rfl, rfl, rfl, by decide +kernel, rfl, by decide +kernel, by decide +kernel⟩
set_option maxHeartbeats 4000000 in
theorem ok_law_cell_at {f : Addr} {fd : FuncData} (F : Fun K "_law_cell_at" "_law_cell_at" st_law_cell_at f fd) (z_len : mg "len" = none) : FnOk P w K mg base CX0 2 f fd ["script", "k"] (spF K mg 2 f_law_cell_at) := by
  exact fn_ok F sc_law_cell_at rfl rfl fun cdv A outer s H E hr => sx_cons (sx_wk (weak_wipe _) (sx_if (pb_c (cx_lt (px_var 1) (px_callB call_len snd_len ne_len (by rfl) z_len PySem.boot_len (pxs_cons (px_var 0) (pxs_nil))))) (sx_one (sx_ret (po_x (px_ix (hu_of hr) (px_var 0) (px_var 1) (fun _ _ => rfl))))) (sx_nil)))
      (sx_one (sx_ret (po_x (px_int))))

abbrev st_law_ship : Stmt := topS 19
theorem sc_law_ship : FnScope ["one", "two", "kind", "begin", "end", "most", "mixed", "full", "need"] ["one", "two", "kind"] (defScope st_law_ship) := ⟨rfl, rfl, rfl, by decide +kernel, rfl, by decide +kernel, by decide +kernel⟩
set_option maxHeartbeats 4000000 in
theorem ok_law_ship {f : Addr} {fd : FuncData} (F : Fun K "_law_ship" "_law_ship" st_law_ship f fd) (z_min : mg "min" = none) : FnOk P w K mg base CX0 2 f fd ["one", "two", "kind"] (spF K mg 3 f_law_ship) := by
  exact fn_ok F sc_law_ship rfl rfl fun cdv A outer s H E hr => sx_cons (sx_wk (weak_wipe _) (sx_set (i := 3) sc_law_ship.nd rfl (by first | exact Or.inl rfl | exact Or.inr rfl) (px_sub (px_mod (px_var 0) (px_int)) (px_int))))
      (sx_cons (sx_wk (weak_wipe _) (sx_set (i := 4) sc_law_ship.nd rfl (by first | exact Or.inl rfl | exact Or.inr rfl) (px_add (px_add (px_var 3) (px_int)) (px_mod (px_fdiv (px_var 0) (px_int)) (px_int)))))
      (sx_cons (sx_wk (weak_wipe _) (sx_if (pb_c (cx_eq hr.units (px_var 2) (px_int))) (sx_cons (sx_wk (weak_wipe _) (sx_set (i := 3) sc_law_ship.nd rfl (by first | exact Or.inl rfl | exact Or.inr rfl) (px_sub (px_mod (px_var 0) (px_int)) (px_int))))
      (sx_one (sx_wk (weak_wipe _) (sx_set (i := 4) sc_law_ship.nd rfl (by first | exact Or.inl rfl | exact Or.inr rfl) (px_add (px_add (px_var 3) (px_int)) (px_mod (px_fdiv (px_var 0) (px_int)) (px_int))))))) (sx_nil)))
      (sx_cons (sx_wk (weak_wipe _) (sx_if (pb_c (cx_eq hr.units (px_var 2) (px_int))) (sx_cons (sx_wk (weak_wipe _) (sx_set (i := 3) sc_law_ship.nd rfl (by first | exact Or.inl rfl | exact Or.inr rfl) (px_mul (px_sub (px_mod (px_mul (px_var 0) (px_int)) (px_int)) (px_pow (px_int) (px_int))) (px_pow (px_int) (px_int)))))
      (sx_one (sx_wk (weak_wipe _) (sx_set (i := 4) sc_law_ship.nd rfl (by first | exact Or.inl rfl | exact Or.inr rfl) (px_add (px_add (px_var 3) (px_int)) (px_mul (px_mod (px_mul (px_var 0) (px_int)) (px_int)) (px_pow (px_int) (px_int)))))))) (sx_nil)))
      (sx_cons (sx_wk (weak_wipe _) (sx_set (i := 5) sc_law_ship.nd rfl (by first | exact Or.inl rfl | exact Or.inr rfl) (px_ix (hu_of hr) (px_lst (pxs_cons (px_int) (pxs_cons (px_int) (pxs_cons (px_int) (pxs_cons (px_int) (pxs_cons (px_pow (px_int) (px_int)) (pxs_cons (px_add (px_int) (px_mod (px_fdiv (px_var 1) (px_int)) (px_int))) (pxs_cons (px_int) (pxs_cons (px_int) (pxs_nil)))))))))) (px_mod (px_var 1) (px_int)) (fun _ _ => rfl))))
      (sx_cons (sx_wk (weak_wipe _) (sx_set (i := 6) sc_law_ship.nd rfl (by first | exact Or.inl rfl | exact Or.inr rfl) (px_mod (px_mul (px_var 1) (px_int)) (px_int))))
      (sx_cons (sx_wk (weak_wipe _) (sx_set (i := 7) sc_law_ship.nd rfl (by first | exact Or.inl rfl | exact Or.inr rfl) (px_mul (px_var 5) (px_sub (px_var 4) (px_var 3)))))
      (sx_cons (sx_wk (weak_wipe _) (sx_set (i := 8) sc_law_ship.nd rfl (by first | exact Or.inl rfl | exact Or.inr rfl) (px_ix (hu_of hr) (px_lst (pxs_cons (px_fdiv (px_mul (px_var 7) (px_mod (px_var 6) (px_int))) (px_int)) (pxs_cons (px_mod (px_var 6) (px_add (px_var 7) (px_int))) (pxs_cons (px_callB (CallR.or (call_min2 rfl) (cr_min rfl)) snd_min ne_min (by rfl) z_min (by decide +kernel) (pxs_cons (px_var 7) (pxs_cons (px_mod (px_var 6) (px_int)) (pxs_nil)))) (pxs_cons (px_var 7) (pxs_nil)))))) (px_mod (px_fdiv (px_var 6) (px_int)) (px_int)) (fun _ _ => rfl))))
      (sx_one (sx_ret (po_tup (pos_cons (po_var 3) (pos_cons (po_var 4) (pos_cons (po_var 8) (pos_cons (po_var 5) (pos_nil)))))))))))))))

abbrev st_law_fleet : Stmt := topS 20
theorem sc_law_fleet : FnScope ["script", "start", "cell", "fleet", "k", "one"] ["script", "start"] (defScope st_law_fleet) := ⟨rfl, rfl, rfl, by decide +kernel, rfl, by decide +kernel, by decide +kernel⟩
set_option maxHeartbeats 4000000 in
theorem ok_law_fleet {f : Addr} {fd : FuncData} (F : Fun K "_law_fleet" "_law_fleet" st_law_fleet f fd) (h_law_cell_at : Has P w K mg base "_law_cell_at" 2 2 ["script", "k"] f_law_cell_at) (h_law_ship : Has P w K mg base "_law_ship" 2 3 ["one", "two", "kind"] f_law_ship) (z_range : mg "range" = none) (z_len : mg "len" = none) : FnOk P w K mg base CX0 3 f fd ["script", "start"] (spF K mg 2 f_law_fleet) := by
  obtain ⟨_, _, G_law_cell_at, m_law_cell_at, k_law_cell_at, b_law_cell_at⟩ := h_law_cell_at
  obtain ⟨_, _, G_law_ship, m_law_ship, k_law_ship, b_law_ship⟩ := h_law_ship
  exact fn_ok F sc_law_fleet rfl rfl fun cdv A outer s H E hr => sx_cons (sx_wk (weak_wipe _) (sx_set (i := 2) sc_law_fleet.nd rfl (by first | exact Or.inl rfl | exact Or.inr rfl) (px_call G_law_cell_at (hr.mono (by decide)) (by rfl) m_law_cell_at k_law_cell_at b_law_cell_at passN (pxs_cons (px_var 0) (pxs_cons (px_var 1) (pxs_nil))))))
      (sx_cons (sx_wk (weak_wipe _) (sx_set (i := 3) sc_law_fleet.nd rfl (by first | exact Or.inl rfl | exact Or.inr rfl) (px_lst (pxs_nil))))
      (sx_cons (sx_wk (weak_wipe _) (sx_for (is := [4]) PassesOwn.never rfl (px_itr1 (by rfl) z_range (px_ix (hu_of hr) (px_lst (pxs_cons (px_int) (pxs_cons (px_int) (pxs_cons (px_int) (pxs_cons (px_int) (pxs_cons (px_int) (pxs_cons (px_int) (pxs_cons (px_int) (pxs_cons (px_int) (pxs_nil)))))))))) (px_mod (px_var 2) (px_int)) (fun _ _ => rfl))) (gx_name (pg_name (i := 4) sc_law_fleet.nd rfl (by first | exact Or.inl rfl | exact Or.inr rfl))) (tgName_ok 4) (sx_cons (sx_set (i := 5) sc_law_fleet.nd rfl (by first | exact Or.inl rfl | exact Or.inr rfl) (px_call G_law_cell_at (hr.mono (by decide)) (by rfl) m_law_cell_at k_law_cell_at b_law_cell_at passN (pxs_cons (px_var 0) (pxs_cons (px_add (px_add (px_var 1) (px_int)) (px_mul (px_int) (px_var 4))) (pxs_nil)))))
      (sx_one (sx_wk (weak_wipe _) (sx_append (i := 3) rfl (by first | exact Or.inl rfl | exact Or.inr (Or.inl rfl)) (by decide) (by decide) (po_x (px_call G_law_ship (hr.mono (by decide)) (by rfl) m_law_ship k_law_ship b_law_ship passN (pxs_cons (px_var 5) (pxs_cons (px_call G_law_cell_at (hr.mono (by decide)) (by rfl) m_law_cell_at k_law_cell_at b_law_cell_at passN (pxs_cons (px_var 0) (pxs_cons (px_add (px_add (px_var 1) (px_int)) (px_mul (px_int) (px_var 4))) (pxs_nil)))) (pxs_cons (px_mod (px_fdiv (px_var 2) (px_int)) (px_int)) (pxs_nil))))))))))))
      (sx_cons (sx_wk (weak_wipe _) (sx_if (pb_w (wx_and (pb_c (cx_gt (px_callB call_len snd_len ne_len (by rfl) z_len PySem.boot_len (pxs_cons (px_var 3) (pxs_nil))) (px_int))) (wx_and1 (pb_c (cx_eq hr.units (px_mod (px_fdiv (px_var 2) (px_int)) (px_int)) (px_int)))))) (sx_one (sx_wk (weak_wipe _) (sx_store (i := 3) (hu_of hr) rfl (by first | exact Or.inl rfl | exact Or.inr (Or.inl rfl)) (by decide) (by decide) (px_neg (px_int)) (po_x (px_ix (hu_of hr) (px_var 3) (px_int) (fun _ _ => rfl)))))) (sx_nil)))
      (sx_one (sx_ret (po_var 3))))))

abbrev st_law_names : Stmt := topS 21
theorem sc_law_names : FnScope ["cell", "many", "some", "mixed", "front", "k", "beyond", "p"] ["cell", "many"] (defScope st_law_names) := ⟨rfl, rfl, rfl, by decide +kernel, rfl, by decide +kernel, by decide +kernel⟩
set_option maxHeartbeats 4000000 in
theorem ok_law_names {f : Addr} {fd : FuncData} (F : Fun K "_law_names" "_law_names" st_law_names f fd) (z_range : mg "range" = none) : FnOk P w K mg base CX0 2 f fd ["cell", "many"] (spF K mg 2 f_law_names) := by
  exact fn_ok F sc_law_names rfl rfl fun cdv A outer s H E hr => sx_cons (sx_wk (weak_wipe _) (sx_set (i := 2) sc_law_names.nd rfl (by first | exact Or.inl rfl | exact Or.inr rfl) (px_str)))
      (sx_cons (sx_wk (weak_wipe _) (sx_set (i := 3) sc_law_names.nd rfl (by first | exact Or.inl rfl | exact Or.inr rfl) (px_mod (px_mul (px_var 0) (px_int)) (px_int))))
      (sx_cons (sx_wk (weak_wipe _) (sx_set (i := 4) sc_law_names.nd rfl (by first | exact Or.inl rfl | exact Or.inr rfl) (px_str)))
      (sx_cons (sx_wk (weak_wipe _) (sx_for (is := [5]) PassesOwn.never rfl (px_itr1 (by rfl) z_range (px_mod (px_var 0) (px_int))) (gx_name (pg_name (i := 5) sc_law_names.nd rfl (by first | exact Or.inl rfl | exact Or.inr rfl))) (tgName_ok 5) (sx_one (sx_wk (weak_wipe _) (sx_set (i := 4) sc_law_names.nd rfl (by first | exact Or.inl rfl | exact Or.inr rfl) (px_add (px_var 4) (px_ix (hu_of hr) (px_var 2) (px_mod (px_fdiv (px_var 3) (px_add (px_int) (px_mul (px_int) (px_var 5)))) (px_int)) (fun _ _ => rfl))))))))
      (sx_cons (sx_wk (weak_wipe _) (sx_set (i := 6) sc_law_names.nd rfl (by first | exact Or.inl rfl | exact Or.inr rfl) (px_str)))
      (sx_cons (sx_wk (weak_wipe _) (sx_for (is := [5]) PassesOwn.never rfl (px_itr1 (by rfl) z_range (px_mod (px_fdiv (px_var 0) (px_int)) (px_int))) (gx_name (pg_name (i := 5) sc_law_names.nd rfl (by first | exact Or.inl rfl | exact Or.inr rfl))) (tgName_ok 5) (sx_one (sx_wk (weak_wipe _) (sx_set (i := 6) sc_law_names.nd rfl (by first | exact Or.inl rfl | exact Or.inr rfl) (px_add (px_var 6) (px_ix (hu_of hr) (px_var 2) (px_mod (px_fdiv (px_var 3) (px_add (px_int) (px_mul (px_int) (px_var 5)))) (px_int)) (fun _ _ => rfl))))))))
      (sx_one (sx_ret (po_x (px_comp (is := [7]) (own := [("p", 7)]) rfl sc_law_names.nd (px_itr1 (by rfl) z_range (px_var 1)) (blkOk_by (by kernel_rfl)) (tgName_ok 7) (by decide) (fun _ _ _ _ _ => gx_name (pg_name (i := 7) sc_law_names.nd rfl (by first | exact Or.inl rfl | exact Or.inr rfl))) (fun _ _ _ _ _ => tx_nil) (fun _ _ _ _ _ => px_add (px_add (px_var 4) (px_ix (hu_of hr) (px_var 2) (px_mod (px_add (px_fdiv (px_var 0) (px_int)) (px_mul (px_int) (px_var 7))) (px_int)) (fun _ _ => rfl))) (px_var 6)))))))))))

abbrev st_law_text : Stmt := topS 22
theorem sc_law_text : FnScope ["names", "fleet", "text", "k", "number"] ["names", "fleet"] (defScope st_law_text) := ⟨rfl, rfl, rfl, by decide +kernel, rfl, by decide +kernel, by decide +kernel⟩
set_option maxHeartbeats 4000000 in
theorem ok_law_text {f : Addr} {fd : FuncData} (F : Fun K "_law_text" "_law_text" st_law_text f fd) (z_len : mg "len" = none) (z_range : mg "range" = none) (z_str : mg "str" = none) : FnOk P w K mg base CX0 2 f fd ["names", "fleet"] (spF K mg 2 f_law_text) := by
  exact fn_ok F sc_law_text rfl rfl fun cdv A outer s H E hr => sx_cons (sx_wk (weak_wipe _) (sx_set (i := 2) sc_law_text.nd rfl (by first | exact Or.inl rfl | exact Or.inr rfl) (px_str)))
      (sx_cons (sx_wk (weak_wipe _) (sx_for (is := [3]) PassesOwn.never rfl (px_itr1 (by rfl) z_range (px_callB call_len snd_len ne_len (by rfl) z_len PySem.boot_len (pxs_cons (px_var 1) (pxs_nil)))) (gx_name (pg_name (i := 3) sc_law_text.nd rfl (by first | exact Or.inl rfl | exact Or.inr rfl))) (tgName_ok 3) (sx_cons (sx_wk (weak_wipe _) (sx_if (pb_c (cx_gt (px_var 3) (px_int))) (sx_one (sx_wk (weak_wipe _) (sx_set (i := 2) sc_law_text.nd rfl (by first | exact Or.inl rfl | exact Or.inr rfl) (px_add (px_var 2) (px_str))))) (sx_nil)))
      (sx_cons (sx_wk (weak_wipe _) (sx_set (i := 2) sc_law_text.nd rfl (by first | exact Or.inl rfl | exact Or.inr rfl) (px_add (px_var 2) (px_ix (hu_of hr) (px_var 0) (px_var 3) (fun _ _ => rfl)))))
      (sx_one (sx_wk (weak_wipe _) (sx_for (is := [4]) PassesOwn.never rfl (px_it (px_ix (hu_of hr) (px_var 1) (px_var 3) (fun _ _ => rfl))) (gx_name (pg_name (i := 4) sc_law_text.nd rfl (by first | exact Or.inl rfl | exact Or.inr rfl))) (tgName_ok 4) (sx_one (sx_wk (weak_wipe _) (sx_set (i := 2) sc_law_text.nd rfl (by first | exact Or.inl rfl | exact Or.inr rfl) (px_add (px_add (px_var 2) (px_str)) (px_callTy call_str_int snd_str ne_str (by rfl) z_str (by decide +kernel) (pxs_cons (px_var 4) (pxs_nil))))))))))))))
      (sx_one (sx_ret (po_var 2))))

abbrev st_shown_ship : Stmt := topS 14
theorem sc_shown_ship : FnScope ["name", "ship", "number"] ["name", "ship"] (defScope st_shown_ship) := ⟨rfl, rfl, rfl, by decide +kernel, rfl, by decide +kernel, by decide +kernel⟩
set_option maxHeartbeats 4000000 in
theorem ok_shown_ship {f : Addr} {fd : FuncData} (F : Fun K "shown_ship" "shown_ship" st_shown_ship f fd) (z_str : mg "str" = none) : FnOk P w K mg base CX0 2 f fd ["name", "ship"] (spF K mg 2 f_shown_ship) := by
  exact fn_ok F sc_shown_ship rfl rfl fun cdv A outer s H E hr => sx_one (sx_ret (po_x (px_join (px_str) (px_add (px_lst (pxs_cons (px_var 0) (pxs_nil))) (px_comp (is := [2]) (own := [("number", 2)]) rfl sc_shown_ship.nd (px_it (px_var 1)) (blkOk_by (by kernel_rfl)) (tgName_ok 2) (by decide) (fun _ _ _ _ _ => gx_name (pg_name (i := 2) sc_shown_ship.nd rfl (by first | exact Or.inl rfl | exact Or.inr rfl))) (fun _ _ _ _ _ => tx_nil) (fun _ _ _ _ _ => px_callTy call_str_int snd_str ne_str (by rfl) z_str (by decide +kernel) (pxs_cons (px_var 2) (pxs_nil))))))))

abbrev st_show_fleet : Stmt := topS 15
theorem sc_show_fleet : FnScope ["names", "fleet", "name", "ship"] ["names", "fleet"] (defScope st_show_fleet) := ⟨rfl, rfl, rfl, by decide +kernel, rfl, by decide +kernel, by decide +kernel⟩
set_option maxHeartbeats 4000000 in
theorem ok_show_fleet {f : Addr} {fd : FuncData} (F : Fun K "show_fleet" "show_fleet" st_show_fleet f fd) (h_shown_ship : Has P w K mg base "shown_ship" 2 2 ["name", "ship"] f_shown_ship) (z_zip : mg "zip" = none) : FnOk P w K mg base CX0 3 f fd ["names", "fleet"] (spF K mg 2 f_show_fleet) := by
  obtain ⟨_, _, G_shown_ship, m_shown_ship, k_shown_ship, b_shown_ship⟩ := h_shown_ship
  exact fn_ok F sc_show_fleet rfl rfl fun cdv A outer s H E hr => sx_one (sx_ret (po_x (px_join (px_str) (px_comp (is := [2, 3]) (own := [("name", 2), ("ship", 3)]) rfl sc_show_fleet.nd (px_zip (by rfl) z_zip (px_var 0) (px_var 1)) (blkOk_by (by kernel_rfl)) (tgTup_ok _) (by decide) (fun _ _ _ _ _ => gx_tup rfl (gn_cons (pg_name (i := 2) sc_show_fleet.nd rfl (by first | exact Or.inl rfl | exact Or.inr rfl)) (gn_cons (pg_name (i := 3) sc_show_fleet.nd rfl (by first | exact Or.inl rfl | exact Or.inr rfl)) (gn_nil)))) (fun _ _ _ _ _ => tx_nil) (fun _ _ _ _ _ => px_call G_shown_ship (hr.mono (by decide)) (by rfl) m_shown_ship k_shown_ship b_shown_ship passN (pxs_cons (px_var 2) (pxs_cons (px_var 3) (pxs_nil))))))))

abbrev st_number_of : Stmt := topS 11
theorem sc_number_of : FnScope ["word", "figures", "sign"] ["word"] (defScope st_number_of) := ⟨rfl, rfl, rfl, by decide +kernel, rfl, by decide +kernel, by decide +kernel⟩
set_option maxHeartbeats 4000000 in
theorem ok_number_of {f : Addr} {fd : FuncData} (F : Fun K "number_of" "number_of" st_number_of f fd) (z_len : mg "len" = none) (z_int : mg "int" = none) {t_FIGURES : Tok} (g_FIGURES : mg "FIGURES" = some (.str "0123456789" t_FIGURES)) : FnOk P w K mg base CX0 2 f fd ["word"] (spF K mg 1 f_number_of) := by
  exact fn_ok F sc_number_of rfl rfl fun cdv A outer s H E hr => sx_cons (sx_wk (weak_wipe _) (sx_set (i := 1) sc_number_of.nd rfl (by first | exact Or.inl rfl | exact Or.inr rfl) (px_var 0)))
      (sx_cons (sx_wk (weak_wipe _) (sx_if (pb_c (cx_eq hr.units (px_slice (px_var 0) (ox_none) (ox_some (px_int))) (px_str))) (sx_one (sx_wk (weak_wipe _) (sx_set (i := 1) sc_number_of.nd rfl (by first | exact Or.inl rfl | exact Or.inr rfl) (px_slice (px_var 0) (ox_some (px_int)) (ox_none))))) (sx_nil)))
      (sx_cons (sx_wk (weak_wipe _) (sx_if (pb_w (wx_or (pb_c (cx_eq hr.units (px_var 1) (px_str))) (wx_or (pb_c (cx_gt (px_callB call_len snd_len ne_len (by rfl) z_len PySem.boot_len (pxs_cons (px_var 1) (pxs_nil))) (px_int))) (wx_or1 (pb_w (wx_and (pb_c (cx_eq hr.units (px_ix (hu_of hr) (px_var 1) (px_int) (fun _ _ => rfl)) (px_str))) (wx_and1 (pb_c (cx_ne hr.units (px_var 0) (px_str)))))))))) (sx_one (sx_ret (po_x (px_non)))) (sx_nil)))
      (sx_cons (sx_wk (weak_wipe _) (sx_for (is := [2]) PassesOwn.never rfl (px_itv 1) (gx_name (pg_name (i := 2) sc_number_of.nd rfl (by first | exact Or.inl rfl | exact Or.inr rfl))) (tgName_ok 2) (sx_one (sx_wk (weak_wipe _) (sx_if (pb_c (cx_notin (hu_of hr) (px_var 2) (px_gstr (by rfl) g_FIGURES ⟨_, rfl⟩))) (sx_one (sx_ret (po_x (px_non)))) (sx_nil))))))
      (sx_one (sx_ret (po_x (px_callTy call_int_str snd_intT ne_intT (by rfl) z_int (by decide +kernel) (pxs_cons (px_var 0) (pxs_nil)))))))))

abbrev st_four_of : Stmt := topS 12
theorem sc_four_of : FnScope ["words", "found", "begin", "end", "need", "most", "word"] ["words"] (defScope st_four_of) := ⟨rfl, rfl, rfl, by decide +kernel, rfl, by decide +kernel, by decide +kernel⟩
set_option maxHeartbeats 4000000 in
theorem ok_four_of {f : Addr} {fd : FuncData} (F : Fun K "four_of" "four_of" st_four_of f fd) (h_number_of : Has P w K mg base "number_of" 2 1 ["word"] f_number_of) (z_len : mg "len" = none) {t_FAR : Tok} (g_FAR : mg "FAR" = some (.int 1000000000000000 t_FAR)) : FnOk P w K mg base CX0 3 f fd ["words"] (spF K mg 1 f_four_of) := by
  obtain ⟨_, _, G_number_of, m_number_of, k_number_of, b_number_of⟩ := h_number_of
  exact fn_ok F sc_four_of rfl rfl fun cdv A outer s H E hr => sx_cons (sx_wk (weak_wipe _) (sx_setLc (i := 1) (is := [6]) (own := [("word", 6)]) rfl sc_four_of.nd rfl rfl (sw_true rfl rfl rfl (by decide +kernel)) (px_it (px_var 0)) (blkOk_by (by kernel_rfl)) (tgName_ok 6) (by decide) (fun _ _ _ _ _ => gx_name (pg_name (i := 6) sc_four_of.nd rfl (by first | exact Or.inl rfl | exact Or.inr rfl))) (fun _ _ _ _ _ => tx_nil) (fun _ _ _ _ _ => px_call G_number_of (hr.mono (by decide)) (by rfl) m_number_of k_number_of b_number_of passN (pxs_cons (px_var 6) (pxs_nil)))))
      (sx_cons (sx_wk (weak_wipe _) (sx_if (pb_w (wx_or (pb_c (cx_ne hr.units (px_callB call_len snd_len ne_len (by rfl) z_len PySem.boot_len (pxs_cons (px_var 1) (pxs_nil))) (px_int))) (wx_or1 (pb_c (cx_in (hu_of hr) (px_non) (px_var 1)))))) (sx_one (sx_ret (po_x (px_non)))) (sx_nil)))
      (sx_cons (sx_wk (weak_wipe _) (sx_unpL rfl (px_var 1) (gn_cons (pg_name (i := 2) sc_four_of.nd rfl (by first | exact Or.inl rfl | exact Or.inr rfl)) (gn_cons (pg_name (i := 3) sc_four_of.nd rfl (by first | exact Or.inl rfl | exact Or.inr rfl)) (gn_cons (pg_name (i := 4) sc_four_of.nd rfl (by first | exact Or.inl rfl | exact Or.inr rfl)) (gn_cons (pg_name (i := 5) sc_four_of.nd rfl (by first | exact Or.inl rfl | exact Or.inr rfl)) (gn_nil)))))))
      (sx_cons (sx_wk (weak_wipe _) (sx_if (pb_w (wx_or (pb_not (pb_chLE2 (px_sub (px_int) (px_gint (by rfl) g_FAR ⟨_, rfl⟩)) (px_var 2) (px_gint (by rfl) g_FAR ⟨_, rfl⟩))) (wx_or (pb_not (pb_chLE2 (px_sub (px_int) (px_gint (by rfl) g_FAR ⟨_, rfl⟩)) (px_var 3) (px_gint (by rfl) g_FAR ⟨_, rfl⟩))) (wx_or1 (pb_not (pb_chLE2 (px_int) (px_var 5) (px_gint (by rfl) g_FAR ⟨_, rfl⟩))))))) (sx_one (sx_ret (po_x (px_non)))) (sx_nil)))
      (sx_one (sx_ret (po_tup (pos_cons (po_var 2) (pos_cons (po_var 3) (pos_cons (po_var 4) (pos_cons (po_var 5) (pos_nil)))))))))))

abbrev st_is_name : Stmt := topS 10
theorem sc_is_name : FnScope ["word", "sign"] ["word"] (defScope st_is_name) := ⟨rfl, rfl, rfl, by decide +kernel, rfl, by decide +kernel, by decide +kernel⟩
set_option maxHeartbeats 4000000 in
theorem ok_is_name {f : Addr} {fd : FuncData} (F : Fun K "is_name" "is_name" st_is_name f fd) (z_len : mg "len" = none) {t_LETTERS : Tok} (g_LETTERS : mg "LETTERS" = some (.str "abcdefghijklmnopqrstuvwxyz" t_LETTERS)) : FnOk P w K mg base CX0 2 f fd ["word"] (spF K mg 1 f_is_name) := by
  exact fn_ok F sc_is_name rfl rfl fun cdv A outer s H E hr => sx_cons (sx_wk (weak_wipe _) (sx_for (is := [1]) PassesOwn.never rfl (px_itv 0) (gx_name (pg_name (i := 1) sc_is_name.nd rfl (by first | exact Or.inl rfl | exact Or.inr rfl))) (tgName_ok 1) (sx_one (sx_wk (weak_wipe _) (sx_if (pb_c (cx_notin (hu_of hr) (px_var 1) (px_gstr (by rfl) g_LETTERS ⟨_, rfl⟩))) (sx_one (sx_ret (po_x (px_bl)))) (sx_nil))))))
      (sx_one (sx_ret (po_x (px_chLE2 (px_int) (px_callB call_len snd_len ne_len (by rfl) z_len PySem.boot_len (pxs_cons (px_var 0) (pxs_nil))) (px_int)))))

abbrev st_whole : Stmt := topS 4
theorem sc_whole : FnScope ["thing"] ["thing"] (defScope st_whole) := ⟨rfl, rfl, rfl, by decide +kernel, rfl, by decide +kernel, by decide +kernel⟩
set_option maxHeartbeats 4000000 in
theorem ok_whole {f : Addr} {fd : FuncData} (F : Fun K "whole" "whole" st_whole f fd) (z_isinstance : mg "isinstance" = none) (z_int : mg "int" = none) (z_bool : mg "bool" = none) : FnOk P w K mg base CX0 2 f fd ["thing"] (spF K mg 1 f_whole) := by
  exact fn_ok F sc_whole rfl rfl fun cdv A outer s H E hr => sx_one (sx_ret (po_x (px_and (px_isi k_int (by rfl) z_isinstance (by decide +kernel) (by rfl) z_int (by decide +kernel) (px_var 0)) (px_one (px_not (px_isi k_bool (by rfl) z_isinstance (by decide +kernel) (by rfl) z_bool (by decide +kernel) (px_var 0)))))))

abbrev st_is_ship : Stmt := topS 5
theorem sc_is_ship : FnScope ["thing", "part", "begin", "end", "need", "most"] ["thing"] (defScope st_is_ship) := ⟨rfl, rfl, rfl, by decide +kernel, rfl, by decide +kernel, by decide +kernel⟩
set_option maxHeartbeats 4000000 in
theorem ok_is_ship {f : Addr} {fd : FuncData} (F : Fun K "is_ship" "is_ship" st_is_ship f fd) (h_whole : Has P w K mg base "whole" 2 1 ["thing"] f_whole) (z_isinstance : mg "isinstance" = none) (z_tuple : mg "tuple" = none) (z_len : mg "len" = none) : FnOk P w K mg base CX0 3 f fd ["thing"] (spF K mg 1 f_is_ship) := by
  obtain ⟨_, _, G_whole, m_whole, k_whole, b_whole⟩ := h_whole
  exact fn_ok F sc_is_ship rfl rfl fun cdv A outer s H E hr => sx_cons (sx_wk (weak_wipe _) (sx_if (pb_w (wx_or (pb_not (pb_v (px_isi k_tuple (by rfl) z_isinstance (by decide +kernel) (by rfl) z_tuple (by decide +kernel) (px_var 0)))) (wx_or1 (pb_c (cx_ne hr.units (px_callB call_len snd_len ne_len (by rfl) z_len PySem.boot_len (pxs_cons (px_var 0) (pxs_nil))) (px_int)))))) (sx_one (sx_ret (po_x (px_bl)))) (sx_nil)))
      (sx_cons (sx_wk (weak_wipe _) (sx_for (is := [1]) PassesOwn.never rfl (px_itv 0) (gx_name (pg_name (i := 1) sc_is_ship.nd rfl (by first | exact Or.inl rfl | exact Or.inr rfl))) (tgName_ok 1) (sx_one (sx_wk (weak_wipe _) (sx_if (pb_not (pb_v (px_call G_whole (hr.mono (by decide)) (by rfl) m_whole k_whole b_whole passN (pxs_cons (px_var 1) (pxs_nil))))) (sx_one (sx_ret (po_x (px_bl)))) (sx_nil))))))
      (sx_cons (sx_wk (weak_wipe _) (sx_unp rfl (px_var 0) (gn_cons (pg_name (i := 2) sc_is_ship.nd rfl (by first | exact Or.inl rfl | exact Or.inr rfl)) (gn_cons (pg_name (i := 3) sc_is_ship.nd rfl (by first | exact Or.inl rfl | exact Or.inr rfl)) (gn_cons (pg_name (i := 4) sc_is_ship.nd rfl (by first | exact Or.inl rfl | exact Or.inr rfl)) (gn_cons (pg_name (i := 5) sc_is_ship.nd rfl (by first | exact Or.inl rfl | exact Or.inr rfl)) (gn_nil)))))))
      (sx_one (sx_ret (po_x (px_and (px_c (cx_lt (px_var 2) (px_var 3))) (px_and (px_c (cx_ge (px_var 5) (px_int))) (px_one (px_chLE2 (px_int) (px_var 4) (px_mul (px_var 5) (px_sub (px_var 3) (px_var 2))))))))))))

abbrev st_read_fleet : Stmt := topS 13
theorem sc_read_fleet : FnScope ["text", "names", "fleet", "part", "words", "ship"] ["text"] (defScope st_read_fleet) := ⟨rfl, rfl, rfl, by decide +kernel, rfl, by decide +kernel, by decide +kernel⟩
set_option maxHeartbeats 4000000 in
theorem ok_read_fleet {f : Addr} {fd : FuncData} (F : Fun K "read_fleet" "read_fleet" st_read_fleet f fd) (h_four_of : Has P w K mg base "four_of" 3 1 ["words"] f_four_of) (h_is_name : Has P w K mg base "is_name" 2 1 ["word"] f_is_name) (h_is_ship : Has P w K mg base "is_ship" 3 1 ["thing"] f_is_ship) (z_isinstance : mg "isinstance" = none) (z_str : mg "str" = none) : FnOk P w K mg base CX0 4 f fd ["text"] (spF K mg 1 f_read_fleet) := by
  obtain ⟨_, _, G_four_of, m_four_of, k_four_of, b_four_of⟩ := h_four_of
  obtain ⟨_, _, G_is_name, m_is_name, k_is_name, b_is_name⟩ := h_is_name
  obtain ⟨_, _, G_is_ship, m_is_ship, k_is_ship, b_is_ship⟩ := h_is_ship
  exact fn_ok F sc_read_fleet rfl rfl fun cdv A outer s H E hr => sx_cons (sx_wk (weak_wipe _) (sx_if (pb_not (pb_v (px_isi k_str (by rfl) z_isinstance (by decide +kernel) (by rfl) z_str (by decide +kernel) (px_var 0)))) (sx_one (sx_no)) (sx_nil)))
      (sx_cons (sx_wk (weak_wipe _) (sx_set (i := 1) sc_read_fleet.nd rfl (by first | exact Or.inl rfl | exact Or.inr rfl) (px_lst (pxs_nil))))
      (sx_cons (sx_wk (weak_wipe _) (sx_set (i := 2) sc_read_fleet.nd rfl (by first | exact Or.inl rfl | exact Or.inr rfl) (px_lst (pxs_nil))))
      (sx_cons (sx_wk (weak_wipe _) (sx_if (pb_c (cx_eq hr.units (px_var 0) (px_str))) (sx_one (sx_ret (po_tup (pos_cons (po_var 1) (pos_cons (po_var 2) (pos_nil)))))) (sx_nil)))
      (sx_cons (sx_wk (weak_wipe _) (sx_for (is := [3]) PassesOwn.never rfl (px_it (px_split (px_var 0) (px_str))) (gx_name (pg_name (i := 3) sc_read_fleet.nd rfl (by first | exact Or.inl rfl | exact Or.inr rfl))) (tgName_ok 3) (sx_cons (sx_wk (weak_wipe _) (sx_set (i := 4) sc_read_fleet.nd rfl (by first | exact Or.inl rfl | exact Or.inr rfl) (px_split (px_var 3) (px_str))))
      (sx_cons (sx_wk (weak_wipe _) (sx_set (i := 5) sc_read_fleet.nd rfl (by first | exact Or.inl rfl | exact Or.inr rfl) (px_call G_four_of (hr.mono (by decide)) (by rfl) m_four_of k_four_of b_four_of passN (pxs_cons (px_slice (px_var 4) (ox_some (px_int)) (ox_none)) (pxs_nil)))))
      (sx_cons (sx_wk (weak_wipe _) (sx_if (pb_w (wx_or (pb_not (pb_v (px_call G_is_name (hr.mono (by decide)) (by rfl) m_is_name k_is_name b_is_name passN (pxs_cons (px_ix (hu_of hr) (px_var 4) (px_int) (fun _ _ => rfl)) (pxs_nil))))) (wx_or (pb_c (cx_in (hu_of hr) (px_ix (hu_of hr) (px_var 4) (px_int) (fun _ _ => rfl)) (px_var 1))) (wx_or (pb_c (cx_is (px_var 5) (px_non))) (wx_or1 (pb_not (pb_v (px_call G_is_ship (hr.mono (by decide)) (by rfl) m_is_ship k_is_ship b_is_ship passN (pxs_cons (px_var 5) (pxs_nil)))))))))) (sx_one (sx_no)) (sx_nil)))
      (sx_cons (sx_wk (weak_wipe _) (sx_append (i := 1) rfl (by first | exact Or.inl rfl | exact Or.inr (Or.inl rfl)) (by decide) (by decide) (po_x (px_ix (hu_of hr) (px_var 4) (px_int) (fun _ _ => rfl)))))
      (sx_one (sx_wk (weak_wipe _) (sx_append (i := 2) rfl (by first | exact Or.inl rfl | exact Or.inr (Or.inl rfl)) (by decide) (by decide) (po_var 5))))))))))
      (sx_one (sx_ret (po_tup (pos_cons (po_var 1) (pos_cons (po_var 2) (pos_nil))))))))))

abbrev st_law_whole : Stmt := topS 18
theorem sc_law_whole : FnScope ["found"] ["found"] (defScope st_law_whole) := ⟨rfl, rfl, rfl, by decide +kernel, rfl, by decide +kernel, by decide +kernel⟩
set_option maxHeartbeats 4000000 in
theorem ok_law_whole {f : Addr} {fd : FuncData} (F : Fun K "_law_whole" "_law_whole" st_law_whole f fd) (z_isinstance : mg "isinstance" = none) (z_int : mg "int" = none) (z_bool : mg "bool" = none) : FnOk P w K mg base CX0 2 f fd ["found"] (spF K mg 1 f_law_whole) := by
  exact fn_ok F sc_law_whole rfl rfl fun cdv A outer s H E hr => sx_one (sx_ret (po_x (px_and (px_isi k_int (by rfl) z_isinstance (by decide +kernel) (by rfl) z_int (by decide +kernel) (px_var 0)) (px_one (px_not (px_isi k_bool (by rfl) z_isinstance (by decide +kernel) (by rfl) z_bool (by decide +kernel) (px_var 0)))))))

abbrev st_law_k70 : Stmt := topS 23
theorem sc_law_k70 : FnScope ["script", "fleet", "names", "text", "handed", "shown", "k", "found", "ship", "part"] ["script"] (defScope st_law_k70) := ⟨rfl, rfl, rfl, by decide +kernel, rfl, by decide +kernel, by decide +kernel⟩
set_option maxHeartbeats 4000000 in
theorem ok_law_k70 {f : Addr} {fd : FuncData} (F : Fun K "law" "law" st_law_k70 f fd) (h_law_fleet : Has P w K mg base "_law_fleet" 3 2 ["script", "start"] f_law_fleet) (h_law_names : Has P w K mg base "_law_names" 2 2 ["cell", "many"] f_law_names) (h_law_cell_at : Has P w K mg base "_law_cell_at" 2 2 ["script", "k"] f_law_cell_at) (h_law_text : Has P w K mg base "_law_text" 2 2 ["names", "fleet"] f_law_text) (h_show_fleet : Has P w K mg base "show_fleet" 3 2 ["names", "fleet"] f_show_fleet) (h_read_fleet : Has P w K mg base "read_fleet" 4 1 ["text"] f_read_fleet) (h_law_whole : Has P w K mg base "_law_whole" 2 1 ["found"] f_law_whole) (z_len : mg "len" = none) (z_list : mg "list" = none) (z_isinstance : mg "isinstance" = none) (z_str : mg "str" = none) (z_range : mg "range" = none) (z_tuple : mg "tuple" = none) : FnOk P w K mg base CX0 5 f fd ["script"] (spF K mg 1 f_law_k70) := by
  obtain ⟨_, _, G_law_fleet, m_law_fleet, k_law_fleet, b_law_fleet⟩ := h_law_fleet
  obtain ⟨_, _, G_law_names, m_law_names, k_law_names, b_law_names⟩ := h_law_names
  obtain ⟨_, _, G_law_cell_at, m_law_cell_at, k_law_cell_at, b_law_cell_at⟩ := h_law_cell_at
  obtain ⟨_, _, G_law_text, m_law_text, k_law_text, b_law_text⟩ := h_law_text
  obtain ⟨_, _, G_show_fleet, m_show_fleet, k_show_fleet, b_show_fleet⟩ := h_show_fleet
  obtain ⟨_, _, G_read_fleet, m_read_fleet, k_read_fleet, b_read_fleet⟩ := h_read_fleet
  obtain ⟨_, _, G_law_whole, m_law_whole, k_law_whole, b_law_whole⟩ := h_law_whole
  exact fn_ok F sc_law_k70 rfl rfl fun cdv A outer s H E hr => sx_cons (sx_wk (weak_wipe _) (sx_set (i := 1) sc_law_k70.nd rfl (by first | exact Or.inl rfl | exact Or.inr rfl) (px_call G_law_fleet (hr.mono (by decide)) (by rfl) m_law_fleet k_law_fleet b_law_fleet passN (pxs_cons (px_var 0) (pxs_cons (px_int) (pxs_nil))))))
      (sx_cons (sx_wk (weak_wipe _) (sx_set (i := 2) sc_law_k70.nd rfl (by first | exact Or.inl rfl | exact Or.inr rfl) (px_call G_law_names (hr.mono (by decide)) (by rfl) m_law_names k_law_names b_law_names passN (pxs_cons (px_call G_law_cell_at (hr.mono (by decide)) (by rfl) m_law_cell_at k_law_cell_at b_law_cell_at passN (pxs_cons (px_var 0) (pxs_cons (px_int) (pxs_nil)))) (pxs_cons (px_callB call_len snd_len ne_len (by rfl) z_len PySem.boot_len (pxs_cons (px_var 1) (pxs_nil))) (pxs_nil))))))
      (sx_cons (sx_wk (weak_wipe _) (sx_set (i := 3) sc_law_k70.nd rfl (by first | exact Or.inl rfl | exact Or.inr rfl) (px_call G_law_text (hr.mono (by decide)) (by rfl) m_law_text k_law_text b_law_text passN (pxs_cons (px_var 2) (pxs_cons (px_var 1) (pxs_nil))))))
      (sx_cons (sx_wk (weak_wipe _) (sx_set (i := 4) sc_law_k70.nd rfl (by first | exact Or.inl rfl | exact Or.inr rfl) (px_lst (pxs_cons (px_list rfl (by rfl) z_list (px_var 2)) (pxs_cons (px_list rfl (by rfl) z_list (px_var 1)) (pxs_nil))))))
      (sx_cons (sx_wk (weak_wipe _) (sx_set (i := 5) sc_law_k70.nd rfl (by first | exact Or.inl rfl | exact Or.inr rfl) (px_call G_show_fleet (hr.mono (by decide)) (by rfl) m_show_fleet k_show_fleet b_show_fleet passN (pxs_cons (px_ix (hu_of hr) (px_var 4) (px_int) (fun _ _ => rfl)) (pxs_cons (px_ix (hu_of hr) (px_var 4) (px_int) (fun _ _ => rfl)) (pxs_nil))))))
      (sx_cons (sx_wk (weak_wipe _) (sx_if (pb_w (wx_or (pb_not (pb_v (px_isi k_str (by rfl) z_isinstance (by decide +kernel) (by rfl) z_str (by decide +kernel) (px_var 5)))) (wx_or (pb_c (cx_ne hr.units (px_var 5) (px_var 3))) (wx_or1 (pb_c (cx_ne hr.units (px_var 4) (px_lst (pxs_cons (px_var 2) (pxs_cons (px_var 1) (pxs_nil)))))))))) (sx_one (sx_ret (po_x (px_bl)))) (sx_nil)))
      (sx_cons (sx_wk (weak_wipe _) (sx_for (is := [6]) PassesOwn.never rfl (px_itr1 (by rfl) z_range (px_int)) (gx_name (pg_name (i := 6) sc_law_k70.nd rfl (by first | exact Or.inl rfl | exact Or.inr rfl))) (tgName_ok 6) (sx_cons (sx_wk (weak_wipe _) (sx_set (i := 7) sc_law_k70.nd rfl (by first | exact Or.inl rfl | exact Or.inr rfl) (px_call G_read_fleet (hr.mono (by decide)) (by rfl) m_read_fleet k_read_fleet b_read_fleet passN (pxs_cons (px_var 3) (pxs_nil)))))
      (sx_cons (sx_wk (weak_wipe _) (sx_if (pb_w (wx_or (pb_not (pb_v (px_isi k_tuple (by rfl) z_isinstance (by decide +kernel) (by rfl) z_tuple (by decide +kernel) (px_var 7)))) (wx_or1 (pb_c (cx_ne hr.units (px_callB call_len snd_len ne_len (by rfl) z_len PySem.boot_len (pxs_cons (px_var 7) (pxs_nil))) (px_int)))))) (sx_one (sx_ret (po_x (px_bl)))) (sx_nil)))
      (sx_cons (sx_wk (weak_wipe _) (sx_if (pb_w (wx_or (pb_not (pb_v (px_isi k_list (by rfl) z_isinstance (by decide +kernel) (by rfl) z_list (by decide +kernel) (px_ix (hu_of hr) (px_var 7) (px_int) (fun _ _ => rfl))))) (wx_or1 (pb_not (pb_v (px_isi k_list (by rfl) z_isinstance (by decide +kernel) (by rfl) z_list (by decide +kernel) (px_ix (hu_of hr) (px_var 7) (px_int) (fun _ _ => rfl)))))))) (sx_one (sx_ret (po_x (px_bl)))) (sx_nil)))
      (sx_cons (sx_wk (weak_wipe _) (sx_if (pb_w (wx_or (pb_c (cx_ne hr.units (px_ix (hu_of hr) (px_var 7) (px_int) (fun _ _ => rfl)) (px_var 2))) (wx_or1 (pb_c (cx_ne hr.units (px_ix (hu_of hr) (px_var 7) (px_int) (fun _ _ => rfl)) (px_var 1)))))) (sx_one (sx_ret (po_x (px_bl)))) (sx_nil)))
      (sx_cons (sx_wk (weak_wipe _) (sx_forAny (is := [8]) PassesOwn.never rfl (px_it (px_ix (hu_of hr) (px_var 7) (px_int) (fun _ _ => rfl))) (gx_name (pg_name (i := 8) sc_law_k70.nd rfl (by first | exact Or.inl rfl | exact Or.inr rfl))) (tgName_ok 8) (pb_w (wx_or (pb_not (pb_v (px_isi k_tuple (by rfl) z_isinstance (by decide +kernel) (by rfl) z_tuple (by decide +kernel) (px_var 8)))) (wx_or1 (pb_c (cx_ne hr.units (px_comp (is := [9]) (own := [("part", 9)]) rfl sc_law_k70.nd (px_it (px_var 8)) (blkOk_by (by kernel_rfl)) (tgName_ok 9) (by decide) (fun _ _ _ _ _ => gx_name (pg_name (i := 9) sc_law_k70.nd rfl (by first | exact Or.inl rfl | exact Or.inr rfl))) (fun _ _ _ _ _ => tx_one (pb_not (pb_v (px_call G_law_whole (hr.mono (by decide)) (by rfl) m_law_whole k_law_whole b_law_whole passN (pxs_cons (px_var 9) (pxs_nil)))))) (fun _ _ _ _ _ => px_var 9)) (px_lst (pxs_nil))))))) (po_x (px_bl))))
      (sx_cons (sx_wk (weak_wipe _) (sx_appendT (i := 7) rfl (by first | exact Or.inl rfl | exact Or.inr (Or.inl rfl)) (by decide) (by decide) (px_int) (fun _ _ => rfl) (px_str)))
      (sx_one (sx_wk (weak_wipe _) (sx_clearT (i := 7) rfl (by first | exact Or.inl rfl | exact Or.inr (Or.inl rfl)) (by decide) (by decide) (px_int) (fun _ _ => rfl))))))))))))
      (sx_one (sx_ret (po_x (px_bl))))))))))
end
set_option maxHeartbeats 8000000 in
theorem all_mk {l : PySem.W.OpenLaw} {w : World} {K : PySem.W.Frag} {h : Heap} {mg : Str → Option Value} {fa f1 f2 f3 f4 f5 f6 f7 f8 f9 f10 f11 f12 f13 f14 f15 : Addr} (X : K.In h) (G : h.Ns mainGlobals mg) (hfa : mg "law" = some (.ref fa))
    {od1 an1 od2 an2 od3 an3 od4 an4 od5 an5 od6 an6 od7 an7 od8 an8 od9 an9 od10 an10 od11 an11 od12 an12 od13 an13 od14 an14 od15 an15 : Option Addr} {sl1 sl2 sl3 sl4 sl5 sl6 sl7 sl8 sl9 sl10 sl11 sl12 sl13 sl14 sl15 : Array (Option Value)} {oc1 kV1 dc1 pm1 cd1 ct1 oc2 kV2 dc2 pm2 cd2 ct2 oc3 kV3 dc3 pm3 cd3 ct3 oc4 kV4 dc4 pm4 cd4 ct4 oc5 kV5 dc5 pm5 cd5 ct5 oc6 kV6 dc6 pm6 cd6 ct6 oc7 kV7 dc7 pm7 cd7 ct7 oc8 kV8 dc8 pm8 cd8 ct8 oc9 kV9 dc9 pm9 cd9 ct9 oc10 kV10 dc10 pm10 cd10 ct10 oc11 kV11 dc11 pm11 cd11 ct11 oc12 kV12 dc12 pm12 cd12 ct12 oc13 kV13 dc13 pm13 cd13 ct13 oc14 kV14 dc14 pm14 cd14 ct14 oc15 kV15 dc15 pm15 cd15 ct15 : Value}
    (a1 : PySem.W.nsIn K mainGlobals "_law_cell_at" = some (some (.ref f1))) (l1 : K.lookup f1 = some ⟨oc1, od1, .func (PySem.W.fnOf "_law_cell_at" "_law_cell_at" (defArgs st_law_cell_at) (defBody st_law_cell_at) (defScope st_law_cell_at) .none kV1 dc1 pm1 an1 cd1 ct1), sl1⟩) (c1 : PySem.W.codeIn K cd1 "_law_cell_at" = true) (k1 : PySem.W.keepIn K (.ref f1) = true)
    (a2 : PySem.W.nsIn K mainGlobals "_law_ship" = some (some (.ref f2))) (l2 : K.lookup f2 = some ⟨oc2, od2, .func (PySem.W.fnOf "_law_ship" "_law_ship" (defArgs st_law_ship) (defBody st_law_ship) (defScope st_law_ship) .none kV2 dc2 pm2 an2 cd2 ct2), sl2⟩) (c2 : PySem.W.codeIn K cd2 "_law_ship" = true) (k2 : PySem.W.keepIn K (.ref f2) = true)
    (a3 : PySem.W.nsIn K mainGlobals "_law_fleet" = some (some (.ref f3))) (l3 : K.lookup f3 = some ⟨oc3, od3, .func (PySem.W.fnOf "_law_fleet" "_law_fleet" (defArgs st_law_fleet) (defBody st_law_fleet) (defScope st_law_fleet) .none kV3 dc3 pm3 an3 cd3 ct3), sl3⟩) (c3 : PySem.W.codeIn K cd3 "_law_fleet" = true) (k3 : PySem.W.keepIn K (.ref f3) = true)
    (a4 : PySem.W.nsIn K mainGlobals "_law_names" = some (some (.ref f4))) (l4 : K.lookup f4 = some ⟨oc4, od4, .func (PySem.W.fnOf "_law_names" "_law_names" (defArgs st_law_names) (defBody st_law_names) (defScope st_law_names) .none kV4 dc4 pm4 an4 cd4 ct4), sl4⟩) (c4 : PySem.W.codeIn K cd4 "_law_names" = true) (k4 : PySem.W.keepIn K (.ref f4) = true)
    (a5 : PySem.W.nsIn K mainGlobals "_law_text" = some (some (.ref f5))) (l5 : K.lookup f5 = some ⟨oc5, od5, .func (PySem.W.fnOf "_law_text" "_law_text" (defArgs st_law_text) (defBody st_law_text) (defScope st_law_text) .none kV5 dc5 pm5 an5 cd5 ct5), sl5⟩) (c5 : PySem.W.codeIn K cd5 "_law_text" = true) (k5 : PySem.W.keepIn K (.ref f5) = true)
    (a6 : PySem.W.nsIn K mainGlobals "shown_ship" = some (some (.ref f6))) (l6 : K.lookup f6 = some ⟨oc6, od6, .func (PySem.W.fnOf "shown_ship" "shown_ship" (defArgs st_shown_ship) (defBody st_shown_ship) (defScope st_shown_ship) .none kV6 dc6 pm6 an6 cd6 ct6), sl6⟩) (c6 : PySem.W.codeIn K cd6 "shown_ship" = true) (k6 : PySem.W.keepIn K (.ref f6) = true)
    (a7 : PySem.W.nsIn K mainGlobals "show_fleet" = some (some (.ref f7))) (l7 : K.lookup f7 = some ⟨oc7, od7, .func (PySem.W.fnOf "show_fleet" "show_fleet" (defArgs st_show_fleet) (defBody st_show_fleet) (defScope st_show_fleet) .none kV7 dc7 pm7 an7 cd7 ct7), sl7⟩) (c7 : PySem.W.codeIn K cd7 "show_fleet" = true) (k7 : PySem.W.keepIn K (.ref f7) = true)
    (a8 : PySem.W.nsIn K mainGlobals "number_of" = some (some (.ref f8))) (l8 : K.lookup f8 = some ⟨oc8, od8, .func (PySem.W.fnOf "number_of" "number_of" (defArgs st_number_of) (defBody st_number_of) (defScope st_number_of) .none kV8 dc8 pm8 an8 cd8 ct8), sl8⟩) (c8 : PySem.W.codeIn K cd8 "number_of" = true) (k8 : PySem.W.keepIn K (.ref f8) = true)
    (a9 : PySem.W.nsIn K mainGlobals "four_of" = some (some (.ref f9))) (l9 : K.lookup f9 = some ⟨oc9, od9, .func (PySem.W.fnOf "four_of" "four_of" (defArgs st_four_of) (defBody st_four_of) (defScope st_four_of) .none kV9 dc9 pm9 an9 cd9 ct9), sl9⟩) (c9 : PySem.W.codeIn K cd9 "four_of" = true) (k9 : PySem.W.keepIn K (.ref f9) = true)
    (a10 : PySem.W.nsIn K mainGlobals "is_name" = some (some (.ref f10))) (l10 : K.lookup f10 = some ⟨oc10, od10, .func (PySem.W.fnOf "is_name" "is_name" (defArgs st_is_name) (defBody st_is_name) (defScope st_is_name) .none kV10 dc10 pm10 an10 cd10 ct10), sl10⟩) (c10 : PySem.W.codeIn K cd10 "is_name" = true) (k10 : PySem.W.keepIn K (.ref f10) = true)
    (a11 : PySem.W.nsIn K mainGlobals "whole" = some (some (.ref f11))) (l11 : K.lookup f11 = some ⟨oc11, od11, .func (PySem.W.fnOf "whole" "whole" (defArgs st_whole) (defBody st_whole) (defScope st_whole) .none kV11 dc11 pm11 an11 cd11 ct11), sl11⟩) (c11 : PySem.W.codeIn K cd11 "whole" = true) (k11 : PySem.W.keepIn K (.ref f11) = true)
    (a12 : PySem.W.nsIn K mainGlobals "is_ship" = some (some (.ref f12))) (l12 : K.lookup f12 = some ⟨oc12, od12, .func (PySem.W.fnOf "is_ship" "is_ship" (defArgs st_is_ship) (defBody st_is_ship) (defScope st_is_ship) .none kV12 dc12 pm12 an12 cd12 ct12), sl12⟩) (c12 : PySem.W.codeIn K cd12 "is_ship" = true) (k12 : PySem.W.keepIn K (.ref f12) = true)
    (a13 : PySem.W.nsIn K mainGlobals "read_fleet" = some (some (.ref f13))) (l13 : K.lookup f13 = some ⟨oc13, od13, .func (PySem.W.fnOf "read_fleet" "read_fleet" (defArgs st_read_fleet) (defBody st_read_fleet) (defScope st_read_fleet) .none kV13 dc13 pm13 an13 cd13 ct13), sl13⟩) (c13 : PySem.W.codeIn K cd13 "read_fleet" = true) (k13 : PySem.W.keepIn K (.ref f13) = true)
    (a14 : PySem.W.nsIn K mainGlobals "_law_whole" = some (some (.ref f14))) (l14 : K.lookup f14 = some ⟨oc14, od14, .func (PySem.W.fnOf "_law_whole" "_law_whole" (defArgs st_law_whole) (defBody st_law_whole) (defScope st_law_whole) .none kV14 dc14 pm14 an14 cd14 ct14), sl14⟩) (c14 : PySem.W.codeIn K cd14 "_law_whole" = true) (k14 : PySem.W.keepIn K (.ref f14) = true)
    (a15 : PySem.W.nsIn K mainGlobals "law" = some (some (.ref f15))) (l15 : K.lookup f15 = some ⟨oc15, od15, .func (PySem.W.fnOf "law" "law" (defArgs st_law_k70) (defBody st_law_k70) (defScope st_law_k70) .none kV15 dc15 pm15 an15 cd15 ct15), sl15⟩) (c15 : PySem.W.codeIn K cd15 "law" = true) (k15 : PySem.W.keepIn K (.ref f15) = true)
    (z_len : PySem.W.nsIn K mainGlobals "len" = some none)
    (z_min : PySem.W.nsIn K mainGlobals "min" = some none)
    (z_range : PySem.W.nsIn K mainGlobals "range" = some none)
    (z_str : PySem.W.nsIn K mainGlobals "str" = some none)
    (z_zip : PySem.W.nsIn K mainGlobals "zip" = some none)
    (z_int : PySem.W.nsIn K mainGlobals "int" = some none)
    (z_isinstance : PySem.W.nsIn K mainGlobals "isinstance" = some none)
    (z_bool : PySem.W.nsIn K mainGlobals "bool" = some none)
    (z_tuple : PySem.W.nsIn K mainGlobals "tuple" = some none)
    (z_list : PySem.W.nsIn K mainGlobals "list" = some none)
    {t_FIGURES : Tok} (g_FIGURES : PySem.W.nsIn K mainGlobals "FIGURES" = some (some (.str "0123456789" t_FIGURES)))
    {t_FAR : Tok} (g_FAR : PySem.W.nsIn K mainGlobals "FAR" = some (some (.int 1000000000000000 t_FAR)))
    {t_LETTERS : Tok} (g_LETTERS : PySem.W.nsIn K mainGlobals "LETTERS" = some (some (.str "abcdefghijklmnopqrstuvwxyz" t_LETTERS)))
    : ∃ fd : FuncData, (∀ (s : Shared) (v : Value), BindsTo s fd ⟨[v], []⟩ [("script", v)]) ∧ ∀ base : Heap, K.In base → base.Ns mainGlobals mg → FnOk l.prog w K mg base CX0 5 fa fd ["script"] (spL K) := by
  have e := hfa.symm.trans (PySem.W.mg_of X G a15)
  cases e
  have F1 := fun_mk (st := st_law_cell_at) l1 c1 k1
  have b1 := F1.binds (ps := ["script", "k"]) fun _ _ _ _ _ _ us hl => match us, hl with | [_, _], _ => rfl
  have F2 := fun_mk (st := st_law_ship) l2 c2 k2
  have b2 := F2.binds (ps := ["one", "two", "kind"]) fun _ _ _ _ _ _ us hl => match us, hl with | [_, _, _], _ => rfl
  have F3 := fun_mk (st := st_law_fleet) l3 c3 k3
  have b3 := F3.binds (ps := ["script", "start"]) fun _ _ _ _ _ _ us hl => match us, hl with | [_, _], _ => rfl
  have F4 := fun_mk (st := st_law_names) l4 c4 k4
  have b4 := F4.binds (ps := ["cell", "many"]) fun _ _ _ _ _ _ us hl => match us, hl with | [_, _], _ => rfl
  have F5 := fun_mk (st := st_law_text) l5 c5 k5
  have b5 := F5.binds (ps := ["names", "fleet"]) fun _ _ _ _ _ _ us hl => match us, hl with | [_, _], _ => rfl
  have F6 := fun_mk (st := st_shown_ship) l6 c6 k6
  have b6 := F6.binds (ps := ["name", "ship"]) fun _ _ _ _ _ _ us hl => match us, hl with | [_, _], _ => rfl
  have F7 := fun_mk (st := st_show_fleet) l7 c7 k7
  have b7 := F7.binds (ps := ["names", "fleet"]) fun _ _ _ _ _ _ us hl => match us, hl with | [_, _], _ => rfl
  have F8 := fun_mk (st := st_number_of) l8 c8 k8
  have b8 := F8.binds (ps := ["word"]) fun _ _ _ _ _ _ us hl => match us, hl with | [_], _ => rfl
  have F9 := fun_mk (st := st_four_of) l9 c9 k9
  have b9 := F9.binds (ps := ["words"]) fun _ _ _ _ _ _ us hl => match us, hl with | [_], _ => rfl
  have F10 := fun_mk (st := st_is_name) l10 c10 k10
  have b10 := F10.binds (ps := ["word"]) fun _ _ _ _ _ _ us hl => match us, hl with | [_], _ => rfl
  have F11 := fun_mk (st := st_whole) l11 c11 k11
  have b11 := F11.binds (ps := ["thing"]) fun _ _ _ _ _ _ us hl => match us, hl with | [_], _ => rfl
  have F12 := fun_mk (st := st_is_ship) l12 c12 k12
  have b12 := F12.binds (ps := ["thing"]) fun _ _ _ _ _ _ us hl => match us, hl with | [_], _ => rfl
  have F13 := fun_mk (st := st_read_fleet) l13 c13 k13
  have b13 := F13.binds (ps := ["text"]) fun _ _ _ _ _ _ us hl => match us, hl with | [_], _ => rfl
  have F14 := fun_mk (st := st_law_whole) l14 c14 k14
  have b14 := F14.binds (ps := ["found"]) fun _ _ _ _ _ _ us hl => match us, hl with | [_], _ => rfl
  have F15 := fun_mk (st := st_law_k70) l15 c15 k15
  have y_len := PySem.W.mg_none_of X G z_len
  have y_min := PySem.W.mg_none_of X G z_min
  have y_range := PySem.W.mg_none_of X G z_range
  have y_str := PySem.W.mg_none_of X G z_str
  have y_zip := PySem.W.mg_none_of X G z_zip
  have y_int := PySem.W.mg_none_of X G z_int
  have y_isinstance := PySem.W.mg_none_of X G z_isinstance
  have y_bool := PySem.W.mg_none_of X G z_bool
  have y_tuple := PySem.W.mg_none_of X G z_tuple
  have y_list := PySem.W.mg_none_of X G z_list
  have v_FIGURES := PySem.W.mg_of X G g_FIGURES
  have v_FAR := PySem.W.mg_of X G g_FAR
  have v_LETTERS := PySem.W.mg_of X G g_LETTERS
  refine ⟨PySem.W.fnOf "law" "law" (defArgs st_law_k70) (defBody st_law_k70) (defScope st_law_k70) .none kV15 dc15 pm15 an15 cd15 ct15, fun s v => .of_eq rfl, fun base _ _ => ?_⟩
  have H_law_cell_at : Has l.prog w K mg base "_law_cell_at" 2 2 ["script", "k"] f_law_cell_at := ⟨_, _, ok_law_cell_at (P := l.prog) (w := w) (mg := mg) (base := base) F1 y_len, PySem.W.mg_of X G a1, k1, b1⟩
  have H_law_ship : Has l.prog w K mg base "_law_ship" 2 3 ["one", "two", "kind"] f_law_ship := ⟨_, _, ok_law_ship (P := l.prog) (w := w) (mg := mg) (base := base) F2 y_min, PySem.W.mg_of X G a2, k2, b2⟩
  have H_law_fleet : Has l.prog w K mg base "_law_fleet" 3 2 ["script", "start"] f_law_fleet := ⟨_, _, ok_law_fleet (P := l.prog) (w := w) (mg := mg) (base := base) F3 H_law_cell_at H_law_ship y_range y_len, PySem.W.mg_of X G a3, k3, b3⟩
  have H_law_names : Has l.prog w K mg base "_law_names" 2 2 ["cell", "many"] f_law_names := ⟨_, _, ok_law_names (P := l.prog) (w := w) (mg := mg) (base := base) F4 y_range, PySem.W.mg_of X G a4, k4, b4⟩
  have H_law_text : Has l.prog w K mg base "_law_text" 2 2 ["names", "fleet"] f_law_text := ⟨_, _, ok_law_text (P := l.prog) (w := w) (mg := mg) (base := base) F5 y_len y_range y_str, PySem.W.mg_of X G a5, k5, b5⟩
  have H_shown_ship : Has l.prog w K mg base "shown_ship" 2 2 ["name", "ship"] f_shown_ship := ⟨_, _, ok_shown_ship (P := l.prog) (w := w) (mg := mg) (base := base) F6 y_str, PySem.W.mg_of X G a6, k6, b6⟩
  have H_show_fleet : Has l.prog w K mg base "show_fleet" 3 2 ["names", "fleet"] f_show_fleet := ⟨_, _, ok_show_fleet (P := l.prog) (w := w) (mg := mg) (base := base) F7 H_shown_ship y_zip, PySem.W.mg_of X G a7, k7, b7⟩
  have H_number_of : Has l.prog w K mg base "number_of" 2 1 ["word"] f_number_of := ⟨_, _, ok_number_of (P := l.prog) (w := w) (mg := mg) (base := base) F8 y_len y_int v_FIGURES, PySem.W.mg_of X G a8, k8, b8⟩
  have H_four_of : Has l.prog w K mg base "four_of" 3 1 ["words"] f_four_of := ⟨_, _, ok_four_of (P := l.prog) (w := w) (mg := mg) (base := base) F9 H_number_of y_len v_FAR, PySem.W.mg_of X G a9, k9, b9⟩
  have H_is_name : Has l.prog w K mg base "is_name" 2 1 ["word"] f_is_name := ⟨_, _, ok_is_name (P := l.prog) (w := w) (mg := mg) (base := base) F10 y_len v_LETTERS, PySem.W.mg_of X G a10, k10, b10⟩
  have H_whole : Has l.prog w K mg base "whole" 2 1 ["thing"] f_whole := ⟨_, _, ok_whole (P := l.prog) (w := w) (mg := mg) (base := base) F11 y_isinstance y_int y_bool, PySem.W.mg_of X G a11, k11, b11⟩
  have H_is_ship : Has l.prog w K mg base "is_ship" 3 1 ["thing"] f_is_ship := ⟨_, _, ok_is_ship (P := l.prog) (w := w) (mg := mg) (base := base) F12 H_whole y_isinstance y_tuple y_len, PySem.W.mg_of X G a12, k12, b12⟩
  have H_read_fleet : Has l.prog w K mg base "read_fleet" 4 1 ["text"] f_read_fleet := ⟨_, _, ok_read_fleet (P := l.prog) (w := w) (mg := mg) (base := base) F13 H_four_of H_is_name H_is_ship y_isinstance y_str, PySem.W.mg_of X G a13, k13, b13⟩
  have H_law_whole : Has l.prog w K mg base "_law_whole" 2 1 ["found"] f_law_whole := ⟨_, _, ok_law_whole (P := l.prog) (w := w) (mg := mg) (base := base) F14 y_isinstance y_int y_bool, PySem.W.mg_of X G a14, k14, b14⟩
  exact law_end (ok_law_k70 (P := l.prog) (w := w) (mg := mg) (base := base) F15 H_law_fleet H_law_names H_law_cell_at H_law_text H_show_fleet H_read_fleet H_law_whole y_len y_list y_isinstance y_str y_range y_tuple) law_true
end EQ
open PySem PySem.W PyProof.Rows
set_option maxRecDepth 100000 in
set_option maxHeartbeats 0 in
theorem PySem.Challenge.cw_evenquay_k70_texts_forth_and_back_holds : PySem.Challenge.rw_evenquay_k70_texts_forth_and_back.Holds := by
  w_on; o_law; k_head; (case hw => w_witness2)
  k_fill
  refine L2.walk_of (l := PySem.Challenge.rw_evenquay_k70_texts_forth_and_back) (n := 63) (k := 5) (x := "script") (CX := fun _ => L2.CX0) (sp := fun w => EQ.spL _) rfl (by decide) rfl ⟨rfl, by decide, by decide⟩ (fun w h Y => PySem.W.kIn_of Y) ?F (fun _ _ a ns hl ho hS => ⟨a, ns, rfl, hS, hl, ho, fun _ => rfl⟩) (fun _ _ _ _ _ h => h)
  case F =>
    intro w mg fa h KX G hmg
    refine' EQ.all_mk KX G hmg ?a1 ?l1 ?c1 ?k1 ?a2 ?l2 ?c2 ?k2 ?a3 ?l3 ?c3 ?k3 ?a4 ?l4 ?c4 ?k4 ?a5 ?l5 ?c5 ?k5 ?a6 ?l6 ?c6 ?k6 ?a7 ?l7 ?c7 ?k7 ?a8 ?l8 ?c8 ?k8 ?a9 ?l9 ?c9 ?k9 ?a10 ?l10 ?c10 ?k10 ?a11 ?l11 ?c11 ?k11 ?a12 ?l12 ?c12 ?k12 ?a13 ?l13 ?c13 ?k13 ?a14 ?l14 ?c14 ?k14 ?a15 ?l15 ?c15 ?k15 ?z_len ?z_min ?z_range ?z_str ?z_zip ?z_int ?z_isinstance ?z_bool ?z_tuple ?z_list ?g_FIGURES ?g_FAR ?g_LETTERS
    (case a1 => k_is)
    (case l1 => k_is)
    (case c1 => k_is)
    (case k1 => k_is)
    (case a2 => k_is)
    (case l2 => k_is)
    (case c2 => k_is)
    (case k2 => k_is)
    (case a3 => k_is)
    (case l3 => k_is)
    (case c3 => k_is)
    (case k3 => k_is)
    (case a4 => k_is)
    (case l4 => k_is)
    (case c4 => k_is)
    (case k4 => k_is)
    (case a5 => k_is)
    (case l5 => k_is)
    (case c5 => k_is)
    (case k5 => k_is)
    (case a6 => k_is)
    (case l6 => k_is)
    (case c6 => k_is)
    (case k6 => k_is)
    (case a7 => k_is)
    (case l7 => k_is)
    (case c7 => k_is)
    (case k7 => k_is)
    (case a8 => k_is)
    (case l8 => k_is)
    (case c8 => k_is)
    (case k8 => k_is)
    (case a9 => k_is)
    (case l9 => k_is)
    (case c9 => k_is)
    (case k9 => k_is)
    (case a10 => k_is)
    (case l10 => k_is)
    (case c10 => k_is)
    (case k10 => k_is)
    (case a11 => k_is)
    (case l11 => k_is)
    (case c11 => k_is)
    (case k11 => k_is)
    (case a12 => k_is)
    (case l12 => k_is)
    (case c12 => k_is)
    (case k12 => k_is)
    (case a13 => k_is)
    (case l13 => k_is)
    (case c13 => k_is)
    (case k13 => k_is)
    (case a14 => k_is)
    (case l14 => k_is)
    (case c14 => k_is)
    (case k14 => k_is)
    (case a15 => k_is)
    (case l15 => k_is)
    (case c15 => k_is)
    (case k15 => k_is)
    (case z_len => k_is)
    (case z_min => k_is)
    (case z_range => k_is)
    (case z_str => k_is)
    (case z_zip => k_is)
    (case z_int => k_is)
    (case z_isinstance => k_is)
    (case z_bool => k_is)
    (case z_tuple => k_is)
    (case z_list => k_is)
    (case g_FIGURES => k_is)
    (case g_FAR => k_is)
    (case g_LETTERS => k_is)
