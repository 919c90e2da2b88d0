import PyProof.Rows.All
import Wide.All
import OpenK.AllK
import Wide.FinOn
import HandS.ForMost
import HandS.ForExc
import HandS.Wide
import HandS.WideBits
import HandS.Gcd
import HandS.IsInst
import HandS.FStr
import HandS.Defaults
import HandS.TupAny
import HandS.ExcInit
import HandS.TryMany
import HandS.Flow
import HandS.OwnEq
import PyProof.InstNe
import HandS.TupLe
import OpenK.KMeth
import KE.KOpsOwn
import HandS.ExcIs
import HandS.ExcField
import HandS.Comp
import HandS.Conv
import HandS.Codes
import KE.DatumOrd
import HandS.List
import HandS.TryOnly
import KE.SortData
import HandS.Nested
import KE.KExcSuper
import HandS.ExcSuper
import KE.DataCmp
import HandS.Zip
import KE.GoesZip
import KE.GoesMore
import KE.KTupSum
import HandS.SetFor
import HandS.TupMul
import HandS.SlotsOwn
import HandS.Text
import HandS.StrMore
import HandS.Iter
import HandS.RaiseMore
import HandS.Style
import PyProof.NeKinds
import KE.KMathGC
import PySem.Challenge.RW_metricparts_k05_whole_weights_or_functio
set_option Elab.async false
set_option linter.all false
set_option maxRecDepth 100000
set_option exponentiation.threshold 10000
set_option maxHeartbeats 1000000
namespace PL
open PySem PySem.Spec PyProof.Rows L2
inductive D where
  | non | bl (b : Bool) | int (i : Int) | str (s : Str) | rat (q : Rat)
  | tup (l : List D) | lst (l : List D) | obj (c : Nat) (l : List D) | st | adr (a : Addr)
structure Gam where
  K : PySem.W.Frag
  th : Option Addr
  rc : Addr
  cls : Nat → Addr × List Str
  exc : Nat → Addr × List Str
  has : Nat → Bool
  hx : Nat → Bool
def FzL (K : PySem.W.Frag) (H : Hp) (a : Addr) (xs : List V) : Prop := ∃ o, H a = some (.frz o (.lst xs))
def FzT (K : PySem.W.Frag) (H : Hp) (a : Addr) (xs : List V) : Prop :=
  H a = some (.tup xs) ∨
    ∃ (o : Obj) (its : Array Value) (n : Nat), K.lookup a = some o ∧ o.cls = .type "tuple" ∧ o.data = .seq its n ∧ its.size ≤ sizeLine ∧ Vals xs its.toList
theorem FzL.seq {K : PySem.W.Frag} {H : Hp} {a : Addr} {xs : List V} (h : FzL K H a xs) : SqL K H a xs := .inl (.inr h)
theorem FzT.seq {K : PySem.W.Frag} {H : Hp} {a : Addr} {xs : List V} (h : FzT K H a xs) : SqT K H a xs := by
  rcases h with h | h
  · exact .inl (.inl h)
  · exact .inr h
mutual
def Rep (G : Gam) (H : Hp) : D → V → Prop
  | .non, v => v = .non
  | .bl b, v => v = .bl b
  | .int i, v => v = .int i
  | .str s, v => v = .str s
  | .rat q, v => ∃ a dx, v = .ref a ∧ H a = some (.ins G.rc dx [("n", .int q.num), ("d", .int (q.den : Int))])
  | .tup l, v => ∃ a xs, v = .ref a ∧ FzT G.K H a xs ∧ RepL G H l xs
  | .lst l, v => ∃ a xs, v = .ref a ∧ FzL G.K H a xs ∧ RepL G H l xs
  | .obj c l, v => G.has c = true ∧ ∃ a dx xs, v = .ref a ∧ H a = some (.ins (G.cls c).1 dx ((G.cls c).2.zip xs)) ∧ xs.length = (G.cls c).2.length ∧ RepL G H l xs
  | .st, v => ∃ a, G.th = some a ∧ v = .ref a
  | .adr a, v => v = .ref a
def RepL (G : Gam) (H : Hp) : List D → List V → Prop
  | [], xs => xs = []
  | d :: l, xs => ∃ v vs, xs = v :: vs ∧ Rep G H d v ∧ RepL G H l vs
end
def Imm : HO → Prop
  | .tup _ => True
  | .ins _ _ _ => True
  | .own _ => True
  | .frz _ _ => True
  | .xd _ => True
  | .ext _ => True
  | _ => False
def Ex (H H' : Hp) : Prop := ∀ a o, Imm o → H a = some o → H' a = some o
theorem Ex.refl (H : Hp) : Ex H H := fun _ _ _ h => h
theorem Ex.trans {H H1 H2 : Hp} (a : Ex H H1) (b : Ex H1 H2) : Ex H H2 := fun x o i h => b x o i (a x o i h)
structure Gr (G : Gam) (H H' : Hp) : Prop where
  imm : Ex H H'
  all : ∀ a o, G.th ≠ some a → H a = some o → H' a = some o
  th : ∀ a, H' a = none → H a = none
theorem Gr.refl (G : Gam) (H : Hp) : Gr G H H := ⟨fun _ _ _ h => h, fun _ _ _ h => h, fun _ h => h⟩
theorem Gr.trans {G : Gam} {H H1 H2 : Hp} (a : Gr G H H1) (b : Gr G H1 H2) : Gr G H H2 :=
  ⟨fun x o i h => b.imm x o i (a.imm x o i h), fun x o i h => b.all x o i (a.all x o i h), fun x h => a.th x (b.th x h)⟩
theorem Gr.free {G : Gam} {H H' : Hp} (g : Gr G H H') {a : Addr} (h : H' a = none) : H a = none := g.th a h
theorem upd_none {H : Hp} {a p : Addr} {o : HO} (h : L2.upd H p o a = none) : H a = none := by
  by_cases e : a = p
  · subst e; rw [upd_same] at h; cases h
  · rw [upd_ne e] at h; exact h
theorem Gr.new {G : Gam} {H : Hp} {p : Addr} {o : HO} (h : H p = none) : Gr G H (upd H p o) :=
  ⟨fun a u _ e => by rw [upd_ne (ne_of_none e h)]; exact e, fun a u _ e => by rw [upd_ne (ne_of_none e h)]; exact e, fun _ e => upd_none e⟩
theorem Gr.upd {G : Gam} {H H1 : Hp} {p : Addr} {o : HO} (g : Gr G H H1) (h : H p = none) : Gr G H (L2.upd H1 p o) :=
  ⟨fun a u i e => by rw [upd_ne (ne_of_none e h)]; exact g.imm a u i e, fun a u i e => by rw [upd_ne (ne_of_none e h)]; exact g.all a u i e,
    fun _ e => g.th _ (upd_none e)⟩
theorem Gr.same {G : Gam} {H H' : Hp} (s : Same H H') : Gr G H H' := ⟨fun a o _ h => s a o h, fun a o _ h => s a o h, fun _ h => s.free h⟩
theorem FzL.mono {K : PySem.W.Frag} {H H' : Hp} (g : Ex H H') {a : Addr} {xs : List V} (h : FzL K H a xs) : FzL K H' a xs := let ⟨o, h⟩ := h; ⟨o, g a _ trivial h⟩
theorem FzT.mono {K : PySem.W.Frag} {H H' : Hp} (g : Ex H H') {a : Addr} {xs : List V} (h : FzT K H a xs) : FzT K H' a xs := by
  rcases h with h | h
  · exact .inl (g a _ trivial h)
  · exact .inr h
mutual
theorem Rep.mono {G : Gam} {H H' : Hp} (g : Ex H H') : ∀ {d : D} {v : V}, Rep G H d v → Rep G H' d v
  | .non, _, h => by simpa only [Rep] using h
  | .bl _, _, h => by simpa only [Rep] using h
  | .int _, _, h => by simpa only [Rep] using h
  | .str _, _, h => by simpa only [Rep] using h
  | .rat _, _, h => by
    simp only [Rep] at h ⊢
    obtain ⟨a, dx, e, h⟩ := h
    exact ⟨a, dx, e, g _ _ trivial h⟩
  | .tup l, _, h => by
    simp only [Rep] at h ⊢
    obtain ⟨a, xs, e, h, r⟩ := h
    exact ⟨a, xs, e, h.mono g, RepL.mono g r⟩
  | .lst l, _, h => by
    simp only [Rep] at h ⊢
    obtain ⟨a, xs, e, h, r⟩ := h
    exact ⟨a, xs, e, h.mono g, RepL.mono g r⟩
  | .obj c l, _, h => by
    simp only [Rep] at h ⊢
    obtain ⟨hh, a, dx, xs, e, h, hl, r⟩ := h
    exact ⟨hh, a, dx, xs, e, g _ _ trivial h, hl, RepL.mono g r⟩
  | .st, _, h => by simpa only [Rep] using h
  | .adr _, _, h => by simpa only [Rep] using h
theorem RepL.mono {G : Gam} {H H' : Hp} (g : Ex H H') : ∀ {l : List D} {xs : List V}, RepL G H l xs → RepL G H' l xs
  | [], _, h => by simpa only [RepL] using h
  | d :: l, _, h => by
    simp only [RepL] at h ⊢
    obtain ⟨v, vs, e, h, r⟩ := h
    exact ⟨v, vs, e, Rep.mono g h, RepL.mono g r⟩
end
section
variable {G : Gam} {H H' : Hp}
theorem RepL.nil : RepL G H [] [] := by simp only [RepL]
theorem RepL.cons {d : D} {v : V} {l : List D} {xs : List V} (h : Rep G H d v) (r : RepL G H l xs) : RepL G H (d :: l) (v :: xs) := by
  simp only [RepL]; exact ⟨v, xs, rfl, h, r⟩
theorem RepL.length : ∀ {l : List D} {xs : List V}, RepL G H l xs → xs.length = l.length
  | [], _, h => by simp only [RepL] at h; subst h; rfl
  | d :: l, _, h => by
    simp only [RepL] at h
    obtain ⟨v, vs, rfl, _, r⟩ := h
    simp [RepL.length r]
theorem RepL.get : ∀ {l : List D} {xs : List V} {i : Nat} {v : V}, RepL G H l xs → xs[i]? = some v → ∃ d, l[i]? = some d ∧ Rep G H d v
  | [], _, i, v, h, e => by simp only [RepL] at h; subst h; simp at e
  | d :: l, _, 0, v, h, e => by
    simp only [RepL] at h
    obtain ⟨w, vs, rfl, h, r⟩ := h
    simp at e; subst e
    exact ⟨d, rfl, h⟩
  | d :: l, _, i + 1, v, h, e => by
    simp only [RepL] at h
    obtain ⟨w, vs, rfl, h, r⟩ := h
    simpa using RepL.get (i := i) r (by simpa using e)
theorem RepL.get' : ∀ {l : List D} {xs : List V} {i : Nat} {d : D}, RepL G H l xs → l[i]? = some d → ∃ v, xs[i]? = some v ∧ Rep G H d v
  | [], _, i, v, h, e => by simp at e
  | d :: l, _, 0, v, h, e => by
    simp only [RepL] at h
    obtain ⟨w, vs, rfl, h, r⟩ := h
    simp at e; subst e
    exact ⟨w, rfl, h⟩
  | d :: l, _, i + 1, v, h, e => by
    simp only [RepL] at h
    obtain ⟨w, vs, rfl, h, r⟩ := h
    simpa using RepL.get' (i := i) r (by simpa using e)
theorem RepL.append : ∀ {l m : List D} {xs ys : List V}, RepL G H l xs → RepL G H m ys → RepL G H (l ++ m) (xs ++ ys)
  | [], m, _, ys, h, q => by simp only [RepL] at h; subst h; exact q
  | d :: l, m, _, ys, h, q => by
    simp only [RepL] at h
    obtain ⟨w, vs, rfl, h, r⟩ := h
    exact RepL.cons h (RepL.append r q)
theorem RepL.take : ∀ {l : List D} {xs : List V} (n : Nat), RepL G H l xs → RepL G H (l.take n) (xs.take n)
  | [], _, n, h => by simp only [RepL] at h; subst h; simpa using RepL.nil
  | d :: l, _, 0, h => by simpa using RepL.nil
  | d :: l, _, n + 1, h => by
    simp only [RepL] at h
    obtain ⟨w, vs, rfl, h, r⟩ := h
    simpa using RepL.cons h (RepL.take n r)
theorem RepL.drop : ∀ {l : List D} {xs : List V} (n : Nat), RepL G H l xs → RepL G H (l.drop n) (xs.drop n)
  | [], _, n, h => by simp only [RepL] at h; subst h; simpa using RepL.nil
  | d :: l, _, 0, h => by simpa using h
  | d :: l, _, n + 1, h => by
    simp only [RepL] at h
    obtain ⟨w, vs, rfl, h, r⟩ := h
    simpa using RepL.drop n r
theorem RepL.set : ∀ {l : List D} {xs : List V} {d : D} {v : V} (n : Nat), Rep G H d v → RepL G H l xs → RepL G H (l.set n d) (xs.set n v)
  | [], _, _, _, n, _, h => by simp only [RepL] at h; subst h; simpa using RepL.nil
  | c :: l, _, d, v, 0, q, h => by
    simp only [RepL] at h
    obtain ⟨w, vs, rfl, h, r⟩ := h
    exact RepL.cons q r
  | c :: l, _, d, v, n + 1, q, h => by
    simp only [RepL] at h
    obtain ⟨w, vs, rfl, h, r⟩ := h
    exact RepL.cons h (RepL.set n q r)
theorem RepL.eraseIdx : ∀ {l : List D} {xs : List V} (n : Nat), RepL G H l xs → RepL G H (l.eraseIdx n) (xs.eraseIdx n)
  | [], _, n, h => by simp only [RepL] at h; subst h; simpa using RepL.nil
  | c :: l, _, 0, h => by
    simp only [RepL] at h
    obtain ⟨w, vs, rfl, h, r⟩ := h
    simpa using r
  | c :: l, _, n + 1, h => by
    simp only [RepL] at h
    obtain ⟨w, vs, rfl, h, r⟩ := h
    simpa using RepL.cons h (RepL.eraseIdx n r)
end
inductive All3 {α β γ : Type} (P : α → β → γ → Prop) : List α → List β → List γ → Prop where
  | nil : All3 P [] [] []
  | cons {a b c as bs cs} : P a b c → All3 P as bs cs → All3 P (a :: as) (b :: bs) (c :: cs)
def RepO (G : Gam) (H : Hp) : Nat → D → V → List Addr → Prop
  | 0, d, v, F => F = [] ∧ Rep G H d v
  | k + 1, d, v, F => ∃ l a xs Fs, d = .lst l ∧ v = .ref a ∧ H a = some (.lst xs) ∧ F = a :: Fs.flatten ∧ All3 (RepO G H k) l xs Fs
section
variable {α β γ : Type} {P Q : α → β → γ → Prop}
theorem All3.imp : ∀ {as : List α} {bs : List β} {cs : List γ}, All3 P as bs cs → (∀ a b c, c ∈ cs → P a b c → Q a b c) → All3 Q as bs cs
  | _, _, _, .nil, _ => .nil
  | _, _, _, .cons p r, f => .cons (f _ _ _ List.mem_cons_self p) (r.imp fun a b c m => f a b c (List.mem_cons_of_mem _ m))
theorem All3.get : ∀ {as : List α} {bs : List β} {cs : List γ} {i : Nat} {a : α}, All3 P as bs cs → as[i]? = some a → ∃ b c, bs[i]? = some b ∧ cs[i]? = some c ∧ P a b c
  | _, _, _, i, a, .nil, e => by simp at e
  | _, _, _, 0, a, .cons p r, e => by simp at e; subst e; exact ⟨_, _, rfl, rfl, p⟩
  | _, _, _, i + 1, a, .cons p r, e => by simpa using r.get (i := i) (by simpa using e)
theorem All3.length : ∀ {as : List α} {bs : List β} {cs : List γ}, All3 P as bs cs → bs.length = as.length ∧ cs.length = as.length
  | _, _, _, .nil => ⟨rfl, rfl⟩
  | _, _, _, .cons p r => by simp [r.length.1, r.length.2]
theorem All3.append : ∀ {as : List α} {bs : List β} {cs : List γ} {as' : List α} {bs' : List β} {cs' : List γ}, All3 P as bs cs → All3 P as' bs' cs' → All3 P (as ++ as') (bs ++ bs') (cs ++ cs')
  | _, _, _, _, _, _, .nil, q => q
  | _, _, _, _, _, _, .cons p r, q => .cons p (r.append q)
end
section
variable {G : Gam} {H H' : Hp}
theorem RepO.lsts : ∀ {k : Nat} {d : D} {v : V} {F : List Addr}, RepO G H k d v F → ∀ a ∈ F, ∃ xs, H a = some (.lst xs)
  | 0, _, _, _, h, a, m => by obtain ⟨rfl, _⟩ := h; cases m
  | k + 1, _, _, _, h, a, m => by
    obtain ⟨l, b, xs, Fs, _, _, hb, rfl, r⟩ := h
    rcases List.mem_cons.mp m with e | m
    · exact ⟨xs, by rw [e]; exact hb⟩
    · obtain ⟨f, hf, hm⟩ := List.mem_flatten.mp m
      have : ∀ {l : List D} {xs : List V} {Fs : List (List Addr)}, All3 (RepO G H k) l xs Fs → f ∈ Fs → ∃ d v, RepO G H k d v f := by
        intro l xs Fs r hf
        induction r with
        | nil => cases hf
        | cons p _ ih =>
          rcases List.mem_cons.mp hf with e | hf
          · exact ⟨_, _, by rw [e]; exact p⟩
          · exact ih hf
      obtain ⟨d, v, q⟩ := this r hf
      exact RepO.lsts q a hm
theorem RepO.keep (g : Ex H H') : ∀ {k : Nat} {d : D} {v : V} {F : List Addr}, (∀ a ∈ F, ∀ xs, H a = some (.lst xs) → H' a = some (.lst xs)) → RepO G H k d v F → RepO G H' k d v F
  | 0, _, _, _, _, h => ⟨h.1, h.2.mono g⟩
  | k + 1, _, _, _, f, h => by
    obtain ⟨l, b, xs, Fs, e1, e2, hb, rfl, r⟩ := h
    refine ⟨l, b, xs, Fs, e1, e2, f _ List.mem_cons_self _ hb, rfl, r.imp fun a b c m p => ?_⟩
    exact RepO.keep g (fun x hx ys => f x (List.mem_cons_of_mem _ (List.mem_flatten.mpr ⟨c, m, hx⟩)) ys) p
theorem RepO.mono (g : Gr G H H') {k : Nat} {d : D} {v : V} {F : List Addr} (f : ∀ a ∈ F, G.th ≠ some a) (h : RepO G H k d v F) : RepO G H' k d v F :=
  RepO.keep g.imm (fun a m xs e => g.all a _ (f a m) e) h
end
theorem imm_upd {H : Hp} {a : Addr} {xs : List V} {o : HO} (h : H a = some (.lst xs)) : Ex H (L2.upd H a o) := fun b u i e => by
  rw [upd_ne]; exact e
  intro z; subst z; rw [h] at e; cases e; exact i
end PL
set_option maxHeartbeats 1000000
namespace PL
open PySem PySem.Spec PyProof.Rows L2
abbrev St := L2.St
abbrev DS := Int × Int
structure Exn where
  c : Nat
  l : List D
inductive R (α : Type) where
  | ok (a : α) (s : DS) | err (x : Exn) (s : DS) | bad
def M (α : Type) : Type := DS → R α
def M.ret {α : Type} (a : α) : M α := fun s => .ok a s
def M.bnd {α β : Type} (x : M α) (f : α → M β) : M β := fun s => match x s with
  | .ok a s' => f a s'
  | .err e s' => .err e s'
  | .bad => .bad
instance : Monad M where
  pure := M.ret
  bind := M.bnd
def bad {α : Type} : M α := fun _ => .bad
def throw {α : Type} (x : Exn) : M α := fun s => .err x s
section
variable {α β γ : Type}
@[simp] theorem ret_bind (a : α) (f : α → M β) : (pure a >>= f) = f a := rfl
@[simp] theorem bad_bind (f : α → M β) : (bad >>= f) = bad := rfl
@[simp] theorem throw_bind (x : Exn) (f : α → M β) : (throw x >>= f) = throw x := rfl
end
abbrev En := List (Option D)
abbrev EX := En → M D
inductive Fl where
  | nx | rt (d : D) | bk | ct
inductive RS where
  | go (f : Fl) (ρ : En) (s : DS) | err (x : Exn) (ρ : En) (s : DS) | bad
abbrev SX := En → DS → RS
def kd (ω : List Nat) (i : Nat) : Nat := ω.getD i 0
def StOk (G : Gam) (s : DS) (H : Hp) : Prop := ∀ a, G.th = some a → H a = some (.lst [.int s.1, .int s.2])
structure RepS (G : Gam) (H0 : Hp) (ω : List Nat) (s : DS) (H : Hp) (σ : St) (ρ : En) : Prop where
  gr : Gr G H0 H
  st : StOk G s H
  len : σ.length = ρ.length
  sl : ∃ F : Nat → List Addr, (∀ i d, ρ[i]? = some (some d) → ∃ v, σ[i]? = some (some v) ∧ RepO G H (kd ω i) d v (F i)) ∧ (∀ i, (F i).Nodup) ∧ (∀ i j a, i ≠ j → a ∈ F i → a ∉ F j) ∧
    ∀ i, ∀ a ∈ F i, H0 a = none ∧ G.th ≠ some a
theorem RepS.mono {G : Gam} {H0 H H' : Hp} {ω : List Nat} {s s' : DS} {σ : St} {ρ : En} (r : RepS G H0 ω s H σ ρ) (g : Gr G H H') (t : StOk G s' H') : RepS G H0 ω s' H' σ ρ := by
  obtain ⟨F, h1, h2, h3, h4⟩ := r.sl
  refine ⟨r.gr.trans g, t, r.len, F, fun i d e => ?_, h2, h3, h4⟩
  obtain ⟨v, e1, q⟩ := h1 i d e
  exact ⟨v, e1, q.mono g fun a m => (h4 i a m).2⟩
theorem RepS.get {G : Gam} {H0 H : Hp} {ω : List Nat} {s : DS} {σ : St} {ρ : En} {i : Nat} {d : D} (r : RepS G H0 ω s H σ ρ) (hk : kd ω i = 0) (e : ρ[i]? = some (some d)) : ∃ v, σ[i]? = some (some v) ∧ Rep G H d v := by
  obtain ⟨F, h1, _⟩ := r.sl
  obtain ⟨v, e1, q⟩ := h1 i d e
  rw [hk] at q
  exact ⟨v, e1, q.2⟩
theorem kd_set (ω : List Nat) (i j k : Nat) : kd (ω.set i k) j = if i = j ∧ i < ω.length then k else kd ω j := by
  unfold kd
  simp only [List.getD_eq_getElem?_getD, List.getElem?_set]
  by_cases h : i = j
  · subst h
    by_cases h2 : i < ω.length <;> simp [h2]
  · simp [h]
theorem RepS.put {G : Gam} {H0 H : Hp} {ω : List Nat} {s : DS} {σ : St} {ρ : En} {i k : Nat} {d : D} {v : V} {Fi : List Addr} (r : RepS G H0 ω s H σ ρ) (hk : k = 0 ∨ i < ω.length)
    (q : RepO G H k d v Fi) (nd : Fi.Nodup) (dj : ∀ F : Nat → List Addr, (∀ j d, ρ[j]? = some (some d) → ∃ v, σ[j]? = some (some v) ∧ RepO G H (kd ω j) d v (F j)) → (∀ j, ∀ a ∈ F j, H0 a = none ∧ G.th ≠ some a) → ∀ a ∈ Fi, ∀ j, j ≠ i → (ρ[j]? = some none ∨ ρ[j]? = none ∨ a ∉ F j)) (own : ∀ a ∈ Fi, H0 a = none ∧ G.th ≠ some a) :
    RepS G H0 (ω.set i k) s H (σ.set i (some v)) (ρ.set i (some d)) := by
  obtain ⟨F, h1, h2, h3, h4⟩ := r.sl
  refine ⟨r.gr, r.st, by simp [r.len], fun j => if j = i then Fi else (match ρ[j]? with | some (some _) => F j | _ => []), fun j e hj => ?_, fun j => ?_, fun j l a hjl hj hl => ?_, fun j a hj => ?_⟩
  · by_cases hji : i = j
    · subst hji
      by_cases hlt : i < ρ.length
      · rw [List.getElem?_set_self hlt] at hj
        obtain rfl : d = e := by simpa using hj
        refine ⟨v, by rw [List.getElem?_set_self (by rw [r.len]; exact hlt)], ?_⟩
        have : kd (ω.set i k) i = k := by
          rw [kd_set]
          rcases hk with hk | hk
          · subst hk
            by_cases hl : i < ω.length
            · simp [hl]
            · simp only [hl, and_false, if_false]
              unfold kd
              simp [List.getD_eq_getElem?_getD, List.getElem?_eq_none (Nat.le_of_not_lt hl)]
          · simp [hk]
        rw [this]
        simpa using q
      · rw [List.getElem?_eq_none (by simpa using hlt)] at hj; cases hj
    · rw [List.getElem?_set_ne hji] at hj
      obtain ⟨w, e1, p⟩ := h1 j e hj
      refine ⟨w, by rw [List.getElem?_set_ne hji]; exact e1, ?_⟩
      rw [kd_set, if_neg (fun z => hji z.1)]
      simp only [if_neg (fun z : j = i => hji z.symm), hj]
      exact p
  · by_cases e : j = i
    · simp only [if_pos e]; exact nd
    · simp only [if_neg e]
      split
      · exact h2 j
      · exact List.nodup_nil
  · by_cases e : j = i
    · by_cases e2 : l = i
      · exact hjl (e.trans e2.symm)
      · simp only [if_pos e] at hj
        simp only [if_neg e2] at hl
        have := dj F h1 h4 a hj l e2
        split at hl
        · rename_i x hx
          rcases this with z | z | z
          · rw [hx] at z; cases z
          · rw [hx] at z; cases z
          · exact z hl
        · cases hl
    · simp only [if_neg e] at hj
      by_cases e2 : l = i
      · simp only [if_pos e2] at hl
        have := dj F h1 h4 a hl j e
        split at hj
        · rename_i x hx
          rcases this with z | z | z
          · rw [hx] at z; cases z
          · rw [hx] at z; cases z
          · exact z hj
        · cases hj
      · simp only [if_neg e2] at hl
        split at hj
        · split at hl
          · exact h3 j l a hjl hj hl
          · cases hl
        · cases hj
  · by_cases e : j = i
    · simp only [if_pos e] at hj; exact own a hj
    · simp only [if_neg e] at hj
      split at hj
      · exact h4 j a hj
      · cases hj
theorem RepS.put0 {G : Gam} {H0 H : Hp} {ω : List Nat} {s : DS} {σ : St} {ρ : En} {i : Nat} {d : D} {v : V} (r : RepS G H0 ω s H σ ρ) (q : Rep G H d v) : RepS G H0 (ω.set i 0) s H (σ.set i (some v)) (ρ.set i (some d)) :=
  r.put (Fi := []) (.inl rfl) ⟨rfl, q⟩ List.nodup_nil (fun _ _ _ a m => by cases m) (fun a m => by cases m)
def RepX (G : Gam) (H : Hp) (x : Exn) (cls : Value) (dc : Option Addr) : Prop := G.hx x.c = true ∧ cls = .ref (G.exc x.c).1 ∧ ((G.exc x.c).2 = [] ∧ x.l = [] ∧ dc = none ∨ (G.exc x.c).2 ≠ [] ∧ ∃ dd xs, dc = some dd ∧ H dd = some (.xd ((G.exc x.c).2.zip xs)) ∧ xs.length = (G.exc x.c).2.length ∧ RepL G H x.l xs)
structure Jx where
  G : Gam
  W : WX
  ok : List Nat → Prop
  H0 : Hp
  P : Hp → D → V → Prop
def Post {α β : Type} (J : Jx) (σ : St) (H : Hp) (κ : α → β → Hp → Prop) (Q : β → Hp → Prop) : R α → Prop
  | .ok d s => ∀ v H', Gr J.G H H' → StOk J.G s H' → κ d v H' → Q v H'
  | .err x s => ∀ cls dc H', Gr J.G H H' → StOk J.G s H' → RepX J.G H' x cls dc → J.W cls dc σ H'
  | .bad => False
def tG {α β : Type} (J : Jx) (ω : List Nat) (κ : Hp → α → β → Hp → Prop) (f : En → M α) : St → Hp → (β → Hp → Prop) → Prop := fun σ H Q =>
  ∃ ρ s, RepS J.G J.H0 ω s H σ ρ ∧ Post J σ H (κ H) Q (f ρ s)
def κV (G : Gam) : Hp → D → V → Hp → Prop := fun _ d v H' => Rep G H' d v
def κT : Hp → Bool → Bool → Hp → Prop := fun _ b c _ => b = c
def κL (G : Gam) : Hp → List D → List V → Hp → Prop := fun _ d v H' => RepL G H' d v
def κB (G : Gam) (k : Nat) : Hp → D → V → Hp → Prop := fun _ d v H' => Rep G H' d v ∨ ∃ F, RepO G H' k d v F ∧ ∀ a ∈ F, G.th ≠ some a
def κO (G : Gam) (k : Nat) : Hp → D → V → Hp → Prop := fun H d v H' => ∃ F, RepO G H' k d v F ∧ F.Nodup ∧ ∀ a ∈ F, H a = none
abbrev EJ (X : Cx) (J : Jx) (ω : List Nat) (e : Expr) (f : EX) : Prop := PE X e (tG J ω (κV J.G) f)
abbrev BJ (X : Cx) (J : Jx) (ω : List Nat) (k : Nat) (e : Expr) (f : EX) : Prop := PE X e (tG J ω (κB J.G k) f)
abbrev OJ (X : Cx) (J : Jx) (ω : List Nat) (k : Nat) (e : Expr) (f : EX) : Prop := PE X e (tG J ω (κO J.G k) f)
abbrev TJ (X : Cx) (J : Jx) (ω : List Nat) (e : Expr) (f : En → M Bool) : Prop := PT X e (tG J ω κT f)
abbrev WJ (X : Cx) (J : Jx) (ω : List Nat) (e : Expr) (f : En → M Bool) : Prop := PW X e (tG J ω κT f)
abbrev AJ (X : Cx) (J : Jx) (ω : List Nat) (es : List Expr) (f : En → M (List D)) : Prop := PA X es (tG J ω (κL J.G) f)
theorem _root_.L2.PE.imp {X : Cx} {e : Expr} {t t' : TE} (h : PE X e t) (i : ∀ σ H Q, t' σ H Q → t σ H Q) : PE X e t' := ⟨fun pins s σ H Q I q => h.run pins s σ H Q I (i σ H Q q)⟩
theorem _root_.L2.PT.imp {X : Cx} {e : Expr} {t t' : TT} (h : PT X e t) (i : ∀ σ H Q, t' σ H Q → t σ H Q) : PT X e t' := ⟨fun pins s σ H Q I q => h.run pins s σ H Q I (i σ H Q q)⟩
theorem _root_.L2.PW.imp {X : Cx} {e : Expr} {t t' : TT} (h : PW X e t) (i : ∀ σ H Q, t' σ H Q → t σ H Q) : PW X e t' := ⟨fun w pins s σ H Q I q => h.run w pins s σ H Q I (i σ H Q q)⟩
theorem _root_.L2.PA.imp {X : Cx} {e : List Expr} {t t' : TA} (h : PA X e t) (i : ∀ σ H Q, t' σ H Q → t σ H Q) : PA X e t' := ⟨fun p pins s σ H Q I q => h.run p pins s σ H Q I (i σ H Q q)⟩
theorem _root_.L2.PS.imp {X : Cx} {e : Stmt} {t t' : TS} (h : PS X e t) (i : ∀ D σ H, t' D σ H → t D σ H) : PS X e t' := ⟨fun pins s σ H D I q => h.run pins s σ H D I (i D σ H q)⟩
theorem _root_.L2.PSs.imp {X : Cx} {e : List Stmt} {t t' : TS} (h : PSs X e t) (i : ∀ D σ H, t' D σ H → t D σ H) : PSs X e t' := ⟨fun pins s σ H D I q => h.run pins s σ H D I (i D σ H q)⟩
section
variable {α β γ δ : Type} {J : Jx} {ω : List Nat} {σ : St} {H H1 : Hp} {ρ : En} {s : DS}
theorem Post.mono {κ κ' : α → β → Hp → Prop} {Q : β → Hp → Prop} {r : R α} (g : Gr J.G H H1) (hκ : ∀ d v H', Gr J.G H1 H' → κ' d v H' → κ d v H') (h : Post J σ H κ Q r) : Post J σ H1 κ' Q r := by
  cases r with
  | ok d s => exact fun v H' g' t k => h v H' (g.trans g') t (hκ d v H' g' k)
  | err x s => exact fun c dc H' g' t k => h c dc H' (g.trans g') t k
  | bad => exact h
theorem tG.step {κ : Hp → α → β → Hp → Prop} {κ' : γ → δ → Hp → Prop} {f : En → M α} {k : α → M γ} {Q : β → Hp → Prop} {Q' : δ → Hp → Prop} (r : RepS J.G J.H0 ω s H σ ρ) (h : Post J σ H κ' Q' ((f ρ >>= k) s))
    (hk : ∀ v H1 d s1, Gr J.G H H1 → RepS J.G J.H0 ω s1 H1 σ ρ → κ H d v H1 → Post J σ H κ' Q' (k d s1) → Q v H1) : tG J ω κ f σ H Q := by
  refine ⟨ρ, s, r, ?_⟩
  have h' : Post J σ H κ' Q' (M.bnd (f ρ) k s) := h
  unfold M.bnd at h'
  cases e : f ρ s with
  | ok d s1 => rw [e] at h'; exact fun v H1 g t kk => hk v H1 d s1 g (r.mono g t) kk h'
  | err x s1 => rw [e] at h'; exact h'
  | bad => rw [e] at h'; exact h'
theorem Post.here {κ : α → β → Hp → Prop} {Q : β → Hp → Prop} {d : α} {v : β} (r : RepS J.G J.H0 ω s H1 σ ρ) (g : Gr J.G H H1) (h : Post J σ H κ Q ((pure d : M α) s)) (k : κ d v H1) : Q v H1 := h v H1 g r.st k
end
end PL
set_option maxHeartbeats 1000000
namespace PL
open PySem PySem.Spec PyProof.Rows L2
section
variable {X : Cx} {pins : List (Addr × Obj)} {σ : St} {H : Hp} {s : Shared} {a : Addr} {xs : List V}
theorem inv_freeze (I : Inv X pins σ H s) (h : H a = some (.lst xs)) : ∃ o, Inv X pins σ (upd H a (.frz o (.lst xs))) s := by
  obtain ⟨z, its, n, r, e⟩ := I.hok a _ h
  refine ⟨{ cls := .type "list", data := .seq its.toArray n }, ?_⟩
  have un : ∀ {b : Addr} {o : HO}, H b = some o → o ≠ .lst xs → b ≠ a := fun {b o} q d z => by subst z; rw [h] at q; cases q; exact d rfl
  have hok : HOk X.prog X.w (upd H a (.frz { cls := .type "list", data := .seq its.toArray n } (.lst xs))) s.heap := fun b u q => by
    by_cases hb : b = a
    · subst hb
      rw [upd_same] at q; cases q
      exact ⟨e, z, its, n, r, e⟩
    · rw [upd_ne hb] at q
      exact (I.hok b u q).stay (fun c v _ q => q) (fun c q => by rw [upd_ne (un q fun z => by cases z)]; exact q) fun c ys q => by rw [upd_ne (un q fun z => by cases z)]; exact q
  have u : Un X.fs [] H (upd H a (.frz { cls := .type "list", data := .seq its.toArray n } (.lst xs))) s.heap s.heap :=
    ⟨fun b o q _ _ _ => q, fun b o q _ _ _ => ⟨o.slots, q⟩, fun b o _ n _ => by rw [upd_ne (fun z => by subst z; rw [h] at n; cases n)]; exact n, fun b o q _ => ⟨o, q⟩,
      fun b ys q => by rw [upd_ne (un q fun z => by cases z)]; exact q, fun b o u q => by rw [upd_ne (un q fun z => by cases z)]; exact q, fun b ps q => ⟨#[], by rw [upd_ne (un q fun z => by cases z), q]; simp⟩⟩
  exact I.un (h' := s.heap) (t' := s.toks) u hok
structure Froz (F : List Addr) (H H' : Hp) : Prop where
  out : ∀ b, b ∉ F → H' b = H b
  non : ∀ b, H' b = none → H b = none
theorem Froz.ex {F : List Addr} {H H' : Hp} (f : Froz F H H') (hl : ∀ a ∈ F, ∃ xs, H a = some (.lst xs)) : Ex H H' := fun b o i e => by
  rw [f.out b fun m => ?_]; exact e
  obtain ⟨ys, q⟩ := hl b m
  rw [e] at q; cases q; exact i
theorem all3_lsts {G : Gam} {k : Nat} {H : Hp} : ∀ {l : List D} {xs : List V} {Fs : List (List Addr)}, All3 (RepO G H k) l xs Fs → ∀ a ∈ Fs.flatten, ∃ xs, H a = some (.lst xs)
  | _, _, _, .nil, a, m => by cases m
  | _, _, _, .cons p r, a, m => by
    rw [List.flatten_cons, List.mem_append] at m
    rcases m with m | m
    · exact p.lsts a m
    · exact all3_lsts r a m
theorem inv_freezeL {G : Gam} {k : Nat} (ih : ∀ {d : D} {v : V} {F : List Addr} {H : Hp}, Inv X pins σ H s → RepO G H k d v F → F.Nodup → ∃ H', Inv X pins σ H' s ∧ Rep G H' d v ∧ Froz F H H') :
    ∀ {l : List D} {xs : List V} {Fs : List (List Addr)} {H : Hp}, Inv X pins σ H s → All3 (RepO G H k) l xs Fs → Fs.flatten.Nodup → ∃ H', Inv X pins σ H' s ∧ RepL G H' l xs ∧ Froz Fs.flatten H H'
  | [], _, _, H, I, .nil, _ => ⟨H, I, RepL.nil, fun _ _ => rfl, fun _ e => e⟩
  | d :: l, _, _, H, I, .cons (b := v) (c := F) (bs := xs) (cs := Fs) p r, nd => by
    rw [List.flatten_cons] at nd
    obtain ⟨n1, n2, n3⟩ := List.nodup_append.mp nd
    obtain ⟨H1, I1, q1, f1⟩ := ih I p n1
    have g1 : Ex H H1 := f1.ex p.lsts
    have r1 : All3 (RepO G H1 k) l xs Fs := r.imp fun a b c m q => RepO.keep g1 (fun x hx ys e => by
      rw [f1.out x fun m' => n3 x m' x (List.mem_flatten.mpr ⟨c, m, hx⟩) rfl]; exact e) q
    obtain ⟨H2, I2, q2, f2⟩ := inv_freezeL ih I1 r1 n2
    refine ⟨H2, I2, RepL.cons (q1.mono (f2.ex (all3_lsts r1))) q2, fun b m => ?_, fun b e => f1.non b (f2.non b e)⟩
    rw [List.flatten_cons, List.mem_append, not_or] at m
    rw [f2.out b m.2, f1.out b m.1]
theorem inv_freezeO {G : Gam} : ∀ {k : Nat} {d : D} {v : V} {F : List Addr} {H : Hp}, Inv X pins σ H s → RepO G H k d v F → F.Nodup → ∃ H', Inv X pins σ H' s ∧ Rep G H' d v ∧ Froz F H H'
  | 0, d, v, F, H, I, h, _ => ⟨H, I, h.2, fun _ _ => rfl, fun _ e => e⟩
  | k + 1, d, v, F, H, I, h, nd => by
    obtain ⟨l, a, xs, Fs, rfl, rfl, ha, rfl, r⟩ := h
    obtain ⟨na, nd⟩ := List.nodup_cons.mp nd
    obtain ⟨H1, I1, q1, f1⟩ := inv_freezeL (fun I h n => inv_freezeO I h n) I r nd
    have ha1 : H1 a = some (.lst xs) := by rw [f1.out a na]; exact ha
    obtain ⟨o, I2⟩ := inv_freeze I1 ha1
    refine ⟨_, I2, ?_, fun b m => ?_, fun b e => f1.non b (upd_none e)⟩
    · simp only [Rep]
      exact ⟨a, xs, rfl, ⟨o, upd_same⟩, q1.mono (imm_upd ha1)⟩
    · rw [List.mem_cons, not_or] at m
      rw [upd_ne m.1, f1.out b m.2]
end
section
variable {X : Cx} {J : Jx} {ω : List Nat} {k : Nat} {e : Expr} {f : EX}
theorem th_there {G : Gam} {s : DS} {H : Hp} (t : StOk G s H) {a : Addr} (h : H a = none) : G.th ≠ some a := fun e => by rw [t a e] at h; cases h
theorem OJ.val (h : OJ X J ω k e f) : EJ X J ω e f := by
  refine ⟨fun pins s σ H Q I q => ?_⟩
  obtain ⟨ρ, ds, r, q⟩ := q
  refine thn (h.run pins s σ H (fun v H1 => ∃ d s1, Gr J.G H H1 ∧ StOk J.G s1 H1 ∧ κO J.G k H d v H1 ∧ ∀ v' H', Gr J.G H H' → StOk J.G s1 H' → Rep J.G H' d v' → Q v' H') I ⟨ρ, ds, r, ?_⟩) fun u s' z => ?_
  · cases e : f ρ ds with
    | ok d s1 => rw [e] at q; exact fun v H1 g t k => ⟨d, s1, g, t, k, q⟩
    | err x s1 => rw [e] at q; exact q
    | bad => rw [e] at q; exact q
  · obtain ⟨v, H1, I1, rv, d, s1, g, t, ⟨F, p, nd, fr⟩, q⟩ := z
    obtain ⟨H2, I2, p2, fz⟩ := inv_freezeO I1 p nd
    have fth : ∀ a ∈ F, J.G.th ≠ some a := fun a m => th_there r.st (fr a m)
    have g2 : Gr J.G H H2 := ⟨fun b o i e => fz.ex p.lsts b o i (g.imm b o i e), fun b o n e => by
      rw [fz.out b fun m => by rw [fr b m] at e; cases e]; exact g.all b o n e, fun b e => g.th b (fz.non b e)⟩
    exact ⟨v, H2, I2, rv, q v H2 g2 (fun a e => by rw [fz.out a fun m => fth a m e]; exact t a e) p2⟩
theorem EJ.own (h : EJ X J ω e f) : OJ X J ω 0 e f := h.imp fun σ H Q ⟨ρ, ds, r, q⟩ => ⟨ρ, ds, r, q.mono (Gr.refl _ _) fun _ _ _ _ z => ⟨[], ⟨rfl, z⟩, List.nodup_nil, fun a m => by cases m⟩⟩
end
end PL
set_option maxHeartbeats 1000000
namespace PL
open PySem PySem.Spec PyProof.Rows L2
def _root_.PL.Gam.at (G : Gam) (th : Option Addr) : Gam := { G with th := th }
structure Ok (X : Cx) (J : Jx) : Prop where
  K : X.K = J.G.K
  calm : X.calm = true
  tk : Takes X J.W
  nd : X.N.Nodup
def cVar (i : Nat) : EX := fun ρ => match ρ[i]? with
  | some (some d) => pure d
  | _ => bad
def cC (d : D) : EX := fun _ => pure d
section
variable {X : Cx} {J : Jx} {ω : List Nat}
theorem tG.ret {α β : Type} {κ : Hp → α → β → Hp → Prop} {a : α} {σ : St} {H : Hp} {Q : β → Hp → Prop} {b : β} (h : tG J ω κ (fun _ => pure a) σ H Q) (k : κ H a b H) : Q b H := by
  obtain ⟨ρ, s, r, q⟩ := h
  exact q b H (Gr.refl _ _) r.st k
theorem e_var (i : Nat) {x : Str} {pos : Pos} (hk : kd ω i = 0 := by rfl) (hN : X.N[i]? = some x := by rfl) (hv : Vis X.env.scope x := by first | exact Or.inl rfl | exact Or.inr (Or.inl rfl) | exact Or.inr (Or.inr rfl)) (hd : (x == ("__debug__" : Str)) = false := by decide)
    (hcd : (x == ("__classdict__" : Str)) = false := by decide) : EJ X J ω (.Name x pos) (cVar i) := by
  refine (pe_var hN hv hd hcd).imp fun σ H Q ⟨ρ, s, r, q⟩ => ?_
  unfold cVar at q
  cases e : ρ[i]? with
  | none => rw [e] at q; exact q.elim
  | some o =>
    cases o with
    | none => rw [e] at q; exact q.elim
    | some d =>
      rw [e] at q
      obtain ⟨v, ev, rv⟩ := r.get hk e
      exact ⟨v, ev, q v H (Gr.refl _ _) r.st rv⟩
theorem b_var (i k : Nat) {x : Str} {pos : Pos} (hk : kd ω i = k := by rfl) (hN : X.N[i]? = some x := by rfl) (hv : Vis X.env.scope x := by first | exact Or.inl rfl | exact Or.inr (Or.inl rfl) | exact Or.inr (Or.inr rfl)) (hd : (x == ("__debug__" : Str)) = false := by decide)
    (hcd : (x == ("__classdict__" : Str)) = false := by decide) : BJ X J ω k (.Name x pos) (cVar i) := by
  refine (pe_var hN hv hd hcd).imp fun σ H Q ⟨ρ, s, r, q⟩ => ?_
  unfold cVar at q
  cases e : ρ[i]? with
  | none => rw [e] at q; exact q.elim
  | some o =>
    cases o with
    | none => rw [e] at q; exact q.elim
    | some d =>
      rw [e] at q
      obtain ⟨F, h1, _, _, h4⟩ := r.sl
      obtain ⟨v, ev, rv⟩ := h1 i d e
      rw [hk] at rv
      exact ⟨v, ev, q v H (Gr.refl _ _) r.st (.inr ⟨_, rv, fun a m => (h4 i a m).2⟩)⟩
theorem e_const {e : Expr} {d : D} {v : V} (h : PE X e (tC v)) (hr : ∀ H, Rep J.G H d v) : EJ X J ω e (cC d) :=
  h.imp fun σ H Q ⟨ρ, s, r, q⟩ => q v H (Gr.refl _ _) r.st (hr H)
theorem e_int {i : Int} {j pos} : EJ X J ω (.Constant (.int i) j pos) (cC (.int i)) := e_const pe_int fun _ => by simp only [Rep]
theorem e_bl {b : Bool} {j pos} : EJ X J ω (.Constant (.bool b) j pos) (cC (.bl b)) := e_const pe_bl fun _ => by simp only [Rep]
theorem e_str {x : Str} {j pos} : EJ X J ω (.Constant (.str x) j pos) (cC (.str x)) := e_const pe_str fun _ => by simp only [Rep]
end
def cBin (op : D → D → M D) (a b : EX) : EX := fun ρ => do let x ← a ρ; let y ← b ρ; op x y
def cUn (op : D → M D) (a : EX) : EX := fun ρ => do let x ← a ρ; op x
def rD (G : Gam) (op : D → D → M D) : R2 := fun x y H Q => ∃ dx dy s d s', StOk G s H ∧ Rep G H dx x ∧ Rep G H dy y ∧ op dx dy s = .ok d s' ∧ ∀ v H', Gr G H H' → StOk G s' H' → Rep G H' d v → Q v H'
def rD1 (G : Gam) (op : D → M D) : V → Hp → VK → Prop := fun x H Q => ∃ dx s d s', StOk G s H ∧ Rep G H dx x ∧ op dx s = .ok d s' ∧ ∀ v H', Gr G H H' → StOk G s' H' → Rep G H' d v → Q v H'
def NoErr2 (op : D → D → M D) : Prop := ∀ x y s e s', op x y s ≠ .err e s'
def NoErr1 (op : D → M D) : Prop := ∀ x s e s', op x s ≠ .err e s'
section
variable {X : Cx} {J : Jx} {ω : List Nat} {a b : Expr} {fa fb : EX} {pos : Pos}
theorem tG.two {op : D → D → M D} {σ : St} {H : Hp} {Q : VK} (ne : NoErr2 op) (h : tG J ω (κV J.G) (cBin op fa fb) σ H Q) : tOp (rD J.G op) (tG J ω (κV J.G) fa) (tG J ω (κV J.G) fb) σ H Q := by
  obtain ⟨ρ, s, r, q⟩ := h
  refine tG.step r q fun x H1 dx s1 g1 r1 kx q1 => ?_
  refine tG.step r1 (q1.mono g1 (κ' := fun d v H' => Rep J.G H' d v) fun _ _ _ _ k => k) fun y H2 dy s2 g2 r2 ky q2 => ?_
  cases e : op dx dy s2 with
  | ok d s3 =>
    rw [e] at q2
    exact ⟨dx, dy, s2, d, s3, r2.st, kx.mono g2.imm, ky, e, fun v H3 g3 t3 k3 => q2 v H3 (g2.trans g3) t3 k3⟩
  | err x s3 => exact absurd e (ne _ _ _ _ _)
  | bad => rw [e] at q2; exact q2.elim
theorem e_bin {op : Operator} {dop : D → D → M D} (ne : NoErr2 dop) (ho : OpR X (binaryOp op) (rD J.G dop)) (ha : EJ X J ω a fa) (hb : EJ X J ω b fb) : EJ X J ω (.BinOp a op b pos) (cBin dop fa fb) :=
  (pe_op ho ha hb).imp fun _ _ _ h => h.two ne
theorem tG.one {op : D → M D} {σ : St} {H : Hp} {Q : VK} (ne : NoErr1 op) (h : tG J ω (κV J.G) (cUn op fa) σ H Q) : tUn (rD1 J.G op) (tG J ω (κV J.G) fa) σ H Q := by
  obtain ⟨ρ, s, r, q⟩ := h
  refine tG.step r q fun x H1 dx s1 g1 r1 kx q1 => ?_
  cases e : op dx s1 with
  | ok d s3 =>
    rw [e] at q1
    exact ⟨dx, s1, d, s3, r1.st, kx, e, fun v H3 g3 t3 k3 => q1 v H3 (g1.trans g3) t3 k3⟩
  | err x s3 => exact absurd e (ne _ _ _ _)
  | bad => rw [e] at q1; exact q1.elim
theorem e_un {op : UnaryOp} {dop : D → M D} (ne : NoErr1 dop) (ho : UnR X (unaryOp op) (rD1 J.G dop)) (ha : EJ X J ω a fa) : EJ X J ω (.UnaryOp op a pos) (cUn dop fa) :=
  (pe_un ho ha).imp fun _ _ _ h => h.one ne
theorem e_cmp {op : CmpOp} {dop : D → D → M D} (ne : NoErr2 dop) (ho : OpR X (compareOp op) (rD J.G dop)) (hm : behindInMarks op b = false) (ha : EJ X J ω a fa) (hb : EJ X J ω b fb) : EJ X J ω (.Compare a [op] [b] pos) (cBin dop fa fb) :=
  (pe_cmpR ho ha hb hm).imp fun _ _ _ h => h.two ne
def cTest (f : EX) : En → M Bool := fun ρ => do
  let x ← f ρ
  match x with
  | .bl b => pure b
  | _ => bad
theorem tG.test {σ : St} {H : Hp} {Q : Bool → Hp → Prop} {f : EX} (h : tG J ω κT (cTest f) σ H Q) : tTest (tG J ω (κV J.G) f) σ H Q := by
  obtain ⟨ρ, s, r, q⟩ := h
  refine tG.step r q fun x H1 d s1 g1 r1 k1 q1 => ?_
  cases d with
  | bl b =>
    have k1' : x = .bl b := by simpa only [κV, Rep] using k1
    exact ⟨b, k1', q1 b H1 g1 r1.st rfl⟩
  | _ => exact q1.elim
theorem t_cmp {op : CmpOp} {dop : D → D → M D} (ne : NoErr2 dop) (ho : OpR X (compareOp op) (rD J.G dop)) (hm : behindInMarks op b = false) (ha : EJ X J ω a fa) (hb : EJ X J ω b fb) : TJ X J ω (.Compare a [op] [b] pos) (cTest (cBin dop fa fb)) :=
  (pt_cmpR ho ha hb hm).imp fun σ H Q h => by
    have h2 := h.test
    obtain ⟨ρ, s, r, q⟩ := h
    exact tG.two ne h2
theorem t_val {e : Expr} {f : EX} (h : EJ X J ω e f) (he : ∀ whole, isTrue e X.env whole = (do let v ← whole; standAt e.pos; holding [v] (truthy v)) := by intro _; rfl) : TJ X J ω e (cTest f) :=
  (pt_val h he).imp fun σ H Q h => by
    have := h.test
    exact this
def cNotT (t : En → M Bool) : En → M Bool := fun ρ => do let b ← t ρ; pure (!b)
def cAndT (t u : En → M Bool) : En → M Bool := fun ρ => do
  let b ← t ρ
  if b = true then u ρ else pure false
def cOrT (t u : En → M Bool) : En → M Bool := fun ρ => do
  let b ← t ρ
  if b = true then pure true else u ρ
variable {t u : En → M Bool}
theorem t_not (h : TJ X J ω a t) : TJ X J ω (.UnaryOp .Not a pos) (cNotT t) := (pt_not h).imp fun σ H Q ⟨ρ, s, r, q⟩ => by
  refine tG.step r q fun x H1 d s1 g1 r1 k1 q1 => ?_
  obtain rfl : d = x := k1
  exact q1 (!d) H1 g1 r1.st rfl
theorem w_and1 (h : TJ X J ω a t) : WJ X J ω (.BoolOp .And [a] pos) t := pw_and1 h
theorem w_or1 (h : TJ X J ω a t) : WJ X J ω (.BoolOp .Or [a] pos) t := pw_or1 h
theorem w_and {rest : List Expr} (h : TJ X J ω a t) (h2 : WJ X J ω (.BoolOp .And (b :: rest) pos) u) : WJ X J ω (.BoolOp .And (a :: b :: rest) pos) (cAndT t u) := (pw_and h h2).imp fun σ H Q ⟨ρ, s, r, q⟩ => by
  refine tG.step r q fun x H1 d s1 g1 r1 k1 q1 => ?_
  obtain rfl : d = x := k1
  cases d with
  | true => exact ⟨ρ, s1, r1, q1.mono g1 fun _ _ _ _ k => k⟩
  | false => exact q1 false H1 g1 r1.st rfl
theorem w_or {rest : List Expr} (h : TJ X J ω a t) (h2 : WJ X J ω (.BoolOp .Or (b :: rest) pos) u) : WJ X J ω (.BoolOp .Or (a :: b :: rest) pos) (cOrT t u) := (pw_or h h2).imp fun σ H Q ⟨ρ, s, r, q⟩ => by
  refine tG.step r q fun x H1 d s1 g1 r1 k1 q1 => ?_
  obtain rfl : d = x := k1
  cases d with
  | true => exact q1 true H1 g1 r1.st rfl
  | false => exact ⟨ρ, s1, r1, q1.mono g1 fun _ _ _ _ k => k⟩
def cAndV (a b : EX) : EX := fun ρ => do
  let x ← a ρ
  match x with
  | .bl true => b ρ
  | .bl false => pure (.bl false)
  | _ => bad
def cOrV (a b : EX) : EX := fun ρ => do
  let x ← a ρ
  match x with
  | .bl true => pure (.bl true)
  | .bl false => b ρ
  | _ => bad
def dNot : D → M D
  | .bl b => pure (.bl (!b))
  | _ => bad
theorem e_one {op} {f : EX} (h : EJ X J ω a f) : EJ X J ω (.BoolOp op [a] pos) f := pe_one h
theorem e_and {rest : List Expr} (ha : EJ X J ω a fa) (hb : EJ X J ω (.BoolOp .And (b :: rest) pos) fb) : EJ X J ω (.BoolOp .And (a :: b :: rest) pos) (cAndV fa fb) := (pe_and ha hb).imp fun σ H Q ⟨ρ, s, r, q⟩ => by
  refine tG.step r q fun x H1 d s1 g1 r1 k1 q1 => ?_
  cases d with
  | bl c =>
    have k1' : x = .bl c := by simpa only [κV, Rep] using k1
    refine ⟨c, k1', ?_⟩
    cases c with
    | true => exact ⟨ρ, s1, r1, q1.mono g1 fun _ _ _ _ k => k⟩
    | false => exact q1 (.bl false) H1 g1 r1.st (by simp only [κV, Rep])
  | _ => exact q1.elim
def cIf (t : En → M Bool) (a b : EX) : EX := fun ρ => do
  let c ← t ρ
  if c = true then a ρ else b ρ
theorem e_if {c : Expr} (ht : TJ X J ω c t) (ha : EJ X J ω a fa) (hb : EJ X J ω b fb) : EJ X J ω (.IfExp c a b pos) (cIf t fa fb) := (pe_ifExp ht ha hb).imp fun σ H Q ⟨ρ, s, r, q⟩ => by
  refine tG.step r q fun x H1 d s1 g1 r1 k1 q1 => ?_
  obtain rfl : d = x := k1
  cases d with
  | true => exact ⟨ρ, s1, r1, q1.mono g1 fun _ _ _ _ k => k⟩
  | false => exact ⟨ρ, s1, r1, q1.mono g1 fun _ _ _ _ k => k⟩
end
def aNil : En → M (List D) := fun _ => pure []
def aCons (a : EX) (r : En → M (List D)) : En → M (List D) := fun ρ => do let x ← a ρ; let l ← r ρ; pure (x :: l)
section
variable {X : Cx} {J : Jx} {ω : List Nat} {e : Expr} {es : List Expr} {fa : EX} {fr : En → M (List D)} {pos : Pos}
theorem a_nil : AJ X J ω [] aNil := pa_nil.imp fun σ H Q h => h.ret (b := []) RepL.nil
theorem a_cons (ha : EJ X J ω e fa) (hr : AJ X J ω es fr) (hs : starEach (e :: es) X.env = (false, eval e X.env) :: starEach es X.env := by rfl) : AJ X J ω (e :: es) (aCons fa fr) :=
  (pa_cons ha hr hs).imp fun σ H Q ⟨ρ, s, r, q⟩ => by
  refine tG.step r q fun x H1 dx s1 g1 r1 kx q1 => ?_
  refine tG.step r1 (q1.mono g1 (κ' := fun d v H' => RepL J.G H' d v) fun _ _ _ _ k => k) fun y H2 dy s2 g2 r2 ky q2 => ?_
  exact q2 (x :: y) H2 g2 r2.st (RepL.cons (kx.mono g2.imm) ky)
def cTup (as : En → M (List D)) : EX := fun ρ => do
  let l ← as ρ
  if l.length ≤ 1000000 then pure (.tup l) else bad
def cLst (as : En → M (List D)) : EX := fun ρ => do
  let l ← as ρ
  if l.length ≤ 1000000 then pure (.lst l) else bad
theorem line1M {n : Nat} (h : n ≤ 1000000) : n ≤ sizeLine := by rw [sizeLine_eq]; omega
theorem e_tup {x1} (ha : AJ X J ω es fr) : EJ X J ω (.Tuple es x1 pos) (cTup fr) := (pe_tup ha).imp fun σ H Q ⟨ρ, s, r, q⟩ => by
  refine tG.step r q fun xs H1 l s1 g1 r1 kx q1 => ?_
  have hl := kx.length
  by_cases c : l.length ≤ 1000000
  · simp only [c, if_true] at q1
    refine ⟨line1M (by omega), fun p hp => ?_⟩
    have g2 : Gr J.G H1 (upd H1 p (.tup xs)) := Gr.new hp
    refine q1 (.ref p) _ (g1.trans g2) (fun a e => by rw [upd_ne (ne_of_none (r1.st a e) hp)]; exact r1.st a e) ?_
    simp only [κV, Rep]
    exact ⟨p, xs, rfl, .inl upd_same, kx.mono g2.imm⟩
  · simp only [c, if_false] at q1
    exact q1.elim
theorem o_lst (ha : AJ X J ω es fr) : OJ X J ω 1 (.List es pos) (cLst fr) := (pe_lst ha).imp fun σ H Q ⟨ρ, s, r, q⟩ => by
  refine tG.step r q fun xs H1 l s1 g1 r1 kx q1 => ?_
  have hl := kx.length
  by_cases c : l.length ≤ 1000000
  · simp only [c, if_true] at q1
    refine ⟨line1M (by omega), fun p hp => ?_⟩
    have g2 : Gr J.G H1 (upd H1 p (.lst xs)) := Gr.new hp
    refine q1 (.ref p) _ (g1.trans g2) (fun a e => by rw [upd_ne (ne_of_none (r1.st a e) hp)]; exact r1.st a e) ?_
    refine ⟨[p], ⟨l, p, xs, l.map fun _ => [], rfl, rfl, upd_same, ?_, ?_⟩, List.nodup_cons.mpr ⟨by simp, List.nodup_nil⟩, fun a m => by rw [List.mem_singleton.mp m]; exact g1.free hp⟩
    · simp
    · have gen : ∀ {l : List D} {xs : List V}, RepL J.G (upd H1 p (.lst xs)) l xs → True := fun _ => trivial
      have : ∀ (H' : Hp) (l : List D) (xs : List V), RepL J.G H' l xs → All3 (RepO J.G H' 0) l xs (l.map fun _ => []) := by
        intro H' l
        induction l with
        | nil => intro xs h; simp only [RepL] at h; subst h; exact .nil
        | cons d l ih =>
          intro xs h
          simp only [RepL] at h
          obtain ⟨v, vs, rfl, h, r⟩ := h
          exact .cons ⟨rfl, h⟩ (ih vs r)
      exact this _ _ _ (kx.mono g2.imm)
  · simp only [c, if_false] at q1
    exact q1.elim
end
def spM (G : Gam) (m : List D → M D) (n : Nat) : Sp := fun vs H Q E => ∃ th args s, RepL (G.at th) H args vs ∧ StOk (G.at th) s H ∧ args.length = n ∧ match m args s with
  | .ok d s' => ∀ v H', Gr (G.at th) H H' → StOk (G.at th) s' H' → Rep (G.at th) H' d v → Q v H'
  | .err x s' => ∀ cls dc H', Gr (G.at th) H H' → StOk (G.at th) s' H' → RepX (G.at th) H' x cls dc → E cls dc H'
  | .bad => False
def Cal (X : Cx) (J : Jx) (f : Addr) (m : List D → M D) : Prop := ∀ (pins : List (Addr × Obj)) (σ : St) (H : Hp) (s : Shared) (us : List Value) (vs : List V) (args : List D) (ds : DS) (Q : VK),
  Inv X pins σ H s → Vals vs us → StOk J.G ds H → RepL J.G H args vs → Post J σ H (fun d v H' => Rep J.G H' d v) Q (m args ds) → wpAny (model X.prog X.w) X.A (call (.ref f) us) (EP X pins σ Q) X.xe s
section
variable {X : Cx} {J : Jx} {ω : List Nat} {e o : Expr} {es : List Expr} {fa fo : EX} {fr : En → M (List D)} {pos p apos : Pos} {f : Addr} {m : List D → M D} {x : Str}
theorem Cal.fn {k : Nat} {fd : FuncData} {ps : List Str} {n : Nat} {G : Gam} (ok : Ok X J) (F : FnOk X.prog X.w X.K X.mg X.base (L2.CX X.prog X.w) k f fd ps (spM G m n)) (hn : ps.length = n) (hr : Room k X.A) (hb : Binds X.K fd ps []) (hG : J.G = G.at J.G.th)
    : Cal X J f (fun args => if args.length = n then m args else bad) := by
  intro pins σ H s us vs args ds Q I rv st ra q
  by_cases c : args.length = n
  · simp only [c, if_true] at q
    refine run_fnS (E := fun σ cls d H => J.W cls d σ H) F hr hb (passAt ok.tk σ) I rv ⟨J.G.th, args, ds, by rw [← hG]; exact ra, by rw [← hG]; exact st, c, ?_⟩
    rw [← hG]
    cases e : m args ds with
    | ok d s1 => rw [e] at q; exact q
    | err x s1 => rw [e] at q; exact q
    | bad => rw [e] at q; exact q
  · simp only [c, if_false] at q
    exact q.elim
def cCall (m : List D → M D) (as : En → M (List D)) : EX := fun ρ => do let l ← as ρ; m l
theorem e_call (hc : Cal X J f m) (hg : Gl X x) (hm : X.mg x = some (.ref f)) (hk : PySem.W.keepIn X.K (.ref f) = true) (ha : AJ X J ω (e :: es) fr)
    (hdb : (x == ("__debug__" : Str)) = false := by decide) (he : starEach (e :: es) X.env = (false, eval e X.env) :: starEach es X.env := by rfl) (hpl : (backTo pos (starEach es X.env)).any (·.1) = false := by rfl) :
    EJ X J ω (.Call (.Name x p) (e :: es) [] pos) (cCall m fr) := by
  refine ⟨fun pins s σ H Q I h => ?_⟩
  obtain ⟨ρ, ds, r, q⟩ := h
  refine wpAny_Call_Name_kw (ld_glob I hg hm ?_ hdb)
  refine PySem.W.callWith_K (h₀ := X.base) I.ok.mod.kin hk (thn (ha.run pos pins s σ H (fun vs H1 => ∃ args s1, RepL J.G H1 args vs ∧ StOk J.G s1 H1 ∧ Post J σ H1 (fun d v H' => Rep J.G H' d v) Q (m args s1)) I
    (tG.step r q fun vs H1 args s1 g1 r1 k1 q1 => ⟨args, s1, k1, r1.st, q1.mono g1 fun _ _ _ _ k => k⟩)) fun us s1 ⟨vs, H1, I1, rv, args, d1, ra, st, q1⟩ => ⟨I1.kIn, ?_⟩) he hpl
  exact hc pins σ H1 s1 us vs args d1 Q I1 rv st ra q1
theorem e_call0 (hc : Cal X J f m) (hg : Gl X x) (hm : X.mg x = some (.ref f)) (hk : PySem.W.keepIn X.K (.ref f) = true) (hdb : (x == ("__debug__" : Str)) = false := by decide) :
    EJ X J ω (.Call (.Name x p) [] [] pos) (cCall m aNil) := by
  refine ⟨fun pins s σ H Q I h => ?_⟩
  obtain ⟨ρ, ds, r, q⟩ := h
  refine wpAny_Call_Name_kw (ld_glob I hg hm ?_ hdb)
  exact PySem.W.callWith_K0 I.kIn hk (hc pins σ H s [] [] [] ds Q I .nil r.st RepL.nil q)
inductive Tag where
  | rat | obj (c : Nat)
def Tag.is : Tag → D → Bool
  | .rat, .rat _ => true
  | .obj c, .obj e _ => c == e
  | _, _ => false
def Tag.cls (G : Gam) : Tag → Addr
  | .rat => G.rc
  | .obj c => (G.cls c).1
def Tag.names (G : Gam) : Tag → List Str
  | .rat => ["n", "d"]
  | .obj c => (G.cls c).2
theorem rep_ins {G : Gam} {H : Hp} {d : D} {v : V} {t : Tag} (h : Rep G H d v) (ht : t.is d = true) : ∃ a dx fs, v = .ref a ∧ H a = some (.ins (t.cls G) dx fs) ∧ fs.map (·.1) = t.names G := by
  cases t with
  | rat =>
    cases d with
    | rat q =>
      simp only [Rep] at h
      obtain ⟨a, dx, rfl, h⟩ := h
      exact ⟨a, dx, _, rfl, h, rfl⟩
    | _ => cases ht
  | obj c =>
    cases d with
    | obj e l =>
      have : c = e := by simpa [Tag.is] using ht
      subst this
      simp only [Rep] at h
      obtain ⟨_, a, dx, xs, rfl, h, hl, _⟩ := h
      exact ⟨a, dx, _, rfl, h, by rw [List.map_fst_zip (by omega)]; rfl⟩
    | _ => cases ht
theorem lookup_none {α : Type} {m : Str} : ∀ {fs : List (Str × α)}, (fs.map (·.1)).contains m = false → fs.lookup m = none
  | [], _ => rfl
  | (k, v) :: fs, h => by
    rw [List.map_cons, List.contains_cons] at h
    obtain ⟨h1, h2⟩ := Bool.or_eq_false_iff.mp h
    rw [List.lookup_cons, h1]
    exact lookup_none h2
def cMeth (t : Tag) (m : List D → M D) (o : EX) (as : En → M (List D)) : EX := fun ρ => do
  let x ← o ρ
  if t.is x = true then do let l ← as ρ; m (x :: l) else bad
theorem e_meth0 {t : Tag} {nm : Str} {pl : Sem Bool} (ok : Ok X J) (hc : Cal X J f m) (ho : EJ X J ω o fo) (c : Cls X.K (t.cls J.G)) (hm : Meth X.K (t.cls J.G) nm f) (hno : (t.names J.G).contains nm = false)
    (ht : eval (.Call (.Attribute o nm apos) [] [] pos) X.env = (do
      let ov ← eval o X.env
      standAt apos.atName
      let (f, first) ← holding [ov] (getMethod ov nm pl)
      callWith pos f first (backTo pos (starEach [] X.env)) (backToKw pos (keywordEach [] X.env))) := by rfl) :
    EJ X J ω (.Call (.Attribute o nm apos) [] [] pos) (cMeth t m fo aNil) := by
  refine ⟨fun pins s σ H Q I h => ?_⟩
  obtain ⟨ρ, ds, r, q⟩ := h
  refine PySem.W.methodCall_KW (pl := pl) (thn (ho.run pins s σ H (fun v H1 => ∃ d s1, RepS J.G J.H0 ω s1 H1 σ ρ ∧ Rep J.G H1 d v ∧ t.is d = true ∧ Post J σ H1 (fun d v H' => Rep J.G H' d v) Q (m [d] s1)) I
    (tG.step r q fun v H1 d s1 g1 r1 k1 q1 => ?_)) fun u s1 ⟨v, H1, I1, rx, d, d1, r1, k1, hd, q1⟩ => ?_) ht
  · by_cases hd : t.is d = true
    · simp only [hd, if_true] at q1
      exact ⟨d, s1, r1, k1, hd, Post.mono g1 (fun _ _ _ _ k => k) q1⟩
    · simp only [hd, if_false] at q1
      exact q1.elim
  · obtain ⟨a, dx, fs, rfl, ea, hf⟩ := rep_ins k1 hd
    obtain rfl : u = Value.ref a := rx
    refine getmeth_ok I1 ea c hm (lookup_none (by rw [hf]; exact hno)) ?_
    exact PySem.W.callWith_K0 (first := [.ref a]) I1.kIn hm.kp (hc pins σ H1 s1 [.ref a] [.ref a] [d] d1 Q I1 (.cons rfl .nil) r1.st (RepL.cons k1 RepL.nil) q1)
end
end PL
set_option maxHeartbeats 1000000
namespace PL
open PySem PySem.Spec PyProof.Rows L2
def PostS (J : Jx) (H0 : Hp) (ω' ωb ωc : List Nat) (Dn : Ends) : RS → Prop
  | .go .nx ρ s => ∀ σ H, Ex H0 H → RepS J.G J.H0 ω' s H σ ρ → Dn.nx σ H
  | .go .bk ρ s => ∀ σ H, Ex H0 H → RepS J.G J.H0 ωb s H σ ρ → Dn.bk σ H
  | .go .ct ρ s => ∀ σ H, Ex H0 H → RepS J.G J.H0 ωc s H σ ρ → Dn.ct σ H
  | .go (.rt d) _ s => ∀ v H, Gr J.G J.H0 H → StOk J.G s H → J.P H d v → Dn.rt v H
  | .err x ρ s => ∀ ω cls dc σ H, J.ok ω → Ex H0 H → RepS J.G J.H0 ω s H σ ρ → RepX J.G H x cls dc → J.W cls dc σ H
  | .bad => False
theorem PostS.mono {J : Jx} {H0 H1 : Hp} {ω' ωb ωc : List Nat} {Dn : Ends} {r : RS} (g : Ex H0 H1) (h : PostS J H0 ω' ωb ωc Dn r) : PostS J H1 ω' ωb ωc Dn r := by
  cases r with
  | go f ρ s =>
    cases f with
    | nx => exact fun σ H e => h σ H (g.trans e)
    | bk => exact fun σ H e => h σ H (g.trans e)
    | ct => exact fun σ H e => h σ H (g.trans e)
    | rt d => exact h
  | err x ρ s => exact fun ω cls dc σ H o e => h ω cls dc σ H o (g.trans e)
  | bad => exact h
def tS (J : Jx) (ω ω' ωb ωc : List Nat) (f : SX) : TS := fun Dn σ H => ∃ ρ s, RepS J.G J.H0 ω s H σ ρ ∧ PostS J H ω' ωb ωc Dn (f ρ s)
abbrev SJ (X : Cx) (J : Jx) (ω ω' ωb ωc : List Nat) (st : Stmt) (f : SX) : Prop := PS X st (tS J ω ω' ωb ωc f)
abbrev SsJ (X : Cx) (J : Jx) (ω ω' ωb ωc : List Nat) (st : List Stmt) (f : SX) : Prop := PSs X st (tS J ω ω' ωb ωc f)
def sSeq (f g : SX) : SX := fun ρ s => match f ρ s with
  | .go .nx ρ' s' => g ρ' s'
  | r => r
def sPass : SX := fun ρ s => .go .nx ρ s
def sE {α : Type} (e : En → M α) (k : α → SX) : SX := fun ρ s => match e ρ s with
  | .ok d s' => k d ρ s'
  | .err x s' => .err x ρ s'
  | .bad => .bad
def sSet (i : Nat) (e : EX) : SX := sE e fun d ρ s => .go .nx (ρ.set i (some d)) s
def sRet (e : EX) : SX := sE e fun d ρ s => .go (.rt d) ρ s
def sDrop (e : EX) : SX := sE e fun _ ρ s => .go .nx ρ s
def sIf (t : En → M Bool) (a b : SX) : SX := sE t fun c => if c = true then a else b
section
variable {X : Cx} {J : Jx} {ω ω1 ω' ωb ωc : List Nat} {st : Stmt} {rest : List Stmt} {f g : SX} {e : Expr} {fe : EX} {pos : Pos}
theorem tS.exp {α β : Type} {κ : Hp → α → β → Hp → Prop} {fe : En → M α} {k : α → SX} {Dn : Ends} {σ : St} {H : Hp} {Q : β → Hp → Prop} (hok : J.ok ω) (h : tS J ω ω' ωb ωc (sE fe k) Dn σ H)
    (hk : ∀ v H1 d ρ s1, Gr J.G H H1 → RepS J.G J.H0 ω s1 H1 σ ρ → κ H d v H1 → PostS J H ω' ωb ωc Dn (k d ρ s1) → Q v H1) : tG J ω κ fe σ H Q := by
  obtain ⟨ρ, s, r, q⟩ := h
  refine ⟨ρ, s, r, ?_⟩
  unfold sE at q
  cases e : fe ρ s with
  | ok d s1 => rw [e] at q; exact fun v H1 g t kk => hk v H1 d ρ s1 g (r.mono g t) kk q
  | err x s1 => rw [e] at q; exact fun cls dc H' g t rx => q ω cls dc σ H' hok g.imm (r.mono g t) rx
  | bad => rw [e] at q; exact q
theorem ss_nil : SsJ X J ω ω ωb ωc [] sPass := pss_nil.imp fun D σ H ⟨ρ, s, r, q⟩ => q σ H (Ex.refl H) r
theorem ss_cons (h1 : SJ X J ω ω1 ωb ωc st f) (h2 : SsJ X J ω1 ω' ωb ωc rest g) : SsJ X J ω ω' ωb ωc (st :: rest) (sSeq f g) := (pss_cons h1 h2).imp fun D σ H ⟨ρ, s, r, q⟩ => by
  refine ⟨ρ, s, r, ?_⟩
  unfold sSeq at q
  cases e : f ρ s with
  | go fl ρ1 s1 =>
    rw [e] at q
    cases fl with
    | nx => exact fun σ1 H1 e1 r1 => ⟨ρ1, s1, r1, q.mono e1⟩
    | rt d => exact q
    | bk => exact q
    | ct => exact q
  | err x ρ1 s1 => rw [e] at q; exact q
  | bad => rw [e] at q; exact q
theorem ss_one (h1 : SJ X J ω ω' ωb ωc st f) : SsJ X J ω ω' ωb ωc [st] f := pss_one h1
theorem s_set (hok : J.ok ω) (i : Nat) {x : Str} {pos' : Pos} (ok : Ok X J) (he : EJ X J ω e fe) (hi : X.N[i]? = some x := by rfl) (hx : Loc X.env.scope x := by first | exact Or.inl rfl | exact Or.inr rfl) (hs : swapsWith e (some (.Name x pos')) pos.line X.env = pure false := by rfl)
    (hf : X.fn x = true ∨ X.env.scope.names.lookup x = some .local := by first | exact .inl rfl | exact .inr rfl) : SJ X J ω (ω.set i 0) ωb ωc (.Assign [.Name x pos'] e pos) (sSet i fe) :=
  (ps_set ok.nd hi hx he hs hf).imp fun D σ H h => tS.exp hok h fun v H1 d ρ s1 g r k q => q _ _ g.imm (r.put0 k)
theorem s_ret (hok : J.ok ω) (he : EJ X J ω e fe) (hP : ∀ H d v, Rep J.G H d v → J.P H d v := by intro _ _ _ h; exact h) : SJ X J ω ω' ωb ωc (.Return (some e) pos) (sRet fe) :=
  (ps_ret he).imp fun D σ H h => tS.exp hok h fun v H1 d ρ s1 g r k q => q v H1 r.gr r.st (hP _ _ _ k)
theorem s_if {c : Expr} {a b : List Stmt} {t : En → M Bool} (hok : J.ok ω) (hc : TJ X J ω c t) (ha : SsJ X J ω ω' ωb ωc a f) (hb : SsJ X J ω ω' ωb ωc b g) : SJ X J ω ω' ωb ωc (.If c a b pos) (sIf t f g) :=
  (ps_if hc ha hb).imp fun D σ H h => tS.exp hok h fun v H1 d ρ s1 g r k q => by
    obtain rfl : d = v := k
    cases d with
    | true => exact ⟨ρ, s1, r, q.mono g.imm⟩
    | false => exact ⟨ρ, s1, r, q.mono g.imm⟩
def sNever : SX := fun _ _ => .bad
theorem ss_never : SsJ X J ω ω' ωb ωc rest sNever := pss_never.imp fun _ _ _ ⟨_, _, _, q⟩ => q
def sPar (i j : Nat) (a b : EX) : SX := sE (fun ρ => do let x ← a ρ; let y ← b ρ; pure (x, y)) fun p ρ s => .go .nx ((ρ.set i (some p.1)).set j (some p.2)) s
theorem s_par (hok : J.ok ω) (i j : Nat) {x y : Str} {a b : Expr} {fa fb : EX} {px py pt : Pos} {kt k2 pt2} (ok : Ok X J) (ha : EJ X J ω a fa) (hb : EJ X J ω b fb) (hi : X.N[i]? = some x := by rfl) (hj : X.N[j]? = some y := by rfl) (hij : i ≠ j := by decide)
    (hx : X.env.scope.names.lookup x = some .local := by rfl) (hy : X.env.scope.names.lookup y = some .local := by rfl)
    (hw : swappedStores [.Tuple [.Name x px, .Name y py] kt pt] (.Tuple [a, b] k2 pt2) X.env = pure (some [x, y]) := by rfl)
    (hs : swapsWithSole [.Tuple [.Name x px, .Name y py] kt pt] (.Tuple [a, b] k2 pt2) pos.line X.env = pure false := by rfl)
    (hs1 : starEach (a :: [b]) X.env = (false, eval a X.env) :: starEach [b] X.env := by rfl) (hs2 : starEach (b :: []) X.env = (false, eval b X.env) :: starEach [] X.env := by rfl) :
    SJ X J ω ((ω.set i 0).set j 0) ωb ωc (.Assign [.Tuple [.Name x px, .Name y py] kt pt] (.Tuple [a, b] k2 pt2) pos) (sPar i j fa fb) :=
  (ps_par ok.calm ok.nd hi hj hij hx hy (pa_cons ha (pa_cons hb pa_nil hs2) hs1) hw hs).imp fun D σ H h => by
    show tG J ω (κV J.G) fa σ H fun x H1 => tCons (tG J ω (κV J.G) fb) tNil σ H1 _
    obtain ⟨ρ, s, r, q⟩ := tS.exp (β := V × V) (κ := fun _ p vs H' => Rep J.G H' p.1 vs.1 ∧ Rep J.G H' p.2 vs.2) (Q := fun vs H' => D.nx ((σ.set i (some vs.1)).set j (some vs.2)) H') hok h fun v H1 d ρ s1 g r k q => q _ _ g.imm ((r.put0 k.1).put0 k.2)
    refine tG.step r q fun v H1 d s1 g1 r1 k1 q1 => ?_
    refine tG.step r1 (q1.mono g1 fun _ _ _ _ k => k) fun w H2 d2 s2 g2 r2 k2 q2 => ?_
    exact ⟨v, w, rfl, q2 (v, w) H2 g2 r2.st ⟨k1.mono g2.imm, k2⟩⟩
inductive WhileN (t : En → M Bool) (b : SX) : Nat → En → DS → RS → Prop where
  | stop {ρ s s1} : t ρ s = .ok false s1 → WhileN t b 0 ρ s (.go .nx ρ s1)
  | terr {ρ s x s1} : t ρ s = .err x s1 → WhileN t b 0 ρ s (.err x ρ s1)
  | turn {n ρ s s1 fl ρ2 s2 r} : t ρ s = .ok true s1 → b ρ s1 = .go fl ρ2 s2 → (fl = .nx ∨ fl = .ct) → WhileN t b n ρ2 s2 r → WhileN t b (n + 1) ρ s r
  | brk {ρ s s1 ρ2 s2} : t ρ s = .ok true s1 → b ρ s1 = .go .bk ρ2 s2 → WhileN t b 0 ρ s (.go .nx ρ2 s2)
  | ret {ρ s s1 d ρ2 s2} : t ρ s = .ok true s1 → b ρ s1 = .go (.rt d) ρ2 s2 → WhileN t b 0 ρ s (.go (.rt d) ρ2 s2)
  | berr {ρ s s1 x ρ2 s2} : t ρ s = .ok true s1 → b ρ s1 = .err x ρ2 s2 → WhileN t b 0 ρ s (.err x ρ2 s2)
theorem WhileN.det {t : En → M Bool} {b : SX} {n : Nat} {ρ : En} {s : DS} {r : RS} (h : WhileN t b n ρ s r) : ∀ {n' r'}, WhileN t b n' ρ s r' → r = r' := by
  induction h with
  | stop e => intro n' r' h'; cases h' <;> simp_all
  | terr e => intro n' r' h'; cases h' <;> simp_all
  | turn e eb hf _ ih =>
    intro n' r' h'
    cases h' with
    | stop e' => rw [e] at e'; cases e'
    | terr e' => rw [e] at e'; cases e'
    | turn e' eb' hf' w' =>
      rw [e] at e'; cases e'
      rw [eb] at eb'; cases eb'
      exact ih w'
    | brk e' eb' => rw [e] at e'; cases e'; rw [eb] at eb'; cases eb'; rcases hf with z | z <;> cases z
    | ret e' eb' => rw [e] at e'; cases e'; rw [eb] at eb'; cases eb'; rcases hf with z | z <;> cases z
    | berr e' eb' => rw [e] at e'; cases e'; rw [eb] at eb'; cases eb'
  | brk e eb =>
    intro n' r' h'
    cases h' with
    | turn e' eb' hf' w' => rw [e] at e'; cases e'; rw [eb] at eb'; cases eb'; rcases hf' with z | z <;> cases z
    | _ => simp_all
  | ret e eb =>
    intro n' r' h'
    cases h' with
    | turn e' eb' hf' w' => rw [e] at e'; cases e'; rw [eb] at eb'; cases eb'; rcases hf' with z | z <;> cases z
    | _ => simp_all
  | berr e eb => intro n' r' h'; cases h' <;> simp_all
open Classical in
noncomputable def sWhile (t : En → M Bool) (b : SX) : SX := fun ρ s => if h : ∃ r n, WhileN t b n ρ s r then Classical.choose h else .bad
theorem sWhile_eq {t : En → M Bool} {b : SX} {n : Nat} {ρ : En} {s : DS} {r : RS} (h : WhileN t b n ρ s r) : sWhile t b ρ s = r := by
  unfold sWhile
  rw [dif_pos ⟨r, n, h⟩]
  obtain ⟨m, q⟩ := Classical.choose_spec (⟨r, n, h⟩ : ∃ r n, WhileN t b n ρ s r)
  exact q.det h
theorem s_while {c : Expr} {body : List Stmt} {t : En → M Bool} {b : SX} {ωb' ωc' : List Nat} (hok : J.ok ω) (hp : PassesOwn (model X.prog X.w) X.A X.env X.xe) (hc : TJ X J ω c t) (hb : SsJ X J ω ω ω ω body b) : SJ X J ω ω ωb' ωc' (.While c body [] pos) (sWhile t b) :=
  (ps_while hp hc hb).imp fun D σ H ⟨ρ, s, r, q⟩ => by
    unfold sWhile at q
    split at q
    · rename_i h
      obtain ⟨n, w⟩ := Classical.choose_spec h
      generalize Classical.choose h = R at w q
      clear h
      refine ⟨fun m σ H' => Ex H H' ∧ ∃ ρ s, RepS J.G J.H0 ω s H' σ ρ ∧ WhileN t b m ρ s R, ⟨n, Ex.refl H, ρ, s, r, w⟩, ?_⟩
      rintro m σ H1 ⟨eH, ρ, s, r, w⟩
      refine ⟨ρ, s, r, ?_⟩
      cases w with
      | stop e =>
        rw [e]
        intro v H' g tt k
        obtain rfl : false = v := k
        exact q σ H' (eH.trans g.imm) (r.mono g tt)
      | terr e =>
        rw [e]
        exact fun cls dc H' g tt rx => q ω cls dc σ H' hok (eH.trans g.imm) (r.mono g tt) rx
      | turn e eb hf w' =>
        rename_i n s1 fl ρ2 s2
        rw [e]
        intro v H' g tt k
        obtain rfl : true = v := k
        refine ⟨fun σ H' => Ex H H' ∧ ∃ ρ s, RepS J.G J.H0 ω s H' σ ρ ∧ WhileN t b n ρ s R, fun σ' H' z => ⟨n, Nat.lt_succ_self n, z⟩, ρ, s1, r.mono g tt, ?_⟩
        rw [eb]
        rcases hf with rfl | rfl
        · exact fun σ2 H2 e2 r2 => ⟨(eH.trans g.imm).trans e2, ρ2, s2, r2, w'⟩
        · exact fun σ2 H2 e2 r2 => ⟨(eH.trans g.imm).trans e2, ρ2, s2, r2, w'⟩
      | brk e eb =>
        rw [e]
        intro v H' g tt k
        obtain rfl : true = v := k
        refine ⟨fun _ _ => False, fun _ _ z => z.elim, ρ, _, r.mono g tt, ?_⟩
        rw [eb]
        exact fun σ2 H2 e2 r2 => q σ2 H2 ((eH.trans g.imm).trans e2) r2
      | ret e eb =>
        rw [e]
        intro v H' g tt k
        obtain rfl : true = v := k
        refine ⟨fun _ _ => False, fun _ _ z => z.elim, ρ, _, r.mono g tt, ?_⟩
        rw [eb]
        exact q
      | berr e eb =>
        rw [e]
        intro v H' g tt k
        obtain rfl : true = v := k
        refine ⟨fun _ _ => False, fun _ _ z => z.elim, ρ, _, r.mono g tt, ?_⟩
        rw [eb]
        exact q.mono (eH.trans g.imm)
    · exact q.elim
def PGJ (X : Cx) (J : Jx) (ω ω' : List Nat) (tg : Expr) (g : D → En → Option En) : Prop := ∃ t, PG X tg t ∧ ∀ v d σ H ρ s ρ' Q, RepS J.G J.H0 ω s H σ ρ → Rep J.G H d v → g d ρ = some ρ' → (∀ σ', RepS J.G J.H0 ω' s H σ' ρ' → Q σ' H) → t v σ H Q
def gSet (i : Nat) : D → En → Option En := fun d ρ => some (ρ.set i (some d))
theorem g_name (i : Nat) {x : Str} (ok : Ok X J) (hi : X.N[i]? = some x := by rfl) (hx : Loc X.env.scope x := by first | exact Or.inl rfl | exact Or.inr rfl) (hf : X.fn x = true ∨ X.env.scope.names.lookup x = some .local := by first | exact .inl rfl | exact .inr rfl) :
    PGJ X J ω (ω.set i 0) (.Name x pos) (gSet i) :=
  ⟨gName i, pg_name ok.nd hi hx hf, fun v d σ H ρ s ρ' Q r k e q => by cases e; exact q _ (r.put0 k)⟩
def PGsJ (X : Cx) (J : Jx) (ω ω' : List Nat) (tgs : List Expr) (g : List D → En → Option En) : Prop := ∃ t, PGs X tgs t ∧ ∀ vs ds σ H ρ s ρ' Q, RepS J.G J.H0 ω s H σ ρ → RepL J.G H ds vs → g ds ρ = some ρ' → (∀ σ', RepS J.G J.H0 ω' s H σ' ρ' → Q σ' H) → t vs σ H Q
def gsNil : List D → En → Option En
  | [], ρ => some ρ
  | _, _ => none
def gsCons (g : D → En → Option En) (r : List D → En → Option En) : List D → En → Option En
  | d :: l, ρ => (g d ρ).bind (r l)
  | _, _ => none
theorem gs_nil : PGsJ X J ω ω [] gsNil := ⟨gNil, pgs_nil, fun vs ds σ H ρ s ρ' Q r k e q => by
  cases ds with
  | nil =>
    simp only [RepL] at k
    cases e
    exact ⟨k, q σ r⟩
  | cons => cases e⟩
theorem gs_cons {e : Expr} {es : List Expr} {g1 : D → En → Option En} {g2 : List D → En → Option En} (h1 : PGJ X J ω ω1 e g1) (h2 : PGsJ X J ω1 ω' es g2)
    (hs : (assignEach (e :: es) X.env).map (·.2) = assign e X.env :: (assignEach es X.env).map (·.2) := by rfl) : PGsJ X J ω ω' (e :: es) (gsCons g1 g2) := by
  obtain ⟨t1, p1, q1⟩ := h1
  obtain ⟨t2, p2, q2⟩ := h2
  refine ⟨gCons t1 t2, pgs_cons p1 p2 hs, fun vs ds σ H ρ s ρ' Q r k e q => ?_⟩
  cases ds with
  | nil => cases e
  | cons d l =>
    simp only [RepL] at k
    obtain ⟨v, vs, rfl, k1, k2⟩ := k
    have e : (g1 d ρ).bind (g2 l) = some ρ' := e
    cases e1 : g1 d ρ with
    | none => rw [e1] at e; cases e
    | some ρ1 =>
      rw [e1] at e
      exact ⟨v, vs, rfl, q1 v d σ H ρ s ρ1 _ r k1 e1 fun σ1 r1 => q2 vs l σ1 H ρ1 s ρ' _ r1 k2 e q⟩
def gTupD (n : Nat) (g : List D → En → Option En) : D → En → Option En
  | .tup l, ρ => if l.length = n then g l ρ else none
  | _, _ => none
theorem g_tup {es : List Expr} {k : Nat} {g : List D → En → Option En} {n : Nat} (ok : Ok X J) (h : PGsJ X J ω ω' es g)
    (hn : (assignEach es X.env).length = n := by rfl) (hst : (assignEach es X.env).findIdx? (·.1) = none := by rfl) : PGJ X J ω ω' (.Tuple es k pos) (gTupD n g) := by
  obtain ⟨t, p, q⟩ := h
  refine ⟨gTup X.K n t, pg_tup ok.calm p hn hst, fun v d σ H ρ s ρ' Q r kk e q' => ?_⟩
  cases d with
  | tup l =>
    simp only [Rep] at kk
    obtain ⟨a, xs, rfl, hq, rl⟩ := kk
    have e : (if l.length = n then g l ρ else none) = some ρ' := e
    by_cases c : l.length = n
    · simp only [c, if_true] at e
      exact ⟨a, xs, rfl, by rw [ok.K]; exact hq.seq, by rw [rl.length, c], q xs l σ H ρ s ρ' Q r rl e q'⟩
    · simp only [c, if_false] at e; cases e
  | _ => cases e
def sAsg (g : D → En → Option En) (e : EX) : SX := sE e fun d ρ s => match g d ρ with
  | some ρ' => .go .nx ρ' s
  | none => .bad
theorem s_asg {tg : Expr} {g : D → En → Option En} (hok : J.ok ω) (he : EJ X J ω e fe) (hg : PGJ X J ω ω' tg g) (hs : swapsWithSole [tg] e pos.line X.env = pure false := by rfl) (hw : swappedStores [tg] e X.env = pure none := by rfl)
    (h1 : (assignEach [tg] X.env).map (·.2) = [assign tg X.env] := by rfl) : SJ X J ω ω' ωb ωc (.Assign [tg] e pos) (sAsg g fe) := by
  obtain ⟨t, p, q⟩ := hg
  refine (ps_asg he p hs hw h1).imp fun D σ H h => tS.exp hok h fun v H1 d ρ s1 g1 r k q1 => ?_
  cases e : g d ρ with
  | none => rw [e] at q1; exact q1.elim
  | some ρ' =>
    rw [e] at q1
    exact q v d σ H1 ρ s1 ρ' _ r k e fun σ' r' => q1 σ' H1 g1.imm r'
def forL (g : D → En → Option En) (b : SX) : List D → SX
  | [] => sPass
  | d :: l => fun ρ s => match g d ρ with
    | none => .bad
    | some ρ1 => match b ρ1 s with
      | .go .nx ρ2 s2 => forL g b l ρ2 s2
      | .go .ct ρ2 s2 => forL g b l ρ2 s2
      | .go .bk ρ2 s2 => .go .nx ρ2 s2
      | r => r
def itemsOf : D → Option (List D)
  | .lst l => some l
  | .tup l => some l
  | _ => none
def sFor (src : EX) (g : D → En → Option En) (b : SX) : SX := sE src fun d => match itemsOf d with
  | some l => forL g b l
  | none => fun _ _ => .bad
theorem for_core {J0 : It} {gt : TG} {tb : TS} {g : D → En → Option En} {b : SX} {l : List D} {xs : List V} {Dn : Ends} {σ : St} {Hs H : Hp} {ρ : En} {s : DS}
    (good : Hp → Prop) (g0 : good H) (gm : ∀ H H', Ex H H' → good H → good H')
    (nxt : ∀ i H, good H → i < xs.length → J0.go i H) (yl : ∀ i H x H', good H → i < xs.length → J0.yld i H x H' → H' = H ∧ xs[i]? = some x) (stp : ∀ H, good H → J0.stop xs.length H)
    (rl : RepL J.G H l xs) (hg : ∀ v d σ H ρ s ρ' Q, RepS J.G J.H0 ω s H σ ρ → Rep J.G H d v → g d ρ = some ρ' → (∀ σ', RepS J.G J.H0 ω1 s H σ' ρ' → Q σ' H) → gt v σ H Q)
    (he : Ex Hs H) (r : RepS J.G J.H0 ω s H σ ρ) (q : PostS J Hs ω ωb ωc Dn (forL g b l ρ s)) (htb : tb = tS J ω1 ω ω ω b) :
    ∃ W : Nat → Nat → St → Hp → Prop, (∃ m, W 0 m σ H) ∧ ∀ i m σ H, W i m σ H →
      (J0.stop i H ∧ Dn.nx σ H) ∨ (J0.go i H ∧ ∃ N : St → Hp → Prop, (∀ σ' H', N σ' H' → ∃ m', m' < m ∧ W (i + 1) m' σ' H') ∧ ∀ x H', J0.yld i H x H' → gt x σ H' fun σ2 H2 => tb { Dn with nx := N, ct := N, bk := Dn.nx } σ2 H2) := by
  have hlen := rl.length
  refine ⟨fun i m σ H' => m = l.length - i ∧ i ≤ l.length ∧ Ex H H' ∧ ∃ ρ s, RepS J.G J.H0 ω s H' σ ρ ∧ PostS J H' ω ωb ωc Dn (forL g b (l.drop i) ρ s), ⟨l.length, by simp, Nat.zero_le _, Ex.refl H, ρ, s, r, by simpa using q.mono he⟩, ?_⟩
  rintro i m σ H1 ⟨rfl, hi, e1, ρ, s, r, q⟩
  have gh := gm _ _ e1 g0
  by_cases hlt : i < l.length
  · refine .inr ⟨nxt i H1 gh (by omega), fun σ H' => Ex H H' ∧ ∃ ρ s, RepS J.G J.H0 ω s H' σ ρ ∧ PostS J H' ω ωb ωc Dn (forL g b (l.drop (i + 1)) ρ s), fun σ' H' z => ⟨l.length - (i + 1), by omega, rfl, hlt, z⟩, fun x H' y => ?_⟩
    obtain ⟨rfl, ex⟩ := yl i H1 x H' gh (by omega) y
    obtain ⟨d, ed, rd⟩ := (rl.mono e1).get ex
    have edr : l.drop i = d :: l.drop (i + 1) := by
      rw [List.drop_eq_getElem_cons hlt]
      rw [List.getElem?_eq_getElem hlt] at ed
      cases ed; rfl
    rw [edr] at q
    unfold forL at q
    cases eg : g d ρ with
    | none => rw [eg] at q; exact q.elim
    | some ρ1 =>
      rw [eg] at q
      refine hg x d σ _ ρ s ρ1 _ r rd eg fun σ1 r1 => ?_
      rw [htb]
      refine ⟨ρ1, s, r1, ?_⟩
      cases eb : b ρ1 s with
      | go fl ρ2 s2 =>
        simp only [eb] at q
        cases fl with
        | nx => exact fun σ2 H2 e2 r2 => ⟨e1.trans e2, ρ2, s2, r2, q.mono e2⟩
        | ct => exact fun σ2 H2 e2 r2 => ⟨e1.trans e2, ρ2, s2, r2, q.mono e2⟩
        | bk => exact fun σ2 H2 e2 r2 => q σ2 H2 e2 r2
        | rt d => exact q
      | err x ρ2 s2 => simp only [eb] at q; exact q
      | bad => simp only [eb] at q; exact q
  · have e : i = l.length := by omega
    subst e
    rw [List.drop_length] at q
    refine .inl ⟨by rw [← hlen]; exact stp H1 gh, q σ H1 (Ex.refl H1) r⟩
def iSeq (K : PySem.W.Frag) (tl : TE) : TI := fun σ H R => tl σ H fun x H1 => (∃ a, x = .ref a ∧ (∃ xs, SqL K H1 a xs) ∧ R (Itl K a) H1) ∨ ∃ a, x = .ref a ∧ (∃ xs, SqT K H1 a xs) ∧ R (Itt K a) H1
theorem pi_seq {tg l : Expr} {tl : TE} (hl : PE X l tl) : PI X tg l (iSeq X.K tl) := by
  refine ⟨fun pins s σ H R I h => ?_⟩
  refine thn (hl.run pins s σ H _ I h) fun v s1 ⟨x, H1, I1, r1, q1⟩ => ?_
  rcases q1 with ⟨a, e, ⟨xs, hq⟩, q⟩ | ⟨a, e, ⟨xs, hq⟩, q⟩
  · subst e
    cases r1
    obtain ⟨its, rv, p, hz⟩ := I1.list hq
    refine wpAny_pyIter_list p.isList ?_
    refine ⟨s1.heap.objs.size, [s1.heap.objs.size], _, _, H1, rfl, I1.kept (t' := s1.toks) fun b o e => Heap.get?_push_of_some _ e, turn_list a _, ⟨_, Heap.get?_push_size _ rfl, rfl, rfl⟩, fun b hb => ?_, q⟩
    have e : b = s1.heap.objs.size := by simpa using hb
    subst e
    exact I1.fpOk (Nat.le_refl _) (I1.hok.fresh (Nat.le_refl _))
  · subst e
    cases r1
    obtain ⟨its, rv, p, hz⟩ := I1.tuple hq
    refine wpAny_pyIter_tuple (show s1.heap.IsTuple a its.toArray from p) ?_
    refine ⟨s1.heap.objs.size, [s1.heap.objs.size], _, _, H1, rfl, I1.kept (t' := s1.toks) fun b o e => Heap.get?_push_of_some _ e, turn_tuple a _, ⟨_, Heap.get?_push_size _ rfl, rfl, rfl⟩, fun b hb => ?_, q⟩
    have e : b = s1.heap.objs.size := by simpa using hb
    subst e
    exact I1.fpOk (Nat.le_refl _) (I1.hok.fresh (Nat.le_refl _))
theorem seq_it {G : Gam} {K : PySem.W.Frag} (hK : K = G.K) {H : Hp} {d : D} {v : V} {l : List D} (k : Rep G H d v) (e : itemsOf d = some l) :
    ∃ a xs, v = .ref a ∧ RepL G H l xs ∧ ((d = .lst l ∧ FzL G.K H a xs) ∨ (d = .tup l ∧ FzT G.K H a xs)) := by
  cases d with
  | lst l' => cases e; simp only [Rep] at k; obtain ⟨a, xs, rfl, h, r⟩ := k; exact ⟨a, xs, rfl, r, .inl ⟨rfl, h⟩⟩
  | tup l' => cases e; simp only [Rep] at k; obtain ⟨a, xs, rfl, h, r⟩ := k; exact ⟨a, xs, rfl, r, .inr ⟨rfl, h⟩⟩
  | _ => cases e
end
end PL
set_option maxHeartbeats 1000000
namespace PL
open PySem PySem.Spec PyProof.Rows L2
section
variable {X : Cx} {J : Jx} {ω ω1 ω' ωb ωc : List Nat} {e tg : Expr} {fe : EX} {pos : Pos} {body : List Stmt} {b : SX} {g : D → En → Option En}
theorem s_for (hok : J.ok ω) (ok : Ok X J) (hp : PassesOwn (model X.prog X.w) X.A X.env X.xe) (he : EJ X J ω e fe) (hg : PGJ X J ω ω1 tg g) (hb : SsJ X J ω1 ω ω ω body b)
    (hs : ∀ x, foldedSetIterable e X.env x = pure x := by intro _; rfl) : SJ X J ω ω ωb ωc (.For tg e body [] pos) (sFor fe g b) := by
  obtain ⟨t, p, qg⟩ := hg
  refine (ps_for hp ok.calm (pi_seq he) p hb hs).imp fun Dn σ H h => ?_
  refine tS.exp hok h fun v H1 d ρ s1 g1 r k q => ?_
  cases ei : itemsOf d with
  | none => rw [ei] at q; exact q.elim
  | some l =>
    rw [ei] at q
    obtain ⟨a, xs, rfl, rl, h⟩ := seq_it (K := J.G.K) rfl k ei
    rcases h with ⟨_, hf⟩ | ⟨_, hf⟩
    · refine .inl ⟨a, rfl, ⟨xs, by rw [ok.K]; exact hf.seq⟩, ?_⟩
      refine for_core (J := J) (fun H => FzL J.G.K H a xs) hf (fun H H' e h => h.mono e) (fun i H gh hi => ⟨xs, xs[i], by rw [ok.K]; exact gh.seq, by simp [hi]⟩)
        (fun i H x H' gh _ y => ⟨y.1, y.2 xs (by rw [ok.K]; exact gh.seq)⟩) (fun H gh => ⟨xs, by rw [ok.K]; exact gh.seq, Nat.le_refl _⟩) rl qg g1.imm r q rfl
    · refine .inr ⟨a, rfl, ⟨xs, by rw [ok.K]; exact hf.seq⟩, ?_⟩
      refine for_core (J := J) (fun H => FzT J.G.K H a xs) hf (fun H H' e h => h.mono e) (fun i H gh hi => ⟨xs, xs[i], by rw [ok.K]; exact gh.seq, by simp [hi]⟩)
        (fun i H x H' gh _ y => ⟨y.1, y.2 xs (by rw [ok.K]; exact gh.seq)⟩) (fun H gh => ⟨xs, by rw [ok.K]; exact gh.seq, Nat.le_refl _⟩) rl qg g1.imm r q rfl
def rangeL (lo hi : Int) : List D := (List.range (hi - lo).toNat).map fun (i : Nat) => D.int (lo + i)
def small62 : Int → Bool
  | .ofNat k => Nat.ble k 4611686018427387903
  | .negSucc k => Nat.ble k 4611686018427387903
theorem small62_iff {i : Int} : small62 i = true ↔ -(2 ^ 62) ≤ i ∧ i < 2 ^ 62 := by
  cases i with
  | ofNat k =>
    show Nat.ble k 4611686018427387903 = true ↔ _
    rw [Nat.ble_eq, Int.ofNat_eq_natCast]
    omega
  | negSucc k =>
    have h : small62 (Int.negSucc k) = Nat.ble k 4611686018427387903 := rfl
    have h2 : (Int.negSucc k) = -((k : Int) + 1) := Int.negSucc_eq k
    rw [h, Nat.ble_eq, h2]
    constructor
    · intro h3
      constructor <;> omega
    · intro h3
      omega
def sForR1 (a : EX) (g : D → En → Option En) (b : SX) : SX := sE a fun d => match d with
  | .int n => if small62 n = true then forL g b (rangeL 0 n) else fun _ _ => .bad
  | _ => fun _ _ => .bad
def cPair (a b : EX) : En → M (D × D) := fun ρ => do let x ← a ρ; let y ← b ρ; pure (x, y)
def sForR2 (a b : EX) (g : D → En → Option En) (f : SX) : SX := sE (cPair a b) fun d => match d with
  | (.int m, .int n) => if (small62 m && small62 n) = true then forL g f (rangeL m n) else fun _ _ => .bad
  | _ => fun _ _ => .bad
theorem rangeL_rep {G : Gam} {H : Hp} {lo hi : Int} : RepL G H (rangeL lo hi) ((List.range (hi - lo).toNat).map fun (i : Nat) => V.int (lo + i)) := by
  unfold rangeL
  generalize List.range (hi - lo).toNat = l
  induction l with
  | nil => exact RepL.nil
  | cons n l ih => exact RepL.cons (by simp only [Rep]) ih
theorem range_core {lo hi : Int} {gt : TG} {tb : TS} {Dn : Ends} {σ : St} {Hs H : Hp} {ρ : En} {s : DS}
    (hg : ∀ v d σ H ρ s ρ' Q, RepS J.G J.H0 ω s H σ ρ → Rep J.G H d v → g d ρ = some ρ' → (∀ σ', RepS J.G J.H0 ω1 s H σ' ρ' → Q σ' H) → gt v σ H Q)
    (he : Ex Hs H) (r : RepS J.G J.H0 ω s H σ ρ) (q : PostS J Hs ω ωb ωc Dn (forL g b (rangeL lo hi) ρ s)) (htb : tb = tS J ω1 ω ω ω b) :
    ∃ W : Nat → Nat → St → Hp → Prop, (∃ m, W 0 m σ H) ∧ ∀ i m σ H, W i m σ H →
      ((Itr lo (hi - lo).toNat).stop i H ∧ Dn.nx σ H) ∨ ((Itr lo (hi - lo).toNat).go i H ∧ ∃ N : St → Hp → Prop, (∀ σ' H', N σ' H' → ∃ m', m' < m ∧ W (i + 1) m' σ' H') ∧ ∀ x H', (Itr lo (hi - lo).toNat).yld i H x H' → gt x σ H' fun σ2 H2 => tb { Dn with nx := N, ct := N, bk := Dn.nx } σ2 H2) := by
  refine for_core (J := J) (l := rangeL lo hi) (xs := (List.range (hi - lo).toNat).map fun (i : Nat) => V.int (lo + i)) (fun _ => True) trivial (fun _ _ _ _ => trivial) (fun i H _ hi' => ?_) (fun i H x H' _ hi' y => ?_) (fun H _ => ?_) rangeL_rep hg he r q htb
  · show i < (hi - lo).toNat
    simpa using hi'
  · obtain ⟨y1, y2⟩ := y
    refine ⟨y1, ?_⟩
    have : i < (hi - lo).toNat := by simpa using hi'
    rw [List.getElem?_map, List.getElem?_range this, y2]
    rfl
  · show (hi - lo).toNat ≤ _
    simp
theorem s_forR1 {a : Expr} {fa : EX} {p pos' : Pos} (hok : J.ok ω) (ok : Ok X J) (hp : PassesOwn (model X.prog X.w) X.A X.env X.xe) (hG : Gl X "range") (hm : X.mg "range" = none) (ha : EJ X J ω a fa) (hg : PGJ X J ω ω1 tg g) (hb : SsJ X J ω1 ω ω ω body b)
    (hs1 : starEach [a] X.env = [(false, eval a X.env)] := by rfl) (hs : ∀ x, foldedSetIterable (.Call (.Name "range" p) [a] [] pos') X.env x = pure x := by intro _; rfl) : SJ X J ω ω ωb ωc (.For tg (.Call (.Name "range" p) [a] [] pos') body [] pos) (sForR1 fa g b) := by
  obtain ⟨t, pg, qg⟩ := hg
  refine (ps_for hp ok.calm (pi_range1 hG hm (pa_cons ha pa_nil hs1) hs1) pg hb hs).imp fun Dn σ H h => ?_
  refine tS.exp hok h fun v H1 d ρ s1 g1 r k q => ?_
  cases d with
  | int n =>
    have k : v = .int n := by simpa only [κV, Rep] using k
    by_cases c : small62 n = true
    · simp only [c, if_true] at q
      obtain ⟨c1, c2⟩ := small62_iff.mp c
      have := range_core (J := J) (lo := 0) (hi := n) qg g1.imm r q rfl
      rw [Int.sub_zero] at this
      exact ⟨n, by rw [k], c1, c2, this⟩
    · simp only [c, if_false] at q
      exact q.elim
  | _ => exact q.elim
end
def getSt (k : Nat) : M D := fun s => .ok (.int (if k = 0 then s.1 else s.2)) s
def ixD (l : List D) (i : Int) : M D := match atI l i with
  | some d => pure d
  | none => bad
def dIdx : D → D → M D
  | .lst l, .int i => ixD l i
  | .tup l, .int i => ixD l i
  | .str z, .int i => if z.length ≤ 1000000 then (match atI z.cps.toList i with
    | some c => pure (.str ⟨#[c]⟩)
    | none => bad) else bad
  | .st, .int i => if i = 0 then getSt 0 else if i = 1 then getSt 1 else bad
  | _, _ => bad
theorem atI_rep {G : Gam} {H : Hp} {l : List D} {xs : List V} {i : Int} {d : D} (r : RepL G H l xs) (h : atI l i = some d) : ∃ v, atI xs i = some v ∧ Rep G H d v := by
  unfold atI at h ⊢
  rw [r.length]
  cases e : ixN l.length i with
  | none => rw [e] at h; cases h
  | some j => rw [e] at h; exact r.get' h
section
variable {X : Cx} {J : Jx} {ω ω1 ω' ωb ωc : List Nat} {a b e : Expr} {fa fb fe : EX} {pos : Pos}
theorem e_idx (ok : Ok X J) (ha : EJ X J ω a fa) (hb : EJ X J ω b fb) (hs : PlainIx b := by exact fun _ _ => rfl) : EJ X J ω (.Subscript a b pos) (cBin dIdx fa fb) := (pe_ix ix_seq ha hb hs).imp fun σ H Q h => by
  obtain ⟨ρ, s, r, q⟩ := h
  refine tG.step r q fun x H1 dx s1 g1 r1 kx q1 => ?_
  refine tG.step r1 (q1.mono g1 (κ' := fun d v H' => Rep J.G H' d v) fun _ _ _ _ k => k) fun y H2 dy s2 g2 r2 ky q2 => ?_
  have kx := Rep.mono g2.imm kx
  cases dy with
  | int i =>
    have ky : y = .int i := by simpa only [κV, Rep] using ky
    subst ky
    cases dx with
    | lst l =>
      simp only [dIdx, ixD] at q2
      cases e : atI l i with
      | none => rw [e] at q2; exact q2.elim
      | some d =>
        rw [e] at q2
        simp only [Rep] at kx
        obtain ⟨p, xs, rfl, hf, rl⟩ := kx
        obtain ⟨v, ev, rv⟩ := atI_rep rl e
        exact .inl ⟨p, xs, i, v, rfl, rfl, by rw [ok.K]; exact hf.seq, ev, q2 v H2 g2 r2.st rv⟩
    | tup l =>
      simp only [dIdx, ixD] at q2
      cases e : atI l i with
      | none => rw [e] at q2; exact q2.elim
      | some d =>
        rw [e] at q2
        simp only [Rep] at kx
        obtain ⟨p, xs, rfl, hf, rl⟩ := kx
        obtain ⟨v, ev, rv⟩ := atI_rep rl e
        exact .inr (.inl ⟨p, xs, i, v, rfl, rfl, by rw [ok.K]; exact hf.seq, ev, q2 v H2 g2 r2.st rv⟩)
    | str z =>
      simp only [dIdx] at q2
      have kx : x = .str z := by simpa only [Rep] using kx
      by_cases c : z.length ≤ 1000000
      · simp only [c, if_true] at q2
        cases e : atI z.cps.toList i with
        | none => rw [e] at q2; exact q2.elim
        | some ch =>
          rw [e] at q2
          exact .inr (.inr ⟨z, i, ch, kx, rfl, line1M c, e, q2 _ H2 g2 r2.st (by simp only [Rep])⟩)
      · simp only [c, if_false] at q2
        exact q2.elim
    | st =>
      simp only [dIdx] at q2
      simp only [Rep] at kx
      obtain ⟨p, hp, rfl⟩ := kx
      have hst := r2.st p hp
      by_cases c0 : i = 0
      · subst c0
        rw [if_pos rfl] at q2
        exact .inl ⟨p, _, 0, .int s2.1, rfl, rfl, .inl (.inl hst), rfl, q2 _ H2 g2 r2.st (by simp [Rep])⟩
      · by_cases c1 : i = 1
        · subst c1
          rw [if_neg c0, if_pos rfl] at q2
          exact .inl ⟨p, _, 1, .int s2.2, rfl, rfl, .inl (.inl hst), rfl, q2 _ H2 g2 r2.st (by simp [Rep])⟩
        · rw [if_neg c0, if_neg c1] at q2
          exact q2.elim
    | _ => exact q2.elim
  | _ => cases dx <;> exact q2.elim
def sSetSt (k : Nat) (i : Nat) (e : EX) : SX := sE e fun d ρ s => match ρ[i]?, d with
  | some (some .st), .int n => .go .nx ρ (if k = 0 then (n, s.2) else (s.1, n))
  | _, _ => .bad
theorem s_setSt {x : Str} {k : Nat} {pos' p1 p2 : Pos} {j : Nat} (hok : J.ok ω) (i : Nat) (ok : Ok X J) (hk2 : k = 0 ∨ k = 1 := by decide) (he : EJ X J ω e fe) (hk : kd ω i = 0 := by rfl) (hi : X.N[i]? = some x := by rfl) (hv : Vis X.env.scope x := by first | exact Or.inl rfl | exact Or.inr (Or.inl rfl) | exact Or.inr (Or.inr rfl))
    (ha : ∀ v, assign (.Subscript (.Name x p1) (.Constant (.int (k : Int)) j p2) pos') X.env v = (do
      let ov ← holding [v] (eval (.Name x p1) X.env)
      let iv ← holding [v, ov] (eval (.Constant (.int (k : Int)) j p2) X.env)
      standAt pos'
      holding [v, ov, iv] (setItem ov iv v)
      release [v, ov, iv] []) := by intro _; rfl)
    (hd : (x == ("__debug__" : Str)) = false := by decide) (hcd : (x == ("__classdict__" : Str)) = false := by decide)
    (hs : swapsWithSole [.Subscript (.Name x p1) (.Constant (.int (k : Int)) j p2) pos'] e pos.line X.env = pure false := by rfl) (hw : swappedStores [.Subscript (.Name x p1) (.Constant (.int (k : Int)) j p2) pos'] e X.env = pure none := by rfl)
    (h1 : (assignEach [.Subscript (.Name x p1) (.Constant (.int (k : Int)) j p2) pos'] X.env).map (·.2) = [assign (.Subscript (.Name x p1) (.Constant (.int (k : Int)) j p2) pos') X.env] := by rfl) :
    SJ X J ω ω ωb ωc (.Assign [.Subscript (.Name x p1) (.Constant (.int (k : Int)) j p2) pos'] e pos) (sSetSt k i fe) := by
  refine (ps_asg he (pg_sub (pe_var hi hv hd hcd) pe_int set_list ha) hs hw h1).imp fun D σ H h => tS.exp hok h fun v H1 d ρ s1 g r kk q => ?_
  cases e1 : ρ[i]? with
  | none => rw [e1] at q; exact q.elim
  | some o =>
    cases o with
    | none => rw [e1] at q; exact q.elim
    | some d1 =>
      rw [e1] at q
      cases d1 with
      | st =>
        cases d with
        | int n =>
          obtain ⟨w, ew, kw⟩ := r.get hk e1
          simp only [Rep] at kw
          obtain ⟨p, hp, rfl⟩ := kw
          have kk : v = .int n := by simpa only [κV, Rep] using kk
          subst kk
          have hst := r.st p hp
          refine ⟨_, ew, p, _, k, k, rfl, rfl, hst, ?_, ?_⟩
          · rcases hk2 with rfl | rfl <;> rfl
          · have gx : Ex H1 (upd H1 p (.lst ([V.int s1.1, V.int s1.2].set k (.int n)))) := imm_upd hst
            have gg : Gr J.G H1 (upd H1 p (.lst ([V.int s1.1, V.int s1.2].set k (.int n)))) := ⟨gx, fun a o ne e => by
              rw [upd_ne (fun z => ne (by rw [z]; exact hp))]; exact e, fun a e => upd_none e⟩
            refine q _ _ (g.imm.trans gx) (r.mono gg fun a e => ?_)
            rw [hp] at e; cases e
            rw [upd_same]
            rcases hk2 with rfl | rfl <;> rfl
        | _ => exact q.elim
      | _ => exact q.elim
end
def mk (k : Nat) (body : SX) : List D → M D := fun args s => match body (args.map some ++ List.replicate k none) s with
  | .go .nx _ s' => .ok .non s'
  | .go (.rt d) _ s' => .ok d s'
  | .err x _ s' => .err x s'
  | _ => .bad
def jx (G : Gam) (th : Option Addr) (H : Hp) (E : XK) : Jx := ⟨G.at th, fun cls d _ H' => E cls d H', fun _ => True, H, fun H' d v => Rep (G.at th) H' d v⟩
theorem RepS.start {G : Gam} {H : Hp} {ω : List Nat} {s : DS} {args : List D} {vs : List V} {N : List Str} {k : Nat} (st : StOk G s H) (r : RepL G H args vs) (hω : ∀ i, i < args.length → kd ω i = 0) (hk : N.length = args.length + k) :
    RepS G H ω s H (L2.start N vs) (args.map some ++ List.replicate k none) := by
  have hl := r.length
  have hs : L2.start N vs = vs.map some ++ List.replicate k none := by
    unfold L2.start
    rw [show N.length - vs.length = k by omega]
  refine ⟨Gr.refl G H, st, by rw [hs]; simp [hl], fun _ => [], fun i d e => ?_, fun _ => List.nodup_nil, fun _ _ a _ m => (List.not_mem_nil m).elim, fun _ a m => (List.not_mem_nil m).elim⟩
  by_cases hi : i < args.length
  · rw [List.getElem?_append_left (by simpa using hi), List.getElem?_map] at e
    cases ea : args[i]? with
    | none => rw [ea] at e; cases e
    | some d' =>
      rw [ea] at e; cases e
      obtain ⟨v, ev, rv⟩ := r.get' ea
      refine ⟨v, ?_, ?_⟩
      · rw [hs, List.getElem?_append_left (by simpa [hl] using hi), List.getElem?_map, ev]; rfl
      · rw [hω i hi]; exact ⟨rfl, rv⟩
  · rw [List.getElem?_append_right (by simpa using hi), List.getElem?_replicate] at e
    split at e <;> cases e
theorem def_ok {P : Program} {w : World} {K : PySem.W.Frag} {mg : Str → Option Value} {base : Heap} {x qual : Str} {params : Arguments} {body : List Stmt} {scope : Scope} {dvs : List V} {kws : List (Str × V)} {f : Addr} {fd : FuncData} {N ps : List Str} {k n m : Nat} {G : Gam} {b : SX} {ω' : List Nat}
    (F : FunD K x qual params body scope dvs kws f fd) (S : FnScope N ps scope) (hn : ps.length = n) (hN : N.length = n + m)
    (hbody : ∀ (cdv : Value) (A : Around) (outer : List Env) (s : Shared) (H : Hp) (E : XK) (th : Option Addr), Room k (A.deeper (envOfC qual scope s.heap.objs.size f cdv)) →
      SsJ (cxOf (L2.CX P w) P w K mg base N qual scope f cdv A outer s H E) (jx G th H E) (List.replicate (n + m) 0) ω' [] [] body b) :
    FnOk P w K mg base (L2.CX P w) (k + 1) f fd ps (spM G (mk m b) n) := by
  have len : ∀ vs H Q E, spM G (mk m b) n vs H Q E → vs.length = ps.length := fun vs H Q E h => by
    obtain ⟨th, args, s, r, _, hl, _⟩ := h
    rw [r.length, hl, hn]
  refine F.ok S len fun cdv A outer s H vs Q E hr h => ?_
  obtain ⟨th, args, ds, r, st, hl, q⟩ := h
  refine ⟨_, hbody cdv A outer s H E th hr, args.map some ++ List.replicate m none, ds, ?_, ?_⟩
  · refine RepS.start st r (fun i hi => ?_) (by omega)
    unfold kd
    rw [List.getD_eq_getElem?_getD, List.getElem?_replicate]
    split <;> rfl
  · unfold mk at q
    cases e : b (args.map some ++ List.replicate m none) ds with
    | go fl ρ' s' =>
      rw [e] at q
      cases fl with
      | nx => exact fun σ' H' _ r' => q .non H' r'.gr r'.st (by simp only [Rep])
      | rt d => exact q
      | bk => exact q.elim
      | ct => exact q.elim
    | err x ρ' s' =>
      rw [e] at q
      exact fun ω cls dc σ' H' _ _ r' rx => q cls dc H' r'.gr r'.st rx
    | bad => rw [e] at q; exact q.elim
end PL
set_option maxHeartbeats 1000000
namespace PL
open PySem PySem.Spec PyProof.Rows L2
def okMul (i j : Int) : Bool := decide (i.natAbs < 2 ^ 64) || (decide (j.natAbs < 2 ^ 64) || decide (i.natAbs.log2 + j.natAbs.log2 < 1000000))
def okDiv (j : Int) : Bool := decide (0 < j) && decide (j.natAbs.log2 < 9000)
def fit (q : Rat) : Bool := decide (q.num.natAbs < 2 ^ 4000) && decide (q.den < 2 ^ 4000)
def ratB (op : Rat → Rat → Rat) (p q : Rat) : M D := if (fit p && fit q) = true then pure (.rat (op p q)) else bad
def noRat : Rat → Rat → M D := fun _ _ => bad
def dAddG (r : Rat → Rat → M D) : D → D → M D
  | .int a, .int b => pure (.int (a + b))
  | .rat p, .rat q => r p q
  | .str a, .str b => if a.length + b.length ≤ 1000000 then pure (.str (a ++ b)) else bad
  | .tup a, .tup b => if a.length + b.length ≤ 1000000 then pure (.tup (a ++ b)) else bad
  | .lst a, .lst b => if a.length + b.length ≤ 1000000 then pure (.lst (a ++ b)) else bad
  | _, _ => bad
abbrev dAdd : D → D → M D := dAddG (ratB (· + ·))
abbrev dAddL : D → D → M D := dAddG noRat
def dSub : D → D → M D
  | .int a, .int b => pure (.int (a - b))
  | .rat p, .rat q => ratB (· - ·) p q
  | _, _ => bad
def dMul : D → D → M D
  | .int a, .int b => if okMul a b = true then pure (.int (a * b)) else bad
  | .rat p, .rat q => ratB (· * ·) p q
  | _, _ => bad
def dFdiv : D → D → M D
  | .int a, .int b => if okDiv b = true then pure (.int (a / b)) else bad
  | _, _ => bad
def dMod : D → D → M D
  | .int a, .int b => if 0 < b then pure (.int (a % b)) else bad
  | _, _ => bad
def dPow : D → D → M D
  | .int a, .int b => if (decide (0 ≤ b) && (decide (b ≤ 1000) && decide (a.natAbs < 2 ^ 64))) = true then pure (.int (a ^ b.toNat)) else bad
  | _, _ => bad
def dNeg : D → M D
  | .int a => pure (.int (-a))
  | .rat p => if fit p = true then pure (.rat (-p)) else bad
  | _ => bad
def dCmp (p : Int → Int → Bool) : D → D → M D
  | .int a, .int b => pure (.bl (p a b))
  | _, _ => bad
def Pure2 (op : D → D → M D) : Prop := ∀ x y, op x y = bad ∨ ∃ d, op x y = pure d
theorem Pure2.ne {op : D → D → M D} (h : Pure2 op) : NoErr2 op := fun x y s e s' => by
  rcases h x y with z | ⟨d, z⟩
  · rw [z]; exact fun q => by cases q
  · rw [z]; exact fun q => by cases q
def Pure1 (op : D → M D) : Prop := ∀ x, op x = bad ∨ ∃ d, op x = pure d
theorem Pure1.ne {op : D → M D} (h : Pure1 op) : NoErr1 op := fun x s e s' => by
  rcases h x with z | ⟨d, z⟩
  · rw [z]; exact fun q => by cases q
  · rw [z]; exact fun q => by cases q
theorem ite_pure {c : Prop} [Decidable c] {d : D} : (if c then (pure d : M D) else bad) = bad ∨ ∃ d', (if c then (pure d : M D) else bad) = pure d' := by
  by_cases h : c
  · exact .inr ⟨d, if_pos h⟩
  · exact .inl (if_neg h)
theorem pure_addG {r : Rat → Rat → M D} (hr : ∀ p q, r p q = bad ∨ ∃ d, r p q = pure d) : Pure2 (dAddG r) := fun x y => by
  cases x <;> cases y <;> first | exact .inl rfl | exact .inr ⟨_, rfl⟩ | exact ite_pure | exact hr _ _
theorem pure_add : Pure2 dAdd := pure_addG fun _ _ => ite_pure
theorem pure_addL : Pure2 dAddL := pure_addG fun _ _ => .inl rfl
theorem pure_sub : Pure2 dSub := fun x y => by
  cases x <;> cases y <;> first | exact .inl rfl | exact .inr ⟨_, rfl⟩ | exact ite_pure
theorem pure_mul : Pure2 dMul := fun x y => by
  cases x <;> cases y <;> first | exact .inl rfl | exact .inr ⟨_, rfl⟩ | exact ite_pure
theorem pure_fdiv : Pure2 dFdiv := fun x y => by
  cases x <;> cases y <;> first | exact .inl rfl | exact ite_pure
theorem pure_mod : Pure2 dMod := fun x y => by
  cases x <;> cases y <;> first | exact .inl rfl | exact ite_pure
theorem pure_neg : Pure1 dNeg := fun x => by
  cases x <;> first | exact .inl rfl | exact .inr ⟨_, rfl⟩ | exact ite_pure
theorem pure_cmp {p : Int → Int → Bool} : Pure2 (dCmp p) := fun x y => by
  cases x <;> cases y <;> first | exact .inl rfl | exact .inr ⟨_, rfl⟩
section
variable {X : Cx} {J : Jx}
theorem rep_int {G : Gam} {H : Hp} {i : Int} {v : V} : Rep G H (.int i) v ↔ v = .int i := by simp only [Rep]
theorem rep_bl {G : Gam} {H : Hp} {i : Bool} {v : V} : Rep G H (.bl i) v ↔ v = .bl i := by simp only [Rep]
theorem rep_str {G : Gam} {H : Hp} {i : Str} {v : V} : Rep G H (.str i) v ↔ v = .str i := by simp only [Rep]
theorem rep_non {G : Gam} {H : Hp} {v : V} : Rep G H .non v ↔ v = .non := by simp only [Rep]
theorem OpR.of {f : Value → Value → Sem Value} {op : D → D → M D} (hp : Pure2 op) (h : ∀ dx dy d, op dx dy = pure d → ∀ pins s σ H x y v u Q, (∃ ds, StOk J.G ds H) → Inv X pins σ H s → RelV x v → RelV y u → Rep J.G H dx x → Rep J.G H dy y → (∀ z H', Gr J.G H H' → (∀ s, StOk J.G s H → StOk J.G s H') → Rep J.G H' d z → Q z H') → wpAny (model X.prog X.w) X.A (f v u) (EP X pins σ Q) X.xe s) :
    OpR X f (rD J.G op) := by
  intro pins s σ H x y v u Q I rx ry ⟨dx, dy, s0, d, s1, st, kx, ky, e, q⟩
  rcases hp dx dy with z | ⟨d', z⟩
  · rw [z] at e; cases e
  · rw [z] at e; cases e
    exact h dx dy _ z pins s σ H x y v u Q ⟨_, st⟩ I rx ry kx ky fun w H' g t k => q w H' g (t _ st) k
theorem UnR.of {f : Value → Sem Value} {op : D → M D} (hp : Pure1 op) (h : ∀ dx d, op dx = pure d → ∀ pins s σ H x v Q, (∃ ds, StOk J.G ds H) → Inv X pins σ H s → RelV x v → Rep J.G H dx x → (∀ z H', Gr J.G H H' → (∀ s, StOk J.G s H → StOk J.G s H') → Rep J.G H' d z → Q z H') → wpAny (model X.prog X.w) X.A (f v) (EP X pins σ Q) X.xe s) :
    UnR X f (rD1 J.G op) := by
  intro pins s σ H x v Q I rx ⟨dx, s0, d, s1, st, kx, e, q⟩
  rcases hp dx with z | ⟨d', z⟩
  · rw [z] at e; cases e
  · rw [z] at e; cases e
    exact h dx _ z pins s σ H x v Q ⟨_, st⟩ I rx kx fun w H' g t k => q w H' g (t _ st) k
theorem M.pure_ne_bad {d : D} : (pure d : M D) ≠ bad := fun h => by
  have := congrFun h (0, 0)
  cases this
theorem M.pure_inj {d e : D} (h : (pure d : M D) = pure e) : d = e := by
  have := congrFun h (0, 0)
  cases this
  rfl
theorem bad_ne {d : D} {P : Prop} (h : (bad : M D) = pure d) : P := (M.pure_ne_bad h.symm).elim
theorem ite_pure_of {c : Prop} [Decidable c] {d e : D} (h : (if c then (pure d : M D) else bad) = pure e) : c ∧ d = e := by
  by_cases hc : c
  · rw [if_pos hc] at h; exact ⟨hc, M.pure_inj h⟩
  · rw [if_neg hc] at h; exact bad_ne h
def RatOp (X : Cx) (J : Jx) (f : Value → Value → Sem Value) (op : Rat → Rat → M D) : Prop := ∀ p q d, op p q = pure d → ∀ pins s σ H x y v u Q, (∃ ds, StOk J.G ds H) → Inv X pins σ H s → RelV x v → RelV y u → Rep J.G H (.rat p) x → Rep J.G H (.rat q) y → (∀ z H', Gr J.G H H' → (∀ s, StOk J.G s H → StOk J.G s H') → Rep J.G H' d z → Q z H') → wpAny (model X.prog X.w) X.A (f v u) (EP X pins σ Q) X.xe s
theorem okMul_ok {i j : Int} (h : okMul i j = true) : IntMulOk i j := by
  unfold okMul at h
  rcases Bool.or_eq_true_iff.mp h with h | h
  · exact CMul.ok (.inl (by have := of_decide_eq_true h; omega))
  · rcases Bool.or_eq_true_iff.mp h with h | h
    · exact CMul.ok (.inr (by have := of_decide_eq_true h; omega))
    · have h2 : i.natAbs.log2 + j.natAbs.log2 < 1000000 := of_decide_eq_true h
      exact CMulW.ok h2
theorem op_mulA : OpR X (binaryOp .Mult) (rI (fun i j => okMul i j = true) fun i j => .int (i * j)) := opI fun _ _ _ _ _ _ _ hc q => mul_int q (okMul_ok hc)
def rCatR : R2 := fun x y H Q => ∃ l b xs zs, x = .ref l ∧ y = .ref b ∧ Rd H l (.lst xs) ∧ Rd H b (.lst zs) ∧ xs.length + zs.length ≤ sizeLine ∧ ∀ p, H p = none → Q (.ref p) (L2.upd H p (.lst (xs ++ zs)))
theorem op_catR : OpR X (binaryOp .Add) rCatR := by
  intro pins s σ H x y v u Q I rx ry ⟨l, b, xs, zs, ex, ey, hH, hB, hz, q⟩
  subst ex ey
  obtain rfl : v = .ref l := rx
  obtain rfl : u = .ref b := ry
  obtain ⟨z, its, n, r, e⟩ := (show ObjOk X.prog X.w H s.heap l (.lst xs) from hH.ok I.hok)
  obtain ⟨z2, its2, n2, r2, e2⟩ := (show ObjOk X.prog X.w H s.heap b (.lst zs) from hB.ok I.hok)
  have hl := r.length
  have hl2 := r2.length
  refine PySem.P.add_list e e2 ?_ (by rw [List.size_toArray, List.size_toArray]; omega)
  have ea : its.toArray ++ its2.toArray = (its ++ its2).toArray := by simp
  rw [ea]
  exact ⟨.ref _, _, I.lnew (t' := s.toks) (r.append r2) (by rw [List.length_append]; omega), rfl, q _ I.fresh⟩
theorem o_sub (hr : RatOp X J (binaryOp .Sub) (ratB (· - ·))) : OpR X (binaryOp .Sub) (rD J.G dSub) := OpR.of pure_sub fun dx dy d e => by
  cases dx <;> cases dy <;> first | exact bad_ne e | skip
  · rename_i i j
    cases M.pure_inj e
    intro pins s σ H x y v u Q _ I rx ry kx ky q
    exact op_sub pins s σ H x y v u Q I rx ry ⟨i, j, rep_int.mp kx, rep_int.mp ky, q _ H (Gr.refl _ _) (fun _ t => t) (rep_int.mpr rfl)⟩
  · exact hr _ _ _ e
theorem o_addG {r : Rat → Rat → M D} (hp : ∀ p q, r p q = bad ∨ ∃ d, r p q = pure d) (hr : RatOp X J (binaryOp .Add) r) (hK : X.K = J.G.K) : OpR X (binaryOp .Add) (rD J.G (dAddG r)) := OpR.of (pure_addG hp) fun dx dy d e => by
  cases dx <;> cases dy <;> first | exact bad_ne e | skip
  · rename_i i j
    cases M.pure_inj e
    intro pins s σ H x y v u Q _ I rx ry kx ky q
    exact op_add pins s σ H x y v u Q I rx ry ⟨i, j, rep_int.mp kx, rep_int.mp ky, q _ H (Gr.refl _ _) (fun _ t => t) (rep_int.mpr rfl)⟩
  · rename_i a b
    obtain ⟨c, rfl⟩ := ite_pure_of e
    intro pins s σ H x y v u Q _ I rx ry kx ky q
    exact op_add_str pins s σ H x y v u Q I rx ry ⟨a, b, rep_str.mp kx, rep_str.mp ky, line1M c, q _ H (Gr.refl _ _) (fun _ t => t) (rep_str.mpr rfl)⟩
  · exact hr _ _ _ e
  · rename_i a b
    obtain ⟨c, rfl⟩ := ite_pure_of e
    intro pins s σ H x y v u Q _ I rx ry kx ky q
    simp only [Rep] at kx ky
    obtain ⟨p1, xs, rfl, h1, r1⟩ := kx
    obtain ⟨p2, ys, rfl, h2, r2⟩ := ky
    refine op_catA pins s σ H _ _ v u Q I rx ry ⟨p1, p2, xs, ys, rfl, rfl, by rw [hK]; exact h1.seq, by rw [hK]; exact h2.seq, line1M (by rw [r1.length, r2.length]; exact c), fun e => ?_, fun _ e => ?_, fun _ _ p hp => ?_⟩
    · have : a = [] := by
        have := r1.length
        subst e
        cases a with
        | nil => rfl
        | cons => cases this
      subst this
      refine q _ H (Gr.refl _ _) (fun _ t => t) ?_
      simp only [Rep]
      exact ⟨p2, ys, rfl, h2, r2⟩
    · have : b = [] := by
        have := r2.length
        subst e
        cases b with
        | nil => rfl
        | cons => cases this
      subst this
      refine q _ H (Gr.refl _ _) (fun _ t => t) ?_
      simp only [Rep]
      exact ⟨p1, xs, rfl, h1, by rw [List.append_nil]; exact r1⟩
    · refine q _ _ (Gr.new hp) (fun s t a e => by rw [upd_ne (ne_of_none (t a e) hp)]; exact t a e) ?_
      simp only [Rep]
      exact ⟨p, _, rfl, .inl upd_same, (r1.append r2).mono (Gr.new (G := J.G) hp).imm⟩
  · rename_i a b
    obtain ⟨c, rfl⟩ := ite_pure_of e
    intro pins s σ H x y v u Q _ I rx ry kx ky q
    simp only [Rep] at kx ky
    obtain ⟨p1, xs, rfl, h1, r1⟩ := kx
    obtain ⟨p2, ys, rfl, h2, r2⟩ := ky
    refine thn (op_catR pins s σ H _ _ v u (fun z H' => ∃ p, z = .ref p ∧ H p = none ∧ H' = L2.upd H p (.lst (xs ++ ys))) I rx ry ⟨p1, p2, xs, ys, rfl, rfl, .inr h1, .inr h2, line1M (by rw [r1.length, r2.length]; exact c), fun p hp => ⟨p, rfl, hp, rfl⟩⟩) fun w s' z => ?_
    obtain ⟨z, H', I', rz, p, rfl, hp, rfl⟩ := z
    obtain ⟨o, I2⟩ := inv_freeze I' upd_same
    refine ⟨.ref p, _, I2, rz, q _ _ ((Gr.new hp).upd hp) (fun s t a e => ?_) ?_⟩
    · rw [upd_ne (ne_of_none (t a e) hp), upd_ne (ne_of_none (t a e) hp)]; exact t a e
    · simp only [Rep]
      exact ⟨p, _, rfl, ⟨o, upd_same⟩, (r1.append r2).mono (((Gr.new (G := J.G) hp).upd hp)).imm⟩
theorem o_add (hr : RatOp X J (binaryOp .Add) (ratB (· + ·))) (hK : X.K = J.G.K) : OpR X (binaryOp .Add) (rD J.G dAdd) := o_addG (fun _ _ => ite_pure) hr hK
theorem o_addL (hK : X.K = J.G.K) : OpR X (binaryOp .Add) (rD J.G dAddL) := o_addG (fun _ _ => .inl rfl) (fun _ _ _ e => bad_ne e) hK
theorem o_mul (hr : RatOp X J (binaryOp .Mult) (ratB (· * ·))) : OpR X (binaryOp .Mult) (rD J.G dMul) := OpR.of pure_mul fun dx dy d e => by
  cases dx <;> cases dy <;> first | exact bad_ne e | skip
  · rename_i i j
    obtain ⟨c, rfl⟩ := ite_pure_of e
    intro pins s σ H x y v u Q _ I rx ry kx ky q
    exact op_mulA pins s σ H x y v u Q I rx ry ⟨i, j, rep_int.mp kx, rep_int.mp ky, c, q _ H (Gr.refl _ _) (fun _ t => t) (rep_int.mpr rfl)⟩
  · exact hr _ _ _ e
def dAddI : D → D → M D
  | .int a, .int b => pure (.int (a + b))
  | _, _ => bad
def dSubI : D → D → M D
  | .int a, .int b => pure (.int (a - b))
  | _, _ => bad
def dMulI : D → D → M D
  | .int a, .int b => if okMul a b = true then pure (.int (a * b)) else bad
  | _, _ => bad
def dNegI : D → M D
  | .int a => pure (.int (-a))
  | _ => bad
theorem pure_addI : Pure2 dAddI := fun x y => by
  cases x <;> cases y <;> first | exact .inl rfl | exact .inr ⟨_, rfl⟩
theorem pure_subI : Pure2 dSubI := fun x y => by
  cases x <;> cases y <;> first | exact .inl rfl | exact .inr ⟨_, rfl⟩
theorem pure_mulI : Pure2 dMulI := fun x y => by
  cases x <;> cases y <;> first | exact .inl rfl | exact ite_pure
theorem pure_negI : Pure1 dNegI := fun x => by
  cases x <;> first | exact .inl rfl | exact .inr ⟨_, rfl⟩
theorem o_addI : OpR X (binaryOp .Add) (rD J.G dAddI) := OpR.of pure_addI fun dx dy d e => by
  cases dx <;> cases dy <;> first | exact bad_ne e | skip
  rename_i i j
  cases M.pure_inj e
  intro pins s σ H x y v u Q _ I rx ry kx ky q
  exact op_add pins s σ H x y v u Q I rx ry ⟨i, j, rep_int.mp kx, rep_int.mp ky, q _ H (Gr.refl _ _) (fun _ t => t) (rep_int.mpr rfl)⟩
theorem o_subI : OpR X (binaryOp .Sub) (rD J.G dSubI) := OpR.of pure_subI fun dx dy d e => by
  cases dx <;> cases dy <;> first | exact bad_ne e | skip
  rename_i i j
  cases M.pure_inj e
  intro pins s σ H x y v u Q _ I rx ry kx ky q
  exact op_sub pins s σ H x y v u Q I rx ry ⟨i, j, rep_int.mp kx, rep_int.mp ky, q _ H (Gr.refl _ _) (fun _ t => t) (rep_int.mpr rfl)⟩
theorem o_mulI : OpR X (binaryOp .Mult) (rD J.G dMulI) := OpR.of pure_mulI fun dx dy d e => by
  cases dx <;> cases dy <;> first | exact bad_ne e | skip
  rename_i i j
  obtain ⟨c, rfl⟩ := ite_pure_of e
  intro pins s σ H x y v u Q _ I rx ry kx ky q
  exact op_mulA pins s σ H x y v u Q I rx ry ⟨i, j, rep_int.mp kx, rep_int.mp ky, c, q _ H (Gr.refl _ _) (fun _ t => t) (rep_int.mpr rfl)⟩
theorem o_fdiv : OpR X (binaryOp .FloorDiv) (rD J.G dFdiv) := OpR.of pure_fdiv fun dx dy d e => by
  cases dx <;> cases dy <;> first | exact bad_ne e | skip
  rename_i i j
  obtain ⟨c, rfl⟩ := ite_pure_of e
  obtain ⟨c1, c2⟩ := Bool.and_eq_true_iff.mp c
  intro pins s σ H x y v u Q _ I rx ry kx ky q
  exact op_fdivW pins s σ H x y v u Q I rx ry ⟨i, j, rep_int.mp kx, rep_int.mp ky, ⟨of_decide_eq_true c1, of_decide_eq_true c2⟩, q _ H (Gr.refl _ _) (fun _ t => t) (rep_int.mpr rfl)⟩
theorem o_mod : OpR X (binaryOp .Mod) (rD J.G dMod) := OpR.of pure_mod fun dx dy d e => by
  cases dx <;> cases dy <;> first | exact bad_ne e | skip
  rename_i i j
  obtain ⟨c, rfl⟩ := ite_pure_of e
  intro pins s σ H x y v u Q _ I rx ry kx ky q
  exact op_mod pins s σ H x y v u Q I rx ry ⟨i, j, rep_int.mp kx, rep_int.mp ky, c, q _ H (Gr.refl _ _) (fun _ t => t) (rep_int.mpr rfl)⟩
theorem o_negI : UnR X (unaryOp .USub) (rD1 J.G dNegI) := UnR.of pure_negI fun dx d e => by
  cases dx <;> first | exact bad_ne e | skip
  rename_i i
  cases M.pure_inj e
  intro pins s σ H x v Q _ I rx kx q
  exact un_neg pins s σ H x v Q I rx ⟨i, rep_int.mp kx, q _ H (Gr.refl _ _) (fun _ t => t) (rep_int.mpr rfl)⟩
theorem o_cmp {op : CmpOp} {p : Int → Int → Bool} (ho : OpR X (compareOp op) (rI0 fun i j => .bl (p i j))) : OpR X (compareOp op) (rD J.G (dCmp p)) := OpR.of pure_cmp fun dx dy d e => by
  cases dx <;> cases dy <;> first | exact bad_ne e | skip
  rename_i i j
  cases M.pure_inj e
  intro pins s σ H x y v u Q _ I rx ry kx ky q
  exact ho pins s σ H x y v u Q I rx ry ⟨i, j, rep_int.mp kx, rep_int.mp ky, q _ H (Gr.refl _ _) (fun _ t => t) (rep_bl.mpr rfl)⟩
abbrev dLt := dCmp fun i j => decide (i < j)
abbrev dLe := dCmp fun i j => decide (i ≤ j)
abbrev dGt := dCmp fun i j => decide (j < i)
theorem o_lt : OpR X (compareOp .Lt) (rD J.G dLt) := o_cmp op_lt
theorem o_le : OpR X (compareOp .LtE) (rD J.G dLe) := o_cmp op_le
theorem o_gt : OpR X (compareOp .Gt) (rD J.G dGt) := o_cmp op_gt
end
section
variable {X : Cx} {J : Jx} {ω : List Nat} {e : Expr} {fe : EX} {x : Str} {p pos : Pos} {id T : String} {op : D → M D}
def CalB (X : Cx) (J : Jx) (f : Value) (op : D → M D) : Prop := ∀ dx d, op dx = pure d → ∀ pins s σ H x v Q, Inv X pins σ H s → RelV x v → Rep J.G H dx x → (∀ z H', Gr J.G H H' → (∀ s, StOk J.G s H → StOk J.G s H') → Rep J.G H' d z → Q z H') → wpAny (model X.prog X.w) X.A (call f [v]) (EP X pins σ Q) X.xe s
theorem calB_rule {f : Value} (hp : Pure1 op) (hc : CalB X J f op) : CallR X f (fun vs H Q => ∃ x, vs = [x] ∧ rD1 J.G op x H Q) := by
  intro pins s σ H vs us Q I rv ⟨x, e, dx, s0, d, s1, st, kx, e1, q⟩
  subst e
  obtain ⟨u, rfl, ru⟩ := vals1 rv
  rcases hp dx with z | ⟨d', z⟩
  · rw [z] at e1; cases e1
  · rw [z] at e1; cases e1
    exact hc dx _ z pins s σ H x u Q I ru kx fun w H' g t k => q w H' g (t _ st) k
theorem e_callB (hp : Pure1 op) (hc : CalB X J (.builtin id) op) (hg : Gl X x) (hm : X.mg x = none) (hv : bootBuiltins x = some (.builtin id)) (ha : EJ X J ω e fe) (hn : x ≠ "__name__" := by decide) (hdb : (x == ("__debug__" : Str)) = false := by decide)
    (he : starEach (e :: []) X.env = (false, eval e X.env) :: starEach [] X.env := by rfl) : EJ X J ω (.Call (.Name x p) [e] [] pos) (cUn op fe) :=
  (pe_callB (calB_rule hp hc) hg hm hv (pa_cons ha pa_nil he) hn hdb he).imp fun σ H Q h => by
    obtain ⟨ρ, s, r, q⟩ := h
    show tG J ω (κV J.G) fe σ H fun x H1 => ∃ y, [x] = [y] ∧ rD1 J.G op y H1 Q
    exact tG.step r q fun v H1 d s1 g1 r1 k1 q1 => ⟨v, rfl, by
      rcases hp d with z | ⟨d', z⟩
      · rw [z] at q1; exact q1.elim
      · exact ⟨d, s1, d', s1, r1.st, k1, by rw [z]; rfl, fun v H3 g3 t3 k3 => by rw [z] at q1; exact q1 v H3 (g1.trans g3) t3 k3⟩⟩
theorem e_callT (hp : Pure1 op) (hc : CalB X J (.type T) op) (hg : Gl X x) (hm : X.mg x = none) (hv : bootBuiltins x = some (.type T)) (ha : EJ X J ω e fe) (hn : x ≠ "__name__" := by decide) (hdb : (x == ("__debug__" : Str)) = false := by decide)
    (he : starEach (e :: []) X.env = (false, eval e X.env) :: starEach [] X.env := by rfl) : EJ X J ω (.Call (.Name x p) [e] [] pos) (cUn op fe) :=
  (pe_callTy (calB_rule hp hc) hg hm hv (pa_cons ha pa_nil he) hn hdb he).imp fun σ H Q h => by
    obtain ⟨ρ, s, r, q⟩ := h
    show tG J ω (κV J.G) fe σ H fun x H1 => ∃ y, [x] = [y] ∧ rD1 J.G op y H1 Q
    exact tG.step r q fun v H1 d s1 g1 r1 k1 q1 => ⟨v, rfl, by
      rcases hp d with z | ⟨d', z⟩
      · rw [z] at q1; exact q1.elim
      · exact ⟨d, s1, d', s1, r1.st, k1, by rw [z]; rfl, fun v H3 g3 t3 k3 => by rw [z] at q1; exact q1 v H3 (g1.trans g3) t3 k3⟩⟩
theorem CalB.of {f : Value} {r : List V → Hp → VK → Prop} (hr : CallR X f r) (h : ∀ dx d, op dx = pure d → ∀ H x Q, Rep J.G H dx x → (∀ z H', Gr J.G H H' → (∀ s, StOk J.G s H → StOk J.G s H') → Rep J.G H' d z → Q z H') → r [x] H Q) : CalB X J f op :=
  fun dx d e pins s σ H x v Q I rx kx q => hr pins s σ H [x] [v] Q I (.cons rx .nil) (h dx d e H x Q kx q)
def dAbs : D → M D
  | .int i => pure (.int i.natAbs)
  | _ => bad
def dInt : D → M D
  | .int i => pure (.int i)
  | .bl b => pure (.int (if b then 1 else 0))
  | _ => bad
def dLen : D → M D
  | .lst l => pure (.int l.length)
  | .tup l => pure (.int l.length)
  | .str z => if z.length ≤ 1000000 then pure (.int z.length) else bad
  | _ => bad
theorem pure_abs : Pure1 dAbs := fun x => by cases x <;> first | exact .inl rfl | exact .inr ⟨_, rfl⟩
theorem pure_int : Pure1 dInt := fun x => by cases x <;> first | exact .inl rfl | exact .inr ⟨_, rfl⟩
theorem pure_len : Pure1 dLen := fun x => by cases x <;> first | exact .inl rfl | exact .inr ⟨_, rfl⟩ | exact ite_pure
theorem b_abs : CalB X J (.builtin "abs") dAbs := CalB.of call_abs fun dx d e => by
  cases dx <;> first | exact bad_ne e | skip
  rename_i i
  cases M.pure_inj e
  intro H x Q k q
  refine ⟨i, by rw [rep_int.mp k], q _ H (Gr.refl _ _) (fun _ t => t) (rep_int.mpr ?_)⟩
  congr 1
  split <;> omega
theorem b_int : CalB X J (.type "int") dInt := CalB.of call_int1 fun dx d e => by
  cases dx <;> first | exact bad_ne e | skip
  · rename_i b
    cases M.pure_inj e
    intro H x Q k q
    exact .inr ⟨b, by rw [rep_bl.mp k], q _ H (Gr.refl _ _) (fun _ t => t) (rep_int.mpr rfl)⟩
  · rename_i i
    cases M.pure_inj e
    intro H x Q k q
    exact .inl ⟨i, by rw [rep_int.mp k], q _ H (Gr.refl _ _) (fun _ t => t) (rep_int.mpr rfl)⟩
theorem b_len (hK : X.K = J.G.K) : CalB X J (.builtin "len") dLen := CalB.of call_len fun dx d e => by
  cases dx <;> first | exact bad_ne e | skip
  · rename_i z
    obtain ⟨c, rfl⟩ := ite_pure_of e
    intro H x Q k q
    exact ⟨x, z.length, rfl, by rw [rep_str.mp k]; exact ⟨line1M c, rfl⟩, q _ H (Gr.refl _ _) (fun _ t => t) (rep_int.mpr rfl)⟩
  · rename_i l
    cases M.pure_inj e
    intro H x Q k q
    simp only [Rep] at k
    obtain ⟨a, xs, rfl, h, r⟩ := k
    exact ⟨.ref a, l.length, rfl, .inr ⟨xs, by rw [hK]; exact h.seq, r.length.symm⟩, q _ H (Gr.refl _ _) (fun _ t => t) (rep_int.mpr rfl)⟩
  · rename_i l
    cases M.pure_inj e
    intro H x Q k q
    simp only [Rep] at k
    obtain ⟨a, xs, rfl, h, r⟩ := k
    exact ⟨.ref a, l.length, rfl, .inl ⟨xs, by rw [hK]; exact h.seq, r.length.symm⟩, q _ H (Gr.refl _ _) (fun _ t => t) (rep_int.mpr rfl)⟩
end
end PL
set_option maxHeartbeats 2000000
namespace GQ2
open PySem PySem.SeqAt GQ
open AutoSeq1 (wpAny_loadPart')
open MeetsSeq MeetsSeq2 MeetsSeq3 SeqRoads2
section
variable {prog : Program} {w : World} {A : Around} {R : Result → Shared → Prop}
def ListB (prog : Program) (w : World) (A : Around) (E : Value → Shared → Prop) (l b : Addr) (N : Nat) (I : Nat → Shared → Prop) (Z : Shared → Prop) : Prop :=
  ∀ i s, I i s → ∃ (items items2 : Array Value) (n n2 : Nat), s.heap.get? l = some { cls := .type "list", data := .seq items n } ∧ s.heap.get? b = some { cls := .type "list", data := .seq items2 n2 } ∧ items.size = N ∧ items2.size = N ∧
    ∀ (h1 : i < items.size) (h2 : i < items2.size), wpAny (model prog w) A.in1 (eqBool items[i] items2[i]) (fun r s' => (r = true ∧ I (i + 1) s') ∨ (r = false ∧ Z s' ∧ ∃ (it it2 : Array Value) (m m2 : Nat), s'.heap.get? l = some { cls := .type "list", data := .seq it m } ∧ s'.heap.get? b = some { cls := .type "list", data := .seq it2 m2 } ∧ it.size = N ∧ it2.size = N)) E s
theorem eq_loopE (l b : Addr) (N : Nat) (I : Nat → Shared → Prop) (Z : Shared → Prop) (hl : ListB prog w A (fun e s' => R (.error e) s') l b N I Z)
    (fin : ∀ s, I N s → R (.ok (.ret (.bool true))) s) (finF : ∀ s, Z s → R (.ok (.ret (.bool false))) s) (k : Nat) :
    ∀ i : Nat, N - i = k → i ≤ N → ∀ s, I i s →
      wpAny (model prog w) A.in1 (Builtin.«list.__eq__.loop» ⟨[.ref l, .ref b, rawInt i, rawInt 2], []⟩) (FinOf prog w A R) (fun e s' => R (.error e) s') s := by
  induction k with
  | zero =>
    intro i hk hi s h
    obtain ⟨items, items2, n, n2, hl1, hb1, hs1, hs2, _⟩ := hl _ _ h
    have hi' : i = N := by omega
    have hR : R (.ok (.ret (.bool true))) s := fin s (hi' ▸ h)
    obtain ⟨hp, g, d, tk, os⟩ := s
    wp_walk using wpAny_loadPart' hl1, wpAny_loadPart' hb1
    have hi1 : items[((i : Nat) : Int).toNat]? = none := by simp; omega
    have hi2 : items2[((i : Nat) : Int).toNat]? = none := by simp; omega
    rw [hi1, hi2]
    wp_walk using wpAny_loadPart' hl1, wpAny_loadPart' hb1
    show R (.ok (.ret (.bool (items.size == items2.size)))) _
    rw [hs1, hs2]
    simpa using hR
  | succ k ih =>
    intro i hk hi s h
    obtain ⟨items, items2, n, n2, hl1, hb1, hs1, hs2, turn⟩ := hl _ _ h
    have hlt : i < items.size := by omega
    have hlt2 : i < items2.size := by omega
    have ht := turn hlt hlt2
    obtain ⟨hp, g, d, tk, os⟩ := s
    wp_walk using wpAny_loadPart' hl1, wpAny_loadPart' hb1
    have hi1 : items[((i : Nat) : Int).toNat]? = some items[i] := by simp [hlt]
    have hi2 : items2[((i : Nat) : Int).toNat]? = some items2[i] := by simp [hlt2]
    have hc : ((i : Int) + 1) = ((i + 1 : Nat) : Int) := by omega
    rw [hi1, hi2]
    refine wpAny_bind (wpAny_mono ht (fun r s2 h2 => ?_) fun _ _ x => x)
    rcases h2 with ⟨hr, h2⟩ | ⟨hr, h2, it, it2, m, m2, g1, g2, z1, z2⟩
    · subst hr
      have hrec := ih (i + 1) (by omega) (by omega) s2 h2
      obtain ⟨hp2, g2, d2, tk2, os2⟩ := s2
      wp_walk
      rw [hc]
      exact ⟨plainId_quiet plain_eq_loop _, codeAny_builtin entry_eq_loop (by
        rw [Around.under_plainId plain_eq_loop _]
        exact hrec)⟩
    · subst hr
      have hR := finF s2 h2
      obtain ⟨hp2, g2', d2, tk2, os2⟩ := s2
      wp_walk using wpAny_loadPart' g1, wpAny_loadPart' g2
      have hi3 : it[((i : Nat) : Int).toNat]? = some it[i] := by simp [show i < it.size by omega]
      have hi4 : it2[((i : Nat) : Int).toNat]? = some it2[i] := by simp [show i < it2.size by omega]
      rw [hi3, hi4]
      wp_walk
      exact hR
theorem list_eqE (l b : Addr) (N : Nat) (I : Nat → Shared → Prop) (Z : Shared → Prop) (hl : ListB prog w A (fun e s' => R (.error e) s') l b N I Z)
    (fin : ∀ s, I N s → R (.ok (.ret (.bool true))) s) (finF : ∀ s, Z s → R (.ok (.ret (.bool false))) s) {s : Shared} (h : I 0 s) :
    wpAny (model prog w) A.in1 (Builtin.«list.__eq__» ⟨[.ref l, .ref b], []⟩) (FinOf prog w A R) (fun e s' => R (.error e) s') s := by
  obtain ⟨items, items2, n, n2, hl1, hb1, hs1, hs2, _⟩ := hl _ _ h
  have hrec := eq_loopE (A := A) (R := R) l b N I Z hl fin finF _ 0 rfl (Nat.zero_le _) s h
  obtain ⟨hp, g, d, tk, os⟩ := s
  have f3 := AutoSeq1.sub_list_list
  have hne : ¬ (items.size != items2.size) = true := by simp [hs1, hs2]
  wp_walk using wpAny_loadPart' hl1, wpAny_loadPart' hb1
  exact ⟨plainId_quiet plain_eq_loop _, codeAny_builtin entry_eq_loop (by
    rw [Around.under_plainId plain_eq_loop _]
    exact hrec)⟩
theorem list_eqE_len (l b : Addr) {items items2 : Array Value} {n n2 : Nat} (hne : (items.size != items2.size) = true) {s : Shared} (hl1 : s.heap.get? l = some { cls := .type "list", data := .seq items n }) (hb1 : s.heap.get? b = some { cls := .type "list", data := .seq items2 n2 })
    (fin : R (.ok (.ret (.bool false))) s) :
    wpAny (model prog w) A.in1 (Builtin.«list.__eq__» ⟨[.ref l, .ref b], []⟩) (FinOf prog w A R) (fun e s' => R (.error e) s') s := by
  obtain ⟨hp, g, d, tk, os⟩ := s
  have f3 := AutoSeq1.sub_list_list
  wp_walk using wpAny_loadPart' hl1, wpAny_loadPart' hb1
  exact fin
theorem tuple_eqE (l b : Addr) (items items2 : Array Value) (n n2 : Nat) (dd dd2 : Option Addr) (sl sl2 : Array (Option Value)) (I : Nat → Shared → Prop) (Z : Shared → Prop)
    (turn : ∀ i (h1 : i < items.size) (h2 : i < items2.size) s, I i s → wpAny (model prog w) A.in1 (eqBool items[i] items2[i]) (fun r s' => (r = true ∧ I (i + 1) s') ∨ (r = false ∧ Z s')) (fun e s' => R (.error e) s') s)
    (fin : ∀ s, I (min items.size items2.size) s → R (.ok (.ret (.bool (items.size == items2.size)))) s) (finF : ∀ s, Z s → R (.ok (.ret (.bool false))) s) {s : Shared} (hl1 : s.heap.get? l = some { cls := .type "tuple", dict := dd, data := .seq items n, slots := sl }) (hb1 : s.heap.get? b = some { cls := .type "tuple", dict := dd2, data := .seq items2 n2, slots := sl2 }) (h : I 0 s) :
    wpAny (model prog w) A.in1 (Builtin.«tuple.__eq__» ⟨[.ref l, .ref b], []⟩) (FinOf prog w A R) (fun e s' => R (.error e) s') s := by
  have f2 := AutoSeq1.sub_tuple_tuple
  have hZ : (items.toList.zip items2.toList).length = min items.size items2.size := by simp
  have h0 := h
  obtain ⟨hp, g, d, tk, os⟩ := s
  wp_walk using wpAny_loadPart' hl1, wpAny_loadPart' hb1, wpAny_forIn_list _ (fun rest b s' => b.1 = none ∧ ∃ i, rest = (items.toList.zip items2.toList).drop i ∧ i ≤ min items.size items2.size ∧ I i s') _
  case turn =>
    rintro ⟨y, x⟩ rest b s' ⟨hb', i, hz, hi, hI⟩
    have hlt : i < (items.toList.zip items2.toList).length := by
      rcases Nat.lt_or_ge i (items.toList.zip items2.toList).length with h' | h'
      · exact h'
      · rw [List.drop_of_length_le h'] at hz; cases hz
    have h1 : i < items.size := by omega
    have h2 : i < items2.size := by omega
    rw [List.drop_eq_getElem_cons hlt] at hz
    injection hz with hyx hrest
    have hy : y = items[i] := by have := congrArg Prod.fst hyx; simpa using this
    have hx : x = items2[i] := by have := congrArg Prod.snd hyx; simpa using this
    subst hy hx
    refine wpAny_bind (wpAny_mono (turn i h1 h2 s' hI) (fun r s2 q2 => ?_) fun _ _ x => x)
    rcases q2 with ⟨hr, q2⟩ | ⟨hr, q2⟩
    · subst hr
      wp_walk
      exact ⟨rfl, i + 1, hrest, by omega, q2⟩
    · subst hr
      wp_walk
      exact finF _ q2
  case fin =>
    rintro ⟨b1, b2⟩ s' ⟨hb', i, hz, hi, hI⟩
    simp only at hb'
    subst hb'
    have hge : min items.size items2.size ≤ i := by
      rcases Nat.lt_or_ge i (items.toList.zip items2.toList).length with h' | h'
      · rw [List.drop_eq_getElem_cons h'] at hz; cases hz
      · exact hZ ▸ h'
    have hi' : i = min items.size items2.size := by omega
    have hR := fin s' (hi' ▸ hI)
    wp_walk
    exact hR
  case h =>
    exact ⟨rfl, 0, rfl, Nat.zero_le _, h0⟩
theorem eq_loopN (l b : Addr) (N : Nat) (I : Nat → Shared → Prop) (Z : Shared → Prop) (hl : ListB prog w A (fun e s' => R (.error e) s') l b N I Z)
    (fin : ∀ s, I N s → R (.ok (.ret (.bool false))) s) (finF : ∀ s, Z s → R (.ok (.ret (.bool true))) s) (k : Nat) :
    ∀ i : Nat, N - i = k → i ≤ N → ∀ s, I i s →
      wpAny (model prog w) A.in1 (Builtin.«list.__eq__.loop» ⟨[.ref l, .ref b, rawInt i, rawInt 3], []⟩) (FinOf prog w A R) (fun e s' => R (.error e) s') s := by
  induction k with
  | zero =>
    intro i hk hi s h
    obtain ⟨items, items2, n, n2, hl1, hb1, hs1, hs2, _⟩ := hl _ _ h
    have hi' : i = N := by omega
    have hR : R (.ok (.ret (.bool false))) s := fin s (hi' ▸ h)
    obtain ⟨hp, g, d, tk, os⟩ := s
    wp_walk using wpAny_loadPart' hl1, wpAny_loadPart' hb1
    have hi1 : items[((i : Nat) : Int).toNat]? = none := by simp; omega
    have hi2 : items2[((i : Nat) : Int).toNat]? = none := by simp; omega
    rw [hi1, hi2]
    wp_walk using wpAny_loadPart' hl1, wpAny_loadPart' hb1
    show R (.ok (.ret (.bool (items.size != items2.size)))) _
    rw [hs1, hs2]
    simpa using hR
  | succ k ih =>
    intro i hk hi s h
    obtain ⟨items, items2, n, n2, hl1, hb1, hs1, hs2, turn⟩ := hl _ _ h
    have hlt : i < items.size := by omega
    have hlt2 : i < items2.size := by omega
    have ht := turn hlt hlt2
    obtain ⟨hp, g, d, tk, os⟩ := s
    wp_walk using wpAny_loadPart' hl1, wpAny_loadPart' hb1
    have hi1 : items[((i : Nat) : Int).toNat]? = some items[i] := by simp [hlt]
    have hi2 : items2[((i : Nat) : Int).toNat]? = some items2[i] := by simp [hlt2]
    have hc : ((i : Int) + 1) = ((i + 1 : Nat) : Int) := by omega
    rw [hi1, hi2]
    refine wpAny_bind (wpAny_mono ht (fun r s2 h2 => ?_) fun _ _ x => x)
    rcases h2 with ⟨hr, h2⟩ | ⟨hr, h2, it, it2, m, m2, g1, g2, z1, z2⟩
    · subst hr
      have hrec := ih (i + 1) (by omega) (by omega) s2 h2
      obtain ⟨hp2, g2, d2, tk2, os2⟩ := s2
      wp_walk
      rw [hc]
      exact ⟨plainId_quiet plain_eq_loop _, codeAny_builtin entry_eq_loop (by
        rw [Around.under_plainId plain_eq_loop _]
        exact hrec)⟩
    · subst hr
      have hR := finF s2 h2
      obtain ⟨hp2, g2', d2, tk2, os2⟩ := s2
      wp_walk using wpAny_loadPart' g1, wpAny_loadPart' g2
      have hi3 : it[((i : Nat) : Int).toNat]? = some it[i] := by simp [show i < it.size by omega]
      have hi4 : it2[((i : Nat) : Int).toNat]? = some it2[i] := by simp [show i < it2.size by omega]
      rw [hi3, hi4]
      wp_walk
      exact hR
theorem list_eqN (l b : Addr) (N : Nat) (I : Nat → Shared → Prop) (Z : Shared → Prop) (hl : ListB prog w A (fun e s' => R (.error e) s') l b N I Z)
    (fin : ∀ s, I N s → R (.ok (.ret (.bool false))) s) (finF : ∀ s, Z s → R (.ok (.ret (.bool true))) s) {s : Shared} (h : I 0 s) :
    wpAny (model prog w) A.in1 (Builtin.«list.__ne__» ⟨[.ref l, .ref b], []⟩) (FinOf prog w A R) (fun e s' => R (.error e) s') s := by
  obtain ⟨items, items2, n, n2, hl1, hb1, hs1, hs2, _⟩ := hl _ _ h
  have hrec := eq_loopN (A := A) (R := R) l b N I Z hl fin finF _ 0 rfl (Nat.zero_le _) s h
  obtain ⟨hp, g, d, tk, os⟩ := s
  have f3 := AutoSeq1.sub_list_list
  have hne : ¬ (items.size != items2.size) = true := by simp [hs1, hs2]
  wp_walk using wpAny_loadPart' hl1, wpAny_loadPart' hb1
  exact ⟨plainId_quiet plain_eq_loop _, codeAny_builtin entry_eq_loop (by
    rw [Around.under_plainId plain_eq_loop _]
    exact hrec)⟩
theorem list_eqN_len (l b : Addr) {items items2 : Array Value} {n n2 : Nat} (hne : (items.size != items2.size) = true) {s : Shared} (hl1 : s.heap.get? l = some { cls := .type "list", data := .seq items n }) (hb1 : s.heap.get? b = some { cls := .type "list", data := .seq items2 n2 })
    (fin : R (.ok (.ret (.bool true))) s) :
    wpAny (model prog w) A.in1 (Builtin.«list.__ne__» ⟨[.ref l, .ref b], []⟩) (FinOf prog w A R) (fun e s' => R (.error e) s') s := by
  obtain ⟨hp, g, d, tk, os⟩ := s
  have f3 := AutoSeq1.sub_list_list
  wp_walk using wpAny_loadPart' hl1, wpAny_loadPart' hb1
  exact fin
theorem tuple_eqN (l b : Addr) (items items2 : Array Value) (n n2 : Nat) (dd dd2 : Option Addr) (sl sl2 : Array (Option Value)) (I : Nat → Shared → Prop) (Z : Shared → Prop)
    (turn : ∀ i (h1 : i < items.size) (h2 : i < items2.size) s, I i s → wpAny (model prog w) A.in1 (eqBool items[i] items2[i]) (fun r s' => (r = true ∧ I (i + 1) s') ∨ (r = false ∧ Z s')) (fun e s' => R (.error e) s') s)
    (fin : ∀ s, I (min items.size items2.size) s → R (.ok (.ret (.bool (items.size != items2.size)))) s) (finF : ∀ s, Z s → R (.ok (.ret (.bool true))) s) {s : Shared} (hl1 : s.heap.get? l = some { cls := .type "tuple", dict := dd, data := .seq items n, slots := sl }) (hb1 : s.heap.get? b = some { cls := .type "tuple", dict := dd2, data := .seq items2 n2, slots := sl2 }) (h : I 0 s) :
    wpAny (model prog w) A.in1 (Builtin.«tuple.__ne__» ⟨[.ref l, .ref b], []⟩) (FinOf prog w A R) (fun e s' => R (.error e) s') s := by
  have f2 := AutoSeq1.sub_tuple_tuple
  have hZ : (items.toList.zip items2.toList).length = min items.size items2.size := by simp
  have h0 := h
  obtain ⟨hp, g, d, tk, os⟩ := s
  wp_walk using wpAny_loadPart' hl1, wpAny_loadPart' hb1, wpAny_forIn_list _ (fun rest b s' => b.1 = none ∧ ∃ i, rest = (items.toList.zip items2.toList).drop i ∧ i ≤ min items.size items2.size ∧ I i s') _
  case turn =>
    rintro ⟨y, x⟩ rest b s' ⟨hb', i, hz, hi, hI⟩
    have hlt : i < (items.toList.zip items2.toList).length := by
      rcases Nat.lt_or_ge i (items.toList.zip items2.toList).length with h' | h'
      · exact h'
      · rw [List.drop_of_length_le h'] at hz; cases hz
    have h1 : i < items.size := by omega
    have h2 : i < items2.size := by omega
    rw [List.drop_eq_getElem_cons hlt] at hz
    injection hz with hyx hrest
    have hy : y = items[i] := by have := congrArg Prod.fst hyx; simpa using this
    have hx : x = items2[i] := by have := congrArg Prod.snd hyx; simpa using this
    subst hy hx
    refine wpAny_bind (wpAny_mono (turn i h1 h2 s' hI) (fun r s2 q2 => ?_) fun _ _ x => x)
    rcases q2 with ⟨hr, q2⟩ | ⟨hr, q2⟩
    · subst hr
      wp_walk
      exact ⟨rfl, i + 1, hrest, by omega, q2⟩
    · subst hr
      wp_walk
      exact finF _ q2
  case fin =>
    rintro ⟨b1, b2⟩ s' ⟨hb', i, hz, hi, hI⟩
    simp only at hb'
    subst hb'
    have hge : min items.size items2.size ≤ i := by
      rcases Nat.lt_or_ge i (items.toList.zip items2.toList).length with h' | h'
      · rw [List.drop_eq_getElem_cons h'] at hz; cases hz
      · exact hZ ▸ h'
    have hi' : i = min items.size items2.size := by omega
    have hR := fin s' (hi' ▸ hI)
    wp_walk
    exact hR
  case h =>
    exact ⟨rfl, 0, rfl, Nat.zero_le _, h0⟩
theorem rc_listE {E : Value → Shared → Prop} {s : Shared} {l b : Addr} {N : Nat} {Q : Value → Shared → Prop} (hu : A.units < cLine) (I : Nat → Shared → Prop) (Z : Shared → Prop) (hl : ListB prog w A E l b N I Z)
    (fin : ∀ s, I N s → Q (.bool true) s) (finF : ∀ s, Z s → Q (.bool false) s) (h : I 0 s) : wpAny (model prog w) A (richCompare .Eq (.ref l) (.ref b)) Q E s := by
  obtain ⟨items, items2, n, n2, hl1, hb1, _, _, _⟩ := hl _ _ h
  refine wpAny_richCompare_same_room (op := .Eq) ⟨_, hl1, rfl⟩ ⟨_, hb1, rfl⟩ F.slot_list_eq (call_here F.slot_list_eq ⟨_, hl1, rfl⟩ F.entry_list_eq (F.args_list_eq_2 _ _) ?_) hu
  exact list_eqE (R := wants (fun v s' => v ≠ .notImplemented ∧ Q v s') E) l b N I Z hl (fun s' q => ⟨(fun x => nomatch x), fin s' q⟩) (fun s' q => ⟨(fun x => nomatch x), finF s' q⟩) h
theorem rc_listE_len {E : Value → Shared → Prop} {s : Shared} {l b : Addr} {items items2 : Array Value} {n n2 : Nat} {Q : Value → Shared → Prop} (hu : A.units < cLine) (hne : (items.size != items2.size) = true)
    (hl1 : s.heap.get? l = some { cls := .type "list", data := .seq items n }) (hb1 : s.heap.get? b = some { cls := .type "list", data := .seq items2 n2 }) (fin : Q (.bool false) s) : wpAny (model prog w) A (richCompare .Eq (.ref l) (.ref b)) Q E s := by
  refine wpAny_richCompare_same_room (op := .Eq) ⟨_, hl1, rfl⟩ ⟨_, hb1, rfl⟩ F.slot_list_eq (call_here F.slot_list_eq ⟨_, hl1, rfl⟩ F.entry_list_eq (F.args_list_eq_2 _ _) ?_) hu
  exact list_eqE_len (R := wants (fun v s' => v ≠ .notImplemented ∧ Q v s') E) l b hne hl1 hb1 ⟨(fun x => nomatch x), fin⟩
theorem rc_tupE {E : Value → Shared → Prop} {s : Shared} {l b : Addr} {items items2 : Array Value} {Q : Value → Shared → Prop} (hu : A.units < cLine) (I : Nat → Shared → Prop) (Z : Shared → Prop)
    (hl : s.heap.IsTuple l items) (hb : s.heap.IsTuple b items2)
    (turn : ∀ i (h1 : i < items.size) (h2 : i < items2.size) s, I i s → wpAny (model prog w) A.in1 (eqBool items[i] items2[i]) (fun r s' => (r = true ∧ I (i + 1) s') ∨ (r = false ∧ Z s')) E s)
    (fin : ∀ s, I (min items.size items2.size) s → Q (.bool (items.size == items2.size)) s) (finF : ∀ s, Z s → Q (.bool false) s) (h : I 0 s) : wpAny (model prog w) A (richCompare .Eq (.ref l) (.ref b)) Q E s := by
  obtain ⟨⟨cls, dd, data, sl⟩, ho, hc, n, hd⟩ := id hl
  obtain ⟨⟨cls2, dd2, data2, sl2⟩, ho2, hc2, n2, hd2⟩ := id hb
  simp only at hc hd hc2 hd2
  subst hc hd hc2 hd2
  refine wpAny_richCompare_same_room (op := .Eq) ⟨_, ho, rfl⟩ ⟨_, ho2, rfl⟩ F.slot_tuple_eq (call_here F.slot_tuple_eq ⟨_, ho, rfl⟩ F.entry_tuple_eq (F.args_tuple_eq_2 _ _) ?_) hu
  exact tuple_eqE (R := wants (fun v s' => v ≠ .notImplemented ∧ Q v s') E) l b items items2 n n2 dd dd2 sl sl2 I Z turn (fun s' q => ⟨(fun x => nomatch x), fin s' q⟩) (fun s' q => ⟨(fun x => nomatch x), finF s' q⟩) ho ho2 h
theorem rc_listN {E : Value → Shared → Prop} {s : Shared} {l b : Addr} {N : Nat} {Q : Value → Shared → Prop} (hu : A.units < cLine) (I : Nat → Shared → Prop) (Z : Shared → Prop) (hl : ListB prog w A E l b N I Z)
    (fin : ∀ s, I N s → Q (.bool false) s) (finF : ∀ s, Z s → Q (.bool true) s) (h : I 0 s) : wpAny (model prog w) A (richCompare .NotEq (.ref l) (.ref b)) Q E s := by
  obtain ⟨items, items2, n, n2, hl1, hb1, _, _, _⟩ := hl _ _ h
  refine wpAny_richCompare_same_room (op := .NotEq) ⟨_, hl1, rfl⟩ ⟨_, hb1, rfl⟩ F.slot_list_ne (call_here F.slot_list_ne ⟨_, hl1, rfl⟩ F.entry_list_ne (F.args_list_ne_2 _ _) ?_) hu
  exact list_eqN (R := wants (fun v s' => v ≠ .notImplemented ∧ Q v s') E) l b N I Z hl (fun s' q => ⟨(fun x => nomatch x), fin s' q⟩) (fun s' q => ⟨(fun x => nomatch x), finF s' q⟩) h
theorem rc_listN_len {E : Value → Shared → Prop} {s : Shared} {l b : Addr} {items items2 : Array Value} {n n2 : Nat} {Q : Value → Shared → Prop} (hu : A.units < cLine) (hne : (items.size != items2.size) = true)
    (hl1 : s.heap.get? l = some { cls := .type "list", data := .seq items n }) (hb1 : s.heap.get? b = some { cls := .type "list", data := .seq items2 n2 }) (fin : Q (.bool true) s) : wpAny (model prog w) A (richCompare .NotEq (.ref l) (.ref b)) Q E s := by
  refine wpAny_richCompare_same_room (op := .NotEq) ⟨_, hl1, rfl⟩ ⟨_, hb1, rfl⟩ F.slot_list_ne (call_here F.slot_list_ne ⟨_, hl1, rfl⟩ F.entry_list_ne (F.args_list_ne_2 _ _) ?_) hu
  exact list_eqN_len (R := wants (fun v s' => v ≠ .notImplemented ∧ Q v s') E) l b hne hl1 hb1 ⟨(fun x => nomatch x), fin⟩
theorem rc_tupN {E : Value → Shared → Prop} {s : Shared} {l b : Addr} {items items2 : Array Value} {Q : Value → Shared → Prop} (hu : A.units < cLine) (I : Nat → Shared → Prop) (Z : Shared → Prop)
    (hl : s.heap.IsTuple l items) (hb : s.heap.IsTuple b items2)
    (turn : ∀ i (h1 : i < items.size) (h2 : i < items2.size) s, I i s → wpAny (model prog w) A.in1 (eqBool items[i] items2[i]) (fun r s' => (r = true ∧ I (i + 1) s') ∨ (r = false ∧ Z s')) E s)
    (fin : ∀ s, I (min items.size items2.size) s → Q (.bool (items.size != items2.size)) s) (finF : ∀ s, Z s → Q (.bool true) s) (h : I 0 s) : wpAny (model prog w) A (richCompare .NotEq (.ref l) (.ref b)) Q E s := by
  obtain ⟨⟨cls, dd, data, sl⟩, ho, hc, n, hd⟩ := id hl
  obtain ⟨⟨cls2, dd2, data2, sl2⟩, ho2, hc2, n2, hd2⟩ := id hb
  simp only at hc hd hc2 hd2
  subst hc hd hc2 hd2
  refine wpAny_richCompare_same_room (op := .NotEq) ⟨_, ho, rfl⟩ ⟨_, ho2, rfl⟩ F.slot_tuple_ne (call_here F.slot_tuple_ne ⟨_, ho, rfl⟩ F.entry_tuple_ne (F.args_tuple_ne_2 _ _) ?_) hu
  exact tuple_eqN (R := wants (fun v s' => v ≠ .notImplemented ∧ Q v s') E) l b items items2 n n2 dd dd2 sl sl2 I Z turn (fun s' q => ⟨(fun x => nomatch x), fin s' q⟩) (fun s' q => ⟨(fun x => nomatch x), finF s' q⟩) ho ho2 h
end
end GQ2
set_option maxHeartbeats 2000000
namespace NeK
open PySem PySem.W PySem.Calls PyProof.Rows Builtin
section
variable {prog : Program} {w : World} {A : Around} {E : Value → Shared → Prop} {s : Shared} {K : Frag} {x C L f : Addr} {h₀ : Heap} {m : Str → Option Value} {ox : Obj} {od : Option Obj} {b tb : Value}
theorem ifBoundB_K {M : Model} {name : Str} {id B : String} {args : List Value} {Q : Option Value → Shared → Prop} (X : K.In s.heap) (I : InstAt s.heap x ox C od) (hs : findIn K (.ref C) name = some (some (.builtin id))) (S : Slot B name id)
    (h : wpAny M A (call (.builtin id) (.ref x :: args)) (fun v => Q (some v)) E s) : wpAny M A (callSpecialIfBound? (.ref x) name args) Q E s := by
  simp only [callSpecialIfBound?, bindSpecialIfBound?]
  refine wpAny_holding (wpAny_bind (wpAny_bind (wpAny_bind (I.type.here ((looks_findIn X hs).here ?_)))))
  simp only [S.bind]
  refine wpAny_bind (wpAny_askSetting (wpAny_ite ?_))
  have fin : wpAny M A (call (.builtin id) ([.ref x] ++ args) >>= fun v => pure (some v)) Q E s := wpAny_bind (wpAny_mono h (fun v s' h' => wpAny_pure h') fun _ _ h' => h')
  split
  · exact wpAny_bind (wpAny_pure (wpAny_pure fin))
  · exact wpAny_tryCatch (wpAny_bind (wpAny_pure (wpAny_pure fin)))
theorem check_K {M : Model} {id owner n : String} {rest : List Value} {Q : Unit → Shared → Prop} (hk : builtinKind id = some .slot) (hsp : splitId id = some (owner, n))
    (ha : argsOk id ⟨.ref x :: rest, []⟩) (X : K.In s.heap) (I : InstAt s.heap x ox C od) (hob : subIn K (.ref C) (.type owner) = some true) (hq : Q () s) :
    wpAny M A (checkBuiltinCall id ⟨.ref x :: rest, []⟩) Q E s := by
  simp only [checkBuiltinCall, hk, hsp]
  refine wpAny_bind ?_
  unfold isInstance
  refine wpAny_bind (I.type.here ?_)
  refine (looks_subIn X hob).here ?_
  rw [if_neg (by simp)]
  cases hsig : Manifest.signature? id with
  | none => exact wpAny_pure hq
  | some sig =>
    simp only [argsOk, hsig] at ha
    have h2 : Bind.checkArgs id sig ⟨.ref x :: rest, []⟩ = pure () := ha
    show wpAny M A (Bind.checkArgs id sig ⟨.ref x :: rest, []⟩) Q E _
    rw [h2]; exact wpAny_pure hq
theorem objNe_K {b : Value} {Q : Fin → Shared → Prop} (X : K.In s.heap) (I : InstAt s.heap x ox C od) (hu : A.units < cLine) (hs : findIn K (.ref C) "__eq__" = some (some (.ref f))) (hf : isFn K (.ref f) = true)
    (hcall : wpAny (model prog w) A (call (.ref f) [.ref x, b]) (fun v s' => ∃ r, v = .bool r ∧ Q (.done (.ret (.bool (!r)))) s') E s) :
    wpAny (model prog w) A (Builtin.«object.__ne__» ⟨[.ref x, b], []⟩) Q E s := by
  unfold Builtin.«object.__ne__»
  obtain ⟨h, g, d, t, os⟩ := s
  repeat (first
    | with_reducible refine wpAny_cRoomFor hu ?_
    | (refine wpAny_bind (m := callSpecialIfBound? (.ref x) (Str.ofString "__eq__") [b])
        (ifBound_K X I hs hf (wpAny_mono hcall (fun r s' hr => by
          obtain ⟨b, rfl, hq⟩ := hr
          repeat (first | exact hq | exact wpAny_pure hq | exact wpAny_truthy_bool hq | (refine wpAny_bind (m := truthy (.bool _)) (wpAny_truthy_bool ?_)) | wp_step)) fun _ _ e => e)))
    | wp_step)
theorem cmpNe_K {Q : Value → Shared → Prop} (hu : A.units + 1 < cLine) (F : Fr h₀ L s.heap m) (X₀ : K.In h₀) (I : InstAt s.heap x ox C od) (hb : Looks (model prog w) s.heap (typeOf b) tb) (hn : notFirst K C tb = true)
    (hs : findIn K (.ref C) "__eq__" = some (some (.ref f))) (hf : isFn K (.ref f) = true) (hne : findIn K (.ref C) "__ne__" = some (some (.builtin "object.__ne__"))) (hob : subIn K (.ref C) (.type "object") = some true)
    (h : wpAny (model prog w) A.in1 (call (.ref f) [.ref x, b]) (fun v s' => ∃ r, v = .bool r ∧ Q (.bool (!r)) s') E s) : wpAny (model prog w) A (richCompare .NotEq (.ref x) b) Q E s := by
  have X := X₀.keeps F.keep
  have one : wpAny (model prog w) A (tryCompare (.ref x) (cmpInfo .NotEq).2.1 b) (fun r s' => ∃ v, r = some v ∧ Q v s') E s := by
    rw [cmpInfo_NotEq]
    show wpAny (model prog w) A (tryCompare (.ref x) "__ne__" b) _ E s
    unfold tryCompare
    refine wpAny_bind (ifBoundB_K X I hne PySem.F.cmp_object.ne (wpAny_call (codeAny_call_builtin PySem.F.cmp_object.ne.plain PySem.F.cmpEntry_ne
      (check_K PySem.F.cmpKind_ne PySem.F.cmpSplit_ne (PySem.F.cmpArgs_ne _ _) X I hob
        (objNe_K (A := A.in1) X I hu hs hf (wpAny_mono h (fun v s' hv => ?_) fun _ _ e => e))))))
    obtain ⟨r, rfl, hq⟩ := hv
    first | exact ⟨r, rfl, wpAny_pure ⟨_, rfl, hq⟩⟩ | exact ⟨r, rfl, _, rfl, hq⟩ | exact ⟨r, rfl, ⟨_, rfl, hq⟩⟩
  unfold richCompare
  simp only [oneThing_ref]
  refine wpAny_holding (wpAny_bind (wpAny_cRoomFor (Nat.lt_of_succ_lt hu) ?_))
  refine wpAny_bind (I.type.here (wpAny_bind (hb.here ?_)))
  split
  · rename_i q
    have e : subIn K tb (.ref C) = some false := by
      rcases Bool.or_eq_true_iff.mp hn with e | e
      · rw [beq_iff_eq.mp e] at q; simp at q
      · exact beq_iff_eq.mp e
    refine wpAny_bind ((looks_subIn X e).here ?_)
    simp only [Bool.false_eq_true, if_false]
    refine wpAny_bind (wpAny_mono one (fun r s' z => ?_) fun _ _ e => e)
    obtain ⟨v, rfl, hq⟩ := z
    exact wpAny_pure hq
  · refine wpAny_bind (wpAny_pure ?_)
    simp only [Bool.false_eq_true, if_false]
    refine wpAny_bind (wpAny_mono one (fun r s' z => ?_) fun _ _ e => e)
    obtain ⟨v, rfl, hq⟩ := z
    exact wpAny_pure hq
end
end NeK
set_option maxHeartbeats 1000000
namespace PL
open PySem PySem.Spec PyProof.Rows L2
def flatD : D → Bool
  | .non => true
  | .bl _ => true
  | .int _ => true
  | .str _ => true
  | _ => false
def toV : D → V
  | .bl b => .bl b
  | .int i => .int i
  | .str s => .str s
  | _ => .non
def eqF (d e : D) : Bool := eqV (toV d) (toV e)
def ratRight : D → Bool
  | .obj _ _ => false
  | .st => false
  | .adr _ => false
  | _ => true
def ratEqD (p : Rat) : D → Bool
  | .rat q => decide (p = q)
  | _ => false
def eqQs (f : D → D → Option Bool) : List D → List D → Option Bool
  | [], _ => some true
  | _ :: _, [] => some true
  | x :: l, y :: m => match f x y with
    | some true => eqQs f l m
    | some false => some false
    | none => none
def eqQ : Nat → D → D → Option Bool
  | 0, d, e => match d, e with
    | .rat p, .rat q => some (decide (p = q))
    | .rat _, e => if ratRight e = true then some false else none
    | d, e => if (flatD d && flatD e) = true then some (eqF d e) else none
  | n + 1, d, e => match d, e with
    | .rat p, .rat q => some (decide (p = q))
    | .rat _, e => if ratRight e = true then some false else none
    | .tup l, .tup m => match eqQs (eqQ n) l m with
      | some b => some (b && decide (l.length = m.length))
      | none => none
    | .lst l, .lst m => if l.length = m.length then eqQs (eqQ n) l m else some false
    | d, e => if (flatD d && flatD e) = true then some (eqF d e) else none
def spRatEq (G : Gam) : Sp := fun vs H Q _ => ∃ th p e x y s, vs = [x, y] ∧ Rep (G.at th) H (.rat p) x ∧ Rep (G.at th) H e y ∧ ratRight e = true ∧ StOk (G.at th) s H ∧ ∀ H', Ext H H' → Q (.bl (ratEqD p e)) H'
structure EqK (P : Program) (w : World) (K : PySem.W.Frag) (mg : Str → Option Value) (base : Heap) (G : Gam) (n : Nat) : Prop where
  kg : K = G.K
  fn : ∃ (f : Addr) (fd : FuncData) (ps : List Str), FnOk P w K mg base (L2.CX P w) n f fd ps (spRatEq G) ∧ PySem.W.findIn K (.ref G.rc) "__eq__" = some (some (.ref f)) ∧ PySem.W.isFn K (.ref f) = true ∧ L2.Binds K fd ps []
  ne : PySem.W.findIn K (.ref G.rc) "__ne__" = some (some (.builtin "object.__ne__"))
  ob : PySem.W.subIn K (.ref G.rc) (.type "object") = some true
  nf : ∀ n ∈ (["NoneType", "bool", "int", "str", "tuple", "list"] : List String), PySem.W.notFirst K G.rc (.type n) = true
section
variable {X : Cx} {J : Jx} {n m : Nat}
def SEq (X : Cx) (J : Jx) (m : Nat) (f : D → D → Option Bool) : Prop := ∀ d e b, f d e = some b → ∀ (A : Around) (pins : List (Addr × Obj)) (s : Shared) (σ : St) (H : Hp) (x y : V) (u v : Value) (ds : DS), Sub X m A → Inv X pins σ H s → StOk J.G ds H → RelV x u → RelV y v → Rep J.G H d x → Rep J.G H e y →
  wpAny (model X.prog X.w) A (eqBool u v) (fun r s' => r = b ∧ ∃ H', Inv X pins σ H' s' ∧ Ext H H') X.xe s
def SRc (X : Cx) (J : Jx) (m : Nat) (op : CmpOp) (g : Bool → Bool) (f : D → D → Option Bool) : Prop := ∀ d e b, f d e = some b → ∀ (A : Around) (pins : List (Addr × Obj)) (s : Shared) (σ : St) (H : Hp) (x y : V) (u v : Value) (ds : DS), Sub X m A → Inv X pins σ H s → StOk J.G ds H → RelV x u → RelV y v → Rep J.G H d x → Rep J.G H e y →
  wpAny (model X.prog X.w) A (richCompare op u v) (fun r s' => r = .bool (g b) ∧ ∃ H', Inv X pins σ H' s' ∧ Ext H H') X.xe s
theorem Ext.gr {G : Gam} {H H' : Hp} (e : Ext H H') : Gr G H H' := Gr.same e
theorem Ext.st {G : Gam} {H H' : Hp} {s : DS} (e : Ext H H') (t : StOk G s H) : StOk G s H' := fun a h => e _ _ (t a h)
theorem flat_rep {H : Hp} {d : D} {x : V} (hf : flatD d = true) (k : Rep J.G H d x) : x = toV d ∧ flatV x = true := by
  cases d <;> first | (cases hf; done) | skip
  · simp only [Rep] at k; subst k; exact ⟨rfl, rfl⟩
  · simp only [Rep] at k; subst k; exact ⟨rfl, rfl⟩
  · simp only [Rep] at k; subst k; exact ⟨rfl, rfl⟩
  · simp only [Rep] at k; subst k; exact ⟨rfl, rfl⟩
theorem typ_rat {pins : List (Addr × Obj)} {σ : St} {H : Hp} {s : Shared} (hK : X.K = J.G.K) {e : D} {y : V} {v : Value} (I : Inv X pins σ H s) (hr : ratRight e = true) (ry : RelV y v) (k : Rep J.G H e y) :
    ∃ t, PySem.W.Looks (model X.prog X.w) s.heap (typeOf v) t ∧ (t = .ref J.G.rc ∨ ∃ n ∈ (["NoneType", "bool", "int", "str", "tuple", "list"] : List String), t = .type n) := by
  cases e with
  | non => simp only [Rep] at k; subst k; cases ry; exact ⟨_, PySem.W.Looks.of_pure rfl, .inr ⟨"NoneType", by simp, rfl⟩⟩
  | bl b => simp only [Rep] at k; subst k; cases ry; exact ⟨_, PySem.W.Looks.of_pure rfl, .inr ⟨"bool", by simp, rfl⟩⟩
  | int i => simp only [Rep] at k; subst k; obtain ⟨t, rfl⟩ := ry; exact ⟨_, PySem.W.Looks.of_pure rfl, .inr ⟨"int", by simp, rfl⟩⟩
  | str i => simp only [Rep] at k; subst k; obtain ⟨t, rfl⟩ := ry; exact ⟨_, PySem.W.Looks.of_pure rfl, .inr ⟨"str", by simp, rfl⟩⟩
  | rat q =>
    simp only [Rep] at k
    obtain ⟨a, dx, rfl, h⟩ := k
    cases ry
    obtain ⟨mA, O, _⟩ := ins_get I.hok h
    obtain ⟨od, JJ, _⟩ := O.look
    exact ⟨_, JJ.type, .inl rfl⟩
  | tup l =>
    simp only [Rep] at k
    obtain ⟨a, xs, rfl, h, _⟩ := k
    cases ry
    obtain ⟨its, r, ⟨o, ho, hc, _⟩, _⟩ := I.tuple (show SqT X.K H a xs by rw [hK]; exact h.seq)
    refine ⟨.type "tuple", fun A Q E s' kk q => ?_, .inr ⟨"tuple", by simp, rfl⟩⟩
    refine wpAny_typeOf_ref (kk _ _ ho) ?_
    rw [hc]; exact q
  | lst l =>
    simp only [Rep] at k
    obtain ⟨a, xs, rfl, ⟨ob, h⟩, _⟩ := k
    cases ry
    obtain ⟨ho, z, its, n, r, e2⟩ := I.hok a _ h
    refine ⟨.type "list", fun A Q E s' kk q => ?_, .inr ⟨"list", by simp, rfl⟩⟩
    refine wpAny_typeOf_ref (kk _ _ e2) ?_
    exact q
  | _ => cases hr
theorem call_ratEq (E : EqK X.prog X.w X.K X.mg X.base J.G n) {A : Around} {pins : List (Addr × Obj)} {σ : St} {H : Hp} {s : Shared} {p : Rat} {e : D} {x y : V} {u v : Value} {ds : DS} {f : Addr} {fd : FuncData} {ps : List Str}
    (F : FnOk X.prog X.w X.K X.mg X.base (L2.CX X.prog X.w) n f fd ps (spRatEq J.G)) (hb : L2.Binds X.K fd ps []) (sb : Sub X n A) (I : Inv X pins σ H s) (st : StOk J.G ds H) (rx : RelV x u) (ry : RelV y v) (kx : Rep J.G H (.rat p) x) (ky : Rep J.G H e y) (hr : ratRight e = true) :
    wpAny (model X.prog X.w) A (call (.ref f) [u, v]) (fun r s' => r = .bool (ratEqD p e) ∧ ∃ H', Inv X pins σ H' s' ∧ Ext H H') X.xe s := by
  have hsp : spRatEq J.G [x, y] H (fun z H' => z = .bl (ratEqD p e) ∧ Ext H H') E0 := ⟨J.G.th, p, e, x, y, ds, rfl, kx, ky, hr, st, fun H' e => ⟨rfl, e⟩⟩
  have e0 : Env0 X.prog X.w X.K X.mg X.base A X.stack s H := by
    have e := I.env0
    exact ⟨by rw [sb.fr]; exact e.frames, e.mod, e.bs, e.bsz, e.funs, e.frf, e.hok, e.bare⟩
  have hl := F.len _ _ _ _ hsp
  have r2 : Vals [x, y] [u, v] := .cons rx (.cons ry .nil)
  refine wpAny_call (codeAny_mono (F.run A X.stack s H ⟨[u, v], []⟩ [u, v] [x, y] _ E0 sb.room e0 (by
    have := hb s [u, v] I.kIn (by simpa using hl)
    simpa using this) r2 hsp) fun r s' hq => ?_)
  cases r with
  | error e => exact (passL pins σ H s e s' I hq : X.xe e s')
  | ok fl =>
    cases fl with
    | ret w =>
      obtain ⟨z, H', I', rz, ez, ex⟩ := I.after hq
      subst ez
      cases rz
      exact ⟨rfl, H', I', ex⟩
    | next => exact False.elim hq
    | brk => exact False.elim hq
    | cont => exact False.elim hq
theorem eqBool_of {P : Program} {w : World} {A : Around} {E : Value → Shared → Prop} {s : Shared} {a : Addr} {v : Value} {Q : Bool → Shared → Prop} (same : .ref a = v → Q true s) (h : .ref a ≠ v → wpAny (model P w) A (richCompare .Eq (.ref a) v) (fun r s' => ∃ b, r = .bool b ∧ Q b s') E s) :
    wpAny (model P w) A (eqBool (.ref a) v) Q E s := by
  by_cases e : Value.ref a = v
  · subst e
    exact SeqAt.EqAt.same (A := A) (s := s) (.ref a) P w E _ (same rfl)
  · have hne : (Value.ref a == v) = false := by simpa using e
    unfold eqBool
    refine wpAny_holding ?_
    rw [if_neg (by rw [hne]; simp)]
    have h := h e
    cases v <;> (refine wpAny_bind (wpAny_mono h (fun r s' hr => ?_) fun _ _ x => x) <;> (obtain ⟨r, rfl, q⟩ := hr; exact wpAny_truthy_bool q))
theorem rc_rat (E : EqK X.prog X.w X.K X.mg X.base J.G n) {A : Around} {pins : List (Addr × Obj)} {σ : St} {H : Hp} {s : Shared} {p : Rat} {e : D} {x y : V} {u v : Value} {ds : DS}
    (sb : Sub X n A) (I : Inv X pins σ H s) (st : StOk J.G ds H) (rx : RelV x u) (ry : RelV y v) (kx : Rep J.G H (.rat p) x) (ky : Rep J.G H e y) (hr : ratRight e = true) :
    wpAny (model X.prog X.w) A (richCompare .Eq u v) (fun r s' => r = .bool (ratEqD p e) ∧ ∃ H', Inv X pins σ H' s' ∧ Ext H H') X.xe s := by
  obtain ⟨f, fd, ps, F, hs, hf, hb⟩ := E.fn
  have hcall := call_ratEq E F hb sb I st rx ry kx ky hr
  obtain ⟨t, lt, ht⟩ := typ_rat E.kg I hr ry ky
  simp only [Rep] at kx
  obtain ⟨a, dx, rfl, ha⟩ := kx
  cases rx
  obtain ⟨mA, O, _⟩ := ins_get I.hok ha
  obtain ⟨od, JJ, _⟩ := O.look
  obtain ⟨m, hF⟩ := I.fr
  refine PySem.W.cmp_K (op := .Eq) (tb := t) sb.room.units0 hF I.ok.mod.kin JJ lt ?_ hs hf (wpAny_mono hcall (fun r s' q => ?_) fun _ _ x => x)
  · rcases ht with rfl | ⟨n, hn, rfl⟩
    · simp [PySem.W.notFirst]
    · exact E.nf n hn
  · obtain ⟨rfl, q⟩ := q
    exact ⟨rfl, q⟩
theorem rc_ratN (E : EqK X.prog X.w X.K X.mg X.base J.G n) {A : Around} {pins : List (Addr × Obj)} {σ : St} {H : Hp} {s : Shared} {p : Rat} {e : D} {x y : V} {u v : Value} {ds : DS}
    (sb : Sub X (n + 1) A) (I : Inv X pins σ H s) (st : StOk J.G ds H) (rx : RelV x u) (ry : RelV y v) (kx : Rep J.G H (.rat p) x) (ky : Rep J.G H e y) (hr : ratRight e = true) :
    wpAny (model X.prog X.w) A (richCompare .NotEq u v) (fun r s' => r = .bool (!(ratEqD p e)) ∧ ∃ H', Inv X pins σ H' s' ∧ Ext H H') X.xe s := by
  obtain ⟨f, fd, ps, F, hs, hf, hb⟩ := E.fn
  have hcall := call_ratEq E F hb sb.in1 I st rx ry kx ky hr
  obtain ⟨t, lt, ht⟩ := typ_rat E.kg I hr ry ky
  simp only [Rep] at kx
  obtain ⟨a, dx, rfl, ha⟩ := kx
  cases rx
  obtain ⟨mA, O, _⟩ := ins_get I.hok ha
  obtain ⟨od, JJ, _⟩ := O.look
  obtain ⟨m, hF⟩ := I.fr
  refine NeK.cmpNe_K (tb := t) (by have := sb.room.units; omega) hF I.ok.mod.kin JJ lt ?_ hs hf E.ne E.ob (wpAny_mono hcall (fun r s' q => ?_) fun _ _ x => x)
  · rcases ht with rfl | ⟨n, hn, rfl⟩
    · simp [PySem.W.notFirst]
    · exact E.nf n hn
  · obtain ⟨rfl, q⟩ := q
    exact ⟨_, rfl, rfl, q⟩
theorem items_run {f : D → D → Option Bool} (hf : SEq X J n f) {A : Around} (sb : Sub X (n + 1) A) {pins : List (Addr × Obj)} {σ : St} {H : Hp} {l m : List D} {xs ys : List V} {its its2 : List Value} {ds : DS} {b : Bool} (st : StOk J.G ds H)
    (r : Vals xs its) (r2 : Vals ys its2) (k : RepL J.G H l xs) (k2 : RepL J.G H m ys) (i : Nat) (h1 : i < its.toArray.size) (h2 : i < its2.toArray.size) (s' : Shared) (lp : LoopI X pins σ H s') (he : eqQs f (l.drop i) (m.drop i) = some b) :
    wpAny (model X.prog X.w) A.in1 (eqBool its.toArray[i] its2.toArray[i]) (fun r s2 => (r = true ∧ LoopI X pins σ H s2 ∧ eqQs f (l.drop (i + 1)) (m.drop (i + 1)) = some b) ∨ (r = false ∧ LoopI X pins σ H s2 ∧ b = false)) X.xe s' := by
  obtain ⟨H1, I1, e1⟩ := lp
  have g1 : its[i]? = some its.toArray[i] := by
    have h1' : i < its.length := by simpa using h1
    rw [List.getElem?_eq_getElem h1'] <;> simp
  have g2 : its2[i]? = some its2.toArray[i] := by
    have h2' : i < its2.length := by simpa using h2
    rw [List.getElem?_eq_getElem h2'] <;> simp
  have k1 : i < xs.length := by rw [r.length]; simpa using h1
  have k3 : i < ys.length := by rw [r2.length]; simpa using h2
  obtain ⟨u, hu, ru⟩ := r.get (List.getElem?_eq_getElem k1)
  obtain ⟨v, hv, rv⟩ := r2.get (List.getElem?_eq_getElem k3)
  rw [g1] at hu
  rw [g2] at hv
  obtain ⟨d, hd, rd⟩ := k.get (List.getElem?_eq_getElem k1)
  obtain ⟨e, hee, re⟩ := k2.get (List.getElem?_eq_getElem k3)
  have dl : l.drop i = d :: l.drop (i + 1) := by
    have : i < l.length := by rw [← k.length]; exact k1
    rw [List.drop_eq_getElem_cons this]
    rw [List.getElem?_eq_getElem this] at hd
    cases hd; rfl
  have dm : m.drop i = e :: m.drop (i + 1) := by
    have : i < m.length := by rw [← k2.length]; exact k3
    rw [List.drop_eq_getElem_cons this]
    rw [List.getElem?_eq_getElem this] at hee
    cases hee; rfl
  rw [dl, dm] at he
  unfold eqQs at he
  rw [Option.some.inj hu, Option.some.inj hv]
  cases ef : f d e with
  | none => rw [ef] at he; cases he
  | some c =>
    rw [ef] at he
    refine wpAny_mono (hf d e c ef A.in1 pins s' σ H1 _ _ u v ds sb.in1 I1 (Ext.st e1 st) ru rv (rd.mono (Ext.gr (G := J.G) e1).imm) (re.mono (Ext.gr (G := J.G) e1).imm)) (fun r s2 q => ?_) fun _ _ x => x
    obtain ⟨hr, H2, I2, e2⟩ := q
    cases c with
    | true => exact .inl ⟨hr, ⟨H2, I2, e1.trans e2⟩, he⟩
    | false =>
      cases he
      exact .inr ⟨hr, ⟨H2, I2, e1.trans e2⟩, rfl⟩
end
end PL
set_option maxHeartbeats 1000000
namespace PL
open PySem PySem.Spec PyProof.Rows L2
def pyV : V → PyData
  | .bl b => .bool b
  | .int i => .int i
  | .str s => .str s
  | _ => .none
theorem pyV_eqv {x y : V} (hx : flatV x = true) (hy : flatV y = true) : PyData.eqv (pyV x) (pyV y) = eqV x y := by
  cases x <;> cases y <;> first | rfl | (cases hx; done) | (cases hy; done) | (simp [pyV, PyData.eqv, eqV])
theorem pyV_reads {h : Heap} {x : V} {u : Value} (hx : flatV x = true) (r : RelV x u) : ∃ as, Reads h u (pyV x) as := by
  cases x with
  | non => cases r; exact ⟨_, Reads.none⟩
  | bl b => cases r; exact ⟨_, Reads.bool b⟩
  | int i => obtain ⟨t, rfl⟩ := r; exact ⟨_, Reads.int i t⟩
  | str s => obtain ⟨t, rfl⟩ := r; exact ⟨_, Reads.str s t⟩
  | _ => cases hx
def isStrV : V → Bool
  | .str _ => true
  | _ => false
theorem pyV_shaped {x : V} (hx : flatV x = true) (hs : isStrV x = false) : SeqAt.shaped (pyV x) = true := by
  cases x <;> first | (cases hx; done) | (cases hs; done) | rfl | (simp [pyV, SeqAt.shaped, PyData.canLay0, PyData.depth])
theorem scal_str {x y : V} (hx : flatV x = true) (hy : flatV y = true) (h : (isStrV x || isStrV y) = true) : scal x y = true ∧ decide (x = y) = eqV x y := by
  cases x <;> cases y <;> first | (cases hx; done) | (cases hy; done) | (cases h; done) | exact ⟨rfl, by first | exact dec_str | simp [eqV]⟩
theorem inv_under {X : Cx} {pins : List (Addr × Obj)} {σ : St} {H : Hp} {s : Shared} {A : Around} (I : Inv X pins σ H s) (hh : A.handled = none) (hf : A.frames = X.A.frames) : Inv { X with A := A } pins σ H s :=
  ⟨⟨I.ok.mod, I.ok.kind, I.ok.glob, I.ok.blt, I.ok.above, I.ok.inj, I.ok.has, I.ok.cab, fun _ => hh, hf.trans I.ok.frames, I.ok.stk, I.ok.exf, I.ok.bs, I.ok.bsz, I.ok.noex, I.ok.exfs, I.ok.funs, I.ok.frf⟩, I.os, I.bare, I.base, I.loc, I.cell, I.free, I.freeC, I.pin, I.hok, I.len⟩
theorem inv_over {X : Cx} {pins : List (Addr × Obj)} {σ : St} {H : Hp} {s : Shared} {A : Around} (ok : X.Ok) (I : Inv { X with A := A } pins σ H s) : Inv X pins σ H s :=
  ⟨ok, I.os, I.bare, I.base, I.loc, I.cell, I.free, I.freeC, I.pin, I.hok, I.len⟩
theorem eqV_refl {x : V} (hx : flatV x = true) : eqV x x = true := by
  cases x <;> first | (cases hx; done) | rfl | simp [eqV]
section
variable {X : Cx} {J : Jx} {n m : Nat}
theorem k_none {pins : List (Addr × Obj)} {σ : St} {H : Hp} {s : Shared} {a : Addr} {o : Obj} (I : Inv X pins σ H s) (e : X.K.lookup a = some o) : H a = none := (I.bs a o (I.ok.mod.kin a o e)).2
theorem RatInj {p q : Rat} (h1 : p.num = q.num) (h2 : (p.den : Int) = (q.den : Int)) : p = q := Rat.ext h1 (by omega)
theorem eqQs_same {H : Hp} {f : D → D → Option Bool} (hf : ∀ d e b v, f d e = some b → Rep J.G H d v → Rep J.G H e v → b = true) : ∀ {l m : List D} {xs : List V} {b : Bool}, eqQs f l m = some b → RepL J.G H l xs → RepL J.G H m xs → b = true
  | [], m, xs, b, h, _, _ => by unfold eqQs at h; cases h; rfl
  | x :: l, [], xs, b, h, _, _ => by unfold eqQs at h; cases h; rfl
  | x :: l, y :: m, xs, b, h, k1, k2 => by
    simp only [RepL] at k1 k2
    obtain ⟨v, vs, rfl, r1, k1⟩ := k1
    obtain ⟨v2, vs2, e, r2, k2⟩ := k2
    cases e
    unfold eqQs at h
    cases ef : f x y with
    | none => rw [ef] at h; cases h
    | some c =>
      rw [ef] at h
      have := hf _ _ _ _ ef r1 r2
      subst this
      exact eqQs_same hf h k1 k2
theorem flat_same {H : Hp} {d e : D} {v : V} {b : Bool} (h : (if (flatD d && flatD e) = true then some (eqF d e) else none) = some b) (k1 : Rep J.G H d v) (k2 : Rep J.G H e v) : b = true := by
  by_cases c : (flatD d && flatD e) = true
  · rw [if_pos c] at h; cases h
    obtain ⟨c1, c2⟩ := Bool.and_eq_true_iff.mp c
    obtain ⟨e1, f1⟩ := flat_rep c1 k1
    obtain ⟨e2, f2⟩ := flat_rep c2 k2
    unfold eqF
    rw [← e1, ← e2]
    exact eqV_refl f1
  · rw [if_neg c] at h; cases h
theorem rat_same {pins : List (Addr × Obj)} {σ : St} {H : Hp} {s : Shared} {p : Rat} {e : D} {v : V} (hK : X.K = J.G.K) (I : Inv X pins σ H s) (hr : ratRight e = true) (k1 : Rep J.G H (.rat p) v) (k2 : Rep J.G H e v) : e = .rat p := by
  simp only [Rep] at k1
  obtain ⟨a, dx, rfl, h⟩ := k1
  cases e with
  | non => simp only [Rep] at k2; cases k2
  | bl _ => simp only [Rep] at k2; cases k2
  | int _ => simp only [Rep] at k2; cases k2
  | str _ => simp only [Rep] at k2; cases k2
  | rat q =>
    simp only [Rep] at k2
    obtain ⟨a', dx', e, h'⟩ := k2
    cases e
    rw [h] at h'
    simp only [Option.some.injEq, HO.ins.injEq, List.cons.injEq, Prod.mk.injEq, V.int.injEq] at h'
    obtain ⟨_, _, ⟨_, h1⟩, ⟨_, h2⟩, _⟩ := h'
    rw [RatInj h1 h2]
  | tup l =>
    simp only [Rep] at k2
    obtain ⟨a', xs, e, h', _⟩ := k2
    cases e
    rcases h' with h' | ⟨o, its, n, h', _⟩
    · rw [h] at h'; cases h'
    · rw [← hK] at h'
      rw [k_none I h'] at h; cases h
  | lst l =>
    simp only [Rep] at k2
    obtain ⟨a', xs, e, ⟨o, h'⟩, _⟩ := k2
    cases e
    rw [h] at h'; cases h'
  | _ => cases hr
theorem eqQ_same {pins : List (Addr × Obj)} {σ : St} {H : Hp} {s : Shared} (hK : X.K = J.G.K) (I : Inv X pins σ H s) : ∀ (n : Nat) (d e : D) (b : Bool) (v : V), eqQ n d e = some b → Rep J.G H d v → Rep J.G H e v → b = true := by
  intro n
  induction n with
  | zero =>
    intro d e b v h k1 k2
    cases d with
    | rat p =>
      cases e with
      | rat q =>
        have := rat_same hK I rfl k1 k2
        cases this
        simpa [eqQ] using h.symm
      | _ => first | (cases h; done) | (cases rat_same hK I rfl k1 k2)
    | _ => exact flat_same (by simpa [eqQ] using h) k1 k2
  | succ n ih =>
    intro d e b v h k1 k2
    cases d with
    | rat p =>
      cases e with
      | rat q =>
        have := rat_same hK I rfl k1 k2
        cases this
        simpa [eqQ] using h.symm
      | _ => first | (cases h; done) | (cases rat_same hK I rfl k1 k2)
    | tup l =>
      cases e with
      | tup m =>
        simp only [eqQ] at h
        cases eq : eqQs (eqQ n) l m with
        | none => rw [eq] at h; cases h
        | some c =>
          rw [eq] at h
          simp only [Rep] at k1 k2
          obtain ⟨a, xs, rfl, h1, r1⟩ := k1
          obtain ⟨a', ys, e, h2, r2⟩ := k2
          cases e
          have hx : xs = ys := I.tuple_inj (by rw [hK]; exact h1.seq) (by rw [hK]; exact h2.seq)
          subst hx
          have := eqQs_same ih eq r1 r2
          subst this
          have hl : l.length = m.length := by rw [← r1.length, ← r2.length]
          cases h
          simp [hl]
      | _ => exact flat_same (by simpa [eqQ] using h) k1 k2
    | lst l =>
      cases e with
      | lst m =>
        simp only [eqQ] at h
        simp only [Rep] at k1 k2
        obtain ⟨a, xs, rfl, ⟨o1, h1⟩, r1⟩ := k1
        obtain ⟨a', ys, e, ⟨o2, h2⟩, r2⟩ := k2
        cases e
        rw [h1] at h2; cases h2
        have hl : l.length = m.length := by rw [← r1.length, ← r2.length]
        rw [if_pos hl] at h
        exact eqQs_same ih h r1 r2
      | _ => exact flat_same (by simpa [eqQ] using h) k1 k2
    | _ => exact flat_same (by simpa [eqQ] using h) k1 k2
theorem rc_flat {A : Around} {pins : List (Addr × Obj)} {σ : St} {H : Hp} {s : Shared} {d e : D} {x y : V} {u v : Value} {b : Bool} (sb : Sub X m A) (I : Inv X pins σ H s)
    (h : (if (flatD d && flatD e) = true then some (eqF d e) else none) = some b) (rx : RelV x u) (ry : RelV y v) (kx : Rep J.G H d x) (ky : Rep J.G H e y) :
    wpAny (model X.prog X.w) A (richCompare .Eq u v) (fun r s' => r = .bool b ∧ ∃ H', Inv X pins σ H' s' ∧ Ext H H') X.xe s ∧ wpAny (model X.prog X.w) A (richCompare .NotEq u v) (fun r s' => r = .bool (!b) ∧ ∃ H', Inv X pins σ H' s' ∧ Ext H H') X.xe s ∧
      wpAny (model X.prog X.w) A (eqBool u v) (fun r s' => r = b ∧ ∃ H', Inv X pins σ H' s' ∧ Ext H H') X.xe s := by
  by_cases c : (flatD d && flatD e) = true
  · rw [if_pos c] at h; cases h
    obtain ⟨c1, c2⟩ := Bool.and_eq_true_iff.mp c
    obtain ⟨e1, f1⟩ := flat_rep c1 kx
    obtain ⟨e2, f2⟩ := flat_rep c2 ky
    have hu := sb.room.units
    have ef : eqF d e = eqV x y := by unfold eqF; rw [← e1, ← e2]
    have two : ∀ {g : Bool → Bool} {op : CmpOp} {r : R2}, OpR { X with A := A } (compareOp op) r → (∀ Q : VK, Q (.bl (g (eqF d e))) H → r x y H Q) → wpAny (model X.prog X.w) A (compareOp op u v) (fun r s' => r = .bool (g (eqF d e)) ∧ ∃ H', Inv X pins σ H' s' ∧ Ext H H') X.xe s := by
      intro g op r ho hr
      refine thn (ho pins s σ H x y u v (fun z H' => z = .bl (g (eqF d e)) ∧ H' = H) (inv_under I sb.room.hd sb.fr) rx ry (hr _ ⟨rfl, rfl⟩)) fun w s' z => ?_
      obtain ⟨z, H', I', rz, rfl, rfl⟩ := z
      exact ⟨rz, H', inv_over I.ok I', Ext.rfl'⟩
    refine ⟨?_, ?_, ?_⟩
    · by_cases hs : (isStrV x || isStrV y) = true
      · obtain ⟨c1, c2⟩ := scal_str f1 f2 hs
        exact two (g := id) op_eq fun Q q => ⟨c1, by rw [c2, ← ef]; exact q⟩
      · have hs := Bool.or_eq_false_iff.mp (by simpa using hs)
        obtain ⟨as, q1⟩ := pyV_reads (h := s.heap) f1 rx
        obtain ⟨bs, q2⟩ := pyV_reads (h := s.heap) f2 ry
        exact SeqAt.compareEq_shaped q1 q2 (pyV_shaped f1 hs.1) (pyV_shaped f2 hs.2) hu ⟨by rw [pyV_eqv f1 f2, ef], H, I, Ext.rfl'⟩
    · by_cases hs : (isStrV x || isStrV y) = true
      · obtain ⟨c1, c2⟩ := scal_str f1 f2 hs
        exact two (g := not) op_ne fun Q q => ⟨c1, by rw [c2, ← ef]; exact q⟩
      · have hs := Bool.or_eq_false_iff.mp (by simpa using hs)
        obtain ⟨as, q1⟩ := pyV_reads (h := s.heap) f1 rx
        obtain ⟨bs, q2⟩ := pyV_reads (h := s.heap) f2 ry
        exact SeqAt.compareNe_shaped q1 q2 (pyV_shaped f1 hs.1) (pyV_shaped f2 hs.2) hu ⟨by rw [pyV_eqv f1 f2, ef], H, I, Ext.rfl'⟩
    · exact eqAt_V (A := A) (s := s) rx ry f1 f2 X.prog X.w X.xe _ ⟨by rw [ef], H, I, Ext.rfl'⟩
  · rw [if_neg c] at h; cases h
end
end PL
set_option maxHeartbeats 1000000
namespace PL
open PySem PySem.Spec PyProof.Rows L2
section
variable {X : Cx} {J : Jx} {n0 : Nat}
structure EqAll (X : Cx) (J : Jx) (m : Nat) (f : D → D → Option Bool) : Prop where
  eb : SEq X J m f
  eq : SRc X J m .Eq (fun b => b) f
  ne : SRc X J (m + 1) .NotEq (fun b => !b) f
theorem flat_all {f : D → D → Option Bool} {m : Nat} {d e : D} {b : Bool} (hf : f d e = some b) (h : (if (flatD d && flatD e) = true then some (eqF d e) else none) = some b) :
    ∀ (A : Around) (pins : List (Addr × Obj)) (s : Shared) (σ : St) (H : Hp) (x y : V) (u v : Value), Sub X m A → Inv X pins σ H s → RelV x u → RelV y v → Rep J.G H d x → Rep J.G H e y →
    wpAny (model X.prog X.w) A (richCompare .Eq u v) (fun r s' => r = .bool b ∧ ∃ H', Inv X pins σ H' s' ∧ Ext H H') X.xe s ∧ wpAny (model X.prog X.w) A (richCompare .NotEq u v) (fun r s' => r = .bool (!b) ∧ ∃ H', Inv X pins σ H' s' ∧ Ext H H') X.xe s ∧
      wpAny (model X.prog X.w) A (eqBool u v) (fun r s' => r = b ∧ ∃ H', Inv X pins σ H' s' ∧ Ext H H') X.xe s :=
  fun A pins s σ H x y u v sb I rx ry kx ky => rc_flat sb I h rx ry kx ky
theorem eb_of {m : Nat} {A : Around} {pins : List (Addr × Obj)} {s : Shared} {σ : St} {H : Hp} {a : Addr} {v : Value} {b : Bool} (I : Inv X pins σ H s) (same : .ref a = v → b = true)
    (h : wpAny (model X.prog X.w) A (richCompare .Eq (.ref a) v) (fun r s' => r = .bool b ∧ ∃ H', Inv X pins σ H' s' ∧ Ext H H') X.xe s) :
    wpAny (model X.prog X.w) A (eqBool (.ref a) v) (fun r s' => r = b ∧ ∃ H', Inv X pins σ H' s' ∧ Ext H H') X.xe s :=
  eqBool_of (fun e => ⟨(same e).symm, H, I, Ext.rfl'⟩) fun _ => wpAny_mono h (fun r s' q => ⟨b, q.1, rfl, q.2⟩) fun _ _ x => x
theorem rat_all (E : EqK X.prog X.w X.K X.mg X.base J.G n0) {p : Rat} {e : D} (hr : ratRight e = true) {m : Nat} (hm : n0 ≤ m) :
    ∀ (A : Around) (pins : List (Addr × Obj)) (s : Shared) (σ : St) (H : Hp) (x y : V) (u v : Value) (ds : DS), Inv X pins σ H s → StOk J.G ds H → RelV x u → RelV y v → Rep J.G H (.rat p) x → Rep J.G H e y →
    (Sub X m A → wpAny (model X.prog X.w) A (richCompare .Eq u v) (fun r s' => r = .bool (ratEqD p e) ∧ ∃ H', Inv X pins σ H' s' ∧ Ext H H') X.xe s) ∧ (Sub X (m + 1) A → wpAny (model X.prog X.w) A (richCompare .NotEq u v) (fun r s' => r = .bool (!(ratEqD p e)) ∧ ∃ H', Inv X pins σ H' s' ∧ Ext H H') X.xe s) ∧
      (Sub X m A → wpAny (model X.prog X.w) A (eqBool u v) (fun r s' => r = ratEqD p e ∧ ∃ H', Inv X pins σ H' s' ∧ Ext H H') X.xe s) := by
  intro A pins s σ H x y u v ds I st rx ry kx ky
  refine ⟨fun sb => rc_rat E (sb.mono hm) I st rx ry kx ky hr, fun sb => rc_ratN E (sb.mono (by omega)) I st rx ry kx ky hr, fun sb => ?_⟩
  have h := rc_rat E (sb.mono hm) I st rx ry kx ky hr
  have hx := kx
  simp only [Rep] at hx
  obtain ⟨a, dx, rfl, ha⟩ := hx
  cases rx
  refine eb_of (m := m) I (fun ev => ?_) h
  have : y = .ref a := by
    have r2 : RelV (.ref a) v := ev.symm
    exact ry.inj r2
  subst this
  have := rat_same E.kg I hr kx ky
  subst this
  simp [ratEqD]
theorem zeroQ (d e : D) (hd : ∀ p, d ≠ .rat p) : eqQ 0 d e = if (flatD d && flatD e) = true then some (eqF d e) else none := by
  cases d <;> first | rfl | exact absurd rfl (hd _)
theorem eq_all (E : EqK X.prog X.w X.K X.mg X.base J.G n0) : ∀ n, EqAll X J (n0 + n) (eqQ n) := by
  intro n
  have rat : ∀ (m : Nat) (hm : n0 ≤ m) (p : Rat) (e : D) (b : Bool), (eqQ 0 (.rat p) e = some b) → ratRight e = true ∧ b = ratEqD p e := by
    intro m hm p e b h
    cases e <;> first | (cases h; done) | (simp [eqQ, ratRight] at h; subst h; exact ⟨rfl, by simp [ratEqD]⟩)
  induction n with
  | zero =>
    refine ⟨?_, ?_, ?_⟩
    · intro d e b h A pins s σ H x y u v ds sb I st rx ry kx ky
      by_cases hd : ∃ p, d = .rat p
      · obtain ⟨p, rfl⟩ := hd
        obtain ⟨hr, rfl⟩ := rat n0 (Nat.le_refl _) p e b h
        exact (rat_all E hr (m := n0 + 0) (by omega) A pins s σ H x y u v ds I st rx ry kx ky).2.2 sb
      · rw [zeroQ d e (fun p q => hd ⟨p, q⟩)] at h
        exact (flat_all (f := eqQ 0) (by rw [zeroQ d e (fun p q => hd ⟨p, q⟩)]; exact h) h A pins s σ H x y u v sb I rx ry kx ky).2.2
    · intro d e b h A pins s σ H x y u v ds sb I st rx ry kx ky
      by_cases hd : ∃ p, d = .rat p
      · obtain ⟨p, rfl⟩ := hd
        obtain ⟨hr, rfl⟩ := rat n0 (Nat.le_refl _) p e b h
        exact (rat_all E hr (m := n0 + 0) (by omega) A pins s σ H x y u v ds I st rx ry kx ky).1 sb
      · rw [zeroQ d e (fun p q => hd ⟨p, q⟩)] at h
        exact (flat_all (f := eqQ 0) (by rw [zeroQ d e (fun p q => hd ⟨p, q⟩)]; exact h) h A pins s σ H x y u v sb I rx ry kx ky).1
    · intro d e b h A pins s σ H x y u v ds sb I st rx ry kx ky
      by_cases hd : ∃ p, d = .rat p
      · obtain ⟨p, rfl⟩ := hd
        obtain ⟨hr, rfl⟩ := rat n0 (Nat.le_refl _) p e b h
        exact (rat_all E hr (m := n0 + 0) (by omega) A pins s σ H x y u v ds I st rx ry kx ky).2.1 sb
      · rw [zeroQ d e (fun p q => hd ⟨p, q⟩)] at h
        exact (flat_all (f := eqQ 0) (by rw [zeroQ d e (fun p q => hd ⟨p, q⟩)]; exact h) h A pins s σ H x y u v sb I rx ry kx ky).2.1
  | succ n ih =>
    -- the kinds one after another: a Ratio, two tuples, two lists, scalars
    have key : ∀ (d e : D) (b : Bool), eqQ (n + 1) d e = some b → ∀ (A : Around) (pins : List (Addr × Obj)) (s : Shared) (σ : St) (H : Hp) (x y : V) (u v : Value) (ds : DS), Inv X pins σ H s → StOk J.G ds H → RelV x u → RelV y v → Rep J.G H d x → Rep J.G H e y →
        (Sub X (n0 + (n + 1)) A → wpAny (model X.prog X.w) A (richCompare .Eq u v) (fun r s' => r = .bool b ∧ ∃ H', Inv X pins σ H' s' ∧ Ext H H') X.xe s) ∧ (Sub X (n0 + (n + 1) + 1) A → wpAny (model X.prog X.w) A (richCompare .NotEq u v) (fun r s' => r = .bool (!b) ∧ ∃ H', Inv X pins σ H' s' ∧ Ext H H') X.xe s) ∧
          (Sub X (n0 + (n + 1)) A → wpAny (model X.prog X.w) A (eqBool u v) (fun r s' => r = b ∧ ∃ H', Inv X pins σ H' s' ∧ Ext H H') X.xe s) := by
      intro d e b h A pins s σ H x y u v ds I st rx ry kx ky
      have flat : (if (flatD d && flatD e) = true then some (eqF d e) else none) = some b → _ := fun hf =>
        (⟨fun sb => (rc_flat sb I hf rx ry kx ky).1, fun sb => (rc_flat sb I hf rx ry kx ky).2.1, fun sb => (rc_flat sb I hf rx ry kx ky).2.2⟩ :
          (Sub X (n0 + (n + 1)) A → wpAny (model X.prog X.w) A (richCompare .Eq u v) (fun r s' => r = .bool b ∧ ∃ H', Inv X pins σ H' s' ∧ Ext H H') X.xe s) ∧ (Sub X (n0 + (n + 1) + 1) A → wpAny (model X.prog X.w) A (richCompare .NotEq u v) (fun r s' => r = .bool (!b) ∧ ∃ H', Inv X pins σ H' s' ∧ Ext H H') X.xe s) ∧
          (Sub X (n0 + (n + 1)) A → wpAny (model X.prog X.w) A (eqBool u v) (fun r s' => r = b ∧ ∃ H', Inv X pins σ H' s' ∧ Ext H H') X.xe s))
      have same : ∀ a, x = .ref a → (.ref a = v → b = true) := fun a ex ev => by
        subst ex
        have hy : y = .ref a := ry.inj (show RelV (.ref a) v from ev.symm)
        subst hy
        exact eqQ_same E.kg I (n + 1) d e b _ h kx ky
      cases d with
      | rat p =>
        have h0 : eqQ 0 (.rat p) e = some b := by cases e <;> exact h
        obtain ⟨hr, rfl⟩ := rat n0 (Nat.le_refl _) p e b h0
        exact rat_all E hr (m := n0 + (n + 1)) (by omega) A pins s σ H x y u v ds I st rx ry kx ky
      | tup l =>
        cases e with
        | tup m =>
          simp only [eqQ] at h
          cases eq : eqQs (eqQ n) l m with
          | none => rw [eq] at h; cases h
          | some c =>
            rw [eq] at h
            simp only [Rep] at kx ky
            obtain ⟨a, xs, rfl, h1, r1⟩ := kx
            obtain ⟨a2, ys, rfl, h2, r2⟩ := ky
            cases rx
            cases ry
            obtain ⟨its, rr, p1, z1⟩ := I.tuple (show SqT X.K H a xs by rw [E.kg]; exact h1.seq)
            obtain ⟨its2, rr2, p2, z2⟩ := I.tuple (show SqT X.K H a2 ys by rw [E.kg]; exact h2.seq)
            have l1 : its.toArray.size = l.length := by rw [List.size_toArray, ← rr.length, r1.length]
            have l2 : its2.toArray.size = m.length := by rw [List.size_toArray, ← rr2.length, r2.length]
            have run : Sub X (n0 + (n + 1)) A → wpAny (model X.prog X.w) A (richCompare .Eq (.ref a) (.ref a2)) (fun r s' => r = .bool b ∧ ∃ H', Inv X pins σ H' s' ∧ Ext H H') X.xe s := fun sb => by
              refine GQ2.rc_tupE sb.room.units0 (fun i s' => LoopI X pins σ H s' ∧ eqQs (eqQ n) (l.drop i) (m.drop i) = some c) (fun s' => LoopI X pins σ H s' ∧ c = false) p1 p2 (fun i h1 h2 s' q => ?_) (fun s' q => ?_) (fun s' q => ?_) ⟨⟨H, I, Ext.rfl'⟩, eq⟩
              · refine wpAny_mono (items_run ih.eb sb st rr rr2 r1 r2 i h1 h2 s' q.1 q.2) (fun r s2 z => ?_) fun _ _ x => x
                rcases z with ⟨z1, z2, z3⟩ | ⟨z1, z2, z3⟩
                · exact .inl ⟨z1, z2, z3⟩
                · exact .inr ⟨z1, z2, z3⟩
              · cases h
                refine ⟨?_, q.1⟩
                rw [l1, l2] at *
                have hc : c = true := by
                  have hq := q.2
                  by_cases hle : l.length ≤ m.length
                  · rw [Nat.min_eq_left hle, List.drop_length] at hq
                    unfold eqQs at hq; cases hq; rfl
                  · have hle : m.length ≤ l.length := by omega
                    rw [Nat.min_eq_right hle, List.drop_length] at hq
                    cases hd : List.drop m.length l with
                    | nil => rw [hd] at hq; unfold eqQs at hq; cases hq; rfl
                    | cons _ _ => rw [hd] at hq; unfold eqQs at hq; cases hq; rfl
                subst hc
                rw [Bool.true_and]
                by_cases hll : l.length = m.length <;> simp [hll]
              · cases h
                obtain ⟨q1, rfl⟩ := q
                exact ⟨by simp, q1⟩
            have runN : Sub X (n0 + (n + 1)) A → wpAny (model X.prog X.w) A (richCompare .NotEq (.ref a) (.ref a2)) (fun r s' => r = .bool (!b) ∧ ∃ H', Inv X pins σ H' s' ∧ Ext H H') X.xe s := fun sb => by
              refine GQ2.rc_tupN sb.room.units0 (fun i s' => LoopI X pins σ H s' ∧ eqQs (eqQ n) (l.drop i) (m.drop i) = some c) (fun s' => LoopI X pins σ H s' ∧ c = false) p1 p2 (fun i h1 h2 s' q => ?_) (fun s' q => ?_) (fun s' q => ?_) ⟨⟨H, I, Ext.rfl'⟩, eq⟩
              · refine wpAny_mono (items_run ih.eb sb st rr rr2 r1 r2 i h1 h2 s' q.1 q.2) (fun r s2 z => ?_) fun _ _ x => x
                rcases z with ⟨z1, z2, z3⟩ | ⟨z1, z2, z3⟩
                · exact .inl ⟨z1, z2, z3⟩
                · exact .inr ⟨z1, z2, z3⟩
              · cases h
                refine ⟨?_, q.1⟩
                rw [l1, l2] at *
                have hc : c = true := by
                  have hq := q.2
                  by_cases hle : l.length ≤ m.length
                  · rw [Nat.min_eq_left hle, List.drop_length] at hq
                    unfold eqQs at hq; cases hq; rfl
                  · have hle : m.length ≤ l.length := by omega
                    rw [Nat.min_eq_right hle, List.drop_length] at hq
                    cases hd : List.drop m.length l with
                    | nil => rw [hd] at hq; unfold eqQs at hq; cases hq; rfl
                    | cons _ _ => rw [hd] at hq; unfold eqQs at hq; cases hq; rfl
                subst hc
                rw [Bool.true_and]
                by_cases hll : l.length = m.length <;> simp [hll]
              · cases h
                obtain ⟨q1, rfl⟩ := q
                exact ⟨by simp, q1⟩
            exact ⟨run, fun sb => runN (sb.mono (by omega)), fun sb => eb_of (m := n) I (same a rfl) (run sb)⟩
        | _ => exact flat (by simpa [eqQ] using h)
      | lst l =>
        cases e with
        | lst m =>
          simp only [eqQ] at h
          have kx0 := kx
          have ky0 := ky
          simp only [Rep] at kx ky
          obtain ⟨a, xs, rfl, ⟨o1, h1⟩, r1⟩ := kx
          obtain ⟨a2, ys, rfl, ⟨o2, h2⟩, r2⟩ := ky
          cases rx
          cases ry
          have rd : ∀ H', Ext H H' → ∀ s', Inv X pins σ H' s' → ∃ (its its2 : List Value) (k k2 : Nat), Vals xs its ∧ Vals ys its2 ∧ s'.heap.get? a = some { cls := .type "list", data := .seq its.toArray k } ∧ s'.heap.get? a2 = some { cls := .type "list", data := .seq its2.toArray k2 } := by
            intro H' ex s' I'
            obtain ⟨_, _, its, k, rr, e⟩ := I'.hok a _ (ex _ _ h1)
            obtain ⟨_, _, its2, k2, rr2, e2⟩ := I'.hok a2 _ (ex _ _ h2)
            exact ⟨its, its2, k, k2, rr, rr2, e, e2⟩
          obtain ⟨its, its2, k, k2, rr, rr2, g1, g2⟩ := rd H Ext.rfl' s I
          have l1 : its.toArray.size = l.length := by rw [List.size_toArray, ← rr.length, r1.length]
          have l2 : its2.toArray.size = m.length := by rw [List.size_toArray, ← rr2.length, r2.length]
          by_cases hll : l.length = m.length
          · rw [if_pos hll] at h
            have LB : ∀ (sb : Sub X (n0 + n + 1) A), GQ2.ListB X.prog X.w A X.xe a a2 l.length (fun i s' => LoopI X pins σ H s' ∧ eqQs (eqQ n) (l.drop i) (m.drop i) = some b) (fun s' => LoopI X pins σ H s' ∧ b = false) := fun sb i s' q => by
              obtain ⟨⟨H1, I1, e1⟩, q2⟩ := q
              obtain ⟨it, it2, k, k2, w1, w2, g1, g2⟩ := rd H1 e1 s' I1
              refine ⟨it.toArray, it2.toArray, k, k2, g1, g2, by rw [List.size_toArray, ← w1.length, r1.length], by rw [List.size_toArray, ← w2.length, r2.length, hll], fun h1 h2 => ?_⟩
              refine wpAny_mono (items_run ih.eb sb st w1 w2 r1 r2 i h1 h2 s' ⟨H1, I1, e1⟩ q2) (fun r s2 z => ?_) fun _ _ x => x
              rcases z with ⟨z1, z2, z3⟩ | ⟨z1, z2, z3⟩
              · exact .inl ⟨z1, z2, z3⟩
              · obtain ⟨H2, I2, e2⟩ := z2
                obtain ⟨it, it2, k, k2, w1, w2, g1, g2⟩ := rd H2 e2 s2 I2
                exact .inr ⟨z1, ⟨⟨H2, I2, e2⟩, z3⟩, it.toArray, it2.toArray, k, k2, g1, g2, by rw [List.size_toArray, ← w1.length, r1.length], by rw [List.size_toArray, ← w2.length, r2.length, hll]⟩
            have endT : ∀ s', (LoopI X pins σ H s' ∧ eqQs (eqQ n) (l.drop l.length) (m.drop l.length) = some b) → b = true := fun s' q => by
              have hq := q.2
              rw [List.drop_length] at hq
              unfold eqQs at hq; cases hq; rfl
            have run : Sub X (n0 + (n + 1)) A → wpAny (model X.prog X.w) A (richCompare .Eq (.ref a) (.ref a2)) (fun r s' => r = .bool b ∧ ∃ H', Inv X pins σ H' s' ∧ Ext H H') X.xe s := fun sb =>
              GQ2.rc_listE sb.room.units0 _ _ (LB sb) (fun s' q => ⟨by rw [endT s' q], q.1⟩) (fun s' q => ⟨by rw [q.2], q.1⟩) ⟨⟨H, I, Ext.rfl'⟩, h⟩
            have runN : Sub X (n0 + (n + 1)) A → wpAny (model X.prog X.w) A (richCompare .NotEq (.ref a) (.ref a2)) (fun r s' => r = .bool (!b) ∧ ∃ H', Inv X pins σ H' s' ∧ Ext H H') X.xe s := fun sb =>
              GQ2.rc_listN sb.room.units0 _ _ (LB sb) (fun s' q => ⟨by rw [endT s' q]; rfl, q.1⟩) (fun s' q => ⟨by rw [q.2]; rfl, q.1⟩) ⟨⟨H, I, Ext.rfl'⟩, h⟩
            exact ⟨run, fun sb => runN (sb.mono (by omega)), fun sb => eb_of (m := n) I (same a rfl) (run sb)⟩
          · rw [if_neg hll] at h; cases h
            have hne : (its.toArray.size != its2.toArray.size) = true := by rw [l1, l2]; simpa using hll
            have run : Sub X (n0 + (n + 1)) A → wpAny (model X.prog X.w) A (richCompare .Eq (.ref a) (.ref a2)) (fun r s' => r = .bool false ∧ ∃ H', Inv X pins σ H' s' ∧ Ext H H') X.xe s := fun sb =>
              GQ2.rc_listE_len sb.room.units0 hne g1 g2 ⟨rfl, H, I, Ext.rfl'⟩
            exact ⟨run, fun sb => GQ2.rc_listN_len sb.room.units0 hne g1 g2 ⟨rfl, H, I, Ext.rfl'⟩, fun sb => eb_of (m := n) I (same a rfl) (run sb)⟩
        | _ => exact flat (by simpa [eqQ] using h)
      | _ => exact flat (by simpa [eqQ] using h)
    exact ⟨fun d e b h A pins s σ H x y u v ds sb I st rx ry kx ky => (key d e b h A pins s σ H x y u v ds I st rx ry kx ky).2.2 sb,
      fun d e b h A pins s σ H x y u v ds sb I st rx ry kx ky => (key d e b h A pins s σ H x y u v ds I st rx ry kx ky).1 sb,
      fun d e b h A pins s σ H x y u v ds sb I st rx ry kx ky => (key d e b h A pins s σ H x y u v ds I st rx ry kx ky).2.1 sb⟩
def dEq (d e : D) : M D := match eqQ 6 d e with
  | some b => pure (.bl b)
  | none => bad
def dNe (d e : D) : M D := match eqQ 6 d e with
  | some b => pure (.bl (!b))
  | none => bad
theorem pure_eq : Pure2 dEq := fun x y => by
  unfold dEq
  cases eqQ 6 x y with
  | none => exact .inl rfl
  | some b => exact .inr ⟨_, rfl⟩
theorem pure_ne : Pure2 dNe := fun x y => by
  unfold dNe
  cases eqQ 6 x y with
  | none => exact .inl rfl
  | some b => exact .inr ⟨_, rfl⟩
theorem o_eq (E : EqK X.prog X.w X.K X.mg X.base J.G n0) (hr : Room (n0 + 6) X.A) : OpR X (compareOp .Eq) (rD J.G dEq) := by
  intro pins s σ H x y v u Q I rx ry ⟨dx, dy, s0, d, s1, st, kx, ky, e, q⟩
  unfold dEq at e
  cases h : eqQ 6 dx dy with
  | none => rw [h] at e; cases e
  | some b =>
    rw [h] at e; cases e
    show wpAny (model X.prog X.w) X.A (richCompare .Eq v u) _ _ _
    refine wpAny_mono ((eq_all E 6).eq dx dy b h X.A pins s σ H x y v u _ ⟨hr, rfl⟩ I st rx ry kx ky) (fun r s' z => ?_) fun _ _ x => x
    obtain ⟨rfl, H', I', ex⟩ := z
    exact ⟨.bl b, H', I', rfl, q _ H' (Ext.gr ex) (Ext.st ex st) (rep_bl.mpr rfl)⟩
theorem o_ne (E : EqK X.prog X.w X.K X.mg X.base J.G n0) (hr : Room (n0 + 7) X.A) : OpR X (compareOp .NotEq) (rD J.G dNe) := by
  intro pins s σ H x y v u Q I rx ry ⟨dx, dy, s0, d, s1, st, kx, ky, e, q⟩
  unfold dNe at e
  cases h : eqQ 6 dx dy with
  | none => rw [h] at e; cases e
  | some b =>
    rw [h] at e; cases e
    show wpAny (model X.prog X.w) X.A (richCompare .NotEq v u) _ _ _
    refine wpAny_mono ((eq_all E 6).ne dx dy b h X.A pins s σ H x y v u _ ⟨hr, rfl⟩ I st rx ry kx ky) (fun r s' z => ?_) fun _ _ x => x
    obtain ⟨rfl, H', I', ex⟩ := z
    exact ⟨.bl (!b), H', I', rfl, q _ H' (Ext.gr ex) (Ext.st ex st) (rep_bl.mpr rfl)⟩
def dEqF (d e : D) : M D := if (flatD d && flatD e) = true then pure (.bl (eqF d e)) else bad
def dNeF (d e : D) : M D := if (flatD d && flatD e) = true then pure (.bl (!eqF d e)) else bad
theorem pure_eqF : Pure2 dEqF := fun _ _ => ite_pure
theorem pure_neF : Pure2 dNeF := fun _ _ => ite_pure
theorem o_eqF (hr : Room n0 X.A) : OpR X (compareOp .Eq) (rD J.G dEqF) := by
  intro pins s σ H x y v u Q I rx ry ⟨dx, dy, s0, d, s1, st, kx, ky, e, q⟩
  unfold dEqF at e
  by_cases c : (flatD dx && flatD dy) = true
  · rw [if_pos c] at e; cases e
    show wpAny (model X.prog X.w) X.A (richCompare .Eq v u) _ _ _
    refine wpAny_mono (rc_flat (m := n0) ⟨hr, rfl⟩ I (if_pos c) rx ry kx ky).1 (fun r s' z => ?_) fun _ _ x => x
    obtain ⟨rfl, H', I', ex⟩ := z
    exact ⟨.bl _, H', I', rfl, q _ H' (Ext.gr ex) (Ext.st ex st) (rep_bl.mpr rfl)⟩
  · rw [if_neg c] at e; cases e
theorem o_neF (hr : Room n0 X.A) : OpR X (compareOp .NotEq) (rD J.G dNeF) := by
  intro pins s σ H x y v u Q I rx ry ⟨dx, dy, s0, d, s1, st, kx, ky, e, q⟩
  unfold dNeF at e
  by_cases c : (flatD dx && flatD dy) = true
  · rw [if_pos c] at e; cases e
    show wpAny (model X.prog X.w) X.A (richCompare .NotEq v u) _ _ _
    refine wpAny_mono (rc_flat (m := n0) ⟨hr, rfl⟩ I (if_pos c) rx ry kx ky).2.1 (fun r s' z => ?_) fun _ _ x => x
    obtain ⟨rfl, H', I', ex⟩ := z
    exact ⟨.bl _, H', I', rfl, q _ H' (Ext.gr ex) (Ext.st ex st) (rep_bl.mpr rfl)⟩
  · rw [if_neg c] at e; cases e
end
end PL
set_option maxHeartbeats 1000000
namespace PL
open PySem PySem.Spec PyProof.Rows L2
def ar (n : Nat) (m : List D → M D) : List D → M D := fun args => if args.length = n then m args else bad
def dFldN : D → M D
  | .rat q => pure (.int q.num)
  | _ => bad
def dFldD : D → M D
  | .rat q => pure (.int (q.den : Int))
  | _ => bad
section
variable {X : Cx} {J : Jx} {ω ω' ωb ωc : List Nat} {e : Expr} {fe : EX} {f : Str} {pos : Pos}
theorem e_fldR {op : D → M D} (hop : ∀ x, op x = (match x with | .rat q => op (.rat q) | _ => bad)) (ok : Ok X J) (hc : Cls X.K J.G.rc) (hn : NoAttr X.K J.G.rc f)
    (hl : ∀ q : Rat, ∃ d v, op (.rat q) = pure d ∧ (∀ H, Rep J.G H d v) ∧ ([(("n" : Str), V.int q.num), (("d" : Str), V.int (q.den : Int))] : List (Str × V)).lookup f = some v) (he : EJ X J ω e fe) (hb : attributeBase e f X.env (eval e X.env) = eval e X.env := by rfl) :
    EJ X J ω (.Attribute e f pos) (cUn op fe) := (pe_fld he hb).imp fun σ H Q h => by
  obtain ⟨ρ, s, r, q⟩ := h
  refine tG.step r q fun x H1 d s1 g1 r1 k1 q1 => ?_
  rw [hop] at q1
  cases d with
  | rat p =>
    obtain ⟨d, v, e1, rv, l⟩ := hl p
    have q2 : Post J σ H (κV J.G H) Q (op (.rat p) s1) := q1
    rw [e1] at q2
    simp only [κV, Rep] at k1
    obtain ⟨a, dx, rfl, ha⟩ := k1
    exact ⟨a, J.G.rc, dx, _, v, rfl, ha, hc, hn, l, q2 v H1 g1 r1.st (rv H1)⟩
  | _ => exact q1.elim
theorem lk_n (x y : V) : ([(("n" : Str), x), (("d" : Str), y)] : List (Str × V)).lookup ("n" : Str) = some x := by
  rw [List.lookup_cons]
  have : (("n" : Str) == ("n" : Str)) = true := by decide +kernel
  rw [this]
theorem lk_d (x y : V) : ([(("n" : Str), x), (("d" : Str), y)] : List (Str × V)).lookup ("d" : Str) = some y := by
  rw [List.lookup_cons]
  have : (("d" : Str) == ("n" : Str)) = false := by decide +kernel
  rw [this]
  have : (("d" : Str) == ("d" : Str)) = true := by decide +kernel
  show List.lookup _ _ = _
  rw [List.lookup_cons, this]
theorem e_fldN (ok : Ok X J) (hc : Cls X.K J.G.rc) (hn : NoAttr X.K J.G.rc "n") (he : EJ X J ω e fe) (hb : attributeBase e "n" X.env (eval e X.env) = eval e X.env := by rfl) : EJ X J ω (.Attribute e "n" pos) (cUn dFldN fe) :=
  e_fldR (fun x => by cases x <;> rfl) ok hc hn (fun q => ⟨_, .int q.num, rfl, fun _ => rep_int.mpr rfl, lk_n _ _⟩) he hb
theorem e_fldD (ok : Ok X J) (hc : Cls X.K J.G.rc) (hn : NoAttr X.K J.G.rc "d") (he : EJ X J ω e fe) (hb : attributeBase e "d" X.env (eval e X.env) = eval e X.env := by rfl) : EJ X J ω (.Attribute e "d" pos) (cUn dFldD fe) :=
  e_fldR (fun x => by cases x <;> rfl) ok hc hn (fun q => ⟨_, .int (q.den : Int), rfl, fun _ => rep_int.mpr rfl, lk_d _ _⟩) he hb
inductive Tg where
  | int | bool | str | list | tuple | rat | obj (c : Nat)
def Tg.has : Tg → D → Bool
  | .int, .int _ => true
  | .int, .bl _ => true
  | .bool, .bl _ => true
  | .str, .str _ => true
  | .list, .lst _ => true
  | .tuple, .tup _ => true
  | .rat, .rat _ => true
  | .obj c, .obj e _ => c == e
  | _, _ => false
def Tg.val (G : Gam) : Tg → Value
  | .int => .type "int"
  | .bool => .type "bool"
  | .str => .type "str"
  | .list => .type "list"
  | .tuple => .type "tuple"
  | .rat => .ref G.rc
  | .obj c => .ref (G.cls c).1
def typD (G : Gam) : D → Value
  | .non => .type "NoneType"
  | .bl _ => .type "bool"
  | .int _ => .type "int"
  | .str _ => .type "str"
  | .rat _ => .ref G.rc
  | .tup _ => .type "tuple"
  | .lst _ => .type "list"
  | .obj c _ => .ref (G.cls c).1
  | .st => .type "list"
  | .adr _ => .type "list"
structure InsF (K : PySem.W.Frag) (C : Addr) : Prop where
  cl : Cls K C
  ha : PySem.W.findIn K (.ref C) "__class__" = some (some (.builtin "object.__class__"))
  hn : PySem.W.specialIn K (.builtin "object.__class__") "__get__" = some (some (.builtin "getset_descriptor.__get__"))
  htk : PySem.W.takesIn K (.builtin "object.__class__") = some true
  hm : PySem.W.mroIn K C (.type "object") = some true
def okIs : D → Bool
  | .st => false
  | .adr _ => false
  | _ => true
structure IsK (K : PySem.W.Frag) (G : Gam) : Prop where
  rat : InsF K G.rc
  obj : ∀ c, G.has c = true → InsF K (G.cls c).1
  kit : ∀ (d : D) (t : Tg), okIs d = true → (∀ c l, d = .obj c l → G.has c = true) → (∀ c, t = .obj c → G.has c = true) → PySem.W.kitOne K (typD G d) (t.val G) = some (t.has d)
theorem rep_has {G : Gam} {H : Hp} {d : D} {v : V} (k : Rep G H d v) : ∀ c l, d = .obj c l → G.has c = true := fun c l e => by
  subst e
  simp only [Rep] at k
  exact k.1
def dIsi (t : Tg) (d : D) : M D := if okIs d = true then pure (.bl (t.has d)) else bad
def dIsi2 (t t2 : Tg) (d : D) : M D := if okIs d = true then pure (.bl (t.has d || t2.has d)) else bad
theorem tyX_of {K : PySem.W.Frag} {H : Hp} {d : D} {v : V} {G : Gam} (hK : K = G.K) (I : IsK K G) (ho : okIs d = true) (k : Rep G H d v) : TyX K H v (typD G d) := by
  cases d with
  | non => simp only [Rep] at k; subst k; exact .base .non
  | bl b => simp only [Rep] at k; subst k; exact .base (.bl b)
  | int b => simp only [Rep] at k; subst k; exact .base (.int b)
  | str b => simp only [Rep] at k; subst k; exact .base (.str b)
  | rat q => simp only [Rep] at k; obtain ⟨a, dx, rfl, h⟩ := k; exact .base (.ins h I.rat.cl I.rat.ha I.rat.hn I.rat.htk I.rat.hm)
  | tup l =>
    simp only [Rep] at k
    obtain ⟨a, xs, rfl, h, _⟩ := k
    rcases h with h | ⟨o, its, n, h, hc, _⟩
    · exact .base (.tup h)
    · exact .kTuple (by rw [hK]; exact h) hc
  | lst l => simp only [Rep] at k; obtain ⟨a, xs, rfl, ⟨o, h⟩, _⟩ := k; exact .base (.frz h)
  | obj c l =>
    simp only [Rep] at k
    obtain ⟨hh, a, dx, xs, rfl, h, _⟩ := k
    have F := I.obj c hh
    exact .base (.ins h F.cl F.ha F.hn F.htk F.hm)
  | st => cases ho
  | adr a => cases ho
def TgE (X : Cx) (J : Jx) (e : Expr) (t : Tg) : Prop := ∃ v, PE X e (tC v) ∧ ClsV v (t.val J.G)
theorem tg_bltn {t : Tg} {x : Str} {n : String} {p : Pos} (hv : t.val J.G = .type n) (hg : Gl X x) (hm : X.mg x = none) (hb : bootBuiltins x = some (.type n)) (hn : x ≠ "__name__" := by decide) (hd : (x == ("__debug__" : Str)) = false := by decide) : TgE X J (.Name x p) t :=
  ⟨.ty n, pe_bltn hg hm hb rfl hn hd, by rw [hv]; exact .ty n⟩
theorem tg_own {t : Tg} {x : Str} {C : Addr} {p : Pos} (hv : t.val J.G = .ref C) (hg : Gl X x) (hm : X.mg x = some (.ref C)) (hd : (x == ("__debug__" : Str)) = false := by decide) : TgE X J (.Name x p) t :=
  ⟨.ref C, pe_glob hg hm rfl hd, by rw [hv]; exact .own C⟩
theorem e_isi {t : Tg} {e2 : Expr} {x : Str} {p : Pos} (ok : Ok X J) (I : IsK X.K J.G) (ht : ∀ c, t = .obj c → J.G.has c = true) (he : EJ X J ω e fe) (h2 : TgE X J e2 t) (hg : Gl X x) (hm : X.mg x = none) (hv : bootBuiltins x = some (.builtin "isinstance"))
    (hn : x ≠ "__name__" := by decide) (hdb : (x == ("__debug__" : Str)) = false := by decide)
    (hs : starEach (e :: [e2]) X.env = (false, eval e X.env) :: starEach [e2] X.env := by rfl) (hs2 : starEach (e2 :: []) X.env = (false, eval e2 X.env) :: starEach [] X.env := by rfl) (hpl : (backTo pos (starEach [e2] X.env)).any (·.1) = false := by rfl) :
    EJ X J ω (.Call (.Name x p) [e, e2] [] pos) (cUn (dIsi t) fe) := by
  obtain ⟨v2, p2, c2⟩ := h2
  refine (pe_callB call_isi hg hm hv (pa_cons he (pa_cons p2 pa_nil hs2) hs) hn hdb hs hpl).imp fun σ H Q h => ?_
  obtain ⟨ρ, s, r, q⟩ := h
  refine tG.step r q fun x H1 d s1 g1 r1 k1 q1 => ?_
  show rIsi X.K [x, v2] H1 Q
  by_cases c : okIs d = true
  · have q2 : Post J σ H (κV J.G H) Q ((if okIs d = true then pure (.bl (t.has d)) else bad : M D) s1) := q1
    rw [if_pos c] at q2
    exact ⟨x, v2, _, _, _, rfl, c2, tyX_of ok.K I c k1, I.kit d t c (rep_has k1) ht, q2 _ H1 g1 r1.st (rep_bl.mpr rfl)⟩
  · have q2 : Post J σ H (κV J.G H) Q ((if okIs d = true then pure (.bl (t.has d)) else bad : M D) s1) := q1
    rw [if_neg c] at q2
    exact q2.elim
def dIsB (neg : Bool) : D → D → M D
  | .bl a, .bl b => pure (.bl (if neg then !decide (a = b) else decide (a = b)))
  | _, _ => bad
def sRaise (x : Exn) : SX := fun ρ s => .err x ρ s
def Jx.suite (J : Jx) : Jx := ⟨J.G, fun _ _ _ _ => False, fun _ => True, J.H0, J.P⟩
theorem PostS.to {J J' : Jx} {H : Hp} {D : Ends} {r : RS} (hG : J'.G = J.G) (h0 : J'.H0 = J.H0) (ne : ∀ x ρ s, r = .err x ρ s → PostS J' H ω' ωb ωc D (.err x ρ s)) (h : PostS J H ω' ωb ωc D r) (hP : J'.P = J.P := by rfl) : PostS J' H ω' ωb ωc D r := by
  obtain ⟨G, W, o, h1, p⟩ := J
  obtain ⟨G', W', o', h1', p'⟩ := J'
  dsimp only at hG h0 hP
  subst hG h0 hP
  cases r with
  | go f ρ s => cases f <;> exact h
  | err x ρ s => exact ne x ρ s rfl
  | bad => exact h
end
end PL
set_option maxHeartbeats 1000000
namespace PL
open PySem PySem.Spec PyProof.Rows L2
def dGcd : D → D → M D
  | .int a, .int b => pure (.int (Nat.gcd a.natAbs b.natAbs : Nat))
  | _, _ => bad
section
variable {X : Cx} {J : Jx} {ω : List Nat} {a b : Expr} {fa fb : EX} {pos p : Pos} {x : Str}
end
def xZero : Exn := ⟨0, []⟩
def ratNew (n d : Int) : M D := if d = 0 then throw xZero else if d.natAbs.log2 < 9000 then pure (.rat (Rat.divInt n d)) else bad
def mRat : List D → M D
  | [.int n] => ratNew n 1
  | [.int n, .int d] => ratNew n d
  | _ => bad
theorem mRat_cases (l : List D) : mRat l = bad ∨ (∃ i, l = [.int i]) ∨ ∃ i d, l = [.int i, .int d] := by
  unfold mRat
  split
  · exact .inr (.inl ⟨_, rfl⟩)
  · exact .inr (.inr ⟨_, _, rfl⟩)
  · exact .inl rfl
def spInit (G : Gam) : Sp := fun vs H Q E => ∃ (a dx : Addr) (n d : Int), vs = [.ref a, .int n, .int d] ∧ H a = some (.ins G.rc dx []) ∧ d.natAbs.log2 < 9000 ∧
  (d = 0 → E (.ref (G.exc 0).1) none H) ∧ (d ≠ 0 → Q .non (L2.upd H a (.ins G.rc dx [("n", .int (Rat.divInt n d).num), ("d", .int ((Rat.divInt n d).den : Int))])))
theorem run_makeS {X : Cx} {CX : CXT} {k : Nat} {f C : Addr} {fd : FuncData} {ps : List Str} {sp : Sp} {dvs : List V} {ds : List Value} {E : XK} {pins : List (Addr × Obj)} {σ : St} {H : Hp} {s : Shared} {Q : VK} {us : List Value} {vs : List V} (M : Mk X.K C f) (F : FnOk X.prog X.w X.K X.mg X.base CX k f fd ps sp) (hr : Room (k + 1) X.A) (hb : Binds X.K fd ps ds) (hd : Vals dvs ds)
    (hx : PassesAt CX X σ E) (I : Inv X pins σ H s) (r : Vals vs us)
    (h : ∀ x dx, H x = none → H dx = none → dx ≠ x → sp (.ref x :: (vs ++ dvs)) (L2.upd (L2.upd H dx (.own x)) x (.ins C dx [])) (fun v H2 => v = .non ∧ Q (.ref x) H2) E) :
    wpAny (model X.prog X.w) X.A (call (.ref C) us) (EP X pins σ Q) X.xe s := by
  have hq := h (s.heap.objs.size + 1) s.heap.objs.size (I.hok.fresh (Nat.le_succ _)) (I.hok.fresh (Nat.le_refl _)) (Nat.ne_of_lt (Nat.lt_succ_self _))
  have I2 := Inv.made (C := C) I
  have r2 : Vals (V.ref (s.heap.objs.size + 1) :: (vs ++ dvs)) (Value.ref (s.heap.objs.size + 1) :: (us ++ ds)) := .cons rfl (r.append hd)
  have hl : (Value.ref (s.heap.objs.size + 1) :: us ++ ds).length = ps.length := by
    have e := r2.length
    rw [F.len _ _ _ _ hq] at e
    exact e.symm
  refine wpAny_call (make_map (f := f) I.kIn M.makes M.init (beq_iff_eq.mp M.fn) (codeAny_mono (F.run _ X.stack _ _ ⟨Value.ref (s.heap.objs.size + 1) :: us, []⟩ (Value.ref (s.heap.objs.size + 1) :: (us ++ ds)) _ _ E (hr.make C us [])
    (I2.env0.make C us []) (hb _ (Value.ref (s.heap.objs.size + 1) :: us) I2.kIn hl) r2 hq) fun r s' hq' => ?_))
  cases r with
  | error e => exact hx pins _ _ e s' I2 hq'
  | ok fl =>
    cases fl with
    | ret u =>
      obtain ⟨v, H', I3, rv, ev, q3⟩ := I2.after hq'
      subst ev
      exact ⟨rv, ⟨V.ref (s.heap.objs.size + 1), H', I3, rfl, q3⟩⟩
    | next => exact False.elim hq'
    | brk => exact False.elim hq'
    | cont => exact False.elim hq'
structure RatMk (P : Program) (w : World) (K : PySem.W.Frag) (mg : Str → Option Value) (base : Heap) (G : Gam) (n : Nat) : Prop where
  made : ∃ (f : Addr) (fd : FuncData), Mk K G.rc f ∧ FnOk P w K mg base (L2.CX P w) n f fd ["self", "n", "d"] (spInit G) ∧ Binds K fd ["self", "n", "d"] [] ∧ ∃ du, Vals [.int 1] du ∧ Binds K fd ["self", "n", "d"] du
  ez : (G.exc 0).2 = []
  hz : G.hx 0 = true
section
variable {X : Cx} {J : Jx} {n : Nat} {G : Gam}
theorem rat_made {H H' : Hp} {x dx : Addr} {s : DS} {r : Addr} {q : Rat} {H2 : Hp} (st : StOk G s H) (h1 : H x = none) (h2 : H dx = none) (hne : dx ≠ x)
    (e : H2 = L2.upd (L2.upd (L2.upd H dx (.own x)) x (.ins r dx [])) x (.ins G.rc dx [("n", .int q.num), ("d", .int (q.den : Int))])) :
    Gr G H H2 ∧ StOk G s H2 ∧ Rep G H2 (.rat q) (.ref x) := by
  subst e
  refine ⟨(((Gr.refl G H).upd h2).upd h1).upd h1, fun a e => ?_, ?_⟩
  · have ha := st a e
    rw [upd_ne (ne_of_none ha h1), upd_ne (ne_of_none ha h1), upd_ne (ne_of_none ha h2)]
    exact ha
  · simp only [Rep]
    exact ⟨x, dx, rfl, upd_same⟩
theorem cal_rat (R : RatMk X.prog X.w X.K X.mg X.base G n) (ok : Ok X J) (hr : Room (n + 1) X.A) (hG : J.G = G.at J.G.th) : Cal X J G.rc mRat := by
  obtain ⟨f, fd, M, F, b0, du, rdu, b1⟩ := R.made
  have main : ∀ (pins : List (Addr × Obj)) (σ : St) (H : Hp) (s : Shared) (us : List Value) (vs dvs : List V) (dus : List Value) (i d : Int) (ds : DS) (Q : VK), Inv X pins σ H s → Vals vs us → Vals dvs dus → Binds X.K fd ["self", "n", "d"] dus → vs ++ dvs = [.int i, .int d] → StOk J.G ds H → Post J σ H (fun d v H' => Rep J.G H' d v) Q (ratNew i d ds) →
      wpAny (model X.prog X.w) X.A (call (.ref G.rc) us) (EP X pins σ Q) X.xe s := by
    intro pins σ H s us vs dvs dus i d ds Q I rv rd hb e st q
    refine run_makeS (E := fun cls dc H => J.W cls dc σ H) M F hr hb rd (passAt ok.tk σ) I rv fun x dx h1 h2 hne => ?_
    rw [e]
    unfold ratNew at q
    by_cases c0 : d = 0
    · rw [if_pos c0] at q
      subst c0
      refine ⟨x, dx, i, 0, rfl, upd_same, by decide, fun _ => ?_, fun z => (z rfl).elim⟩
      have g : Gr J.G H (L2.upd (L2.upd H dx (.own x)) x (.ins G.rc dx [])) := ((Gr.refl J.G H).upd h2).upd h1
      refine q _ none _ g (fun a e => ?_) ⟨by rw [hG]; exact R.hz, by rw [hG]; rfl, .inl ⟨by rw [hG]; exact R.ez, rfl, rfl⟩⟩
      have ha := st a e
      rw [upd_ne (ne_of_none ha h1), upd_ne (ne_of_none ha h2)]
      exact ha
    · rw [if_neg c0] at q
      by_cases c1 : d.natAbs.log2 < 9000
      · rw [if_pos c1] at q
        refine ⟨x, dx, i, d, rfl, upd_same, c1, fun z => (c0 z).elim, fun _ => ⟨rfl, ?_⟩⟩
        have hrc : J.G.rc = G.rc := by rw [hG]; rfl
        obtain ⟨g, t, k⟩ := rat_made (G := J.G) (H' := H) (r := G.rc) (q := Rat.divInt i d) st h1 h2 hne (by rw [hrc])
        exact q _ _ g t k
      · rw [if_neg c1] at q
        exact q.elim
  intro pins σ H s us vs args ds Q I rv st ra q
  rcases mRat_cases args with e | ⟨i, rfl⟩ | ⟨i, d, rfl⟩
  · rw [e] at q
    exact q.elim
  · simp only [RepL] at ra
    obtain ⟨v, _, rfl, k, rfl⟩ := ra
    rw [rep_int.mp k] at rv
    exact main pins σ H s us _ [.int 1] du i 1 ds Q I rv rdu b1 rfl st q
  · simp only [RepL] at ra
    obtain ⟨v, _, rfl, k, v2, _, rfl, k2, rfl⟩ := ra
    rw [rep_int.mp k, rep_int.mp k2] at rv
    exact main pins σ H s us _ [] [] i d ds Q I rv .nil b0 rfl st q
end
end PL
set_option maxHeartbeats 1000000
namespace PL
open PySem PySem.Spec PyProof.Rows L2
theorem def_okX {P : Program} {w : World} {K : PySem.W.Frag} {mg : Str → Option Value} {base : Heap} {x qual : Str} {params : Arguments} {body : List Stmt} {scope : Scope} {dvs : List V} {kws : List (Str × V)} {f : Addr} {fd : FuncData} {N ps : List Str} {k n m : Nat} {G : Gam} {b : SX} {ω' : List Nat}
    (F : FunD K x qual params body scope dvs kws f fd) (S : FnScope N ps scope) (hK : K = G.K) (hn : ps.length = n) (hN : N.length = n + m)
    (hbody : ∀ (cdv : Value) (A : Around) (outer : List Env) (s : Shared) (H : Hp) (E : XK) (th : Option Addr), Room k (A.deeper (envOfC qual scope s.heap.objs.size f cdv)) →
      Ok (cxOf (L2.CX P w) P w K mg base N qual scope f cdv A outer s H E) (jx G th H E) → PassesOwn (model P w) (A.deeper (envOfC qual scope s.heap.objs.size f cdv)) (envOfC qual scope s.heap.objs.size f cdv) (cxOf (L2.CX P w) P w K mg base N qual scope f cdv A outer s H E).xe →
      SsJ (cxOf (L2.CX P w) P w K mg base N qual scope f cdv A outer s H E) (jx G th H E) (List.replicate (n + m) 0) ω' [] [] body b) :
    FnOk P w K mg base (L2.CX P w) (k + 1) f fd ps (spM G (mk m b) n) :=
  def_ok F S hn hN fun cdv A outer s H E th hr => hbody cdv A outer s H E th hr ⟨hK, rfl, takes_of rfl rfl rfl rfl, S.nd⟩ (passes_of rfl)
def spState (K : PySem.W.Frag) : Sp := fun vs H Q _ => ∃ (a : Addr) (ns : List Int), vs = [.ref a] ∧ SqL K H a (ns.map V.int) ∧ ∀ (p : Addr) (x y : Int) (H' : Hp), H' p = some (.lst [.int x, .int y]) → Q (.ref p) H'
def spLaw (K : PySem.W.Frag) : Sp := fun vs H Q _ => ∃ (a : Addr) (ns : List Int), vs = [.ref a] ∧ SqL K H a (ns.map V.int) ∧ ns.length ≤ 63 ∧ ∀ H', Q (.bl true) H'
theorem law_ok {P : Program} {w : World} {K : PySem.W.Frag} {mg : Str → Option Value} {base : Heap} {x qual v0 : Str} {params : Arguments} {st0 : Stmt} {rest : List Stmt} {scope : Scope} {dvs : List V} {kws : List (Str × V)} {f : Addr} {fd : FuncData} {N : List Str} {k m : Nat} {G : Gam} {b : SX} {ω' : List Nat}
    (F : FunD K x qual params (st0 :: rest) scope dvs kws f fd) (S : FnScope N [v0] scope) (hK : K = G.K) (hm : N.length = m + 2)
    (hst : ∀ (cdv : Value) (A : Around) (outer : List Env) (s : Shared) (H : Hp) (E : XK), Room k (A.deeper (envOfC qual scope s.heap.objs.size f cdv)) → Takes (cxOf (L2.CX P w) P w K mg base N qual scope f cdv A outer s H E) (fun cls d _ H => E cls d H) →
      PS (cxOf (L2.CX P w) P w K mg base N qual scope f cdv A outer s H E) st0 (tAsg (tCallS (spState K) (fun _ => E) (tCons (tVar 0) tNil)) (gName 1)))
    (hbody : ∀ (cdv : Value) (A : Around) (outer : List Env) (s : Shared) (H H1 : Hp) (E : XK) (p : Addr), Room k (A.deeper (envOfC qual scope s.heap.objs.size f cdv)) →
      Ok (cxOf (L2.CX P w) P w K mg base N qual scope f cdv A outer s H E) (jx G (some p) H1 E) → PassesOwn (model P w) (A.deeper (envOfC qual scope s.heap.objs.size f cdv)) (envOfC qual scope s.heap.objs.size f cdv) (cxOf (L2.CX P w) P w K mg base N qual scope f cdv A outer s H E).xe →
      SsJ (cxOf (L2.CX P w) P w K mg base N qual scope f cdv A outer s H E) (jx G (some p) H1 E) (List.replicate (m + 2) 0) ω' [] [] rest b)
    (hb : ∀ s : DS, ∃ ρ' s', b (none :: some .st :: List.replicate m none) s = .go (.rt (.bl true)) ρ' s') :
    FnOk P w K mg base (L2.CX P w) (k + 1) f fd [v0] (spLaw K) := by
  have len : ∀ vs H Q E, spLaw K vs H Q E → vs.length = [v0].length := fun vs H Q E ⟨a, ns, e, _⟩ => by rw [e]; rfl
  refine F.ok S len fun cdv A outer s H vs Q E hr h => ?_
  obtain ⟨a, ns, rfl, hS, hl, q⟩ := h
  have tk : Takes (cxOf (L2.CX P w) P w K mg base N qual scope f cdv A outer s H E) (fun cls d _ H => E cls d H) := takes_of rfl rfl rfl rfl
  have rr := hr
  refine ⟨tSeq _ (fun D σ H' => ∃ p H1, tS (jx G (some p) H1 E) (List.replicate (m + 2) 0) ω' [] [] b D σ H'), pss_cons (hst cdv A outer s H E rr tk) ⟨fun pins s1 σ H' D I ⟨p, H1, h⟩ =>
    (hbody cdv A outer s H H1 E p rr ⟨hK, rfl, tk, S.nd⟩ (passes_of rfl)).run pins s1 σ H' D I h⟩, ?_⟩
  refine ⟨.ref a, rfl, a, ns, rfl, hS, fun p x y H1 hp => ?_⟩
  refine ⟨p, H1, none :: some .st :: List.replicate m none, (x, y), ?_, ?_⟩
  · refine ⟨Gr.refl _ _, fun c e => ?_, ?_, fun _ => [], fun i d e => ?_, fun _ => List.nodup_nil, fun _ _ c _ z => (List.not_mem_nil z).elim, fun _ c z => (List.not_mem_nil z).elim⟩
    · have e : some p = some c := e
      cases e
      exact hp
    · show ((L2.start N [V.ref a]).set 1 (some (.ref p))).length = _
      unfold L2.start
      simp [hm]
    · match i, e with
      | 0, e => cases e
      | 1, e =>
        simp at e
        subst e
        refine ⟨.ref p, ?_, ?_⟩
        · show ((L2.start N [V.ref a]).set 1 (some (.ref p)))[1]? = _
          unfold L2.start
          rw [hm]
          simp
        · have : kd (List.replicate (m + 2) 0) 1 = 0 := by simp [kd]
          rw [this]
          refine ⟨rfl, ?_⟩
          simp only [Rep]
          exact ⟨p, rfl, rfl⟩
      | i + 2, e =>
        simp only [List.getElem?_cons_succ, List.getElem?_replicate] at e
        split at e <;> cases e
  · obtain ⟨ρ', s', e⟩ := hb (x, y)
    rw [e]
    intro v H' g t k
    have k : Rep (G.at (some p)) H' (.bl true) v := k
    rw [rep_bl.mp k]
    exact q H'
end PL
set_option maxHeartbeats 1000000
namespace PL
open PySem PySem.Spec PyProof.Rows L2
structure OpF (K : PySem.W.Frag) (rc : Addr) (op : Operator) (f : Addr) : Prop where
  sf : PySem.W.selfFirst K rc = true
  hs : PySem.W.findIn K (.ref rc) (PySem.dunder op.info.2) = some (some (.ref f))
  hf : PySem.W.isFn K (.ref f) = true
section
variable {X : Cx} {J : Jx} {n : Nat} {f : Addr} {m : List D → M D}
theorem rat_looks {pins : List (Addr × Obj)} {σ : St} {H : Hp} {s : Shared} {q : Rat} {v : V} {u : Value} (I : Inv X pins σ H s) (r : RelV v u) (k : Rep J.G H (.rat q) v) : ∃ a ox od, u = .ref a ∧ PySem.W.InstAt s.heap a ox J.G.rc od := by
  simp only [Rep] at k
  obtain ⟨a, dx, rfl, h⟩ := k
  cases r
  obtain ⟨mA, O, _⟩ := ins_get I.hok h
  obtain ⟨od, JJ, _⟩ := O.look
  exact ⟨a, _, od, rfl, JJ⟩
theorem cmpBack_ref {pins : List (Addr × Obj)} {σ : St} {Q : VK} {u : Value} {s : Shared} (h : EP X pins σ (fun v H => (∃ a, v = .ref a) ∧ Q v H) u s) : PySem.W.CmpBack (EP X pins σ Q) u s := by
  obtain ⟨v, H', I, r, ⟨a, rfl⟩, q⟩ := h
  cases r
  exact ⟨.ref a, H', I, rfl, q⟩
theorem stOk_all {G : Gam} {H H' : Hp} {ds ds' : DS} (a : StOk G ds H) (b : StOk G ds' H') (e : ds' = ds) : ∀ s, StOk G s H → StOk G s H' := by
  subst e
  intro s t c hc
  have h1 := a c hc
  have h2 := t c hc
  rw [h1] at h2
  rw [b c hc]
  exact h2
theorem rat_ref {G : Gam} {H : Hp} {q : Rat} {v : V} (k : Rep G H (.rat q) v) : ∃ a, v = .ref a := by
  simp only [Rep] at k
  obtain ⟨a, dx, rfl, _⟩ := k
  exact ⟨a, rfl⟩
theorem ratop_of {op : Operator} {g : Rat → Rat → Rat} (hc : Cal X J f m) (F : OpF X.K J.G.rc op f) (hm : ∀ p q, fit p = true → fit q = true → ∀ s, m [.rat p, .rat q] s = .ok (.rat (g p q)) s) : RatOp X J (binaryOp op) (ratB g) := by
  intro p q d e pins s σ H x y v u Q ⟨ds, st⟩ I rx ry kx ky h
  unfold ratB at e
  obtain ⟨c, rfl⟩ := ite_pure_of e
  obtain ⟨c1, c2⟩ := Bool.and_eq_true_iff.mp c
  obtain ⟨a, ox, od, rfl, IA⟩ := rat_looks I rx kx
  obtain ⟨b, ox2, od2, rfl, IB⟩ := rat_looks I ry ky
  obtain ⟨mm, hF⟩ := I.fr
  refine PySem.W.binop_K hF I.ok.mod.kin IA IB.type F.sf F.hs F.hf ?_
  refine thn (hc pins σ H s [.ref a, .ref b] [x, y] [.rat p, .rat q] ds (fun v H => (∃ a, v = .ref a) ∧ Q v H) I (.cons rx (.cons ry .nil)) st (RepL.cons kx (RepL.cons ky RepL.nil)) ?_) fun u s' => cmpBack_ref
  rw [hm p q c1 c2]
  intro v H' gg t k
  exact ⟨rat_ref k, h v H' gg (stOk_all st t rfl) k⟩
theorem o_neg (hc : Cal X J f m) (hs : PySem.W.findIn X.K (.ref J.G.rc) "__neg__" = some (some (.ref f))) (hf : PySem.W.isFn X.K (.ref f) = true) (hm : ∀ p, fit p = true → ∀ s, m [.rat p] s = .ok (.rat (-p)) s) : UnR X (unaryOp .USub) (rD1 J.G dNeg) := UnR.of pure_neg fun dx d e => by
  cases dx <;> first | exact bad_ne e | skip
  · rename_i i
    cases M.pure_inj e
    intro pins s σ H x v Q _ I rx kx q
    exact un_neg pins s σ H x v Q I rx ⟨i, rep_int.mp kx, q _ H (Gr.refl _ _) (fun _ t => t) (rep_int.mpr rfl)⟩
  · rename_i p
    obtain ⟨c, rfl⟩ := ite_pure_of e
    intro pins s σ H x v Q ⟨ds, st⟩ I rx kx q
    obtain ⟨a, ox, od, rfl, IA⟩ := rat_looks I rx kx
    obtain ⟨mm, hF⟩ := I.fr
    refine PySem.W.ksp_neg hF I.ok.mod.kin IA hs hf ?_
    refine hc pins σ H s [.ref a] [x] [.rat p] ds Q I (.cons rx .nil) st (RepL.cons kx RepL.nil) ?_
    rw [hm p c]
    intro v H' gg t k
    exact q v H' gg (stOk_all st t rfl) k
end
theorem ratEq_of {P : Program} {w : World} {K : PySem.W.Frag} {mg : Str → Option Value} {base : Heap} {G : Gam} {n : Nat} {f : Addr} {fd : FuncData} {ps : List Str} {m : List D → M D} (F : FnOk P w K mg base (L2.CX P w) n f fd ps (spM G m 2))
    (hm : ∀ p e, ratRight e = true → ∀ s, m [.rat p, e] s = .ok (.bl (ratEqD p e)) s) : FnOk P w K mg base (L2.CX P w) n f fd ps (spRatEq G) := F.imp fun vs H Q E h => by
  obtain ⟨th, p, e, x, y, s, rfl, kx, ky, hr, st, q⟩ := h
  refine ⟨th, [.rat p, e], s, RepL.cons kx (RepL.cons ky RepL.nil), st, rfl, ?_⟩
  rw [hm p e hr]
  intro v H' g t k
  rw [rep_bl.mp k]
  refine q H' fun a o ha => ?_
  by_cases c : (G.at th).th = some a
  · rw [t a c]
    rw [st a c] at ha
    exact ha
  · exact g.all a o c ha
end PL
set_option maxHeartbeats 1000000
namespace PL
open PySem PySem.Spec PyProof.Rows L2
structure XcF (mg : Str → Option Value) (G : Gam) (c : Nat) (x : Str) : Prop where
  g : mg x = some (.ref (G.exc c).1)
  no : (G.exc c).2 = []
  hx : G.hx c = true
  kp : PySem.W.keepIn G.K (.ref (G.exc c).1) = true
  q : ∃ (B newId initId : String) (bmB : List Value), ExcBaseFacts B newId initId bmB ∧ PySem.W.excIn G.K (G.exc c).1 bmB newId = true
  s : PySem.W.subIn G.K (.ref (G.exc c).1) (.type "BaseException") = some true
  t : PySem.W.typeIn G.K (.ref (G.exc c).1) = some (.type "type")
theorem XcF.pmk {X : Cx} {G : Gam} {c : Nat} {x m : Str} {j : Nat} {p p2 pos : Pos} (F : XcF X.mg G c x) (hK : X.K = G.K) (hg : Gl X x) (hdb : (x == ("__debug__" : Str)) = false := by decide) :
    PMk X (.Call (.Name x p) [.Constant (.str m) j p2] [] pos) (fun _ H Q => Q (.ref (G.exc c).1) none H) := by
  obtain ⟨B, newId, initId, bmB, E, q⟩ := F.q
  exact pmk_own E (by rw [hK]; exact q) F.g (by rw [hK]; exact F.kp) (raises_own (by rw [hK]; exact F.s) (by rw [hK]; exact F.t)) hg hdb
theorem XcF.names {X : Cx} {G : Gam} {c : Nat} {x : Str} (F : XcF X.mg G c x) (hg : Gl X x) (hdb : (x == ("__debug__" : Str)) = false := by decide) : Names X x (.ref (G.exc c).1) := ⟨hg, hdb, .inl F.g⟩
theorem divInt_parts {n d : Int} (h : 0 < d) : (Rat.divInt n d).num = n / (Nat.gcd n.natAbs d.natAbs : Nat) ∧ ((Rat.divInt n d).den : Int) = d / (Nat.gcd n.natAbs d.natAbs : Nat) := by
  constructor
  · rw [Rat.num_divInt, Int.sign_eq_one_of_pos h, Int.one_mul, Int.gcd_comm]
    rfl
  · rw [Rat.den_divInt, if_neg (by omega), Int.gcd_comm]
    show ((d.natAbs / Nat.gcd n.natAbs d.natAbs : Nat) : Int) = _
    rw [Int.natCast_ediv, Int.natAbs_of_nonneg (Int.le_of_lt h)]
theorem divInt_parts_neg {n d : Int} (h : d < 0) : (Rat.divInt n d).num = -n / (Nat.gcd (-n).natAbs (-d).natAbs : Nat) ∧ ((Rat.divInt n d).den : Int) = -d / (Nat.gcd (-n).natAbs (-d).natAbs : Nat) := by
  rw [← Rat.neg_divInt_neg n d]
  exact divInt_parts (by omega)
theorem gcd_pos_of {n d : Int} (h : d ≠ 0) : (0 : Int) < (Nat.gcd n.natAbs d.natAbs : Nat) := by
  have : 0 < Nat.gcd n.natAbs d.natAbs := Nat.gcd_pos_of_pos_right _ (by omega)
  omega
theorem gcd_log {n d : Int} (h : d ≠ 0) (h2 : d.natAbs.log2 < 9000) : ((Nat.gcd n.natAbs d.natAbs : Nat) : Int).natAbs.log2 < 9000 := by
  rw [Int.natAbs_natCast]
  have h0 : d.natAbs ≠ 0 := by omega
  have : Nat.gcd n.natAbs d.natAbs ≤ d.natAbs := Nat.gcd_le_right _ (by omega)
  have g0 : Nat.gcd n.natAbs d.natAbs ≠ 0 := by have := gcd_pos_of (n := n) h; omega
  rw [Nat.log2_lt g0]
  rw [Nat.log2_lt h0] at h2
  omega
theorem fit_num {p : Rat} (h : fit p = true) : p.num.natAbs < 2 ^ 4000 := of_decide_eq_true (Bool.and_eq_true_iff.mp h).1
theorem fit_den {p : Rat} (h : fit p = true) : p.den < 2 ^ 4000 := of_decide_eq_true (Bool.and_eq_true_iff.mp h).2
theorem log2_lt_of {n k : Nat} (h : n < 2 ^ k) : n.log2 ≤ k := by
  by_cases e : n = 0
  · subst e; simp
  · exact Nat.le_of_lt ((Nat.log2_lt e).mpr h)
theorem okMul_of {i j : Int} {a b : Nat} (h1 : i.natAbs < 2 ^ a) (h2 : j.natAbs < 2 ^ b) (h : a + b < 1000000) : okMul i j = true := by
  unfold okMul
  have := log2_lt_of h1
  have := log2_lt_of h2
  rw [Bool.or_eq_true_iff, Bool.or_eq_true_iff]
  exact .inr (.inr (decide_eq_true (by omega)))
theorem IsK.at {K : PySem.W.Frag} {G : Gam} (I : IsK K G) (th : Option Addr) : IsK K (G.at th) := ⟨I.rat, I.obj, fun d t a b c => by
  have := I.kit d t a b c
  cases d <;> cases t <;> exact this⟩
theorem EqK.at {P : Program} {w : World} {K : PySem.W.Frag} {mg : Str → Option Value} {base : Heap} {G : Gam} {n : Nat} (E : EqK P w K mg base G n) (th : Option Addr) : EqK P w K mg base (G.at th) n := ⟨E.kg, E.fn, E.ne, E.ob, E.nf⟩
end PL
set_option maxHeartbeats 1000000
namespace PL
open PySem PySem.Spec PyProof.Rows L2
def R.bnd {α β : Type} (x : R α) (f : α → DS → R β) : R β := match x with
  | .ok a s => f a s
  | .err e s => .err e s
  | .bad => .bad
section
variable {α β : Type} {a : α} {s : DS} {f : α → DS → R β} {e : Exn} {ρ : En}
theorem bnd_ok : R.bnd (.ok a s) f = f a s := (rfl)
theorem bnd_err : R.bnd (.err e s : R α) f = .err e s := (rfl)
theorem bnd_bad : R.bnd (.bad : R α) f = .bad := (rfl)
theorem a_pure (a : α) : (pure a : M α) s = .ok a s := rfl
theorem a_bad : (bad : M α) s = .bad := rfl
theorem a_ite {c : Prop} [Decidable c] (x y : M α) : (if c then x else y) s = if c then x s else y s := by split <;> rfl
variable {op : D → D → M D} {op1 : D → M D} {x y : EX} {m : List D → M D} {as : En → M (List D)}
theorem a_bin : cBin op x y ρ s = R.bnd (x ρ s) fun v s1 => R.bnd (y ρ s1) fun w s2 => op v w s2 := rfl
theorem a_un : cUn op1 x ρ s = R.bnd (x ρ s) fun v s1 => op1 v s1 := rfl
theorem a_c (d : D) : cC d ρ s = .ok d s := rfl
theorem a_var (i : Nat) : cVar i ρ s = match ρ[i]? with | some (some d) => .ok d s | _ => .bad := by
  unfold cVar
  cases ρ[i]? with
  | none => rfl
  | some o => cases o <;> rfl
theorem a_call : cCall m as ρ s = R.bnd (as ρ s) fun l s1 => m l s1 := rfl
theorem a_nil' : aNil ρ s = .ok [] s := rfl
theorem a_cons' : aCons x as ρ s = R.bnd (x ρ s) fun v s1 => R.bnd (as ρ s1) fun l s2 => .ok (v :: l) s2 := rfl
theorem a_tup : cTup as ρ s = R.bnd (as ρ s) fun l s1 => if l.length ≤ 1000000 then .ok (.tup l) s1 else .bad := by
  show R.bnd (as ρ s) _ = _
  congr 1
  funext l s1
  rw [a_ite]; rfl
theorem a_lst : cLst as ρ s = R.bnd (as ρ s) fun l s1 => if l.length ≤ 1000000 then .ok (.lst l) s1 else .bad := by
  show R.bnd (as ρ s) _ = _
  congr 1
  funext l s1
  rw [a_ite]; rfl
theorem a_meth {t : Tag} {o : EX} : cMeth t m o as ρ s = R.bnd (o ρ s) fun v s1 => if t.is v = true then R.bnd (as ρ s1) fun l s2 => m (v :: l) s2 else .bad := by
  show R.bnd (o ρ s) _ = _
  congr 1
  funext l s1
  rw [a_ite]; rfl
theorem a_test : cTest x ρ s = R.bnd (x ρ s) fun v s1 => match v with | .bl b => .ok b s1 | _ => .bad := by
  show R.bnd (x ρ s) _ = _
  congr 1
  funext v s1
  cases v <;> rfl
theorem a_notT {t : En → M Bool} : cNotT t ρ s = R.bnd (t ρ s) fun b s1 => .ok (!b) s1 := rfl
theorem a_andT {t u : En → M Bool} : cAndT t u ρ s = R.bnd (t ρ s) fun b s1 => if b = true then u ρ s1 else .ok false s1 := by
  show R.bnd (t ρ s) _ = _
  congr 1
  funext l s1
  rw [a_ite]; rfl
theorem a_orT {t u : En → M Bool} : cOrT t u ρ s = R.bnd (t ρ s) fun b s1 => if b = true then .ok true s1 else u ρ s1 := by
  show R.bnd (t ρ s) _ = _
  congr 1
  funext l s1
  rw [a_ite]; rfl
theorem a_andV : cAndV x y ρ s = R.bnd (x ρ s) fun v s1 => match v with | .bl true => y ρ s1 | .bl false => .ok (.bl false) s1 | _ => .bad := by
  show R.bnd (x ρ s) _ = _
  congr 1
  funext v s1
  cases v <;> first | rfl | (rename_i b; cases b <;> rfl)
theorem a_orV : cOrV x y ρ s = R.bnd (x ρ s) fun v s1 => match v with | .bl true => .ok (.bl true) s1 | .bl false => y ρ s1 | _ => .bad := by
  show R.bnd (x ρ s) _ = _
  congr 1
  funext v s1
  cases v <;> first | rfl | (rename_i b; cases b <;> rfl)
theorem a_if {t : En → M Bool} : cIf t x y ρ s = R.bnd (t ρ s) fun b s1 => if b = true then x ρ s1 else y ρ s1 := by
  show R.bnd (t ρ s) _ = _
  congr 1
  funext l s1
  rw [a_ite]
theorem a_ar {n : Nat} {l : List D} : ar n m l s = if l.length = n then m l s else .bad := by
  unfold ar
  rw [a_ite]; rfl
def RS.bnd (x : RS) (f : En → DS → RS) : RS := match x with
  | .go .nx ρ s => f ρ s
  | r => r
def RE {α : Type} (x : R α) (ρ : En) (k : α → DS → RS) : RS := match x with
  | .ok a s => k a s
  | .err e s => .err e ρ s
  | .bad => .bad
theorem re_ok {k : α → DS → RS} : RE (.ok a s) ρ k = k a s := (rfl)
theorem re_err {k : α → DS → RS} : RE (.err e s : R α) ρ k = .err e ρ s := (rfl)
theorem re_bad {k : α → DS → RS} : RE (.bad : R α) ρ k = .bad := (rfl)
theorem rs_nx {f : En → DS → RS} : RS.bnd (.go .nx ρ s) f = f ρ s := (rfl)
theorem rs_rt {f : En → DS → RS} {d : D} : RS.bnd (.go (.rt d) ρ s) f = .go (.rt d) ρ s := (rfl)
theorem rs_err {f : En → DS → RS} : RS.bnd (.err e ρ s) f = .err e ρ s := (rfl)
theorem rs_bad {f : En → DS → RS} : RS.bnd .bad f = .bad := (rfl)
variable {f1 f2 : SX} {t : En → M Bool}
theorem a_seq : sSeq f1 f2 ρ s = RS.bnd (f1 ρ s) f2 := by
  unfold sSeq RS.bnd
  cases f1 ρ s with
  | go fl _ _ => cases fl <;> rfl
  | _ => rfl
theorem a_pass : sPass ρ s = .go .nx ρ s := rfl
theorem a_sE {fe : En → M α} {k : α → SX} : sE fe k ρ s = RE (fe ρ s) ρ fun d s' => k d ρ s' := rfl
theorem a_set {i : Nat} : sSet i x ρ s = RE (x ρ s) ρ fun d s' => .go .nx (ρ.set i (some d)) s' := rfl
theorem a_drop : sDrop x ρ s = RE (x ρ s) ρ fun d s' => .go .nx ρ s' := rfl
theorem a_sif : sIf t f1 f2 ρ s = RE (t ρ s) ρ fun b s' => if b = true then f1 ρ s' else f2 ρ s' := by
  show RE (t ρ s) ρ _ = _
  congr 1
  funext b s1
  cases b <;> rfl
theorem a_par {i j : Nat} : sPar i j x y ρ s = RE (x ρ s) ρ fun d s1 => RE (y ρ s1) ρ fun d2 s2 => .go .nx ((ρ.set i (some d)).set j (some d2)) s2 := by
  unfold sPar
  rw [a_sE]
  rw [show (do let x ← x ρ; let y ← y ρ; pure (x, y) : M (D × D)) s = R.bnd (x ρ s) fun v s1 => R.bnd (y ρ s1) fun w s2 => .ok (v, w) s2 from rfl]
  cases x ρ s with
  | ok d s1 =>
    rw [bnd_ok, re_ok]
    cases y ρ s1 <;> rfl
  | err e s1 => rfl
  | bad => rfl
theorem a_setSt {k i : Nat} : sSetSt k i x ρ s = RE (x ρ s) ρ fun d s' => match ρ[i]?, d with
  | some (some .st), .int n => .go .nx ρ (if k = 0 then (n, s'.2) else (s'.1, n))
  | _, _ => .bad := rfl
theorem a_mk {k : Nat} {b : SX} {l : List D} : mk k b l s = match b (l.map some ++ List.replicate k none) s with
  | .go .nx _ s' => .ok .non s'
  | .go (.rt d) _ s' => .ok d s'
  | .err x _ s' => .err x s'
  | _ => .bad := rfl
end
section
variable {s : DS} {a b : Int} {c : Bool}
theorem d_addI : dAddI (.int a) (.int b) s = .ok (.int (a + b)) s := rfl
theorem d_subI : dSubI (.int a) (.int b) s = .ok (.int (a - b)) s := rfl
theorem d_mulI : dMulI (.int a) (.int b) s = if okMul a b = true then .ok (.int (a * b)) s else .bad := by
  show (if okMul a b = true then (pure (.int (a * b)) : M D) else bad) s = _
  rw [a_ite]; rfl
theorem d_sub : dSub (.int a) (.int b) s = .ok (.int (a - b)) s := rfl
theorem d_mul : dMul (.int a) (.int b) s = if okMul a b = true then .ok (.int (a * b)) s else .bad := by
  show (if okMul a b = true then (pure (.int (a * b)) : M D) else bad) s = _
  rw [a_ite]; rfl
theorem d_fdiv : dFdiv (.int a) (.int b) s = if okDiv b = true then .ok (.int (a / b)) s else .bad := by
  show (if okDiv b = true then (pure (.int (a / b)) : M D) else bad) s = _
  rw [a_ite]; rfl
theorem d_mod : dMod (.int a) (.int b) s = if 0 < b then .ok (.int (a % b)) s else .bad := by
  show (if 0 < b then (pure (.int (a % b)) : M D) else bad) s = _
  rw [a_ite]; rfl
theorem d_negI : dNegI (.int a) s = .ok (.int (-a)) s := rfl
theorem d_neg : dNeg (.int a) s = .ok (.int (-a)) s := rfl
theorem d_cmp {p : Int → Int → Bool} : dCmp p (.int a) (.int b) s = .ok (.bl (p a b)) s := rfl
theorem d_int : dInt (.int a) s = .ok (.int a) s := rfl
theorem d_intB : dInt (.bl c) s = .ok (.int (if c then 1 else 0)) s := rfl
theorem d_abs : dAbs (.int a) s = .ok (.int a.natAbs) s := rfl
theorem d_fldN {q : Rat} : dFldN (.rat q) s = .ok (.int q.num) s := rfl
theorem d_fldD {q : Rat} : dFldD (.rat q) s = .ok (.int (q.den : Int)) s := rfl
theorem d_gcd : dGcd (.int a) (.int b) s = .ok (.int (Nat.gcd a.natAbs b.natAbs : Nat)) s := rfl
theorem d_rat1 : mRat [.int a] s = ratNew a 1 s := rfl
theorem d_rat2 : mRat [.int a, .int b] s = ratNew a b s := rfl
theorem d_ratNew : ratNew a b s = if b = 0 then .err xZero s else if b.natAbs.log2 < 9000 then .ok (.rat (Rat.divInt a b)) s else .bad := by
  unfold ratNew
  rw [a_ite, a_ite]; rfl
theorem d_eqF {x y : D} : dEqF x y s = if (flatD x && flatD y) = true then .ok (.bl (eqF x y)) s else .bad := by
  unfold dEqF
  rw [a_ite]; rfl
theorem d_neF {x y : D} : dNeF x y s = if (flatD x && flatD y) = true then .ok (.bl (!eqF x y)) s else .bad := by
  unfold dNeF
  rw [a_ite]; rfl
theorem d_isi {t : Tg} {d : D} : dIsi t d s = if okIs d = true then .ok (.bl (t.has d)) s else .bad := by
  unfold dIsi
  rw [a_ite]; rfl
end
theorem den_pos (p : Rat) : 0 < p.den := Nat.pos_of_ne_zero p.den_nz
theorem fitD {p : Rat} (h : fit p = true) : ((p.den : Int)).natAbs < 2 ^ 4000 := by
  rw [Int.natAbs_natCast]; exact fit_den h
theorem log_den2 {p q : Rat} (hp : fit p = true) (hq : fit q = true) : ((p.den : Int) * (q.den : Int)).natAbs.log2 < 9000 := by
  have h1 := fitD hp
  have h2 := fitD hq
  have h : ((p.den : Int) * (q.den : Int)).natAbs < 2 ^ 8000 := by
    rw [Int.natAbs_mul, show (2 : Nat) ^ 8000 = 2 ^ 4000 * 2 ^ 4000 by rw [← Nat.pow_add]]
    exact Nat.mul_lt_mul'' h1 h2
  have := log2_lt_of h
  omega
theorem den2_ne (p q : Rat) : ((p.den : Int) * (q.den : Int)) ≠ 0 := by
  have h1 := den_pos p
  have h2 := den_pos q
  exact Int.mul_ne_zero (by omega) (by omega)
theorem den_ne (p : Rat) : ((p.den : Int)) ≠ 0 := by
  have := den_pos p
  omega
theorem log_den {p : Rat} (hp : fit p = true) : ((p.den : Int)).natAbs.log2 < 9000 := by
  have := log2_lt_of (fitD hp)
  omega
theorem eqF_int (a b : Int) : eqF (.int a) (.int b) = decide (a = b) := rfl
theorem rat_dec (p q : Rat) : decide (p = q) = (decide (p.num = q.num) && decide ((p.den : Int) = (q.den : Int))) := by
  rw [← Bool.decide_and]
  apply decide_eq_decide.mpr
  constructor
  · intro e; subst e; exact ⟨rfl, rfl⟩
  · intro ⟨e1, e2⟩
    exact Rat.ext e1 (by omega)
end PL
namespace PL
open PySem PySem.Spec PyProof.Rows L2
theorem okMul_small (i : Int) {j : Int} (h : j.natAbs < 2 ^ 64) : okMul i j = true := by
  unfold okMul
  rw [Bool.or_eq_true_iff, Bool.or_eq_true_iff]
  exact .inr (.inl (decide_eq_true h))
theorem okMul_smallL {i : Int} (j : Int) (h : i.natAbs < 2 ^ 64) : okMul i j = true := by
  unfold okMul
  rw [Bool.or_eq_true_iff]
  exact .inl (decide_eq_true h)
end PL
set_option maxHeartbeats 1000000
namespace PL
open PySem PySem.Spec PyProof.Rows L2
section
variable {X : Cx} {J : Jx} {ω ω' ωb ωc : List Nat} {pos : Pos}
end
end PL
set_option maxHeartbeats 1000000
namespace PL
open PySem PySem.Spec PyProof.Rows L2
theorem kit_ct {K : PySem.W.Frag} {D : Addr} {T : String} {b : Bool} (hm : PySem.W.subIn K (.ref D) (.type T) = some b) (hk : PySem.W.kitMeta T = true) : PySem.W.kitOne K (.ref D) (.type T) = some b := by
  show (if (Value.ref D == Value.type T) = true then some true else if PySem.W.kitMeta T = true then PySem.W.subIn K (.ref D) (.type T) else none) = some b
  rw [if_neg (by simp), if_pos hk]
  exact hm
theorem kit_tc {K : PySem.W.Frag} {C : Addr} {T : String} {b : Bool} (hc : PySem.W.isClsIn K C = true) (ht : PySem.W.typeIn K (.ref C) = some (.type "type")) (hm : PySem.W.subIn K (.type T) (.ref C) = some b) : PySem.W.kitOne K (.type T) (.ref C) = some b := by
  have hc : (PySem.W.clsIn K C).isSome = true := hc
  show (if (Value.type T == Value.ref C) = true then some true else if ((PySem.W.clsIn K C).isSome && PySem.W.typeIn K (.ref C) == some (.type "type")) = true then PySem.W.subIn K (.type T) (.ref C) else none) = some b
  rw [if_neg (by simp), if_pos (by rw [hc, ht]; rfl)]
  exact hm
theorem kit_cc {K : PySem.W.Frag} {C : Addr} : PySem.W.kitOne K (.ref C) (.ref C) = some true := by
  unfold PySem.W.kitOne
  rw [if_pos (by simp)]
theorem kit_cd {K : PySem.W.Frag} {C D : Addr} {b : Bool} (hne : C ≠ D) (hc : PySem.W.isClsIn K C = true) (ht : PySem.W.typeIn K (.ref C) = some (.type "type")) (hm : PySem.W.subIn K (.ref D) (.ref C) = some b) : PySem.W.kitOne K (.ref D) (.ref C) = some b := by
  have hc : (PySem.W.clsIn K C).isSome = true := hc
  show (if (Value.ref D == Value.ref C) = true then some true else if ((PySem.W.clsIn K C).isSome && PySem.W.typeIn K (.ref C) == some (.type "type")) = true then PySem.W.subIn K (.ref D) (.ref C) else none) = some b
  rw [if_neg (by simpa using fun e => hne e.symm), if_pos (by rw [hc, ht]; rfl)]
  exact hm
structure ClF (K : PySem.W.Frag) (C : Addr) : Prop where
  ins : InsF K C
  cl : PySem.W.isClsIn K C = true
  ty : PySem.W.typeIn K (.ref C) = some (.type "type")
  s : ∀ T ∈ (["int", "bool", "str", "list", "tuple"] : List String), PySem.W.subIn K (.ref C) (.type T) = some false
structure IsF (K : PySem.W.Frag) (G : Gam) : Prop where
  rat : ClF K G.rc
  obj : ∀ c, G.has c = true → ClF K (G.cls c).1
  ro : ∀ c, G.has c = true → G.rc ≠ (G.cls c).1 ∧ PySem.W.subIn K (.ref G.rc) (.ref (G.cls c).1) = some false ∧ PySem.W.subIn K (.ref (G.cls c).1) (.ref G.rc) = some false
  oo : ∀ c e, G.has c = true → G.has e = true → c ≠ e → (G.cls c).1 ≠ (G.cls e).1 ∧ PySem.W.subIn K (.ref (G.cls c).1) (.ref (G.cls e).1) = some false
theorem sub_tc {K : PySem.W.Frag} {C : Addr} {T : String} (h : T = "NoneType" ∨ T = "bool" ∨ T = "int" ∨ T = "str" ∨ T = "tuple" ∨ T = "list") : PySem.W.subIn K (.type T) (.ref C) = some false := by
  rcases h with rfl | rfl | rfl | rfl | rfl | rfl <;> rfl
def Tg.s : Tg → Option String
  | .int => some "int"
  | .bool => some "bool"
  | .str => some "str"
  | .list => some "list"
  | .tuple => some "tuple"
  | _ => none
theorem isK_of {K : PySem.W.Frag} {G : Gam} (F : IsF K G) : IsK K G := by
  refine ⟨F.rat.ins, fun c h => (F.obj c h).ins, fun d t ho hd ht => ?_⟩
  have tt : ∀ a b r, kitB a b = some r → PySem.W.kitOne K (.type a) (.type b) = some r := fun a b r h => kit_ty h
  cases d with
  | non =>
    cases t with
    | int => exact tt "NoneType" "int" false (by decide +kernel)
    | bool => exact tt "NoneType" "bool" false (by decide +kernel)
    | str => exact tt "NoneType" "str" false (by decide +kernel)
    | list => exact tt "NoneType" "list" false (by decide +kernel)
    | tuple => exact tt "NoneType" "tuple" false (by decide +kernel)
    | rat => exact kit_tc (T := "NoneType") F.rat.cl F.rat.ty (sub_tc (.inl rfl))
    | obj c => exact kit_tc (T := "NoneType") (F.obj c (ht c rfl)).cl (F.obj c (ht c rfl)).ty (sub_tc (.inl rfl))
  | bl b =>
    cases t with
    | int => exact tt "bool" "int" true (by decide +kernel)
    | bool => exact tt "bool" "bool" true (by decide +kernel)
    | str => exact tt "bool" "str" false (by decide +kernel)
    | list => exact tt "bool" "list" false (by decide +kernel)
    | tuple => exact tt "bool" "tuple" false (by decide +kernel)
    | rat => exact kit_tc (T := "bool") F.rat.cl F.rat.ty (sub_tc (.inr (.inl rfl)))
    | obj c => exact kit_tc (T := "bool") (F.obj c (ht c rfl)).cl (F.obj c (ht c rfl)).ty (sub_tc (.inr (.inl rfl)))
  | int b =>
    cases t with
    | int => exact tt "int" "int" true (by decide +kernel)
    | bool => exact tt "int" "bool" false (by decide +kernel)
    | str => exact tt "int" "str" false (by decide +kernel)
    | list => exact tt "int" "list" false (by decide +kernel)
    | tuple => exact tt "int" "tuple" false (by decide +kernel)
    | rat => exact kit_tc (T := "int") F.rat.cl F.rat.ty (sub_tc (.inr (.inr (.inl rfl))))
    | obj c => exact kit_tc (T := "int") (F.obj c (ht c rfl)).cl (F.obj c (ht c rfl)).ty (sub_tc (.inr (.inr (.inl rfl))))
  | str b =>
    cases t with
    | int => exact tt "str" "int" false (by decide +kernel)
    | bool => exact tt "str" "bool" false (by decide +kernel)
    | str => exact tt "str" "str" true (by decide +kernel)
    | list => exact tt "str" "list" false (by decide +kernel)
    | tuple => exact tt "str" "tuple" false (by decide +kernel)
    | rat => exact kit_tc (T := "str") F.rat.cl F.rat.ty (sub_tc (.inr (.inr (.inr (.inl rfl)))))
    | obj c => exact kit_tc (T := "str") (F.obj c (ht c rfl)).cl (F.obj c (ht c rfl)).ty (sub_tc (.inr (.inr (.inr (.inl rfl)))))
  | tup b =>
    cases t with
    | int => exact tt "tuple" "int" false (by decide +kernel)
    | bool => exact tt "tuple" "bool" false (by decide +kernel)
    | str => exact tt "tuple" "str" false (by decide +kernel)
    | list => exact tt "tuple" "list" false (by decide +kernel)
    | tuple => exact tt "tuple" "tuple" true (by decide +kernel)
    | rat => exact kit_tc (T := "tuple") F.rat.cl F.rat.ty (sub_tc (.inr (.inr (.inr (.inr (.inl rfl))))))
    | obj c => exact kit_tc (T := "tuple") (F.obj c (ht c rfl)).cl (F.obj c (ht c rfl)).ty (sub_tc (.inr (.inr (.inr (.inr (.inl rfl))))))
  | lst b =>
    cases t with
    | int => exact tt "list" "int" false (by decide +kernel)
    | bool => exact tt "list" "bool" false (by decide +kernel)
    | str => exact tt "list" "str" false (by decide +kernel)
    | list => exact tt "list" "list" true (by decide +kernel)
    | tuple => exact tt "list" "tuple" false (by decide +kernel)
    | rat => exact kit_tc (T := "list") F.rat.cl F.rat.ty (sub_tc (.inr (.inr (.inr (.inr (.inr rfl))))))
    | obj c => exact kit_tc (T := "list") (F.obj c (ht c rfl)).cl (F.obj c (ht c rfl)).ty (sub_tc (.inr (.inr (.inr (.inr (.inr rfl))))))
  | st => cases ho
  | adr a => cases ho
  | rat q =>
    cases t with
    | int => exact kit_ct (T := "int") (F.rat.s _ (by decide)) (by decide +kernel)
    | bool => exact kit_ct (T := "bool") (F.rat.s _ (by decide)) (by decide +kernel)
    | str => exact kit_ct (T := "str") (F.rat.s _ (by decide)) (by decide +kernel)
    | list => exact kit_ct (T := "list") (F.rat.s _ (by decide)) (by decide +kernel)
    | tuple => exact kit_ct (T := "tuple") (F.rat.s _ (by decide)) (by decide +kernel)
    | rat => exact kit_cc
    | obj c => exact kit_cd (Ne.symm (F.ro c (ht c rfl)).1) (F.obj c (ht c rfl)).cl (F.obj c (ht c rfl)).ty (F.ro c (ht c rfl)).2.1
  | obj c l =>
    have hc : G.has c = true := hd c _ rfl
    cases t with
    | rat => exact kit_cd (F.ro _ hc).1 F.rat.cl F.rat.ty (F.ro _ hc).2.2
    | obj e =>
      have he := ht e rfl
      by_cases q : e = c
      · subst q
        show PySem.W.kitOne K (.ref (G.cls e).1) (.ref (G.cls e).1) = some (e == e)
        rw [beq_self_eq_true]
        exact kit_cc
      · show PySem.W.kitOne K (.ref (G.cls c).1) (.ref (G.cls e).1) = some (e == c)
        rw [show (e == c) = false by simpa using q]
        exact kit_cd (F.oo e c he hc q).1 (F.obj e he).cl (F.obj e he).ty (F.oo c e hc he (Ne.symm q)).2
    | int => exact kit_ct (T := "int") ((F.obj c hc).s _ (by decide)) (by decide +kernel)
    | bool => exact kit_ct (T := "bool") ((F.obj c hc).s _ (by decide)) (by decide +kernel)
    | str => exact kit_ct (T := "str") ((F.obj c hc).s _ (by decide)) (by decide +kernel)
    | list => exact kit_ct (T := "list") ((F.obj c hc).s _ (by decide)) (by decide +kernel)
    | tuple => exact kit_ct (T := "tuple") ((F.obj c hc).s _ (by decide)) (by decide +kernel)
end PL
namespace PL
open PySem PySem.Spec PyProof.Rows L2
end PL
namespace PL
theorem all6 {P : String → Prop} (h1 : P "NoneType") (h2 : P "bool") (h3 : P "int") (h4 : P "str") (h5 : P "tuple") (h6 : P "list") : ∀ n ∈ (["NoneType", "bool", "int", "str", "tuple", "list"] : List String), P n := by
  intro n hn
  simp only [List.mem_cons, List.not_mem_nil, or_false] at hn
  rcases hn with rfl | rfl | rfl | rfl | rfl | rfl <;> assumption
theorem all5 {P : String → Prop} (h1 : P "int") (h2 : P "bool") (h3 : P "str") (h4 : P "list") (h5 : P "tuple") : ∀ n ∈ (["int", "bool", "str", "list", "tuple"] : List String), P n := by
  intro n hn
  simp only [List.mem_cons, List.not_mem_nil, or_false] at hn
  rcases hn with rfl | rfl | rfl | rfl | rfl <;> assumption
end PL
set_option maxHeartbeats 1000000
namespace PL
open PySem PySem.Spec PyProof.Rows L2
section
variable {s : DS} {a b c : D} {x y : Int}
theorem d_st0 : dIdx .st (.int 0) s = .ok (.int s.1) s := rfl
theorem d_st1 : dIdx .st (.int 1) s = .ok (.int s.2) s := rfl
theorem d_t20 : dIdx (.tup [a, b]) (.int 0) s = .ok a s := rfl
theorem d_t21 : dIdx (.tup [a, b]) (.int 1) s = .ok b s := rfl
theorem d_not {p : Bool} : dNot (.bl p) s = .ok (.bl (!p)) s := rfl
theorem d_isB {p q n : Bool} : dIsB n (.bl p) (.bl q) s = .ok (.bl (if n then !decide (p = q) else decide (p = q))) s := rfl
theorem d_pow {x y : Int} : dPow (.int x) (.int y) s = if (decide (0 ≤ y) && (decide (y ≤ 1000) && decide (x.natAbs < 2 ^ 64))) = true then .ok (.int (x ^ y.toNat)) s else .bad := by
  show (if _ then (pure (.int (x ^ y.toNat)) : M D) else bad) s = _
  rw [a_ite]; rfl
end
def ratT (q : Rat) : D := .tup [.int q.num, .int (q.den : Int)]
section
variable {s : DS} {p q : Rat}
theorem d_rt0 : dIdx (ratT q) (.int 0) s = .ok (.int q.num) s := rfl
theorem d_rt1 : dIdx (ratT q) (.int 1) s = .ok (.int (q.den : Int)) s := rfl
end
section
variable {p q : Rat}
theorem pos_num : decide (0 < p.num) = decide (0 < p) := decide_eq_decide.mpr (by rw [Rat.lt_iff]; simp)
theorem neg_num : decide (p.num < 0) = decide (p < 0) := decide_eq_decide.mpr (by rw [Rat.lt_iff]; simp)
end
end PL
set_option maxHeartbeats 1000000
namespace PL
open PySem PySem.Spec PyProof.Rows L2
section
variable {s : DS} {p q : Rat}
theorem eq_t2 (a b c d : Int) : eqQ 6 (.tup [.int a, .int b]) (.tup [.int c, .int d]) = some (decide (a = c) && decide (b = d)) := by
  by_cases h1 : a = c <;> by_cases h2 : b = d <;> simp [eqQ, eqQs, flatD, eqF_int, h1, h2]
theorem d_eqT2 {a b c d : Int} : dEq (.tup [.int a, .int b]) (.tup [.int c, .int d]) s = .ok (.bl (decide (a = c) && decide (b = d))) s := by
  unfold dEq
  rw [eq_t2]
  rfl
theorem d_neT2 {a b c d : Int} : dNe (.tup [.int a, .int b]) (.tup [.int c, .int d]) s = .ok (.bl (!(decide (a = c) && decide (b = d)))) s := by
  unfold dNe
  rw [eq_t2]
  rfl
theorem d_eqRT : dEq (ratT p) (ratT q) s = .ok (.bl (decide (p = q))) s := by
  unfold ratT
  rw [d_eqT2, rat_dec]
theorem d_neRT : dNe (ratT p) (ratT q) s = .ok (.bl (!decide (p = q))) s := by
  unfold ratT
  rw [d_neT2, rat_dec]
theorem d_neTR : dNe (.tup [.int p.num, .int (p.den : Int)]) (ratT q) s = .ok (.bl (!decide (p = q))) s := d_neRT
theorem d_eqR : dEq (.rat p) (.rat q) s = .ok (.bl (decide (p = q))) s := rfl
theorem d_neR : dNe (.rat p) (.rat q) s = .ok (.bl (!decide (p = q))) s := rfl
theorem d_eqRi {i : Int} : dEq (.rat p) (.int i) s = .ok (.bl false) s := rfl
theorem d_eqRn : dEq (.rat p) .non s = .ok (.bl false) s := rfl
theorem d_eqRs {i : Str} : dEq (.rat p) (.str i) s = .ok (.bl false) s := rfl
theorem d_eqRb {i : Bool} : dEq (.rat p) (.bl i) s = .ok (.bl false) s := rfl
theorem d_eqRt {i : List D} : dEq (.rat p) (.tup i) s = .ok (.bl false) s := rfl
theorem d_eqRl {i : List D} : dEq (.rat p) (.lst i) s = .ok (.bl false) s := rfl
theorem d_neI {i j : Int} : dNe (.int i) (.int j) s = .ok (.bl (!decide (i = j))) s := rfl
theorem d_eqI {i j : Int} : dEq (.int i) (.int j) s = .ok (.bl (decide (i = j))) s := rfl
theorem d_neB {i j : Bool} : dNe (.bl i) (.bl j) s = .ok (.bl (!decide (i = j))) s := rfl
theorem d_lenL {l : List D} : dLen (.lst l) s = .ok (.int l.length) s := rfl
theorem d_lenT {l : List D} : dLen (.tup l) s = .ok (.int l.length) s := rfl
end
def RS.loop (x : RS) (f : En → DS → RS) : RS := match x with
  | .go .nx ρ s => f ρ s
  | .go .ct ρ s => f ρ s
  | .go .bk ρ s => .go .nx ρ s
  | r => r
section
variable {ρ : En} {s : DS} {g : D → En → Option En} {b : SX} {x y : EX}
theorem lp_nx {f : En → DS → RS} : RS.loop (.go .nx ρ s) f = f ρ s := (rfl)
theorem lp_ct {f : En → DS → RS} : RS.loop (.go .ct ρ s) f = f ρ s := (rfl)
theorem lp_bk {f : En → DS → RS} : RS.loop (.go .bk ρ s) f = .go .nx ρ s := (rfl)
theorem lp_rt {f : En → DS → RS} {d : D} : RS.loop (.go (.rt d) ρ s) f = .go (.rt d) ρ s := (rfl)
theorem lp_err {f : En → DS → RS} {e : Exn} : RS.loop (.err e ρ s) f = .err e ρ s := (rfl)
theorem lp_bad {f : En → DS → RS} : RS.loop .bad f = .bad := (rfl)
theorem fl_cons {i : Nat} {d : D} {l : List D} : forL (gSet i) b (d :: l) ρ s = RS.loop (b (ρ.set i (some d)) s) (forL (gSet i) b l) := by
  show (match b (ρ.set i (some d)) s with | .go .nx ρ2 s2 => _ | .go .ct ρ2 s2 => _ | .go .bk ρ2 s2 => _ | r => r) = _
  cases b (ρ.set i (some d)) s with
  | go fl _ _ => cases fl <;> rfl
  | _ => rfl
theorem a_for : sFor x g b ρ s = RE (x ρ s) ρ fun d s1 => match itemsOf d with | some l => forL g b l ρ s1 | none => .bad := by
  show RE (x ρ s) ρ _ = _
  congr 1
  funext d s1
  show (match itemsOf d with | some l => forL g b l | none => fun _ _ => RS.bad) ρ s1 = _
  cases itemsOf d <;> rfl
theorem a_forR1 : sForR1 x g b ρ s = RE (x ρ s) ρ fun d s1 => match d with | .int n => if small62 n = true then forL g b (rangeL 0 n) ρ s1 else .bad | _ => .bad := by
  show RE (x ρ s) ρ _ = _
  congr 1
  funext d s1
  cases d <;> first | rfl | skip
  rename_i n
  show (if small62 n = true then forL g b (rangeL 0 n) else fun _ _ => RS.bad) ρ s1 = (if small62 n = true then forL g b (rangeL 0 n) ρ s1 else .bad)
  by_cases c : small62 n = true
  · rw [if_pos c, if_pos c]
  · rw [if_neg c, if_neg c]
theorem items_l {l : List D} : itemsOf (.lst l) = some l := rfl
theorem items_t {l : List D} : itemsOf (.tup l) = some l := rfl
end
theorem log_of {d : Int} {k : Nat} (h : d.natAbs < 2 ^ k) (hk : k < 9000) : d.natAbs.log2 < 9000 := by
  have := log2_lt_of h
  omega
end PL
set_option maxHeartbeats 1000000
namespace PL
open PySem PySem.Spec PyProof.Rows L2
def IterOf (G : Gam) (H : Hp) (l : List D) (J0 : It) : Prop := ∃ (xs : List V) (good : Hp → Prop), good H ∧ (∀ H H', Ex H H' → good H → good H') ∧ (∀ i H, good H → i < xs.length → J0.go i H) ∧ (∀ i H x H', good H → i < xs.length → J0.yld i H x H' → H' = H ∧ xs[i]? = some x) ∧
  (∀ H, good H → J0.stop xs.length H) ∧ RepL G H l xs
def κI (G : Gam) : Hp → List D → It → Hp → Prop := fun _ l J0 H' => IterOf G H' l J0
abbrev SrcJ (X : Cx) (J : Jx) (ω : List Nat) (tg iter : Expr) (src : En → M (List D)) : Prop := PI X tg iter (tG (β := It) J ω (κI J.G) src)
theorem _root_.L2.PI.imp {X : Cx} {tg e : Expr} {t t' : TI} (h : PI X tg e t) (i : ∀ σ H R, t' σ H R → t σ H R) : PI X tg e t' := ⟨fun pins s σ H Q I q => h.run pins s σ H Q I (i σ H Q q)⟩
def srcSeq (e : EX) : En → M (List D) := fun ρ => do
  let d ← e ρ
  match itemsOf d with
  | some l => pure l
  | none => bad
def srcR1 (a : EX) : En → M (List D) := fun ρ => do
  let d ← a ρ
  match d with
  | .int n => if small62 n = true then pure (rangeL 0 n) else bad
  | _ => bad
def srcR2 (a b : EX) : En → M (List D) := fun ρ => do
  let d ← a ρ
  let e ← b ρ
  match d, e with
  | .int m, .int n => if (small62 m && small62 n) = true then pure (rangeL m n) else bad
  | _, _ => bad
section
variable {X : Cx} {J : Jx} {ω ω1 ω' ωb ωc : List Nat} {e tg iter : Expr} {fe : EX} {pos : Pos}
theorem src_seq (ok : Ok X J) (he : EJ X J ω e fe) : SrcJ X J ω tg e (srcSeq fe) := (pi_seq he).imp fun σ H R ⟨ρ, s, r, q⟩ => by
  refine tG.step r q fun v H1 d s1 g1 r1 k q1 => ?_
  cases ei : itemsOf d with
  | none => rw [ei] at q1; exact q1.elim
  | some l =>
    rw [ei] at q1
    obtain ⟨a, xs, rfl, rl, h⟩ := seq_it (K := J.G.K) rfl k ei
    rcases h with ⟨_, hf⟩ | ⟨_, hf⟩
    · refine .inl ⟨a, rfl, ⟨xs, by rw [ok.K]; exact hf.seq⟩, q1 _ H1 g1 r1.st ?_⟩
      exact ⟨xs, fun H => FzL J.G.K H a xs, hf, fun H H' e h => h.mono e, fun i H gh hi => ⟨xs, xs[i], by rw [ok.K]; exact gh.seq, by simp [hi]⟩,
        fun i H x H' gh _ y => ⟨y.1, y.2 xs (by rw [ok.K]; exact gh.seq)⟩, fun H gh => ⟨xs, by rw [ok.K]; exact gh.seq, Nat.le_refl _⟩, rl⟩
    · refine .inr ⟨a, rfl, ⟨xs, by rw [ok.K]; exact hf.seq⟩, q1 _ H1 g1 r1.st ?_⟩
      exact ⟨xs, fun H => FzT J.G.K H a xs, hf, fun H H' e h => h.mono e, fun i H gh hi => ⟨xs, xs[i], by rw [ok.K]; exact gh.seq, by simp [hi]⟩,
        fun i H x H' gh _ y => ⟨y.1, y.2 xs (by rw [ok.K]; exact gh.seq)⟩, fun H gh => ⟨xs, by rw [ok.K]; exact gh.seq, Nat.le_refl _⟩, rl⟩
theorem range_iter {G : Gam} {H : Hp} {lo hi : Int} : IterOf G H (rangeL lo hi) (Itr lo (hi - lo).toNat) := by
  refine ⟨(List.range (hi - lo).toNat).map fun (i : Nat) => V.int (lo + i), fun _ => True, trivial, fun _ _ _ _ => trivial, fun i H _ h => ?_, fun i H x H' _ h y => ?_, fun H _ => ?_, rangeL_rep⟩
  · show i < (hi - lo).toNat
    simpa using h
  · obtain ⟨y1, y2⟩ := y
    refine ⟨y1, ?_⟩
    have : i < (hi - lo).toNat := by simpa using h
    rw [List.getElem?_map, List.getElem?_range this, y2]
    rfl
  · show (hi - lo).toNat ≤ _
    simp
theorem src_r1 {a : Expr} {fa : EX} {p pos' : Pos} (hG : Gl X "range") (hm : X.mg "range" = none) (ha : EJ X J ω a fa) (hs1 : starEach [a] X.env = [(false, eval a X.env)] := by rfl) :
    SrcJ X J ω tg (.Call (.Name "range" p) [a] [] pos') (srcR1 fa) := (pi_range1 hG hm (pa_cons ha pa_nil hs1) hs1).imp fun σ H R ⟨ρ, s, r, q⟩ => by
  refine tG.step r q fun v H1 d s1 g1 r1 k q1 => ?_
  cases d with
  | int n =>
    have k : v = .int n := by simpa only [κV, Rep] using k
    have q2 : Post J σ H (κI J.G H) R ((if small62 n = true then pure (rangeL 0 n) else bad : M (List D)) s1) := q1
    by_cases c : small62 n = true
    · rw [if_pos c] at q2
      obtain ⟨c1, c2⟩ := small62_iff.mp c
      have e : (n : Int).toNat = (n - 0).toNat := by rw [Int.sub_zero]
      exact ⟨n, by rw [k], c1, c2, by
        have := q2 (Itr 0 (n - 0).toNat) H1 g1 r1.st range_iter
        rw [Int.sub_zero] at this
        exact this⟩
    · rw [if_neg c] at q2
      exact q2.elim
  | _ => exact q1.elim
end
end PL
set_option maxHeartbeats 1000000
namespace PL
open PySem PySem.Spec PyProof.Rows L2
def wipeE (ρ : En) : List Nat → En
  | [] => ρ
  | v :: vs => (wipeE ρ vs).set v none
def noErr {α : Type} (x : M α) : M α := fun s => match x s with
  | .err _ _ => .bad
  | r => r
def compA (g : D → En → Option En) (t : En → M Bool) (e : EX) (ρ0 : En) : List D → List D → M D
  | acc, [] => pure (.lst acc)
  | acc, d :: l => match g d ρ0 with
    | none => bad
    | some ρ1 => do
      let b ← noErr (t ρ1)
      if b = true then do
        let x ← noErr (e ρ1)
        compA g t e ρ0 (acc ++ [x]) l
      else compA g t e ρ0 acc l
def cComp (src : En → M (List D)) (g : D → En → Option En) (t : En → M Bool) (e : EX) (vs : List Nat) : EX := fun ρ => do
  let l ← src ρ
  if l.length ≤ 1000000 then compA g t e (wipeE ρ vs) [] l else bad
theorem wipe_get {σ : St} {j : Nat} : ∀ {vs : List Nat}, (wipe σ vs)[j]? = if j ∈ vs then (if j < σ.length then some none else none) else σ[j]?
  | [] => by simp [wipe]
  | v :: vs => by
    unfold wipe
    rw [List.getElem?_set, wipe_length, wipe_get]
    by_cases h : v = j
    · subst h; simp
    · have h2 : j ≠ v := fun e => h e.symm
      simp [h, h2]
theorem wipe_wipe {σ : St} {vs : List Nat} : wipe (wipe σ vs) vs = wipe σ vs := by
  apply List.ext_getElem?
  intro j
  rw [wipe_get, wipe_length, wipe_get]
  by_cases h : j ∈ vs <;> simp [h]
theorem wipe_set {σ : St} {vs : List Nat} {i : Nat} {x : Option V} (h : i ∈ vs) : wipe (σ.set i x) vs = wipe σ vs := by
  apply List.ext_getElem?
  intro j
  rw [wipe_get, wipe_get, List.length_set, List.getElem?_set]
  by_cases hj : j ∈ vs
  · simp [hj]
  · have : i ≠ j := fun e => hj (by rw [← e]; exact h)
    simp [hj, this]
section
variable {G : Gam} {H0 H : Hp} {ω ω1 ω2 : List Nat} {s : DS} {σ : St} {ρ : En}
theorem RepS.forget (r : RepS G H0 ω s H σ ρ) (v : Nat) : RepS G H0 ω s H (σ.set v none) (ρ.set v none) := by
  obtain ⟨F, h1, h2, h3, h4⟩ := r.sl
  refine ⟨r.gr, r.st, by simp [r.len], F, fun i d e => ?_, h2, h3, h4⟩
  by_cases hv : v = i
  · subst hv
    rw [List.getElem?_set] at e
    simp at e
  · rw [List.getElem?_set_ne hv] at e
    obtain ⟨w, e1, q⟩ := h1 i d e
    exact ⟨w, by rw [List.getElem?_set_ne hv]; exact e1, q⟩
theorem RepS.wipe (r : RepS G H0 ω s H σ ρ) : ∀ vs : List Nat, RepS G H0 ω s H (L2.wipe σ vs) (wipeE ρ vs)
  | [] => r
  | v :: vs => (RepS.wipe r vs).forget v
def GS (G : Gam) (H0 : Hp) (ω ω1 : List Nat) (gt : TG) (g : D → En → Option En) (vs : List Nat) : Prop := ∀ v d σ H ρ s ρ' Q, RepS G H0 ω s H σ ρ → Rep G H d v → g d ρ = some ρ' → (∀ σ', RepS G H0 ω1 s H σ' ρ' → L2.wipe σ' vs = L2.wipe σ vs → Q σ' H) → gt v σ H Q
theorem gs_set {i : Nat} {vs : List Nat} (h : i ∈ vs := by decide) : GS G H0 ω (ω.set i 0) (gName i) (gSet i) vs := fun v d σ H ρ s ρ' Q r k e q => by
  cases e
  exact q _ (r.put0 k) (wipe_set h)
def GSs (G : Gam) (H0 : Hp) (ω ω1 : List Nat) (gt : List V → St → Hp → (St → Hp → Prop) → Prop) (g : List D → En → Option En) (vs : List Nat) : Prop := ∀ ws ds σ H ρ s ρ' Q, RepS G H0 ω s H σ ρ → RepL G H ds ws → g ds ρ = some ρ' → (∀ σ', RepS G H0 ω1 s H σ' ρ' → L2.wipe σ' vs = L2.wipe σ vs → Q σ' H) → gt ws σ H Q
theorem gss_nil {vs : List Nat} : GSs G H0 ω ω gNil gsNil vs := fun ws ds σ H ρ s ρ' Q r k e q => by
  cases ds with
  | nil =>
    simp only [RepL] at k
    cases e
    exact ⟨k, q σ r rfl⟩
  | cons => cases e
theorem gss_cons {gt1 : TG} {gt2} {g1 : D → En → Option En} {g2 : List D → En → Option En} {vs : List Nat} (h1 : GS G H0 ω ω1 gt1 g1 vs) (h2 : GSs G H0 ω1 ω2 gt2 g2 vs) : GSs G H0 ω ω2 (gCons gt1 gt2) (gsCons g1 g2) vs := fun ws ds σ H ρ s ρ' Q r k e q => by
  cases ds with
  | nil => cases e
  | cons d l =>
    simp only [RepL] at k
    obtain ⟨v, vs, rfl, k1, k2⟩ := k
    have e : (g1 d ρ).bind (g2 l) = some ρ' := e
    cases e1 : g1 d ρ with
    | none => rw [e1] at e; cases e
    | some ρ1 =>
      rw [e1] at e
      exact ⟨v, vs, rfl, h1 v d σ H ρ s ρ1 _ r k1 e1 fun σ1 r1 w1 => h2 vs l σ1 H ρ1 s ρ' _ r1 k2 e fun σ2 r2 w2 => q σ2 r2 (w2.trans w1)⟩
theorem gs_tup {gt} {g : List D → En → Option En} {vs : List Nat} {n : Nat} {K : PySem.W.Frag} (hK : K = G.K) (h : GSs G H0 ω ω1 gt g vs) : GS G H0 ω ω1 (gTup K n gt) (gTupD n g) vs := fun v d σ H ρ s ρ' Q r kk e q' => by
  cases d with
  | tup l =>
    simp only [Rep] at kk
    obtain ⟨a, xs, rfl, hq, rl⟩ := kk
    have e : (if l.length = n then g l ρ else none) = some ρ' := e
    by_cases c : l.length = n
    · simp only [c, if_true] at e
      exact ⟨a, xs, rfl, by rw [hK]; exact hq.seq, by rw [rl.length, c], h xs l σ H ρ s ρ' Q r rl e q'⟩
    · simp only [c, if_false] at e; cases e
  | _ => cases e
end
theorem noErr_ok {α : Type} {x : M α} {s s' : DS} {a : α} (h : x s = .ok a s') : noErr x s = .ok a s' := by unfold noErr; rw [h]
theorem noErr_err {α : Type} {x : M α} {s s' : DS} {e : Exn} (h : x s = .err e s') : noErr x s = .bad := by unfold noErr; rw [h]
theorem noErr_bad {α : Type} {x : M α} {s : DS} (h : x s = .bad) : noErr x s = .bad := by unfold noErr; rw [h]
theorem takes_no {X : Cx} : Takes X (fun _ _ _ _ => False) := fun _ _ ⟨_, _, _, _, _, _, _, _, _, _, _, _, _, _, _, _, w⟩ => w.elim
theorem Ok.blk {X : Cx} {J : Jx} (ok : Ok X J) {s : Shared} {H : Hp} {sc : Scope} {ce : Env} {fp : List Addr} : Ok (X.blk s H sc ce fp) J.suite := ⟨ok.K, ok.calm, takes_no, ok.nd⟩
section
variable {X : Cx} {J : Jx} {ω ω1 : List Nat} {tg iter elt : Expr} {ifs : List Expr} {pos : Pos} {src : En → M (List D)} {gt : TG} {g : D → En → Option En} {t : En → M Bool} {e : EX} {scope : Scope} {own : List (Str × Nat)} {k : Nat}
theorem tLc_of {σ : St} {H : Hp} {Q : VK} {vs : List Nat} (gs : GS J.G J.H0 ω ω1 gt g vs) (h : tG J ω (κO J.G (k + 1)) (cComp src g t e vs) σ H Q) :
    tLc (tG (β := It) J ω (κI J.G) src) gt (tG J.suite ω1 κT t) (tG J.suite ω1 (κO J.G k) e) vs σ H Q := by
  obtain ⟨ρ, s, r, q⟩ := h
  refine tG.step r q fun J0 H1 l s1 g1 r1 k1 q1 A hA => ?_
  have hth : J.G.th ≠ some A := th_there r1.st hA
  obtain ⟨xs, good, gd0, gm, nxt, yl, stp, rl⟩ := k1
  have q1 : Post J σ H (κO J.G (k + 1) H) Q ((if l.length ≤ 1000000 then compA g t e (wipeE ρ vs) [] l else bad : M D) s1) := q1
  by_cases hl : l.length ≤ 1000000
  · rw [if_pos hl] at q1
    have hlen := rl.length
    refine ⟨fun i m H' => m = l.length - i ∧ i ≤ l.length ∧ Gr J.G H1 H' ∧ ∃ s acc ys Fs, StOk J.G s H' ∧ H' A = some (.lst ys) ∧ All3 (RepO J.G H' k) acc ys Fs ∧ Fs.flatten.Nodup ∧ (∀ a ∈ Fs.flatten, H1 a = none ∧ a ≠ A) ∧ acc.length ≤ i ∧
      Post J σ H (κO J.G (k + 1) H) Q (compA g t e (wipeE ρ vs) acc (l.drop i) s), ⟨l.length, by simp, Nat.zero_le _, Gr.new hA, s1, [], [], [], fun a e => by rw [upd_ne (ne_of_none (r1.st a e) hA)]; exact r1.st a e, upd_same, .nil, List.nodup_nil, fun a (m : a ∈ ([] : List Addr)) => (List.not_mem_nil m).elim, Nat.le_refl _, by simpa using q1⟩, ?_⟩
    rintro i m H2 ⟨rfl, hi, g2, s2, acc, ys, Fs, st2, hA2, p2, nd2, fr2, al2, q2⟩
    have gd2 := gm _ _ g2.imm gd0
    by_cases hlt : i < l.length
    · refine .inr ⟨nxt i H2 gd2 (by omega), fun H' => Gr J.G H1 H' ∧ ∃ s acc ys Fs, StOk J.G s H' ∧ H' A = some (.lst ys) ∧ All3 (RepO J.G H' k) acc ys Fs ∧ Fs.flatten.Nodup ∧ (∀ a ∈ Fs.flatten, H1 a = none ∧ a ≠ A) ∧ acc.length ≤ i + 1 ∧
        Post J σ H (κO J.G (k + 1) H) Q (compA g t e (wipeE ρ vs) acc (l.drop (i + 1)) s), fun H' z => ⟨l.length - (i + 1), by omega, rfl, hlt, z⟩, fun x H' y => ?_⟩
      obtain ⟨rfl, ex⟩ := yl i H2 x H' gd2 (by omega) y
      obtain ⟨d, ed, rd⟩ := (rl.mono g2.imm).get ex
      have edr : l.drop i = d :: l.drop (i + 1) := by
        rw [List.drop_eq_getElem_cons hlt]
        rw [List.getElem?_eq_getElem hlt] at ed
        cases ed; rfl
      rw [edr] at q2
      unfold compA at q2
      cases eg : g d (wipeE ρ vs) with
      | none => rw [eg] at q2; exact q2.elim
      | some ρ1 =>
        rw [eg] at q2
        refine gs x d (wipe σ vs) _ (wipeE ρ vs) s2 ρ1 _ ((r1.mono g2 st2).wipe vs) rd eg fun σ2 r2 hw => ⟨hw.trans wipe_wipe, ρ1, s2, r2, ?_⟩
        have q2 : Post J σ H (κO J.G (k + 1) H) Q (M.bnd (noErr (t ρ1)) (fun b => if b = true then M.bnd (noErr (e ρ1)) fun x => compA g t e (wipeE ρ vs) (acc ++ [x]) (l.drop (i + 1)) else compA g t e (wipeE ρ vs) acc (l.drop (i + 1))) s2) := q2
        unfold M.bnd at q2
        cases et : t ρ1 s2 with
        | err xn s3 => rw [noErr_err et] at q2; exact q2.elim
        | bad => rw [noErr_bad et] at q2; exact q2.elim
        | ok b s3 =>
          rw [noErr_ok et] at q2
          intro b' H3 g3 st3 kb
          obtain rfl : b = b' := kb
          have g23 := g2.trans g3
          have hA3 : H3 A = some (.lst ys) := g3.all A _ hth hA2
          have p3 : All3 (RepO J.G H3 k) acc ys Fs := p2.imp fun a b c m p => RepO.mono g3 (fun z hz => th_there r1.st (fr2 z (List.mem_flatten.mpr ⟨c, m, hz⟩)).1) p
          cases b with
          | false => exact ⟨g23, s3, acc, ys, Fs, st3, hA3, p3, nd2, fr2, by omega, q2⟩
          | true =>
            refine ⟨ρ1, s3, r2.mono g3 st3, ?_⟩
            have q2 : Post J σ H (κO J.G (k + 1) H) Q (M.bnd (noErr (e ρ1)) (fun x => compA g t e (wipeE ρ vs) (acc ++ [x]) (l.drop (i + 1))) s3) := q2
            unfold M.bnd at q2
            cases ee : e ρ1 s3 with
            | err xn s4 => rw [noErr_err ee] at q2; exact q2.elim
            | bad => rw [noErr_bad ee] at q2; exact q2.elim
            | ok dx s4 =>
              rw [noErr_ok ee] at q2
              intro y H4 g4 st4 ⟨F, pF, ndF, frF⟩
              have hA4 : H4 A = some (.lst ys) := g4.all A _ hth hA3
              have p4 : All3 (RepO J.G H4 k) acc ys Fs := p3.imp fun a b c m p => RepO.mono g4 (fun z hz => th_there r1.st (fr2 z (List.mem_flatten.mpr ⟨c, m, hz⟩)).1) p
              have hyl : ys.length = acc.length := p4.length.1
              have nF : ∀ z ∈ F, H1 z = none ∧ z ≠ A := fun z hz => ⟨g23.th z (frF z hz), fun ez => by have := frF z hz; rw [ez, hA3] at this; cases this⟩
              refine ⟨ys, hA4, by rw [hyl, sizeLine_eq]; omega, (g23.trans g4).upd hA, s4, acc ++ [dx], ys ++ [y], Fs ++ [F], fun a ea => ?_, upd_same, ?_, ?_, ?_, by simp; omega, q2⟩
              · rw [upd_ne (fun ez => hth (by rw [← ez]; exact ea))]
                exact st4 a ea
              · refine (p4.imp fun a b c m p => RepO.keep (imm_upd hA4) (fun z hz zs ez => ?_) p).append (.cons (RepO.keep (imm_upd hA4) (fun z hz zs ez => ?_) pF) .nil)
                · rw [upd_ne (fr2 z (List.mem_flatten.mpr ⟨c, m, hz⟩)).2]; exact ez
                · rw [upd_ne (nF z hz).2]; exact ez
              · rw [List.flatten_append]
                refine List.nodup_append.mpr ⟨nd2, by simpa using ndF, fun z hz w hw ezw => ?_⟩
                subst ezw
                have hw : z ∈ F := by simpa using hw
                obtain ⟨zs, ez⟩ := all3_lsts p3 z hz
                have := frF z hw
                rw [ez] at this; cases this
              · intro a ha
                rw [List.flatten_append, List.mem_append] at ha
                rcases ha with ha | ha
                · exact fr2 a ha
                · exact nF a (by simpa using ha)
    · have e : i = l.length := by omega
      subst e
      rw [List.drop_length] at q2
      refine .inl ⟨by rw [← hlen]; exact stp H2 gd2, q2 (.ref A) H2 (g1.trans g2) st2 ⟨A :: Fs.flatten, ⟨acc, A, ys, Fs, rfl, rfl, hA2, rfl, p2⟩, List.nodup_cons.mpr ⟨fun m => (fr2 A m).2 rfl, nd2⟩, fun a ha => ?_⟩⟩
      rcases List.mem_cons.mp ha with rfl | ha
      · exact g1.free hA
      · exact g1.free (fr2 a ha).1
  · rw [if_neg hl] at q1
    exact q1.elim
theorem o_comp (ok : Ok X J) (hsrc : SrcJ X J ω tg iter src) (bo : BlkOk X.N X.env.scope scope own)
    (hg : ∀ (s : Shared) (H : Hp) (C : Addr) (cl : List (Str × Addr)) (fp : List Addr), PG (X.blk s H scope (compEnvC scope cl C X.env) fp) tg gt) (gs : GS J.G J.H0 ω ω1 gt g (own.map (·.2)))
    (ht : ∀ (s : Shared) (H : Hp) (C : Addr) (cl : List (Str × Addr)) (fp : List Addr), PTs (X.blk s H scope (compEnvC scope cl C X.env) fp) ifs (tG J.suite ω1 κT t))
    (he : ∀ (s : Shared) (H : Hp) (C : Addr) (cl : List (Str × Addr)) (fp : List Addr), OJ (X.blk s H scope (compEnvC scope cl C X.env) fp) J.suite ω1 k elt e) (hs : ∀ x, foldedSetIterable iter X.env x = pure x := by intro _; rfl) :
    OJ X J ω (k + 1) (.ListComp elt [⟨tg, iter, ifs, 0⟩] scope pos) (cComp src g t e (own.map (·.2))) :=
  (pe_lc ok.calm ok.nd hsrc bo hg ht he hs).imp fun σ H Q h => tLc_of gs h
def tYesD : En → M Bool := fun _ => pure true
theorem pts_none {X : Cx} {J : Jx} : PTs X [] (tG J ω κT tYesD) := ⟨fun pins s σ H Q I ⟨ρ, ds, r, q⟩ => pts_nil.run pins s σ H Q I (q true H (Gr.refl _ _) r.st rfl)⟩
theorem pts_1 {X : Cx} {J : Jx} {c : Expr} (h : TJ X J ω c t) : PTs X [c] (tG J ω κT t) := pts_one h
end
end PL
set_option maxHeartbeats 1000000
namespace PL
open PySem PySem.Spec PyProof.Rows L2
section
variable {G : Gam} {H0 H H1 : Hp} {ω : List Nat} {s s1 : DS} {σ : St} {ρ : En}
theorem kd_put {ω : List Nat} {i k : Nat} (hk : k = 0 ∨ i < ω.length) : kd (ω.set i k) i = k := by
  rw [kd_set]
  rcases hk with hk | hk
  · subst hk
    by_cases hl : i < ω.length
    · simp [hl]
    · simp only [hl, and_false, if_false]
      unfold kd
      simp [List.getD_eq_getElem?_getD, List.getElem?_eq_none (Nat.le_of_not_lt hl)]
  · simp [hk]
theorem RepS.putN (r : RepS G H0 ω s H σ ρ) (g : Gr G H H1) (t : StOk G s1 H1) {i k : Nat} {d : D} {v : V} {Fi : List Addr} (hk : k = 0 ∨ i < ω.length) (q : RepO G H1 k d v Fi) (nd : Fi.Nodup) (fr : ∀ a ∈ Fi, H a = none) :
    RepS G H0 (ω.set i k) s1 H1 (σ.set i (some v)) (ρ.set i (some d)) := by
  obtain ⟨F, h1, h2, h3, h4⟩ := r.sl
  have there : ∀ j e, ρ[j]? = some (some e) → ∀ a ∈ F j, H a ≠ none := fun j e hj a ha => by
    obtain ⟨w, _, p⟩ := h1 j e hj
    obtain ⟨xs, e⟩ := p.lsts a ha
    rw [e]; simp
  refine ⟨r.gr.trans g, t, by simp [r.len], fun j => if j = i then Fi else (match ρ[j]? with | some (some _) => F j | _ => []), fun j e hj => ?_, fun j => ?_, fun j l a hjl hj hl => ?_, fun j a hj => ?_⟩
  · by_cases hji : i = j
    · subst hji
      by_cases hlt : i < ρ.length
      · rw [List.getElem?_set_self hlt] at hj
        obtain rfl : d = e := by simpa using hj
        refine ⟨v, by rw [List.getElem?_set_self (by rw [r.len]; exact hlt)], ?_⟩
        rw [kd_put hk]
        simpa using q
      · rw [List.getElem?_eq_none (by simpa using hlt)] at hj; cases hj
    · rw [List.getElem?_set_ne hji] at hj
      obtain ⟨w, e1, p⟩ := h1 j e hj
      refine ⟨w, by rw [List.getElem?_set_ne hji]; exact e1, ?_⟩
      rw [kd_set, if_neg (fun z => hji z.1)]
      simp only [if_neg (fun z : j = i => hji z.symm), hj]
      exact p.mono g fun a ha => (h4 j a ha).2
  · by_cases e : j = i
    · simp only [if_pos e]; exact nd
    · simp only [if_neg e]
      split
      · exact h2 j
      · exact List.nodup_nil
  · by_cases e : j = i
    · by_cases e2 : l = i
      · exact hjl (e.trans e2.symm)
      · simp only [if_pos e] at hj
        simp only [if_neg e2] at hl
        split at hl
        · rename_i x hx
          exact there l x hx a hl (fr a hj)
        · cases hl
    · simp only [if_neg e] at hj
      by_cases e2 : l = i
      · simp only [if_pos e2] at hl
        split at hj
        · rename_i x hx
          exact there j x hx a hj (fr a hl)
        · cases hj
      · simp only [if_neg e2] at hl
        split at hj
        · split at hl
          · exact h3 j l a hjl hj hl
          · cases hl
        · cases hj
  · by_cases e : j = i
    · simp only [if_pos e] at hj
      exact ⟨r.gr.th a (fr a hj), th_there r.st (fr a hj)⟩
    · simp only [if_neg e] at hj
      split at hj
      · exact h4 j a hj
      · cases hj
theorem RepS.freezeAt {X : Cx} {pins : List (Addr × Obj)} {sh : Shared} {σ' : St} (I : Inv X pins σ' H sh) (r : RepS G H0 ω s H σ ρ) (i : Nat) : ∃ H', Inv X pins σ' H' sh ∧ RepS G H0 (ω.set i 0) s H' σ ρ ∧ Ex H H' := by
  obtain ⟨F, h1, h2, h3, h4⟩ := r.sl
  cases hi : ρ[i]? with
  | none =>
    refine ⟨H, I, ⟨r.gr, r.st, r.len, F, fun j e hj => ?_, h2, h3, h4⟩, Ex.refl H⟩
    have hji : i ≠ j := fun e => by rw [e, hj] at hi; cases hi
    obtain ⟨w, e1, p⟩ := h1 j e hj
    exact ⟨w, e1, by rw [kd_set, if_neg (fun z => hji z.1)]; exact p⟩
  | some o =>
    cases o with
    | none =>
      refine ⟨H, I, ⟨r.gr, r.st, r.len, F, fun j e hj => ?_, h2, h3, h4⟩, Ex.refl H⟩
      have hji : i ≠ j := fun e => by rw [e, hj] at hi; cases hi
      obtain ⟨w, e1, p⟩ := h1 j e hj
      exact ⟨w, e1, by rw [kd_set, if_neg (fun z => hji z.1)]; exact p⟩
    | some d =>
      obtain ⟨v, ev, pv⟩ := h1 i d hi
      obtain ⟨H', I', k, fz⟩ := inv_freezeO I pv (h2 i)
      have ex := fz.ex pv.lsts
      refine ⟨H', I', ⟨⟨fun a o im e => ex a o im (r.gr.imm a o im e), fun a o nt e => ?_, fun a e => r.gr.th a (fz.non a e)⟩, fun a e => ?_, r.len, fun j => if j = i then [] else F j, fun j e hj => ?_, fun j => ?_, fun j l a hjl hj hl => ?_, fun j a hj => ?_⟩, ex⟩
      · rw [fz.out a fun m => by rw [(h4 i a m).1] at e; cases e]
        exact r.gr.all a o nt e
      · rw [fz.out a fun m => (h4 i a m).2 e]
        exact r.st a e
      · by_cases hji : i = j
        · subst hji
          rw [hi] at hj
          obtain rfl : d = e := by simpa using hj
          refine ⟨v, ev, ?_⟩
          rw [kd_put (.inl rfl)]
          simp only [if_true]
          exact ⟨rfl, k⟩
        · obtain ⟨w, e1, p⟩ := h1 j e hj
          refine ⟨w, e1, ?_⟩
          rw [kd_set, if_neg (fun z => hji z.1)]
          simp only [if_neg (fun z : j = i => hji z.symm)]
          exact p.keep ex fun a ha xs ea => by rw [fz.out a (h3 j i a (fun z => hji z.symm) ha)]; exact ea
      · by_cases e : j = i
        · simp only [if_pos e]; exact List.nodup_nil
        · simp only [if_neg e]; exact h2 j
      · by_cases e : j = i
        · simp only [if_pos e] at hj; cases hj
        · simp only [if_neg e] at hj
          by_cases e2 : l = i
          · simp only [if_pos e2] at hl; cases hl
          · simp only [if_neg e2] at hl
            exact h3 j l a hjl hj hl
      · by_cases e : j = i
        · simp only [if_pos e] at hj; cases hj
        · simp only [if_neg e] at hj
          exact h4 j a hj
end
section
variable {X : Cx} {J : Jx} {ω ω1 ω' ωb ωc : List Nat} {st : Stmt} {sts : List Stmt} {f : SX} {fe : EX} {te : TE} {e : Expr} {pos : Pos} {k : Nat}
theorem ss_freeze (i : Nat) (h : SsJ X J (ω.set i 0) ω' ωb ωc sts f) : SsJ X J ω ω' ωb ωc sts f := ⟨fun pins s σ H D I ⟨ρ, ds, r, q⟩ => by
  obtain ⟨H', I', r', ex⟩ := r.freezeAt I i
  exact h.run pins s σ H' D I' ⟨ρ, ds, r', q.mono ex⟩⟩
theorem s_setO' (hok : J.ok ω) (i : Nat) (ps : PS X st (tAsg te (gName i))) (red : ∀ σ H Q, tG J ω (κO J.G k) fe σ H Q → te σ H Q) (hl : k = 0 ∨ i < ω.length) : SJ X J ω (ω.set i k) ωb ωc st (sSet i fe) :=
  ps.imp fun D σ H h => red σ H _ (by
    obtain ⟨ρ, s, r, q⟩ := h
    refine ⟨ρ, s, r, ?_⟩
    unfold sSet sE at q
    cases ev : fe ρ s with
    | ok d s1 =>
      rw [ev] at q
      intro v H1 g t ⟨F, p, nd, fr⟩
      exact q _ _ g.imm (r.putN g t hl p nd fr)
    | err x s1 => rw [ev] at q; exact fun cls dc H' g t rx => q ω cls dc σ H' hok g.imm (r.mono g t) rx
    | bad => rw [ev] at q; exact q)
theorem s_setO (hok : J.ok ω) (i : Nat) {x : Str} {pos' : Pos} (ok : Ok X J) (he : OJ X J ω k e fe) (hl : k = 0 ∨ i < ω.length := by first | exact .inl rfl | exact .inr (by decide)) (hi : X.N[i]? = some x := by rfl) (hx : Loc X.env.scope x := by first | exact Or.inl rfl | exact Or.inr rfl) (hs : swapsWith e (some (.Name x pos')) pos.line X.env = pure false := by rfl)
    (hf : X.fn x = true ∨ X.env.scope.names.lookup x = some .local := by first | exact .inl rfl | exact .inr rfl) : SJ X J ω (ω.set i k) ωb ωc (.Assign [.Name x pos'] e pos) (sSet i fe) :=
  s_setO' hok i (ps_set ok.nd hi hx he hs hf) (fun _ _ _ h => h) hl
theorem s_setF' (hok : J.ok ω) (i : Nat) (ps : PS X st (tAsg te (gName i))) (red : ∀ σ H Q, tG J ω (κO J.G k) fe σ H Q → te σ H Q) : SJ X J ω (ω.set i 0) ωb ωc st (sSet i fe) := by
  refine ⟨fun pins s σ H D I h => ?_⟩
  obtain ⟨ρ, ds, r, q⟩ := h
  refine thn (ps.run pins s σ H { D with nx := fun σ' H' => ∃ v d s1, σ' = σ.set i (some v) ∧ Gr J.G H H' ∧ StOk J.G s1 H' ∧ κO J.G k H d v H' ∧ ∀ σ2 H2, Ex H H2 → RepS J.G J.H0 (ω.set i 0) s1 H2 σ2 (ρ.set i (some d)) → D.nx σ2 H2 } I (red σ H _ ⟨ρ, ds, r, ?_⟩)) fun fl s' z => ?_
  · unfold sSet sE at q
    cases ev : fe ρ ds with
    | ok d s1 =>
      rw [ev] at q
      exact fun v H1 g t kk => ⟨v, d, s1, rfl, g, t, kk, q⟩
    | err x s1 => rw [ev] at q; exact fun cls dc H' g t rx => q ω cls dc σ H' hok g.imm (r.mono g t) rx
    | bad => rw [ev] at q; exact q
  · cases fl with
    | next =>
      obtain ⟨σ', H1, I1, v, d, s1, rfl, g, t, ⟨F, p, nd, fr⟩, q⟩ := z
      obtain ⟨H2, I2, p2, fz⟩ := inv_freezeO I1 p nd
      have fth : ∀ a ∈ F, J.G.th ≠ some a := fun a m => th_there r.st (fr a m)
      have g2 : Gr J.G H H2 := ⟨fun b o i e => fz.ex p.lsts b o i (g.imm b o i e), fun b o n e => by
        rw [fz.out b fun m => by rw [fr b m] at e; cases e]; exact g.all b o n e, fun b e => g.th b (fz.non b e)⟩
      have t2 : StOk J.G s1 H2 := fun a e => by rw [fz.out a fun m => fth a m e]; exact t a e
      exact ⟨_, H2, I2, q _ _ g2.imm ((r.mono g2 t2).put0 p2)⟩
    | ret u => exact z
    | brk => exact z
    | cont => exact z
end
end PL
set_option maxHeartbeats 1000000
namespace PL
open PySem PySem.Spec PyProof.Rows L2
def dTupOf : D → M D
  | .lst l => pure (.tup l)
  | .tup l => pure (.tup l)
  | _ => bad
def dLstOf : D → M D
  | .lst l => pure (.lst l)
  | .tup l => pure (.lst l)
  | _ => bad
theorem pure_tupOf : Pure1 dTupOf := fun x => by cases x <;> first | exact .inl rfl | exact .inr ⟨_, rfl⟩
section
variable {X : Cx} {J : Jx} {ω : List Nat} {a b e : Expr} {fa fb fe : EX} {pos : Pos} {k : Nat}
theorem b_tupOf (hK : X.K = J.G.K) : CalB X J (.type "tuple") dTupOf := CalB.of call_tuple_of fun dx d e => by
  cases dx <;> first | exact bad_ne e | skip
  · rename_i l
    cases M.pure_inj e
    intro H x Q k q
    have k' := k
    simp only [Rep] at k
    obtain ⟨p, xs, rfl, h, r⟩ := k
    exact ⟨p, xs, rfl, .inr ⟨by rw [hK]; exact h.seq, q _ H (Gr.refl _ _) (fun _ t => t) k'⟩⟩
  · rename_i l
    cases M.pure_inj e
    intro H x Q k q
    simp only [Rep] at k
    obtain ⟨p, xs, rfl, h, r⟩ := k
    refine ⟨p, xs, rfl, .inl ⟨by rw [hK]; exact h.seq, fun l hl => q _ _ (Gr.new hl) (fun s t a e => by rw [upd_ne (ne_of_none (t a e) hl)]; exact t a e) ?_⟩⟩
    simp only [Rep]
    exact ⟨l, xs, rfl, .inl upd_same, r.mono (Gr.new (G := J.G) hl).imm⟩
theorem bor_lst {G : Gam} {H : Hp} {l : List D} {v : V} {k : Nat} (h : Rep G H (.lst l) v ∨ ∃ F, RepO G H (k + 1) (.lst l) v F ∧ ∀ a ∈ F, G.th ≠ some a) : ∃ a xs, v = .ref a ∧ SqL G.K H a xs ∧ xs.length = l.length ∧ (k = 0 → RepL G H l xs) ∧ ∀ (i : Nat) (d : D), l[i]? = some d → ∃ w, xs[i]? = some w ∧ (Rep G H d w ∨ ∃ F, RepO G H k d w F ∧ ∀ a ∈ F, G.th ≠ some a) := by
  rcases h with h | ⟨F, h, nt⟩
  · simp only [Rep] at h
    obtain ⟨a, xs, rfl, hf, r⟩ := h
    exact ⟨a, xs, rfl, hf.seq, r.length, fun _ => r, fun i d e => by
      obtain ⟨w, ew, rw⟩ := r.get' e
      exact ⟨w, ew, .inl rw⟩⟩
  · obtain ⟨l', a, xs, Fs, e1, rfl, ha, rfl, p⟩ := h
    cases e1
    refine ⟨a, xs, rfl, SqL.of ha, p.length.1, fun hk => ?_, fun i d e => ?_⟩
    · subst hk
      clear ha nt
      induction p with
      | nil => exact RepL.nil
      | cons q _ ih => exact RepL.cons q.2 ih
    · obtain ⟨w, F, ew, eF, p2⟩ := p.get e
      exact ⟨w, ew, .inr ⟨F, p2, fun a m => nt a (List.mem_cons_of_mem _ (List.mem_flatten.mpr ⟨F, List.mem_of_getElem? eF, m⟩))⟩⟩
theorem all3_of {G : Gam} {H : Hp} : ∀ {l : List D} {ys : List V}, RepL G H l ys → All3 (RepO G H 0) l ys (l.map fun _ => [])
  | [], _, h => by simp only [RepL] at h; subst h; exact .nil
  | d :: l, _, h => by
    simp only [RepL] at h
    obtain ⟨v, vs, rfl, h, r⟩ := h
    exact .cons ⟨rfl, h⟩ (all3_of r)
theorem BJ.val0 (h : BJ X J ω 0 e fe) : EJ X J ω e fe := h.imp fun σ H Q ⟨ρ, s, r, q⟩ => ⟨ρ, s, r, q.mono (Gr.refl _ _) fun d v H' _ z => by
  rcases z with z | ⟨F, z, _⟩
  · exact z
  · exact z.2⟩
theorem b_idx (ok : Ok X J) (ha : BJ X J ω (k + 1) a fa) (hb : EJ X J ω b fb) (hs : PlainIx b := by exact fun _ _ => rfl) : BJ X J ω k (.Subscript a b pos) (cBin dIdx fa fb) := (pe_ix ix_seq ha hb hs).imp fun σ H Q h => by
  obtain ⟨ρ, s, r, q⟩ := h
  refine tG.step r q fun x H1 dx s1 g1 r1 kx q1 => ?_
  refine tG.step r1 (q1.mono g1 (κ' := κB J.G k H) fun _ _ _ _ k => k) fun y H2 dy s2 g2 r2 ky q2 => ?_
  have kx : Rep J.G H2 dx x ∨ ∃ F, RepO J.G H2 (k + 1) dx x F ∧ ∀ a ∈ F, J.G.th ≠ some a := by
    rcases kx with kx | ⟨F, p, nt⟩
    · exact .inl (Rep.mono g2.imm kx)
    · exact .inr ⟨F, p.mono g2 nt, nt⟩
  cases dy with
  | int i =>
    have ky : y = .int i := by simpa only [κV, Rep] using ky
    subst ky
    cases dx with
    | lst l =>
      simp only [dIdx, ixD] at q2
      obtain ⟨p, xs, rfl, hq, hl, _, hget⟩ := bor_lst kx
      cases e : atI l i with
      | none => rw [e] at q2; exact q2.elim
      | some d =>
        rw [e] at q2
        unfold atI at e
        cases ej : ixN l.length i with
        | none => rw [ej] at e; cases e
        | some j =>
          rw [ej] at e
          obtain ⟨w, ew, kw⟩ := hget j d e
          refine .inl ⟨p, xs, i, w, rfl, rfl, by rw [ok.K]; exact hq, ?_, q2 w H2 g2 r2.st kw⟩
          unfold atI
          rw [hl, ej]
          exact ew
    | tup l =>
      have kx : Rep J.G H2 (.tup l) x := by
        rcases kx with k1 | ⟨F, ⟨l', _, _, _, e, _⟩, _⟩
        · exact k1
        · cases e
      simp only [dIdx, ixD] at q2
      cases e : atI l i with
      | none => rw [e] at q2; exact q2.elim
      | some d =>
        rw [e] at q2
        simp only [Rep] at kx
        obtain ⟨p, xs, rfl, hf, rl⟩ := kx
        obtain ⟨v, ev, rv⟩ := atI_rep rl e
        exact .inr (.inl ⟨p, xs, i, v, rfl, rfl, by rw [ok.K]; exact hf.seq, ev, q2 v H2 g2 r2.st (.inl rv)⟩)
    | str z =>
      have kx : x = .str z := by
        rcases kx with k1 | ⟨F, ⟨l', _, _, _, e, _⟩, _⟩
        · simpa only [Rep] using k1
        · cases e
      simp only [dIdx] at q2
      by_cases c : z.length ≤ 1000000
      · simp only [c, if_true] at q2
        cases e : atI z.cps.toList i with
        | none => rw [e] at q2; exact q2.elim
        | some ch =>
          rw [e] at q2
          exact .inr (.inr ⟨z, i, ch, kx, rfl, line1M c, e, q2 _ H2 g2 r2.st (.inl (by simp only [Rep]))⟩)
      · simp only [c, if_false] at q2
        exact q2.elim
    | st =>
      have kx : Rep J.G H2 .st x := by
        rcases kx with k1 | ⟨F, ⟨l', _, _, _, e, _⟩, _⟩
        · exact k1
        · cases e
      simp only [dIdx] at q2
      simp only [Rep] at kx
      obtain ⟨p, hp, rfl⟩ := kx
      have hst := r2.st p hp
      by_cases c0 : i = 0
      · subst c0
        rw [if_pos rfl] at q2
        exact .inl ⟨p, _, 0, .int s2.1, rfl, rfl, .inl (.inl hst), rfl, q2 _ H2 g2 r2.st (.inl (by simp [Rep]))⟩
      · by_cases c1 : i = 1
        · subst c1
          rw [if_neg c0, if_pos rfl] at q2
          exact .inl ⟨p, _, 1, .int s2.2, rfl, rfl, .inl (.inl hst), rfl, q2 _ H2 g2 r2.st (.inl (by simp [Rep]))⟩
        · rw [if_neg c0, if_neg c1] at q2
          exact q2.elim
    | _ => exact q2.elim
  | _ => cases dx <;> exact q2.elim
theorem e_lenB {p : Pos} (ok : Ok X J) (hg : Gl X "len") (hm : X.mg "len" = none) (ha : BJ X J ω (k + 1) e fe) (hs : starEach [e] X.env = (false, eval e X.env) :: starEach [] X.env := by rfl) :
    EJ X J ω (.Call (.Name "len" p) [e] [] pos) (cUn dLen fe) := (pe_callB call_len hg hm (by rfl) (pa_cons ha pa_nil hs) (he := hs)).imp fun σ H Q ⟨ρ, s, r, q⟩ => by
  refine tG.step r q fun v H1 d s1 g1 r1 k1 q1 => ?_
  by_cases hd : ∃ l, d = .lst l
  · obtain ⟨l, rfl⟩ := hd
    obtain ⟨a, xs, rfl, hq, hl, _, _⟩ := bor_lst k1
    have := q1 (.int l.length) H1 g1 r1.st (rep_int.mpr rfl)
    exact ⟨.ref a, l.length, rfl, .inl ⟨xs, by rw [ok.K]; exact hq, hl.symm⟩, this⟩
  · have k2 : Rep J.G H1 d v := by
      rcases k1 with k1 | ⟨F, ⟨l', _, _, _, e, _⟩, _⟩
      · exact k1
      · exact (hd ⟨l', e⟩).elim
    rcases pure_len d with z | ⟨d', z⟩
    · rw [z] at q1; exact q1.elim
    · rw [z] at q1
      cases d with
      | str z2 =>
        obtain ⟨c, rfl⟩ := ite_pure_of z
        have := q1 (.int z2.length) H1 g1 r1.st (rep_int.mpr rfl)
        exact ⟨v, z2.length, rfl, by rw [rep_str.mp k2]; exact ⟨line1M c, rfl⟩, this⟩
      | tup l =>
        cases M.pure_inj z
        simp only [Rep] at k2
        obtain ⟨a, xs, rfl, h, r⟩ := k2
        have := q1 (.int l.length) H1 g1 r1.st (rep_int.mpr rfl)
        exact ⟨.ref a, l.length, rfl, .inr ⟨xs, by rw [ok.K]; exact h.seq, r.length.symm⟩, this⟩
      | lst l => exact (hd ⟨l, rfl⟩).elim
      | _ => exact bad_ne z
end
end PL
set_option maxHeartbeats 1000000
namespace PL
open PySem PySem.Spec PyProof.Rows L2
def cutD (l : List D) (lo hi : Option Int) : List D := (l.drop (HT.sIx l.length 0 lo)).take (HT.sIx l.length l.length hi - HT.sIx l.length 0 lo)
theorem cut_rep {G : Gam} {H : Hp} {l : List D} {xs : List V} {lo hi : Option Int} (r : RepL G H l xs) : RepL G H (cutD l lo hi) (cutV xs lo hi) := by
  unfold cutD cutV
  rw [r.length]
  exact (r.drop _).take _
def κP : Hp → Option Int → Option Int → Hp → Prop := fun _ a b _ => a = b
abbrev PtJ (X : Cx) (J : Jx) (ω : List Nat) (o : Option Expr) (f : En → M (Option Int)) : Prop := PO X o (tG (β := Option Int) J ω κP f)
def pNone : En → M (Option Int) := fun _ => pure none
def pSome (e : EX) : En → M (Option Int) := fun ρ => do
  let d ← e ρ
  match d with
  | .int i => pure (some i)
  | _ => bad
def dSl (lo hi : Option Int) : D → M D
  | .lst l => pure (.lst (cutD l lo hi))
  | .tup l => pure (.tup (cutD l lo hi))
  | _ => bad
def cSl (e : EX) (fl fh : En → M (Option Int)) : EX := fun ρ => do
  let x ← e ρ
  let l ← fl ρ
  let h ← fh ρ
  dSl l h x
theorem _root_.L2.PO.imp {X : Cx} {e : Option Expr} {t t' : TO} (h : PO X e t) (i : ∀ σ H Q, t' σ H Q → t σ H Q) : PO X e t' := ⟨fun pins s σ H Q I q => h.run pins s σ H Q I (i σ H Q q)⟩
section
variable {X : Cx} {J : Jx} {ω : List Nat} {a b e : Expr} {fa fb fe : EX} {pos p2 : Pos} {lo hi : Option Expr} {fl fh : En → M (Option Int)}
theorem p_none : PtJ X J ω none pNone := po_none.imp fun σ H Q ⟨ρ, s, r, q⟩ => q none H (Gr.refl _ _) r.st rfl
theorem p_some (h : EJ X J ω e fe) : PtJ X J ω (some e) (pSome fe) := (po_some h).imp fun σ H Q ⟨ρ, s, r, q⟩ => by
  refine tG.step r q fun v H1 d s1 g1 r1 k1 q1 => ?_
  cases d with
  | int i => exact ⟨i, rep_int.mp k1, q1 _ H1 g1 r1.st rfl⟩
  | _ => exact q1.elim
theorem e_slice (ok : Ok X J) (he : EJ X J ω e fe) (hl : PtJ X J ω lo fl) (hu : PtJ X J ω hi fh) : EJ X J ω (.Subscript e (.Slice lo hi none p2) pos) (cSl fe fl fh) := by
  refine ⟨fun pins s σ H Q I h => ?_⟩
  refine thn ((pe_slice (sl_list.or sl_tupA) he hl hu).run pins s σ H (fun v H' => (∃ p xs, v = .ref p ∧ H' p = some (.lst xs) ∧ ∀ o, Q (.ref p) (L2.upd H' p (.frz o (.lst xs)))) ∨ Q v H') I ?_) fun u s' z => ?_
  · obtain ⟨ρ, ds, r, q⟩ := h
    refine tG.step r q fun x H1 d s1 g1 r1 k1 q1 => ?_
    refine tG.step r1 (q1.mono g1 (κ' := κV J.G H) fun _ _ _ _ k => k) fun l H2 l' s2 g2 r2 k2 q2 => ?_
    refine tG.step r2 (q2.mono g2 (κ' := κV J.G H) fun _ _ _ _ k => k) fun u H3 u' s3 g3 r3 k3 q3 => ?_
    have k2 : l' = l := k2
    have k3 : u' = u := k3
    subst k2 k3
    have k1 := Rep.mono (g2.trans g3).imm k1
    cases d with
    | lst ds =>
      simp only [Rep] at k1
      obtain ⟨a, xs, rfl, hf, rl⟩ := k1
      refine .inl ⟨a, xs, rfl, by rw [ok.K]; exact hf.seq, fun p hp => .inl ⟨p, _, rfl, upd_same, fun o => ?_⟩⟩
      refine q3 _ _ (g3.trans ((Gr.new hp).upd hp)) (fun b e => ?_) ?_
      · rw [upd_ne (ne_of_none (r3.st b e) hp), upd_ne (ne_of_none (r3.st b e) hp)]; exact r3.st b e
      · show Rep _ _ _ _
        simp only [Rep]
        exact ⟨p, _, rfl, ⟨o, upd_same⟩, (cut_rep rl).mono ((Gr.new (G := J.G) hp).upd hp).imm⟩
    | tup ds =>
      have k1' := k1
      simp only [Rep] at k1
      obtain ⟨a, xs, rfl, hf, rl⟩ := k1
      refine .inr ⟨a, xs, rfl, by rw [ok.K]; exact hf.seq, fun hw => .inr (q3 _ _ g3 r3.st ?_), fun _ p hp => .inr (q3 _ _ (g3.trans (Gr.new hp)) (fun b e => ?_) ?_)⟩
      · show Rep _ _ _ _
        have e : cutD ds l' u' = ds := by
          unfold cutD
          have e1 : HT.sIx ds.length 0 l' = 0 := by rw [← rl.length]; exact hw.1
          have e2 : HT.sIx ds.length ds.length u' = ds.length := by rw [← rl.length]; exact hw.2
          rw [e1, e2]
          simp
        rw [e]
        exact k1'
      · rw [upd_ne (ne_of_none (r3.st b e) hp)]; exact r3.st b e
      · show Rep _ _ _ _
        simp only [Rep]
        exact ⟨p, _, rfl, .inl upd_same, (cut_rep rl).mono (Gr.new (G := J.G) hp).imm⟩
    | _ => exact q3.elim
  · obtain ⟨v, H', I', rv, z⟩ := z
    rcases z with ⟨p, xs, rfl, hp, q⟩ | q
    · obtain ⟨o, I2⟩ := inv_freeze I' hp
      exact ⟨.ref p, _, I2, rv, q o⟩
    · exact ⟨v, H', I', rv, q⟩
end
end PL
set_option maxHeartbeats 1000000
namespace PL
open PySem PySem.Spec PyProof.Rows L2
section
variable {X : Cx} {J : Jx} {ω ω1 ω' ωb ωc : List Nat} {tg iter elt : Expr} {ifs : List Expr} {pos spos py : Pos} {src : En → M (List D)} {gt : TG} {g : D → En → Option En} {t : En → M Bool} {e : EX} {scope : Scope} {own : List (Str × Nat)} {k : Nat} {y : Str}
theorem s_setC (hok : J.ok ω) (i : Nat) (ok : Ok X J) (hsrc : SrcJ X J ω tg iter src) (bo : BlkOk X.N X.env.scope scope own)
    (hg : ∀ (s : Shared) (H : Hp) (C : Addr) (cl : List (Str × Addr)) (fp : List Addr), PG (X.blk s H scope (compEnvC scope cl C X.env) fp) tg gt) (gs : GS J.G J.H0 ω ω1 gt g (own.map (·.2)))
    (ht : ∀ (s : Shared) (H : Hp) (C : Addr) (cl : List (Str × Addr)) (fp : List Addr), PTs (X.blk s H scope (compEnvC scope cl C X.env) fp) ifs (tG J.suite ω1 κT t))
    (he : ∀ (s : Shared) (H : Hp) (C : Addr) (cl : List (Str × Addr)) (fp : List Addr), OJ (X.blk s H scope (compEnvC scope cl C X.env) fp) J.suite ω1 k elt e)
    (hsw : swapsWith (.ListComp elt [⟨tg, iter, ifs, 0⟩] scope pos) (some (.Name y py)) spos.line X.env = pure true) (hs : ∀ x, foldedSetIterable iter X.env x = pure x := by intro _; rfl) (hy : X.N[i]? = some y := by rfl) (hyl : X.env.scope.names.lookup y = some .local := by rfl) :
    SJ X J ω (ω.set i 0) ωb ωc (.Assign [.Name y py] (.ListComp elt [⟨tg, iter, ifs, 0⟩] scope pos) spos) (sSet i (cComp src g t e (own.map (·.2)))) :=
  s_setF' hok i (ps_setLc ok.calm ok.nd hy hyl hsw hsrc bo hg ht he hs) fun σ H Q h => tLc_of gs h
theorem s_setCO (hok : J.ok ω) (i : Nat) (ok : Ok X J) (hsrc : SrcJ X J ω tg iter src) (bo : BlkOk X.N X.env.scope scope own)
    (hg : ∀ (s : Shared) (H : Hp) (C : Addr) (cl : List (Str × Addr)) (fp : List Addr), PG (X.blk s H scope (compEnvC scope cl C X.env) fp) tg gt) (gs : GS J.G J.H0 ω ω1 gt g (own.map (·.2)))
    (ht : ∀ (s : Shared) (H : Hp) (C : Addr) (cl : List (Str × Addr)) (fp : List Addr), PTs (X.blk s H scope (compEnvC scope cl C X.env) fp) ifs (tG J.suite ω1 κT t))
    (he : ∀ (s : Shared) (H : Hp) (C : Addr) (cl : List (Str × Addr)) (fp : List Addr), OJ (X.blk s H scope (compEnvC scope cl C X.env) fp) J.suite ω1 k elt e)
    (hsw : swapsWith (.ListComp elt [⟨tg, iter, ifs, 0⟩] scope pos) (some (.Name y py)) spos.line X.env = pure true) (hl : k + 1 = 0 ∨ i < ω.length := by exact .inr (by decide)) (hs : ∀ x, foldedSetIterable iter X.env x = pure x := by intro _; rfl) (hy : X.N[i]? = some y := by rfl) (hyl : X.env.scope.names.lookup y = some .local := by rfl) :
    SJ X J ω (ω.set i (k + 1)) ωb ωc (.Assign [.Name y py] (.ListComp elt [⟨tg, iter, ifs, 0⟩] scope pos) spos) (sSet i (cComp src g t e (own.map (·.2)))) :=
  s_setO' hok i (ps_setLc ok.calm ok.nd hy hyl hsw hsrc bo hg ht he hs) (fun σ H Q h => tLc_of gs h) hl
end
theorem XcF.at {mg : Str → Option Value} {G : Gam} {c : Nat} {x : Str} (F : XcF mg G c x) (th : Option Addr) : XcF mg (G.at th) c x := ⟨F.g, F.no, F.hx, F.kp, F.q, F.s, F.t⟩
end PL
set_option maxHeartbeats 1000000
namespace PL
open PySem PySem.Spec PyProof.Rows L2
section
variable {s : DS} {ρ : En} {x y : EX} {g : D → En → Option En} {t : En → M Bool} {src : En → M (List D)} {vs : List Nat} {fl fh : En → M (Option Int)}
theorem a_comp : cComp src g t x vs ρ s = R.bnd (src ρ s) fun l s1 => if l.length ≤ 1000000 then compA g t x (wipeE ρ vs) [] l s1 else .bad := by
  show R.bnd (src ρ s) _ = _
  congr 1
  funext l s1
  rw [a_ite]; rfl
theorem a_srcSeq : srcSeq x ρ s = R.bnd (x ρ s) fun d s1 => match itemsOf d with | some l => .ok l s1 | none => .bad := by
  show R.bnd (x ρ s) _ = _
  congr 1
  funext d s1
  show (match itemsOf d with | some l => (pure l : M (List D)) | none => bad) s1 = _
  cases itemsOf d <;> rfl
theorem a_srcR1 : srcR1 x ρ s = R.bnd (x ρ s) fun d s1 => match d with | .int n => if small62 n = true then .ok (rangeL 0 n) s1 else .bad | _ => .bad := by
  show R.bnd (x ρ s) _ = _
  congr 1
  funext d s1
  cases d <;> first | rfl | skip
  rename_i n
  show (if small62 n = true then (pure (rangeL 0 n) : M (List D)) else bad) s1 = (if small62 n = true then .ok (rangeL 0 n) s1 else .bad)
  by_cases c : small62 n = true
  · rw [if_pos c, if_pos c]; rfl
  · rw [if_neg c, if_neg c]; rfl
theorem a_srcR2 : srcR2 x y ρ s = R.bnd (x ρ s) fun d s1 => R.bnd (y ρ s1) fun e s2 => match d, e with | .int m, .int n => if (small62 m && small62 n) = true then .ok (rangeL m n) s2 else .bad | _, _ => .bad := by
  show R.bnd (x ρ s) _ = _
  congr 1
  funext d s1
  show R.bnd (y ρ s1) _ = _
  congr 1
  funext e s2
  cases d <;> cases e <;> first | rfl | skip
  rename_i m n
  show (if (small62 m && small62 n) = true then (pure (rangeL m n) : M (List D)) else bad) s2 = (if (small62 m && small62 n) = true then .ok (rangeL m n) s2 else .bad)
  by_cases c : (small62 m && small62 n) = true
  · rw [if_pos c, if_pos c]; rfl
  · rw [if_neg c, if_neg c]; rfl
theorem a_compNil {ρ0 : En} {acc : List D} : compA g t x ρ0 acc [] s = .ok (.lst acc) s := rfl
theorem a_sl : cSl x fl fh ρ s = R.bnd (x ρ s) fun v s1 => R.bnd (fl ρ s1) fun l s2 => R.bnd (fh ρ s2) fun h s3 => dSl l h v s3 := rfl
theorem a_pNone : pNone ρ s = .ok none s := rfl
theorem a_pSome : pSome x ρ s = R.bnd (x ρ s) fun d s1 => match d with | .int i => .ok (some i) s1 | _ => .bad := by
  show R.bnd (x ρ s) _ = _
  congr 1
  funext d s1
  cases d <;> rfl
theorem d_slL {lo hi : Option Int} {l : List D} : dSl lo hi (.lst l) s = .ok (.lst (cutD l lo hi)) s := rfl
theorem d_slT {lo hi : Option Int} {l : List D} : dSl lo hi (.tup l) s = .ok (.tup (cutD l lo hi)) s := rfl
theorem d_tupL {l : List D} : dTupOf (.lst l) s = .ok (.tup l) s := rfl
theorem d_tupT {l : List D} : dTupOf (.tup l) s = .ok (.tup l) s := rfl
theorem d_lstL {l : List D} : dLstOf (.lst l) s = .ok (.lst l) s := rfl
theorem d_lstT {l : List D} : dLstOf (.tup l) s = .ok (.lst l) s := rfl
theorem d_idxL {l : List D} {i : Int} : dIdx (.lst l) (.int i) s = match atI l i with | some d => .ok d s | none => .bad := by
  show (match atI l i with | some d => (pure d : M D) | none => bad) s = _
  cases atI l i <;> rfl
theorem d_idxT {l : List D} {i : Int} : dIdx (.tup l) (.int i) s = match atI l i with | some d => .ok d s | none => .bad := by
  show (match atI l i with | some d => (pure d : M D) | none => bad) s = _
  cases atI l i <;> rfl
end
def bd (N : Nat) (q : Rat) : Prop := q.num.natAbs ≤ N ∧ q.den ≤ N
theorem bd.mono {M N : Nat} {q : Rat} (h : bd M q) (l : M ≤ N) : bd N q := ⟨Nat.le_trans h.1 l, Nat.le_trans h.2 l⟩
theorem bd.fit {N : Nat} {q : Rat} (h : bd N q) (l : N < 2 ^ 4000) : fit q = true := by
  unfold PL.fit
  rw [Bool.and_eq_true_iff]
  exact ⟨decide_eq_true (Nat.lt_of_le_of_lt h.1 l), decide_eq_true (Nat.lt_of_le_of_lt h.2 l)⟩
end PL
set_option maxHeartbeats 1000000
namespace PL
open PySem PySem.Spec PyProof.Rows L2
theorem t_yes {ρ : En} {s : DS} : tYesD ρ s = .ok true s := rfl
def Asc (l : List Rat) : Prop := l.Pairwise (· ≤ ·)
end PL
set_option maxHeartbeats 1000000
namespace PL
open PySem PySem.Spec PyProof.Rows L2
theorem comp_map {α : Type} {i : Nat} {t : En → M Bool} {x : EX} {ρ0 : En} {s : DS} (h : α → D) (p : α → Bool) (f : α → D) : ∀ (as : List α) (acc : List D), (∀ a ∈ as, ∀ s, t (ρ0.set i (some (h a))) s = .ok (p a) s) → (∀ a ∈ as, p a = true → ∀ s, x (ρ0.set i (some (h a))) s = .ok (f a) s) →
    compA (gSet i) t x ρ0 acc (as.map h) s = .ok (.lst (acc ++ (as.filter p).map f)) s
  | [], acc, _, _ => by simp [a_compNil]
  | a :: as, acc, h1, h2 => by
    rw [List.map_cons]
    show (M.bnd (noErr (t (ρ0.set i (some (h a))))) fun b => if b = true then M.bnd (noErr (x (ρ0.set i (some (h a))))) fun z => compA (gSet i) t x ρ0 (acc ++ [z]) (as.map h) else compA (gSet i) t x ρ0 acc (as.map h)) s = _
    unfold M.bnd
    rw [noErr_ok (h1 a List.mem_cons_self s)]
    cases hp : p a with
    | true =>
      show (M.bnd (noErr (x (ρ0.set i (some (h a))))) fun z => compA (gSet i) t x ρ0 (acc ++ [z]) (as.map h)) s = _
      unfold M.bnd
      rw [noErr_ok (h2 a List.mem_cons_self hp s)]
      show compA (gSet i) t x ρ0 (acc ++ [f a]) (as.map h) s = _
      rw [comp_map h p f as _ (fun e m => h1 e (List.mem_cons_of_mem _ m)) (fun e m => h2 e (List.mem_cons_of_mem _ m))]
      simp [hp]
    | false =>
      show compA (gSet i) t x ρ0 acc (as.map h) s = _
      rw [comp_map h p f as _ (fun e m => h1 e (List.mem_cons_of_mem _ m)) (fun e m => h2 e (List.mem_cons_of_mem _ m))]
      simp [hp]
theorem atI_zero {α : Type} (d : α) (l : List α) : atI (d :: l) 0 = some d := by
  unfold atI ixN
  simp
end PL
set_option maxHeartbeats 1000000
namespace PL
open PySem PySem.Spec PyProof.Rows L2
theorem RepS.own {G : Gam} {H0 H : Hp} {ω : List Nat} {s : DS} {σ : St} {ρ : En} {i : Nat} {d : D} (r : RepS G H0 ω s H σ ρ) (e : ρ[i]? = some (some d)) :
    ∃ v Fi, σ[i]? = some (some v) ∧ RepO G H (kd ω i) d v Fi ∧ Fi.Nodup ∧ (∀ a ∈ Fi, H0 a = none ∧ G.th ≠ some a) ∧
      ∀ (H1 H' : Hp) (s1 : DS) (d' : D) (Fi' : List Addr), Gr G H H1 → Ex H1 H' → (∀ a o, a ∉ Fi → H1 a = some o → H' a = some o) → (∀ a, H' a = none → H1 a = none) → StOk G s1 H' → RepO G H' (kd ω i) d' v Fi' → Fi'.Nodup → (∀ a ∈ Fi', a ∈ Fi ∨ H a = none) →
        RepS G H0 ω s1 H' σ (ρ.set i (some d')) := by
  obtain ⟨F, h1, h2, h3, h4⟩ := r.sl
  obtain ⟨v, ev, pv⟩ := h1 i d e
  have hlt : i < ρ.length := by
    rcases Nat.lt_or_ge i ρ.length with h | h
    · exact h
    · rw [List.getElem?_eq_none h] at e; cases e
  refine ⟨v, F i, ev, pv, h2 i, h4 i, fun H1 H' s1 d' Fi' g ex hk hn t q nd sub => ?_⟩
  have there : ∀ j c, ρ[j]? = some (some c) → ∀ a ∈ F j, H a ≠ none := fun j c hj a ha => by
    obtain ⟨w, _, p⟩ := h1 j c hj
    obtain ⟨xs, e⟩ := p.lsts a ha
    rw [e]; simp
  refine ⟨⟨fun a o im e => ex a o im (g.imm a o im (r.gr.imm a o im e)), fun a o nt e => ?_, fun a e => r.gr.th a (g.th a (hn a e))⟩, t, by simp [r.len], fun j => if j = i then Fi' else (match ρ[j]? with | some (some _) => F j | _ => []), fun j c hj => ?_, fun j => ?_, fun j l a hjl hj hl => ?_, fun j a hj => ?_⟩
  · refine hk a o (fun m => ?_) (g.all a o nt (r.gr.all a o nt e))
    rw [(h4 i a m).1] at e; cases e
  · by_cases hji : i = j
    · subst hji
      rw [List.getElem?_set_self hlt] at hj
      obtain rfl : d' = c := by simpa using hj
      exact ⟨v, ev, by simpa using q⟩
    · rw [List.getElem?_set_ne hji] at hj
      obtain ⟨w, e1, p⟩ := h1 j c hj
      refine ⟨w, e1, ?_⟩
      simp only [if_neg (fun z : j = i => hji z.symm), hj]
      refine (p.mono g fun a ha => (h4 j a ha).2).keep ex fun a ha xs ea => hk a _ (h3 j i a (fun z => hji z.symm) ha) ea
  · by_cases e : j = i
    · simp only [if_pos e]; exact nd
    · simp only [if_neg e]
      split
      · exact h2 j
      · exact List.nodup_nil
  · by_cases e : j = i
    · by_cases e2 : l = i
      · exact hjl (e.trans e2.symm)
      · simp only [if_pos e] at hj
        simp only [if_neg e2] at hl
        split at hl
        · rename_i x hx
          rcases sub a hj with h | h
          · exact h3 i l a (fun z => e2 z.symm) h hl
          · exact there l x hx a hl h
        · cases hl
    · simp only [if_neg e] at hj
      by_cases e2 : l = i
      · simp only [if_pos e2] at hl
        split at hj
        · rename_i x hx
          rcases sub a hl with h | h
          · exact h3 j i a e hj h
          · exact there j x hx a hj h
        · cases hj
      · simp only [if_neg e2] at hl
        split at hj
        · split at hl
          · exact h3 j l a hjl hj hl
          · cases hl
        · cases hj
  · by_cases e : j = i
    · simp only [if_pos e] at hj
      rcases sub a hj with h | h
      · exact h4 i a h
      · exact ⟨r.gr.th a h, th_there r.st h⟩
    · simp only [if_neg e] at hj
      split at hj
      · exact h4 j a hj
      · cases hj
def sApp (i : Nat) (e : EX) : SX := fun ρ s => match ρ[i]? with
  | some (some (.lst l)) => RE (e ρ s) ρ fun d s' => if l.length < 1000000 then .go .nx (ρ.set i (some (.lst (l ++ [d])))) s' else .bad
  | _ => .bad
section
variable {X : Cx} {J : Jx} {ω ωb ωc : List Nat} {e : Expr} {fe : EX} {pos p1 apos cpos : Pos} {k : Nat} {x : Str}
theorem s_append (hok : J.ok ω) (i : Nat) (ok : Ok X J) (he : OJ X J ω k e fe) (hk : kd ω i = k + 1 := by rfl) (hN : X.N[i]? = some x := by rfl) (hv : Vis X.env.scope x := by first | exact Or.inl rfl | exact Or.inr (Or.inl rfl) | exact Or.inr (Or.inr rfl)) (hd : (x == ("__debug__" : Str)) = false := by decide) (hcd : (x == ("__classdict__" : Str)) = false := by decide)
    (hbase : attributeBase (.Name x p1) "append" X.env (eval (.Name x p1) X.env) = eval (.Name x p1) X.env := by rfl)
    (hfew : ((backTo cpos (starEach (e :: []) X.env)).all (fun x => !x.1) && (backToKw cpos (keywordEach [] X.env)).all (fun x => x.1.isSome)
      && decide ((e :: ([] : List Expr)).length + ([] : List Keyword).length + (if ([] : List Keyword).isEmpty then 0 else 1) < 30)) = true := by rfl)
    (hline : (apos.endLine == cpos.line) = true := by rfl) (hs : starEach (e :: []) X.env = (false, eval e X.env) :: starEach [] X.env := by rfl) (hplain : (backTo cpos (starEach [] X.env)).any (·.1) = false := by rfl)
    (hsw : swapsWith (.Call (.Attribute (.Name x p1) "append" apos) [e] [] cpos) none pos.line X.env = pure false := by rfl) :
    SJ X J ω ω ωb ωc (.Expr (.Call (.Attribute (.Name x p1) "append" apos) [e] [] cpos) pos) (sApp i fe) :=
  (ps_expr (pe_bm PySem.F.plainAttrs_list PySem.F.slot_list_append PySem.F.type_list_append mt_append (pe_var hN hv hd hcd) (pa_cons he pa_nil hs) hbase hfew hline hs hplain) hsw).imp fun Dn σ H h => by
    obtain ⟨ρ, s, r, q⟩ := h
    unfold sApp at q
    cases ei : ρ[i]? with
    | none => rw [ei] at q; exact q.elim
    | some o =>
      cases o with
      | none => rw [ei] at q; exact q.elim
      | some d =>
        cases d with
        | lst l =>
          rw [ei] at q
          obtain ⟨v, Fi, ev, pv, ndF, fr, chg⟩ := r.own ei
          rw [hk] at pv chg
          obtain ⟨l', a, xs, Fs, e1, rfl, ha, rfl, p⟩ := pv
          cases e1
          refine ⟨_, ev, .inl ⟨rfl, xs, SqL.of ha⟩, ?_⟩
          refine ⟨ρ, s, r, ?_⟩
          have q : PostS J H ω ωb ωc Dn (RE (fe ρ s) ρ fun d s' => if l.length < 1000000 then .go .nx (ρ.set i (some (.lst (l ++ [d])))) s' else .bad) := q
          cases ee : fe ρ s with
          | err xn s1 => rw [ee] at q; exact fun cls dc H' g t rx => q ω cls dc σ H' hok g.imm (r.mono g t) rx
          | bad => rw [ee] at q; exact q
          | ok dx s1 =>
            rw [ee, re_ok] at q
            by_cases hl : l.length < 1000000
            · rw [if_pos hl] at q
              intro y H1 g t ⟨F, pF, ndy, fry⟩
              have nth : J.G.th ≠ some a := (fr a List.mem_cons_self).2
              have ha1 : H1 a = some (.lst xs) := g.all a _ nth ha
              have hlx := p.length.1
              obtain ⟨na, ndFs⟩ := List.nodup_cons.mp ndF
              have nF : ∀ z ∈ F, z ≠ a := fun z hz ez => by have := fry z hz; rw [ez, ha] at this; cases this
              refine ⟨a, xs, y, rfl, rfl, ha1, by rw [hlx, sizeLine_eq]; omega, ?_⟩
              refine q σ _ (g.imm.trans (imm_upd ha1)) (chg H1 _ s1 (.lst (l ++ [dx])) (a :: (Fs ++ [F]).flatten) g (imm_upd ha1) (fun b o nb e => ?_) (fun b e => upd_none e) (fun b e => ?_) ⟨l ++ [dx], a, xs ++ [y], Fs ++ [F], rfl, rfl, upd_same, rfl, ?_⟩ ?_ fun z hz => ?_)
              · rw [upd_ne (fun ez => nb (by rw [ez]; exact List.mem_cons_self))]; exact e
              · rw [upd_ne (fun ez => nth (by rw [← ez]; exact e))]; exact t b e
              · refine (p.imp fun u w c m pq => ?_).append (.cons (RepO.keep (imm_upd ha1) (fun z hz zs ez => by rw [upd_ne (nF z hz)]; exact ez) pF) .nil)
                have hc : ∀ z ∈ c, z ∈ Fs.flatten := fun z hz => List.mem_flatten.mpr ⟨c, m, hz⟩
                refine RepO.keep (imm_upd ha1) (fun z hz zs ez => ?_) (pq.mono g fun z hz => (fr z (List.mem_cons_of_mem _ (hc z hz))).2)
                rw [upd_ne (fun e => na (by rw [← e]; exact hc z hz))]; exact ez
              · rw [List.flatten_append]
                refine List.nodup_cons.mpr ⟨fun m => ?_, List.nodup_append.mpr ⟨ndFs, by simpa using ndy, fun z hz w hw ezw => ?_⟩⟩
                · rcases List.mem_append.mp m with m | m
                  · exact na m
                  · exact nF a (by simpa using m) rfl
                · subst ezw
                  have hw : z ∈ F := by simpa using hw
                  obtain ⟨zs, ez⟩ := all3_lsts p z hz
                  have := fry z hw
                  rw [ez] at this; cases this
              · rcases List.mem_cons.mp hz with rfl | hz
                · exact .inl List.mem_cons_self
                · rw [List.flatten_append] at hz
                  rcases List.mem_append.mp hz with hz | hz
                  · exact .inl (List.mem_cons_of_mem _ hz)
                  · exact .inr (fry z (by simpa using hz))
            · rw [if_neg hl] at q
              exact q.elim
        | _ => rw [ei] at q; exact q.elim
end
end PL
set_option maxHeartbeats 1000000
namespace PL
open PySem PySem.Spec PyProof.Rows L2
section
variable {G : Gam} {H0 H H1 : Hp} {ω : List Nat} {s s1 : DS} {σ : St} {ρ : En}
theorem repL_of3 : ∀ {l : List D} {xs : List V} {Fs : List (List Addr)}, All3 (RepO G H 0) l xs Fs → RepL G H l xs
  | _, _, _, .nil => RepL.nil
  | _, _, _, .cons q r => RepL.cons q.2 (repL_of3 r)
theorem flat_nil {α β : Type} : ∀ (l : List α), (l.map fun _ => ([] : List β)).flatten = []
  | [] => rfl
  | _ :: l => by rw [List.map_cons, List.flatten_cons, flat_nil l]; rfl
theorem RepS.own1 (r : RepS G H0 ω s H σ ρ) {i : Nat} {l : List D} (e : ρ[i]? = some (some (.lst l))) (hk : kd ω i = 1) : ∃ a xs, σ[i]? = some (some (.ref a)) ∧ H a = some (.lst xs) ∧ RepL G H l xs ∧ G.th ≠ some a ∧
    ∀ l' xs', RepL G (L2.upd H a (.lst xs')) l' xs' → RepS G H0 ω s (L2.upd H a (.lst xs')) σ (ρ.set i (some (.lst l'))) := by
  obtain ⟨v, Fi, ev, pv, ndF, fr, chg⟩ := r.own e
  rw [hk] at pv chg
  obtain ⟨l', a, xs, Fs, e1, rfl, ha, rfl, p⟩ := pv
  cases e1
  have rl : RepL G H l xs := repL_of3 p
  have nth := (fr a List.mem_cons_self).2
  refine ⟨a, xs, ev, ha, rl, nth, fun l' xs' r' => chg H _ s (.lst l') (a :: (l'.map fun _ => ([] : List Addr)).flatten) (Gr.refl _ _) (imm_upd ha) (fun b o nb e => ?_) (fun b e => upd_none e) (fun b e => ?_) ⟨l', a, xs', l'.map fun _ => [], rfl, rfl, upd_same, rfl, all3_of r'⟩ ?_ fun z hz => ?_⟩
  · rw [upd_ne (fun ez => nb (by rw [ez]; exact List.mem_cons_self))]; exact e
  · rw [upd_ne (fun ez => nth (by rw [← ez]; exact e))]; exact r.st b e
  · rw [flat_nil]
    exact List.nodup_cons.mpr ⟨by simp, List.nodup_nil⟩
  · rcases List.mem_cons.mp hz with rfl | hz
    · exact .inl List.mem_cons_self
    · rw [flat_nil] at hz
      exact (List.not_mem_nil hz).elim
end
section
variable {X : Cx} {J : Jx} {ω ωb ωc : List Nat} {e : Expr} {fe : EX} {pos p1 p2 apos cpos apos2 cpos2 : Pos} {x y : Str}
end
end PL
set_option maxHeartbeats 1000000
namespace PL
open PySem PySem.Spec PyProof.Rows L2
section
variable {X : Cx} {J : Jx} {ω ωb ωc : List Nat} {e ei : Expr} {fe fi : EX} {pos p1 pos' : Pos} {x : Str}
end
end PL
set_option maxHeartbeats 1000000
namespace PL
open PySem PySem.Spec PyProof.Rows L2
end PL
set_option maxHeartbeats 1000000
namespace PL
open PySem PySem.Spec PyProof.Rows L2
section
variable {X : Cx} {J : Jx} {ω ωb ωc : List Nat} {e ei ej : Expr} {fe fi fj : EX} {pos p1 pos' pos2 : Pos} {x : Str}
end
end PL
set_option maxHeartbeats 1000000
namespace PL
open PySem PySem.Spec PyProof.Rows L2
section
variable {X : Cx} {J : Jx} {ω ωb ωc : List Nat} {e : Expr} {fe : EX} {pos p1 apos cpos : Pos} {x : Str}
end
end PL
set_option maxHeartbeats 1000000
namespace PL
open PySem PySem.Spec PyProof.Rows L2
def TgJ (X : Cx) (J : Jx) (ω ω' : List Nat) (tg : Expr) (g : D → SX) : Prop := ∃ gt : TG, PG X tg gt ∧ ∀ v d σ H ρ s ωb ωc Dn, RepS J.G J.H0 ω s H σ ρ → Rep J.G H d v → PostS J H ω' ωb ωc Dn (g d ρ s) → gt v σ H Dn.nx
section
variable {X : Cx} {J : Jx} {ω ω1 ω' ωb ωc : List Nat} {pos : Pos}
def sAsgT (g : D → SX) (e : EX) : SX := sE e g
theorem s_asgT {tg e : Expr} {fe : EX} {g : D → SX} (hok : J.ok ω) (he : EJ X J ω e fe) (hg : TgJ X J ω ω' tg g) (hs : swapsWithSole [tg] e pos.line X.env = pure false := by rfl) (hw : swappedStores [tg] e X.env = pure none := by rfl)
    (h1 : (assignEach [tg] X.env).map (·.2) = [assign tg X.env] := by rfl) : SJ X J ω ω' ωb ωc (.Assign [tg] e pos) (sAsgT g fe) := by
  obtain ⟨t, p, q⟩ := hg
  exact (ps_asg he p hs hw h1).imp fun D σ H h => tS.exp hok h fun v H1 d ρ s1 g1 r k q1 => q v d σ H1 ρ s1 ωb ωc D r k (q1.mono g1.imm)
end
end PL
set_option maxHeartbeats 1000000
namespace PL
open PySem PySem.Spec PyProof.Rows L2
def wipeK (ω : List Nat) : List Nat → List Nat
  | [] => ω
  | v :: vs => (wipeK ω vs).set v 0
section
variable {G : Gam} {H0 H : Hp} {ω : List Nat} {s : DS} {σ : St} {ρ : En}
theorem RepS.dim (r : RepS G H0 ω s H σ ρ) (v : Nat) : RepS G H0 (ω.set v 0) s H σ (ρ.set v none) := by
  obtain ⟨F, h1, h2, h3, h4⟩ := r.sl
  refine ⟨r.gr, r.st, by simp [r.len], F, fun i d e => ?_, h2, h3, h4⟩
  by_cases hv : v = i
  · subst hv
    rw [List.getElem?_set] at e
    simp at e
  · rw [List.getElem?_set_ne hv] at e
    obtain ⟨w, e1, q⟩ := h1 i d e
    exact ⟨w, e1, by rw [kd_set, if_neg (fun z => hv z.1)]; exact q⟩
theorem RepS.dims (r : RepS G H0 ω s H σ ρ) : ∀ vs : List Nat, RepS G H0 (wipeK ω vs) s H σ (wipeE ρ vs)
  | [] => r
  | v :: vs => (RepS.dims r vs).dim v
end
def RS.wipe (vs : List Nat) : RS → RS
  | .go .nx ρ s => .go .nx (wipeE ρ vs) s
  | r => r
def sWipe (vs : List Nat) (f : SX) : SX := fun ρ s => RS.wipe vs (f ρ s)
def sBrkW (vs : List Nat) : SX := fun ρ s => .go .bk (wipeE ρ vs) s
def sCntW (vs : List Nat) : SX := fun ρ s => .go .ct (wipeE ρ vs) s
def sRetE (e : EX) : SX := sE e fun d _ s => .go (.rt d) [] s
def sRetNE : SX := fun _ s => .go (.rt .non) [] s
section
variable {X : Cx} {J : Jx} {ω ω1 ω' ωb ωc : List Nat} {st : Stmt} {sts : List Stmt} {f g : SX} {e : Expr} {fe : EX} {pos : Pos} {vs : List Nat}
theorem PostS.wipe {H : Hp} {Dn : Ends} {r : RS} (q : PostS J H (wipeK ω1 vs) ωb ωc Dn (RS.wipe vs r)) : PostS J H ω1 ωb ωc Dn r := by
  cases r with
  | go fl ρ s =>
    cases fl with
    | nx => exact fun σ H' ex r => q σ H' ex (r.dims vs)
    | rt d => exact q
    | bk => exact q
    | ct => exact q
  | err x ρ s => exact q
  | bad => exact q
theorem ss_wipe (vs : List Nat) (h : SsJ X J ω ω1 ωb ωc sts f) (e : wipeK ω1 vs = ω' := by rfl) : SsJ X J ω ω' ωb ωc sts (sWipe vs f) := e ▸ h.imp fun D σ H ⟨ρ, s, r, q⟩ => ⟨ρ, s, r, PostS.wipe q⟩
theorem s_wipe (vs : List Nat) (h : SJ X J ω ω1 ωb ωc st f) (e : wipeK ω1 vs = ω' := by rfl) : SJ X J ω ω' ωb ωc st (sWipe vs f) := e ▸ h.imp fun D σ H ⟨ρ, s, r, q⟩ => ⟨ρ, s, r, PostS.wipe q⟩
theorem s_retE (hok : J.ok ω) (he : EJ X J ω e fe) (hP : ∀ H d v, Rep J.G H d v → J.P H d v := by intro _ _ _ h; exact h) : SJ X J ω ω' ωb ωc (.Return (some e) pos) (sRetE fe) :=
  (s_ret hok he hP).imp fun D σ H ⟨ρ, s, r, q⟩ => ⟨ρ, s, r, by
    unfold sRetE sE at q
    unfold sRet sE
    cases ev : fe ρ s with
    | ok d s1 => rw [ev] at q; exact q
    | err x s1 => rw [ev] at q; exact q
    | bad => rw [ev] at q; exact q⟩
end
def uAt (i : Nat) (ix : EX) : D → SX := fun d ρ s => match ρ[i]? with
  | some (some (.lst l)) => RE (ix ρ s) ρ fun n s2 => match n with
    | .int k => (match ixN l.length k with
      | some j => .go .nx (ρ.set i (some (.lst (l.set j d)))) s2
      | none => .bad)
    | _ => .bad
  | _ => .bad
section
variable {X : Cx} {J : Jx} {ω ωb ωc : List Nat} {e ei ej : Expr} {fe fi fj : EX} {pos p1 pos' pos2 : Pos} {x : Str}
theorem u_at (hok : J.ok ω) (i : Nat) (hi : EJ X J ω ei fi) (hk : kd ω i = 1 := by rfl) (hN : X.N[i]? = some x := by rfl) (hv : Vis X.env.scope x := by first | exact Or.inl rfl | exact Or.inr (Or.inl rfl) | exact Or.inr (Or.inr rfl)) (hd : (x == ("__debug__" : Str)) = false := by decide) (hcd : (x == ("__classdict__" : Str)) = false := by decide)
    (ha : ∀ v, assign (.Subscript (.Name x p1) ei pos') X.env v = (do
      let ov ← holding [v] (eval (.Name x p1) X.env)
      let iv ← holding [v, ov] (eval ei X.env)
      standAt pos'
      holding [v, ov, iv] (setItem ov iv v)
      release [v, ov, iv] []) := by intro _; rfl) :
    TgJ X J ω ω (.Subscript (.Name x p1) ei pos') (uAt i fi) := by
  refine ⟨_, pg_sub (pe_var hN hv hd hcd) hi set_list ha, fun v d σ H1 ρ s1 ωb ωc Dn r1 kv q => ?_⟩
  unfold uAt at q
  split at q
  · rename_i l eo
    obtain ⟨a, xs, eva, _, _, _, _⟩ := r1.own1 eo hk
    refine ⟨_, eva, ρ, s1, r1, ?_⟩
    cases ef : fi ρ s1 with
    | err xn s2 => rw [ef] at q; exact fun cls dc H' g2 t2 rx => q ω cls dc σ H' hok g2.imm (r1.mono g2 t2) rx
    | bad => rw [ef] at q; exact q
    | ok n s2 =>
      rw [ef, re_ok] at q
      cases n with
      | int k =>
        intro w H2 g2 t2 kw
        have kw : w = .int k := rep_int.mp kw
        subst kw
        have r2 := r1.mono g2 t2
        obtain ⟨a', xs', eva', ha2, rla2, ntha2, chga2⟩ := r2.own1 eo hk
        rw [eva] at eva'
        cases eva'
        cases ej : ixN l.length k with
        | none => simp only [ej] at q; exact q.elim
        | some j =>
          simp only [ej] at q
          refine ⟨a, xs', k, j, rfl, rfl, ha2, by rw [rla2.length]; exact ej, ?_⟩
          refine q σ _ (g2.imm.trans (imm_upd ha2)) (chga2 (l.set j d) (xs'.set j v) ?_)
          exact (RepL.set j (Rep.mono g2.imm kv) rla2).mono (imm_upd ha2)
      | _ => exact q.elim
  · exact q.elim
end
end PL
set_option maxHeartbeats 2000000
namespace GQ3
open PySem PySem.SeqAt GQ
open AutoSeq1 (wpAny_loadPart')
open MeetsSeq MeetsSeq2 MeetsSeq3 SeqRoads2
section
variable {prog : Program} {w : World} {A : Around} {R : Result → Shared → Prop} {E : Value → Shared → Prop}
end
end GQ3
namespace PL
open PySem PySem.Spec PyProof.Rows L2
section
variable {X : Cx} {J : Jx} {n0 : Nat}
end
section
variable {X : Cx} {J : Jx} {ω : List Nat} {a b : Expr} {fa fb : EX} {pos : Pos} {n0 : Nat}
end
end PL
set_option maxHeartbeats 1000000
namespace PL
open PySem PySem.Spec PyProof.Rows L2
def intsOf : List D → Option (List Int)
  | [] => some []
  | .int i :: l => (intsOf l).map (i :: ·)
  | _ :: _ => none
theorem intsOf_eq : ∀ {l : List D} {ns : List Int}, intsOf l = some ns → l = ns.map D.int
  | [], ns, h => by cases h; rfl
  | .int i :: l, ns, h => by
    unfold intsOf at h
    cases e : intsOf l with
    | none => rw [e] at h; cases h
    | some ms => rw [e] at h; cases h; rw [List.map_cons, ← intsOf_eq e]
  | .non :: _, _, h => by cases h
  | .bl _ :: _, _, h => by cases h
  | .str _ :: _, _, h => by cases h
  | .rat _ :: _, _, h => by cases h
  | .tup _ :: _, _, h => by cases h
  | .lst _ :: _, _, h => by cases h
  | .obj _ _ :: _, _, h => by cases h
  | .st :: _, _, h => by cases h
  | .adr _ :: _, _, h => by cases h
theorem intsOf_map : ∀ (ns : List Int), intsOf (ns.map D.int) = some ns
  | [] => rfl
  | n :: ns => by rw [List.map_cons]; unfold intsOf; rw [intsOf_map]; rfl
theorem repL_int {G : Gam} {H : Hp} : ∀ {ns : List Int} {xs : List V}, RepL G H (ns.map D.int) xs → xs = ns.map V.int
  | [], _, h => by simpa [RepL] using h
  | n :: ns, _, h => by
    simp only [List.map_cons, RepL] at h
    obtain ⟨v, vs, rfl, k, r⟩ := h
    rw [rep_int.mp k, repL_int r, List.map_cons]
def maxI : List Int → Int
  | [] => 0
  | x :: l => l.foldl (fun a y => if a < y then y else a) x
section
variable {X : Cx} {J : Jx} {n : Nat}
end
section
variable {X : Cx} {J : Jx} {ω : List Nat} {a b : Expr} {fa fb : EX} {p pos : Pos} {x : Str}
end
end PL
set_option maxHeartbeats 1000000
namespace PL
open PySem PySem.Spec PyProof.Rows L2
structure NotFull (G : Gam) (C : Addr) (pre : List Str) : Prop where
  rat : G.rc ≠ C
  obj : ∀ e, G.has e = true → (G.cls e).1 = C → (G.cls e).2 ≠ pre
section
variable {G : Gam} {H : Hp} {a C dx : Addr} {done : List (Str × V)} {o : HO}
theorem FzL.insUpd {K : PySem.W.Frag} (ha : H a = some (.ins C dx done)) {b : Addr} {xs : List V} (h : FzL K H b xs) : FzL K (L2.upd H a o) b xs := by
  obtain ⟨z, h⟩ := h
  exact ⟨z, by rw [upd_ne (fun e => by rw [e, ha] at h; cases h)]; exact h⟩
theorem FzT.insUpd {K : PySem.W.Frag} (ha : H a = some (.ins C dx done)) {b : Addr} {xs : List V} (h : FzT K H b xs) : FzT K (L2.upd H a o) b xs := by
  rcases h with h | h
  · exact .inl (by rw [upd_ne (fun e => by rw [e, ha] at h; cases h)]; exact h)
  · exact .inr h
mutual
theorem Rep.insUpd (ha : H a = some (.ins C dx done)) (nf : NotFull G C (done.map (·.1))) : ∀ {d : D} {v : V}, Rep G H d v → Rep G (L2.upd H a o) d v
  | .non, _, h => by simpa only [Rep] using h
  | .bl _, _, h => by simpa only [Rep] using h
  | .int _, _, h => by simpa only [Rep] using h
  | .str _, _, h => by simpa only [Rep] using h
  | .rat _, _, h => by
    simp only [Rep] at h ⊢
    obtain ⟨b, dy, e, h⟩ := h
    exact ⟨b, dy, e, by rw [upd_ne (fun e => by rw [e, ha] at h; cases h; exact nf.rat rfl)]; exact h⟩
  | .tup l, _, h => by
    simp only [Rep] at h ⊢
    obtain ⟨b, xs, e, h, r⟩ := h
    exact ⟨b, xs, e, h.insUpd ha, RepL.insUpd ha nf r⟩
  | .lst l, _, h => by
    simp only [Rep] at h ⊢
    obtain ⟨b, xs, e, h, r⟩ := h
    exact ⟨b, xs, e, h.insUpd ha, RepL.insUpd ha nf r⟩
  | .obj c l, _, h => by
    simp only [Rep] at h ⊢
    obtain ⟨hh, b, dy, xs, e, h, hl, r⟩ := h
    refine ⟨hh, b, dy, xs, e, ?_, hl, RepL.insUpd ha nf r⟩
    rw [upd_ne]
    · exact h
    · intro e
      rw [e, ha] at h
      have h := Option.some.inj h
      injection h with h1 h2 h3
      exact nf.obj c hh h1.symm (by rw [h3, List.map_fst_zip (by omega)])
  | .st, _, h => by simpa only [Rep] using h
  | .adr _, _, h => by simpa only [Rep] using h
theorem RepL.insUpd (ha : H a = some (.ins C dx done)) (nf : NotFull G C (done.map (·.1))) : ∀ {l : List D} {xs : List V}, RepL G H l xs → RepL G (L2.upd H a o) l xs
  | [], _, h => by simpa only [RepL] using h
  | d :: l, _, h => by
    simp only [RepL] at h ⊢
    obtain ⟨v, vs, e, h, r⟩ := h
    exact ⟨v, vs, e, Rep.insUpd ha nf h, RepL.insUpd ha nf r⟩
end
theorem RepO.insUpd (ha : H a = some (.ins C dx done)) (nf : NotFull G C (done.map (·.1))) : ∀ {k : Nat} {d : D} {v : V} {F : List Addr}, RepO G H k d v F → RepO G (L2.upd H a o) k d v F
  | 0, _, _, _, h => ⟨h.1, h.2.insUpd ha nf⟩
  | k + 1, _, _, _, h => by
    obtain ⟨l, b, xs, Fs, e1, e2, hb, e3, r⟩ := h
    exact ⟨l, b, xs, Fs, e1, e2, by rw [upd_ne (fun e => by rw [e, ha] at hb; cases hb)]; exact hb, e3, r.imp fun _ _ _ _ p => RepO.insUpd ha nf p⟩
theorem RepS.insUpd {H0 : Hp} {ω : List Nat} {s : DS} {σ : St} {ρ : En} (r : RepS G H0 ω s H σ ρ) (h0 : H0 a = none) (ha : H a = some (.ins C dx done)) (nf : NotFull G C (done.map (·.1))) : RepS G H0 ω s (L2.upd H a o) σ ρ := by
  obtain ⟨F, h1, h2, h3, h4⟩ := r.sl
  refine ⟨r.gr.upd h0, fun b e => ?_, r.len, F, fun i d e => ?_, h2, h3, h4⟩
  · have hb := r.st b e
    rw [upd_ne (fun z => by rw [z, ha] at hb; cases hb)]
    exact hb
  · obtain ⟨v, e1, q⟩ := h1 i d e
    exact ⟨v, e1, q.insUpd ha nf⟩
end
section
variable {X : Cx} {J : Jx} {ω ω1 : List Nat} {st : Stmt} {rest : List Stmt} {f1 : SX} {g : En → DS → R (List D)} {a dx : Addr} {c : Nat} {pre : List Str}
end
section
variable {X : Cx} {J : Jx} {n k c : Nat} {G : Gam} {m : List D → DS → R (List D)} {f : Addr} {fd : FuncData} {ps : List Str}
end
section
variable {X : Cx} {J : Jx} {ω : List Nat} {pos : Pos} {x : Str}
end
end PL
set_option maxHeartbeats 1000000
namespace PL
open PySem PySem.Spec PyProof.Rows L2
section
variable {G : Gam} {th : Option Addr} {c j : Nat} {ns : List Str} {f : Str}
theorem fj (h : (G.cls c).2 = ns) (e : ns.idxOf f = j) : ((G.at th).cls c).2.idxOf f = j := by
  show (G.cls c).2.idxOf f = j
  rw [h]; exact e
theorem NotFull.at {C : Addr} (h : NotFull G C ns) (th : Option Addr) : NotFull (G.at th) C ns := ⟨h.rat, h.obj⟩
end
end PL
set_option maxHeartbeats 1000000
namespace PL
open PySem PySem.Spec PyProof.Rows L2
section
variable {s : DS} {ρ : En} {x y : EX} {f : SX} {vs : List Nat} {r : Rat → Rat → M D} {d : D}
theorem a_wipe : sWipe vs f ρ s = RS.wipe vs (f ρ s) := (rfl)
theorem w_nx : RS.wipe vs (.go .nx ρ s) = .go .nx (wipeE ρ vs) s := (rfl)
theorem w_rt : RS.wipe vs (.go (.rt d) ρ s) = .go (.rt d) ρ s := (rfl)
theorem w_bk : RS.wipe vs (.go .bk ρ s) = .go .bk ρ s := (rfl)
theorem w_ct : RS.wipe vs (.go .ct ρ s) = .go .ct ρ s := (rfl)
theorem w_err {e : Exn} : RS.wipe vs (.err e ρ s) = .err e ρ s := (rfl)
theorem w_bad : RS.wipe vs .bad = .bad := (rfl)
theorem a_brkW : sBrkW vs ρ s = .go .bk (wipeE ρ vs) s := (rfl)
theorem a_cntW : sCntW vs ρ s = .go .ct (wipeE ρ vs) s := (rfl)
theorem a_retE : sRetE x ρ s = RE (x ρ s) ρ fun d s' => .go (.rt d) [] s' := (rfl)
theorem a_retNE : sRetNE ρ s = .go (.rt .non) [] s := (rfl)
theorem a_raise {e : Exn} : sRaise e ρ s = .err e ρ s := (rfl)
theorem a_never : sNever ρ s = .bad := (rfl)
theorem d_addII {a b : Int} : dAddG r (.int a) (.int b) s = .ok (.int (a + b)) s := rfl
theorem d_isi2 {t t2 : Tg} {d : D} : dIsi2 t t2 d s = if okIs d = true then .ok (.bl (t.has d || t2.has d)) s else .bad := by
  unfold dIsi2
  rw [a_ite]; rfl
theorem d_addLG {a b : List D} (h : a.length + b.length ≤ 1000000) : dAddG r (.lst a) (.lst b) s = .ok (.lst (a ++ b)) s := by
  show (if a.length + b.length ≤ 1000000 then (pure (.lst (a ++ b)) : M D) else bad) s = _
  rw [if_pos h]; rfl
end
end PL
set_option maxHeartbeats 1000000
namespace PL
open PySem PySem.Spec PyProof.Rows L2
section
variable {ρ : En} {s : DS} {e : EX} {t : En → M Bool} {g : En → DS → R (List D)} {vs : List Nat} {i : Nat} {x : Exn} {a : Addr}
end
end PL
set_option maxHeartbeats 1000000
namespace PL
open PySem PySem.Spec PyProof.Rows L2
def rw1 (n : Nat) (f : Nat → D) : List D := (List.range n).map f
def upd2 {α : Type} (A : Nat → Nat → α) (x y : Nat) (v : α) : Nat → Nat → α := fun a b => if a = x ∧ b = y then v else A a b
theorem rw1_length (n : Nat) (f : Nat → D) : (rw1 n f).length = n := by simp [rw1]
theorem rw1_get {n : Nat} {f : Nat → D} {x : Nat} (h : x < n) : (rw1 n f)[x]? = some (f x) := by
  unfold rw1
  rw [List.getElem?_map, List.getElem?_range h]; rfl
theorem rw1_congr {n : Nat} {f g : Nat → D} (h : ∀ x, x < n → f x = g x) : rw1 n f = rw1 n g := by
  unfold rw1
  exact List.map_congr_left fun x m => h x (List.mem_range.mp m)
theorem rw1_set {n : Nat} {f : Nat → D} {x : Nat} {v : D} : (rw1 n f).set x v = rw1 n fun y => if y = x then v else f y := by
  apply List.ext_getElem?
  intro i
  by_cases h : i < n
  · rw [rw1_get h, List.getElem?_set, rw1_get h, rw1_length]
    by_cases e : x = i
    · subst e; simp [h]
    · rw [if_neg e, if_neg (fun z => e z.symm)]
  · rw [List.getElem?_eq_none (by rw [List.length_set, rw1_length]; omega), List.getElem?_eq_none (by rw [rw1_length]; omega)]
theorem ixN_nat {n x : Nat} (h : x < n) : ixN n (x : Int) = some x := by
  unfold ixN
  simp [h]
theorem atI_rw {n x : Nat} {f : Nat → D} (h : x < n) : atI (rw1 n f) (x : Int) = some (f x) := by
  unfold atI
  rw [rw1_length, ixN_nat h]
  exact rw1_get h
section
variable {s : DS} {ρ : En} {x y e : EX} {f : Nat → D} {A : Nat → Nat → D} {n a b i : Nat} {vs : List Nat} {t : En → M Bool}
theorem d_ixL (h : a < n) : dIdx (.lst (rw1 n f)) (.int a) s = .ok (f a) s := by rw [d_idxL, atI_rw h]
theorem d_ixT (h : a < n) : dIdx (.tup (rw1 n f)) (.int a) s = .ok (f a) s := by rw [d_idxT, atI_rw h]
theorem d_lenrT : dLen (.tup (rw1 n f)) s = .ok (.int n) s := by rw [d_lenT, rw1_length]
theorem a_asgT {g : D → SX} : sAsgT g e ρ s = RE (e ρ s) ρ fun d s' => g d ρ s' := rfl
theorem rangeL_nat (n : Nat) : rangeL 0 (n : Int) = (List.range n).map fun (k : Nat) => D.int k := by
  unfold rangeL
  simp
theorem small_nat (h : n ≤ 1000000) : small62 (n : Int) = true := by
  rw [small62_iff]
  omega
end
section
variable {s : DS} {ρ : En} {i : Nat} {b : SX} {x : EX}
end
end PL
set_option maxHeartbeats 1000000
namespace PL
open PySem PySem.Spec PyProof.Rows L2
def forRD (g : D → En → Option En) (b : SX) (d : D) (ρ : En) (s : DS) : RS := match d with
  | .int n => if small62 n = true then forL g b (rangeL 0 n) ρ s else .bad
  | _ => .bad
def forRD2 (g : D → En → Option En) (b : SX) (d e : D) (ρ : En) (s : DS) : RS := match d, e with
  | .int m, .int n => if (small62 m && small62 n) = true then forL g b (rangeL m n) ρ s else .bad
  | _, _ => .bad
def srcRD (d : D) (s : DS) : R (List D) := match d with
  | .int n => if small62 n = true then .ok (rangeL 0 n) s else .bad
  | _ => .bad
def srcRD2 (d e : D) (s : DS) : R (List D) := match d, e with
  | .int m, .int n => if (small62 m && small62 n) = true then .ok (rangeL m n) s else .bad
  | _, _ => .bad
def compR (g : D → En → Option En) (t : En → M Bool) (x : EX) (ρ0 : En) (l : List D) (s : DS) : R D := if l.length ≤ 1000000 then compA g t x ρ0 [] l s else .bad
section
variable {s : DS} {ρ : En} {x y e : EX} {n m i : Nat} {b : SX} {g : D → En → Option En} {t : En → M Bool} {src : En → M (List D)} {vs : List Nat}
theorem a_forRn : sForR1 x g b ρ s = RE (x ρ s) ρ fun d s1 => forRD g b d ρ s1 := by rw [a_forR1]; rfl
theorem a_forRn2 : sForR2 x y g b ρ s = RE (x ρ s) ρ fun d s1 => RE (y ρ s1) ρ fun e s2 => forRD2 g b d e ρ s2 := by
  show RE (R.bnd (x ρ s) fun d s1 => R.bnd (y ρ s1) fun e s2 => R.ok (d, e) s2) ρ _ = _
  cases x ρ s with
  | ok d s1 =>
    show RE (R.bnd (y ρ s1) fun e s2 => R.ok (d, e) s2) ρ _ = RE (y ρ s1) ρ _
    cases y ρ s1 with
    | ok e s2 =>
      show (match (d, e) with | (.int m, .int n) => if (small62 m && small62 n) = true then forL g b (rangeL m n) else fun _ _ => RS.bad | _ => fun _ _ => RS.bad) ρ s2 = forRD2 g b d e ρ s2
      unfold forRD2
      cases d <;> cases e <;> first | rfl | skip
      dsimp only
      split <;> rfl
    | err e s2 => rfl
    | bad => rfl
  | err e s1 => rfl
  | bad => rfl
theorem d_forR (h : n ≤ 1000000) : forRD g b (.int n) ρ s = forL g b ((List.range n).map fun (k : Nat) => D.int k) ρ s := by
  rw [forRD.eq_1, if_pos (small_nat h), rangeL_nat]
theorem a_srcRn : srcR1 x ρ s = R.bnd (x ρ s) fun d s1 => srcRD d s1 := by rw [a_srcR1]; rfl
theorem a_srcRn2 : srcR2 x y ρ s = R.bnd (x ρ s) fun d s1 => R.bnd (y ρ s1) fun e s2 => srcRD2 d e s2 := by rw [a_srcR2]; rfl
theorem d_srcR (h : n ≤ 1000000) : srcRD (.int n) s = .ok ((List.range n).map fun (k : Nat) => D.int k) s := by
  rw [srcRD.eq_1, if_pos (small_nat h), rangeL_nat]
theorem a_compR : cComp src g t x vs ρ s = R.bnd (src ρ s) fun l s1 => compR g t x (wipeE ρ vs) l s1 := a_comp
theorem c_map {α : Type} {h : α → D} {as : List α} {ρ0 : En} (f : α → D) (hn : as.length ≤ 1000000) (he : ∀ a ∈ as, ∀ s, x (ρ0.set i (some (h a))) s = .ok (f a) s) : compR (gSet i) tYesD x ρ0 (as.map h) s = .ok (.lst (as.map f)) s := by
  unfold compR
  rw [if_pos (by simpa using hn), comp_map h (fun _ => true) f _ [] (fun a _ s => t_yes) (fun a m _ s => he a m s), List.filter_eq_self.mpr (fun _ _ => rfl), List.nil_append]
theorem c_filter {α : Type} {h : α → D} {as : List α} {ρ0 : En} (p : α → Bool) (f : α → D) (hn : as.length ≤ 1000000) (ht : ∀ a ∈ as, ∀ s, t (ρ0.set i (some (h a))) s = .ok (p a) s) (he : ∀ a ∈ as, p a = true → ∀ s, x (ρ0.set i (some (h a))) s = .ok (f a) s) :
    compR (gSet i) t x ρ0 (as.map h) s = .ok (.lst ((as.filter p).map f)) s := by
  unfold compR
  rw [if_pos (by simpa using hn), comp_map h p f _ [] ht he, List.nil_append]
theorem c_rng {ρ0 : En} (f : Nat → D) (hn : n ≤ 1000000) (he : ∀ a, a < n → ∀ s, x (ρ0.set i (some (.int a))) s = .ok (f a) s) : compR (gSet i) tYesD x ρ0 ((List.range n).map fun (k : Nat) => D.int k) s = .ok (.lst (rw1 n f)) s :=
  c_map f (by simpa using hn) fun a m s => he a (List.mem_range.mp m) s
theorem c_rw {ρ0 : En} {h : Nat → D} (f : Nat → D) (hn : n ≤ 1000000) (he : ∀ a, a < n → ∀ s, x (ρ0.set i (some (h a))) s = .ok (f a) s) : compR (gSet i) tYesD x ρ0 (rw1 n h) s = .ok (.lst (rw1 n f)) s :=
  c_map f (by simpa using hn) fun a m s => he a (List.mem_range.mp m) s
end
end PL
set_option maxHeartbeats 1000000
namespace PL
open PySem PySem.Spec PyProof.Rows L2
def insI (x : Int) : List Int → List Int
  | [] => [x]
  | y :: l => if x ≤ y then x :: y :: l else y :: insI x l
def srtI : List Int → List Int
  | [] => []
  | x :: l => insI x (srtI l)
def dSum : D → M D
  | .lst l => match intsOf l with
    | some ns => pure (.int ns.sum)
    | none => bad
  | _ => bad
section
variable {X : Cx} {J : Jx} {ω : List Nat} {a : Expr} {fa : EX} {p pos : Pos}
theorem e_sum (ok : Ok X J) (hK : X.K = J.G.K) (hg : Gl X "sum") (hm : X.mg "sum" = none) (ha : EJ X J ω a fa) (hs : starEach [a] X.env = (false, eval a X.env) :: starEach [] X.env := by rfl) (hpl : (backTo pos (starEach [] X.env)).any (·.1) = false := by rfl) :
    EJ X J ω (.Call (.Name "sum" p) [a] [] pos) (cUn dSum fa) :=
  (pe_callB (cr_sum ok.calm) hg hm (by rfl) (pa_cons ha pa_nil hs) (by decide) (by decide) hs hpl).imp fun σ H Q h => by
    obtain ⟨ρ, s, r, q⟩ := h
    refine tG.step r q fun v H1 d s1 g1 r1 k1 q1 => ?_
    cases d with
    | lst m =>
      have q2 : Post J σ H _ Q ((match intsOf m with | some ns => pure (.int ns.sum) | none => bad : M D) s1) := q1
      cases hi : intsOf m with
      | none => simp only [hi] at q2; exact q2.elim
      | some ns =>
        simp only [hi] at q2
        cases intsOf_eq hi
        have k1 : Rep J.G H1 (.lst (ns.map D.int)) v := k1
        simp only [Rep] at k1
        obtain ⟨a, xs, rfl, hq, rl⟩ := k1
        cases repL_int rl
        exact ⟨a, ns, rfl, (show SqL X.K H1 a _ by rw [hK]; exact hq.seq), q2 _ H1 g1 r1.st (rep_int.mpr rfl)⟩
    | _ => exact q1.elim
theorem d_sum {ns : List Int} {s : DS} : dSum (.lst (ns.map D.int)) s = .ok (.int ns.sum) s := by
  unfold dSum
  simp only [intsOf_map]
  rfl
end
section
variable {X : Cx} {J : Jx} {ω ω' : List Nat} {pos : Pos}
end
end PL
set_option maxHeartbeats 1000000
namespace PL
open PySem PySem.Spec PyProof.Rows L2
abbrev TI := Int × List Int
section
variable {X : Cx} {J : Jx} {ω : List Nat} {a : Expr} {fa : EX} {p pos : Pos}
end
end PL
set_option maxHeartbeats 1000000
namespace PL
open PySem PySem.Spec PyProof.Rows L2
def cChain (op op' : D → D → M D) (a b c : EX) : EX := fun ρ => do
  let x ← a ρ
  let y ← b ρ
  let z ← op x y
  match z with
  | .bl true => do let w ← c ρ; op' y w
  | .bl false => pure (.bl false)
  | _ => bad
section
variable {X : Cx} {J : Jx} {ω : List Nat} {a b c : Expr} {fa fb fc : EX} {pos : Pos}
theorem tG.chain {op op' : D → D → M D} {σ : St} {H : Hp} {Q : VK} (ne : NoErr2 op) (ne' : NoErr2 op') (h : tG J ω (κV J.G) (cChain op op' fa fb fc) σ H Q) : tChain (rD J.G op) (rD J.G op') (tG J ω (κV J.G) fa) (tG J ω (κV J.G) fb) (tG J ω (κV J.G) fc) σ H Q := by
  obtain ⟨ρ, s, r, q⟩ := h
  refine tG.step r q fun x H1 dx s1 g1 r1 kx q1 => ?_
  refine tG.step r1 (q1.mono g1 (κ' := fun d v H' => Rep J.G H' d v) fun _ _ _ _ k => k) fun y H2 dy s2 g2 r2 ky q2 => ?_
  have q2 : Post J σ H1 (fun d v H' => Rep J.G H' d v) Q (M.bnd (op dx dy) (fun z => match z with
    | .bl true => M.bnd (fc ρ) fun w => op' dy w
    | .bl false => pure (.bl false)
    | _ => bad) s2) := q2
  unfold M.bnd at q2
  cases e : op dx dy s2 with
  | ok d s3 =>
    rw [e] at q2
    cases d with
    | bl k =>
      refine ⟨dx, dy, s2, .bl k, s3, r2.st, kx.mono g2.imm, ky, e, fun v H3 g3 t3 k3 => ⟨k, rep_bl.mp k3, ?_⟩⟩
      have r3 := r2.mono g3 t3
      have q3 := q2.mono (g2.trans g3) (κ' := fun d v H' => Rep J.G H' d v) fun _ _ _ _ k => k
      cases k with
      | false => exact q3 _ H3 (Gr.refl _ _) t3 (rep_bl.mpr rfl)
      | true =>
        show tG J ω (κV J.G) fc σ H3 _
        refine tG.step r3 q3 fun w H4 dw s4 g4 r4 kw q4 => ?_
        cases e4 : op' dy dw s4 with
        | ok d s5 =>
          rw [e4] at q4
          exact ⟨dy, dw, s4, d, s5, r4.st, ky.mono (g3.trans g4).imm, kw, e4, fun v H5 g5 t5 k5 => q4 v H5 (g4.trans g5) t5 k5⟩
        | err x s5 => exact absurd e4 (ne' _ _ _ _ _)
        | bad => rw [e4] at q4; exact q4.elim
    | _ => exact q2.elim
  | err x s3 => exact absurd e (ne _ _ _ _ _)
  | bad => rw [e] at q2; exact q2.elim
theorem e_chain {op op' : CmpOp} {d d' : D → D → M D} (ne : NoErr2 d) (ne' : NoErr2 d') (ho : OpR X (compareOp op) (rD J.G d)) (ho' : OpR X (compareOp op') (rD J.G d')) (ha : EJ X J ω a fa) (hb : EJ X J ω b fb) (hc : EJ X J ω c fc)
    (hm : lastMarks [op, op'] [b, c] = false := by with_unfolding_all rfl) : EJ X J ω (.Compare a [op, op'] [b, c] pos) (cChain d d' fa fb fc) :=
  (pe_chain ho ho' ha hb hc hm).imp fun _ _ _ h => h.chain ne ne'
end
end PL
set_option maxHeartbeats 4000000
namespace PySup
open PySem PySem.W PySem.Calls PyProof.Rows
section
variable {prog : Program} {w : World} {M : Model} {A : Around} {E : Value → Shared → Prop} {h : Heap} {g : Array GenState} {d : Drawn} {t : Nat} {os : OsState}
variable {nm q : Str} {C N : Addr} {bs bm : List Value} {hdct : Bool} {sn : List Str} {sub : List Value} {ab : Bool} {col : Option Bool} {dd : Option Addr} {k0 k1 k2 k3 k5 : Option Value}
end
end PySup
namespace PL
open PySem PySem.Spec PyProof.Rows L2
structure SupF (P : Program) (K : PySem.W.Frag) (mg : Str → Option Value) (C f : Addr) (x qual fld : Str) (params : Arguments) (body : List Stmt) (scope : Scope) (fd : FuncData) : Prop where
  oex : OexC K C
  fn : ∃ (oc : Value) (od : Option Addr) (kV doc pm : Value) (an : Option Addr) (cda : Addr) (ct : Value) (osl : Array (Option Value)) (cc : Addr) (cl : Value) (cld : Option Addr) (csl : Array (Option Value)) (vs : Array Value) (file : Str) (tf : Tok) (dcl : Value) (dcd : Option Addr) (dcs : Array (Option Value)),
    fd = PySem.W.fnX x qual params body scope [("__class__", cc)] .none kV doc pm an (.ref cda) ct ∧ K.lookup f = some ⟨oc, od, .func fd, osl⟩ ∧ PySem.W.codeIn K (.ref cda) qual = true ∧ K.lookup cc = some ⟨cl, cld, .cell (some (.ref C)), csl⟩ ∧
      K.lookup cda = some ⟨dcl, dcd, .fields vs, dcs⟩ ∧ vs[2]? = some (.str file tf) ∧ ((P.main.file : Str) == file) = true
  top : (P.main.scope.names.lookup ("super" : Str)).isSome = false
  sup : mg "super" = none
  thp : PySem.W.nsIn K cStatics "thirdparty.any" = some none
  along : PySem.W.ks_superIn K C C "__init__" = some (some (.builtin "ValueError.__init__"))
  sub : PySem.W.subIn K (.ref C) (.type "ValueError") = some true
  mro : PySem.W.mroIn K C (.ref C) = some true
  nof : PySem.W.findIn K (.ref C) fld = some none
  ini : PySem.W.findIn K (.ref C) "__init__" = some (some (.ref f))
  tyi : PySem.W.typeIn K (.ref f) = some (.type "function")
end PL
namespace PL
open PySem PySem.Spec PyProof.Rows L2
structure XfF (mg : Str → Option Value) (G : Gam) (c : Nat) (x fld : Str) (f : Addr) : Prop where
  g : mg x = some (.ref (G.exc c).1)
  fs : (G.exc c).2 = [fld]
  hx : G.hx c = true
  oex : OexC G.K (G.exc c).1
  ini : PySem.W.findIn G.K (.ref (G.exc c).1) "__init__" = some (some (.ref f))
  tyi : PySem.W.typeIn G.K (.ref f) = some (.type "function")
theorem XfF.at {mg : Str → Option Value} {G : Gam} {c : Nat} {x fld : Str} {f : Addr} (F : XfF mg G c x fld f) (th : Option Addr) : XfF mg (G.at th) c x fld f := ⟨F.g, F.fs, F.hx, F.oex, F.ini, F.tyi⟩
theorem XfF.names {X : Cx} {G : Gam} {c : Nat} {x fld : Str} {f : Addr} (F : XfF X.mg G c x fld f) (hg : Gl X x) (hdb : (x == ("__debug__" : Str)) = false := by decide) : Names X x (.ref (G.exc c).1) := ⟨hg, hdb, .inl F.g⟩
end PL
set_option maxHeartbeats 4000000
namespace PL
open PySem PySem.Spec PyProof.Rows L2
abbrev Clz := Value × Option Nat × (Addr → Value → Option Addr → TS)
inductive HdG (X : Cx) : List ExceptHandler → List Clz → Prop
  | nil : HdG X [] []
  | plain {x : Str} {c : Value} {ts : Addr → Value → Option Addr → TS} {st0 : Stmt} {sts : List Stmt} {q1 q2 : Pos} {more : List ExceptHandler} {l : List Clz} (hc : Names X x c)
      (hsu : ∀ (a : Addr) (oe : Obj) (cls : Value) (d : Option Addr) (pn : List (Addr × Obj)), Zc cls d oe → (∃ vs, oe.data = .fields vs) → PSs (X.suite a ((a, oe) :: pn)) (st0 :: sts) (ts a cls d)) (r : HdG X more l) :
      HdG X (.ExceptHandler (some (.Name x q1)) none (st0 :: sts) q2 :: more) ((c, none, ts) :: l)
  | named {x n : Str} {c : Value} {i : Nat} {ts : Addr → Value → Option Addr → TS} {st0 : Stmt} {sts : List Stmt} {q1 q2 : Pos} {more : List ExceptHandler} {l : List Clz} (hc : Names X x c) (hi : X.N[i]? = some n) (hln : X.env.kindOf n = some .local)
      (hsu : ∀ (a : Addr) (oe : Obj) (cls : Value) (d : Option Addr) (pn : List (Addr × Obj)), Zc cls d oe → (∃ vs, oe.data = .fields vs) → PSs (X.suite a ((a, oe) :: pn)) (st0 :: sts) (ts a cls d)) (r : HdG X more l) :
      HdG X (.ExceptHandler (some (.Name x q1)) (some n) (st0 :: sts) q2 :: more) ((c, some i, ts) :: l)
section
variable {X : Cx} {body : List Stmt} {hd0 : ExceptHandler} {more : List ExceptHandler} {l : List Clz} {pos : Pos} {tb : WX → TS} {Wo : WX}
end
open Classical in
def RS.drop (i : Nat) : RS → RS
  | .go (.rt d) ρ s => .go (.rt d) ρ s
  | .go fl ρ s => .go fl (ρ.set i none) s
  | .err _ _ _ => .bad
  | .bad => .bad
abbrev ClM := (Nat → Bool) × Option Nat × (Addr → Exn → SX)
def Jx.suiteX (J : Jx) (H0 : Hp) : Jx := ⟨J.G, fun _ _ _ _ => False, fun _ => True, H0, J.P⟩
section
variable {G : Gam} {H0 H H1 : Hp} {ω : List Nat} {s : DS} {σ : St} {ρ : En} {d : Option Addr}
end
structure XFa (G : Gam) (H0 : Hp) (x : Exn) (oe : Obj) (cls : Value) (d : Option Addr) : Prop where
  z : Zc cls d oe
  f : ∃ vs, oe.data = .fields vs
  c : cls = .ref (G.exc x.c).1
  h : G.hx x.c = true
  l : (G.exc x.c).2 ≠ [] → ∃ dd xs, d = some dd ∧ H0 dd = some (.xd ((G.exc x.c).2.zip xs)) ∧ xs.length = (G.exc x.c).2.length ∧ ∀ (j : Nat) (dj : D), x.l[j]? = some dj → flatD dj = true → xs[j]? = some (toV dj)
section
variable {X : Cx} {J : Jx} {ω ω' ωb ωc : List Nat} {pos : Pos}
inductive HdJ (X : Cx) (J : Jx) (ω ω' ωb ωc : List Nat) : List ExceptHandler → List ClM → Prop
  | nil : HdJ X J ω ω' ωb ωc [] []
  | plain {x : Str} {cv : Value} {ct : Nat → Bool} {g : Addr → Exn → SX} {st0 : Stmt} {sts : List Stmt} {q1 q2 : Pos} {more : List ExceptHandler} {l : List ClM} (hc : Names X x cv)
      (hx : ∀ c, J.G.hx c = true → PySem.W.exmOne X.K (.ref (J.G.exc c).1) cv = some (ct c))
      (hg : ∀ (a : Addr) (oe : Obj) (cls : Value) (d : Option Addr) (pn : List (Addr × Obj)) (H0 : Hp) (xn : Exn), ct xn.c = true → XFa J.G H0 xn oe cls d → SsJ (X.suite a ((a, oe) :: pn)) (J.suiteX H0) ω ω' ωb ωc (st0 :: sts) (g a xn))
      (r : HdJ X J ω ω' ωb ωc more l) : HdJ X J ω ω' ωb ωc (.ExceptHandler (some (.Name x q1)) none (st0 :: sts) q2 :: more) ((ct, none, g) :: l)
  | named {x n : Str} {cv : Value} {ct : Nat → Bool} {i : Nat} {g : Addr → Exn → SX} {st0 : Stmt} {sts : List Stmt} {q1 q2 : Pos} {more : List ExceptHandler} {l : List ClM} (hc : Names X x cv) (hi : X.N[i]? = some n) (hln : X.env.kindOf n = some .local)
      (hx : ∀ c, J.G.hx c = true → PySem.W.exmOne X.K (.ref (J.G.exc c).1) cv = some (ct c))
      (hg : ∀ (a : Addr) (oe : Obj) (cls : Value) (d : Option Addr) (pn : List (Addr × Obj)) (H0 : Hp) (xn : Exn), ct xn.c = true → XFa J.G H0 xn oe cls d → SsJ (X.suite a ((a, oe) :: pn)) (J.suiteX H0) (ω.set i 0) ω' ωb ωc (st0 :: sts) (g a xn))
      (r : HdJ X J ω ω' ωb ωc more l) : HdJ X J ω ω' ωb ωc (.ExceptHandler (some (.Name x q1)) (some n) (st0 :: sts) q2 :: more) ((ct, some i, g) :: l)
structure XfR (K : PySem.W.Frag) (C : Addr) (fld : Str) : Prop where
  xf : XfC K C
  no : PySem.W.findIn K (.ref C) fld = some none
end
section
variable {ρ : En} {s : DS} {a : Addr} {x : Exn} {f : SX} {l : List ClM} {ct : Nat → Bool} {g : Addr → Exn → SX} {i j : Nat} {d : D} {fl : Fl} {e : Exn}
end
end PL
set_option maxHeartbeats 4000000
namespace PLC
open PySem PySem.Spec PyProof.Rows L2
section
variable {M : Model} {A : Around} {E : Value → Shared → Prop} {s : Shared} {env : Env}
end
section
variable {M : Model} {A : Around} {E : Value → Shared → Prop} {s : Shared} {Z : Obj → Prop} {B : Heap} {env : Env} {outer : List Env} {L C a : Addr}
end
section
variable {B B2 h h2 : Heap} {C : Addr}
end
section
variable {X : Cx}
end
end PLC
set_option maxHeartbeats 4000000
namespace PL
open PySem PySem.Spec PyProof.Rows L2 PLC
section
variable {X : Cx} {J : Jx} {ω ω1 ω' ωb ωc : List Nat} {tg iter elt : Expr} {ifs : List Expr} {pos spos py : Pos} {src : En → M (List D)} {gt : TG} {g : D → En → Option En} {t : En → M Bool} {e : EX} {scope : Scope} {own : List (Str × Nat)} {k : Nat} {y : Str}
end
section
variable {s : DS} {ρ ρ0 : En} {x : EX} {g : D → En → Option En} {t : En → M Bool} {src : En → M (List D)} {vs : List Nat} {i : Nat} {d : D} {l acc : List D}
end
end PL
set_option maxHeartbeats 1000000
namespace PL
open PySem PySem.Spec PyProof.Rows L2
mutual
def pd : D → PyData
  | .non => .none
  | .bl b => .bool b
  | .int i => .int i
  | .str s => .str s
  | .tup l => .tuple (pdL l)
  | .lst l => .list (pdL l)
  | .rat _ => .dict []
  | .obj _ _ => .dict []
  | .st => .dict []
  | .adr _ => .dict []
def pdL : List D → List PyData
  | [] => []
  | d :: l => pd d :: pdL l
end
def pdOk (x : PyData) : Bool := PySem.W.alike x x
mutual
theorem pd_dp {G : Gam} {H : Hp} : ∀ (d : D) (v : V), pdOk (pd d) = true → Rep G H d v → Dp G.K H v (pd d)
  | .non, v, _, h => by cases rep_non.mp h; exact .non
  | .bl b, v, _, h => by cases rep_bl.mp h; exact .bl b
  | .int i, v, _, h => by cases rep_int.mp h; exact .int i
  | .str s, v, _, h => by cases rep_str.mp h; exact .str s
  | .tup l, v, o, h => by
    have h : Rep G H (.tup l) v := h
    simp only [Rep] at h
    obtain ⟨a, xs, rfl, hq, rl⟩ := h
    exact .tup hq.seq (pdL_dp l xs (by simpa [pdOk, pd, PySem.W.alike] using o) rl)
  | .lst l, v, o, h => by
    have h : Rep G H (.lst l) v := h
    simp only [Rep] at h
    obtain ⟨a, xs, rfl, hq, rl⟩ := h
    exact .lst hq.seq (pdL_dp l xs (by simpa [pdOk, pd, PySem.W.alike] using o) rl)
  | .rat _, _, o, _ => by simp [pdOk, pd, PySem.W.alike] at o
  | .obj _ _, _, o, _ => by simp [pdOk, pd, PySem.W.alike] at o
  | .st, _, o, _ => by simp [pdOk, pd, PySem.W.alike] at o
  | .adr _, _, o, _ => by simp [pdOk, pd, PySem.W.alike] at o
theorem pdL_dp {G : Gam} {H : Hp} : ∀ (l : List D) (vs : List V), PySem.W.alikeAll (pdL l) (pdL l) = true → RepL G H l vs → DpAll G.K H vs (pdL l)
  | [], vs, _, h => by simp only [RepL] at h; subst h; exact .nil
  | d :: l, vs, o, h => by
    simp only [RepL] at h
    obtain ⟨v, us, rfl, k, r⟩ := h
    have o2 : PySem.W.alike (pd d) (pd d) = true ∧ PySem.W.alikeAll (pdL l) (pdL l) = true := by simpa [pdL, PySem.W.alikeAll] using o
    exact .cons (pd_dp d v o2.1 k) (pdL_dp l us o2.2 r)
end
structure CmpOk (x y : PyData) : Prop where
  al : PySem.W.alike x y = true
  l : pdOk x = true
  r : pdOk y = true
  nn : x ≠ .none
  dep : x.depth ≤ 8
section
variable {X : Cx} {J : Jx} {n : Nat}
end
structure SrtOk (l : List D) : Prop where
  len : l.length < 4096
  al : ∀ a, a ∈ l → ∀ b, b ∈ l → PySem.W.alike (pd a) (pd b) = true
  kind : PySem.W.Sortable (l.map pd)
  dep : ∀ a, a ∈ l → (pd a).depth ≤ 8
section
variable {X : Cx} {J : Jx} {ω : List Nat} {a : Expr} {fa : EX} {p pos : Pos}
end
end PL
set_option maxHeartbeats 1000000
namespace PL
open PySem PySem.Spec PyProof.Rows L2
def IterA (G : Gam) (H : Hp) (l : List D) (J0 : It) : Prop := ∃ good : Hp → Prop, good H ∧ (∀ H H', Ex H H' → good H → good H') ∧ (∀ i H, good H → i < l.length → J0.go i H) ∧
  (∀ i H x H' s, good H → StOk G s H → i < l.length → J0.yld i H x H' → Gr G H H' ∧ StOk G s H' ∧ ∀ d, l[i]? = some d → Rep G H' d x) ∧ (∀ H, good H → J0.stop l.length H)
def κA (G : Gam) : Hp → List D → It → Hp → Prop := fun _ l J0 H' => IterA G H' l J0
abbrev SrcA (X : Cx) (J : Jx) (ω : List Nat) (tg iter : Expr) (src : En → M (List D)) : Prop := PI X tg iter (tG (β := It) J ω (κA J.G) src)
section
variable {X : Cx} {J : Jx} {ω ω1 ω' ωb ωc : List Nat} {tg iter elt : Expr} {ifs : List Expr} {pos : Pos} {src : En → M (List D)} {gt : TG} {g : D → En → Option En} {t : En → M Bool} {e : EX} {scope : Scope} {own : List (Str × Nat)} {k : Nat} {body : List Stmt} {b : SX}
theorem tLc_A {σ : St} {H : Hp} {Q : VK} {vs : List Nat} (gs : GS J.G J.H0 ω ω1 gt g vs) (h : tG J ω (κO J.G (k + 1)) (cComp src g t e vs) σ H Q) :
    tLc (tG (β := It) J ω (κA J.G) src) gt (tG J.suite ω1 κT t) (tG J.suite ω1 (κO J.G k) e) vs σ H Q := by
  obtain ⟨ρ, s, r, q⟩ := h
  refine tG.step r q fun J0 H1 l s1 g1 r1 k1 q1 A hA => ?_
  have hth : J.G.th ≠ some A := th_there r1.st hA
  obtain ⟨good, gd0, gm, nxt, yl, stp⟩ := k1
  have q1 : Post J σ H (κO J.G (k + 1) H) Q ((if l.length ≤ 1000000 then compA g t e (wipeE ρ vs) [] l else bad : M D) s1) := q1
  by_cases hl : l.length ≤ 1000000
  · rw [if_pos hl] at q1
    refine ⟨fun i m H' => m = l.length - i ∧ i ≤ l.length ∧ Gr J.G H1 H' ∧ ∃ s acc ys Fs, StOk J.G s H' ∧ H' A = some (.lst ys) ∧ All3 (RepO J.G H' k) acc ys Fs ∧ Fs.flatten.Nodup ∧ (∀ a ∈ Fs.flatten, H1 a = none ∧ a ≠ A) ∧ acc.length ≤ i ∧
      Post J σ H (κO J.G (k + 1) H) Q (compA g t e (wipeE ρ vs) acc (l.drop i) s), ⟨l.length, by simp, Nat.zero_le _, Gr.new hA, s1, [], [], [], fun a e => by rw [upd_ne (ne_of_none (r1.st a e) hA)]; exact r1.st a e, upd_same, .nil, List.nodup_nil, fun a (m : a ∈ ([] : List Addr)) => (List.not_mem_nil m).elim, Nat.le_refl _, by simpa using q1⟩, ?_⟩
    rintro i m H2' ⟨rfl, hi, g2', s2, acc, ys, Fs, st2', hA2', p2', nd2, fr2, al2, q2⟩
    have gd2 := gm _ _ g2'.imm gd0
    by_cases hlt : i < l.length
    · refine .inr ⟨nxt i H2' gd2 hlt, fun H' => Gr J.G H1 H' ∧ ∃ s acc ys Fs, StOk J.G s H' ∧ H' A = some (.lst ys) ∧ All3 (RepO J.G H' k) acc ys Fs ∧ Fs.flatten.Nodup ∧ (∀ a ∈ Fs.flatten, H1 a = none ∧ a ≠ A) ∧ acc.length ≤ i + 1 ∧
        Post J σ H (κO J.G (k + 1) H) Q (compA g t e (wipeE ρ vs) acc (l.drop (i + 1)) s), fun H' z => ⟨l.length - (i + 1), by omega, rfl, hlt, z⟩, fun x H2 y => ?_⟩
      obtain ⟨gy, st2, rd⟩ := yl i H2' x H2 s2 gd2 st2' hlt y
      have g2 := g2'.trans gy
      have hA2 : H2 A = some (.lst ys) := gy.all A _ hth hA2'
      have p2 : All3 (RepO J.G H2 k) acc ys Fs := p2'.imp fun a b c m p => RepO.mono gy (fun z hz => th_there r1.st (fr2 z (List.mem_flatten.mpr ⟨c, m, hz⟩)).1) p
      have rd := rd l[i] (List.getElem?_eq_getElem hlt)
      have edr : l.drop i = l[i] :: l.drop (i + 1) := List.drop_eq_getElem_cons hlt
      rw [edr] at q2
      unfold compA at q2
      cases eg : g l[i] (wipeE ρ vs) with
      | none => rw [eg] at q2; exact q2.elim
      | some ρ1 =>
        rw [eg] at q2
        refine gs x l[i] (wipe σ vs) _ (wipeE ρ vs) s2 ρ1 _ ((r1.mono g2 st2).wipe vs) rd eg fun σ2 r2 hw => ⟨hw.trans wipe_wipe, ρ1, s2, r2, ?_⟩
        have q2 : Post J σ H (κO J.G (k + 1) H) Q (M.bnd (noErr (t ρ1)) (fun b => if b = true then M.bnd (noErr (e ρ1)) fun x => compA g t e (wipeE ρ vs) (acc ++ [x]) (l.drop (i + 1)) else compA g t e (wipeE ρ vs) acc (l.drop (i + 1))) s2) := q2
        unfold M.bnd at q2
        cases et : t ρ1 s2 with
        | err xn s3 => rw [noErr_err et] at q2; exact q2.elim
        | bad => rw [noErr_bad et] at q2; exact q2.elim
        | ok b s3 =>
          rw [noErr_ok et] at q2
          intro b' H3 g3 st3 kb
          obtain rfl : b = b' := kb
          have g23 := g2.trans g3
          have hA3 : H3 A = some (.lst ys) := g3.all A _ hth hA2
          have p3 : All3 (RepO J.G H3 k) acc ys Fs := p2.imp fun a b c m p => RepO.mono g3 (fun z hz => th_there r1.st (fr2 z (List.mem_flatten.mpr ⟨c, m, hz⟩)).1) p
          cases b with
          | false => exact ⟨g23, s3, acc, ys, Fs, st3, hA3, p3, nd2, fr2, by omega, q2⟩
          | true =>
            refine ⟨ρ1, s3, r2.mono g3 st3, ?_⟩
            have q2 : Post J σ H (κO J.G (k + 1) H) Q (M.bnd (noErr (e ρ1)) (fun x => compA g t e (wipeE ρ vs) (acc ++ [x]) (l.drop (i + 1))) s3) := q2
            unfold M.bnd at q2
            cases ee : e ρ1 s3 with
            | err xn s4 => rw [noErr_err ee] at q2; exact q2.elim
            | bad => rw [noErr_bad ee] at q2; exact q2.elim
            | ok dx s4 =>
              rw [noErr_ok ee] at q2
              intro y H4 g4 st4 ⟨F, pF, ndF, frF⟩
              have hA4 : H4 A = some (.lst ys) := g4.all A _ hth hA3
              have p4 : All3 (RepO J.G H4 k) acc ys Fs := p3.imp fun a b c m p => RepO.mono g4 (fun z hz => th_there r1.st (fr2 z (List.mem_flatten.mpr ⟨c, m, hz⟩)).1) p
              have hyl : ys.length = acc.length := p4.length.1
              have nF : ∀ z ∈ F, H1 z = none ∧ z ≠ A := fun z hz => ⟨g23.th z (frF z hz), fun ez => by have := frF z hz; rw [ez, hA3] at this; cases this⟩
              refine ⟨ys, hA4, by rw [hyl, sizeLine_eq]; omega, (g23.trans g4).upd hA, s4, acc ++ [dx], ys ++ [y], Fs ++ [F], fun a ea => ?_, upd_same, ?_, ?_, ?_, by simp; omega, q2⟩
              · rw [upd_ne (fun ez => hth (by rw [← ez]; exact ea))]
                exact st4 a ea
              · refine (p4.imp fun a b c m p => RepO.keep (imm_upd hA4) (fun z hz zs ez => ?_) p).append (.cons (RepO.keep (imm_upd hA4) (fun z hz zs ez => ?_) pF) .nil)
                · rw [upd_ne (fr2 z (List.mem_flatten.mpr ⟨c, m, hz⟩)).2]; exact ez
                · rw [upd_ne (nF z hz).2]; exact ez
              · rw [List.flatten_append]
                refine List.nodup_append.mpr ⟨nd2, by simpa using ndF, fun z hz w hw ezw => ?_⟩
                subst ezw
                have hw : z ∈ F := by simpa using hw
                obtain ⟨zs, ez⟩ := all3_lsts p3 z hz
                have := frF z hw
                rw [ez] at this; cases this
              · intro a ha
                rw [List.flatten_append, List.mem_append] at ha
                rcases ha with ha | ha
                · exact fr2 a ha
                · exact nF a (by simpa using ha)
    · have e : i = l.length := by omega
      subst e
      rw [List.drop_length] at q2
      refine .inl ⟨stp H2' gd2, q2 (.ref A) H2' (g1.trans g2') st2' ⟨A :: Fs.flatten, ⟨acc, A, ys, Fs, rfl, rfl, hA2', rfl, p2'⟩, List.nodup_cons.mpr ⟨fun m => (fr2 A m).2 rfl, nd2⟩, fun a ha => ?_⟩⟩
      rcases List.mem_cons.mp ha with rfl | ha
      · exact g1.free hA
      · exact g1.free (fr2 a ha).1
  · rw [if_neg hl] at q1
    exact q1.elim
theorem o_compA (ok : Ok X J) (hsrc : SrcA X J ω tg iter src) (bo : BlkOk X.N X.env.scope scope own)
    (hg : ∀ (s : Shared) (H : Hp) (C : Addr) (cl : List (Str × Addr)) (fp : List Addr), PG (X.blk s H scope (compEnvC scope cl C X.env) fp) tg gt) (gs : GS J.G J.H0 ω ω1 gt g (own.map (·.2)))
    (ht : ∀ (s : Shared) (H : Hp) (C : Addr) (cl : List (Str × Addr)) (fp : List Addr), PTs (X.blk s H scope (compEnvC scope cl C X.env) fp) ifs (tG J.suite ω1 κT t))
    (he : ∀ (s : Shared) (H : Hp) (C : Addr) (cl : List (Str × Addr)) (fp : List Addr), OJ (X.blk s H scope (compEnvC scope cl C X.env) fp) J.suite ω1 k elt e) (hs : ∀ x, foldedSetIterable iter X.env x = pure x := by intro _; rfl) :
    OJ X J ω (k + 1) (.ListComp elt [⟨tg, iter, ifs, 0⟩] scope pos) (cComp src g t e (own.map (·.2))) :=
  (pe_lc ok.calm ok.nd hsrc bo hg ht he hs).imp fun σ H Q h => tLc_A gs h
end
end PL
set_option maxHeartbeats 1000000
namespace PL
open PySem PySem.Spec PyProof.Rows L2 RZ
theorem SLT {a b z TI TO i1 i2 : Addr} (D : ZipApart z TI TO i1 i2 a b) : ZipSep2 z TI TO i1 i2 [i1, a] [i2, b] where
  TIz := D.TIz
  TOz := D.TOz
  TITO := D.TITO
  TIi1 := D.TIi1
  mem1 := by simp
  zf1 := by simp [D.i1z.symm, D.l1z.symm]
  Tf1 := by simp [D.TOi1, D.l1TO.symm]
  TIi2 := D.TIi2
  mem2 := by simp
  zf2 := by simp [D.i2z.symm, D.l2z.symm]
  Tf2 := by simp [D.TOi2, D.l2TO.symm]
  sep1_2 := by simp [D.i12, D.l2i1.symm]
  sep2_1 := by simp [D.i12.symm, D.l1i2.symm]
def ItzLT (K : PySem.W.Frag) (a b : Addr) : It :=
  ⟨fun i H => ∃ (xs ys : List V) (x y : V), SqL K H a xs ∧ SqT K H b ys ∧ xs[i]? = some x ∧ ys[i]? = some y,
    fun i H v H' => ∃ T x y, v = .ref T ∧ H T = none ∧ H' = upd H T (.tup [x, y]) ∧ (∀ xs, SqL K H a xs → xs[i]? = some x) ∧ ∀ ys, SqT K H b ys → ys[i]? = some y,
    fun i H => ∃ xs ys : List V, SqL K H a xs ∧ SqT K H b ys ∧ i = min xs.length ys.length⟩
theorem turn_zipLT {P : Program} {w : World} {K : PySem.W.Frag} {elts : List Expr} {kk : Nat} {tpos : Pos} {a b z TI TO i1 i2 : Addr} (D : ZipApart z TI TO i1 i2 a b) :
    Turn P w K (.Tuple elts kk tpos) (ItzLT K a b) [z, TI, TO, i1, i2] z (fun i h => IsZip h z TI TO .none ∧ IsTupOf2 h TI (.ref i1) (.ref i2) ∧ (∃ x y, IsTupOf2 h TO x y) ∧ h.IsListIter i1 a i ∧ h.IsTupleIter i2 b i) where
  mem := by simp
  obj := fun i h st c hc => by
    obtain ⟨hz, hTI, ⟨x, y, hTO⟩, ⟨o1, e1, _, d1⟩, ⟨o2, e2, _, d2⟩⟩ := st
    have e' : c = z ∨ c = TI ∨ c = TO ∨ c = i1 ∨ c = i2 := by simpa using hc
    rcases e' with q | q | q | q | q
    · rw [q]; exact ⟨_, hz, fun v q => nomatch q⟩
    · rw [q]; exact ⟨_, hTI, fun v q => nomatch q⟩
    · rw [q]; exact ⟨_, hTO, fun v q => nomatch q⟩
    · rw [q]; exact ⟨o1, e1, fun v q => by rw [d1] at q; cases q⟩
    · rw [q]; exact ⟨o2, e2, fun v q => by rw [d2] at q; cases q⟩
  keep := fun i h h' st k => by
    obtain ⟨hz, hTI, ⟨x, y, hTO⟩, h1, h2⟩ := st
    exact ⟨k z (by simp) _ hz, k TI (by simp) _ hTI, ⟨x, y, k TO (by simp) _ hTO⟩, h1.at fun o q => k i1 (by simp) o q, h2.at fun o q => k i2 (by simp) o q⟩
  item := by
    intro X hP hw hK hc i pins s σ H E I hf st hg
    subst hP hw hK
    obtain ⟨hz, hTI, ⟨x0, y0, hTO⟩, h1, h2⟩ := st
    obtain ⟨xs, ys, x, y, hqx, hqy, hx, hy⟩ := hg
    obtain ⟨its, rv, p, _⟩ := I.list hqx
    obtain ⟨its2, rv2, p2, _⟩ := I.tuple hqy
    obtain ⟨u, hu, ru⟩ := rv.get hx
    obtain ⟨u2, hu2, ru2⟩ := rv2.get hy
    have hlx : i < its.toArray.size := by
      obtain ⟨q, _⟩ := List.getElem?_eq_some_iff.mp hu
      simpa using q
    have hly : i < its2.toArray.size := by
      obtain ⟨q, _⟩ := List.getElem?_eq_some_iff.mp hu2
      simpa using q
    have hzl : z < s.heap.objs.size := Heap.lt_size hz
    refine wpAny_pyNext_zipD2_item (SLT D) (Draws.list (prog := X.prog) (w := X.w) (A := X.A.in1) (I.ok.hd hc) i1 a D.l1i1 its.toArray) (Draws.tuple (prog := X.prog) (w := X.w) (A := X.A.in1) (I.ok.hd hc) i2 b D.l2i2 its2.toArray) hz hTI hTO ⟨h1, p.isList⟩ ⟨h2, p2⟩ hlx hly fun x1 x2 h' tk hx1 hx2 z' TO' s1' s2' hT hsz hk => ?_
    have e1 : x1 = u := by
      have := hx1.symm.trans (show its.toArray[i]? = some u by simpa using hu)
      exact Option.some.inj this
    have e2 : x2 = u2 := by
      have := hx2.symm.trans (show its2.toArray[i]? = some u2 by simpa using hu2)
      exact Option.some.inj this
    subst e1
    subst e2
    obtain ⟨h1', _⟩ := s1'
    obtain ⟨h2', _⟩ := s2'
    refine ⟨_, rfl, wpAny_letOwnedTupleGo_zip (s := { s with heap := h', toks := tk }) z' fun h'' z'' sb => ?_⟩
    have hT2 : h''.get? s.heap.objs.size = some { cls := .type "tuple", data := .seq #[x1, x2] } := (sb.2 _ (Nat.ne_of_gt hzl)).trans hT
    have new : ObjOk X.prog X.w (upd H s.heap.objs.size (.tup [x, y])) h'' s.heap.objs.size (.tup [x, y]) :=
      ⟨by show 2 ≤ sizeLine; decide, [x1, x2], .cons ru (.cons ru2 .nil), ⟨_, hT2, rfl, _, rfl⟩⟩
    have I1 : Inv X pins σ (upd H s.heap.objs.size (.tup [x, y])) { s with heap := h'', toks := tk } :=
      I.turnedNew (t' := tk) (ch := [z, TI, TO, i1, i2]) (fun c o hb q => (sb.2 c (fun q' => hb (by simp [q']))).trans (hk c o (fun q' => hb (by simp [q'])) (fun q' => hb (by simp [q'])) (fun q' => hb (by simp [q'])) (fun q' => hb (by simp [q'])) q)) hf (Nat.le_refl _) new
    refine ⟨.ref s.heap.objs.size, _, I1, rfl, ⟨_, x, y, rfl, I.hok.fresh (Nat.le_refl _), rfl, fun l hl => by rw [I.list_inj hl hqx]; exact hx, fun l hl => by rw [I.tuple_inj hl hqy]; exact hy⟩, ⟨z'', ?_, ⟨x1, x2, ?_⟩, ?_, ?_⟩, fun c hcm => ?_⟩
    · exact (sb.2 _ D.TIz).trans (hk _ _ D.TIz D.TITO D.TIi1 D.TIi2 hTI)
    · exact (sb.2 _ D.TOz).trans TO'
    · exact h1'.at fun o q => (sb.2 _ D.i1z).trans q
    · exact h2'.at fun o q => (sb.2 _ D.i2z).trans q
    · have hlt : c < s.heap.objs.size := by
        have e' : c = z ∨ c = TI ∨ c = TO ∨ c = i1 ∨ c = i2 := by simpa using hcm
        rcases e' with q | q | q | q | q
        · rw [q]; exact hzl
        · rw [q]; exact Heap.lt_size hTI
        · rw [q]; exact Heap.lt_size hTO
        · rw [q]; obtain ⟨_, e1, _⟩ := h1; exact Heap.lt_size e1
        · rw [q]; obtain ⟨_, e2, _⟩ := h2; exact Heap.lt_size e2
      rw [upd_ne (Nat.ne_of_lt hlt)]
      exact (hf c hcm).1
  done := by
    intro X hP hw hK hc i pins s σ H E I hf st hg
    subst hP hw hK
    obtain ⟨hz, hTI, ⟨x0, y0, hTO⟩, h1, h2⟩ := st
    obtain ⟨xs, ys, hqx, hqy, hend⟩ := hg
    obtain ⟨its, rv, p, _⟩ := I.list hqx
    obtain ⟨its2, rv2, p2, _⟩ := I.tuple hqy
    have l1 := rv.length
    have l2 := rv2.length
    have z1 : its.toArray.size = its.length := by simp
    have z2 : its2.toArray.size = its2.length := by simp
    have q1 : i ≤ its.toArray.size := by omega
    have q2 : i ≤ its2.toArray.size := by omega
    have q3 : i = its.toArray.size ∨ i = its2.toArray.size := by omega
    exact wpAny_pyNext_zipD2_end (SLT D) (Draws.list (prog := X.prog) (w := X.w) (A := X.A.in1) (I.ok.hd hc) i1 a D.l1i1 its.toArray) (Draws.tuple (prog := X.prog) (w := X.w) (A := X.A.in1) (I.ok.hd hc) i2 b D.l2i2 its2.toArray) hz hTI hTO ⟨h1, p.isList⟩ ⟨h2, p2⟩ q1 q2 q3 fun h' tk hk => ⟨rfl, I.turnedL (t' := tk) (ch := [z, TI, TO, i1, i2]) (fun c o hb q =>
      hk c o (fun q' => hb (by simp [q'])) (fun q' => hb (by simp [q'])) (fun q' => hb (by simp [q'])) (fun q' => hb (by simp [q'])) q) hf⟩
  self := fun A i s Q E st h => wpAny_pyIter_zip st.1 h
theorem STL {a b z TI TO i1 i2 : Addr} (D : ZipApart z TI TO i1 i2 a b) : ZipSep2 z TI TO i1 i2 [i1, a] [i2, b] where
  TIz := D.TIz
  TOz := D.TOz
  TITO := D.TITO
  TIi1 := D.TIi1
  mem1 := by simp
  zf1 := by simp [D.i1z.symm, D.l1z.symm]
  Tf1 := by simp [D.TOi1, D.l1TO.symm]
  TIi2 := D.TIi2
  mem2 := by simp
  zf2 := by simp [D.i2z.symm, D.l2z.symm]
  Tf2 := by simp [D.TOi2, D.l2TO.symm]
  sep1_2 := by simp [D.i12, D.l2i1.symm]
  sep2_1 := by simp [D.i12.symm, D.l1i2.symm]
def ItzTL (K : PySem.W.Frag) (a b : Addr) : It :=
  ⟨fun i H => ∃ (xs ys : List V) (x y : V), SqT K H a xs ∧ SqL K H b ys ∧ xs[i]? = some x ∧ ys[i]? = some y,
    fun i H v H' => ∃ T x y, v = .ref T ∧ H T = none ∧ H' = upd H T (.tup [x, y]) ∧ (∀ xs, SqT K H a xs → xs[i]? = some x) ∧ ∀ ys, SqL K H b ys → ys[i]? = some y,
    fun i H => ∃ xs ys : List V, SqT K H a xs ∧ SqL K H b ys ∧ i = min xs.length ys.length⟩
theorem turn_zipTL {P : Program} {w : World} {K : PySem.W.Frag} {elts : List Expr} {kk : Nat} {tpos : Pos} {a b z TI TO i1 i2 : Addr} (D : ZipApart z TI TO i1 i2 a b) :
    Turn P w K (.Tuple elts kk tpos) (ItzTL K a b) [z, TI, TO, i1, i2] z (fun i h => IsZip h z TI TO .none ∧ IsTupOf2 h TI (.ref i1) (.ref i2) ∧ (∃ x y, IsTupOf2 h TO x y) ∧ h.IsTupleIter i1 a i ∧ h.IsListIter i2 b i) where
  mem := by simp
  obj := fun i h st c hc => by
    obtain ⟨hz, hTI, ⟨x, y, hTO⟩, ⟨o1, e1, _, d1⟩, ⟨o2, e2, _, d2⟩⟩ := st
    have e' : c = z ∨ c = TI ∨ c = TO ∨ c = i1 ∨ c = i2 := by simpa using hc
    rcases e' with q | q | q | q | q
    · rw [q]; exact ⟨_, hz, fun v q => nomatch q⟩
    · rw [q]; exact ⟨_, hTI, fun v q => nomatch q⟩
    · rw [q]; exact ⟨_, hTO, fun v q => nomatch q⟩
    · rw [q]; exact ⟨o1, e1, fun v q => by rw [d1] at q; cases q⟩
    · rw [q]; exact ⟨o2, e2, fun v q => by rw [d2] at q; cases q⟩
  keep := fun i h h' st k => by
    obtain ⟨hz, hTI, ⟨x, y, hTO⟩, h1, h2⟩ := st
    exact ⟨k z (by simp) _ hz, k TI (by simp) _ hTI, ⟨x, y, k TO (by simp) _ hTO⟩, h1.at fun o q => k i1 (by simp) o q, h2.at fun o q => k i2 (by simp) o q⟩
  item := by
    intro X hP hw hK hc i pins s σ H E I hf st hg
    subst hP hw hK
    obtain ⟨hz, hTI, ⟨x0, y0, hTO⟩, h1, h2⟩ := st
    obtain ⟨xs, ys, x, y, hqx, hqy, hx, hy⟩ := hg
    obtain ⟨its, rv, p, _⟩ := I.tuple hqx
    obtain ⟨its2, rv2, p2, _⟩ := I.list hqy
    obtain ⟨u, hu, ru⟩ := rv.get hx
    obtain ⟨u2, hu2, ru2⟩ := rv2.get hy
    have hlx : i < its.toArray.size := by
      obtain ⟨q, _⟩ := List.getElem?_eq_some_iff.mp hu
      simpa using q
    have hly : i < its2.toArray.size := by
      obtain ⟨q, _⟩ := List.getElem?_eq_some_iff.mp hu2
      simpa using q
    have hzl : z < s.heap.objs.size := Heap.lt_size hz
    refine wpAny_pyNext_zipD2_item (STL D) (Draws.tuple (prog := X.prog) (w := X.w) (A := X.A.in1) (I.ok.hd hc) i1 a D.l1i1 its.toArray) (Draws.list (prog := X.prog) (w := X.w) (A := X.A.in1) (I.ok.hd hc) i2 b D.l2i2 its2.toArray) hz hTI hTO ⟨h1, p⟩ ⟨h2, p2.isList⟩ hlx hly fun x1 x2 h' tk hx1 hx2 z' TO' s1' s2' hT hsz hk => ?_
    have e1 : x1 = u := by
      have := hx1.symm.trans (show its.toArray[i]? = some u by simpa using hu)
      exact Option.some.inj this
    have e2 : x2 = u2 := by
      have := hx2.symm.trans (show its2.toArray[i]? = some u2 by simpa using hu2)
      exact Option.some.inj this
    subst e1
    subst e2
    obtain ⟨h1', _⟩ := s1'
    obtain ⟨h2', _⟩ := s2'
    refine ⟨_, rfl, wpAny_letOwnedTupleGo_zip (s := { s with heap := h', toks := tk }) z' fun h'' z'' sb => ?_⟩
    have hT2 : h''.get? s.heap.objs.size = some { cls := .type "tuple", data := .seq #[x1, x2] } := (sb.2 _ (Nat.ne_of_gt hzl)).trans hT
    have new : ObjOk X.prog X.w (upd H s.heap.objs.size (.tup [x, y])) h'' s.heap.objs.size (.tup [x, y]) :=
      ⟨by show 2 ≤ sizeLine; decide, [x1, x2], .cons ru (.cons ru2 .nil), ⟨_, hT2, rfl, _, rfl⟩⟩
    have I1 : Inv X pins σ (upd H s.heap.objs.size (.tup [x, y])) { s with heap := h'', toks := tk } :=
      I.turnedNew (t' := tk) (ch := [z, TI, TO, i1, i2]) (fun c o hb q => (sb.2 c (fun q' => hb (by simp [q']))).trans (hk c o (fun q' => hb (by simp [q'])) (fun q' => hb (by simp [q'])) (fun q' => hb (by simp [q'])) (fun q' => hb (by simp [q'])) q)) hf (Nat.le_refl _) new
    refine ⟨.ref s.heap.objs.size, _, I1, rfl, ⟨_, x, y, rfl, I.hok.fresh (Nat.le_refl _), rfl, fun l hl => by rw [I.tuple_inj hl hqx]; exact hx, fun l hl => by rw [I.list_inj hl hqy]; exact hy⟩, ⟨z'', ?_, ⟨x1, x2, ?_⟩, ?_, ?_⟩, fun c hcm => ?_⟩
    · exact (sb.2 _ D.TIz).trans (hk _ _ D.TIz D.TITO D.TIi1 D.TIi2 hTI)
    · exact (sb.2 _ D.TOz).trans TO'
    · exact h1'.at fun o q => (sb.2 _ D.i1z).trans q
    · exact h2'.at fun o q => (sb.2 _ D.i2z).trans q
    · have hlt : c < s.heap.objs.size := by
        have e' : c = z ∨ c = TI ∨ c = TO ∨ c = i1 ∨ c = i2 := by simpa using hcm
        rcases e' with q | q | q | q | q
        · rw [q]; exact hzl
        · rw [q]; exact Heap.lt_size hTI
        · rw [q]; exact Heap.lt_size hTO
        · rw [q]; obtain ⟨_, e1, _⟩ := h1; exact Heap.lt_size e1
        · rw [q]; obtain ⟨_, e2, _⟩ := h2; exact Heap.lt_size e2
      rw [upd_ne (Nat.ne_of_lt hlt)]
      exact (hf c hcm).1
  done := by
    intro X hP hw hK hc i pins s σ H E I hf st hg
    subst hP hw hK
    obtain ⟨hz, hTI, ⟨x0, y0, hTO⟩, h1, h2⟩ := st
    obtain ⟨xs, ys, hqx, hqy, hend⟩ := hg
    obtain ⟨its, rv, p, _⟩ := I.tuple hqx
    obtain ⟨its2, rv2, p2, _⟩ := I.list hqy
    have l1 := rv.length
    have l2 := rv2.length
    have z1 : its.toArray.size = its.length := by simp
    have z2 : its2.toArray.size = its2.length := by simp
    have q1 : i ≤ its.toArray.size := by omega
    have q2 : i ≤ its2.toArray.size := by omega
    have q3 : i = its.toArray.size ∨ i = its2.toArray.size := by omega
    exact wpAny_pyNext_zipD2_end (STL D) (Draws.tuple (prog := X.prog) (w := X.w) (A := X.A.in1) (I.ok.hd hc) i1 a D.l1i1 its.toArray) (Draws.list (prog := X.prog) (w := X.w) (A := X.A.in1) (I.ok.hd hc) i2 b D.l2i2 its2.toArray) hz hTI hTO ⟨h1, p⟩ ⟨h2, p2.isList⟩ q1 q2 q3 fun h' tk hk => ⟨rfl, I.turnedL (t' := tk) (ch := [z, TI, TO, i1, i2]) (fun c o hb q =>
      hk c o (fun q' => hb (by simp [q'])) (fun q' => hb (by simp [q'])) (fun q' => hb (by simp [q'])) (fun q' => hb (by simp [q'])) q) hf⟩
  self := fun A i s Q E st h => wpAny_pyIter_zip st.1 h
def iZipG (K : PySem.W.Frag) (ta : L2.TA) : L2.TI := fun σ H R => ta σ H fun vs H1 => ∃ a b xs ys, vs = [.ref a, .ref b] ∧ ((SqL K H1 a xs ∧ SqL K H1 b ys ∧ R (Itz K a b) H1) ∨ (SqT K H1 a xs ∧ SqT K H1 b ys ∧ R (ItzT K a b) H1) ∨ (SqL K H1 a xs ∧ SqT K H1 b ys ∧ R (ItzLT K a b) H1) ∨ (SqT K H1 a xs ∧ SqL K H1 b ys ∧ R (ItzTL K a b) H1))
theorem pi_zipG {X : Cx} {e e2 : Expr} {ta : TA} {p pos tpos : Pos} {elts : List Expr} {kk : Nat} (hg : Gl X "zip") (hm : X.mg "zip" = none) (ha : PA X [e, e2] ta)
    (hs : starEach [e, e2] X.env = (false, eval e X.env) :: starEach [e2] X.env := by rfl) (hpl : (backTo pos (starEach [e2] X.env)).any (·.1) = false := by rfl) :
    PI X (.Tuple elts kk tpos) (.Call (.Name "zip" p) [e, e2] [] pos) (iZipG X.K ta) := by
  refine ⟨fun pins s σ H R I h => ?_⟩
  refine Call_ (ld_blt I hg hm PyProof.Rows.boot_zip (PyProof.Rows.callWith_type1 (thn (ha.run pos pins s σ H _ I h) fun us s1 ⟨vs, H1, I1, r1, q1⟩ => ?_) hs hpl))
  obtain ⟨a, b, xs, ys, ex, q1⟩ := q1
  subst ex
  cases r1 with
  | cons r rr =>
    cases rr with
    | cons r' rr =>
      cases rr
      cases r
      cases r'
      have fresh5 : ∀ c, c ∈ [s1.heap.objs.size + 4, s1.heap.objs.size + 2, s1.heap.objs.size + 3, s1.heap.objs.size, s1.heap.objs.size + 1] → FpOk X pins H1 c := fun c hcm => by
        have e' : c = s1.heap.objs.size + 4 ∨ c = s1.heap.objs.size + 2 ∨ c = s1.heap.objs.size + 3 ∨ c = s1.heap.objs.size ∨ c = s1.heap.objs.size + 1 := by simpa using hcm
        have hle : s1.heap.objs.size ≤ c := by
          rcases e' with z | z | z | z | z
          · rw [z]; exact Nat.le_add_right _ _
          · rw [z]; exact Nat.le_add_right _ _
          · rw [z]; exact Nat.le_add_right _ _
          · rw [z]; exact Nat.le_refl _
          · rw [z]; exact Nat.le_add_right _ _
        exact I1.fpOk hle (I1.hok.fresh hle)
      rcases q1 with ⟨hqx, hqy, q⟩ | ⟨hqx, hqy, q⟩ | ⟨hqx, hqy, q⟩ | ⟨hqx, hqy, q⟩
      · obtain ⟨its, rv, p1, _⟩ := I1.list hqx
        obtain ⟨its2, rv2, p2, _⟩ := I1.list hqy
        refine call_zip_2 p1.isList p2.isList fun h' hz hTI hTO h1 h2 hsz hk => wpAny_pyIter_zip hz ?_
        have I2 : Inv X pins σ H1 { s1 with heap := h' } := I1.kept (t' := s1.toks) hk
        exact ⟨s1.heap.objs.size + 4, [s1.heap.objs.size + 4, s1.heap.objs.size + 2, s1.heap.objs.size + 3, s1.heap.objs.size, s1.heap.objs.size + 1], _, _, H1, rfl, I2, turn_zip (PySem.W.ktu_apart s1.heap.objs.size a b p1.lt p2.lt), ⟨hz, hTI, ⟨_, _, hTO⟩, h1, h2⟩, fresh5, q⟩
      · obtain ⟨its, rv, p1, _⟩ := I1.tuple hqx
        obtain ⟨its2, rv2, p2, _⟩ := I1.tuple hqy
        obtain ⟨o1, ho1, _⟩ := id p1
        obtain ⟨o2, ho2, _⟩ := id p2
        refine call_zipT (show s1.heap.IsTuple a its.toArray from p1) (show s1.heap.IsTuple b its2.toArray from p2) fun h' hz hTI hTO h1 h2 hsz hk => wpAny_pyIter_zip hz ?_
        have I2 : Inv X pins σ H1 { s1 with heap := h' } := I1.kept (t' := s1.toks) hk
        exact ⟨s1.heap.objs.size + 4, [s1.heap.objs.size + 4, s1.heap.objs.size + 2, s1.heap.objs.size + 3, s1.heap.objs.size, s1.heap.objs.size + 1], _, _, H1, rfl, I2, turn_zipT (PySem.W.ktu_apart s1.heap.objs.size a b (Heap.lt_size ho1) (Heap.lt_size ho2)), ⟨hz, hTI, ⟨_, _, hTO⟩, h1, h2⟩, fresh5, q⟩
      · obtain ⟨its, rv, p1, _⟩ := I1.list hqx
        obtain ⟨its2, rv2, p2, _⟩ := I1.tuple hqy
        obtain ⟨o2, ho2, _⟩ := id p2
        refine zip_begins2 (begins_list a its.toArray) (begins_tuple b its2.toArray) p1.isList (show s1.heap.IsTuple b its2.toArray from p2) fun h' hz hTI hTO h1 h2 hsz hk => wpAny_pyIter_zip hz ?_
        have I2 : Inv X pins σ H1 { s1 with heap := h' } := I1.kept (t' := s1.toks) hk
        exact ⟨s1.heap.objs.size + 4, [s1.heap.objs.size + 4, s1.heap.objs.size + 2, s1.heap.objs.size + 3, s1.heap.objs.size, s1.heap.objs.size + 1], _, _, H1, rfl, I2, turn_zipLT (PySem.W.ktu_apart s1.heap.objs.size a b p1.lt (Heap.lt_size ho2)), ⟨hz, hTI, ⟨_, _, hTO⟩, ⟨_, h1, rfl, rfl⟩, ⟨_, h2, rfl, rfl⟩⟩, fresh5, q⟩
      · obtain ⟨its, rv, p1, _⟩ := I1.tuple hqx
        obtain ⟨its2, rv2, p2, _⟩ := I1.list hqy
        obtain ⟨o1, ho1, _⟩ := id p1
        refine zip_begins2 (begins_tuple a its.toArray) (begins_list b its2.toArray) (show s1.heap.IsTuple a its.toArray from p1) p2.isList fun h' hz hTI hTO h1 h2 hsz hk => wpAny_pyIter_zip hz ?_
        have I2 : Inv X pins σ H1 { s1 with heap := h' } := I1.kept (t' := s1.toks) hk
        exact ⟨s1.heap.objs.size + 4, [s1.heap.objs.size + 4, s1.heap.objs.size + 2, s1.heap.objs.size + 3, s1.heap.objs.size, s1.heap.objs.size + 1], _, _, H1, rfl, I2, turn_zipTL (PySem.W.ktu_apart s1.heap.objs.size a b (Heap.lt_size ho1) p2.lt), ⟨hz, hTI, ⟨_, _, hTO⟩, ⟨_, h1, rfl, rfl⟩, ⟨_, h2, rfl, rfl⟩⟩, fresh5, q⟩
end PL
set_option maxHeartbeats 1000000
namespace PL
open PySem PySem.Spec PyProof.Rows L2
def zipL (l m : List D) : List D := (l.zip m).map fun p => .tup [p.1, p.2]
def zipD : D → D → M (List D)
  | .lst l, .lst m => pure (zipL l m)
  | .tup l, .tup m => pure (zipL l m)
  | .lst l, .tup m => pure (zipL l m)
  | .tup l, .lst m => pure (zipL l m)
  | _, _ => bad
def srcZip (a b : EX) : En → M (List D) := fun ρ => do
  let x ← a ρ
  let y ← b ρ
  zipD x y
theorem zip_get {l m : List D} {i : Nat} {d : D} (h : (zipL l m)[i]? = some d) : ∃ x y, l[i]? = some x ∧ m[i]? = some y ∧ d = .tup [x, y] := by
  unfold zipL at h
  rw [List.getElem?_map] at h
  cases e : (l.zip m)[i]? with
  | none => rw [e] at h; cases h
  | some p =>
    rw [e] at h
    cases h
    obtain ⟨h1, h2⟩ := List.getElem?_zip_eq_some.mp e
    exact ⟨p.1, p.2, h1, h2, rfl⟩
theorem zip_len (l m : List D) : (zipL l m).length = min l.length m.length := by
  unfold zipL
  rw [List.length_map, List.length_zip]
theorem zip_yield {G : Gam} {H : Hp} {T : Addr} {x y : V} {dx dy : D} {s : DS} (hT : H T = none) (st : StOk G s H) (kx : Rep G H dx x) (ky : Rep G H dy y) :
    Gr G H (upd H T (.tup [x, y])) ∧ StOk G s (upd H T (.tup [x, y])) ∧ Rep G (upd H T (.tup [x, y])) (.tup [dx, dy]) (.ref T) := by
  have g : Gr G H (upd H T (.tup [x, y])) := Gr.new hT
  refine ⟨g, fun a e => by rw [upd_ne (ne_of_none (st a e) hT)]; exact st a e, ?_⟩
  simp only [Rep]
  exact ⟨T, [x, y], rfl, .inl upd_same, .cons (kx.mono g.imm) (.cons (ky.mono g.imm) .nil)⟩
theorem zip_iterL {G : Gam} {H : Hp} {a b : Addr} {xs ys : List V} {l m : List D} (ha : FzL G.K H a xs) (hb : FzL G.K H b ys) (rl : RepL G H l xs) (rm : RepL G H m ys) : IterA G H (zipL l m) (Itz G.K a b) := by
  have h1 := rl.length
  have h2 := rm.length
  refine ⟨fun H' => Ex H H', Ex.refl H, fun H1 H2 e g => g.trans e, fun i H1 g hi => ?_, fun i H1 x H2 s g st hi y => ?_, fun H1 g => ?_⟩
  · rw [zip_len] at hi
    exact ⟨xs, ys, xs[i], ys[i], (ha.mono g).seq, (hb.mono g).seq, List.getElem?_eq_getElem (by omega), List.getElem?_eq_getElem (by omega)⟩
  · rw [zip_len] at hi
    obtain ⟨T, x1, y1, rfl, hT, rfl, e1, e2⟩ := y
    obtain ⟨d1, q1, k1⟩ := (rl.mono g).get (e1 xs (ha.mono g).seq)
    obtain ⟨d2, q2, k2⟩ := (rm.mono g).get (e2 ys (hb.mono g).seq)
    obtain ⟨z1, z2, z3⟩ := zip_yield hT st k1 k2
    refine ⟨z1, z2, fun d ed => ?_⟩
    obtain ⟨u, v, u1, u2, rfl⟩ := zip_get ed
    rw [q1] at u1
    rw [q2] at u2
    cases u1
    cases u2
    exact z3
  · refine ⟨xs, ys, (ha.mono g).seq, (hb.mono g).seq, ?_⟩
    rw [zip_len]
    omega
theorem zip_iterT {G : Gam} {H : Hp} {a b : Addr} {xs ys : List V} {l m : List D} (ha : FzT G.K H a xs) (hb : FzT G.K H b ys) (rl : RepL G H l xs) (rm : RepL G H m ys) : IterA G H (zipL l m) (RZ.ItzT G.K a b) := by
  have h1 := rl.length
  have h2 := rm.length
  refine ⟨fun H' => Ex H H', Ex.refl H, fun H1 H2 e g => g.trans e, fun i H1 g hi => ?_, fun i H1 x H2 s g st hi y => ?_, fun H1 g => ?_⟩
  · rw [zip_len] at hi
    exact ⟨xs, ys, xs[i], ys[i], (ha.mono g).seq, (hb.mono g).seq, List.getElem?_eq_getElem (by omega), List.getElem?_eq_getElem (by omega)⟩
  · rw [zip_len] at hi
    obtain ⟨T, x1, y1, rfl, hT, rfl, e1, e2⟩ := y
    obtain ⟨d1, q1, k1⟩ := (rl.mono g).get (e1 xs (ha.mono g).seq)
    obtain ⟨d2, q2, k2⟩ := (rm.mono g).get (e2 ys (hb.mono g).seq)
    obtain ⟨z1, z2, z3⟩ := zip_yield hT st k1 k2
    refine ⟨z1, z2, fun d ed => ?_⟩
    obtain ⟨u, v, u1, u2, rfl⟩ := zip_get ed
    rw [q1] at u1
    rw [q2] at u2
    cases u1
    cases u2
    exact z3
  · refine ⟨xs, ys, (ha.mono g).seq, (hb.mono g).seq, ?_⟩
    rw [zip_len]
    omega
theorem zip_iterLT {G : Gam} {H : Hp} {a b : Addr} {xs ys : List V} {l m : List D} (ha : FzL G.K H a xs) (hb : FzT G.K H b ys) (rl : RepL G H l xs) (rm : RepL G H m ys) : IterA G H (zipL l m) (ItzLT G.K a b) := by
  have h1 := rl.length
  have h2 := rm.length
  refine ⟨fun H' => Ex H H', Ex.refl H, fun H1 H2 e g => g.trans e, fun i H1 g hi => ?_, fun i H1 x H2 s g st hi y => ?_, fun H1 g => ?_⟩
  · rw [zip_len] at hi
    exact ⟨xs, ys, xs[i], ys[i], (ha.mono g).seq, (hb.mono g).seq, List.getElem?_eq_getElem (by omega), List.getElem?_eq_getElem (by omega)⟩
  · rw [zip_len] at hi
    obtain ⟨T, x1, y1, rfl, hT, rfl, e1, e2⟩ := y
    obtain ⟨d1, q1, k1⟩ := (rl.mono g).get (e1 xs (ha.mono g).seq)
    obtain ⟨d2, q2, k2⟩ := (rm.mono g).get (e2 ys (hb.mono g).seq)
    obtain ⟨z1, z2, z3⟩ := zip_yield hT st k1 k2
    refine ⟨z1, z2, fun d ed => ?_⟩
    obtain ⟨u, v, u1, u2, rfl⟩ := zip_get ed
    rw [q1] at u1
    rw [q2] at u2
    cases u1
    cases u2
    exact z3
  · refine ⟨xs, ys, (ha.mono g).seq, (hb.mono g).seq, ?_⟩
    rw [zip_len, h1, h2]
theorem zip_iterTL {G : Gam} {H : Hp} {a b : Addr} {xs ys : List V} {l m : List D} (ha : FzT G.K H a xs) (hb : FzL G.K H b ys) (rl : RepL G H l xs) (rm : RepL G H m ys) : IterA G H (zipL l m) (ItzTL G.K a b) := by
  have h1 := rl.length
  have h2 := rm.length
  refine ⟨fun H' => Ex H H', Ex.refl H, fun H1 H2 e g => g.trans e, fun i H1 g hi => ?_, fun i H1 x H2 s g st hi y => ?_, fun H1 g => ?_⟩
  · rw [zip_len] at hi
    exact ⟨xs, ys, xs[i], ys[i], (ha.mono g).seq, (hb.mono g).seq, List.getElem?_eq_getElem (by omega), List.getElem?_eq_getElem (by omega)⟩
  · rw [zip_len] at hi
    obtain ⟨T, x1, y1, rfl, hT, rfl, e1, e2⟩ := y
    obtain ⟨d1, q1, k1⟩ := (rl.mono g).get (e1 xs (ha.mono g).seq)
    obtain ⟨d2, q2, k2⟩ := (rm.mono g).get (e2 ys (hb.mono g).seq)
    obtain ⟨z1, z2, z3⟩ := zip_yield hT st k1 k2
    refine ⟨z1, z2, fun d ed => ?_⟩
    obtain ⟨u, v, u1, u2, rfl⟩ := zip_get ed
    rw [q1] at u1
    rw [q2] at u2
    cases u1
    cases u2
    exact z3
  · refine ⟨xs, ys, (ha.mono g).seq, (hb.mono g).seq, ?_⟩
    rw [zip_len, h1, h2]
section
variable {X : Cx} {J : Jx} {ω ω1 : List Nat} {a b : Expr} {fa fb : EX} {p pos tpos : Pos} {elts : List Expr} {kk : Nat}
theorem src_zip (ok : Ok X J) (hG : Gl X "zip") (hm : X.mg "zip" = none) (ha : EJ X J ω a fa) (hb : EJ X J ω b fb)
    (hs : starEach [a, b] X.env = (false, eval a X.env) :: starEach [b] X.env := by rfl) (hs2 : starEach [b] X.env = (false, eval b X.env) :: starEach [] X.env := by rfl) (hpl : (backTo pos (starEach [b] X.env)).any (·.1) = false := by rfl) :
    SrcA X J ω (.Tuple elts kk tpos) (.Call (.Name "zip" p) [a, b] [] pos) (srcZip fa fb) := (pi_zipG hG hm (pa_cons ha (pa_cons hb pa_nil hs2) hs) hs hpl).imp fun σ H R ⟨ρ, s, r, q⟩ => by
  show tG J ω (κV J.G) fa σ H fun x H1 => tG J ω (κV J.G) fb σ H1 fun y H2 => ∃ (a b : Addr) (xs ys : List V), [x, y] = [V.ref a, V.ref b] ∧ _
  refine tG.step r q fun v H1 d s1 g1 r1 k1 q1 => ?_
  refine tG.step r1 (q1.mono g1 fun _ _ _ _ k => k) fun w H2 d2 s2 g2 r2 k2 q2 => ?_
  have k1 := k1.mono g2.imm
  have q2 : Post J σ H1 (κA J.G H) R (zipD d d2 s2) := q2
  cases d with
  | lst l =>
    cases d2 with
    | lst m =>
      have k1 : Rep J.G H2 (.lst l) v := k1
      have k2 : Rep J.G H2 (.lst m) w := k2
      simp only [Rep] at k1 k2
      obtain ⟨a1, xs, rfl, h1, rl⟩ := k1
      obtain ⟨a2, ys, rfl, h2, rm⟩ := k2
      refine ⟨a1, a2, xs, ys, rfl, .inl ⟨by rw [ok.K]; exact h1.seq, by rw [ok.K]; exact h2.seq, ?_⟩⟩
      rw [ok.K]
      exact q2 _ H2 g2 r2.st (zip_iterL h1 h2 rl rm)
    | tup m =>
      have k1 : Rep J.G H2 (.lst l) v := k1
      have k2 : Rep J.G H2 (.tup m) w := k2
      simp only [Rep] at k1 k2
      obtain ⟨a1, xs, rfl, h1, rl⟩ := k1
      obtain ⟨a2, ys, rfl, h2, rm⟩ := k2
      refine ⟨a1, a2, xs, ys, rfl, .inr (.inr (.inl ⟨by rw [ok.K]; exact h1.seq, by rw [ok.K]; exact h2.seq, ?_⟩))⟩
      rw [ok.K]
      exact q2 _ H2 g2 r2.st (zip_iterLT h1 h2 rl rm)
    | _ => exact q2.elim
  | tup l =>
    cases d2 with
    | tup m =>
      have k1 : Rep J.G H2 (.tup l) v := k1
      have k2 : Rep J.G H2 (.tup m) w := k2
      simp only [Rep] at k1 k2
      obtain ⟨a1, xs, rfl, h1, rl⟩ := k1
      obtain ⟨a2, ys, rfl, h2, rm⟩ := k2
      refine ⟨a1, a2, xs, ys, rfl, .inr (.inl ⟨by rw [ok.K]; exact h1.seq, by rw [ok.K]; exact h2.seq, ?_⟩)⟩
      rw [ok.K]
      exact q2 _ H2 g2 r2.st (zip_iterT h1 h2 rl rm)
    | lst m =>
      have k1 : Rep J.G H2 (.tup l) v := k1
      have k2 : Rep J.G H2 (.lst m) w := k2
      simp only [Rep] at k1 k2
      obtain ⟨a1, xs, rfl, h1, rl⟩ := k1
      obtain ⟨a2, ys, rfl, h2, rm⟩ := k2
      refine ⟨a1, a2, xs, ys, rfl, .inr (.inr (.inr ⟨by rw [ok.K]; exact h1.seq, by rw [ok.K]; exact h2.seq, ?_⟩))⟩
      rw [ok.K]
      exact q2 _ H2 g2 r2.st (zip_iterTL h1 h2 rl rm)
    | _ => exact q2.elim
  | _ => cases d2 <;> exact q2.elim
end
end PL
set_option maxHeartbeats 1000000
namespace PL
open PySem PySem.Spec PyProof.Rows L2
section
variable {G : Gam} {H0 H : Hp} {ω ω1 ω2 : List Nat}
end
section
variable {X : Cx} {J : Jx} {ω ω1 ω2 : List Nat} {tg iter tg1 iter1 elt : Expr} {ifs ifs1 : List Expr} {pos : Pos} {src src1 : En → M (List D)} {gt gt1 : TG} {g g1 : D → En → Option En} {t t1 : En → M Bool} {e : EX} {scope : Scope} {own : List (Str × Nat)} {k : Nat}
end
end PL
set_option maxHeartbeats 1000000
namespace PL
open PySem PySem.Spec PyProof.Rows L2
section
variable {X : Cx} {J : Jx} {ω ω1 ω2 ωb ωc : List Nat} {tg iter tg1 iter1 elt : Expr} {ifs ifs1 : List Expr} {pos spos py : Pos} {src src1 : En → M (List D)} {gt gt1 : TG} {g g1 : D → En → Option En} {t t1 : En → M Bool} {e : EX} {scope : Scope} {own : List (Str × Nat)} {k : Nat} {y : Str}
end
section
variable {X : Cx} {J : Jx} {ω : List Nat} {a b : Expr} {fa fb : EX} {p pos : Pos}
end
end PL
set_option maxHeartbeats 1000000
namespace PL
open PySem PySem.Spec PyProof.Rows L2
section
variable {X : Cx} {J : Jx} {ω : List Nat} {a : Expr} {fa : EX} {p pos : Pos}
end
end PL
set_option maxHeartbeats 1000000
namespace PL
open PySem PySem.Spec PyProof.Rows L2
section
variable {X : Cx} {J : Jx}
end
end PL
set_option maxHeartbeats 1000000
namespace PL
open PySem PySem.Spec PyProof.Rows L2
def evX := And.intro @a_pure <| And.intro @a_bad <| And.intro @a_for <| And.intro @a_forRn <| And.intro @a_forRn2 <| And.intro @items_l <| And.intro @items_t <| And.intro @lp_nx <| And.intro @lp_ct <| And.intro @lp_bk <| And.intro @lp_rt <| And.intro @lp_err <| And.intro @lp_bad <| And.intro @d_not <| And.intro @d_isB <| And.intro @d_rt0 <| And.intro @d_rt1 <| And.intro @d_t20 <| And.intro @d_t21 <| And.intro @d_eqT2 <| And.intro @d_neT2 <| And.intro @d_eqRT <| And.intro @d_neRT <| And.intro @d_neTR <| And.intro @d_eqR <| And.intro @d_neR <| And.intro @d_eqRi <| And.intro @d_eqRn <| And.intro @d_eqRs <| And.intro @d_eqRb <| And.intro @d_eqRt <| And.intro @d_eqRl <| And.intro @d_neI <| And.intro @d_eqI <| And.intro @d_neB <| And.intro @d_lenL <| And.intro @d_lenT <| And.intro @a_mk <| And.intro @a_ar <| And.intro @a_seq <| And.intro @a_retE <| And.intro @a_retNE <| And.intro @a_set <| And.intro @a_drop <| And.intro @a_sif <| And.intro @a_par <| And.intro @a_setSt <| And.intro @a_pass <| And.intro @a_call <| And.intro @a_meth <| And.intro @a_cons' <| And.intro @a_nil' <| And.intro @a_bin <| And.intro @a_un <| And.intro @a_var <| And.intro @a_c <| And.intro @a_tup <| And.intro @a_lst <| And.intro @a_test <| And.intro @a_notT <| And.intro @a_andT <| And.intro @a_orT <| And.intro @a_andV <| And.intro @a_orV <| And.intro @a_if <| And.intro @bnd_ok <| And.intro @bnd_err <| And.intro @bnd_bad <| And.intro @re_ok <| And.intro @re_err <| And.intro @re_bad <| And.intro @rs_nx <| And.intro @rs_rt <| And.intro @rs_err <| And.intro @rs_bad <| And.intro @d_fldN <| And.intro @d_fldD <| And.intro @d_mulI <| And.intro @d_addI <| And.intro @d_subI <| And.intro @d_addII <| And.intro @d_sub <| And.intro @d_mul <| And.intro @d_negI <| And.intro @d_neg <| And.intro @d_cmp <| And.intro @d_int <| And.intro @d_intB <| And.intro @d_abs <| And.intro @d_fdiv <| And.intro @d_mod <| And.intro @d_gcd <| And.intro @d_rat1 <| And.intro @d_rat2 <| And.intro @d_ratNew <| And.intro @d_eqF <| And.intro @d_neF <| And.intro @d_isi <| And.intro @d_isi2 <| And.intro @a_compR <| And.intro @a_srcSeq <| And.intro @a_srcRn <| And.intro @a_srcRn2 <| And.intro @a_sl <| And.intro @a_pNone <| And.intro @a_pSome <| And.intro @d_slL <| And.intro @d_slT <| And.intro @d_tupL <| And.intro @d_tupT <| And.intro @d_lstL <| And.intro @d_lstT <| And.intro @d_pow <| And.intro @t_yes <| And.intro @a_wipe <| And.intro @w_nx <| And.intro @w_rt <| And.intro @w_bk <| And.intro @w_ct <| And.intro @w_err <| And.intro @w_bad <| And.intro @a_brkW <| And.intro @a_cntW <| And.intro @a_raise <| And.intro @a_never <| And.intro @List.map_cons.{0,0} <| And.intro @List.map_nil.{0,0} <| And.intro @List.replicate_zero.{0} <| And.intro @List.replicate_succ.{0} <| And.intro @List.append_nil.{0} <| And.intro @List.nil_append.{0} <| And.intro @List.cons_append.{0} <| And.intro @List.length_cons.{0} <| And.intro @List.length_nil.{0} <| And.intro @List.getElem?_cons_zero.{0} <| And.intro @List.getElem?_cons_succ.{0} <| And.intro @List.set_cons_zero.{0} <| And.intro @List.set_cons_succ.{0} <| And.intro @if_true.{1} <| And.intro @if_false.{1} <| And.intro @Bool.false_eq_true <| And.intro @Bool.not_true <| And.intro @Bool.not_false <| And.intro @wipeE.eq_1 <| @wipeE.eq_2
end PL
set_option maxHeartbeats 1000000
namespace PL
open PySem PySem.Spec PyProof.Rows L2
structure EqO (K : PySem.W.Frag) (G : Gam) (c : Nat) (f : Addr) : Prop where
  has : G.has c = true
  hs : PySem.W.findIn K (.ref (G.cls c).1) "__eq__" = some (some (.ref f))
  hf : PySem.W.isFn K (.ref f) = true
  ne : PySem.W.findIn K (.ref (G.cls c).1) "__ne__" = some (some (.builtin "object.__ne__"))
  ob : PySem.W.subIn K (.ref (G.cls c).1) (.type "object") = some true
  nf : ∀ n ∈ (["NoneType", "bool", "int", "str", "tuple", "list"] : List String), PySem.W.notFirst K (G.cls c).1 (.type n) = true
  nr : PySem.W.notFirst K (G.cls c).1 (.ref G.rc) = true
section
variable {X : Cx} {J : Jx} {c : Nat} {f : Addr} {m : List D → M D} {n : Nat}
theorem EqO.at {K : PySem.W.Frag} {G : Gam} {c : Nat} {f : Addr} (E : EqO K G c f) (th : Option Addr) : EqO K (G.at th) c f := ⟨E.has, E.hs, E.hf, E.ne, E.ob, E.nf, E.nr⟩
def CalA (X : Cx) (J : Jx) (A : Around) (f : Addr) (m : List D → M D) : Prop := ∀ (pins : List (Addr × Obj)) (σ : St) (H : Hp) (s : Shared) (us : List Value) (vs : List V) (args : List D) (ds : DS) (Q : VK),
  Inv X pins σ H s → Vals vs us → StOk J.G ds H → RepL J.G H args vs → Post J σ H (fun d v H' => Rep J.G H' d v) Q (m args ds) → wpAny (model X.prog X.w) A (call (.ref f) us) (EP X pins σ Q) X.xe s
theorem run_fnA {A : Around} {k : Nat} {fd : FuncData} {ps : List Str} {sp : Sp} {E : St → XK} {pins : List (Addr × Obj)} {σ : St} {H : Hp} {s : Shared} {Q : VK} {us : List Value} {vs : List V} (F : FnOk X.prog X.w X.K X.mg X.base (L2.CX X.prog X.w) k f fd ps sp) (sb : Sub X k A) (hb : Binds X.K fd ps []) (hx : PassesAt (L2.CX X.prog X.w) X σ (E σ))
    (I : Inv X pins σ H s) (r : Vals vs us) (h : sp vs H Q (E σ)) : wpAny (model X.prog X.w) A (call (.ref f) us) (EP X pins σ Q) X.xe s := by
  have hl : us.length = ps.length := by rw [← r.length]; exact F.len _ _ _ _ h
  have b := hb s us I.kIn (by rw [List.append_nil]; exact hl)
  rw [List.append_nil] at b
  have e0 : Env0 X.prog X.w X.K X.mg X.base A X.stack s H := by
    have e := I.env0
    exact ⟨by rw [sb.fr]; exact e.frames, e.mod, e.bs, e.bsz, e.funs, e.frf, e.hok, e.bare⟩
  refine wpAny_call (codeAny_mono (F.run A X.stack s H ⟨us, []⟩ us vs Q (E σ) sb.room e0 b r h) fun r s' hq => ?_)
  cases r with
  | error e => exact hx pins H s e s' I hq
  | ok fl =>
    cases fl with
    | ret u => exact I.after hq
    | next => exact False.elim hq
    | brk => exact False.elim hq
    | cont => exact False.elim hq
theorem CalA.fn {A : Around} {k : Nat} {fd : FuncData} {ps : List Str} {n : Nat} {G : Gam} (ok : Ok X J) (F : FnOk X.prog X.w X.K X.mg X.base (L2.CX X.prog X.w) k f fd ps (spM G m n)) (hn : ps.length = n) (sb : Sub X k A) (hb : Binds X.K fd ps []) (hG : J.G = G.at J.G.th)
    : CalA X J A f (fun args => if args.length = n then m args else bad) := by
  intro pins σ H s us vs args ds Q I rv st ra q
  by_cases c : args.length = n
  · simp only [c, if_true] at q
    refine run_fnA (E := fun σ cls d H => J.W cls d σ H) F sb hb (passAt ok.tk σ) I rv ⟨J.G.th, args, ds, by rw [← hG]; exact ra, by rw [← hG]; exact st, c, ?_⟩
    rw [← hG]
    cases e : m args ds with
    | ok d s1 => rw [e] at q; exact q
    | err x s1 => rw [e] at q; exact q
    | bad => rw [e] at q; exact q
  · simp only [c, if_false] at q; exact q.elim
end
end PL
set_option maxHeartbeats 1000000
namespace PL
open PySem PySem.Spec PyProof.Rows L2
section
variable {X : Cx} {J : Jx}
end
end PL
set_option maxHeartbeats 1000000
namespace PL
open PySem PySem.Spec PyProof.Rows L2
section
variable {X : Cx} {J : Jx} {c : Nat} {m : List D → M D}
end
end PL
set_option maxHeartbeats 1000000
namespace PL
open PySem PySem.Spec PyProof.Rows L2
inductive NumV : V → Int → Prop
  | int (i : Int) : NumV (.int i) i
  | bl (b : Bool) : NumV (.bl b) (if b then 1 else 0)
inductive NumVs : List V → List Int → Prop
  | nil : NumVs [] []
  | cons {v : V} {k : Int} {vs : List V} {ks : List Int} : NumV v k → NumVs vs ks → NumVs (v :: vs) (k :: ks)
section
variable {X : Cx} {J : Jx} {ω : List Nat}
end
end PL
set_option maxHeartbeats 1000000
namespace PL
open PySem PySem.Spec PyProof.Rows L2
section
variable {X : Cx} {J : Jx} {ω ωb ωc : List Nat} {e : Expr} {fe : EX} {pos : Pos}
end
end PL
set_option maxHeartbeats 1000000
namespace PL
open PySem PySem.Spec PyProof.Rows L2
section
variable {X : Cx} {pins : List (Addr × Obj)} {σ : St} {H : Hp} {s : Shared} {a : Addr} {xs : List V} {o : Obj}
theorem inv_thaw (I : Inv X pins σ H s) (h : H a = some (.frz o (.lst xs))) (hb : ∀ o u, X.H_0 a ≠ some (.frz o u)) : Inv X pins σ (upd H a (.lst xs)) s := by
  have na : ∀ {b : Addr}, H b = none → b ≠ a := fun {b} e z => by subst z; rw [h] at e; cases e
  have un : ∀ {b : Addr} {u : HO}, H b = some u → u ≠ .frz o (.lst xs) → b ≠ a := fun {b u} q d z => by subst z; rw [h] at q; cases q; exact d rfl
  have nn : ∀ {b : Addr}, H b = none → upd H a (.lst xs) b = none := fun {b} e => by rw [upd_ne (na e)]; exact e
  refine ⟨I.ok, I.os, I.bare, ⟨I.base.keep, I.base.slot, fun b o e n hx => nn (I.base.free b o e n hx), I.base.there, fun b ys e => ?_, fun b ob u e => ?_, fun b ps e => ?_⟩, I.loc, I.cell, nn I.free, fun x c e => nn (I.freeC x c e), fun p hp => ?_, fun b u q => ?_, I.len⟩
  · have q := I.base.tups b ys e
    rw [upd_ne (un q fun z => by cases z)]
    exact q
  · have q := I.base.frzs b ob u e
    have ne : b ≠ a := fun z => by subst z; exact hb _ _ e
    rw [upd_ne ne]
    exact q
  · obtain ⟨more, q⟩ := I.base.tbls b ps e
    exact ⟨more, by rw [upd_ne (un q fun z => by cases z)]; exact q⟩
  · obtain ⟨e, n, r⟩ := I.pin p hp
    exact ⟨e, nn n, r⟩
  · by_cases hba : b = a
    · subst hba
      rw [upd_same] at q
      cases q
      exact (show ObjOk X.prog X.w H s.heap b (.frz o (.lst xs)) from I.hok b _ h).2
    · rw [upd_ne hba] at q
      exact (I.hok b u q).stay (fun c v _ q => q) (fun c q => by rw [upd_ne (un q fun z => by cases z)]; exact q) fun c ys q => by rw [upd_ne (un q fun z => by cases z)]; exact q
end
section
variable {X : Cx} {J : Jx} {ω : List Nat} {e1 e2 : Expr} {f1 f2 : EX} {pos p : Pos} {f : Addr} {m : List D → M D} {x : Str}
end
end PL
set_option maxHeartbeats 2000000
namespace GQ4
open PySem PySem.SeqAt GQ
open AutoSeq1 (wpAny_loadPart')
open MeetsSeq MeetsSeq2 MeetsSeq3 SeqRoads2
section
variable {prog : Program} {w : World} {A : Around} {R : Result → Shared → Prop} {E : Value → Shared → Prop}
end
end GQ4
namespace PL
open PySem PySem.Spec PyProof.Rows L2
section
variable {X : Cx} {J : Jx} {ω : List Nat} {n0 : Nat}
end
end PL
set_option maxHeartbeats 1000000
namespace PL
open PySem PySem.Spec PyProof.Rows L2
section
variable {X : Cx} {J : Jx} {ω ωb ωc : List Nat} {e : Expr} {fe : EX} {pos pos' p2 apos2 cpos2 : Pos} {x y : Str}
end
end PL
set_option maxHeartbeats 1000000
namespace PL
open PySem PySem.Spec PyProof.Rows L2
open AutoSeq1 (wpAny_loadPart')
end PL
set_option maxHeartbeats 1000000
namespace PL
open PySem PySem.Spec PyProof.Rows L2
def dl : List Int → List Int
  | [] => []
  | x :: l => if x ∈ l then dl l else x :: dl l
section
variable {X : Cx} {J : Jx} {ω : List Nat} {e : Expr} {fe : EX} {p p2 q pos : Pos}
end
end PL
set_option maxHeartbeats 1000000
namespace PL
open PySem PySem.Spec PyProof.Rows L2
section
variable {X : Cx} {J : Jx} {ω : List Nat} {a : Expr} {fa : EX} {p pos : Pos}
end
end PL
set_option maxHeartbeats 1000000
namespace GQ5
open PySem PySem.Spec PyProof.Rows L2
open Builtin.Str
section
variable {prog : Program} {w : World} {A : Around} {E : Value → Shared → Prop} {s : Shared} {K : PySem.W.Frag} {x C f : Addr} {ox : Obj} {odd : Option Obj}
end
end GQ5
set_option maxHeartbeats 1000000
namespace PL
open PySem PySem.Spec PyProof.Rows L2
section
variable {X : Cx} {J : Jx} {ω : List Nat} {f : Addr} {m : List D → M D} {e o : Expr} {fe fo : EX} {p pos apos cpos : Pos} {x : Str}
end
end PL
set_option maxHeartbeats 1000000
namespace PL
open PySem PySem.Spec PyProof.Rows L2
section
variable {X : Cx} {J : Jx} {ω : List Nat} {tg e : Expr} {es : List Expr} {fe : EX} {pos p2 : Pos} {lo hi : Option Expr} {fl fh : En → M (Option Int)}
inductive JsJ (X : Cx) (J : Jx) (ω : List Nat) : List Expr → List EX → Prop where
  | nil : JsJ X J ω [] []
  | cons {e : Expr} {f : EX} {es : List Expr} {fs : List EX} (h : EJ X J ω e f) (r : JsJ X J ω es fs) : JsJ X J ω (e :: es) (f :: fs)
end
end PL
set_option maxHeartbeats 1000000
namespace PL
open PySem PySem.Spec PyProof.Rows L2 HT
section
variable {prog : Program} {w : World} {A : Around} {E : Value → Shared → Prop} {s : Shared}
end
section
variable {X : Cx} {J : Jx} {ω : List Nat} {e : Expr} {fe : EX} {k : Nat} {p1 p2 p3 pos : Pos}
end
end PL
set_option maxHeartbeats 1000000
namespace PL
open PySem PySem.Spec PyProof.Rows L2
section
variable {X : Cx} {J : Jx} {ω : List Nat} {a b : Expr} {fa fb : EX} {pos : Pos}
end
def RR (G : Gam) (H H' : Hp) (d : D) (v : V) : Prop := (Rep G H' d v ∧ ∀ l, d ≠ .lst l) ∨ ∃ F, RepO G H' 1 d v F ∧ F.Nodup ∧ ∀ a ∈ F, H a = none
def spO (G : Gam) (m : List D → M D) (n : Nat) : Sp := fun vs H Q E => ∃ th args s, RepL (G.at th) H args vs ∧ StOk (G.at th) s H ∧ args.length = n ∧ match m args s with
  | .ok d s' => ∀ v H', Gr (G.at th) H H' → StOk (G.at th) s' H' → RR (G.at th) H H' d v → Q v H'
  | .err x s' => ∀ cls dc H', Gr (G.at th) H H' → StOk (G.at th) s' H' → RepX (G.at th) H' x cls dc → E cls dc H'
  | .bad => False
section
variable {X : Cx} {J : Jx} {ω ω1 ω' ωb ωc : List Nat} {e : Expr} {fe : EX} {pos p' : Pos} {j : Nat}
def κR (G : Gam) : Hp → D → V → Hp → Prop := fun H d v H' => RR G H H' d v
def CalO (X : Cx) (J : Jx) (f : Addr) (m : List D → M D) : Prop := ∀ (pins : List (Addr × Obj)) (σ : St) (H : Hp) (s : Shared) (us : List Value) (vs : List V) (args : List D) (ds : DS) (Q : VK),
  Inv X pins σ H s → Vals vs us → StOk J.G ds H → RepL J.G H args vs → Post J σ H (κR J.G H) Q (m args ds) → wpAny (model X.prog X.w) X.A (call (.ref f) us) (EP X pins σ Q) X.xe s
theorem CalO.fn {f : Addr} {m : List D → M D} {k : Nat} {fd : FuncData} {ps : List Str} {n : Nat} {G : Gam} (ok : Ok X J) (F : FnOk X.prog X.w X.K X.mg X.base (L2.CX X.prog X.w) k f fd ps (spO G m n)) (hn : ps.length = n) (hr : Room k X.A) (hb : Binds X.K fd ps []) (hG : J.G = G.at J.G.th)
    : CalO X J f (fun args => if args.length = n then m args else bad) := by
  intro pins σ H s us vs args ds Q I rv st ra q
  by_cases c : args.length = n
  · simp only [c, if_true] at q
    refine run_fnS (E := fun σ cls d H => J.W cls d σ H) F hr hb (passAt ok.tk σ) I rv ⟨J.G.th, args, ds, by rw [← hG]; exact ra, by rw [← hG]; exact st, c, ?_⟩
    rw [← hG]
    cases e : m args ds with
    | ok d s1 => rw [e] at q; exact q
    | err x s1 => rw [e] at q; exact q
    | bad => rw [e] at q; exact q
  · simp only [c, if_false] at q
    exact q.elim
end
end PL
set_option maxHeartbeats 1000000
namespace PL
open PySem PySem.Spec PyProof.Rows L2
section
variable {X : Cx} {J : Jx} {ω : List Nat} {a : Expr} {fa : EX} {p pos : Pos}
end
end PL
set_option maxHeartbeats 1000000
namespace PL
open PySem PySem.Spec PyProof.Rows L2
section
variable {X : Cx} {J : Jx} {n0 : Nat}
end
end PL
set_option maxHeartbeats 2000000
namespace NeK
open PySem PySem.W PySem.Calls PyProof.Rows Builtin PySem.SeqAt
section
variable {prog : Program} {w : World} {A : Around} {E : Value → Shared → Prop} {s : Shared} {K : Frag} {x C L f : Addr} {h₀ : Heap} {m : Str → Option Value} {ox : Obj} {od : Option Obj}
end
end NeK
namespace PL
open PySem PySem.Spec PyProof.Rows L2
section
variable {X : Cx} {J : Jx} {n0 : Nat}
end
end PL
set_option maxHeartbeats 1000000
namespace PL
open PySem PySem.Spec PyProof.Rows L2
section
variable {X : Cx} {J : Jx} {ω : List Nat} {e : Expr} {fe : EX} {pos p2 : Pos} {lo hi : Option Expr} {fl fh : En → M (Option Int)}
end
end PL
set_option maxHeartbeats 1000000
namespace PL
open PySem PySem.Spec PyProof.Rows L2
mutual
def LF : D → Bool
  | .non => true
  | .bl _ => true
  | .int _ => true
  | .str _ => true
  | .rat _ => true
  | .tup l => LFs l
  | .lst _ => false
  | .obj _ _ => false
  | .st => false
  | .adr _ => false
def LFs : List D → Bool
  | [] => true
  | d :: l => LF d && LFs l
end
mutual
theorem rep_lf {G : Gam} {H H' : Hp} (hx : ∀ b o, Imm o → (∀ ob u, o ≠ .frz ob u) → H b = some o → H' b = some o) : ∀ {d : D} {v : V}, LF d = true → Rep G H d v → Rep G H' d v
  | .non, _, _, h => by simpa only [Rep] using h
  | .bl _, _, _, h => by simpa only [Rep] using h
  | .int _, _, _, h => by simpa only [Rep] using h
  | .str _, _, _, h => by simpa only [Rep] using h
  | .rat _, _, _, h => by
    simp only [Rep] at h ⊢
    obtain ⟨a, dx, e, h⟩ := h
    exact ⟨a, dx, e, hx _ _ trivial (fun _ _ z => by cases z) h⟩
  | .tup l, _, f, h => by
    simp only [Rep] at h ⊢
    obtain ⟨a, xs, e, h, r⟩ := h
    refine ⟨a, xs, e, ?_, rep_lfs hx (by simpa only [LF] using f) r⟩
    rcases h with h | h
    · exact .inl (hx _ _ trivial (fun _ _ z => by cases z) h)
    · exact .inr h
  | .lst _, _, f, _ => by simp [LF] at f
  | .obj _ _, _, f, _ => by simp [LF] at f
  | .st, _, f, _ => by simp [LF] at f
  | .adr _, _, f, _ => by simp [LF] at f
theorem rep_lfs {G : Gam} {H H' : Hp} (hx : ∀ b o, Imm o → (∀ ob u, o ≠ .frz ob u) → H b = some o → H' b = some o) : ∀ {l : List D} {xs : List V}, LFs l = true → RepL G H l xs → RepL G H' l xs
  | [], _, _, h => by simpa only [RepL] using h
  | d :: l, _, f, h => by
    simp only [RepL] at h ⊢
    obtain ⟨v, vs, e, h, r⟩ := h
    have f : LF d = true ∧ LFs l = true := by simpa only [LFs, Bool.and_eq_true] using f
    exact ⟨v, vs, e, rep_lf hx f.1 h, rep_lfs hx f.2 r⟩
end
def okLend : List D → D → Bool
  | .lst _ :: _, .lst m => LFs m
  | _, d => LF d
def cLend (i : Nat) (f : EX) : EX := fun ρ s => match ρ[i]? with
  | some (some (.lst l)) => match f ρ s with
    | .ok d s' => if okLend l d = true then .ok d s' else .bad
    | _ => .bad
  | _ => .bad
section
variable {X : Cx} {J : Jx} {ω : List Nat} {e : Expr} {fe : EX}
theorem lf_not {pins : List (Addr × Obj)} {σ : St} {H : Hp} {s : Shared} (I : Inv X pins σ H s) {G : Gam} (hK : X.K = G.K) {b : Addr} {ob : Obj} {xs : List V} (hb : H b = some (.frz ob (.lst xs))) : ∀ {d : D}, LF d = true → ¬ Rep G H d (.ref b)
  | .non, _, h => by simp [Rep] at h
  | .bl _, _, h => by simp [Rep] at h
  | .int _, _, h => by simp [Rep] at h
  | .str _, _, h => by simp [Rep] at h
  | .rat _, _, h => by
    simp only [Rep] at h
    obtain ⟨a, dx, e, h⟩ := h
    cases e
    rw [hb] at h; cases h
  | .tup l, f, h => by
    simp only [Rep] at h
    obtain ⟨a, xs, e, h, r⟩ := h
    cases e
    rcases h with h | ⟨o, its, n, e, _⟩
    · rw [hb] at h; cases h
    · rw [← hK] at e
      have := (I.bs b o (I.ok.mod.kin b o e)).2
      rw [hb] at this; cases this
  | .lst _, f, _ => by simp [LF] at f
  | .obj _ _, f, _ => by simp [LF] at f
  | .st, f, _ => by simp [LF] at f
  | .adr _, f, _ => by simp [LF] at f
theorem e_lend (ok : Ok X J) (i : Nat) (he : EJ X J (ω.set i 0) e fe) (hk : kd ω i = 1 := by rfl) : EJ X J ω e (cLend i fe) := by
  refine ⟨fun pins s σ H Q I h => ?_⟩
  obtain ⟨ρ, ds, r, q⟩ := h
  unfold cLend at q
  cases eo : ρ[i]? with
  | none => rw [eo] at q; exact q.elim
  | some o =>
  cases o with
  | none => rw [eo] at q; exact q.elim
  | some d0 =>
  rw [eo] at q
  cases d0 with
  | lst l =>
    have q : Post J σ H (κV J.G H) Q (match fe ρ ds with | .ok d s' => if okLend l d = true then .ok d s' else .bad | _ => .bad) := q
    cases ef : fe ρ ds with
    | err x s' => rw [ef] at q; exact q.elim
    | bad => rw [ef] at q; exact q.elim
    | ok d s' =>
      rw [ef] at q
      have q : Post J σ H (κV J.G H) Q (if okLend l d = true then .ok d s' else .bad) := q
      by_cases hok : okLend l d = true
      · rw [if_pos hok] at q
        have q : ∀ v H', Gr J.G H H' → StOk J.G s' H' → Rep J.G H' d v → Q v H' := q
        obtain ⟨F, h1, h2, h3, h4⟩ := r.sl
        obtain ⟨v0, ev0, p0⟩ := h1 i _ eo
        rw [hk] at p0
        obtain ⟨l', a, xs, Fs, e1, rfl, ha, eF, p⟩ := p0
        cases e1
        have rl : RepL J.G H l xs := repL_of3 p
        have aF : a ∈ F i := by rw [eF]; exact List.mem_cons_self
        have nth : J.G.th ≠ some a := (h4 i a aF).2
        obtain ⟨ob, I2⟩ := inv_freeze I ha
        have hb0 : ∀ o u, X.H_0 a ≠ some (.frz o u) := fun o u e => by have := I.base.frzs a o u e; rw [ha] at this; cases this
        have im : Ex H (upd H a (.frz ob (.lst xs))) := imm_upd ha
        have st2 : StOk J.G ds (upd H a (.frz ob (.lst xs))) := fun c e => by rw [upd_ne fun z => nth (by rw [← z]; exact e)]; exact r.st c e
        have r2 : RepS J.G J.H0 (ω.set i 0) ds (upd H a (.frz ob (.lst xs))) σ ρ := by
          refine ⟨⟨fun b o im2 e => ?_, fun b o nt e => ?_, fun b e => r.gr.th b (upd_none e)⟩, st2, r.len, fun j => if j = i then [] else F j, fun j d hj => ?_, fun j => ?_, fun j k b hjk hb hc => ?_, fun j b hb => ?_⟩
          · have ne : b ≠ a := fun z => by subst z; rw [(h4 i b aF).1] at e; cases e
            rw [upd_ne ne]; exact r.gr.imm b o im2 e
          · have ne : b ≠ a := fun z => by subst z; rw [(h4 i b aF).1] at e; cases e
            rw [upd_ne ne]; exact r.gr.all b o nt e
          · by_cases hji : i = j
            · subst hji
              rw [eo] at hj
              cases hj
              refine ⟨.ref a, ev0, ?_⟩
              rw [kd_put (.inl rfl)]
              simp only [if_true]
              refine ⟨rfl, ?_⟩
              simp only [Rep]
              exact ⟨a, xs, rfl, ⟨ob, upd_same⟩, rl.mono im⟩
            · obtain ⟨w, e1, p1⟩ := h1 j d hj
              refine ⟨w, e1, ?_⟩
              rw [kd_set, if_neg (fun z => hji z.1)]
              simp only [if_neg (fun z : j = i => hji z.symm)]
              exact p1.keep im fun b hb ys eb => by rw [upd_ne fun z => h3 j i b (fun z => hji z.symm) hb (by rw [z]; exact aF)]; exact eb
          · by_cases e : j = i
            · simp only [if_pos e]; exact List.nodup_nil
            · simp only [if_neg e]; exact h2 j
          · by_cases e : j = i
            · simp only [if_pos e] at hb; cases hb
            · by_cases e2 : k = i
              · simp only [if_pos e2] at hc; cases hc
              · simp only [if_neg e] at hb
                simp only [if_neg e2] at hc
                exact h3 j k b hjk hb hc
          · by_cases e : j = i
            · simp only [if_pos e] at hb; cases hb
            · simp only [if_neg e] at hb
              exact h4 j b hb
        refine wpAny_mono (he.run pins s σ (upd H a (.frz ob (.lst xs))) (fun v H' => Gr J.G (upd H a (.frz ob (.lst xs))) H' ∧ StOk J.G s' H' ∧ Rep J.G H' d v) I2 ⟨ρ, ds, r2, ?_⟩) ?_ fun _ _ z => z
        · rw [ef]
          exact fun v H' g t k => ⟨g, t, k⟩
        · rintro u s2 ⟨v, H', I', rv', g, t, k⟩
          have hfa : H' a = some (.frz ob (.lst xs)) := g.imm a _ trivial upd_same
          have gr : Gr J.G H (upd H' a (.lst xs)) := by
            refine ⟨fun c o i e => ?_, fun c o n e => ?_, fun c e => ?_⟩
            · have ne : c ≠ a := fun z => by subst z; rw [ha] at e; cases e; exact i
              rw [upd_ne ne]
              exact g.imm c o i (by rw [upd_ne ne]; exact e)
            · by_cases z : c = a
              · subst z; rw [upd_same, ← e, ha]
              · rw [upd_ne z]
                exact g.all c o n (by rw [upd_ne z]; exact e)
            · by_cases z : c = a
              · subst z; rw [upd_same] at e; cases e
              · rw [upd_ne z] at e
                have := g.th c e
                rw [upd_ne z] at this
                exact this
          have hx : ∀ b o, Imm o → (∀ ob u, o ≠ .frz ob u) → H' b = some o → upd H' a (.lst xs) b = some o := fun b o _ nf e => by
            rw [upd_ne fun z => by subst z; rw [hfa] at e; cases e; exact nf _ _ rfl]
            exact e
          have kk : Rep J.G (upd H' a (.lst xs)) d v := by
            by_cases hlf : LF d = true
            · exact rep_lf hx hlf k
            · obtain ⟨l0, lr, m, el, ed, fm⟩ : ∃ l0 lr m, l = .lst l0 :: lr ∧ d = .lst m ∧ LFs m = true := by
                unfold okLend at hok
                split at hok
                · exact ⟨_, _, _, rfl, rfl, hok⟩
                · exact absurd hok hlf
              subst el ed
              simp only [Rep] at k ⊢
              obtain ⟨b, ys, rfl, ⟨o2, hb⟩, rm⟩ := k
              refine ⟨b, ys, rfl, ⟨o2, ?_⟩, rep_lfs hx fm rm⟩
              rw [upd_ne fun z => ?_]
              · exact hb
              · subst z
                rw [hfa] at hb
                cases hb
                have rl := rl
                simp only [RepL] at rl
                obtain ⟨v1, vs, exs, r1, _⟩ := rl
                subst exs
                cases m with
                | nil => simp [RepL] at rm
                | cons d1 m' =>
                  simp only [RepL] at rm
                  obtain ⟨w1, ws, ew, q1, _⟩ := rm
                  cases ew
                  simp only [Rep] at r1
                  obtain ⟨c, zs, rfl, ⟨oc, hc⟩, _⟩ := r1
                  have nc : c ≠ b := fun z => by subst z; rw [ha] at hc; cases hc
                  have hc' : H' c = some (.frz oc (.lst zs)) := g.imm c _ trivial (by rw [upd_ne nc]; exact hc)
                  have f1 : LF d1 = true := by
                    have : LF d1 = true ∧ LFs m' = true := by simpa only [LFs, Bool.and_eq_true] using fm
                    exact this.1
                  exact lf_not I' ok.K hc' f1 q1
          refine ⟨v, upd H' a (.lst xs), inv_thaw I' hfa hb0, rv', q _ _ gr (fun c e => ?_) kk⟩
          rw [upd_ne fun z => nth (by rw [← z]; exact e)]
          exact t c e
      · rw [if_neg hok] at q
        exact q.elim
  | _ => exact q.elim
end
theorem a_lend {i : Nat} {f : EX} {ρ : En} {s s' : DS} {l : List D} {d : D} (h0 : ρ[i]? = some (some (.lst l))) (h1 : f ρ s = .ok d s') (h2 : okLend l d = true) : cLend i f ρ s = .ok d s' := by
  unfold cLend
  rw [h0]
  dsimp only
  rw [h1]
  exact if_pos h2
end PL
set_option maxHeartbeats 1000000
namespace PyProof.Rows
open PySem
section
variable {prog : Program} {w : World} {A : Around} {E : Value → Shared → Prop} {s : Shared}
end
end PyProof.Rows
namespace PL
open PySem PySem.Spec PyProof.Rows L2
section
variable {X : Cx} {J : Jx} {ω : List Nat} {a : Expr} {fa : EX} {p pos : Pos}
end
end PL
set_option maxHeartbeats 1000000
namespace PL
open PySem PySem.Spec PyProof.Rows L2
section
variable {X : Cx} {J : Jx} {ω ω1 ωb ωc : List Nat} {e : Expr} {fe : EX} {pos pos' lpos p2 apos2 cpos2 : Pos} {x y : Str}
end
end PL
set_option maxHeartbeats 1000000
namespace PL
open PySem PySem.Spec PyProof.Rows L2
open AutoSeq1 (wpAny_loadPart')
end PL
set_option maxHeartbeats 1000000
namespace PL
open PySem PySem.Spec PyProof.Rows L2
def dLcm : D → D → M D
  | .int a, .int b => if (decide (a.natAbs < 2 ^ 63) && decide (b.natAbs < 2 ^ 63)) = true then pure (.int (Nat.lcm a.natAbs b.natAbs : Nat)) else bad
  | _, _ => bad
def rLcm : List V → Hp → VK → Prop := fun vs H Q => ∃ a b : Int, vs = [.int a, .int b] ∧ a.natAbs < 2 ^ 63 ∧ b.natAbs < 2 ^ 63 ∧ Q (.int ((Nat.lcm a.natAbs b.natAbs : Nat) : Int)) H
section
variable {X : Cx} {J : Jx} {ω : List Nat} {a b : Expr} {fa fb : EX} {pos p : Pos} {x : Str}
theorem cr_lcm : CallR X (.builtin "math.lcm") rLcm := by
  intro pins s σ H vs us Q I r h
  obtain ⟨a, b, rfl, h1, h2, q⟩ := h
  obtain ⟨t, u, rfl⟩ := Vals.int2 r
  exact PySem.W.mc_lcm (Nat.lt_of_lt_of_le h1 (Nat.pow_le_pow_right (by decide) (by decide))) (Nat.lt_of_lt_of_le h2 (Nat.pow_le_pow_right (by decide) (by decide))) fun _ => ⟨.int _, H, I.tok _, ⟨_, rfl⟩, q⟩
theorem e_lcm (ha : EJ X J ω a fa) (hb : EJ X J ω b fb) (hg : Gl X x) (hm : X.mg x = some (.builtin "math.lcm")) (hdb : (x == ("__debug__" : Str)) = false := by decide)
    (he : starEach [a, b] X.env = (false, eval a X.env) :: starEach [b] X.env := by rfl) (he2 : starEach [b] X.env = (false, eval b X.env) :: starEach [] X.env := by rfl) (hpl : (backTo pos (starEach [b] X.env)).any (·.1) = false := by rfl) :
    EJ X J ω (.Call (.Name x p) [a, b] [] pos) (cBin dLcm fa fb) :=
  (pe_callBfun cr_lcm hg hm (pa_cons ha (pa_cons hb pa_nil he2) he) hdb he hpl).imp fun σ H Q ⟨ρ, s, r, q⟩ => by
    show tG J ω (κV J.G) fa σ H fun x H1 => tG J ω (κV J.G) fb σ H1 fun y H2 => rLcm [x, y] H2 Q
    refine tG.step r q fun x H1 dx s1 g1 r1 kx q1 => ?_
    refine tG.step r1 (q1.mono g1 (κ' := fun d v H' => Rep J.G H' d v) fun _ _ _ _ k => k) fun y H2 dy s2 g2 r2 ky q2 => ?_
    cases dx with
    | int i =>
      cases dy with
      | int j =>
        have q2 : Post J σ H1 (κV J.G H1) Q ((if (decide (i.natAbs < 2 ^ 63) && decide (j.natAbs < 2 ^ 63)) = true then pure (.int (Nat.lcm i.natAbs j.natAbs : Nat)) else bad : M D) s2) := q2
        by_cases c : (decide (i.natAbs < 2 ^ 63) && decide (j.natAbs < 2 ^ 63)) = true
        · rw [if_pos c] at q2
          obtain ⟨c1, c2⟩ := Bool.and_eq_true_iff.mp c
          exact ⟨i, j, by rw [rep_int.mp kx, rep_int.mp ky], of_decide_eq_true c1, of_decide_eq_true c2, q2 _ H2 g2 r2.st (rep_int.mpr rfl)⟩
        · rw [if_neg c] at q2
          exact q2.elim
      | _ => exact q2.elim
    | _ => exact q2.elim
end
theorem d_lcm {i j : Int} {s : DS} (h1 : i.natAbs < 2 ^ 63) (h2 : j.natAbs < 2 ^ 63) : dLcm (.int i) (.int j) s = .ok (.int (Nat.lcm i.natAbs j.natAbs : Nat)) s := by
  show (if (decide (i.natAbs < 2 ^ 63) && decide (j.natAbs < 2 ^ 63)) = true then pure (.int (Nat.lcm i.natAbs j.natAbs : Nat)) else bad : M D) s = _
  rw [if_pos (by rw [decide_eq_true h1, decide_eq_true h2]; rfl)]
  rfl
def sIfD (t : En → M Bool) (f g1 g2 : SX) : SX := sE t fun c => if c = true then sSeq f g1 else g2
section
variable {X : Cx} {J : Jx} {ω ω1 ω' ωb ωc : List Nat} {rest : List Stmt} {f g1 g2 : SX} {pos : Pos}
theorem ss_ifD {c : Expr} {a : List Stmt} {t : En → M Bool} (hok : J.ok ω) (hc : TJ X J ω c t) (ha : SsJ X J ω ω1 ωb ωc a f) (h1 : SsJ X J ω1 ω' ωb ωc rest g1) (h2 : SsJ X J ω ω' ωb ωc rest g2) :
    SsJ X J ω ω' ωb ωc (.If c a [] pos :: rest) (sIfD t f g1 g2) := by
  have hR : PSs X rest (fun D σ H => tS J ω1 ω' ωb ωc g1 D σ H ∨ tS J ω ω' ωb ωc g2 D σ H) := ⟨fun pins s σ H D I h => by
    rcases h with h | h
    · exact h1.run pins s σ H D I h
    · exact h2.run pins s σ H D I h⟩
  refine (pss_cons (ps_if hc ha pss_nil) hR).imp fun D σ H h => tS.exp hok h fun v H1 d ρ s1 g r k q => ?_
  obtain rfl : d = v := k
  cases d with
  | true =>
    refine ⟨ρ, s1, r, ?_⟩
    have q : PostS J H ω' ωb ωc D (sSeq f g1 ρ s1) := q
    have q := q.mono g.imm
    unfold sSeq at q
    cases e : f ρ s1 with
    | go fl ρ1 s2 =>
      rw [e] at q
      cases fl with
      | nx => exact fun σ1 H2 e1 r1 => .inl ⟨ρ1, s2, r1, q.mono e1⟩
      | rt d => exact q
      | bk => exact q
      | ct => exact q
    | err x ρ1 s2 => rw [e] at q; exact q
    | bad => rw [e] at q; exact q
  | false =>
    have q : PostS J H ω' ωb ωc D (g2 ρ s1) := q
    exact .inr ⟨ρ, s1, r, q.mono g.imm⟩
end
theorem a_ifD {t : En → M Bool} {f g1 g2 : SX} {ρ : En} {s s1 : DS} {b : Bool} (h : t ρ s = .ok b s1) : sIfD t f g1 g2 ρ s = if b = true then sSeq f g1 ρ s1 else g2 ρ s1 := by
  unfold sIfD sE
  rw [h]
  cases b <;> rfl
end PL
set_option maxHeartbeats 4000000
namespace MB
open PySem PySem.Spec PyProof.Rows L2 PL
noncomputable def b_is_integer : SX := (sRetE (cAndV (cUn (dIsi .int) (cVar 0)) (cUn dNot (cUn (dIsi .bool) (cVar 0)))))
noncomputable def m_is_integer : List D → M D := mk 0 b_is_integer
noncomputable def b_Ratio___eq__ : SX := (sRetE (cAndV (cUn (dIsi .rat) (cVar 1)) (cAndV (cBin dEqF (cUn dFldN (cVar 0)) (cUn dFldN (cVar 1))) (cBin dEqF (cUn dFldD (cVar 0)) (cUn dFldD (cVar 1))))))
noncomputable def m_Ratio___eq__ : List D → M D := mk 0 b_Ratio___eq__
noncomputable def b_Ratio___add__ : SX := (sRetE (cCall mRat (aCons (cBin dAddI (cBin dMulI (cUn dFldN (cVar 0)) (cUn dFldD (cVar 1))) (cBin dMulI (cUn dFldN (cVar 1)) (cUn dFldD (cVar 0)))) (aCons (cBin dMulI (cUn dFldD (cVar 0)) (cUn dFldD (cVar 1))) aNil))))
noncomputable def m_Ratio___add__ : List D → M D := mk 0 b_Ratio___add__
noncomputable def b_Ratio___sub__ : SX := (sRetE (cCall mRat (aCons (cBin dSubI (cBin dMulI (cUn dFldN (cVar 0)) (cUn dFldD (cVar 1))) (cBin dMulI (cUn dFldN (cVar 1)) (cUn dFldD (cVar 0)))) (aCons (cBin dMulI (cUn dFldD (cVar 0)) (cUn dFldD (cVar 1))) aNil))))
noncomputable def m_Ratio___sub__ : List D → M D := mk 0 b_Ratio___sub__
noncomputable def b_Ratio___mul__ : SX := (sRetE (cCall mRat (aCons (cBin dMulI (cUn dFldN (cVar 0)) (cUn dFldN (cVar 1))) (aCons (cBin dMulI (cUn dFldD (cVar 0)) (cUn dFldD (cVar 1))) aNil))))
noncomputable def m_Ratio___mul__ : List D → M D := mk 0 b_Ratio___mul__
noncomputable def b_Ratio___neg__ : SX := (sRetE (cCall mRat (aCons (cUn dNegI (cUn dFldN (cVar 0))) (aCons (cUn dFldD (cVar 0)) aNil))))
noncomputable def m_Ratio___neg__ : List D → M D := mk 0 b_Ratio___neg__
noncomputable def b_Ratio_sign : SX := (sRetE (cBin dSubI (cUn dInt (cBin dGt (cUn dFldN (cVar 0)) (cC (.int 0)))) (cUn dInt (cBin dLt (cUn dFldN (cVar 0)) (cC (.int 0))))))
noncomputable def m_Ratio_sign : List D → M D := mk 0 b_Ratio_sign
noncomputable def b_zero : SX := (sRetE (cCall mRat (aCons (cC (.int 0)) aNil)))
noncomputable def m_zero : List D → M D := mk 0 b_zero
noncomputable def b_is_rational : SX := (sRetE (cOrV (cUn (dIsi .rat) (cVar 0)) (cCall (ar 1 m_is_integer) (aCons (cVar 0) aNil))))
noncomputable def m_is_rational : List D → M D := mk 0 b_is_rational
noncomputable def b_as_ratio : SX := (sSeq (sIf (cTest (cUn (dIsi .rat) (cVar 0))) (sRetE (cVar 0)) sPass)
    (sSeq (sIf (cNotT (cTest (cCall (ar 1 m_is_integer) (aCons (cVar 0) aNil)))) (sRaise ⟨1, []⟩) sPass)
    (sRetE (cCall mRat (aCons (cVar 0) aNil)))))
noncomputable def m_as_ratio : List D → M D := mk 0 b_as_ratio
end MB
set_option maxHeartbeats 4000000
namespace PR
open PySem PySem.Spec PyProof.Rows L2 PL MB
theorem w_req (p : Rat) (e : D) (hr : ratRight e = true) (s : DS) : m_Ratio___eq__ [.rat p, e] s = .ok (.bl (ratEqD p e)) s := by
  have ok : okIs e = true := by cases e <;> first | rfl | cases hr
  cases e with
  | rat q =>
    simp only [m_Ratio___eq__, b_Ratio___eq__, evX, ok, Tg.has, flatD, Bool.and_self, eqF_int, ratEqD, rat_dec]
    cases decide (p.num = q.num) with
    | true => simp only [Bool.true_and, re_ok]
    | false => rfl
  | obj c l => cases hr
  | st => cases hr
  | adr a => cases hr
  | _ => simp only [m_Ratio___eq__, b_Ratio___eq__, evX, ok, Tg.has, ratEqD]
theorem w_radd (p q : Rat) (hp : fit p = true) (hq : fit q = true) (s : DS) : ar 2 m_Ratio___add__ [.rat p, .rat q] s = .ok (.rat (p + q)) s := by
  have k1 : okMul p.num (q.den : Int) = true := okMul_of (fit_num hp) (fitD hq) (by decide)
  have k2 : okMul q.num (p.den : Int) = true := okMul_of (fit_num hq) (fitD hp) (by decide)
  have k3 : okMul (p.den : Int) (q.den : Int) = true := okMul_of (fitD hp) (fitD hq) (by decide)
  have e : Rat.divInt (p.num * (q.den : Int) + q.num * (p.den : Int)) ((p.den : Int) * (q.den : Int)) = p + q := by
    rw [Rat.add_def']
    show _ = Rat.divInt _ ((p.den * q.den : Nat) : Int)
    rw [Int.natCast_mul]
  simp only [m_Ratio___add__, b_Ratio___add__, evX, k1, k2, k3, den2_ne, log_den2 hp hq, e]
theorem w_rsub (p q : Rat) (hp : fit p = true) (hq : fit q = true) (s : DS) : ar 2 m_Ratio___sub__ [.rat p, .rat q] s = .ok (.rat (p - q)) s := by
  have k1 : okMul p.num (q.den : Int) = true := okMul_of (fit_num hp) (fitD hq) (by decide)
  have k2 : okMul q.num (p.den : Int) = true := okMul_of (fit_num hq) (fitD hp) (by decide)
  have k3 : okMul (p.den : Int) (q.den : Int) = true := okMul_of (fitD hp) (fitD hq) (by decide)
  have e : Rat.divInt (p.num * (q.den : Int) - q.num * (p.den : Int)) ((p.den : Int) * (q.den : Int)) = p - q := by
    rw [Rat.sub_def']
    show _ = Rat.divInt _ ((p.den * q.den : Nat) : Int)
    rw [Int.natCast_mul]
  simp only [m_Ratio___sub__, b_Ratio___sub__, evX, k1, k2, k3, den2_ne, log_den2 hp hq, e]
theorem w_rmul (p q : Rat) (hp : fit p = true) (hq : fit q = true) (s : DS) : ar 2 m_Ratio___mul__ [.rat p, .rat q] s = .ok (.rat (p * q)) s := by
  have k1 : okMul p.num q.num = true := okMul_of (fit_num hp) (fit_num hq) (by decide)
  have k3 : okMul (p.den : Int) (q.den : Int) = true := okMul_of (fitD hp) (fitD hq) (by decide)
  have e : Rat.divInt (p.num * q.num) ((p.den : Int) * (q.den : Int)) = p * q := by
    rw [Rat.mul_def']
    show _ = Rat.divInt _ ((p.den * q.den : Nat) : Int)
    rw [Int.natCast_mul]
  simp only [m_Ratio___mul__, b_Ratio___mul__, evX, k1, k3, den2_ne, log_den2 hp hq, e]
theorem w_rneg (p : Rat) (hp : fit p = true) (s : DS) : ar 1 m_Ratio___neg__ [.rat p] s = .ok (.rat (-p)) s := by
  have e : Rat.divInt (-p.num) (p.den : Int) = -p := by
    rw [← Rat.neg_divInt, Rat.num_divInt_den]
  simp only [m_Ratio___neg__, b_Ratio___neg__, evX, den_ne, log_den hp, e]
def sgn (p : Rat) : Int := (if 0 < p then 1 else 0) - (if p < 0 then 1 else 0)
theorem w_sign (p : Rat) (s : DS) : m_Ratio_sign [.rat p] s = .ok (.int (sgn p)) s := by
  simp only [m_Ratio_sign, b_Ratio_sign, evX, pos_num, neg_num, sgn, decide_eq_true_eq]
end PR
set_option maxHeartbeats 4000000
namespace MB
open PySem PySem.Spec PyProof.Rows L2 PL
noncomputable def b__law_take : SX := (sSeq (sIf (cTest (cBin dGt (cBin dIdx (cVar 0) (cC (.int 0))) (cC (.int 0)))) (sSeq (sSet 2 (cBin dMod (cUn dInt (cBin dIdx (cVar 0) (cC (.int 0)))) (cVar 1)))
    (sSeq (sWipe [0, 1] (sSetSt 0 0 (cBin dFdiv (cBin dIdx (cVar 0) (cC (.int 0))) (cVar 1))))
    (sRetE (cVar 2)))) sPass)
    (sSeq (sSetSt 1 0 (cBin dMod (cUn dInt (cBin dAddI (cBin dMulI (cBin dIdx (cVar 0) (cC (.int 1))) (cC (.int 48271))) (cC (.int 11)))) (cC (.int 2147483647))))
    (sRetE (cBin dMod (cUn dInt (cBin dFdiv (cBin dIdx (cVar 0) (cC (.int 1))) (cC (.int 7)))) (cVar 1)))))
noncomputable def m__law_take : List D → M D := mk 1 b__law_take
end MB
set_option maxHeartbeats 4000000
namespace MB
open PySem PySem.Spec PyProof.Rows L2 PL
end MB
set_option maxHeartbeats 4000000
namespace MB
open PySem PySem.Spec PyProof.Rows L2 PL
noncomputable def l1__law_gcd : SX := (sPar 0 1 (cVar 1) (cBin dMod (cUn dInt (cVar 0)) (cVar 1)))
noncomputable def b__law_gcd : SX := (sSeq (sSet 0 (cUn dAbs (cVar 0)))
    (sSeq (sSet 1 (cUn dAbs (cVar 1)))
    (sSeq (sWipe [1] (sWhile (cTest (cBin dNeF (cVar 1) (cC (.int 0)))) l1__law_gcd))
    (sRetE (cVar 0)))))
noncomputable def m__law_gcd : List D → M D := mk 0 b__law_gcd
noncomputable def b__law_frac : SX := (sSeq (sIf (cTest (cBin dLt (cVar 1) (cC (.int 0)))) (sPar 0 1 (cUn dNegI (cVar 0)) (cUn dNegI (cVar 1))) sPass)
    (sSeq (sSet 2 (cCall (ar 2 m__law_gcd) (aCons (cVar 0) (aCons (cVar 1) aNil))))
    (sRetE (cTup (aCons (cBin dFdiv (cVar 0) (cVar 2)) (aCons (cBin dFdiv (cVar 1) (cVar 2)) aNil))))))
noncomputable def m__law_frac : List D → M D := mk 1 b__law_frac
end MB
set_option maxHeartbeats 4000000
namespace MB
open PySem PySem.Spec PyProof.Rows L2 PL
end MB
set_option maxHeartbeats 4000000
namespace MB
open PySem PySem.Spec PyProof.Rows L2 PL
end MB
set_option maxHeartbeats 4000000
namespace MB
open PySem PySem.Spec PyProof.Rows L2 PL
end MB
set_option maxHeartbeats 4000000
namespace MB
open PySem PySem.Spec PyProof.Rows L2 PL
end MB
set_option maxHeartbeats 4000000
namespace MB
open PySem PySem.Spec PyProof.Rows L2 PL
end MB
set_option maxHeartbeats 4000000
namespace MB
open PySem PySem.Spec PyProof.Rows L2 PL
end MB
set_option maxHeartbeats 4000000
namespace MB
open PySem PySem.Spec PyProof.Rows L2 PL
end MB
set_option maxHeartbeats 4000000
namespace MB
open PySem PySem.Spec PyProof.Rows L2 PL
end MB
set_option maxHeartbeats 4000000
namespace MB
open PySem PySem.Spec PyProof.Rows L2 PL
end MB
set_option maxHeartbeats 4000000
namespace MB
open PySem PySem.Spec PyProof.Rows L2 PL
end MB
set_option maxHeartbeats 4000000
namespace MB
open PySem PySem.Spec PyProof.Rows L2 PL
noncomputable def b__law_small : SX := (sSeq (sSet 1 (cBin dSubI (cCall (ar 2 m__law_take) (aCons (cVar 0) (aCons (cC (.int 9)) aNil))) (cC (.int 4))))
    (sSeq (sIf (cTest (cBin dEq (cCall (ar 2 m__law_take) (aCons (cVar 0) (aCons (cC (.int 3)) aNil))) (cC (.int 0)))) (sRetE (cCall (ar 2 m__law_frac) (aCons (cVar 1) (aCons (cBin dAddL (cC (.int 1)) (cCall (ar 2 m__law_take) (aCons (cVar 0) (aCons (cC (.int 4)) aNil)))) aNil)))) (sWipe [0] sPass))
    (sRetE (cTup (aCons (cVar 1) (aCons (cC (.int 1)) aNil))))))
noncomputable def m__law_small : List D → M D := mk 1 b__law_small
noncomputable def b__law_row : SX := (sRetE (cComp (srcR1 (cVar 1)) (gSet 2) tYesD (cCall (ar 1 m__law_small) (aCons (cVar 0) aNil)) [2]))
noncomputable def m__law_row : List D → M D := mk 1 b__law_row
noncomputable def b__law_plus : SX := (sRetE (cCall (ar 2 m__law_frac) (aCons (cBin dAddL (cBin dMulI (cBin dIdx (cVar 0) (cC (.int 0))) (cBin dIdx (cVar 1) (cC (.int 1)))) (cBin dMulI (cBin dIdx (cVar 1) (cC (.int 0))) (cBin dIdx (cVar 0) (cC (.int 1))))) (aCons (cBin dMulI (cBin dIdx (cVar 0) (cC (.int 1))) (cBin dIdx (cVar 1) (cC (.int 1)))) aNil))))
noncomputable def m__law_plus : List D → M D := mk 0 b__law_plus
noncomputable def b__law_times : SX := (sRetE (cCall (ar 2 m__law_frac) (aCons (cBin dMulI (cBin dIdx (cVar 0) (cC (.int 0))) (cBin dIdx (cVar 1) (cC (.int 0)))) (aCons (cBin dMulI (cBin dIdx (cVar 0) (cC (.int 1))) (cBin dIdx (cVar 1) (cC (.int 1)))) aNil))))
noncomputable def m__law_times : List D → M D := mk 0 b__law_times
noncomputable def l1__law_sum_of : SX := (sWipe [4] (sSet 3 (cComp (srcR1 (cVar 2)) (gSet 5) tYesD (cCall (ar 2 m__law_plus) (aCons (cBin dIdx (cVar 3) (cVar 5)) (aCons (cCall (ar 2 m__law_times) (aCons (cBin dIdx (cVar 1) (cVar 4)) (aCons (cBin dIdx (cBin dIdx (cVar 0) (cVar 4)) (cVar 5)) aNil))) aNil))) [5])))
noncomputable def b__law_sum_of : SX := (sSeq (sSet 3 (cComp (srcR1 (cVar 2)) (gSet 4) tYesD (cTup (aCons (cC (.int 0)) (aCons (cC (.int 1)) aNil))) [4]))
    (sSeq (sWipe [0, 1, 2] (sForR1 (cUn dLen (cVar 0)) (gSet 4) l1__law_sum_of))
    (sRetE (cVar 3))))
noncomputable def m__law_sum_of : List D → M D := mk 3 b__law_sum_of
noncomputable def l1__law_dot : SX := (sWipe [3] (sSet 2 (cCall (ar 2 m__law_plus) (aCons (cVar 2) (aCons (cCall (ar 2 m__law_times) (aCons (cBin dIdx (cVar 0) (cVar 3)) (aCons (cBin dIdx (cVar 1) (cVar 3)) aNil))) aNil)))))
noncomputable def b__law_dot : SX := (sSeq (sSet 2 (cTup (aCons (cC (.int 0)) (aCons (cC (.int 1)) aNil))))
    (sSeq (sWipe [0, 1] (sForR1 (cUn dLen (cVar 0)) (gSet 3) l1__law_dot))
    (sRetE (cVar 2))))
noncomputable def m__law_dot : List D → M D := mk 2 b__law_dot
noncomputable def b__law_ratio_row : SX := (sRetE (cUn dTupOf (cComp (srcSeq (cVar 0)) (gSet 1) tYesD (cCall mRat (aCons (cBin dIdx (cVar 1) (cC (.int 0))) (aCons (cBin dIdx (cVar 1) (cC (.int 1))) aNil))) [1])))
noncomputable def m__law_ratio_row : List D → M D := mk 1 b__law_ratio_row
noncomputable def b__law_are_ratios : SX := (sSeq (sIf (cOrT (cNotT (cTest (cUn (dIsi .tuple) (cVar 0)))) (cTest (cBin dNe (cUn dLen (cVar 0)) (cVar 1)))) (sRetE (cC (.bl false))) (sWipe [1] sPass))
    (sRetE (cBin dEq (cUn dLen (cComp (srcSeq (cVar 0)) (gSet 2) (cNotT (cTest (cUn (dIsi .rat) (cVar 2)))) (cVar 2) [2])) (cC (.int 0)))))
noncomputable def m__law_are_ratios : List D → M D := mk 1 b__law_are_ratios
noncomputable def b__law_pairs_of : SX := (sRetE (cComp (srcSeq (cVar 0)) (gSet 1) tYesD (cTup (aCons (cUn dFldN (cVar 1)) (aCons (cUn dFldD (cVar 1)) aNil))) [1]))
noncomputable def m__law_pairs_of : List D → M D := mk 1 b__law_pairs_of
end MB
set_option maxHeartbeats 4000000
namespace MB
open PySem PySem.Spec PyProof.Rows L2 PL
noncomputable def b__law_is_above : SX := (sRetE (cBin dGt (cBin dIdx (cVar 0) (cC (.int 0))) (cC (.int 0))))
noncomputable def m__law_is_above : List D → M D := mk 0 b__law_is_above
noncomputable def l1_row_factor : SX := (sWipe [2] (sSet 1 (cBin dLcm (cVar 1) (cUn dFldD (cVar 2)))))
noncomputable def b_row_factor : SX := (sSeq (sSet 1 (cC (.int 1)))
    (sSeq (sFor (cVar 0) (gSet 2) l1_row_factor)
    (sRetE (cIf (cTest (cBin dLt (cMeth .rat (ar 1 m_Ratio_sign) (cBin dIdx (cVar 0) (cUn dNegI (cC (.int 1)))) aNil) (cC (.int 0)))) (cUn dNeg (cVar 1)) (cVar 1)))))
noncomputable def m_row_factor : List D → M D := mk 2 b_row_factor
noncomputable def l1_starting : SX := (sSeq (sSet 5 (cBin dAddL (cComp (srcSeq (cVar 0)) (gSet 6) tYesD (cBin dIdx (cVar 6) (cVar 4)) [6]) (cLst (aCons (cBin dIdx (cVar 1) (cVar 4)) aNil))))
    (sSeq (sSet 7 (cCall (ar 1 m_row_factor) (aCons (cVar 5) aNil)))
    (sSeq (sWipe [5] (sSet 8 (cComp (srcSeq (cVar 5)) (gSet 9) tYesD (cBin dMul (cUn dFldN (cVar 9)) (cBin dFdiv (cVar 7) (cUn dFldD (cVar 9)))) [9])))
    (sSeq (sWipe [4] (sSet 10 (cComp (srcR1 (cUn dLen (cVar 1))) (gSet 11) tYesD (cUn dInt (cBin dEq (cVar 11) (cVar 4))) [11])))
    (sSeq (sWipe [7] (sApp 2 (cVar 7)))
    (sWipe [8, 10] (sApp 3 (cBin dAddL (cBin dAddL (cSl (cVar 8) pNone (pSome (cUn dNegI (cC (.int 1))))) (cVar 10)) (cSl (cVar 8) (pSome (cUn dNegI (cC (.int 1)))) pNone)))))))))
noncomputable def b_starting : SX := (sSeq (sSet 2 (cLst aNil))
    (sSeq (sSet 3 (cLst aNil))
    (sSeq (sWipe [0, 1] (sForR1 (cUn dLen (cVar 1)) (gSet 4) l1_starting))
    (sRetE (cTup (aCons (cVar 2) (aCons (cVar 3) aNil)))))))
noncomputable def m_starting : List D → M D := mk 10 b_starting
noncomputable def l1_costs : SX := (sWipe [4] (sApp 3 (cBin dSubI (cUn dInt (cChain dLe dLt (cVar 1) (cVar 4) (cBin dSubI (cVar 2) (cC (.int 1))))) (cUn dSum (cComp (srcSeq (cVar 0)) (gSet 5) tYesD (cBin dIdx (cVar 5) (cVar 4)) [5])))))
noncomputable def b_costs : SX := (sSeq (sSet 2 (cBin dAddL (cBin dAddL (cVar 1) (cUn dLen (cVar 0))) (cC (.int 1))))
    (sSeq (sSet 3 (cLst aNil))
    (sSeq (sWipe [0, 1, 2] (sForR1 (cVar 2) (gSet 4) l1_costs))
    (sRetE (cVar 3)))))
noncomputable def m_costs : List D → M D := mk 4 b_costs
noncomputable def l1_leaving : SX := (sIf (cTest (cBin dGt (cBin dIdx (cBin dIdx (cVar 0) (cVar 4)) (cVar 2)) (cC (.int 0)))) (sSeq (sIf (cTest (cBin dLt (cVar 3) (cC (.int 0)))) (sSet 3 (cVar 4)) sPass)
    (sSeq (sSet 5 (cBin dMul (cBin dIdx (cBin dIdx (cVar 0) (cVar 4)) (cUn dNegI (cC (.int 1)))) (cBin dIdx (cBin dIdx (cVar 0) (cVar 3)) (cVar 2))))
    (sSeq (sSet 6 (cBin dMul (cBin dIdx (cBin dIdx (cVar 0) (cVar 3)) (cUn dNegI (cC (.int 1)))) (cBin dIdx (cBin dIdx (cVar 0) (cVar 4)) (cVar 2))))
    (sIf (cOrT (cTest (cBin dLt (cVar 5) (cVar 6))) (cAndT (cTest (cBin dEq (cVar 5) (cVar 6))) (cTest (cBin dLt (cBin dIdx (cVar 1) (cVar 4)) (cBin dIdx (cVar 1) (cVar 3)))))) (sWipe [5, 6] (sWipe [4] (sSet 3 (cVar 4)))) (sWipe [4, 5, 6] sPass))))) (sWipe [4] sPass))
noncomputable def b_leaving : SX := (sSeq (sSet 3 (cUn dNegI (cC (.int 1))))
    (sSeq (sWipe [0, 1, 2] (sForR1 (cUn dLen (cVar 0)) (gSet 4) l1_leaving))
    (sRetE (cVar 3))))
noncomputable def m_leaving : List D → M D := mk 4 b_leaving
noncomputable def b_subtracted : SX := (sSeq (sSet 4 (cBin dIdx (cVar 1) (cVar 2)))
    (sSeq (sWipe [2] (sSet 5 (cBin dIdx (cVar 0) (cVar 2))))
    (sRetE (cComp (srcZip (cVar 0) (cVar 1)) (gTupD 2 (gsCons (gSet 6) (gsCons (gSet 7) gsNil))) tYesD (cBin dFdiv (cBin dSub (cBin dMul (cVar 6) (cVar 4)) (cBin dMul (cVar 5) (cVar 7))) (cVar 3)) [6, 7]))))
noncomputable def m_subtracted : List D → M D := mk 4 b_subtracted
noncomputable def l1_feasible : SX := (sSeq (sWipe [9] (sSet 11 (cBin dIdx (cVar 9) (cC (.int 0)))))
    (sSeq (sSet 12 (cLend 5 (cCall (ar 3 m_leaving) (aCons (cVar 3) (aCons (cVar 5) (aCons (cVar 11) aNil))))))
    (sSeq (sSet 13 (cBin dIdx (cVar 3) (cVar 12)))
    (sSeq (sSet 3 (cComp (srcR1 (cUn dLen (cVar 3))) (gSet 6) tYesD (cIf (cTest (cBin dEq (cVar 6) (cVar 12))) (cVar 13) (cCall (ar 4 m_subtracted) (aCons (cBin dIdx (cVar 3) (cVar 6)) (aCons (cVar 13) (aCons (cVar 11) (aCons (cVar 8) aNil)))))) [6]))
    (sSeq (sWipe [8] (sSet 7 (cCall (ar 4 m_subtracted) (aCons (cVar 7) (aCons (cVar 13) (aCons (cVar 11) (aCons (cVar 8) aNil)))))))
    (sSeq (sWipe [13] (sSet 8 (cBin dIdx (cVar 13) (cVar 11))))
    (sSeq (sWipe [11, 12] (sAsgT (uAt 5 (cVar 12)) (cVar 11)))
    (sSet 9 (cComp (srcR1 (cVar 4)) (gSet 10) (cTest (cBin dLt (cBin dIdx (cVar 7) (cVar 10)) (cC (.int 0)))) (cVar 10) [10])))))))))
noncomputable def l2_feasible : SX := (sIf (cTest (cBin dLt (cBin dIdx (cVar 5) (cVar 6)) (cVar 4))) (sWipe [6] (sAsgT (uAt 14 (cBin dIdx (cVar 5) (cVar 6))) (cCall mRat (aCons (cBin dIdx (cBin dIdx (cVar 3) (cVar 6)) (cUn dNegI (cC (.int 1)))) (aCons (cVar 8) aNil))))) (sWipe [6] sPass))
noncomputable def b_feasible : SX := (sSeq (sWipe [1] (sAsg (gTupD 2 (gsCons (gSet 2) (gsCons (gSet 3) gsNil))) (cCall (ar 2 m_starting) (aCons (cVar 0) (aCons (cVar 1) aNil)))))
    (sSeq (sWipe [0] (sSet 4 (cUn dLen (cVar 0))))
    (sSeq (sSet 5 (cComp (srcR1 (cUn dLen (cVar 3))) (gSet 6) tYesD (cBin dAdd (cVar 4) (cVar 6)) [6]))
    (sSeq (sSet 7 (cCall (ar 2 m_costs) (aCons (cVar 3) (aCons (cVar 4) aNil))))
    (sSeq (sSet 8 (cC (.int 1)))
    (sSeq (sSet 9 (cComp (srcR1 (cVar 4)) (gSet 10) (cTest (cBin dLt (cBin dIdx (cVar 7) (cVar 10)) (cC (.int 0)))) (cVar 10) [10]))
    (sSeq (sWipe [9] (sWhile (cTest (cBin dGt (cUn dLen (cVar 9)) (cC (.int 0)))) l1_feasible))
    (sSeq (sIf (cTest (cBin dLt (cBin dIdx (cVar 7) (cUn dNegI (cC (.int 1)))) (cC (.int 0)))) (sRetE (cTup (aCons (cC (.str "functional")) (aCons (cUn dTupOf (cComp (srcR1 (cUn dLen (cVar 3))) (gSet 6) tYesD (cCall mRat (aCons (cBin dMul (cBin dIdx (cVar 2) (cVar 6)) (cBin dSub (cVar 8) (cBin dIdx (cVar 7) (cBin dAdd (cVar 4) (cVar 6))))) (aCons (cVar 8) aNil))) [6])) aNil)))) (sWipe [2, 7] sPass))
    (sSeq (sSet 14 (cComp (srcR1 (cVar 4)) (gSet 15) tYesD (cCall (ar 0 m_zero) aNil) [15]))
    (sSeq (sWipe [3, 4, 5, 8] (sForR1 (cUn dLen (cVar 3)) (gSet 6) l2_feasible))
    (sRetE (cTup (aCons (cC (.str "weights")) (aCons (cUn dTupOf (cVar 14)) aNil))))))))))))))
noncomputable def m_feasible : List D → M D := mk 14 b_feasible
noncomputable def b__law_weights_hold : SX := (sSeq (sIf (cNotT (cTest (cCall (ar 2 m__law_are_ratios) (aCons (cVar 2) (aCons (cUn dLen (cVar 0)) aNil))))) (sRetE (cC (.bl false))) sPass)
    (sSeq (sWipe [2] (sSet 3 (cCall (ar 1 m__law_pairs_of) (aCons (cVar 2) aNil))))
    (sRetE (cAndV (cBin dEq (cUn dLen (cComp (srcSeq (cVar 3)) (gSet 4) (cTest (cBin dLt (cBin dIdx (cVar 4) (cC (.int 0))) (cC (.int 0)))) (cVar 4) [4])) (cC (.int 0))) (cBin dEq (cCall (ar 3 m__law_sum_of) (aCons (cVar 0) (aCons (cVar 3) (aCons (cUn dLen (cVar 1)) aNil)))) (cVar 1))))))
noncomputable def m__law_weights_hold : List D → M D := mk 2 b__law_weights_hold
noncomputable def b__law_functional_holds : SX := (sSeq (sIf (cNotT (cTest (cCall (ar 2 m__law_are_ratios) (aCons (cVar 2) (aCons (cUn dLen (cVar 1)) aNil))))) (sRetE (cC (.bl false))) sPass)
    (sSeq (sWipe [2] (sSet 3 (cCall (ar 1 m__law_pairs_of) (aCons (cVar 2) aNil))))
    (sRetE (cAndV (cBin dEq (cUn dLen (cComp (srcSeq (cVar 0)) (gSet 4) (cTest (cCall (ar 1 m__law_is_above) (aCons (cCall (ar 2 m__law_dot) (aCons (cVar 3) (aCons (cVar 4) aNil))) aNil))) (cVar 4) [4])) (cC (.int 0))) (cCall (ar 1 m__law_is_above) (aCons (cCall (ar 2 m__law_dot) (aCons (cVar 3) (aCons (cVar 1) aNil))) aNil))))))
noncomputable def m__law_functional_holds : List D → M D := mk 2 b__law_functional_holds
noncomputable def l1_law__29 : SX := (sIf (cTest (cCall (ar 1 m__law_is_above) (aCons (cCall (ar 2 m__law_dot) (aCons (cVar 9) (aCons (cBin dIdx (cVar 3) (cVar 4)) aNil))) aNil))) (sWipe [4] (sAsgT (uAt 3 (cVar 4)) (cComp (srcSeq (cBin dIdx (cVar 3) (cVar 4))) (gSet 10) tYesD (cTup (aCons (cUn dNegI (cBin dIdx (cVar 10) (cC (.int 0)))) (aCons (cBin dIdx (cVar 10) (cC (.int 1))) aNil))) [10]))) (sWipe [4] sPass))
noncomputable def b_law__29 : SX := (sSeq (sSet 2 (cCall (ar 2 m__law_take) (aCons (cVar 1) (aCons (cC (.int 5)) aNil))))
    (sSeq (sSet 3 (cComp (srcR1 (cCall (ar 2 m__law_take) (aCons (cVar 1) (aCons (cC (.int 6)) aNil)))) (gSet 4) tYesD (cCall (ar 2 m__law_row) (aCons (cVar 1) (aCons (cVar 2) aNil))) [4]))
    (sSeq (sSet 5 (cCall (ar 2 m__law_take) (aCons (cVar 1) (aCons (cC (.int 3)) aNil))))
    (sSeq (sSet 6 (cCall (ar 2 m__law_row) (aCons (cVar 1) (aCons (cVar 2) aNil))))
    (sIfD (cTest (cBin dEq (cVar 5) (cC (.int 0)))) (sSeq (sSet 7 (cComp (srcSeq (cVar 3)) (gSet 8) tYesD (cCall (ar 2 m__law_frac) (aCons (cCall (ar 2 m__law_take) (aCons (cVar 1) (aCons (cC (.int 5)) aNil))) (aCons (cBin dAddL (cC (.int 1)) (cCall (ar 2 m__law_take) (aCons (cVar 1) (aCons (cC (.int 3)) aNil)))) aNil))) [8]))
    (sWipe [7] (sSet 6 (cCall (ar 3 m__law_sum_of) (aCons (cVar 3) (aCons (cVar 7) (aCons (cVar 2) aNil)))))))
    (sSeq (sWipe [2] (sSet 9 (cCall (ar 2 m__law_row) (aCons (cVar 1) (aCons (cVar 2) aNil)))))
    (sSeq (sIf (cAndT (cTest (cBin dEq (cVar 5) (cC (.int 1)))) (cTest (cCall (ar 1 m__law_is_above) (aCons (cCall (ar 2 m__law_dot) (aCons (cVar 9) (aCons (cVar 9) aNil))) aNil)))) sNever (sWipe [9] (sIf (cTest (cBin dEq (cVar 5) (cC (.int 1)))) (sSet 5 (cC (.int 2))) sPass)))
    (sSeq (sSet 11 (cCall (ar 2 m_feasible) (aCons (cComp (srcSeq (cVar 3)) (gSet 8) tYesD (cCall (ar 1 m__law_ratio_row) (aCons (cVar 8) aNil)) [8]) (aCons (cCall (ar 1 m__law_ratio_row) (aCons (cVar 6) aNil)) aNil))))
    (sSeq (sIf (cOrT (cNotT (cTest (cUn (dIsi .tuple) (cVar 11)))) (cTest (cBin dNe (cUn dLen (cVar 11)) (cC (.int 2))))) (sRetE (cC (.bl false))) sPass)
    (sSeq (sIf (cTest (cBin dEq (cBin dIdx (cVar 11) (cC (.int 0))) (cC (.str "weights")))) (sIf (cOrT (cNotT (cTest (cCall (ar 3 m__law_weights_hold) (aCons (cVar 3) (aCons (cVar 6) (aCons (cBin dIdx (cVar 11) (cC (.int 1))) aNil)))))) (cTest (cBin dEq (cVar 5) (cC (.int 1))))) (sRetE (cC (.bl false))) (sWipe [5] sPass)) (sIf (cOrT (cTest (cBin dNe (cBin dIdx (cVar 11) (cC (.int 0))) (cC (.str "functional")))) (cOrT (cNotT (cTest (cCall (ar 3 m__law_functional_holds) (aCons (cVar 3) (aCons (cVar 6) (aCons (cBin dIdx (cVar 11) (cC (.int 1))) aNil)))))) (cTest (cBin dEq (cVar 5) (cC (.int 0)))))) (sRetE (cC (.bl false))) (sWipe [5] sPass)))
    (sSeq (sWipe [3, 6] (sSet 12 (cCall (ar 2 m_feasible) (aCons (cUn dTupOf (cComp (srcSeq (cVar 3)) (gSet 8) tYesD (cCall (ar 1 m__law_ratio_row) (aCons (cVar 8) aNil)) [8])) (aCons (cCall (ar 1 m__law_ratio_row) (aCons (cVar 6) aNil)) aNil)))))
    (sRetE (cAndV (cUn (dIsi .tuple) (cVar 12)) (cAndV (cBin dEq (cUn dLen (cVar 12)) (cC (.int 2))) (cBin dEq (cBin dIdx (cVar 12) (cC (.int 0))) (cBin dIdx (cVar 11) (cC (.int 0)))))))))))))
    (sSeq (sWipe [2] (sSet 9 (cCall (ar 2 m__law_row) (aCons (cVar 1) (aCons (cVar 2) aNil)))))
    (sSeq (sIf (cAndT (cTest (cBin dEq (cVar 5) (cC (.int 1)))) (cTest (cCall (ar 1 m__law_is_above) (aCons (cCall (ar 2 m__law_dot) (aCons (cVar 9) (aCons (cVar 9) aNil))) aNil)))) (sSeq (sSet 6 (cVar 9))
    (sWipe [9] (sForR1 (cUn dLen (cVar 3)) (gSet 4) l1_law__29))) (sWipe [9] (sIf (cTest (cBin dEq (cVar 5) (cC (.int 1)))) (sSet 5 (cC (.int 2))) sPass)))
    (sSeq (sSet 11 (cCall (ar 2 m_feasible) (aCons (cComp (srcSeq (cVar 3)) (gSet 8) tYesD (cCall (ar 1 m__law_ratio_row) (aCons (cVar 8) aNil)) [8]) (aCons (cCall (ar 1 m__law_ratio_row) (aCons (cVar 6) aNil)) aNil))))
    (sSeq (sIf (cOrT (cNotT (cTest (cUn (dIsi .tuple) (cVar 11)))) (cTest (cBin dNe (cUn dLen (cVar 11)) (cC (.int 2))))) (sRetE (cC (.bl false))) sPass)
    (sSeq (sIf (cTest (cBin dEq (cBin dIdx (cVar 11) (cC (.int 0))) (cC (.str "weights")))) (sIf (cOrT (cNotT (cTest (cCall (ar 3 m__law_weights_hold) (aCons (cVar 3) (aCons (cVar 6) (aCons (cBin dIdx (cVar 11) (cC (.int 1))) aNil)))))) (cTest (cBin dEq (cVar 5) (cC (.int 1))))) (sRetE (cC (.bl false))) (sWipe [5] sPass)) (sIf (cOrT (cTest (cBin dNe (cBin dIdx (cVar 11) (cC (.int 0))) (cC (.str "functional")))) (cOrT (cNotT (cTest (cCall (ar 3 m__law_functional_holds) (aCons (cVar 3) (aCons (cVar 6) (aCons (cBin dIdx (cVar 11) (cC (.int 1))) aNil)))))) (cTest (cBin dEq (cVar 5) (cC (.int 0)))))) (sRetE (cC (.bl false))) (sWipe [5] sPass)))
    (sSeq (sWipe [3, 6] (sSet 12 (cCall (ar 2 m_feasible) (aCons (cUn dTupOf (cComp (srcSeq (cVar 3)) (gSet 8) tYesD (cCall (ar 1 m__law_ratio_row) (aCons (cVar 8) aNil)) [8])) (aCons (cCall (ar 1 m__law_ratio_row) (aCons (cVar 6) aNil)) aNil)))))
    (sRetE (cAndV (cUn (dIsi .tuple) (cVar 12)) (cAndV (cBin dEq (cUn dLen (cVar 12)) (cC (.int 2))) (cBin dEq (cBin dIdx (cVar 12) (cC (.int 0))) (cBin dIdx (cVar 11) (cC (.int 0))))))))))))))))))
end MB
set_option maxHeartbeats 4000000
namespace LK
open PySem PySem.Spec PyProof.Rows L2 PL MB PR
def top (i : Nat) : Stmt := PySem.Challenge.pw_metricparts_k05_whole_weights_or_functio.main.body.getD i (.Pass ⟨0, 0, 0, 0⟩)
abbrev s_Ratio___init__ : Stmt := inClass (top 6) 0
abbrev s_Ratio___eq__ : Stmt := inClass (top 6) 1
abbrev s_Ratio___add__ : Stmt := inClass (top 6) 2
abbrev s_Ratio___sub__ : Stmt := inClass (top 6) 3
abbrev s_Ratio___mul__ : Stmt := inClass (top 6) 4
abbrev s_Ratio___neg__ : Stmt := inClass (top 6) 5
abbrev s_Ratio_sign : Stmt := inClass (top 6) 8
abbrev s_zero : Stmt := top 7
abbrev s_row_factor : Stmt := top 9
abbrev s_starting : Stmt := top 10
abbrev s_costs : Stmt := top 11
abbrev s_leaving : Stmt := top 12
abbrev s_subtracted : Stmt := top 13
abbrev s_feasible : Stmt := top 14
abbrev s__law_state : Stmt := top 16
abbrev s__law_take : Stmt := top 17
abbrev s__law_gcd : Stmt := top 18
abbrev s__law_frac : Stmt := top 19
abbrev s__law_plus : Stmt := top 20
abbrev s__law_times : Stmt := top 21
abbrev s__law_ratio_row : Stmt := top 22
abbrev s__law_pairs_of : Stmt := top 23
abbrev s__law_are_ratios : Stmt := top 24
abbrev s__law_small : Stmt := top 25
abbrev s__law_row : Stmt := top 26
abbrev s__law_dot : Stmt := top 27
abbrev s__law_sum_of : Stmt := top 28
abbrev s__law_is_above : Stmt := top 29
abbrev s__law_weights_hold : Stmt := top 30
abbrev s__law_functional_holds : Stmt := top 31
abbrev s_law : Stmt := top 32
structure Ad where
  a_Ratio___init__ : Addr
  d_Ratio___init__ : FuncData
  a_Ratio___eq__ : Addr
  d_Ratio___eq__ : FuncData
  a_Ratio___add__ : Addr
  d_Ratio___add__ : FuncData
  a_Ratio___sub__ : Addr
  d_Ratio___sub__ : FuncData
  a_Ratio___mul__ : Addr
  d_Ratio___mul__ : FuncData
  a_Ratio___neg__ : Addr
  d_Ratio___neg__ : FuncData
  a_Ratio_sign : Addr
  d_Ratio_sign : FuncData
  a_zero : Addr
  d_zero : FuncData
  a_row_factor : Addr
  d_row_factor : FuncData
  a_starting : Addr
  d_starting : FuncData
  a_costs : Addr
  d_costs : FuncData
  a_leaving : Addr
  d_leaving : FuncData
  a_subtracted : Addr
  d_subtracted : FuncData
  a_feasible : Addr
  d_feasible : FuncData
  a__law_state : Addr
  d__law_state : FuncData
  a__law_take : Addr
  d__law_take : FuncData
  a__law_gcd : Addr
  d__law_gcd : FuncData
  a__law_frac : Addr
  d__law_frac : FuncData
  a__law_plus : Addr
  d__law_plus : FuncData
  a__law_times : Addr
  d__law_times : FuncData
  a__law_ratio_row : Addr
  d__law_ratio_row : FuncData
  a__law_pairs_of : Addr
  d__law_pairs_of : FuncData
  a__law_are_ratios : Addr
  d__law_are_ratios : FuncData
  a__law_small : Addr
  d__law_small : FuncData
  a__law_row : Addr
  d__law_row : FuncData
  a__law_dot : Addr
  d__law_dot : FuncData
  a__law_sum_of : Addr
  d__law_sum_of : FuncData
  a__law_is_above : Addr
  d__law_is_above : FuncData
  a__law_weights_hold : Addr
  d__law_weights_hold : FuncData
  a__law_functional_holds : Addr
  d__law_functional_holds : FuncData
  a_law : Addr
  d_law : FuncData
structure Tx (P : Program) (mg : Str → Option Value) (G : Gam) (A : Ad) : Prop where
  isk : IsK G.K G
  g_Ratio : mg "Ratio" = some (.ref G.rc)
  z_isinstance : mg "isinstance" = none
  cl_Ratio : Cls G.K G.rc
  na_n : NoAttr G.K G.rc "n"
  na_d : NoAttr G.K G.rc "d"
  F_Ratio___eq__ : FunD G.K "__eq__" "Ratio.__eq__" (defArgs s_Ratio___eq__) (defBody s_Ratio___eq__) (defScope s_Ratio___eq__) [] [] A.a_Ratio___eq__ A.d_Ratio___eq__
  z_int : mg "int" = none
  F__law_take : FunD G.K "_law_take" "_law_take" (defArgs s__law_take) (defBody s__law_take) (defScope s__law_take) [] [] A.a__law_take A.d__law_take
  g__law_take : mg "_law_take" = some (.ref A.a__law_take)
  z_range : mg "range" = none
  z_abs : mg "abs" = none
  F__law_gcd : FunD G.K "_law_gcd" "_law_gcd" (defArgs s__law_gcd) (defBody s__law_gcd) (defScope s__law_gcd) [] [] A.a__law_gcd A.d__law_gcd
  g__law_gcd : mg "_law_gcd" = some (.ref A.a__law_gcd)
  F__law_frac : FunD G.K "_law_frac" "_law_frac" (defArgs s__law_frac) (defBody s__law_frac) (defScope s__law_frac) [] [] A.a__law_frac A.d__law_frac
  g__law_frac : mg "_law_frac" = some (.ref A.a__law_frac)
  F__law_small : FunD G.K "_law_small" "_law_small" (defArgs s__law_small) (defBody s__law_small) (defScope s__law_small) [] [] A.a__law_small A.d__law_small
  g__law_small : mg "_law_small" = some (.ref A.a__law_small)
  F__law_row : FunD G.K "_law_row" "_law_row" (defArgs s__law_row) (defBody s__law_row) (defScope s__law_row) [] [] A.a__law_row A.d__law_row
  g__law_row : mg "_law_row" = some (.ref A.a__law_row)
  z_len : mg "len" = none
  F__law_plus : FunD G.K "_law_plus" "_law_plus" (defArgs s__law_plus) (defBody s__law_plus) (defScope s__law_plus) [] [] A.a__law_plus A.d__law_plus
  F__law_times : FunD G.K "_law_times" "_law_times" (defArgs s__law_times) (defBody s__law_times) (defScope s__law_times) [] [] A.a__law_times A.d__law_times
  g__law_times : mg "_law_times" = some (.ref A.a__law_times)
  g__law_plus : mg "_law_plus" = some (.ref A.a__law_plus)
  F__law_sum_of : FunD G.K "_law_sum_of" "_law_sum_of" (defArgs s__law_sum_of) (defBody s__law_sum_of) (defScope s__law_sum_of) [] [] A.a__law_sum_of A.d__law_sum_of
  g__law_sum_of : mg "_law_sum_of" = some (.ref A.a__law_sum_of)
  F__law_is_above : FunD G.K "_law_is_above" "_law_is_above" (defArgs s__law_is_above) (defBody s__law_is_above) (defScope s__law_is_above) [] [] A.a__law_is_above A.d__law_is_above
  F__law_dot : FunD G.K "_law_dot" "_law_dot" (defArgs s__law_dot) (defBody s__law_dot) (defScope s__law_dot) [] [] A.a__law_dot A.d__law_dot
  g__law_dot : mg "_law_dot" = some (.ref A.a__law_dot)
  g__law_is_above : mg "_law_is_above" = some (.ref A.a__law_is_above)
  g_lcm : mg "lcm" = some (.builtin "math.lcm")
  F_Ratio_sign : FunD G.K "sign" "Ratio.sign" (defArgs s_Ratio_sign) (defBody s_Ratio_sign) (defScope s_Ratio_sign) [] [] A.a_Ratio_sign A.d_Ratio_sign
  M_Ratio_sign : Meth G.K G.rc "sign" A.a_Ratio_sign
  k_Ratio : PySem.W.keepIn G.K (.ref G.rc) = true
  F_Ratio___neg__ : FunD G.K "__neg__" "Ratio.__neg__" (defArgs s_Ratio___neg__) (defBody s_Ratio___neg__) (defScope s_Ratio___neg__) [] [] A.a_Ratio___neg__ A.d_Ratio___neg__
  F_rneg : PySem.W.findIn G.K (.ref G.rc) "__neg__" = some (some (.ref A.a_Ratio___neg__))
  I_rneg : PySem.W.isFn G.K (.ref A.a_Ratio___neg__) = true
  F_row_factor : FunD G.K "row_factor" "row_factor" (defArgs s_row_factor) (defBody s_row_factor) (defScope s_row_factor) [] [] A.a_row_factor A.d_row_factor
  g_row_factor : mg "row_factor" = some (.ref A.a_row_factor)
  F_Ratio___mul__ : FunD G.K "__mul__" "Ratio.__mul__" (defArgs s_Ratio___mul__) (defBody s_Ratio___mul__) (defScope s_Ratio___mul__) [] [] A.a_Ratio___mul__ A.d_Ratio___mul__
  O_mul : OpF G.K G.rc .Mult A.a_Ratio___mul__
  F_starting : FunD G.K "starting" "starting" (defArgs s_starting) (defBody s_starting) (defScope s_starting) [] [] A.a_starting A.d_starting
  g_starting : mg "starting" = some (.ref A.a_starting)
  F_Ratio___add__ : FunD G.K "__add__" "Ratio.__add__" (defArgs s_Ratio___add__) (defBody s_Ratio___add__) (defScope s_Ratio___add__) [] [] A.a_Ratio___add__ A.d_Ratio___add__
  O_add : OpF G.K G.rc .Add A.a_Ratio___add__
  z_sum : mg "sum" = none
  F_costs : FunD G.K "costs" "costs" (defArgs s_costs) (defBody s_costs) (defScope s_costs) [] [] A.a_costs A.d_costs
  g_costs : mg "costs" = some (.ref A.a_costs)
  F_leaving : FunD G.K "leaving" "leaving" (defArgs s_leaving) (defBody s_leaving) (defScope s_leaving) [] [] A.a_leaving A.d_leaving
  g_leaving : mg "leaving" = some (.ref A.a_leaving)
  z_zip : mg "zip" = none
  F_Ratio___sub__ : FunD G.K "__sub__" "Ratio.__sub__" (defArgs s_Ratio___sub__) (defBody s_Ratio___sub__) (defScope s_Ratio___sub__) [] [] A.a_Ratio___sub__ A.d_Ratio___sub__
  O_sub : OpF G.K G.rc .Sub A.a_Ratio___sub__
  F_subtracted : FunD G.K "subtracted" "subtracted" (defArgs s_subtracted) (defBody s_subtracted) (defScope s_subtracted) [] [] A.a_subtracted A.d_subtracted
  g_subtracted : mg "subtracted" = some (.ref A.a_subtracted)
  z_tuple : mg "tuple" = none
  F_zero : FunD G.K "zero" "zero" (defArgs s_zero) (defBody s_zero) (defScope s_zero) [] [] A.a_zero A.d_zero
  g_zero : mg "zero" = some (.ref A.a_zero)
  F_feasible : FunD G.K "feasible" "feasible" (defArgs s_feasible) (defBody s_feasible) (defScope s_feasible) [] [] A.a_feasible A.d_feasible
  F__law_ratio_row : FunD G.K "_law_ratio_row" "_law_ratio_row" (defArgs s__law_ratio_row) (defBody s__law_ratio_row) (defScope s__law_ratio_row) [] [] A.a__law_ratio_row A.d__law_ratio_row
  g__law_ratio_row : mg "_law_ratio_row" = some (.ref A.a__law_ratio_row)
  g_feasible : mg "feasible" = some (.ref A.a_feasible)
  F__law_are_ratios : FunD G.K "_law_are_ratios" "_law_are_ratios" (defArgs s__law_are_ratios) (defBody s__law_are_ratios) (defScope s__law_are_ratios) [] [] A.a__law_are_ratios A.d__law_are_ratios
  g__law_are_ratios : mg "_law_are_ratios" = some (.ref A.a__law_are_ratios)
  F__law_pairs_of : FunD G.K "_law_pairs_of" "_law_pairs_of" (defArgs s__law_pairs_of) (defBody s__law_pairs_of) (defScope s__law_pairs_of) [] [] A.a__law_pairs_of A.d__law_pairs_of
  g__law_pairs_of : mg "_law_pairs_of" = some (.ref A.a__law_pairs_of)
  F__law_weights_hold : FunD G.K "_law_weights_hold" "_law_weights_hold" (defArgs s__law_weights_hold) (defBody s__law_weights_hold) (defScope s__law_weights_hold) [] [] A.a__law_weights_hold A.d__law_weights_hold
  g__law_weights_hold : mg "_law_weights_hold" = some (.ref A.a__law_weights_hold)
  F__law_functional_holds : FunD G.K "_law_functional_holds" "_law_functional_holds" (defArgs s__law_functional_holds) (defBody s__law_functional_holds) (defScope s__law_functional_holds) [] [] A.a__law_functional_holds A.d__law_functional_holds
  g__law_functional_holds : mg "_law_functional_holds" = some (.ref A.a__law_functional_holds)
  F_law : FunD G.K "law" "law" (defArgs s_law) (defBody s_law) (defScope s_law) [] [] A.a_law A.d_law
  F_Ratio___init__ : FunD G.K "__init__" "Ratio.__init__" (defArgs s_Ratio___init__) (defBody s_Ratio___init__) (defScope s_Ratio___init__) [.int 1] [] A.a_Ratio___init__ A.d_Ratio___init__
  F__law_state : FunD G.K "_law_state" "_law_state" (defArgs s__law_state) (defBody s__law_state) (defScope s__law_state) [] [] A.a__law_state A.d__law_state
  g__law_state : mg "_law_state" = some (.ref A.a__law_state)
  mk_Ratio : Mk G.K G.rc A.a_Ratio___init__
  g_gcd : mg "gcd" = some (.builtin "math.gcd")
  x_ZeroDivisor : XcF mg G 0 "ZeroDivisor"
  F_req : PySem.W.findIn G.K (.ref G.rc) "__eq__" = some (some (.ref A.a_Ratio___eq__))
  I_req : PySem.W.isFn G.K (.ref A.a_Ratio___eq__) = true
  F_rne : PySem.W.findIn G.K (.ref G.rc) "__ne__" = some (some (.builtin "object.__ne__"))
  S_rob : PySem.W.subIn G.K (.ref G.rc) (.type "object") = some true
  S_rnf : ∀ n ∈ (["NoneType", "bool", "int", "str", "tuple", "list"] : List String), PySem.W.notFirst G.K G.rc (.type n) = true
theorem no_sign : (["n", "d"] : List Str).contains "sign" = false := by decide +kernel
theorem sc_Ratio___init__ : FnScope ["self", "n", "d", "shared"] ["self", "n", "d"] (defScope s_Ratio___init__) := ⟨rfl, rfl, rfl, by decide +kernel, rfl, by decide +kernel, by decide +kernel⟩
theorem putF_nd {x y : V} : putF "d" y (putF "n" x []) = ([("n", x), ("d", y)] : List (Str × V)) := by
  show (if ("n" : Str) = "d" then [(("n" : Str), y)] else (("n" : Str), x) :: putF "d" y []) = _
  rw [if_neg (by decide +kernel)]
  rfl
theorem ok_Ratio___init__ {P : Program} {w : World} {mg : Str → Option Value} {base : Heap} {G : Gam} {A : Ad} (T : Tx P mg G A) : FnOk P w G.K mg base (L2.CX P w) 1 A.a_Ratio___init__ A.d_Ratio___init__ ["self", "n", "d"] (spInit G) := by
  refine T.F_Ratio___init__.ok sc_Ratio___init__ (fun vs H Q E h => ?_) (fun cdv A2 outer s H vs Q E hr h => ?_)
  · obtain ⟨a, dx, n, d, rfl, _⟩ := h
    rfl
  · obtain ⟨a, dx, n, d, rfl, ha, hl, h0, h1⟩ := h
    have tk : Takes (cxOf (L2.CX P w) P w G.K mg base ["self", "n", "d", "shared"] "Ratio.__init__" (defScope s_Ratio___init__) A.a_Ratio___init__ cdv A2 outer s H E) (fun cls d _ H => E cls d H) := takes_of rfl rfl rfl rfl
    have v0 : ∀ {p : Pos}, PE (cxOf (L2.CX P w) P w G.K mg base ["self", "n", "d", "shared"] "Ratio.__init__" (defScope s_Ratio___init__) A.a_Ratio___init__ cdv A2 outer s H E) (.Name "self" p) (tVar 0) := pe_var rfl (Or.inl rfl)
    have v1 : ∀ {p : Pos}, PE (cxOf (L2.CX P w) P w G.K mg base ["self", "n", "d", "shared"] "Ratio.__init__" (defScope s_Ratio___init__) A.a_Ratio___init__ cdv A2 outer s H E) (.Name "n" p) (tVar 1) := pe_var rfl (Or.inl rfl)
    have v2 : ∀ {p : Pos}, PE (cxOf (L2.CX P w) P w G.K mg base ["self", "n", "d", "shared"] "Ratio.__init__" (defScope s_Ratio___init__) A.a_Ratio___init__ cdv A2 outer s H E) (.Name "d" p) (tVar 2) := pe_var rfl (Or.inl rfl)
    have v3 : ∀ {p : Pos}, PE (cxOf (L2.CX P w) P w G.K mg base ["self", "n", "d", "shared"] "Ratio.__init__" (defScope s_Ratio___init__) A.a_Ratio___init__ cdv A2 outer s H E) (.Name "shared" p) (tVar 3) := pe_var rfl (Or.inl rfl)
    refine ⟨_, pss_cons (ps_if (pt_cmpR op_eq v2 pe_int (by rfl)) (pss_one (ps_raise rfl tk (T.x_ZeroDivisor.pmk rfl (by rfl)))) pss_nil)
      (pss_cons (ps_if (pt_cmpR op_lt v2 pe_int (by rfl)) (pss_cons (ps_set (i := 1) sc_Ratio___init__.nd rfl (Or.inl rfl) (pe_un un_neg v1)) (pss_one (ps_set (i := 2) sc_Ratio___init__.nd rfl (Or.inl rfl) (pe_un un_neg v2)))) pss_nil)
      (pss_cons (ps_set (i := 3) sc_Ratio___init__.nd rfl (Or.inl rfl) (pe_callBfun cr_gcd (by rfl) T.g_gcd (pa_cons v1 (pa_cons v2 pa_nil))))
      (pss_cons (ps_fld v0 (pe_op op_fdivW v1 v3) rfl) (pss_one (ps_fld v0 (pe_op op_fdivW v2 v3) rfl))))), ?_⟩
    refine ⟨.int d, rfl, rfl, _, rfl, ?_⟩
    by_cases c0 : d = 0
    · subst c0
      exact h0 rfl
    rw [show decide (V.int d = V.int 0) = false from decide_eq_false (fun z => c0 (by injection z))]
    have fin : ∀ (i j : Int), 0 < j → j.natAbs.log2 < 9000 → (Rat.divInt n d).num = i / (Nat.gcd i.natAbs j.natAbs : Nat) → ((Rat.divInt n d).den : Int) = j / (Nat.gcd i.natAbs j.natAbs : Nat) →
        tSeq (tAsg (tCB rGcd (tCons (tVar 1) (tCons (tVar 2) tNil))) (gName 3)) (tSeq (sFld G.K (tVar 0) (tOp (rI CDivW fun i j => V.int (i / j)) (tVar 1) (tVar 3)) "n") (sFld G.K (tVar 0) (tOp (rI CDivW fun i j => V.int (i / j)) (tVar 2) (tVar 3)) "d"))
          { nx := fun _ H' => Q .non H', rt := Q } [some (.ref a), some (.int i), some (.int j), none] H := by
      intro i j hj hjl e1 e2
      have hj0 : j ≠ 0 := by omega
      refine ⟨.int i, rfl, .int j, rfl, i, j, rfl, ?_⟩
      have cg : CDivW i (Nat.gcd i.natAbs j.natAbs : Nat) := ⟨gcd_pos_of hj0, gcd_log hj0 hjl⟩
      refine ⟨.int i, rfl, _, rfl, i, _, rfl, rfl, cg, .ref a, rfl, a, G.rc, dx, [], rfl, ha, T.cl_Ratio, T.na_n, by show 0 < 1000; decide, ?_⟩
      refine ⟨.int j, rfl, _, rfl, j, _, rfl, rfl, cg, .ref a, rfl, a, G.rc, dx, _, rfl, upd_same, T.cl_Ratio, T.na_d, by show 1 < 1000; decide, ?_⟩
      have := h1 c0
      rw [e1, e2] at this
      rw [upd_upd, putF_nd]
      exact this
    refine ⟨.int d, rfl, d, 0, rfl, rfl, _, rfl, ?_⟩
    by_cases c1 : d < 0
    · rw [decide_eq_true c1]
      refine ⟨.int n, rfl, n, rfl, .int d, rfl, d, rfl, ?_⟩
      exact fin (-n) (-d) (by omega) (by rw [Int.natAbs_neg]; exact hl) (divInt_parts_neg c1).1 (divInt_parts_neg c1).2
    · rw [decide_eq_false c1]
      exact fin n d (by omega) hl (divInt_parts (by omega)).1 (divInt_parts (by omega)).2
theorem ratMk {P : Program} {w : World} {mg : Str → Option Value} {base : Heap} {G : Gam} {A : Ad} (T : Tx P mg G A) : RatMk P w G.K mg base G 1 := by
  refine ⟨⟨A.a_Ratio___init__, A.d_Ratio___init__, T.mk_Ratio, ok_Ratio___init__ T, ?_, ?_⟩, T.x_ZeroDivisor.no, T.x_ZeroDivisor.hx⟩
  · obtain ⟨ds, v, b⟩ := T.F_Ratio___init__.binds1 (ps := ["self", "n", "d"]) 3 1 (by simp) rfl fun T kV doc pm an cdv ct us its hu hi => match us, hu, its, hi with
      | [_, _, _], _, [_], _ => ⟨_, rfl, rfl⟩
    cases v
    exact b
  · exact T.F_Ratio___init__.binds1 (ps := ["self", "n", "d"]) 2 0 (by simp) rfl fun T kV doc pm an cdv ct us its hu hi => match us, hu, its, hi with
      | [_, _], _, [_], _ => ⟨_, rfl, rfl⟩
theorem sc__law_state : FnScope ["_law_script", "_law_seed", "_law_total", "_law_cell"] ["_law_script"] (defScope s__law_state) := ⟨rfl, rfl, rfl, by decide +kernel, rfl, by decide +kernel, by decide +kernel⟩
theorem bi__law_state {P : Program} {mg : Str → Option Value} {G : Gam} {A : Ad} (T : Tx P mg G A) : Binds G.K A.d__law_state ["_law_script"] [] := T.F__law_state.bindsN fun _ _ _ _ _ _ us hl => match us, hl with | [_], _ => rfl
theorem ok__law_state {P : Program} {w : World} {mg : Str → Option Value} {base : Heap} {G : Gam} {A : Ad} (T : Tx P mg G A) : FnOk P w G.K mg base (L2.CX P w) 1 A.a__law_state A.d__law_state ["_law_script"] (spState G.K) := by
  refine T.F__law_state.ok sc__law_state (fun vs H Q E h => ?_) (fun cdv A2 outer s H vs Q E hr h => ?_)
  · obtain ⟨a, ns, rfl, _⟩ := h
    rfl
  · obtain ⟨a, ns, rfl, hS, q⟩ := h
    refine ⟨_, pss_cons (ps_set (i := 1) sc__law_state.nd rfl (Or.inl rfl) pe_int) (pss_cons (ps_set (i := 2) sc__law_state.nd rfl (Or.inl rfl) pe_int)
      (pss_cons (ps_for (passes_of rfl) rfl (pi_list (pe_slice sl_list (pe_var (i := 0) rfl (Or.inl rfl)) po_none (po_some pe_int))) (pg_name (i := 3) sc__law_state.nd rfl (Or.inl rfl))
        (pss_cons (ps_set (i := 1) sc__law_state.nd rfl (Or.inl rfl) (pe_op op_add (pe_op op_mulA (pe_var (i := 1) rfl (Or.inl rfl)) pe_int) (pe_callB call_abs (by rfl) T.z_abs (by rfl) (pa_cons (pe_var (i := 3) rfl (Or.inl rfl)) pa_nil))))
          (pss_one (ps_set (i := 2) sc__law_state.nd rfl (Or.inl rfl) (pe_op op_mod (pe_callTy call_int1 (by rfl) T.z_int (by rfl) (pa_cons (pe_op op_add (pe_op op_mulA (pe_var (i := 2) rfl (Or.inl rfl)) pe_int) (pe_var (i := 3) rfl (Or.inl rfl))) pa_nil)) pe_int)))))
        (pss_one (ps_ret (pe_lst (pa_cons (pe_var (i := 1) rfl (Or.inl rfl)) (pa_cons (pe_var (i := 2) rfl (Or.inl rfl)) pa_nil))))))), ?_⟩
    refine ⟨.ref a, rfl, _, rfl, a, _, rfl, hS, fun p hp => ?_⟩
    refine ⟨p, rfl, ⟨_, SqL.of upd_same⟩, ?_⟩
    have same : Same H (L2.upd H p (.lst (cutV (ns.map V.int) none (some 63)))) := fun b o e => by
      rw [upd_ne (ne_of_none e hp)]; exact e
    refine for_list (xs := cutV (ns.map V.int) none (some 63)) (fun i σ H' => H' = L2.upd H p (.lst (cutV (ns.map V.int) none (some 63))) ∧ ∃ (x y : Int) (z : Option V), σ = [some (.ref a), some (.int x), some (.int y), z]) ?_ ?_ ?_ ?_
    · exact ⟨rfl, 0, 1, none, rfl⟩
    · rintro i σ H' _ ⟨rfl, _⟩
      exact SqL.of upd_same
    · rintro i v σ H' hi ⟨rfl, x, y, z, rfl⟩
      obtain ⟨u, rfl⟩ : ∃ u, v = V.int u := by
        have hm : v ∈ cutV (ns.map V.int) none (some 63) := List.mem_of_getElem? hi
        unfold cutV at hm
        have := List.mem_of_mem_drop (List.mem_of_mem_take hm)
        obtain ⟨u, _, e⟩ := List.mem_map.mp this
        exact ⟨u, e.symm⟩
      refine ⟨.int x, rfl, x, 1000003, rfl, rfl, okMul_small x (by decide), .int u, rfl, u, rfl, _, _, rfl, rfl, ?_⟩
      refine ⟨.int y, rfl, y, 48271, rfl, rfl, okMul_small y (by decide), .int u, rfl, _, _, rfl, rfl, .inl ⟨_, rfl, _, _, rfl, rfl, by show (0 : Int) < 2147483647; decide, ?_⟩⟩
      exact ⟨rfl, _, _, _, rfl⟩
    · rintro σ H' ⟨rfl, x, y, z, rfl⟩
      refine ⟨.int x, rfl, .int y, rfl, by show 2 ≤ sizeLine; decide, fun p2 hp2 => ?_⟩
      exact q p2 x y _ upd_same
theorem sc_Ratio___eq__ : FnScope ["self", "other"] ["self", "other"] (defScope s_Ratio___eq__) := ⟨rfl, rfl, rfl, by decide +kernel, rfl, by decide +kernel, by decide +kernel⟩
theorem bi_Ratio___eq__ {P : Program} {mg : Str → Option Value} {G : Gam} {A : Ad} (T : Tx P mg G A) : Binds G.K A.d_Ratio___eq__ ["self", "other"] [] := T.F_Ratio___eq__.bindsN fun _ _ _ _ _ _ us hl => match us, hl with | [_, _], _ => rfl
theorem ok_Ratio___eq__ {P : Program} {w : World} {mg : Str → Option Value} {base : Heap} {G : Gam} {A : Ad} (T : Tx P mg G A) : FnOk P w G.K mg base (L2.CX P w) 1 A.a_Ratio___eq__ A.d_Ratio___eq__ ["self", "other"] (spM G m_Ratio___eq__ 2) :=
  def_okX (k := 0) (N := ["self", "other"]) (b := b_Ratio___eq__) (ω' := List.replicate 2 0) T.F_Ratio___eq__ sc_Ratio___eq__ rfl rfl rfl fun cdv A2 outer s H E th hr ok hp => (ss_one (s_retE trivial (e_and (e_isi ok (T.isk.at _) (t := .rat) (by intro _ h; cases h) (e_var 1) (tg_own (t := .rat) rfl (by rfl) T.g_Ratio) (by rfl) T.z_isinstance (by rfl)) (e_and (e_cmp pure_eqF.ne (o_eqF hr) rfl (e_fldN ok T.cl_Ratio T.na_n (e_var 0)) (e_fldN ok T.cl_Ratio T.na_n (e_var 1))) (e_one (e_cmp pure_eqF.ne (o_eqF hr) rfl (e_fldD ok T.cl_Ratio T.na_d (e_var 0)) (e_fldD ok T.cl_Ratio T.na_d (e_var 1))))))))
theorem eqK {P : Program} {w : World} {mg : Str → Option Value} {base : Heap} {G : Gam} {A : Ad} (T : Tx P mg G A) : EqK P w G.K mg base G 1 :=
  ⟨rfl, ⟨A.a_Ratio___eq__, A.d_Ratio___eq__, _, ratEq_of (ok_Ratio___eq__ T) w_req, T.F_req, T.I_req, bi_Ratio___eq__ T⟩, T.F_rne, T.S_rob, T.S_rnf⟩
theorem sc__law_take : FnScope ["_law_state_here", "_law_m", "_law_value"] ["_law_state_here", "_law_m"] (defScope s__law_take) := ⟨rfl, rfl, rfl, by decide +kernel, rfl, by decide +kernel, by decide +kernel⟩
theorem bi__law_take {P : Program} {mg : Str → Option Value} {G : Gam} {A : Ad} (T : Tx P mg G A) : Binds G.K A.d__law_take ["_law_state_here", "_law_m"] [] := T.F__law_take.bindsN fun _ _ _ _ _ _ us hl => match us, hl with | [_, _], _ => rfl
theorem ok__law_take {P : Program} {w : World} {mg : Str → Option Value} {base : Heap} {G : Gam} {A : Ad} (T : Tx P mg G A) : FnOk P w G.K mg base (L2.CX P w) 1 A.a__law_take A.d__law_take ["_law_state_here", "_law_m"] (spM G m__law_take 2) :=
  def_okX (k := 0) (N := ["_law_state_here", "_law_m", "_law_value"]) (b := b__law_take) (ω' := List.replicate 3 0) T.F__law_take sc__law_take rfl rfl rfl fun cdv A2 outer s H E th hr ok hp => (ss_cons (s_if trivial (t_cmp (pure_cmp (p := fun i j => decide (j < i))).ne o_gt rfl (e_idx ok (e_var 0) e_int) e_int) (ss_cons (s_set trivial 2 ok (e_bin pure_mod.ne o_mod (e_callT pure_int b_int (by rfl) T.z_int (by rfl) (e_idx ok (e_var 0) e_int)) (e_var 1)))
    (ss_cons (s_wipe [0, 1] (s_setSt (k := 0) trivial 0 ok (by decide) (e_bin pure_fdiv.ne o_fdiv (e_idx ok (e_var 0) e_int) (e_var 1))))
    (ss_one (s_retE trivial (e_var 2))))) ss_nil)
    (ss_cons (s_setSt (k := 1) trivial 0 ok (by decide) (e_bin pure_mod.ne o_mod (e_callT pure_int b_int (by rfl) T.z_int (by rfl) (e_bin pure_addI.ne o_addI (e_bin pure_mulI.ne o_mulI (e_idx ok (e_var 0) e_int) e_int) e_int)) e_int))
    (ss_one (s_retE trivial (e_bin pure_mod.ne o_mod (e_callT pure_int b_int (by rfl) T.z_int (by rfl) (e_bin pure_fdiv.ne o_fdiv (e_idx ok (e_var 0) e_int) e_int)) (e_var 1))))))
theorem sc__law_gcd : FnScope ["_law_a", "_law_b"] ["_law_a", "_law_b"] (defScope s__law_gcd) := ⟨rfl, rfl, rfl, by decide +kernel, rfl, by decide +kernel, by decide +kernel⟩
theorem bi__law_gcd {P : Program} {mg : Str → Option Value} {G : Gam} {A : Ad} (T : Tx P mg G A) : Binds G.K A.d__law_gcd ["_law_a", "_law_b"] [] := T.F__law_gcd.bindsN fun _ _ _ _ _ _ us hl => match us, hl with | [_, _], _ => rfl
theorem ok__law_gcd {P : Program} {w : World} {mg : Str → Option Value} {base : Heap} {G : Gam} {A : Ad} (T : Tx P mg G A) : FnOk P w G.K mg base (L2.CX P w) 1 A.a__law_gcd A.d__law_gcd ["_law_a", "_law_b"] (spM G m__law_gcd 2) :=
  def_okX (k := 0) (N := ["_law_a", "_law_b"]) (b := b__law_gcd) (ω' := List.replicate 2 0) T.F__law_gcd sc__law_gcd rfl rfl rfl fun cdv A2 outer s H E th hr ok hp => (ss_cons (s_set trivial 0 ok (e_callB pure_abs b_abs (by rfl) T.z_abs (by rfl) (e_var 0)))
    (ss_cons (s_set trivial 1 ok (e_callB pure_abs b_abs (by rfl) T.z_abs (by rfl) (e_var 1)))
    (ss_cons (s_wipe [1] (s_while trivial hp (t_cmp pure_neF.ne (o_neF hr) rfl (e_var 1) e_int) (ss_one (s_par trivial 0 1 ok (e_var 1) (e_bin pure_mod.ne o_mod (e_callT pure_int b_int (by rfl) T.z_int (by rfl) (e_var 0)) (e_var 1))))))
    (ss_one (s_retE trivial (e_var 0))))))
theorem sc__law_frac : FnScope ["_law_n", "_law_d", "_law_g"] ["_law_n", "_law_d"] (defScope s__law_frac) := ⟨rfl, rfl, rfl, by decide +kernel, rfl, by decide +kernel, by decide +kernel⟩
theorem bi__law_frac {P : Program} {mg : Str → Option Value} {G : Gam} {A : Ad} (T : Tx P mg G A) : Binds G.K A.d__law_frac ["_law_n", "_law_d"] [] := T.F__law_frac.bindsN fun _ _ _ _ _ _ us hl => match us, hl with | [_, _], _ => rfl
theorem ok__law_frac {P : Program} {w : World} {mg : Str → Option Value} {base : Heap} {G : Gam} {A : Ad} (T : Tx P mg G A) : FnOk P w G.K mg base (L2.CX P w) 2 A.a__law_frac A.d__law_frac ["_law_n", "_law_d"] (spM G m__law_frac 2) :=
  def_okX (k := 1) (N := ["_law_n", "_law_d", "_law_g"]) (b := b__law_frac) (ω' := List.replicate 3 0) T.F__law_frac sc__law_frac rfl rfl rfl fun cdv A2 outer s H E th hr ok hp => (ss_cons (s_if trivial (t_cmp (pure_cmp (p := fun i j => decide (i < j))).ne o_lt rfl (e_var 1) e_int) (ss_one (s_par trivial 0 1 ok (e_un pure_negI.ne o_negI (e_var 0)) (e_un pure_negI.ne o_negI (e_var 1)))) ss_nil)
    (ss_cons (s_set trivial 2 ok (e_call (Cal.fn ok (ok__law_gcd T) rfl (hr.mono (by decide)) (bi__law_gcd T) rfl) (by rfl) T.g__law_gcd T.F__law_gcd.kp (a_cons (e_var 0) (a_cons (e_var 1) a_nil))))
    (ss_one (s_retE trivial (e_tup (a_cons (e_bin pure_fdiv.ne o_fdiv (e_var 0) (e_var 2)) (a_cons (e_bin pure_fdiv.ne o_fdiv (e_var 1) (e_var 2)) a_nil)))))))
theorem sc__law_small : FnScope ["_law_state_here", "_law_n"] ["_law_state_here"] (defScope s__law_small) := ⟨rfl, rfl, rfl, by decide +kernel, rfl, by decide +kernel, by decide +kernel⟩
theorem bi__law_small {P : Program} {mg : Str → Option Value} {G : Gam} {A : Ad} (T : Tx P mg G A) : Binds G.K A.d__law_small ["_law_state_here"] [] := T.F__law_small.bindsN fun _ _ _ _ _ _ us hl => match us, hl with | [_], _ => rfl
theorem ok__law_small {P : Program} {w : World} {mg : Str → Option Value} {base : Heap} {G : Gam} {A : Ad} (T : Tx P mg G A) : FnOk P w G.K mg base (L2.CX P w) 9 A.a__law_small A.d__law_small ["_law_state_here"] (spM G m__law_small 1) :=
  def_okX (k := 8) (N := ["_law_state_here", "_law_n"]) (b := b__law_small) (ω' := List.replicate 2 0) T.F__law_small sc__law_small rfl rfl rfl fun cdv A2 outer s H E th hr ok hp => (ss_cons (s_set trivial 1 ok (e_bin pure_subI.ne o_subI (e_call (Cal.fn ok (ok__law_take T) rfl (hr.mono (by decide)) (bi__law_take T) rfl) (by rfl) T.g__law_take T.F__law_take.kp (a_cons (e_var 0) (a_cons e_int a_nil))) e_int))
    (ss_cons (s_if trivial (t_cmp pure_eq.ne (o_eq ((eqK T).at _) (hr.mono (by decide))) rfl (e_call (Cal.fn ok (ok__law_take T) rfl (hr.mono (by decide)) (bi__law_take T) rfl) (by rfl) T.g__law_take T.F__law_take.kp (a_cons (e_var 0) (a_cons e_int a_nil))) e_int) (ss_one (s_retE trivial (e_call (Cal.fn ok (ok__law_frac T) rfl (hr.mono (by decide)) (bi__law_frac T) rfl) (by rfl) T.g__law_frac T.F__law_frac.kp (a_cons (e_var 1) (a_cons (e_bin pure_addL.ne (o_addL rfl) e_int (e_call (Cal.fn ok (ok__law_take T) rfl (hr.mono (by decide)) (bi__law_take T) rfl) (by rfl) T.g__law_take T.F__law_take.kp (a_cons (e_var 0) (a_cons e_int a_nil)))) a_nil))))) (ss_wipe [0] ss_nil))
    (ss_one (s_retE trivial (e_tup (a_cons (e_var 1) (a_cons e_int a_nil)))))))
theorem sc__law_row : FnScope ["_law_state_here", "_law_width", "_law_k"] ["_law_state_here", "_law_width"] (defScope s__law_row) := ⟨rfl, rfl, rfl, by decide +kernel, rfl, by decide +kernel, by decide +kernel⟩
theorem bi__law_row {P : Program} {mg : Str → Option Value} {G : Gam} {A : Ad} (T : Tx P mg G A) : Binds G.K A.d__law_row ["_law_state_here", "_law_width"] [] := T.F__law_row.bindsN fun _ _ _ _ _ _ us hl => match us, hl with | [_, _], _ => rfl
theorem ok__law_row {P : Program} {w : World} {mg : Str → Option Value} {base : Heap} {G : Gam} {A : Ad} (T : Tx P mg G A) : FnOk P w G.K mg base (L2.CX P w) 10 A.a__law_row A.d__law_row ["_law_state_here", "_law_width"] (spM G m__law_row 2) :=
  def_okX (k := 9) (N := ["_law_state_here", "_law_width", "_law_k"]) (b := b__law_row) (ω' := List.replicate 3 0) T.F__law_row sc__law_row rfl rfl rfl fun cdv A2 outer s H E th hr ok hp => (ss_one (s_retE trivial (OJ.val (o_comp ok (src_r1 (by rfl) T.z_range (e_var 1)) (blkOk_by (own := [("_law_k", 2)]) (by kernel_rfl)) (fun s2x H2x C2x cl2x fp2x => (pg_name (i := 2) (Ok.blk ok).nd (by rfl) (by first | exact Or.inl rfl | exact Or.inr rfl) (by first | exact .inl rfl | exact .inr rfl))) (gs_set (i := 2)) (fun s2x H2x C2x cl2x fp2x => pts_none) (fun s2x H2x C2x cl2x fp2x => (EJ.own (e_call (Cal.fn (Ok.blk ok) (ok__law_small T) rfl (hr.mono (by decide)) (bi__law_small T) rfl) (by rfl) T.g__law_small T.F__law_small.kp (a_cons (e_var 0) a_nil))))))))
theorem sc__law_plus : FnScope ["_law_a", "_law_b"] ["_law_a", "_law_b"] (defScope s__law_plus) := ⟨rfl, rfl, rfl, by decide +kernel, rfl, by decide +kernel, by decide +kernel⟩
theorem bi__law_plus {P : Program} {mg : Str → Option Value} {G : Gam} {A : Ad} (T : Tx P mg G A) : Binds G.K A.d__law_plus ["_law_a", "_law_b"] [] := T.F__law_plus.bindsN fun _ _ _ _ _ _ us hl => match us, hl with | [_, _], _ => rfl
theorem ok__law_plus {P : Program} {w : World} {mg : Str → Option Value} {base : Heap} {G : Gam} {A : Ad} (T : Tx P mg G A) : FnOk P w G.K mg base (L2.CX P w) 3 A.a__law_plus A.d__law_plus ["_law_a", "_law_b"] (spM G m__law_plus 2) :=
  def_okX (k := 2) (N := ["_law_a", "_law_b"]) (b := b__law_plus) (ω' := List.replicate 2 0) T.F__law_plus sc__law_plus rfl rfl rfl fun cdv A2 outer s H E th hr ok hp => (ss_one (s_retE trivial (e_call (Cal.fn ok (ok__law_frac T) rfl (hr.mono (by decide)) (bi__law_frac T) rfl) (by rfl) T.g__law_frac T.F__law_frac.kp (a_cons (e_bin pure_addL.ne (o_addL rfl) (e_bin pure_mulI.ne o_mulI (e_idx ok (e_var 0) e_int) (e_idx ok (e_var 1) e_int)) (e_bin pure_mulI.ne o_mulI (e_idx ok (e_var 1) e_int) (e_idx ok (e_var 0) e_int))) (a_cons (e_bin pure_mulI.ne o_mulI (e_idx ok (e_var 0) e_int) (e_idx ok (e_var 1) e_int)) a_nil)))))
theorem sc__law_times : FnScope ["_law_a", "_law_b"] ["_law_a", "_law_b"] (defScope s__law_times) := ⟨rfl, rfl, rfl, by decide +kernel, rfl, by decide +kernel, by decide +kernel⟩
theorem bi__law_times {P : Program} {mg : Str → Option Value} {G : Gam} {A : Ad} (T : Tx P mg G A) : Binds G.K A.d__law_times ["_law_a", "_law_b"] [] := T.F__law_times.bindsN fun _ _ _ _ _ _ us hl => match us, hl with | [_, _], _ => rfl
theorem ok__law_times {P : Program} {w : World} {mg : Str → Option Value} {base : Heap} {G : Gam} {A : Ad} (T : Tx P mg G A) : FnOk P w G.K mg base (L2.CX P w) 3 A.a__law_times A.d__law_times ["_law_a", "_law_b"] (spM G m__law_times 2) :=
  def_okX (k := 2) (N := ["_law_a", "_law_b"]) (b := b__law_times) (ω' := List.replicate 2 0) T.F__law_times sc__law_times rfl rfl rfl fun cdv A2 outer s H E th hr ok hp => (ss_one (s_retE trivial (e_call (Cal.fn ok (ok__law_frac T) rfl (hr.mono (by decide)) (bi__law_frac T) rfl) (by rfl) T.g__law_frac T.F__law_frac.kp (a_cons (e_bin pure_mulI.ne o_mulI (e_idx ok (e_var 0) e_int) (e_idx ok (e_var 1) e_int)) (a_cons (e_bin pure_mulI.ne o_mulI (e_idx ok (e_var 0) e_int) (e_idx ok (e_var 1) e_int)) a_nil)))))
theorem sc__law_sum_of : FnScope ["_law_rows", "_law_weights", "_law_width", "_law_total", "_law_k", "_law_i"] ["_law_rows", "_law_weights", "_law_width"] (defScope s__law_sum_of) := ⟨rfl, rfl, rfl, by decide +kernel, rfl, by decide +kernel, by decide +kernel⟩
theorem bi__law_sum_of {P : Program} {mg : Str → Option Value} {G : Gam} {A : Ad} (T : Tx P mg G A) : Binds G.K A.d__law_sum_of ["_law_rows", "_law_weights", "_law_width"] [] := T.F__law_sum_of.bindsN fun _ _ _ _ _ _ us hl => match us, hl with | [_, _, _], _ => rfl
theorem ok__law_sum_of {P : Program} {w : World} {mg : Str → Option Value} {base : Heap} {G : Gam} {A : Ad} (T : Tx P mg G A) : FnOk P w G.K mg base (L2.CX P w) 4 A.a__law_sum_of A.d__law_sum_of ["_law_rows", "_law_weights", "_law_width"] (spM G m__law_sum_of 3) :=
  def_okX (k := 3) (N := ["_law_rows", "_law_weights", "_law_width", "_law_total", "_law_k", "_law_i"]) (b := b__law_sum_of) (ω' := List.replicate 6 0) T.F__law_sum_of sc__law_sum_of rfl rfl rfl fun cdv A2 outer s H E th hr ok hp => (ss_cons (s_set trivial 3 ok (OJ.val (o_comp ok (src_r1 (by rfl) T.z_range (e_var 2)) (blkOk_by (own := [("_law_k", 4)]) (by kernel_rfl)) (fun s1x H1x C1x cl1x fp1x => (pg_name (i := 4) (Ok.blk ok).nd (by rfl) (by first | exact Or.inl rfl | exact Or.inr rfl) (by first | exact .inl rfl | exact .inr rfl))) (gs_set (i := 4)) (fun s1x H1x C1x cl1x fp1x => pts_none) (fun s1x H1x C1x cl1x fp1x => (EJ.own (e_tup (a_cons e_int (a_cons e_int a_nil))))))))
    (ss_cons (s_wipe [0, 1, 2] (s_forR1 trivial ok hp (by rfl) T.z_range (e_callB pure_len (b_len rfl) (by rfl) T.z_len (by rfl) (e_var 0)) (g_name 4 ok) (ss_one (s_wipe [4] (s_set trivial 3 ok (OJ.val (o_comp ok (src_r1 (by rfl) T.z_range (e_var 2)) (blkOk_by (own := [("_law_i", 5)]) (by kernel_rfl)) (fun s1x H1x C1x cl1x fp1x => (pg_name (i := 5) (Ok.blk ok).nd (by rfl) (by first | exact Or.inl rfl | exact Or.inr rfl) (by first | exact .inl rfl | exact .inr rfl))) (gs_set (i := 5)) (fun s1x H1x C1x cl1x fp1x => pts_none) (fun s1x H1x C1x cl1x fp1x => (EJ.own (e_call (Cal.fn (Ok.blk ok) (ok__law_plus T) rfl (hr.mono (by decide)) (bi__law_plus T) rfl) (by rfl) T.g__law_plus T.F__law_plus.kp (a_cons (e_idx (Ok.blk ok) (e_var 3) (e_var 5)) (a_cons (e_call (Cal.fn (Ok.blk ok) (ok__law_times T) rfl (hr.mono (by decide)) (bi__law_times T) rfl) (by rfl) T.g__law_times T.F__law_times.kp (a_cons (e_idx (Ok.blk ok) (e_var 1) (e_var 4)) (a_cons (e_idx (Ok.blk ok) (e_idx (Ok.blk ok) (e_var 0) (e_var 4)) (e_var 5)) a_nil))) a_nil))))))))))))
    (ss_one (s_retE trivial (e_var 3)))))
theorem sc__law_is_above : FnScope ["_law_x"] ["_law_x"] (defScope s__law_is_above) := ⟨rfl, rfl, rfl, by decide +kernel, rfl, by decide +kernel, by decide +kernel⟩
theorem bi__law_is_above {P : Program} {mg : Str → Option Value} {G : Gam} {A : Ad} (T : Tx P mg G A) : Binds G.K A.d__law_is_above ["_law_x"] [] := T.F__law_is_above.bindsN fun _ _ _ _ _ _ us hl => match us, hl with | [_], _ => rfl
theorem ok__law_is_above {P : Program} {w : World} {mg : Str → Option Value} {base : Heap} {G : Gam} {A : Ad} (T : Tx P mg G A) : FnOk P w G.K mg base (L2.CX P w) 1 A.a__law_is_above A.d__law_is_above ["_law_x"] (spM G m__law_is_above 1) :=
  def_okX (k := 0) (N := ["_law_x"]) (b := b__law_is_above) (ω' := List.replicate 1 0) T.F__law_is_above sc__law_is_above rfl rfl rfl fun cdv A2 outer s H E th hr ok hp => (ss_one (s_retE trivial (e_cmp (pure_cmp (p := fun i j => decide (j < i))).ne o_gt rfl (e_idx ok (e_var 0) e_int) e_int)))
theorem sc__law_dot : FnScope ["_law_v", "_law_w", "_law_total", "_law_k"] ["_law_v", "_law_w"] (defScope s__law_dot) := ⟨rfl, rfl, rfl, by decide +kernel, rfl, by decide +kernel, by decide +kernel⟩
theorem bi__law_dot {P : Program} {mg : Str → Option Value} {G : Gam} {A : Ad} (T : Tx P mg G A) : Binds G.K A.d__law_dot ["_law_v", "_law_w"] [] := T.F__law_dot.bindsN fun _ _ _ _ _ _ us hl => match us, hl with | [_, _], _ => rfl
theorem ok__law_dot {P : Program} {w : World} {mg : Str → Option Value} {base : Heap} {G : Gam} {A : Ad} (T : Tx P mg G A) : FnOk P w G.K mg base (L2.CX P w) 4 A.a__law_dot A.d__law_dot ["_law_v", "_law_w"] (spM G m__law_dot 2) :=
  def_okX (k := 3) (N := ["_law_v", "_law_w", "_law_total", "_law_k"]) (b := b__law_dot) (ω' := List.replicate 4 0) T.F__law_dot sc__law_dot rfl rfl rfl fun cdv A2 outer s H E th hr ok hp => (ss_cons (s_set trivial 2 ok (e_tup (a_cons e_int (a_cons e_int a_nil))))
    (ss_cons (s_wipe [0, 1] (s_forR1 trivial ok hp (by rfl) T.z_range (e_callB pure_len (b_len rfl) (by rfl) T.z_len (by rfl) (e_var 0)) (g_name 3 ok) (ss_one (s_wipe [3] (s_set trivial 2 ok (e_call (Cal.fn ok (ok__law_plus T) rfl (hr.mono (by decide)) (bi__law_plus T) rfl) (by rfl) T.g__law_plus T.F__law_plus.kp (a_cons (e_var 2) (a_cons (e_call (Cal.fn ok (ok__law_times T) rfl (hr.mono (by decide)) (bi__law_times T) rfl) (by rfl) T.g__law_times T.F__law_times.kp (a_cons (e_idx ok (e_var 0) (e_var 3)) (a_cons (e_idx ok (e_var 1) (e_var 3)) a_nil))) a_nil))))))))
    (ss_one (s_retE trivial (e_var 2)))))
theorem sc_Ratio_sign : FnScope ["self"] ["self"] (defScope s_Ratio_sign) := ⟨rfl, rfl, rfl, by decide +kernel, rfl, by decide +kernel, by decide +kernel⟩
theorem bi_Ratio_sign {P : Program} {mg : Str → Option Value} {G : Gam} {A : Ad} (T : Tx P mg G A) : Binds G.K A.d_Ratio_sign ["self"] [] := T.F_Ratio_sign.bindsN fun _ _ _ _ _ _ us hl => match us, hl with | [_], _ => rfl
theorem ok_Ratio_sign {P : Program} {w : World} {mg : Str → Option Value} {base : Heap} {G : Gam} {A : Ad} (T : Tx P mg G A) : FnOk P w G.K mg base (L2.CX P w) 1 A.a_Ratio_sign A.d_Ratio_sign ["self"] (spM G m_Ratio_sign 1) :=
  def_okX (k := 0) (N := ["self"]) (b := b_Ratio_sign) (ω' := List.replicate 1 0) T.F_Ratio_sign sc_Ratio_sign rfl rfl rfl fun cdv A2 outer s H E th hr ok hp => (ss_one (s_retE trivial (e_bin pure_subI.ne o_subI (e_callT pure_int b_int (by rfl) T.z_int (by rfl) (e_cmp (pure_cmp (p := fun i j => decide (j < i))).ne o_gt rfl (e_fldN ok T.cl_Ratio T.na_n (e_var 0)) e_int)) (e_callT pure_int b_int (by rfl) T.z_int (by rfl) (e_cmp (pure_cmp (p := fun i j => decide (i < j))).ne o_lt rfl (e_fldN ok T.cl_Ratio T.na_n (e_var 0)) e_int)))))
theorem sc_Ratio___neg__ : FnScope ["self"] ["self"] (defScope s_Ratio___neg__) := ⟨rfl, rfl, rfl, by decide +kernel, rfl, by decide +kernel, by decide +kernel⟩
theorem bi_Ratio___neg__ {P : Program} {mg : Str → Option Value} {G : Gam} {A : Ad} (T : Tx P mg G A) : Binds G.K A.d_Ratio___neg__ ["self"] [] := T.F_Ratio___neg__.bindsN fun _ _ _ _ _ _ us hl => match us, hl with | [_], _ => rfl
theorem ok_Ratio___neg__ {P : Program} {w : World} {mg : Str → Option Value} {base : Heap} {G : Gam} {A : Ad} (T : Tx P mg G A) : FnOk P w G.K mg base (L2.CX P w) 3 A.a_Ratio___neg__ A.d_Ratio___neg__ ["self"] (spM G m_Ratio___neg__ 1) :=
  def_okX (k := 2) (N := ["self"]) (b := b_Ratio___neg__) (ω' := List.replicate 1 0) T.F_Ratio___neg__ sc_Ratio___neg__ rfl rfl rfl fun cdv A2 outer s H E th hr ok hp => (ss_one (s_retE trivial (e_call (cal_rat (ratMk T) ok (hr.mono (by decide)) rfl) (by rfl) T.g_Ratio T.k_Ratio (a_cons (e_un pure_negI.ne o_negI (e_fldN ok T.cl_Ratio T.na_n (e_var 0))) (a_cons (e_fldD ok T.cl_Ratio T.na_d (e_var 0)) a_nil)))))
theorem sc_row_factor : FnScope ["items", "found", "item"] ["items"] (defScope s_row_factor) := ⟨rfl, rfl, rfl, by decide +kernel, rfl, by decide +kernel, by decide +kernel⟩
theorem bi_row_factor {P : Program} {mg : Str → Option Value} {G : Gam} {A : Ad} (T : Tx P mg G A) : Binds G.K A.d_row_factor ["items"] [] := T.F_row_factor.bindsN fun _ _ _ _ _ _ us hl => match us, hl with | [_], _ => rfl
theorem ok_row_factor {P : Program} {w : World} {mg : Str → Option Value} {base : Heap} {G : Gam} {A : Ad} (T : Tx P mg G A) : FnOk P w G.K mg base (L2.CX P w) 4 A.a_row_factor A.d_row_factor ["items"] (spM G m_row_factor 1) :=
  def_okX (k := 3) (N := ["items", "found", "item"]) (b := b_row_factor) (ω' := List.replicate 3 0) T.F_row_factor sc_row_factor rfl rfl rfl fun cdv A2 outer s H E th hr ok hp => (ss_cons (s_set trivial 1 ok e_int)
    (ss_cons (s_for trivial ok hp (e_var 0) (g_name 2 ok) (ss_one (s_wipe [2] (s_set trivial 1 ok (e_lcm (e_var 1) (e_fldD ok T.cl_Ratio T.na_d (e_var 2)) (by rfl) T.g_lcm)))))
    (ss_one (s_retE trivial (e_if (t_cmp (pure_cmp (p := fun i j => decide (i < j))).ne o_lt rfl (e_meth0 (t := .rat) ok (Cal.fn ok (ok_Ratio_sign T) rfl (hr.mono (by decide)) (bi_Ratio_sign T) rfl) (e_idx ok (e_var 0) (e_un pure_negI.ne o_negI e_int)) T.cl_Ratio T.M_Ratio_sign no_sign) e_int) (e_un pure_neg.ne (o_neg (Cal.fn ok (ok_Ratio___neg__ T) rfl (hr.mono (by decide)) (bi_Ratio___neg__ T) rfl) T.F_rneg T.I_rneg w_rneg) (e_var 1)) (e_var 1))))))
theorem sc_Ratio___mul__ : FnScope ["self", "other"] ["self", "other"] (defScope s_Ratio___mul__) := ⟨rfl, rfl, rfl, by decide +kernel, rfl, by decide +kernel, by decide +kernel⟩
theorem bi_Ratio___mul__ {P : Program} {mg : Str → Option Value} {G : Gam} {A : Ad} (T : Tx P mg G A) : Binds G.K A.d_Ratio___mul__ ["self", "other"] [] := T.F_Ratio___mul__.bindsN fun _ _ _ _ _ _ us hl => match us, hl with | [_, _], _ => rfl
theorem ok_Ratio___mul__ {P : Program} {w : World} {mg : Str → Option Value} {base : Heap} {G : Gam} {A : Ad} (T : Tx P mg G A) : FnOk P w G.K mg base (L2.CX P w) 3 A.a_Ratio___mul__ A.d_Ratio___mul__ ["self", "other"] (spM G m_Ratio___mul__ 2) :=
  def_okX (k := 2) (N := ["self", "other"]) (b := b_Ratio___mul__) (ω' := List.replicate 2 0) T.F_Ratio___mul__ sc_Ratio___mul__ rfl rfl rfl fun cdv A2 outer s H E th hr ok hp => (ss_one (s_retE trivial (e_call (cal_rat (ratMk T) ok (hr.mono (by decide)) rfl) (by rfl) T.g_Ratio T.k_Ratio (a_cons (e_bin pure_mulI.ne o_mulI (e_fldN ok T.cl_Ratio T.na_n (e_var 0)) (e_fldN ok T.cl_Ratio T.na_n (e_var 1))) (a_cons (e_bin pure_mulI.ne o_mulI (e_fldD ok T.cl_Ratio T.na_d (e_var 0)) (e_fldD ok T.cl_Ratio T.na_d (e_var 1))) a_nil)))))
theorem sc_starting : FnScope ["columns", "right", "factors", "rows", "i", "items", "column", "factor", "own", "item", "extra", "k"] ["columns", "right"] (defScope s_starting) := ⟨rfl, rfl, rfl, by decide +kernel, rfl, by decide +kernel, by decide +kernel⟩
theorem bi_starting {P : Program} {mg : Str → Option Value} {G : Gam} {A : Ad} (T : Tx P mg G A) : Binds G.K A.d_starting ["columns", "right"] [] := T.F_starting.bindsN fun _ _ _ _ _ _ us hl => match us, hl with | [_, _], _ => rfl
theorem ok_starting {P : Program} {w : World} {mg : Str → Option Value} {base : Heap} {G : Gam} {A : Ad} (T : Tx P mg G A) : FnOk P w G.K mg base (L2.CX P w) 9 A.a_starting A.d_starting ["columns", "right"] (spM G m_starting 2) :=
  def_okX (k := 8) (N := ["columns", "right", "factors", "rows", "i", "items", "column", "factor", "own", "item", "extra", "k"]) (b := b_starting) (ω' := List.replicate 12 0) T.F_starting sc_starting rfl rfl rfl fun cdv A2 outer s H E th hr ok hp => (ss_cons (s_setO (k := 1) trivial 2 ok (o_lst a_nil))
    (ss_cons (s_setO (k := 1) trivial 3 ok (o_lst a_nil))
    (ss_cons (s_wipe [0, 1] (s_forR1 trivial ok hp (by rfl) T.z_range (e_callB pure_len (b_len rfl) (by rfl) T.z_len (by rfl) (e_var 1)) (g_name 4 ok) (ss_cons (s_set trivial 5 ok (e_bin pure_addL.ne (o_addL rfl) (OJ.val (o_comp ok (src_seq ok (e_var 0)) (blkOk_by (own := [("column", 6)]) (by kernel_rfl)) (fun s1x H1x C1x cl1x fp1x => (pg_name (i := 6) (Ok.blk ok).nd (by rfl) (by first | exact Or.inl rfl | exact Or.inr rfl) (by first | exact .inl rfl | exact .inr rfl))) (gs_set (i := 6)) (fun s1x H1x C1x cl1x fp1x => pts_none) (fun s1x H1x C1x cl1x fp1x => (EJ.own (e_idx (Ok.blk ok) (e_var 6) (e_var 4)))))) (OJ.val (o_lst (a_cons (e_idx ok (e_var 1) (e_var 4)) a_nil)))))
    (ss_cons (s_set trivial 7 ok (e_call (Cal.fn ok (ok_row_factor T) rfl (hr.mono (by decide)) (bi_row_factor T) rfl) (by rfl) T.g_row_factor T.F_row_factor.kp (a_cons (e_var 5) a_nil)))
    (ss_cons (s_wipe [5] (s_setC trivial 8 ok (src_seq ok (e_var 5)) (blkOk_by (own := [("item", 9)]) (by kernel_rfl)) (fun s1x H1x C1x cl1x fp1x => (pg_name (i := 9) (Ok.blk ok).nd (by rfl) (by first | exact Or.inl rfl | exact Or.inr rfl) (by first | exact .inl rfl | exact .inr rfl))) (gs_set (i := 9)) (fun s1x H1x C1x cl1x fp1x => pts_none) (fun s1x H1x C1x cl1x fp1x => (EJ.own (e_bin pure_mul.ne (o_mul (ratop_of (Cal.fn (Ok.blk ok) (ok_Ratio___mul__ T) rfl (hr.mono (by decide)) (bi_Ratio___mul__ T) rfl) T.O_mul w_rmul)) (e_fldN (Ok.blk ok) T.cl_Ratio T.na_n (e_var 9)) (e_bin pure_fdiv.ne o_fdiv (e_var 7) (e_fldD (Ok.blk ok) T.cl_Ratio T.na_d (e_var 9)))))) (sw_true rfl rfl rfl (by decide +kernel))))
    (ss_cons (s_wipe [4] (s_setC trivial 10 ok (src_r1 (by rfl) T.z_range (e_callB pure_len (b_len rfl) (by rfl) T.z_len (by rfl) (e_var 1))) (blkOk_by (own := [("k", 11)]) (by kernel_rfl)) (fun s1x H1x C1x cl1x fp1x => (pg_name (i := 11) (Ok.blk ok).nd (by rfl) (by first | exact Or.inl rfl | exact Or.inr rfl) (by first | exact .inl rfl | exact .inr rfl))) (gs_set (i := 11)) (fun s1x H1x C1x cl1x fp1x => pts_none) (fun s1x H1x C1x cl1x fp1x => (EJ.own (e_callT pure_int b_int (by rfl) T.z_int (by rfl) (e_cmp pure_eq.ne (o_eq ((eqK T).at _) (hr.mono (by decide))) rfl (e_var 11) (e_var 4))))) (sw_true rfl rfl rfl (by decide +kernel))))
    (ss_cons (s_wipe [7] (s_append (k := 0) trivial 2 ok (EJ.own (e_var 7))))
    (ss_one (s_wipe [8, 10] (s_append (k := 0) trivial 3 ok (EJ.own (e_bin pure_addL.ne (o_addL rfl) (e_bin pure_addL.ne (o_addL rfl) (e_slice ok (e_var 8) p_none (p_some (e_un pure_negI.ne o_negI e_int))) (e_var 10)) (e_slice ok (e_var 8) (p_some (e_un pure_negI.ne o_negI e_int)) p_none)))))))))))))
    (ss_freeze 2 (ss_freeze 3 (ss_one (s_retE trivial (e_tup (a_cons (e_var 2) (a_cons (e_var 3) a_nil))))))))))
theorem sc_Ratio___add__ : FnScope ["self", "other"] ["self", "other"] (defScope s_Ratio___add__) := ⟨rfl, rfl, rfl, by decide +kernel, rfl, by decide +kernel, by decide +kernel⟩
theorem bi_Ratio___add__ {P : Program} {mg : Str → Option Value} {G : Gam} {A : Ad} (T : Tx P mg G A) : Binds G.K A.d_Ratio___add__ ["self", "other"] [] := T.F_Ratio___add__.bindsN fun _ _ _ _ _ _ us hl => match us, hl with | [_, _], _ => rfl
theorem ok_Ratio___add__ {P : Program} {w : World} {mg : Str → Option Value} {base : Heap} {G : Gam} {A : Ad} (T : Tx P mg G A) : FnOk P w G.K mg base (L2.CX P w) 3 A.a_Ratio___add__ A.d_Ratio___add__ ["self", "other"] (spM G m_Ratio___add__ 2) :=
  def_okX (k := 2) (N := ["self", "other"]) (b := b_Ratio___add__) (ω' := List.replicate 2 0) T.F_Ratio___add__ sc_Ratio___add__ rfl rfl rfl fun cdv A2 outer s H E th hr ok hp => (ss_one (s_retE trivial (e_call (cal_rat (ratMk T) ok (hr.mono (by decide)) rfl) (by rfl) T.g_Ratio T.k_Ratio (a_cons (e_bin pure_addI.ne o_addI (e_bin pure_mulI.ne o_mulI (e_fldN ok T.cl_Ratio T.na_n (e_var 0)) (e_fldD ok T.cl_Ratio T.na_d (e_var 1))) (e_bin pure_mulI.ne o_mulI (e_fldN ok T.cl_Ratio T.na_n (e_var 1)) (e_fldD ok T.cl_Ratio T.na_d (e_var 0)))) (a_cons (e_bin pure_mulI.ne o_mulI (e_fldD ok T.cl_Ratio T.na_d (e_var 0)) (e_fldD ok T.cl_Ratio T.na_d (e_var 1))) a_nil)))))
theorem sc_costs : FnScope ["rows", "count", "width", "found", "j", "row"] ["rows", "count"] (defScope s_costs) := ⟨rfl, rfl, rfl, by decide +kernel, rfl, by decide +kernel, by decide +kernel⟩
theorem bi_costs {P : Program} {mg : Str → Option Value} {G : Gam} {A : Ad} (T : Tx P mg G A) : Binds G.K A.d_costs ["rows", "count"] [] := T.F_costs.bindsN fun _ _ _ _ _ _ us hl => match us, hl with | [_, _], _ => rfl
theorem ok_costs {P : Program} {w : World} {mg : Str → Option Value} {base : Heap} {G : Gam} {A : Ad} (T : Tx P mg G A) : FnOk P w G.K mg base (L2.CX P w) 1 A.a_costs A.d_costs ["rows", "count"] (spM G m_costs 2) :=
  def_okX (k := 0) (N := ["rows", "count", "width", "found", "j", "row"]) (b := b_costs) (ω' := List.replicate 6 0) T.F_costs sc_costs rfl rfl rfl fun cdv A2 outer s H E th hr ok hp => (ss_cons (s_set trivial 2 ok (e_bin pure_addL.ne (o_addL rfl) (e_bin pure_addL.ne (o_addL rfl) (e_var 1) (e_callB pure_len (b_len rfl) (by rfl) T.z_len (by rfl) (e_var 0))) e_int))
    (ss_cons (s_setO (k := 1) trivial 3 ok (o_lst a_nil))
    (ss_cons (s_wipe [0, 1, 2] (s_forR1 trivial ok hp (by rfl) T.z_range (e_var 2) (g_name 4 ok) (ss_one (s_wipe [4] (s_append (k := 0) trivial 3 ok (EJ.own (e_bin pure_subI.ne o_subI (e_callT pure_int b_int (by rfl) T.z_int (by rfl) (e_chain (pure_cmp (p := fun i j => decide (i ≤ j))).ne (pure_cmp (p := fun i j => decide (i < j))).ne o_le o_lt (e_var 1) (e_var 4) (e_bin pure_subI.ne o_subI (e_var 2) e_int))) (e_sum ok rfl (by rfl) T.z_sum (OJ.val (o_comp ok (src_seq ok (e_var 0)) (blkOk_by (own := [("row", 5)]) (by kernel_rfl)) (fun s1x H1x C1x cl1x fp1x => (pg_name (i := 5) (Ok.blk ok).nd (by rfl) (by first | exact Or.inl rfl | exact Or.inr rfl) (by first | exact .inl rfl | exact .inr rfl))) (gs_set (i := 5)) (fun s1x H1x C1x cl1x fp1x => pts_none) (fun s1x H1x C1x cl1x fp1x => (EJ.own (e_idx (Ok.blk ok) (e_var 5) (e_var 4))))))))))))))
    (ss_freeze 3 (ss_one (s_retE trivial (e_var 3)))))))
theorem sc_leaving : FnScope ["rows", "basis", "at", "best", "i", "one", "two"] ["rows", "basis", "at"] (defScope s_leaving) := ⟨rfl, rfl, rfl, by decide +kernel, rfl, by decide +kernel, by decide +kernel⟩
theorem bi_leaving {P : Program} {mg : Str → Option Value} {G : Gam} {A : Ad} (T : Tx P mg G A) : Binds G.K A.d_leaving ["rows", "basis", "at"] [] := T.F_leaving.bindsN fun _ _ _ _ _ _ us hl => match us, hl with | [_, _, _], _ => rfl
theorem ok_leaving {P : Program} {w : World} {mg : Str → Option Value} {base : Heap} {G : Gam} {A : Ad} (T : Tx P mg G A) : FnOk P w G.K mg base (L2.CX P w) 9 A.a_leaving A.d_leaving ["rows", "basis", "at"] (spM G m_leaving 3) :=
  def_okX (k := 8) (N := ["rows", "basis", "at", "best", "i", "one", "two"]) (b := b_leaving) (ω' := List.replicate 7 0) T.F_leaving sc_leaving rfl rfl rfl fun cdv A2 outer s H E th hr ok hp => (ss_cons (s_set trivial 3 ok (e_un pure_negI.ne o_negI e_int))
    (ss_cons (s_wipe [0, 1, 2] (s_forR1 trivial ok hp (by rfl) T.z_range (e_callB pure_len (b_len rfl) (by rfl) T.z_len (by rfl) (e_var 0)) (g_name 4 ok) (ss_one (s_if trivial (t_cmp (pure_cmp (p := fun i j => decide (j < i))).ne o_gt rfl (e_idx ok (e_idx ok (e_var 0) (e_var 4)) (e_var 2)) e_int) (ss_cons (s_if trivial (t_cmp (pure_cmp (p := fun i j => decide (i < j))).ne o_lt rfl (e_var 3) e_int) (ss_one (s_set trivial 3 ok (e_var 4))) ss_nil)
    (ss_cons (s_set trivial 5 ok (e_bin pure_mul.ne (o_mul (ratop_of (Cal.fn ok (ok_Ratio___mul__ T) rfl (hr.mono (by decide)) (bi_Ratio___mul__ T) rfl) T.O_mul w_rmul)) (e_idx ok (e_idx ok (e_var 0) (e_var 4)) (e_un pure_negI.ne o_negI e_int)) (e_idx ok (e_idx ok (e_var 0) (e_var 3)) (e_var 2))))
    (ss_cons (s_set trivial 6 ok (e_bin pure_mul.ne (o_mul (ratop_of (Cal.fn ok (ok_Ratio___mul__ T) rfl (hr.mono (by decide)) (bi_Ratio___mul__ T) rfl) T.O_mul w_rmul)) (e_idx ok (e_idx ok (e_var 0) (e_var 3)) (e_un pure_negI.ne o_negI e_int)) (e_idx ok (e_idx ok (e_var 0) (e_var 4)) (e_var 2))))
    (ss_one (s_if trivial (PW.pt (w_or (t_cmp (pure_cmp (p := fun i j => decide (i < j))).ne o_lt rfl (e_var 5) (e_var 6)) (w_or1 (PW.pt (w_and (t_cmp pure_eq.ne (o_eq ((eqK T).at _) (hr.mono (by decide))) rfl (e_var 5) (e_var 6)) (w_and1 (t_cmp (pure_cmp (p := fun i j => decide (i < j))).ne o_lt rfl (e_idx ok (e_var 1) (e_var 4)) (e_idx ok (e_var 1) (e_var 3))))))))) (ss_wipe [5, 6] (ss_one (s_wipe [4] (s_set trivial 3 ok (e_var 4))))) (ss_wipe [4, 5, 6] ss_nil)))))) (ss_wipe [4] ss_nil)))))
    (ss_one (s_retE trivial (e_var 3)))))
theorem sc_Ratio___sub__ : FnScope ["self", "other"] ["self", "other"] (defScope s_Ratio___sub__) := ⟨rfl, rfl, rfl, by decide +kernel, rfl, by decide +kernel, by decide +kernel⟩
theorem bi_Ratio___sub__ {P : Program} {mg : Str → Option Value} {G : Gam} {A : Ad} (T : Tx P mg G A) : Binds G.K A.d_Ratio___sub__ ["self", "other"] [] := T.F_Ratio___sub__.bindsN fun _ _ _ _ _ _ us hl => match us, hl with | [_, _], _ => rfl
theorem ok_Ratio___sub__ {P : Program} {w : World} {mg : Str → Option Value} {base : Heap} {G : Gam} {A : Ad} (T : Tx P mg G A) : FnOk P w G.K mg base (L2.CX P w) 3 A.a_Ratio___sub__ A.d_Ratio___sub__ ["self", "other"] (spM G m_Ratio___sub__ 2) :=
  def_okX (k := 2) (N := ["self", "other"]) (b := b_Ratio___sub__) (ω' := List.replicate 2 0) T.F_Ratio___sub__ sc_Ratio___sub__ rfl rfl rfl fun cdv A2 outer s H E th hr ok hp => (ss_one (s_retE trivial (e_call (cal_rat (ratMk T) ok (hr.mono (by decide)) rfl) (by rfl) T.g_Ratio T.k_Ratio (a_cons (e_bin pure_subI.ne o_subI (e_bin pure_mulI.ne o_mulI (e_fldN ok T.cl_Ratio T.na_n (e_var 0)) (e_fldD ok T.cl_Ratio T.na_d (e_var 1))) (e_bin pure_mulI.ne o_mulI (e_fldN ok T.cl_Ratio T.na_n (e_var 1)) (e_fldD ok T.cl_Ratio T.na_d (e_var 0)))) (a_cons (e_bin pure_mulI.ne o_mulI (e_fldD ok T.cl_Ratio T.na_d (e_var 0)) (e_fldD ok T.cl_Ratio T.na_d (e_var 1))) a_nil)))))
theorem sc_subtracted : FnScope ["row", "head", "at", "scale", "top", "factor", "x", "y"] ["row", "head", "at", "scale"] (defScope s_subtracted) := ⟨rfl, rfl, rfl, by decide +kernel, rfl, by decide +kernel, by decide +kernel⟩
theorem bi_subtracted {P : Program} {mg : Str → Option Value} {G : Gam} {A : Ad} (T : Tx P mg G A) : Binds G.K A.d_subtracted ["row", "head", "at", "scale"] [] := T.F_subtracted.bindsN fun _ _ _ _ _ _ us hl => match us, hl with | [_, _, _, _], _ => rfl
theorem ok_subtracted {P : Program} {w : World} {mg : Str → Option Value} {base : Heap} {G : Gam} {A : Ad} (T : Tx P mg G A) : FnOk P w G.K mg base (L2.CX P w) 4 A.a_subtracted A.d_subtracted ["row", "head", "at", "scale"] (spM G m_subtracted 4) :=
  def_okX (k := 3) (N := ["row", "head", "at", "scale", "top", "factor", "x", "y"]) (b := b_subtracted) (ω' := List.replicate 8 0) T.F_subtracted sc_subtracted rfl rfl rfl fun cdv A2 outer s H E th hr ok hp => (ss_cons (s_set trivial 4 ok (e_idx ok (e_var 1) (e_var 2)))
    (ss_cons (s_wipe [2] (s_set trivial 5 ok (e_idx ok (e_var 0) (e_var 2))))
    (ss_one (s_retE trivial (OJ.val (o_compA ok (src_zip ok (by rfl) T.z_zip (e_var 0) (e_var 1)) (blkOk_by (own := [("x", 6), ("y", 7)]) (by kernel_rfl)) (fun s2x H2x C2x cl2x fp2x => (pg_tup (Ok.blk ok).calm (pgs_cons (pg_name (i := 6) (Ok.blk ok).nd (by rfl) (by first | exact Or.inl rfl | exact Or.inr rfl) (by first | exact .inl rfl | exact .inr rfl)) (pgs_cons (pg_name (i := 7) (Ok.blk ok).nd (by rfl) (by first | exact Or.inl rfl | exact Or.inr rfl) (by first | exact .inl rfl | exact .inr rfl)) pgs_nil (by rfl)) (by rfl)) (by rfl) (by rfl))) (gs_tup rfl (gss_cons (gs_set (i := 6)) (gss_cons (gs_set (i := 7)) gss_nil))) (fun s2x H2x C2x cl2x fp2x => pts_none) (fun s2x H2x C2x cl2x fp2x => (EJ.own (e_bin pure_fdiv.ne o_fdiv (e_bin pure_sub.ne (o_sub (ratop_of (Cal.fn (Ok.blk ok) (ok_Ratio___sub__ T) rfl (hr.mono (by decide)) (bi_Ratio___sub__ T) rfl) T.O_sub w_rsub)) (e_bin pure_mul.ne (o_mul (ratop_of (Cal.fn (Ok.blk ok) (ok_Ratio___mul__ T) rfl (hr.mono (by decide)) (bi_Ratio___mul__ T) rfl) T.O_mul w_rmul)) (e_var 6) (e_var 4)) (e_bin pure_mul.ne (o_mul (ratop_of (Cal.fn (Ok.blk ok) (ok_Ratio___mul__ T) rfl (hr.mono (by decide)) (bi_Ratio___mul__ T) rfl) T.O_mul w_rmul)) (e_var 5) (e_var 7))) (e_var 3))))))))))
theorem sc_zero : FnScope [] [] (defScope s_zero) := ⟨rfl, rfl, rfl, by decide +kernel, rfl, by decide +kernel, by decide +kernel⟩
theorem bi_zero {P : Program} {mg : Str → Option Value} {G : Gam} {A : Ad} (T : Tx P mg G A) : Binds G.K A.d_zero [] [] := T.F_zero.bindsN fun _ _ _ _ _ _ us hl => match us, hl with | [], _ => rfl
theorem ok_zero {P : Program} {w : World} {mg : Str → Option Value} {base : Heap} {G : Gam} {A : Ad} (T : Tx P mg G A) : FnOk P w G.K mg base (L2.CX P w) 3 A.a_zero A.d_zero [] (spM G m_zero 0) :=
  def_okX (k := 2) (N := []) (b := b_zero) (ω' := List.replicate 0 0) T.F_zero sc_zero rfl rfl rfl fun cdv A2 outer s H E th hr ok hp => (ss_one (s_retE trivial (e_call (cal_rat (ratMk T) ok (hr.mono (by decide)) rfl) (by rfl) T.g_Ratio T.k_Ratio (a_cons e_int a_nil))))
theorem sc_feasible : FnScope ["columns", "right", "factors", "rows", "count", "basis", "i", "price", "scale", "entering", "j", "at", "out", "head", "found", "_"] ["columns", "right"] (defScope s_feasible) := ⟨rfl, rfl, rfl, by decide +kernel, rfl, by decide +kernel, by decide +kernel⟩
theorem bi_feasible {P : Program} {mg : Str → Option Value} {G : Gam} {A : Ad} (T : Tx P mg G A) : Binds G.K A.d_feasible ["columns", "right"] [] := T.F_feasible.bindsN fun _ _ _ _ _ _ us hl => match us, hl with | [_, _], _ => rfl
theorem ok_feasible {P : Program} {w : World} {mg : Str → Option Value} {base : Heap} {G : Gam} {A : Ad} (T : Tx P mg G A) : FnOk P w G.K mg base (L2.CX P w) 10 A.a_feasible A.d_feasible ["columns", "right"] (spM G m_feasible 2) :=
  def_okX (k := 9) (N := ["columns", "right", "factors", "rows", "count", "basis", "i", "price", "scale", "entering", "j", "at", "out", "head", "found", "_"]) (b := b_feasible) (ω' := List.replicate 16 0) T.F_feasible sc_feasible rfl rfl rfl fun cdv A2 outer s H E th hr ok hp => (ss_cons (s_wipe [1] (s_asg trivial (e_call (Cal.fn ok (ok_starting T) rfl (hr.mono (by decide)) (bi_starting T) rfl) (by rfl) T.g_starting T.F_starting.kp (a_cons (e_var 0) (a_cons (e_var 1) a_nil))) (g_tup ok (gs_cons (g_name 2 ok) (gs_cons (g_name 3 ok) gs_nil)))))
    (ss_cons (s_wipe [0] (s_set trivial 4 ok (e_callB pure_len (b_len rfl) (by rfl) T.z_len (by rfl) (e_var 0))))
    (ss_cons (s_setCO (k := 0) trivial 5 ok (src_r1 (by rfl) T.z_range (e_callB pure_len (b_len rfl) (by rfl) T.z_len (by rfl) (e_var 3))) (blkOk_by (own := [("i", 6)]) (by kernel_rfl)) (fun s1x H1x C1x cl1x fp1x => (pg_name (i := 6) (Ok.blk ok).nd (by rfl) (by first | exact Or.inl rfl | exact Or.inr rfl) (by first | exact .inl rfl | exact .inr rfl))) (gs_set (i := 6)) (fun s1x H1x C1x cl1x fp1x => pts_none) (fun s1x H1x C1x cl1x fp1x => (EJ.own (e_bin pure_add.ne (o_add (ratop_of (Cal.fn (Ok.blk ok) (ok_Ratio___add__ T) rfl (hr.mono (by decide)) (bi_Ratio___add__ T) rfl) T.O_add w_radd) rfl) (e_var 4) (e_var 6)))) (sw_true rfl rfl rfl (by decide +kernel)))
    (ss_cons (s_set trivial 7 ok (e_call (Cal.fn ok (ok_costs T) rfl (hr.mono (by decide)) (bi_costs T) rfl) (by rfl) T.g_costs T.F_costs.kp (a_cons (e_var 3) (a_cons (e_var 4) a_nil))))
    (ss_cons (s_set trivial 8 ok e_int)
    (ss_cons (s_setC trivial 9 ok (src_r1 (by rfl) T.z_range (e_var 4)) (blkOk_by (own := [("j", 10)]) (by kernel_rfl)) (fun s1x H1x C1x cl1x fp1x => (pg_name (i := 10) (Ok.blk ok).nd (by rfl) (by first | exact Or.inl rfl | exact Or.inr rfl) (by first | exact .inl rfl | exact .inr rfl))) (gs_set (i := 10)) (fun s1x H1x C1x cl1x fp1x => (pts_1 (t_cmp (pure_cmp (p := fun i j => decide (i < j))).ne o_lt rfl (e_idx (Ok.blk ok) (e_var 7) (e_var 10)) e_int))) (fun s1x H1x C1x cl1x fp1x => (EJ.own (e_var 10))) (sw_true rfl rfl rfl (by decide +kernel)))
    (ss_cons (s_wipe [9] (s_while trivial hp (t_cmp (pure_cmp (p := fun i j => decide (j < i))).ne o_gt rfl (e_callB pure_len (b_len rfl) (by rfl) T.z_len (by rfl) (e_var 9)) e_int) (ss_cons (s_wipe [9] (s_set trivial 11 ok (e_idx ok (e_var 9) e_int)))
    (ss_cons (s_set trivial 12 ok (e_lend ok 5 (e_call (Cal.fn ok (ok_leaving T) rfl (hr.mono (by decide)) (bi_leaving T) rfl) (by rfl) T.g_leaving T.F_leaving.kp (a_cons (e_var 3) (a_cons (e_var 5) (a_cons (e_var 11) a_nil))))))
    (ss_cons (s_set trivial 13 ok (e_idx ok (e_var 3) (e_var 12)))
    (ss_cons (s_set trivial 3 ok (OJ.val (o_comp ok (src_r1 (by rfl) T.z_range (e_callB pure_len (b_len rfl) (by rfl) T.z_len (by rfl) (e_var 3))) (blkOk_by (own := [("i", 6)]) (by kernel_rfl)) (fun s1x H1x C1x cl1x fp1x => (pg_name (i := 6) (Ok.blk ok).nd (by rfl) (by first | exact Or.inl rfl | exact Or.inr rfl) (by first | exact .inl rfl | exact .inr rfl))) (gs_set (i := 6)) (fun s1x H1x C1x cl1x fp1x => pts_none) (fun s1x H1x C1x cl1x fp1x => (EJ.own (e_if (t_cmp pure_eq.ne (o_eq ((eqK T).at _) (hr.mono (by decide))) rfl (e_var 6) (e_var 12)) (e_var 13) (e_call (Cal.fn (Ok.blk ok) (ok_subtracted T) rfl (hr.mono (by decide)) (bi_subtracted T) rfl) (by rfl) T.g_subtracted T.F_subtracted.kp (a_cons (e_idx (Ok.blk ok) (e_var 3) (e_var 6)) (a_cons (e_var 13) (a_cons (e_var 11) (a_cons (e_var 8) a_nil)))))))))))
    (ss_cons (s_wipe [8] (s_set trivial 7 ok (e_call (Cal.fn ok (ok_subtracted T) rfl (hr.mono (by decide)) (bi_subtracted T) rfl) (by rfl) T.g_subtracted T.F_subtracted.kp (a_cons (e_var 7) (a_cons (e_var 13) (a_cons (e_var 11) (a_cons (e_var 8) a_nil)))))))
    (ss_cons (s_wipe [13] (s_set trivial 8 ok (e_idx ok (e_var 13) (e_var 11))))
    (ss_cons (s_wipe [11, 12] (s_asgT trivial (e_var 11) (u_at trivial 5 (e_var 12))))
    (ss_one (s_setC trivial 9 ok (src_r1 (by rfl) T.z_range (e_var 4)) (blkOk_by (own := [("j", 10)]) (by kernel_rfl)) (fun s1x H1x C1x cl1x fp1x => (pg_name (i := 10) (Ok.blk ok).nd (by rfl) (by first | exact Or.inl rfl | exact Or.inr rfl) (by first | exact .inl rfl | exact .inr rfl))) (gs_set (i := 10)) (fun s1x H1x C1x cl1x fp1x => (pts_1 (t_cmp (pure_cmp (p := fun i j => decide (i < j))).ne o_lt rfl (e_idx (Ok.blk ok) (e_var 7) (e_var 10)) e_int))) (fun s1x H1x C1x cl1x fp1x => (EJ.own (e_var 10))) (sw_true rfl rfl rfl (by decide +kernel)))))))))))))
    (ss_cons (s_if trivial (t_cmp (pure_cmp (p := fun i j => decide (i < j))).ne o_lt rfl (e_idx ok (e_var 7) (e_un pure_negI.ne o_negI e_int)) e_int) (ss_one (s_retE trivial (e_tup (a_cons e_str (a_cons (e_callT pure_tupOf (b_tupOf rfl) (by rfl) T.z_tuple (by rfl) (OJ.val (o_comp ok (src_r1 (by rfl) T.z_range (e_callB pure_len (b_len rfl) (by rfl) T.z_len (by rfl) (e_var 3))) (blkOk_by (own := [("i", 6)]) (by kernel_rfl)) (fun s1x H1x C1x cl1x fp1x => (pg_name (i := 6) (Ok.blk ok).nd (by rfl) (by first | exact Or.inl rfl | exact Or.inr rfl) (by first | exact .inl rfl | exact .inr rfl))) (gs_set (i := 6)) (fun s1x H1x C1x cl1x fp1x => pts_none) (fun s1x H1x C1x cl1x fp1x => (EJ.own (e_call (cal_rat (ratMk T) (Ok.blk ok) (hr.mono (by decide)) rfl) (by rfl) T.g_Ratio T.k_Ratio (a_cons (e_bin pure_mul.ne (o_mul (ratop_of (Cal.fn (Ok.blk ok) (ok_Ratio___mul__ T) rfl (hr.mono (by decide)) (bi_Ratio___mul__ T) rfl) T.O_mul w_rmul)) (e_idx (Ok.blk ok) (e_var 2) (e_var 6)) (e_bin pure_sub.ne (o_sub (ratop_of (Cal.fn (Ok.blk ok) (ok_Ratio___sub__ T) rfl (hr.mono (by decide)) (bi_Ratio___sub__ T) rfl) T.O_sub w_rsub)) (e_var 8) (e_idx (Ok.blk ok) (e_var 7) (e_bin pure_add.ne (o_add (ratop_of (Cal.fn (Ok.blk ok) (ok_Ratio___add__ T) rfl (hr.mono (by decide)) (bi_Ratio___add__ T) rfl) T.O_add w_radd) rfl) (e_var 4) (e_var 6))))) (a_cons (e_var 8) a_nil)))))))) a_nil))))) (ss_wipe [2, 7] ss_nil))
    (ss_cons (s_setCO (k := 0) trivial 14 ok (src_r1 (by rfl) T.z_range (e_var 4)) (blkOk_by (own := [("_", 15)]) (by kernel_rfl)) (fun s1x H1x C1x cl1x fp1x => (pg_name (i := 15) (Ok.blk ok).nd (by rfl) (by first | exact Or.inl rfl | exact Or.inr rfl) (by first | exact .inl rfl | exact .inr rfl))) (gs_set (i := 15)) (fun s1x H1x C1x cl1x fp1x => pts_none) (fun s1x H1x C1x cl1x fp1x => (EJ.own (e_call0 (Cal.fn (Ok.blk ok) (ok_zero T) rfl (hr.mono (by decide)) (bi_zero T) rfl) (by rfl) T.g_zero T.F_zero.kp))) (sw_true rfl rfl rfl (by decide +kernel)))
    (ss_cons (s_wipe [3, 4, 5, 8] (s_forR1 trivial ok hp (by rfl) T.z_range (e_callB pure_len (b_len rfl) (by rfl) T.z_len (by rfl) (e_var 3)) (g_name 6 ok) (ss_one (s_if trivial (t_cmp (pure_cmp (p := fun i j => decide (i < j))).ne o_lt rfl (BJ.val0 (b_idx ok (b_var 5 1) (e_var 6))) (e_var 4)) (ss_one (s_wipe [6] (s_asgT trivial (e_call (cal_rat (ratMk T) ok (hr.mono (by decide)) rfl) (by rfl) T.g_Ratio T.k_Ratio (a_cons (e_idx ok (e_idx ok (e_var 3) (e_var 6)) (e_un pure_negI.ne o_negI e_int)) (a_cons (e_var 8) a_nil))) (u_at trivial 14 (BJ.val0 (b_idx ok (b_var 5 1) (e_var 6))))))) (ss_wipe [6] ss_nil)))))
    (ss_freeze 14 (ss_one (s_retE trivial (e_tup (a_cons e_str (a_cons (e_callT pure_tupOf (b_tupOf rfl) (by rfl) T.z_tuple (by rfl) (e_var 14)) a_nil))))))))))))))))
theorem sc__law_ratio_row : FnScope ["_law_row_here", "_law_a"] ["_law_row_here"] (defScope s__law_ratio_row) := ⟨rfl, rfl, rfl, by decide +kernel, rfl, by decide +kernel, by decide +kernel⟩
theorem bi__law_ratio_row {P : Program} {mg : Str → Option Value} {G : Gam} {A : Ad} (T : Tx P mg G A) : Binds G.K A.d__law_ratio_row ["_law_row_here"] [] := T.F__law_ratio_row.bindsN fun _ _ _ _ _ _ us hl => match us, hl with | [_], _ => rfl
theorem ok__law_ratio_row {P : Program} {w : World} {mg : Str → Option Value} {base : Heap} {G : Gam} {A : Ad} (T : Tx P mg G A) : FnOk P w G.K mg base (L2.CX P w) 3 A.a__law_ratio_row A.d__law_ratio_row ["_law_row_here"] (spM G m__law_ratio_row 1) :=
  def_okX (k := 2) (N := ["_law_row_here", "_law_a"]) (b := b__law_ratio_row) (ω' := List.replicate 2 0) T.F__law_ratio_row sc__law_ratio_row rfl rfl rfl fun cdv A2 outer s H E th hr ok hp => (ss_one (s_retE trivial (e_callT pure_tupOf (b_tupOf rfl) (by rfl) T.z_tuple (by rfl) (OJ.val (o_comp ok (src_seq ok (e_var 0)) (blkOk_by (own := [("_law_a", 1)]) (by kernel_rfl)) (fun s1x H1x C1x cl1x fp1x => (pg_name (i := 1) (Ok.blk ok).nd (by rfl) (by first | exact Or.inl rfl | exact Or.inr rfl) (by first | exact .inl rfl | exact .inr rfl))) (gs_set (i := 1)) (fun s1x H1x C1x cl1x fp1x => pts_none) (fun s1x H1x C1x cl1x fp1x => (EJ.own (e_call (cal_rat (ratMk T) (Ok.blk ok) (hr.mono (by decide)) rfl) (by rfl) T.g_Ratio T.k_Ratio (a_cons (e_idx (Ok.blk ok) (e_var 1) e_int) (a_cons (e_idx (Ok.blk ok) (e_var 1) e_int) a_nil))))))))))
theorem sc__law_are_ratios : FnScope ["_law_value", "_law_count", "_law_x"] ["_law_value", "_law_count"] (defScope s__law_are_ratios) := ⟨rfl, rfl, rfl, by decide +kernel, rfl, by decide +kernel, by decide +kernel⟩
theorem bi__law_are_ratios {P : Program} {mg : Str → Option Value} {G : Gam} {A : Ad} (T : Tx P mg G A) : Binds G.K A.d__law_are_ratios ["_law_value", "_law_count"] [] := T.F__law_are_ratios.bindsN fun _ _ _ _ _ _ us hl => match us, hl with | [_, _], _ => rfl
theorem ok__law_are_ratios {P : Program} {w : World} {mg : Str → Option Value} {base : Heap} {G : Gam} {A : Ad} (T : Tx P mg G A) : FnOk P w G.K mg base (L2.CX P w) 9 A.a__law_are_ratios A.d__law_are_ratios ["_law_value", "_law_count"] (spM G m__law_are_ratios 2) :=
  def_okX (k := 8) (N := ["_law_value", "_law_count", "_law_x"]) (b := b__law_are_ratios) (ω' := List.replicate 3 0) T.F__law_are_ratios sc__law_are_ratios rfl rfl rfl fun cdv A2 outer s H E th hr ok hp => (ss_cons (s_if trivial (PW.pt (w_or (t_not (t_val (e_isi ok (T.isk.at _) (t := .tuple) (by intro _ h; cases h) (e_var 0) (tg_bltn (t := .tuple) rfl (by rfl) T.z_tuple (by rfl)) (by rfl) T.z_isinstance (by rfl)))) (w_or1 (t_cmp pure_ne.ne (o_ne ((eqK T).at _) (hr.mono (by decide))) rfl (e_callB pure_len (b_len rfl) (by rfl) T.z_len (by rfl) (e_var 0)) (e_var 1))))) (ss_one (s_retE trivial e_bl)) (ss_wipe [1] ss_nil))
    (ss_one (s_retE trivial (e_cmp pure_eq.ne (o_eq ((eqK T).at _) (hr.mono (by decide))) rfl (e_callB pure_len (b_len rfl) (by rfl) T.z_len (by rfl) (OJ.val (o_comp ok (src_seq ok (e_var 0)) (blkOk_by (own := [("_law_x", 2)]) (by kernel_rfl)) (fun s1x H1x C1x cl1x fp1x => (pg_name (i := 2) (Ok.blk ok).nd (by rfl) (by first | exact Or.inl rfl | exact Or.inr rfl) (by first | exact .inl rfl | exact .inr rfl))) (gs_set (i := 2)) (fun s1x H1x C1x cl1x fp1x => (pts_1 (t_not (t_val (e_isi (Ok.blk ok) (T.isk.at _) (t := .rat) (by intro _ h; cases h) (e_var 2) (tg_own (t := .rat) rfl (by rfl) T.g_Ratio) (by rfl) T.z_isinstance (by rfl)))))) (fun s1x H1x C1x cl1x fp1x => (EJ.own (e_var 2)))))) e_int))))
theorem sc__law_pairs_of : FnScope ["_law_row_here", "_law_x"] ["_law_row_here"] (defScope s__law_pairs_of) := ⟨rfl, rfl, rfl, by decide +kernel, rfl, by decide +kernel, by decide +kernel⟩
theorem bi__law_pairs_of {P : Program} {mg : Str → Option Value} {G : Gam} {A : Ad} (T : Tx P mg G A) : Binds G.K A.d__law_pairs_of ["_law_row_here"] [] := T.F__law_pairs_of.bindsN fun _ _ _ _ _ _ us hl => match us, hl with | [_], _ => rfl
theorem ok__law_pairs_of {P : Program} {w : World} {mg : Str → Option Value} {base : Heap} {G : Gam} {A : Ad} (T : Tx P mg G A) : FnOk P w G.K mg base (L2.CX P w) 1 A.a__law_pairs_of A.d__law_pairs_of ["_law_row_here"] (spM G m__law_pairs_of 1) :=
  def_okX (k := 0) (N := ["_law_row_here", "_law_x"]) (b := b__law_pairs_of) (ω' := List.replicate 2 0) T.F__law_pairs_of sc__law_pairs_of rfl rfl rfl fun cdv A2 outer s H E th hr ok hp => (ss_one (s_retE trivial (OJ.val (o_comp ok (src_seq ok (e_var 0)) (blkOk_by (own := [("_law_x", 1)]) (by kernel_rfl)) (fun s1x H1x C1x cl1x fp1x => (pg_name (i := 1) (Ok.blk ok).nd (by rfl) (by first | exact Or.inl rfl | exact Or.inr rfl) (by first | exact .inl rfl | exact .inr rfl))) (gs_set (i := 1)) (fun s1x H1x C1x cl1x fp1x => pts_none) (fun s1x H1x C1x cl1x fp1x => (EJ.own (e_tup (a_cons (e_fldN (Ok.blk ok) T.cl_Ratio T.na_n (e_var 1)) (a_cons (e_fldD (Ok.blk ok) T.cl_Ratio T.na_d (e_var 1)) a_nil)))))))))
theorem sc__law_weights_hold : FnScope ["_law_columns", "_law_right", "_law_told", "_law_found", "_law_x"] ["_law_columns", "_law_right", "_law_told"] (defScope s__law_weights_hold) := ⟨rfl, rfl, rfl, by decide +kernel, rfl, by decide +kernel, by decide +kernel⟩
theorem bi__law_weights_hold {P : Program} {mg : Str → Option Value} {G : Gam} {A : Ad} (T : Tx P mg G A) : Binds G.K A.d__law_weights_hold ["_law_columns", "_law_right", "_law_told"] [] := T.F__law_weights_hold.bindsN fun _ _ _ _ _ _ us hl => match us, hl with | [_, _, _], _ => rfl
theorem ok__law_weights_hold {P : Program} {w : World} {mg : Str → Option Value} {base : Heap} {G : Gam} {A : Ad} (T : Tx P mg G A) : FnOk P w G.K mg base (L2.CX P w) 10 A.a__law_weights_hold A.d__law_weights_hold ["_law_columns", "_law_right", "_law_told"] (spM G m__law_weights_hold 3) :=
  def_okX (k := 9) (N := ["_law_columns", "_law_right", "_law_told", "_law_found", "_law_x"]) (b := b__law_weights_hold) (ω' := List.replicate 5 0) T.F__law_weights_hold sc__law_weights_hold rfl rfl rfl fun cdv A2 outer s H E th hr ok hp => (ss_cons (s_if trivial (t_not (t_val (e_call (Cal.fn ok (ok__law_are_ratios T) rfl (hr.mono (by decide)) (bi__law_are_ratios T) rfl) (by rfl) T.g__law_are_ratios T.F__law_are_ratios.kp (a_cons (e_var 2) (a_cons (e_callB pure_len (b_len rfl) (by rfl) T.z_len (by rfl) (e_var 0)) a_nil))))) (ss_one (s_retE trivial e_bl)) ss_nil)
    (ss_cons (s_wipe [2] (s_set trivial 3 ok (e_call (Cal.fn ok (ok__law_pairs_of T) rfl (hr.mono (by decide)) (bi__law_pairs_of T) rfl) (by rfl) T.g__law_pairs_of T.F__law_pairs_of.kp (a_cons (e_var 2) a_nil))))
    (ss_one (s_retE trivial (e_and (e_cmp pure_eq.ne (o_eq ((eqK T).at _) (hr.mono (by decide))) rfl (e_callB pure_len (b_len rfl) (by rfl) T.z_len (by rfl) (OJ.val (o_comp ok (src_seq ok (e_var 3)) (blkOk_by (own := [("_law_x", 4)]) (by kernel_rfl)) (fun s1x H1x C1x cl1x fp1x => (pg_name (i := 4) (Ok.blk ok).nd (by rfl) (by first | exact Or.inl rfl | exact Or.inr rfl) (by first | exact .inl rfl | exact .inr rfl))) (gs_set (i := 4)) (fun s1x H1x C1x cl1x fp1x => (pts_1 (t_cmp (pure_cmp (p := fun i j => decide (i < j))).ne o_lt rfl (e_idx (Ok.blk ok) (e_var 4) e_int) e_int))) (fun s1x H1x C1x cl1x fp1x => (EJ.own (e_var 4)))))) e_int) (e_one (e_cmp pure_eq.ne (o_eq ((eqK T).at _) (hr.mono (by decide))) rfl (e_call (Cal.fn ok (ok__law_sum_of T) rfl (hr.mono (by decide)) (bi__law_sum_of T) rfl) (by rfl) T.g__law_sum_of T.F__law_sum_of.kp (a_cons (e_var 0) (a_cons (e_var 3) (a_cons (e_callB pure_len (b_len rfl) (by rfl) T.z_len (by rfl) (e_var 1)) a_nil)))) (e_var 1))))))))
theorem sc__law_functional_holds : FnScope ["_law_columns", "_law_right", "_law_told", "_law_found", "_law_c"] ["_law_columns", "_law_right", "_law_told"] (defScope s__law_functional_holds) := ⟨rfl, rfl, rfl, by decide +kernel, rfl, by decide +kernel, by decide +kernel⟩
theorem bi__law_functional_holds {P : Program} {mg : Str → Option Value} {G : Gam} {A : Ad} (T : Tx P mg G A) : Binds G.K A.d__law_functional_holds ["_law_columns", "_law_right", "_law_told"] [] := T.F__law_functional_holds.bindsN fun _ _ _ _ _ _ us hl => match us, hl with | [_, _, _], _ => rfl
theorem ok__law_functional_holds {P : Program} {w : World} {mg : Str → Option Value} {base : Heap} {G : Gam} {A : Ad} (T : Tx P mg G A) : FnOk P w G.K mg base (L2.CX P w) 10 A.a__law_functional_holds A.d__law_functional_holds ["_law_columns", "_law_right", "_law_told"] (spM G m__law_functional_holds 3) :=
  def_okX (k := 9) (N := ["_law_columns", "_law_right", "_law_told", "_law_found", "_law_c"]) (b := b__law_functional_holds) (ω' := List.replicate 5 0) T.F__law_functional_holds sc__law_functional_holds rfl rfl rfl fun cdv A2 outer s H E th hr ok hp => (ss_cons (s_if trivial (t_not (t_val (e_call (Cal.fn ok (ok__law_are_ratios T) rfl (hr.mono (by decide)) (bi__law_are_ratios T) rfl) (by rfl) T.g__law_are_ratios T.F__law_are_ratios.kp (a_cons (e_var 2) (a_cons (e_callB pure_len (b_len rfl) (by rfl) T.z_len (by rfl) (e_var 1)) a_nil))))) (ss_one (s_retE trivial e_bl)) ss_nil)
    (ss_cons (s_wipe [2] (s_set trivial 3 ok (e_call (Cal.fn ok (ok__law_pairs_of T) rfl (hr.mono (by decide)) (bi__law_pairs_of T) rfl) (by rfl) T.g__law_pairs_of T.F__law_pairs_of.kp (a_cons (e_var 2) a_nil))))
    (ss_one (s_retE trivial (e_and (e_cmp pure_eq.ne (o_eq ((eqK T).at _) (hr.mono (by decide))) rfl (e_callB pure_len (b_len rfl) (by rfl) T.z_len (by rfl) (OJ.val (o_comp ok (src_seq ok (e_var 0)) (blkOk_by (own := [("_law_c", 4)]) (by kernel_rfl)) (fun s1x H1x C1x cl1x fp1x => (pg_name (i := 4) (Ok.blk ok).nd (by rfl) (by first | exact Or.inl rfl | exact Or.inr rfl) (by first | exact .inl rfl | exact .inr rfl))) (gs_set (i := 4)) (fun s1x H1x C1x cl1x fp1x => (pts_1 (t_val (e_call (Cal.fn (Ok.blk ok) (ok__law_is_above T) rfl (hr.mono (by decide)) (bi__law_is_above T) rfl) (by rfl) T.g__law_is_above T.F__law_is_above.kp (a_cons (e_call (Cal.fn (Ok.blk ok) (ok__law_dot T) rfl (hr.mono (by decide)) (bi__law_dot T) rfl) (by rfl) T.g__law_dot T.F__law_dot.kp (a_cons (e_var 3) (a_cons (e_var 4) a_nil))) a_nil))))) (fun s1x H1x C1x cl1x fp1x => (EJ.own (e_var 4)))))) e_int) (e_one (e_call (Cal.fn ok (ok__law_is_above T) rfl (hr.mono (by decide)) (bi__law_is_above T) rfl) (by rfl) T.g__law_is_above T.F__law_is_above.kp (a_cons (e_call (Cal.fn ok (ok__law_dot T) rfl (hr.mono (by decide)) (bi__law_dot T) rfl) (by rfl) T.g__law_dot T.F__law_dot.kp (a_cons (e_var 3) (a_cons (e_var 1) a_nil))) a_nil))))))))
theorem sc_law : FnScope ["_law_script", "_law_state_here", "_law_size", "_law_columns", "_law_k", "_law_kind", "_law_right", "_law_weights", "_law_c", "_law_functional", "_law_x", "_law_told", "_law_again"] ["_law_script"] (defScope s_law) := ⟨rfl, rfl, rfl, by decide +kernel, rfl, by decide +kernel, by decide +kernel⟩
theorem ok_law {P : Program} {w : World} {mg : Str → Option Value} {base : Heap} {G : Gam} {A : Ad} (T : Tx P mg G A) (hb : ∀ s : DS, ∃ ρ' s', b_law__29 (none :: some .st :: List.replicate 11 none) s = .go (.rt (.bl true)) ρ' s') : FnOk P w G.K mg base (L2.CX P w) 11 A.a_law A.d_law ["_law_script"] (spLaw G.K) :=
  law_ok (k := 10) (m := 11) (b := b_law__29) (N := ["_law_script", "_law_state_here", "_law_size", "_law_columns", "_law_k", "_law_kind", "_law_right", "_law_weights", "_law_c", "_law_functional", "_law_x", "_law_told", "_law_again"]) (ω' := List.replicate 13 0) T.F_law sc_law rfl rfl
    (fun cdv A2 outer s H E hr tk => ps_set (i := 1) sc_law.nd rfl (by first | exact Or.inl rfl | exact Or.inr rfl | exact Or.inr (Or.inl rfl) | exact Or.inr (Or.inr rfl)) (pe_callS (E := fun _ => E) (ok__law_state T) (hr.mono (by decide)) (by rfl) T.g__law_state T.F__law_state.kp (bi__law_state T) (fun σ => passAt tk σ) (pa_cons (pe_var (i := 0) rfl (Or.inl rfl)) pa_nil)))
    (fun cdv A2 outer s H H1 E p hr ok hp => (ss_cons (s_set trivial 2 ok (e_call (Cal.fn ok (ok__law_take T) rfl (hr.mono (by decide)) (bi__law_take T) rfl) (by rfl) T.g__law_take T.F__law_take.kp (a_cons (e_var 1) (a_cons e_int a_nil))))
    (ss_cons (s_setCO (k := 0) trivial 3 ok (src_r1 (by rfl) T.z_range (e_call (Cal.fn ok (ok__law_take T) rfl (hr.mono (by decide)) (bi__law_take T) rfl) (by rfl) T.g__law_take T.F__law_take.kp (a_cons (e_var 1) (a_cons e_int a_nil)))) (blkOk_by (own := [("_law_k", 4)]) (by kernel_rfl)) (fun s1x H1x C1x cl1x fp1x => (pg_name (i := 4) (Ok.blk ok).nd (by rfl) (by first | exact Or.inl rfl | exact Or.inr rfl) (by first | exact .inl rfl | exact .inr rfl))) (gs_set (i := 4)) (fun s1x H1x C1x cl1x fp1x => pts_none) (fun s1x H1x C1x cl1x fp1x => (EJ.own (e_call (Cal.fn (Ok.blk ok) (ok__law_row T) rfl (hr.mono (by decide)) (bi__law_row T) rfl) (by rfl) T.g__law_row T.F__law_row.kp (a_cons (e_var 1) (a_cons (e_var 2) a_nil))))) (sw_true rfl rfl rfl (by decide +kernel)))
    (ss_cons (s_set trivial 5 ok (e_call (Cal.fn ok (ok__law_take T) rfl (hr.mono (by decide)) (bi__law_take T) rfl) (by rfl) T.g__law_take T.F__law_take.kp (a_cons (e_var 1) (a_cons e_int a_nil))))
    (ss_cons (s_set trivial 6 ok (e_call (Cal.fn ok (ok__law_row T) rfl (hr.mono (by decide)) (bi__law_row T) rfl) (by rfl) T.g__law_row T.F__law_row.kp (a_cons (e_var 1) (a_cons (e_var 2) a_nil))))
    (ss_ifD trivial (t_cmp pure_eq.ne (o_eq ((eqK T).at _) (hr.mono (by decide))) rfl (e_var 5) e_int) (ss_freeze 3 (ss_cons (s_setC trivial 7 ok (src_seq ok (e_var 3)) (blkOk_by (own := [("_law_c", 8)]) (by kernel_rfl)) (fun s1x H1x C1x cl1x fp1x => (pg_name (i := 8) (Ok.blk ok).nd (by rfl) (by first | exact Or.inl rfl | exact Or.inr rfl) (by first | exact .inl rfl | exact .inr rfl))) (gs_set (i := 8)) (fun s1x H1x C1x cl1x fp1x => pts_none) (fun s1x H1x C1x cl1x fp1x => (EJ.own (e_call (Cal.fn (Ok.blk ok) (ok__law_frac T) rfl (hr.mono (by decide)) (bi__law_frac T) rfl) (by rfl) T.g__law_frac T.F__law_frac.kp (a_cons (e_call (Cal.fn (Ok.blk ok) (ok__law_take T) rfl (hr.mono (by decide)) (bi__law_take T) rfl) (by rfl) T.g__law_take T.F__law_take.kp (a_cons (e_var 1) (a_cons e_int a_nil))) (a_cons (e_bin pure_addL.ne (o_addL rfl) e_int (e_call (Cal.fn (Ok.blk ok) (ok__law_take T) rfl (hr.mono (by decide)) (bi__law_take T) rfl) (by rfl) T.g__law_take T.F__law_take.kp (a_cons (e_var 1) (a_cons e_int a_nil)))) a_nil))))) (sw_true rfl rfl rfl (by decide +kernel)))
    (ss_one (s_wipe [7] (s_set trivial 6 ok (e_call (Cal.fn ok (ok__law_sum_of T) rfl (hr.mono (by decide)) (bi__law_sum_of T) rfl) (by rfl) T.g__law_sum_of T.F__law_sum_of.kp (a_cons (e_var 3) (a_cons (e_var 7) (a_cons (e_var 2) a_nil)))))))))
    (ss_cons (s_wipe [2] (s_set trivial 9 ok (e_call (Cal.fn ok (ok__law_row T) rfl (hr.mono (by decide)) (bi__law_row T) rfl) (by rfl) T.g__law_row T.F__law_row.kp (a_cons (e_var 1) (a_cons (e_var 2) a_nil)))))
    (ss_cons (s_if trivial (PW.pt (w_and (t_cmp pure_eq.ne (o_eq ((eqK T).at _) (hr.mono (by decide))) rfl (e_var 5) e_int) (w_and1 (t_val (e_call (Cal.fn ok (ok__law_is_above T) rfl (hr.mono (by decide)) (bi__law_is_above T) rfl) (by rfl) T.g__law_is_above T.F__law_is_above.kp (a_cons (e_call (Cal.fn ok (ok__law_dot T) rfl (hr.mono (by decide)) (bi__law_dot T) rfl) (by rfl) T.g__law_dot T.F__law_dot.kp (a_cons (e_var 9) (a_cons (e_var 9) a_nil))) a_nil)))))) ss_never (ss_wipe [9] (ss_one (s_if trivial (t_cmp pure_eq.ne (o_eq ((eqK T).at _) (hr.mono (by decide))) rfl (e_var 5) e_int) (ss_one (s_set trivial 5 ok e_int)) ss_nil))))
    (ss_cons (s_set trivial 11 ok (e_call (Cal.fn ok (ok_feasible T) rfl (hr.mono (by decide)) (bi_feasible T) rfl) (by rfl) T.g_feasible T.F_feasible.kp (a_cons (OJ.val (o_comp ok (src_seq ok (e_var 3)) (blkOk_by (own := [("_law_c", 8)]) (by kernel_rfl)) (fun s1x H1x C1x cl1x fp1x => (pg_name (i := 8) (Ok.blk ok).nd (by rfl) (by first | exact Or.inl rfl | exact Or.inr rfl) (by first | exact .inl rfl | exact .inr rfl))) (gs_set (i := 8)) (fun s1x H1x C1x cl1x fp1x => pts_none) (fun s1x H1x C1x cl1x fp1x => (EJ.own (e_call (Cal.fn (Ok.blk ok) (ok__law_ratio_row T) rfl (hr.mono (by decide)) (bi__law_ratio_row T) rfl) (by rfl) T.g__law_ratio_row T.F__law_ratio_row.kp (a_cons (e_var 8) a_nil)))))) (a_cons (e_call (Cal.fn ok (ok__law_ratio_row T) rfl (hr.mono (by decide)) (bi__law_ratio_row T) rfl) (by rfl) T.g__law_ratio_row T.F__law_ratio_row.kp (a_cons (e_var 6) a_nil)) a_nil))))
    (ss_cons (s_if trivial (PW.pt (w_or (t_not (t_val (e_isi ok (T.isk.at _) (t := .tuple) (by intro _ h; cases h) (e_var 11) (tg_bltn (t := .tuple) rfl (by rfl) T.z_tuple (by rfl)) (by rfl) T.z_isinstance (by rfl)))) (w_or1 (t_cmp pure_ne.ne (o_ne ((eqK T).at _) (hr.mono (by decide))) rfl (e_callB pure_len (b_len rfl) (by rfl) T.z_len (by rfl) (e_var 11)) e_int)))) (ss_one (s_retE trivial e_bl)) ss_nil)
    (ss_cons (s_if trivial (t_cmp pure_eq.ne (o_eq ((eqK T).at _) (hr.mono (by decide))) rfl (e_idx ok (e_var 11) e_int) e_str) (ss_one (s_if trivial (PW.pt (w_or (t_not (t_val (e_call (Cal.fn ok (ok__law_weights_hold T) rfl (hr.mono (by decide)) (bi__law_weights_hold T) rfl) (by rfl) T.g__law_weights_hold T.F__law_weights_hold.kp (a_cons (e_var 3) (a_cons (e_var 6) (a_cons (e_idx ok (e_var 11) e_int) a_nil)))))) (w_or1 (t_cmp pure_eq.ne (o_eq ((eqK T).at _) (hr.mono (by decide))) rfl (e_var 5) e_int)))) (ss_one (s_retE trivial e_bl)) (ss_wipe [5] ss_nil))) (ss_one (s_if trivial (PW.pt (w_or (t_cmp pure_ne.ne (o_ne ((eqK T).at _) (hr.mono (by decide))) rfl (e_idx ok (e_var 11) e_int) e_str) (w_or (t_not (t_val (e_call (Cal.fn ok (ok__law_functional_holds T) rfl (hr.mono (by decide)) (bi__law_functional_holds T) rfl) (by rfl) T.g__law_functional_holds T.F__law_functional_holds.kp (a_cons (e_var 3) (a_cons (e_var 6) (a_cons (e_idx ok (e_var 11) e_int) a_nil)))))) (w_or1 (t_cmp pure_eq.ne (o_eq ((eqK T).at _) (hr.mono (by decide))) rfl (e_var 5) e_int))))) (ss_one (s_retE trivial e_bl)) (ss_wipe [5] ss_nil))))
    (ss_cons (s_wipe [3, 6] (s_set trivial 12 ok (e_call (Cal.fn ok (ok_feasible T) rfl (hr.mono (by decide)) (bi_feasible T) rfl) (by rfl) T.g_feasible T.F_feasible.kp (a_cons (e_callT pure_tupOf (b_tupOf rfl) (by rfl) T.z_tuple (by rfl) (OJ.val (o_comp ok (src_seq ok (e_var 3)) (blkOk_by (own := [("_law_c", 8)]) (by kernel_rfl)) (fun s1x H1x C1x cl1x fp1x => (pg_name (i := 8) (Ok.blk ok).nd (by rfl) (by first | exact Or.inl rfl | exact Or.inr rfl) (by first | exact .inl rfl | exact .inr rfl))) (gs_set (i := 8)) (fun s1x H1x C1x cl1x fp1x => pts_none) (fun s1x H1x C1x cl1x fp1x => (EJ.own (e_call (Cal.fn (Ok.blk ok) (ok__law_ratio_row T) rfl (hr.mono (by decide)) (bi__law_ratio_row T) rfl) (by rfl) T.g__law_ratio_row T.F__law_ratio_row.kp (a_cons (e_var 8) a_nil))))))) (a_cons (e_call (Cal.fn ok (ok__law_ratio_row T) rfl (hr.mono (by decide)) (bi__law_ratio_row T) rfl) (by rfl) T.g__law_ratio_row T.F__law_ratio_row.kp (a_cons (e_var 6) a_nil)) a_nil)))))
    (ss_one (s_retE trivial (e_and (e_isi ok (T.isk.at _) (t := .tuple) (by intro _ h; cases h) (e_var 12) (tg_bltn (t := .tuple) rfl (by rfl) T.z_tuple (by rfl)) (by rfl) T.z_isinstance (by rfl)) (e_and (e_cmp pure_eq.ne (o_eq ((eqK T).at _) (hr.mono (by decide))) rfl (e_callB pure_len (b_len rfl) (by rfl) T.z_len (by rfl) (e_var 12)) e_int) (e_one (e_cmp pure_eq.ne (o_eq ((eqK T).at _) (hr.mono (by decide))) rfl (e_idx ok (e_var 12) e_int) (e_idx ok (e_var 11) e_int)))))))))))))
    (ss_cons (s_wipe [2] (s_set trivial 9 ok (e_call (Cal.fn ok (ok__law_row T) rfl (hr.mono (by decide)) (bi__law_row T) rfl) (by rfl) T.g__law_row T.F__law_row.kp (a_cons (e_var 1) (a_cons (e_var 2) a_nil)))))
    (ss_cons (s_if trivial (PW.pt (w_and (t_cmp pure_eq.ne (o_eq ((eqK T).at _) (hr.mono (by decide))) rfl (e_var 5) e_int) (w_and1 (t_val (e_call (Cal.fn ok (ok__law_is_above T) rfl (hr.mono (by decide)) (bi__law_is_above T) rfl) (by rfl) T.g__law_is_above T.F__law_is_above.kp (a_cons (e_call (Cal.fn ok (ok__law_dot T) rfl (hr.mono (by decide)) (bi__law_dot T) rfl) (by rfl) T.g__law_dot T.F__law_dot.kp (a_cons (e_var 9) (a_cons (e_var 9) a_nil))) a_nil)))))) (ss_cons (s_set trivial 6 ok (e_var 9))
    (ss_one (s_wipe [9] (s_forR1 trivial ok hp (by rfl) T.z_range (e_lenB ok (by rfl) T.z_len (b_var 3 1)) (g_name 4 ok) (ss_one (s_if trivial (t_val (e_call (Cal.fn ok (ok__law_is_above T) rfl (hr.mono (by decide)) (bi__law_is_above T) rfl) (by rfl) T.g__law_is_above T.F__law_is_above.kp (a_cons (e_call (Cal.fn ok (ok__law_dot T) rfl (hr.mono (by decide)) (bi__law_dot T) rfl) (by rfl) T.g__law_dot T.F__law_dot.kp (a_cons (e_var 9) (a_cons (BJ.val0 (b_idx ok (b_var 3 1) (e_var 4))) a_nil))) a_nil))) (ss_one (s_wipe [4] (s_asgT trivial (OJ.val (o_comp ok (src_seq ok (BJ.val0 (b_idx ok (b_var 3 1) (e_var 4)))) (blkOk_by (own := [("_law_x", 10)]) (by kernel_rfl)) (fun s1x H1x C1x cl1x fp1x => (pg_name (i := 10) (Ok.blk ok).nd (by rfl) (by first | exact Or.inl rfl | exact Or.inr rfl) (by first | exact .inl rfl | exact .inr rfl))) (gs_set (i := 10)) (fun s1x H1x C1x cl1x fp1x => pts_none) (fun s1x H1x C1x cl1x fp1x => (EJ.own (e_tup (a_cons (e_un pure_negI.ne o_negI (e_idx (Ok.blk ok) (e_var 10) e_int)) (a_cons (e_idx (Ok.blk ok) (e_var 10) e_int) a_nil))))))) (u_at trivial 3 (e_var 4))))) (ss_wipe [4] ss_nil))))))) (ss_wipe [9] (ss_one (s_if trivial (t_cmp pure_eq.ne (o_eq ((eqK T).at _) (hr.mono (by decide))) rfl (e_var 5) e_int) (ss_one (s_set trivial 5 ok e_int)) ss_nil))))
    (ss_freeze 3 (ss_cons (s_set trivial 11 ok (e_call (Cal.fn ok (ok_feasible T) rfl (hr.mono (by decide)) (bi_feasible T) rfl) (by rfl) T.g_feasible T.F_feasible.kp (a_cons (OJ.val (o_comp ok (src_seq ok (e_var 3)) (blkOk_by (own := [("_law_c", 8)]) (by kernel_rfl)) (fun s1x H1x C1x cl1x fp1x => (pg_name (i := 8) (Ok.blk ok).nd (by rfl) (by first | exact Or.inl rfl | exact Or.inr rfl) (by first | exact .inl rfl | exact .inr rfl))) (gs_set (i := 8)) (fun s1x H1x C1x cl1x fp1x => pts_none) (fun s1x H1x C1x cl1x fp1x => (EJ.own (e_call (Cal.fn (Ok.blk ok) (ok__law_ratio_row T) rfl (hr.mono (by decide)) (bi__law_ratio_row T) rfl) (by rfl) T.g__law_ratio_row T.F__law_ratio_row.kp (a_cons (e_var 8) a_nil)))))) (a_cons (e_call (Cal.fn ok (ok__law_ratio_row T) rfl (hr.mono (by decide)) (bi__law_ratio_row T) rfl) (by rfl) T.g__law_ratio_row T.F__law_ratio_row.kp (a_cons (e_var 6) a_nil)) a_nil))))
    (ss_cons (s_if trivial (PW.pt (w_or (t_not (t_val (e_isi ok (T.isk.at _) (t := .tuple) (by intro _ h; cases h) (e_var 11) (tg_bltn (t := .tuple) rfl (by rfl) T.z_tuple (by rfl)) (by rfl) T.z_isinstance (by rfl)))) (w_or1 (t_cmp pure_ne.ne (o_ne ((eqK T).at _) (hr.mono (by decide))) rfl (e_callB pure_len (b_len rfl) (by rfl) T.z_len (by rfl) (e_var 11)) e_int)))) (ss_one (s_retE trivial e_bl)) ss_nil)
    (ss_cons (s_if trivial (t_cmp pure_eq.ne (o_eq ((eqK T).at _) (hr.mono (by decide))) rfl (e_idx ok (e_var 11) e_int) e_str) (ss_one (s_if trivial (PW.pt (w_or (t_not (t_val (e_call (Cal.fn ok (ok__law_weights_hold T) rfl (hr.mono (by decide)) (bi__law_weights_hold T) rfl) (by rfl) T.g__law_weights_hold T.F__law_weights_hold.kp (a_cons (e_var 3) (a_cons (e_var 6) (a_cons (e_idx ok (e_var 11) e_int) a_nil)))))) (w_or1 (t_cmp pure_eq.ne (o_eq ((eqK T).at _) (hr.mono (by decide))) rfl (e_var 5) e_int)))) (ss_one (s_retE trivial e_bl)) (ss_wipe [5] ss_nil))) (ss_one (s_if trivial (PW.pt (w_or (t_cmp pure_ne.ne (o_ne ((eqK T).at _) (hr.mono (by decide))) rfl (e_idx ok (e_var 11) e_int) e_str) (w_or (t_not (t_val (e_call (Cal.fn ok (ok__law_functional_holds T) rfl (hr.mono (by decide)) (bi__law_functional_holds T) rfl) (by rfl) T.g__law_functional_holds T.F__law_functional_holds.kp (a_cons (e_var 3) (a_cons (e_var 6) (a_cons (e_idx ok (e_var 11) e_int) a_nil)))))) (w_or1 (t_cmp pure_eq.ne (o_eq ((eqK T).at _) (hr.mono (by decide))) rfl (e_var 5) e_int))))) (ss_one (s_retE trivial e_bl)) (ss_wipe [5] ss_nil))))
    (ss_cons (s_wipe [3, 6] (s_set trivial 12 ok (e_call (Cal.fn ok (ok_feasible T) rfl (hr.mono (by decide)) (bi_feasible T) rfl) (by rfl) T.g_feasible T.F_feasible.kp (a_cons (e_callT pure_tupOf (b_tupOf rfl) (by rfl) T.z_tuple (by rfl) (OJ.val (o_comp ok (src_seq ok (e_var 3)) (blkOk_by (own := [("_law_c", 8)]) (by kernel_rfl)) (fun s1x H1x C1x cl1x fp1x => (pg_name (i := 8) (Ok.blk ok).nd (by rfl) (by first | exact Or.inl rfl | exact Or.inr rfl) (by first | exact .inl rfl | exact .inr rfl))) (gs_set (i := 8)) (fun s1x H1x C1x cl1x fp1x => pts_none) (fun s1x H1x C1x cl1x fp1x => (EJ.own (e_call (Cal.fn (Ok.blk ok) (ok__law_ratio_row T) rfl (hr.mono (by decide)) (bi__law_ratio_row T) rfl) (by rfl) T.g__law_ratio_row T.F__law_ratio_row.kp (a_cons (e_var 8) a_nil))))))) (a_cons (e_call (Cal.fn ok (ok__law_ratio_row T) rfl (hr.mono (by decide)) (bi__law_ratio_row T) rfl) (by rfl) T.g__law_ratio_row T.F__law_ratio_row.kp (a_cons (e_var 6) a_nil)) a_nil)))))
    (ss_one (s_retE trivial (e_and (e_isi ok (T.isk.at _) (t := .tuple) (by intro _ h; cases h) (e_var 12) (tg_bltn (t := .tuple) rfl (by rfl) T.z_tuple (by rfl)) (by rfl) T.z_isinstance (by rfl)) (e_and (e_cmp pure_eq.ne (o_eq ((eqK T).at _) (hr.mono (by decide))) rfl (e_callB pure_len (b_len rfl) (by rfl) T.z_len (by rfl) (e_var 12)) e_int) (e_one (e_cmp pure_eq.ne (o_eq ((eqK T).at _) (hr.mono (by decide))) rfl (e_idx ok (e_var 12) e_int) (e_idx ok (e_var 11) e_int)))))))))))))))))))) hb
end LK
set_option maxHeartbeats 4000000
namespace PR
open PySem PySem.Spec PyProof.Rows L2 PL MB
theorem w_take (m : Int) (hm : 0 < m) (hd : okDiv m = true) (s : DS) : ∃ r s', 0 ≤ r ∧ r < m ∧ m__law_take [.st, .int m] s = .ok (.int r) s' := by
  by_cases h : 0 < s.1
  · refine ⟨s.1 % m, (s.1 / m, s.2), Int.emod_nonneg _ (by omega), Int.emod_lt_of_pos _ hm, ?_⟩
    simp only [m__law_take, b__law_take, evX, d_st0, h, hm, hd, decide_true]
  · refine ⟨(s.2 * 48271 + 11) % 2147483647 / 7 % m, (s.1, (s.2 * 48271 + 11) % 2147483647), Int.emod_nonneg _ (by omega), Int.emod_lt_of_pos _ hm, ?_⟩
    have h7 : okDiv 7 = true := by decide
    have hp : (0 : Int) < 2147483647 := by decide
    have k : okMul s.2 48271 = true := okMul_small _ (by decide)
    simp only [m__law_take, b__law_take, evX, d_st0, d_st1, h, hm, h7, hp, k, decide_false, Nat.one_ne_zero]
theorem okDiv_nat {n : Nat} (h : 0 < n) (h2 : n < 1000000) : okDiv (n : Int) = true := by
  unfold okDiv
  have : (n : Int).natAbs.log2 < 9000 := log_of (k := 20) (by rw [Int.natAbs_natCast]; omega) (by decide)
  rw [Bool.and_eq_true_iff]
  exact ⟨decide_eq_true (by omega), decide_eq_true this⟩
theorem w_takeN (n : Nat) (hn : 0 < n) (h2 : n < 1000000) (s : DS) : ∃ (r : Nat) (s' : DS), r < n ∧ m__law_take [.st, .int n] s = .ok (.int r) s' := by
  obtain ⟨r, s', h0, h1, e⟩ := w_take n (by omega) (okDiv_nat hn h2) s
  exact ⟨r.toNat, s', by omega, by rw [e, Int.toNat_of_nonneg h0]⟩
end PR
set_option maxHeartbeats 4000000
namespace PR
open PL
structure IsMet (n : Nat) (M : Nat → Nat → Int) : Prop where
  diag : ∀ x, x < n → M x x = 0
  sym : ∀ x y, x < n → y < n → M x y = M y x
  pos : ∀ x y, x < n → y < n → x ≠ y → 0 < M x y
  tri : ∀ x y z, x < n → y < n → z < n → M x z ≤ M x y + M y z
theorem IsMet.nn {n : Nat} {M : Nat → Nat → Int} (h : IsMet n M) {x y : Nat} (hx : x < n) (hy : y < n) : 0 ≤ M x y := by
  by_cases e : x = y
  · subst e; rw [h.diag x hx]; exact Int.le_refl 0
  · exact Int.le_of_lt (h.pos x y hx hy e)
structure IsPre (n : Nat) (A : Nat → Nat → Int) : Prop where
  diag : ∀ x, x < n → A x x = 0
  sym : ∀ x y, x < n → y < n → A x y = A y x
  pos : ∀ x y, x < n → y < n → x ≠ y → 0 < A x y
theorem IsPre.nn {n : Nat} {M : Nat → Nat → Int} (h : IsPre n M) {x y : Nat} (hx : x < n) (hy : y < n) : 0 ≤ M x y := by
  by_cases e : x = y
  · subst e; rw [h.diag x hx]; exact Int.le_refl 0
  · exact Int.le_of_lt (h.pos x y hx hy e)
end PR
set_option maxHeartbeats 4000000
namespace PR
open PySem PySem.Spec PyProof.Rows L2 PL MB
end PR
set_option maxHeartbeats 4000000
namespace PR
open PySem PySem.Spec PyProof.Rows L2 PL MB
def sym2 (A : Nat → Nat → Int) (a b : Nat) (v : Int) : Nat → Nat → Int := upd2 (upd2 A a b v) b a v
structure IsStart (n : Nat) (A : Nat → Nat → Int) : Prop extends IsPre n A where
  le : ∀ x y, x < n → y < n → A x y ≤ 10000
theorem sym2_at {A : Nat → Nat → Int} {a b x y : Nat} {v : Int} : sym2 A a b v x y = if (x = b ∧ y = a) ∨ (x = a ∧ y = b) then v else A x y := by
  unfold sym2 upd2
  by_cases h1 : x = b ∧ y = a
  · simp [h1]
  · by_cases h2 : x = a ∧ y = b
    · simp [h2]
    · simp [h1, h2]
theorem IsStart.set {n : Nat} {A : Nat → Nat → Int} (h : IsStart n A) {a b : Nat} {v : Int} (hab : a ≠ b) (hv : 0 < v) (hv2 : v ≤ 10000) : IsStart n (sym2 A a b v) := by
  refine ⟨⟨fun x hx => ?_, fun x y hx hy => ?_, fun x y hx hy hne => ?_⟩, fun x y hx hy => ?_⟩
  · rw [sym2_at, if_neg (by omega)]; exact h.diag x hx
  · rw [sym2_at, sym2_at]
    by_cases c : (x = b ∧ y = a) ∨ (x = a ∧ y = b)
    · rw [if_pos c, if_pos (by omega)]
    · rw [if_neg c, if_neg (by omega)]; exact h.sym x y hx hy
  · rw [sym2_at]
    split
    · exact hv
    · exact h.pos x y hx hy hne
  · rw [sym2_at]
    split
    · exact hv2
    · exact h.le x y hx hy
structure IsDrawn (n : Nat) (M : Nat → Nat → Int) : Prop extends IsMet n M where
  le : ∀ x y, x < n → y < n → M x y ≤ 10000
theorem take_lit {k : Nat} (hk : 0 < k) (h2 : k < 1000000) {i : Int} (hi : i = (k : Int)) (s : DS) : ∃ (r : Nat) (s' : DS), r < k ∧ m__law_take [.st, .int i] s = .ok (.int r) s' := by
  subst hi
  exact w_takeN k hk h2 s
end PR
set_option maxHeartbeats 4000000
namespace PR
open PySem PySem.Spec PyProof.Rows L2 PL MB
end PR
set_option maxHeartbeats 4000000
namespace PR
open PySem PySem.Spec PyProof.Rows L2 PL MB
def cell (q : Nat) : D := .tup [.int ((q : Int) / 4), .int ((q : Int) % 4)]
structure IsBand (f : Int) (x y : Nat) (A : Nat → Nat → Int) : Prop where
  diag : ∀ a, A a a = 0
  sym : ∀ a b, A a b = A b a
  low : ∀ a b, a ≠ b → (a < x ∧ b < x) ∨ (a = x ∧ b < y) ∨ (b = x ∧ a < y) → f ≤ A a b ∧ A a b ≤ f + f
end PR
set_option maxHeartbeats 4000000
namespace PR
open PySem PySem.Spec PyProof.Rows L2 PL MB
def pt (α β : Nat → Nat) (x k : Nat) : Nat := if k = 0 then α x else if k = 1 then β x else x
def lv (L0 L1 L2 : Int) (α β : Nat → Nat) (p q : Nat) : Int := if α p ≠ α q then L2 else if β p ≠ β q then L1 else if p ≠ q then L0 else 0
end PR
set_option maxHeartbeats 4000000
namespace PR
open PySem PySem.Spec PyProof.Rows L2 PL MB
def fac (a b : Nat) : D := .tup [.int a, .int b]
def rt (a b : Nat) (k : Int) : Rat := Rat.divInt (k * a) b
end PR
set_option maxHeartbeats 4000000
namespace PR
open PySem PySem.Spec PyProof.Rows L2 PL MB
structure Fac (a b : Nat) : Prop where
  a1 : 1 ≤ a
  a2 : a ≤ 1000000
  b1 : 1 ≤ b
  b2 : b ≤ 1000000
end PR
set_option maxHeartbeats 4000000
namespace PR
open PySem PySem.Spec PyProof.Rows L2 PL MB
theorem q_self {f : D → D → Option Bool} : ∀ {l : List D}, (∀ x ∈ l, f x x = some true) → eqQs f l l = some true
  | [], _ => rfl
  | x :: l, h => by
    unfold eqQs
    rw [h x List.mem_cons_self]
    exact q_self fun y m => h y (List.mem_cons_of_mem _ m)
theorem q_int (n : Nat) (i : Int) : eqQ n (.int i) (.int i) = some true := by cases n <;> simp [eqQ, flatD, eqF_int]
theorem q_tup {n : Nat} {l : List D} (h : ∀ x ∈ l, eqQ n x x = some true) : eqQ (n + 1) (.tup l) (.tup l) = some true := by simp [eqQ, q_self h]
theorem q_lst {n : Nat} {l : List D} (h : ∀ x ∈ l, eqQ n x x = some true) : eqQ (n + 1) (.lst l) (.lst l) = some true := by simp [eqQ, q_self h]
theorem d_eqS {d : D} (h : eqQ 6 d d = some true) (s : DS) : dEq d d s = .ok (.bl true) s := by
  unfold dEq
  rw [h]; rfl
theorem d_neS {d : D} (h : eqQ 6 d d = some true) (s : DS) : dNe d d s = .ok (.bl false) s := by
  unfold dNe
  rw [h]; rfl
def mxS (a y : Int) : Int := if a < y then y else a
def mnS (a y : Int) : Int := if y < a then y else a
end PR
set_option maxHeartbeats 4000000
namespace PR
open PySem PySem.Spec PyProof.Rows L2 PL MB
section
variable {n : Nat} {M : Nat → Nat → Int} {a b : Nat}
def row (n : Nat) (M : Nat → Nat → Int) (x : Nat) : List Int := (List.range n).map (M x)
end
end PR
set_option maxHeartbeats 4000000
namespace PR
open PL
inductive Wk (M : Nat → Nat → Int) (t : Int) (P : Nat → Prop) : Nat → Nat → Prop
  | one {x y : Nat} : M x y ≤ t → P y → Wk M t P x y
  | cons {x z y : Nat} : M x z ≤ t → P z → Wk M t P z y → Wk M t P x y
theorem Wk.trans {M : Nat → Nat → Int} {t : Int} {P : Nat → Prop} {x y z : Nat} (h : Wk M t P x y) (h2 : Wk M t P y z) : Wk M t P x z := by
  induction h with
  | one a b => exact .cons a b h2
  | cons a b _ ih => exact .cons a b (ih h2)
theorem Wk.mono {M : Nat → Nat → Int} {t : Int} {P Q : Nat → Prop} (hp : ∀ v, P v → Q v) {x y : Nat} (h : Wk M t P x y) : Wk M t Q x y := by
  induction h with
  | one a b => exact .one a (hp _ b)
  | cons a b _ ih => exact .cons a (hp _ b) ih
def st (M : Nat → Nat → Int) : Nat → Nat → Nat → List Nat → Int
  | 0, _, _, _ => 0
  | f + 1, x, y, l => l.foldl (fun b z => if z ≠ y then mnS b (mxS (M x z) (st M f z y (l.filter fun w => !decide (w = z)))) else b) (M x y)
end PR
set_option maxHeartbeats 4000000
namespace MB
open PySem PySem.Spec PyProof.Rows L2 PL
end MB
set_option maxHeartbeats 4000000
namespace PR
open PySem PySem.Spec PyProof.Rows L2 PL MB
def step (n : Nat) (p : List Nat → Nat → Bool) (L : List (List Nat)) : List (List Nat) := L.flatMap fun l => ((List.range n).filter (p l)).map fun y => l ++ [y]
def iter (n : Nat) (p : List Nat → Nat → Bool) : Nat → List (List Nat)
  | 0 => [[]]
  | k + 1 => step n p (iter n p k)
def free (l : List Nat) (y : Nat) : Bool := !decide (y ∈ l)
def good (R : Nat → Nat → Nat → Nat → Bool) (l : List Nat) : Bool := (List.range l.length).all fun x => (List.range x).all fun z => R x z (l.getD x 0) (l.getD z 0)
end PR
set_option maxHeartbeats 4000000
namespace PR
open PySem PySem.Spec PyProof.Rows L2 PL MB
theorem d_addLL {a b : List D} {s : DS} (h : a.length + b.length ≤ 1000000) : dAddL (.lst a) (.lst b) s = .ok (.lst (a ++ b)) s := d_addLG (r := noRat) h
section
variable {n : Nat}
end
end PR
set_option maxHeartbeats 4000000
namespace PR
open PySem PySem.Spec PyProof.Rows L2 PL MB
section
variable {a b : Nat}
end
end PR
set_option maxHeartbeats 4000000
namespace PR
open PySem PySem.Spec PyProof.Rows L2 PL MB
section
variable {n : Nat} {a b : Nat}
end
end PR
set_option maxHeartbeats 4000000
namespace PR
open PySem PySem.Spec PyProof.Rows L2 PL MB
section
variable {n : Nat} {M : Nat → Nat → Int} {a b : Nat}
end
end PR
set_option maxHeartbeats 4000000
namespace PR
open PySem PySem.Spec PyProof.Rows L2 PL MB
section
variable {α : Type}
def insP (p : α → Bool) (S : List α) (b : α) : List α := S.take (S.filter p).length ++ [b] ++ S.drop (S.filter p).length
end
abbrev PB := Int × List Nat
end PR
set_option maxHeartbeats 4000000
namespace MB
open PySem PySem.Spec PyProof.Rows L2 PL
end MB
set_option maxHeartbeats 4000000
namespace PR
open PySem PySem.Spec PyProof.Rows L2 PL MB
section
variable {n : Nat} {M : Nat → Nat → Int} {a b : Nat}
abbrev T3 := Nat × Nat × Nat
def fz (M : Nat → Nat → Int) (x y z : Nat) : Option T3 := if mxS (M x y) (M y z) < M x z then some (x, y, z) else none
def bal (n : Nat) (M : Nat → Nat → Int) (x : Nat) (h : Int) : List Nat := (List.range n).filter fun y => decide (M x y ≤ h)
theorem bal_lt {x : Nat} {h : Int} : ∀ y ∈ bal n M x h, y < n := fun y m => List.mem_range.mp (List.mem_filter.mp m).1
theorem bal_len {x : Nat} {h : Int} : (bal n M x h).length ≤ n := by
  have := List.length_filter_le (fun y => decide (M x y ≤ h)) (List.range n)
  rw [List.length_range] at this
  exact this
def dias (M : Nat → Nat → Int) (B : List Nat) : List Int := B.flatMap fun x => B.map (M x)
def dia (M : Nat → Nat → Int) (B : List Nat) : Int := maxI (dias M B)
end
end PR
set_option maxHeartbeats 4000000
namespace MB
open PySem PySem.Spec PyProof.Rows L2 PL
end MB
set_option maxHeartbeats 4000000
namespace PR
open PySem PySem.Spec PyProof.Rows L2 PL MB
def AscIn (n : Nat) : Nat → List Nat → Prop
  | _, [] => True
  | l, x :: xs => l < x ∧ x < n ∧ AscIn n x xs
structure IsSplit (n : Nat) (l : List Nat) : Prop where
  ne : l ≠ []
  asc : AscIn n 0 l
theorem AscIn.mem {n : Nat} : ∀ {l : List Nat} {a : Nat}, AscIn n a l → ∀ x ∈ l, a < x ∧ x < n
  | [], _, _, x, m => (nomatch m)
  | y :: l, a, ⟨h1, h2, h3⟩, x, m => by
    rcases List.mem_cons.mp m with rfl | m
    · exact ⟨h1, h2⟩
    · have := AscIn.mem h3 x m
      omega
theorem AscIn.of {n : Nat} : ∀ {l : List Nat} {a : Nat}, l.Pairwise (· < ·) → (∀ x ∈ l, a < x ∧ x < n) → AscIn n a l
  | [], _, _, _ => trivial
  | y :: l, a, h, hm => by
    obtain ⟨h1, h2⟩ := List.pairwise_cons.mp h
    exact ⟨(hm y List.mem_cons_self).1, (hm y List.mem_cons_self).2, AscIn.of h2 fun x m => ⟨h1 x m, (hm x (List.mem_cons_of_mem _ m)).2⟩⟩
end PR
set_option maxHeartbeats 4000000
namespace PR
open PySem PySem.Spec PyProof.Rows L2 PL MB
end PR
set_option maxHeartbeats 4000000
namespace PR
open PySem PySem.Spec PyProof.Rows L2 PL MB
structure IsPs (n : Nat) (M : Nat → Nat → Int) (b : Int) : Prop where
  diag : ∀ x, M x x = 0
  sym : ∀ x y, M x y = M y x
  nn : ∀ x y, 0 ≤ M x y
  tri : ∀ x y z, M x z ≤ M x y + M y z
  le : ∀ x y, M x y ≤ b
section
variable {n : Nat}
end
end PR
set_option maxHeartbeats 4000000
namespace PR
open PySem PySem.Spec PyProof.Rows L2 PL MB
end PR
set_option maxHeartbeats 4000000
namespace PR
open PySem PySem.Spec PyProof.Rows L2 PL MB
section
variable {n : Nat} {M : Nat → Nat → Int} {a b : Nat}
def hx (M : Nat → Nat → Int) (l : List Int) (x : Nat) : List Int := (List.range x).map fun y => l.getD x 0 * l.getD y 0 * M x y
end
end PR
set_option maxHeartbeats 4000000
namespace PR
open PySem PySem.Spec PyProof.Rows L2 PL MB
section
variable {n : Nat} {M : Nat → Nat → Int} {a b : Nat}
end
end PR
set_option maxHeartbeats 4000000
namespace PR
open PySem PySem.Spec PyProof.Rows L2 PL MB
theorem gcd_turns : ∀ (n : Nat) (a b : Int) (s : DS), 0 ≤ a → 0 ≤ b → b.toNat < n → ∃ k, WhileN (cTest (cBin dNeF (cVar 1) (cC (.int 0)))) (sPar 0 1 (cVar 1) (cBin dMod (cUn dInt (cVar 0)) (cVar 1))) k [some (.int a), some (.int b)] s (.go .nx [some (.int (Nat.gcd a.natAbs b.natAbs : Nat)), some (.int 0)] s)
  | 0, a, b, s, _, _, h => (Nat.not_lt_zero _ h).elim
  | n + 1, a, b, s, ha, hb, h => by
    have fi : ∀ i : Int, flatD (.int i) = true := fun _ => rfl
    by_cases c : b = 0
    · subst c
      refine ⟨0, ?_⟩
      have e : (Nat.gcd a.natAbs (0 : Int).natAbs : Nat) = a.natAbs := Nat.gcd_zero_right _
      rw [e, show ((a.natAbs : Nat) : Int) = a by omega]
      exact .stop (by simp only [evX, fi, Bool.and_self, eqF_int, decide_true, Bool.not_true])
    · have hb0 : 0 < b := by omega
      have hm0 := Int.emod_nonneg a c
      have hm1 := Int.emod_lt_of_pos a hb0
      obtain ⟨k, w⟩ := gcd_turns n b (a % b) s hb hm0 (by omega)
      have e : Nat.gcd a.natAbs b.natAbs = Nat.gcd b.natAbs (a % b).natAbs := by
        rw [Int.natAbs_emod_of_nonneg ha, Nat.gcd_comm a.natAbs, Nat.gcd_rec b.natAbs a.natAbs, Nat.gcd_comm]
      rw [e]
      refine ⟨k + 1, .turn (s1 := s) (fl := .nx) (ρ2 := [some (.int b), some (.int (a % b))]) (s2 := s) ?_ ?_ (.inl rfl) w⟩
      · simp only [evX, fi, Bool.and_self, eqF_int, c, decide_false, Bool.not_false]
      · simp only [evX, hb0]
theorem w_lawgcd (a b : Int) (s : DS) : m__law_gcd [.int a, .int b] s = .ok (.int (Nat.gcd a.natAbs b.natAbs : Nat)) s := by
  obtain ⟨k, w⟩ := gcd_turns (b.natAbs + 1) a.natAbs b.natAbs s (by omega) (by omega) (by omega)
  have e := sWhile_eq w
  rw [Int.natAbs_natCast, Int.natAbs_natCast] at e
  have e' : sWhile (cTest (cBin dNeF (cVar 1) (cC (.int 0)))) l1__law_gcd [some (.int (a.natAbs : Nat)), some (.int (b.natAbs : Nat))] s = .go .nx [some (.int (Nat.gcd a.natAbs b.natAbs : Nat)), some (.int 0)] s := e
  simp only [m__law_gcd, b__law_gcd, evX, e']
theorem w_lawfrac (n d : Int) (hd : 0 < d) (hl : d.natAbs.log2 < 9000) (s : DS) : m__law_frac [.int n, .int d] s = .ok (ratT (Rat.divInt n d)) s := by
  obtain ⟨e1, e2⟩ := divInt_parts (n := n) hd
  have c : decide (d < 0) = false := decide_eq_false (by omega)
  have k : okDiv (Nat.gcd n.natAbs d.natAbs : Nat) = true := by
    unfold okDiv
    rw [Bool.and_eq_true_iff]
    exact ⟨decide_eq_true (gcd_pos_of (by omega)), decide_eq_true (gcd_log (by omega) hl)⟩
  have l2 : (0 + 1 + 1 ≤ 1000000) := by decide
  simp only [m__law_frac, b__law_frac, evX, c, w_lawgcd, k, l2]
  unfold ratT
  rw [e1, e2]
end PR
set_option maxHeartbeats 4000000
namespace PR
open PySem PySem.Spec PyProof.Rows L2 PL
def dE (r : Nat → Rat) : List Nat → (List Nat → Rat) → Rat
  | [], _ => 0
  | c :: cs, G => r c * G cs - dE r cs (fun rest => G (c :: rest))
def dt : List (Nat → Rat) → List Nat → Rat
  | [], _ => 1
  | r :: L, cs => dE r cs (dt L)
theorem dE_congr {r q : Nat → Rat} : ∀ {cs : List Nat} {G G' : List Nat → Rat}, (∀ c ∈ cs, r c = q c) → (∀ rest : List Nat, rest.length + 1 = cs.length → (∀ c ∈ rest, c ∈ cs) → G rest = G' rest) → dE r cs G = dE q cs G'
  | [], G, G', _, _ => rfl
  | c :: cs, G, G', h1, h2 => by
    show r c * G cs - _ = q c * G' cs - _
    rw [h1 c List.mem_cons_self, h2 cs rfl fun x m => List.mem_cons_of_mem _ m]
    rw [dE_congr (cs := cs) (G := fun rest => G (c :: rest)) (G' := fun rest => G' (c :: rest)) (fun x m => h1 x (List.mem_cons_of_mem _ m)) fun rest hl hm => h2 (c :: rest) (by rw [List.length_cons, List.length_cons, hl]) fun x mx => by
      rcases List.mem_cons.mp mx with rfl | mx
      · exact List.mem_cons_self
      · exact List.mem_cons_of_mem _ (hm x mx)]
theorem dE_linG (r : Nat → Rat) (x y : Rat) : ∀ (cs : List Nat) (G H : List Nat → Rat), dE r cs (fun l => x * G l + y * H l) = x * dE r cs G + y * dE r cs H
  | [], G, H => by show (0 : Rat) = x * 0 + y * 0; grind
  | c :: cs, G, H => by
    have ih := dE_linG r x y cs (fun rest => G (c :: rest)) (fun rest => H (c :: rest))
    show r c * (x * G cs + y * H cs) - dE r cs (fun rest => x * G (c :: rest) + y * H (c :: rest)) = x * (r c * G cs - dE r cs (fun rest => G (c :: rest))) + y * (r c * H cs - dE r cs (fun rest => H (c :: rest)))
    rw [ih]
    grind
theorem dE_lin (r q : Nat → Rat) (x y : Rat) : ∀ (cs : List Nat) (G : List Nat → Rat), dE (fun c => x * r c + y * q c) cs G = x * dE r cs G + y * dE q cs G
  | [], G => by show (0 : Rat) = x * 0 + y * 0; grind
  | c :: cs, G => by
    have ih := dE_lin r q x y cs (fun rest => G (c :: rest))
    show (x * r c + y * q c) * G cs - dE (fun c => x * r c + y * q c) cs (fun rest => G (c :: rest)) = x * (r c * G cs - dE r cs (fun rest => G (c :: rest))) + y * (q c * G cs - dE q cs (fun rest => G (c :: rest)))
    rw [ih]
    grind
theorem dE_smulG (r : Nat → Rat) (x : Rat) (cs : List Nat) (G : List Nat → Rat) : dE r cs (fun l => x * G l) = x * dE r cs G := by
  have := dE_linG r x 0 cs G G
  have e : (fun l => x * G l + 0 * G l) = fun l => x * G l := by funext l; grind
  rw [e] at this
  rw [this]
  grind
theorem dE_zero (r : Nat → Rat) (cs : List Nat) : dE r cs (fun _ => 0) = 0 := by
  have := dE_smulG r 0 cs (fun _ => 0)
  have e : (fun _ : List Nat => (0 : Rat) * 0) = fun _ => 0 := by funext l; grind
  rw [e] at this
  rw [this]
  grind
theorem dE_alt (r q : Nat → Rat) : ∀ (cs : List Nat) (G : List Nat → Rat), dE r cs (fun l => dE q l G) = - dE q cs (fun l => dE r l G)
  | [], G => by show (0 : Rat) = - 0; grind
  | c :: cs, G => by
    have ih := dE_alt r q cs (fun rest => G (c :: rest))
    have e1 : ∀ p q : Nat → Rat, dE p cs (fun rest => dE q (c :: rest) G) = q c * dE p cs G - dE p cs (fun rest => dE q rest fun l => G (c :: l)) := fun p q => by
      have := dE_linG p (q c) (-1) cs G (fun rest => dE q rest fun l => G (c :: l))
      have e : (fun l => q c * G l + -1 * dE q l fun l => G (c :: l)) = fun rest => dE q (c :: rest) G := by
        funext l
        show q c * G l + -1 * _ = q c * G l - _
        grind
      rw [e] at this
      rw [this]
      grind
    show r c * dE q cs G - dE r cs (fun rest => dE q (c :: rest) G) = - (q c * dE r cs G - dE q cs (fun rest => dE r (c :: rest) G))
    rw [e1, e1, ih]
    grind
def sg (n : Nat) : Rat := if n % 2 = 1 then -1 else 1
theorem sg_succ (n : Nat) : sg (n + 1) = - sg n := by
  unfold sg
  rcases Nat.mod_two_eq_zero_or_one n with h | h
  · rw [if_pos (by omega), if_neg (by omega)]
  · rw [if_neg (by omega), if_pos (by omega)]
    rfl
theorem dt_front : ∀ (P : List (Nat → Rat)) (r : Nat → Rat) (L : List (Nat → Rat)) (cs : List Nat), dt (P ++ r :: L) cs = sg P.length * dt (r :: (P ++ L)) cs
  | [], r, L, cs => by
    show dt (r :: L) cs = sg 0 * dt (r :: L) cs
    have : sg 0 = 1 := rfl
    rw [this]
    grind
  | p :: P, r, L, cs => by
    have ih := fun cs => dt_front P r L cs
    show dE p cs (dt (P ++ r :: L)) = _
    have e : dt (P ++ r :: L) = fun l => sg P.length * dt (r :: (P ++ L)) l := funext ih
    rw [e, dE_smulG]
    have e2 := dE_alt p r cs (dt (P ++ L))
    show sg P.length * dE p cs (fun l => dE r l (dt (P ++ L))) = sg (P.length + 1) * dE r cs (fun l => dE p l (dt (P ++ L)))
    rw [e2, sg_succ]
    grind
theorem dt_same2 (r : Nat → Rat) (L : List (Nat → Rat)) (cs : List Nat) : dt (r :: r :: L) cs = 0 := by
  have h : dt (r :: r :: L) cs = - dt (r :: r :: L) cs := dE_alt r r cs (dt L)
  grind
theorem dt_same (r : Nat → Rat) (P L : List (Nat → Rat)) (cs : List Nat) : dt (r :: (P ++ r :: L)) cs = 0 := by
  show dE r cs (dt (P ++ r :: L)) = 0
  have e : dt (P ++ r :: L) = fun l => sg P.length * dt (r :: (P ++ L)) l := funext fun cs => dt_front P r L cs
  rw [e, dE_smulG]
  have := dt_same2 r (P ++ L) cs
  have h : dE r cs (dt (r :: (P ++ L))) = 0 := this
  show sg P.length * dE r cs (dt (r :: (P ++ L))) = 0
  rw [h]
  grind
theorem dt_sameP (r : Nat → Rat) (Q L : List (Nat → Rat)) : ∀ (P : List (Nat → Rat)) (cs : List Nat), dt (P ++ r :: (Q ++ r :: L)) cs = 0
  | [], cs => dt_same r Q L cs
  | p :: P, cs => by
    show dE p cs (dt (P ++ r :: (Q ++ r :: L))) = 0
    have e : dt (P ++ r :: (Q ++ r :: L)) = fun _ => 0 := funext fun cs => dt_sameP r Q L P cs
    rw [e, dE_zero]
def les (r : Nat → Rat) (f : Rat) (q : Nat → Rat) : Nat → Rat := fun c => q c - f * r c
theorem dt_lin (q r : Nat → Rat) (f : Rat) (L : List (Nat → Rat)) : ∀ (P : List (Nat → Rat)) (cs : List Nat), dt (P ++ les r f q :: L) cs = dt (P ++ q :: L) cs - f * dt (P ++ r :: L) cs
  | [], cs => by
    show dE (les r f q) cs (dt L) = dE q cs (dt L) - f * dE r cs (dt L)
    have := dE_lin q r 1 (-f) cs (dt L)
    have e : (fun c => 1 * q c + -f * r c) = les r f q := by
      funext c
      show _ = q c - f * r c
      grind
    rw [e] at this
    rw [this]
    grind
  | p :: P, cs => by
    have e : dt (P ++ les r f q :: L) = fun l => 1 * dt (P ++ q :: L) l + -f * dt (P ++ r :: L) l := funext fun l => by
      rw [dt_lin q r f L P l]
      grind
    show dE p cs (dt (P ++ les r f q :: L)) = dE p cs (dt (P ++ q :: L)) - f * dE p cs (dt (P ++ r :: L))
    rw [e, dE_linG]
    grind
theorem dt_congr {α : Type} {f g : α → Nat → Rat} : ∀ {l : List α} {cs : List Nat}, (∀ a ∈ l, ∀ c ∈ cs, f a c = g a c) → dt (l.map f) cs = dt (l.map g) cs
  | [], _, _ => rfl
  | a :: l, cs, h => by
    show dE (f a) cs (dt (l.map f)) = dE (g a) cs (dt (l.map g))
    exact dE_congr (fun c mc => h a List.mem_cons_self c mc) fun rest _ hm => dt_congr fun b mb c mc => h b (List.mem_cons_of_mem _ mb) c (hm c mc)
theorem dt_col0 (c : Nat) : ∀ (L : List (Nat → Rat)) (cs : List Nat), L.length = cs.length + 1 → (∀ q ∈ L, q c = 0) → dt L (c :: cs) = 0
  | [], cs, h, _ => by cases h
  | q :: L, cs, h, hz => by
    show q c * dt L cs - dE q cs (fun rest => dt L (c :: rest)) = 0
    rw [hz q List.mem_cons_self]
    have e : dE q cs (fun rest => dt L (c :: rest)) = dE q cs (fun _ => 0) := dE_congr (fun _ _ => rfl) fun rest hl _ => dt_col0 c L rest (by rw [List.length_cons] at h; omega) fun z mz => hz z (List.mem_cons_of_mem _ mz)
    rw [e, dE_zero]
    grind
theorem dt_first (r : Nat → Rat) (c : Nat) (L : List (Nat → Rat)) (cs : List Nat) (h : L.length = cs.length) (hz : ∀ q ∈ L, q c = 0) : dt (r :: L) (c :: cs) = r c * dt L cs := by
  show r c * dt L cs - dE r cs (fun rest => dt L (c :: rest)) = _
  have e : dE r cs (fun rest => dt L (c :: rest)) = dE r cs (fun _ => 0) := dE_congr (fun _ _ => rfl) fun rest hl _ => dt_col0 c L rest (by omega) hz
  rw [e, dE_zero]
  grind
def clr (r : Nat → Rat) (c : Nat) (q : Nat → Rat) : Nat → Rat := fun x => q x - q c * (r x / r c)
def dEZ (r : Nat → Int) : List Nat → (List Nat → Int) → Int
  | [], _ => 0
  | c :: cs, G => r c * G cs - dEZ r cs (fun rest => G (c :: rest))
def dtZ : List (Nat → Int) → List Nat → Int
  | [], _ => 1
  | r :: L, cs => dEZ r cs (dtZ L)
def qR (r : Nat → Int) : Nat → Rat := fun x => (r x : Rat)
theorem dEZ_cast (r : Nat → Int) : ∀ (cs : List Nat) (G : List Nat → Int), ((dEZ r cs G : Int) : Rat) = dE (qR r) cs (fun l => (G l : Rat))
  | [], G => rfl
  | c :: cs, G => by
    have ih := dEZ_cast r cs (fun rest => G (c :: rest))
    show ((r c * G cs - dEZ r cs (fun rest => G (c :: rest)) : Int) : Rat) = (r c : Rat) * (G cs : Rat) - dE (qR r) cs (fun l => (G (c :: l) : Rat))
    rw [← ih, Rat.intCast_sub, Rat.intCast_mul]
theorem dtZ_cast : ∀ (L : List (Nat → Int)) (cs : List Nat), ((dtZ L cs : Int) : Rat) = dt (L.map qR) cs
  | [], cs => rfl
  | r :: L, cs => by
    show ((dEZ r cs (dtZ L) : Int) : Rat) = dE (qR r) cs (dt (L.map qR))
    rw [dEZ_cast]
    congr 1
    funext l
    exact dtZ_cast L l
end PR
set_option maxHeartbeats 4000000
namespace PR
open PySem PySem.Spec PyProof.Rows L2 PL
def lin (r : Nat → Rat) : List Nat → (Nat → Rat) → Rat
  | [], _ => 0
  | k :: P, x => r k * x k + lin r P x
def qf (A : Nat → Nat → Rat) : List Nat → (Nat → Rat) → Rat
  | [], _ => 0
  | p :: P, x => A p p * x p * x p + 2 * x p * lin (A p) P x + qf A P x
def stp (A : Nat → Nat → Rat) (i : Nat) : Nat → Nat → Rat := fun j k => A j k - A i i * (A j i / A i i) * (A k i / A i i)
structure ESt where
  i : Nat
  c : Rat
  v : Nat → Rat
theorem nd_range {D : List Nat} {n : Nat} (nd : D.Nodup) (h : ∀ i ∈ D, i < n) : D.length ≤ n := by
  have key : ∀ (D R : List Nat), D.Nodup → (∀ i ∈ D, i ∈ R) → D.length ≤ R.length := fun D => by
    induction D with
    | nil => intro R _ _; exact Nat.zero_le _
    | cons a D ih =>
      intro R nd h
      obtain ⟨n1, n2⟩ := List.nodup_cons.mp nd
      have ma := h a List.mem_cons_self
      have := ih (R.erase a) n2 fun i m => (List.mem_erase_of_ne fun e => by subst e; exact n1 m).mpr (h i (List.mem_cons_of_mem _ m))
      rw [List.length_erase_of_mem ma] at this
      have := List.length_pos_of_mem ma
      rw [List.length_cons]
      omega
  have := key D (List.range n) nd fun i m => List.mem_range.mpr (h i m)
  rw [List.length_range] at this
  exact this
def Asc (n : Nat) (P : List Nat) : Prop := P.Pairwise (· < ·) ∧ ∀ p ∈ P, p < n
theorem Asc.nd {n : Nat} {P : List Nat} (h : Asc n P) : P.Nodup := h.1.imp fun q => Nat.ne_of_lt q
end PR
set_option maxHeartbeats 4000000
namespace PR
open PySem PySem.Spec PyProof.Rows L2 PL MB
theorem cut_init (l : List D) : PL.cutD l none (some (-1)) = l.take (l.length - 1) := by
  unfold PL.cutD
  have h1 : HT.sIx l.length 0 none = 0 := rfl
  have h2 : HT.sIx l.length l.length (some (-1)) = l.length - 1 := by
    show (if (-1 : Int) < 0 then ((-1 : Int) + (l.length : Int)).toNat else min (-1 : Int).toNat l.length) = _
    rw [if_pos (by decide)]
    omega
  rw [h1, h2]
  rfl
end PR
set_option maxHeartbeats 4000000
namespace MB
open PySem PySem.Spec PyProof.Rows L2 PL
end MB
set_option maxHeartbeats 4000000
namespace PR
open PySem PySem.Spec PyProof.Rows L2 PL MB
def g3 (p q r : Int) : Int := (srtI [p, q, r]).getD 2 0 - (srtI [p, q, r]).getD 1 0
section
variable {n : Nat} {M : Nat → Nat → Int} {a b : Nat}
def gapI (M : Nat → Nat → Int) (x y u v : Nat) : Int := g3 (M x y + M u v) (M x u + M y v) (M x v + M y u)
end
end PR
set_option maxHeartbeats 4000000
namespace PR
open PySem PySem.Spec PyProof.Rows L2 PL MB
abbrev Qd := Nat × Nat × Nat × Nat
def qv (n x y u : Nat) : List Qd := (List.range' (u + 1) (n - (u + 1))).map fun v => (x, y, u, v)
def qu (n x y : Nat) : List Nat → List Qd := fun us => us.flatMap (qv n x y)
def qy (n x : Nat) : List Nat → List Qd := fun ys => ys.flatMap fun y => qu n x y (List.range' (y + 1) (n - (y + 1)))
def qx (n : Nat) : List Nat → List Qd := fun xs => xs.flatMap fun x => qy n x (List.range' (x + 1) (n - (x + 1)))
def Q4 (n : Nat) : List Qd := qx n (List.range n)
abbrev St4 := Option Qd × Int
def gq (M : Nat → Nat → Int) (q : Qd) : Int := gapI M q.1 q.2.1 q.2.2.1 q.2.2.2
def wst (M : Nat → Nat → Int) (st : St4) (q : Qd) : St4 := if st.1.isNone = true ∨ st.2 < gq M q then (some q, gq M q) else st
def best (n : Nat) (M : Nat → Nat → Int) : St4 := (Q4 n).foldl (wst M) (none, 0)
structure Keep4 (M : Nat → Nat → Int) (l : List Qd) (st : St4) : Prop where
  non : st.1 = none → st.2 = 0 ∧ l = []
  som : ∀ q, st.1 = some q → q ∈ l ∧ st.2 = gq M q
  ge : ∀ q ∈ l, gq M q ≤ st.2
section
variable {n : Nat} {M : Nat → Nat → Int} {a b : Nat}
def g4 : D → En → Option En := gTupD 4 (gsCons (gSet 3) (gsCons (gSet 4) (gsCons (gSet 5) (gsCons (gSet 6) gsNil))))
end
end PR
set_option maxHeartbeats 4000000
namespace PR
open PySem PySem.Spec PyProof.Rows L2 PL MB
end PR
set_option maxHeartbeats 4000000
namespace PR
open PySem PySem.Spec PyProof.Rows L2 PL MB
section
variable {n : Nat} {M : Nat → Nat → Int} {a b : Nat}
def kz (M : Nat → Nat → Int) (x y z : Nat) : Bool := decide (0 ≤ M x y + M y z - M x z)
def ky (n : Nat) (M : Nat → Nat → Int) (x y : Nat) : Bool := decide (M x y = M y x) && (List.range n).all (kz M x y)
def kx (n : Nat) (M : Nat → Nat → Int) (x : Nat) : Bool := decide (M x x = 0) && (List.range n).all (ky n M x)
def kp (n : Nat) (M : Nat → Nat → Int) : Bool := (List.range n).all (kx n M)
end
end PR
set_option maxHeartbeats 4000000
namespace PR
open PySem PySem.Spec PyProof.Rows L2 PL MB
theorem bnd_eq {α β : Type} (m : PL.M α) (f : α → PL.M β) (s : DS) : (M.bnd m f) s = R.bnd (m s) fun a s1 => f a s1 := by
  unfold M.bnd R.bnd
  cases m s <;> rfl
end PR
set_option maxHeartbeats 4000000
namespace PR
open PySem PySem.Spec PyProof.Rows L2 PL MB
section
variable {s : DS} {x : EX} {g : D → En → Option En} {t : En → M Bool}
theorem comp_mapG {α : Type} {ρ0 : En} (h : α → D) (ρa : α → En) (p : α → Bool) (f : α → D) : ∀ (as : List α) (acc : List D), (∀ a ∈ as, g (h a) ρ0 = some (ρa a)) → (∀ a ∈ as, ∀ s, t (ρa a) s = .ok (p a) s) → (∀ a ∈ as, p a = true → ∀ s, x (ρa a) s = .ok (f a) s) →
    compA g t x ρ0 acc (as.map h) s = .ok (.lst (acc ++ (as.filter p).map f)) s
  | [], acc, _, _, _ => by simp [a_compNil]
  | a :: as, acc, h0, h1, h2 => by
    rw [List.map_cons]
    unfold compA
    rw [h0 a List.mem_cons_self]
    show (M.bnd (noErr (t (ρa a))) fun b => if b = true then M.bnd (noErr (x (ρa a))) fun z => compA g t x ρ0 (acc ++ [z]) (as.map h) else compA g t x ρ0 acc (as.map h)) s = _
    unfold M.bnd
    rw [noErr_ok (h1 a List.mem_cons_self s)]
    have ih := fun acc => comp_mapG h ρa p f as acc (fun e m => h0 e (List.mem_cons_of_mem _ m)) (fun e m => h1 e (List.mem_cons_of_mem _ m)) (fun e m => h2 e (List.mem_cons_of_mem _ m))
    cases hp : p a with
    | true =>
      show (M.bnd (noErr (x (ρa a))) fun z => compA g t x ρ0 (acc ++ [z]) (as.map h)) s = _
      unfold M.bnd
      rw [noErr_ok (h2 a List.mem_cons_self hp s)]
      show compA g t x ρ0 (acc ++ [f a]) (as.map h) s = _
      rw [ih]
      simp [hp]
    | false =>
      show compA g t x ρ0 acc (as.map h) s = _
      rw [ih]
      simp [hp]
theorem c_filterG {α : Type} {h : α → D} {as : List α} {ρ0 : En} (ρa : α → En) (p : α → Bool) (f : α → D) (hn : as.length ≤ 1000000) (h0 : ∀ a ∈ as, g (h a) ρ0 = some (ρa a)) (ht : ∀ a ∈ as, ∀ s, t (ρa a) s = .ok (p a) s) (he : ∀ a ∈ as, p a = true → ∀ s, x (ρa a) s = .ok (f a) s) :
    compR g t x ρ0 (as.map h) s = .ok (.lst ((as.filter p).map f)) s := by
  unfold compR
  rw [if_pos (by simpa using hn), comp_mapG h ρa p f _ [] h0 ht he, List.nil_append]
theorem c_mapG {α : Type} {h : α → D} {as : List α} {ρ0 : En} (ρa : α → En) (f : α → D) (hn : as.length ≤ 1000000) (h0 : ∀ a ∈ as, g (h a) ρ0 = some (ρa a)) (he : ∀ a ∈ as, ∀ s, x (ρa a) s = .ok (f a) s) :
    compR g tYesD x ρ0 (as.map h) s = .ok (.lst (as.map f)) s := by
  rw [c_filterG ρa (fun _ => true) f hn h0 (fun a _ s => t_yes) fun a m _ s => he a m s, List.filter_eq_self.mpr (fun _ _ => rfl)]
end
section
variable {n : Nat} {M : Nat → Nat → Int} {a b : Nat}
def leH (p q : PB) : Bool := decide (q.1 ≤ p.1)
def plc (P : List PB) (p : PB) : List PB := insP (leH p) P p
def IsBall (n : Nat) (M : Nat → Nat → Int) (B : List Nat) : Prop := 1 < B.length ∧ ∃ x, x < n ∧ ∃ j, j < n ∧ B = bal n M x (M x j)
theorem IsBall.lt {B : List Nat} (h : IsBall n M B) : ∀ x ∈ B, x < n := by
  obtain ⟨_, x, _, j, _, rfl⟩ := h
  exact bal_lt
theorem IsBall.len {B : List Nat} (h : IsBall n M B) : B.length ≤ n := by
  obtain ⟨_, x, _, j, _, rfl⟩ := h
  exact bal_len
theorem IsBall.ne {B : List Nat} (h : IsBall n M B) : B ≠ [] := by
  intro e
  have := h.1
  rw [e] at this
  exact absurd this (by decide)
def hi1 (M : Nat → Nat → Int) (P : List PB) (B : List Nat) : List PB := plc P (dia M B, B)
end
end PR
set_option maxHeartbeats 4000000
namespace PR
open PySem PySem.Spec PyProof.Rows L2 PL MB
end PR
set_option maxHeartbeats 4000000
namespace PR
open PySem PySem.Spec PyProof.Rows L2 PL MB
theorem map_getD {α : Type} (l : List α) (f : α → D) (d0 : α) : l.map f = rw1 l.length fun i => f (l.getD i d0) := by
  apply List.ext_getElem?
  intro i
  by_cases h : i < l.length
  · rw [rw1_get h, List.getElem?_map, List.getElem?_eq_getElem h, List.getD_eq_getElem?_getD, List.getElem?_eq_getElem h]; rfl
  · rw [List.getElem?_eq_none (by rw [List.length_map]; omega), List.getElem?_eq_none (by rw [rw1_length]; omega)]
theorem ix_mapL {α : Type} {l : List α} {f : α → D} (d0 : α) {k : Nat} (h : k < l.length) (s : DS) : dIdx (.lst (l.map f)) (.int k) s = .ok (f (l.getD k d0)) s := by
  rw [map_getD l f d0]
  exact d_ixL h
theorem getD_in {α : Type} {l : List α} {d0 : α} {k : Nat} (h : k < l.length) : l.getD k d0 ∈ l := by
  rw [List.getD_eq_getElem?_getD, List.getElem?_eq_getElem h]
  exact List.getElem_mem h
section
variable {n : Nat} {a b : Nat} {L : List (List Nat)} {ws : List Int}
end
end PR
set_option maxHeartbeats 4000000
namespace PR
open PySem PySem.Spec PyProof.Rows L2 PL MB
section
variable {n : Nat} {a b : Nat} {M : Nat → Nat → Int}
end
end PR
set_option maxHeartbeats 4000000
namespace PR
open PySem PySem.Spec PyProof.Rows L2 PL MB
section
variable {n : Nat} {a b : Nat} {ws : List Int}
end
end PR
set_option maxHeartbeats 4000000
namespace PR
open PySem PySem.Spec PyProof.Rows L2 PL MB
section
variable {n : Nat} {a b : Nat}
end
end PR
set_option maxHeartbeats 4000000
namespace PR
open PySem PySem.Spec PyProof.Rows L2 PL MB
def dsl (p q : List Int) : List Int := (p.zip q).map fun x => ((x.1 - x.2).natAbs : Int)
def ds (p q : List Int) : Int := (dsl p q).sum
section
variable {n : Nat} {a b : Nat} {M : Nat → Nat → Int}
structure IsRow (a b : Nat) (w : Nat) (RV : List Int → D) (V : Int → D) (p : List Int) : Prop where
  it : itemsOf (RV p) = some (p.map V)
  ok : okIs (RV p) = true
  ty : (Tg.list.has (RV p) || Tg.tuple.has (RV p)) = true
  ln : ∀ s, dLen (RV p) s = .ok (.int w) s
  len : p.length = w
  as : ∀ k ∈ p, ∀ s, m_as_ratio [V k] s = .ok (.rat (rt a b k)) s
theorem a_srcZip {x y : EX} {ρ : En} {s : DS} : srcZip x y ρ s = R.bnd (x ρ s) fun d s1 => R.bnd (y ρ s1) fun e s2 => zipD d e s2 := by
  have h : srcZip x y ρ s = (M.bnd (x ρ) fun d => M.bnd (y ρ) fun e => zipD d e) s := rfl
  rw [h, bnd_eq]
  refine congrArg _ (funext fun d => funext fun s1 => ?_)
  rw [bnd_eq]
end
end PR
set_option maxHeartbeats 4000000
namespace PR
open PySem PySem.Spec PyProof.Rows L2 PL MB
section
variable {n : Nat} {a b : Nat}
end
end PR
set_option maxHeartbeats 4000000
namespace PR
open PySem PySem.Spec PyProof.Rows L2 PL MB
section
variable {n : Nat} {M1 M2 : Nat → Nat → Int} {a b c d : Nat}
end
end PR
set_option maxHeartbeats 4000000
namespace PR
open PySem PySem.Spec PyProof.Rows L2 PL MB
section
variable {n : Nat} {a b : Nat} {M N : Nat → Nat → Int}
theorem IsMet.max (h : IsMet n M) (k : IsMet n N) : IsMet n fun x y => Max.max (M x y) (N x y) :=
  ⟨fun x hx => by rw [h.diag x hx, k.diag x hx]; rfl, fun x y hx hy => by rw [h.sym x y hx hy, k.sym x y hx hy], fun x y hx hy ne => by have := h.pos x y hx hy ne; have := k.pos x y hx hy ne; omega,
   fun x y z hx hy hz => by have := h.tri x y z hx hy hz; have := k.tri x y z hx hy hz; omega⟩
theorem IsMet.scale (h : IsMet n M) {c : Int} (hc : 0 < c) : IsMet n fun x y => c * M x y :=
  ⟨fun x hx => by rw [h.diag x hx, Int.mul_zero], fun x y hx hy => by rw [h.sym x y hx hy], fun x y hx hy ne => Int.mul_pos hc (h.pos x y hx hy ne),
   fun x y z hx hy hz => by rw [← Int.mul_add]; exact Int.mul_le_mul_of_nonneg_left (h.tri x y z hx hy hz) (by omega)⟩
variable {m : Nat}
end
end PR
set_option maxHeartbeats 4000000
namespace PR
open PySem PySem.Spec PyProof.Rows L2 PL MB
end PR
set_option maxHeartbeats 4000000
namespace PR
open PySem PySem.Spec PyProof.Rows L2 PL MB
section
variable {n m : Nat} {a b : Nat} {M N : Nat → Nat → Int}
end
end PR
set_option maxHeartbeats 4000000
namespace PR
open PySem PySem.Spec PyProof.Rows L2 PL MB
section
variable {n m : Nat} {a b : Nat} {M N : Nat → Nat → Int}
variable {v : List Int}
end
end PR
set_option maxHeartbeats 4000000
namespace PR
open PySem PySem.Spec PyProof.Rows L2 PL MB
structure OkRow (L : Nat) (r : D) : Prop where
  ok : okIs r = true
  tg : (Tg.list.has r || Tg.tuple.has r) = true
  len : ∀ s, dLen r s = .ok (.int L) s
  its : ∃ l, itemsOf r = some l ∧ ∀ i ∈ l, ∀ s, m_is_rational [i] s = .ok (.bl true) s
section
variable {d r : D} {L k : Nat}
end
section
variable {n m : Nat} {a b : Nat} {M N : Nat → Nat → Int}
end
end PR
set_option maxHeartbeats 4000000
namespace PR
open PySem PySem.Spec PyProof.Rows L2 PL MB
section
variable {n m : Nat} {a b : Nat} {M N : Nat → Nat → Int}
end
end PR
set_option maxHeartbeats 4000000
namespace PR
open PySem PySem.Spec PyProof.Rows L2 PL MB
def Bits (N D : Nat) (q : Rat) : Prop := q.num.natAbs < 2 ^ N ∧ q.den < 2 ^ D
theorem Bits.fit {N D : Nat} {q : Rat} (h : Bits N D q) (hN : N ≤ 4000) (hD : D ≤ 4000) : fit q = true := by
  unfold PL.fit
  rw [decide_eq_true (Nat.lt_of_lt_of_le h.1 (Nat.pow_le_pow_right (by decide) hN)), decide_eq_true (Nat.lt_of_lt_of_le h.2 (Nat.pow_le_pow_right (by decide) hD))]
  rfl
theorem Bits.mono {N D N' D' : Nat} {q : Rat} (h : Bits N D q) (hN : N ≤ N') (hD : D ≤ D') : Bits N' D' q :=
  ⟨Nat.lt_of_lt_of_le h.1 (Nat.pow_le_pow_right (by decide) hN), Nat.lt_of_lt_of_le h.2 (Nat.pow_le_pow_right (by decide) hD)⟩
theorem Bits.div {N D : Nat} {n d : Int} (hd : 0 < d) (hn : n.natAbs < 2 ^ N) (h2 : d.natAbs < 2 ^ D) : Bits N D (Rat.divInt n d) := by
  obtain ⟨e1, e2⟩ := divInt_parts (n := n) hd
  constructor
  · rw [e1]
    refine Nat.lt_of_le_of_lt ?_ hn
    exact Int.natAbs_ediv_le_natAbs _ _
  · have h3 : ((Rat.divInt n d).den : Int) ≤ d := by
      rw [e2]
      exact Int.ediv_le_self _ (by omega)
    have : (Rat.divInt n d).den ≤ d.natAbs := by omega
    omega
theorem Bits.mul {N D N' D' : Nat} {p q : Rat} (hp : Bits N D p) (hq : Bits N' D' q) : Bits (N + N') (D + D') (p * q) := by
  have e : p * q = Rat.divInt (p.num * q.num) ((p.den * q.den : Nat) : Int) := by
    have h1 := Rat.num_divInt_den p
    have h2 := Rat.num_divInt_den q
    rw [← h1, ← h2, Rat.divInt_mul_divInt, h1, h2]
    push_cast
    rfl
  rw [e]
  refine Bits.div ?_ ?_ ?_
  · have := Nat.mul_pos p.den_pos q.den_pos
    omega
  · rw [Int.natAbs_mul, Nat.pow_add]
    exact Nat.mul_lt_mul'' hp.1 hq.1
  · rw [Int.natAbs_natCast, Nat.pow_add]
    exact Nat.mul_lt_mul'' hp.2 hq.2
theorem Bits.neg {N D : Nat} {p : Rat} (hp : Bits N D p) : Bits N D (-p) := by
  unfold Bits
  rw [Rat.neg_num, Rat.neg_den, Int.natAbs_neg]
  exact hp
theorem Bits.sub {N D N' D' : Nat} {p q : Rat} (hp : Bits N D p) (hq : Bits N' D' q) : Bits (max (N + D') (N' + D) + 1) (D + D') (p - q) := by
  have d1 := p.den_pos
  have d2 := q.den_pos
  have e : p - q = Rat.divInt (p.num * q.den - q.num * p.den) ((p.den * q.den : Nat) : Int) := by
    have h1 := Rat.num_divInt_den p
    have h2 := Rat.num_divInt_den q
    have := Rat.divInt_sub_divInt p.num q.num (show (p.den : Int) ≠ 0 by omega) (show (q.den : Int) ≠ 0 by omega)
    rw [h1, h2] at this
    rw [this]
    push_cast
    rfl
  rw [e]
  refine Bits.div ?_ ?_ ?_
  · have := Nat.mul_pos d1 d2
    omega
  · have a1 : (p.num * (q.den : Int)).natAbs < 2 ^ (N + D') := by
      rw [Int.natAbs_mul, Int.natAbs_natCast, Nat.pow_add]
      exact Nat.mul_lt_mul'' hp.1 hq.2
    have a2 : (q.num * (p.den : Int)).natAbs < 2 ^ (N' + D) := by
      rw [Int.natAbs_mul, Int.natAbs_natCast, Nat.pow_add]
      exact Nat.mul_lt_mul'' hq.1 hp.2
    have b1 : (p.num * (q.den : Int)).natAbs < 2 ^ max (N + D') (N' + D) := Nat.lt_of_lt_of_le a1 (Nat.pow_le_pow_right (by decide) (Nat.le_max_left _ _))
    have b2 : (q.num * (p.den : Int)).natAbs < 2 ^ max (N + D') (N' + D) := Nat.lt_of_lt_of_le a2 (Nat.pow_le_pow_right (by decide) (Nat.le_max_right _ _))
    rw [Nat.pow_succ]
    omega
  · rw [Int.natAbs_natCast, Nat.pow_add]
    exact Nat.mul_lt_mul'' hp.2 hq.2
theorem Bits.one : Bits 1 1 1 := ⟨by decide, by decide⟩
theorem Bits.zero {N D : Nat} (hD : 1 ≤ D) : Bits N D 0 := ⟨Nat.two_pow_pos _, Nat.lt_of_lt_of_le (by decide) (Nat.pow_le_pow_right (by decide) hD)⟩
section
variable {m : Nat}
def rwR (m : Nat) (f : Nat → Rat) : D := .tup (rw1 m fun x => .rat (f x))
def nb : Nat → Nat × Nat
  | 0 => (25, 4)
  | t + 1 => (2 * (nb t).1 + 2 * (nb t).2 + 1, (nb t).1 + 3 * (nb t).2)
def fb : Nat → Nat × Nat
  | 0 => (1, 1)
  | t + 1 => ((fb t).1 + (nb t).1, (fb t).2 + (nb t).2)
end
end PR
set_option maxHeartbeats 4000000
namespace PR
open PySem PySem.Spec PyProof.Rows L2 PL MB
section
variable {n : Nat} {W : Nat → Nat → Rat}
open Classical in
end
def CmW (n N E : Nat) (W : Nat → Nat → Rat) : Prop := ∃ d : Int, 0 < d ∧ d.natAbs < 2 ^ E ∧ ∀ j k, j < n → k < n → ∃ a : Int, a.natAbs < 2 ^ N ∧ W j k = (a : Rat) / (d : Rat)
theorem Bits.quo {N E : Nat} {a d : Int} (hd : 0 < d) (h1 : a.natAbs < 2 ^ N) (h2 : d.natAbs < 2 ^ E) : Bits N E ((a : Rat) / (d : Rat)) := by
  rw [← Rat.divInt_eq_div]
  exact Bits.div hd h1 h2
theorem rpos {d : Int} (h : 0 < d) : (0 : Rat) < (d : Rat) := by
  have : ((0 : Int) : Rat) < (d : Rat) := Rat.intCast_lt_intCast.mpr h
  exact this
theorem rne {d : Int} (h : d ≠ 0) : (d : Rat) ≠ 0 := fun e => h (by
  have : ((d : Int) : Rat) = ((0 : Int) : Rat) := e
  exact Rat.intCast_inj.mp this)
section
variable {n N E i : Nat} {W : Nat → Nat → Rat}
theorem CmW.bits (h : CmW n N E W) {j k : Nat} (hj : j < n) (hk : k < n) : Bits N E (W j k) := by
  obtain ⟨d, hd, he, h⟩ := h
  obtain ⟨a, ha, e⟩ := h j k hj hk
  rw [e]
  exact Bits.quo hd ha he
theorem CmW.mono (h : CmW n N E W) {N' E' : Nat} (hN : N ≤ N') (hE : E ≤ E') : CmW n N' E' W := by
  obtain ⟨d, hd, he, h⟩ := h
  refine ⟨d, hd, Nat.lt_of_lt_of_le he (Nat.pow_le_pow_right (by decide) hE), fun j k hj hk => ?_⟩
  obtain ⟨a, ha, e⟩ := h j k hj hk
  exact ⟨a, Nat.lt_of_lt_of_le ha (Nat.pow_le_pow_right (by decide) hN), e⟩
theorem ia_mul {a b : Int} {N M : Nat} (ha : a.natAbs < 2 ^ N) (hb : b.natAbs < 2 ^ M) : (a * b).natAbs < 2 ^ (N + M) := by
  rw [Int.natAbs_mul, Nat.pow_add]
  exact Nat.mul_lt_mul'' ha hb
theorem ia_sub {a b : Int} {N : Nat} (ha : a.natAbs < 2 ^ N) (hb : b.natAbs < 2 ^ N) : (a - b).natAbs < 2 ^ (N + 1) := by
  rw [Nat.pow_succ]
  omega
end
def elB : Nat → Nat → Nat → Prop
  | 0, N, E => N ≤ 4000 ∧ E ≤ 4000
  | f + 1, N, E => (N + N ≤ 4000 ∧ E + N ≤ 4000) ∧ elB f (2 * N + 1) (E + N)
theorem elB.base : ∀ {f N E : Nat}, elB f N E → N ≤ 4000 ∧ E ≤ 4000
  | 0, _, _, h => h
  | _ + 1, _, _, h => by have := h.1; omega
section
variable {n : Nat}
end
end PR
set_option maxHeartbeats 4000000
namespace PR
open PySem PySem.Spec PyProof.Rows L2 PL MB
def lsum : List Rat → Rat
  | [] => 0
  | x :: l => x + lsum l
def CmL (B E : Nat) (l : List Rat) : Prop := ∃ e : Int, 0 < e ∧ e.natAbs < 2 ^ E ∧ ∀ x ∈ l, ∃ a : Int, a.natAbs < 2 ^ B ∧ x = (a : Rat) / (e : Rat)
theorem quo_add (a b e : Int) : (a : Rat) / (e : Rat) + (b : Rat) / (e : Rat) = ((a + b : Int) : Rat) / (e : Rat) := by
  rw [Rat.intCast_add]
  grind
theorem sum_loop {L : SX} {A0 : Option D} (hL : ∀ (t x : Rat) (s : DS), fit t = true → fit x = true → L [A0, some (.rat t), some (.rat x)] s = .go .nx [A0, some (.rat (t + x)), none] s) {B E : Nat} (hB : B + 10 ≤ 4000) (hE : E ≤ 4000) {e : Int} (he : 0 < e) (heE : e.natAbs < 2 ^ E) :
    ∀ (l : List Rat) (c : Int) (s : DS), c.natAbs + l.length * 2 ^ B < 2 ^ (B + 10) → (∀ x ∈ l, ∃ a : Int, a.natAbs < 2 ^ B ∧ x = (a : Rat) / (e : Rat)) →
      forL (gSet 2) L (l.map D.rat) [A0, some (.rat ((c : Rat) / (e : Rat))), none] s = .go .nx [A0, some (.rat ((c : Rat) / (e : Rat) + lsum l)), none] s ∧ ∃ c' : Int, c'.natAbs < 2 ^ (B + 10) ∧ (c : Rat) / (e : Rat) + lsum l = (c' : Rat) / (e : Rat)
  | [], c, s, hc, _ => by
    have e1 : (c : Rat) / (e : Rat) + lsum [] = (c : Rat) / (e : Rat) := by show _ + 0 = _; grind
    rw [e1]
    exact ⟨rfl, c, by omega, rfl⟩
  | x :: l, c, s, hc, h => by
    obtain ⟨a, ha, rfl⟩ := h x List.mem_cons_self
    rw [List.length_cons, Nat.succ_mul] at hc
    obtain ⟨ih, c', hc', ec⟩ := sum_loop hL hB hE he heE l (c + a) s (by omega) fun y my => h y (List.mem_cons_of_mem _ my)
    have f1 : fit ((c : Rat) / (e : Rat)) = true := (Bits.quo (N := B + 10) he (by omega) heE).fit hB hE
    have f2 : fit ((a : Rat) / (e : Rat)) = true := (Bits.quo (N := B) he ha heE).fit (by omega) hE
    have e1 : (c : Rat) / (e : Rat) + lsum ((a : Rat) / (e : Rat) :: l) = ((c + a : Int) : Rat) / (e : Rat) + lsum l := by
      show _ + (_ + lsum l) = _
      rw [← quo_add]
      grind
    refine ⟨?_, c', hc', by rw [e1]; exact ec⟩
    rw [List.map_cons, fl_cons, e1, ← ih]
    show RS.loop (L [A0, some (.rat ((c : Rat) / (e : Rat))), some (.rat ((a : Rat) / (e : Rat)))] s) _ = _
    rw [hL _ _ _ f1 f2, lp_nx, quo_add]
section
variable {B E : Nat} {l : List Rat}
theorem CmL.sum (h : CmL B E l) (hl : l.length ≤ 1000) : ∃ (e c : Int), 0 < e ∧ e.natAbs < 2 ^ E ∧ c.natAbs < 2 ^ (B + 10) ∧ lsum l = (c : Rat) / (e : Rat) := by
  obtain ⟨e, he, heE, h⟩ := h
  have key : ∀ l : List Rat, (∀ x ∈ l, ∃ a : Int, a.natAbs < 2 ^ B ∧ x = (a : Rat) / (e : Rat)) → ∃ c : Int, c.natAbs ≤ l.length * 2 ^ B ∧ lsum l = (c : Rat) / (e : Rat) := fun l => by
    induction l with
    | nil => intro _; exact ⟨0, by simp, by show (0 : Rat) = ((0 : Int) : Rat) / _; have : ((0 : Int) : Rat) = 0 := rfl; rw [this]; grind⟩
    | cons x l ih =>
      intro h
      obtain ⟨a, ha, rfl⟩ := h x List.mem_cons_self
      obtain ⟨c, hc, e2⟩ := ih fun y my => h y (List.mem_cons_of_mem _ my)
      refine ⟨a + c, by rw [List.length_cons, Nat.succ_mul]; omega, ?_⟩
      show _ + lsum l = _
      rw [e2, quo_add]
  obtain ⟨c, hc, e2⟩ := key l h
  refine ⟨e, c, he, heE, ?_, e2⟩
  refine Nat.lt_of_le_of_lt hc ?_
  have h1 := Nat.two_pow_pos B
  have : l.length * 2 ^ B ≤ 1000 * 2 ^ B := Nat.mul_le_mul_right _ hl
  rw [Nat.pow_add]
  have e10 : (2 : Nat) ^ 10 = 1024 := rfl
  rw [e10]
  omega
theorem CmL.bits (h : CmL B E l) (hl : l.length ≤ 1000) : Bits (B + 10) E (lsum l) := by
  obtain ⟨e, c, he, heE, hc, e2⟩ := h.sum hl
  rw [e2]
  exact Bits.quo he hc heE
theorem CmL.loop (h : CmL B E l) (hB : B + 10 ≤ 4000) (hE : E ≤ 4000) (hl : l.length ≤ 1000) {L : SX} {A0 : Option D} (hL : ∀ (t x : Rat) (s : DS), fit t = true → fit x = true → L [A0, some (.rat t), some (.rat x)] s = .go .nx [A0, some (.rat (t + x)), none] s) (s : DS) :
    forL (gSet 2) L (l.map D.rat) [A0, some (.rat (Rat.divInt 0 1)), none] s = .go .nx [A0, some (.rat (lsum l)), none] s := by
  obtain ⟨e, he, heE, h⟩ := h
  have h1 := Nat.two_pow_pos B
  obtain ⟨q, _⟩ := sum_loop (A0 := A0) hL hB hE he heE l 0 s (by
    have : l.length * 2 ^ B ≤ 1000 * 2 ^ B := Nat.mul_le_mul_right _ hl
    rw [Nat.pow_add]
    have e10 : (2 : Nat) ^ 10 = 1024 := rfl
    rw [e10, Int.natAbs_zero]
    omega) h
  have z : ((0 : Int) : Rat) / (e : Rat) = 0 := by have : ((0 : Int) : Rat) = 0 := rfl; rw [this]; grind
  have z2 : Rat.divInt 0 1 = 0 := by decide
  rw [z] at q
  have z3 : (0 : Rat) + lsum l = lsum l := by grind
  rw [z3] at q
  rw [z2]
  exact q
end
def CmX (n B E : Nat) (x : Nat → Rat) : Prop := ∃ e : Int, 0 < e ∧ e.natAbs < 2 ^ E ∧ ∀ j, j < n → ∃ b : Int, b.natAbs < 2 ^ B ∧ x j = (b : Rat) / (e : Rat)
theorem CmX.bits {n B E : Nat} {x : Nat → Rat} (h : CmX n B E x) {j : Nat} (hj : j < n) : Bits B E (x j) := by
  obtain ⟨e, he, heE, h⟩ := h
  obtain ⟨b, hb, e2⟩ := h j hj
  rw [e2]
  exact Bits.quo he hb heE
theorem CmX.mono {n B E B' E' : Nat} {x : Nat → Rat} (h : CmX n B E x) (hB : B ≤ B') (hE : E ≤ E') : CmX n B' E' x := by
  obtain ⟨e, he, heE, h⟩ := h
  refine ⟨e, he, Nat.lt_of_lt_of_le heE (Nat.pow_le_pow_right (by decide) hE), fun j hj => ?_⟩
  obtain ⟨b, hb, e2⟩ := h j hj
  exact ⟨b, Nat.lt_of_lt_of_le hb (Nat.pow_le_pow_right (by decide) hB), e2⟩
section
variable {n : Nat} {W : Nat → Nat → Rat}
end
end PR
set_option maxHeartbeats 4000000
namespace PR
open PySem PySem.Spec PyProof.Rows L2 PL MB
section
variable {m : Nat}
def fzR : Nat → Rat := fun _ => 0
def hdsR (t : Nat) (L : List (Nat → Rat)) : List Nat := (List.range L.length).filter fun k => !decide (L.getD k fzR t = 0)
end
end PR
set_option maxHeartbeats 4000000
namespace PR
open PySem PySem.Spec PyProof.Rows L2 PL MB
section
variable {m : Nat}
abbrev RS3 := List (Nat → Rat) × List (Nat → Rat) × List Nat
def nrmR (r : Nat → Rat) (t : Nat) : Nat → Rat := fun x => r x / r t
def rstep (S : RS3) (t : Nat) : RS3 := match hdsR t S.1 with
  | [] => S
  | h :: _ => ((S.1.eraseIdx h).map (clr (S.1.getD h fzR) t), S.2.1.map (clr (S.1.getD h fzR) t) ++ [nrmR (S.1.getD h fzR) t], S.2.2 ++ [t])
def AllN (m N : Nat) (L : List (Nat → Rat)) : Prop := ∀ q ∈ L, CmX m N N q
def NB : Nat → Nat → Nat
  | 0, N => N
  | k + 1, N => NB k (2 * N + 1)
theorem NB_ge : ∀ (k N : Nat), N ≤ NB k N
  | 0, _ => Nat.le_refl _
  | k + 1, N => Nat.le_trans (by omega) (NB_ge k (2 * N + 1))
theorem cm_nrm {N t : Nat} {r : Nat → Rat} (h : CmX m N N r) (ht : t < m) (hz : r t ≠ 0) : CmX m N N (nrmR r t) := by
  obtain ⟨d, hd, hdb, hr⟩ := h
  obtain ⟨a, ha, et⟩ := hr t ht
  have hne : a ≠ 0 := fun e => hz (by rw [et, e]; simp [Rat.div_def, Rat.zero_mul])
  have dn : (d : Rat) ≠ 0 := rne (by omega)
  have an : (a : Rat) ≠ 0 := rne hne
  by_cases c : 0 < a
  · refine ⟨a, c, ha, fun j hj => ?_⟩
    obtain ⟨b, hb, ej⟩ := hr j hj
    refine ⟨b, hb, ?_⟩
    unfold nrmR
    rw [ej, et]
    grind
  · refine ⟨-a, by omega, by rw [Int.natAbs_neg]; exact ha, fun j hj => ?_⟩
    obtain ⟨b, hb, ej⟩ := hr j hj
    refine ⟨-b, by rw [Int.natAbs_neg]; exact hb, ?_⟩
    unfold nrmR
    rw [ej, et, Rat.intCast_neg, Rat.intCast_neg]
    grind
theorem cm_clr {N t : Nat} {r q : Nat → Rat} (h : CmX m N N r) (hq : CmX m N N q) (ht : t < m) (hz : r t ≠ 0) : CmX m (2 * N + 1) (2 * N + 1) (clr r t q) ∧ ∀ x, x < m → Bits (N + N) (N + N) (q t * (r x / r t)) := by
  obtain ⟨d, hd, hdb, hr⟩ := cm_nrm h ht hz
  obtain ⟨e, he, heb, hqe⟩ := hq
  obtain ⟨c, hc, ec⟩ := hqe t ht
  have dn : (d : Rat) ≠ 0 := rne (by omega)
  have en : (e : Rat) ≠ 0 := rne (by omega)
  refine ⟨⟨e * d, Int.mul_pos he hd, Nat.lt_of_lt_of_le (ia_mul heb hdb) (Nat.pow_le_pow_right (by decide) (by omega)), fun x hx => ?_⟩, fun x hx => ?_⟩
  · obtain ⟨a, ha, ea⟩ := hqe x hx
    obtain ⟨b, hb, eb⟩ := hr x hx
    refine ⟨a * d - c * b, Nat.lt_of_lt_of_le (ia_sub (ia_mul ha hdb) (ia_mul hc hb)) (Nat.pow_le_pow_right (by decide) (by omega)), ?_⟩
    have eb : r x / r t = (b : Rat) / (d : Rat) := eb
    show q x - q t * (r x / r t) = _
    rw [ea, ec, eb, Rat.intCast_sub, Rat.intCast_mul, Rat.intCast_mul, Rat.intCast_mul]
    grind
  · obtain ⟨b, hb, eb⟩ := hr x hx
    have eb : r x / r t = (b : Rat) / (d : Rat) := eb
    rw [ec, eb]
    exact (Bits.quo he hc heb).mul (Bits.quo hd hb hdb)
def red (m : Nat) (L : List (Nat → Rat)) : RS3 := (List.range m).foldl rstep (L, [], [])
structure RdI (S : RS3) (t : Nat) : Prop where
  z : ∀ r ∈ S.1, ∀ c, c < t → r c = 0
  len : S.2.1.length = S.2.2.length
  lt : ∀ p ∈ S.2.2, p < t
  nd : S.2.2.Nodup
  one : ∀ i j, i < S.2.2.length → j < S.2.2.length → (S.2.1.getD i fzR) (S.2.2.getD j 0) = if i = j then 1 else 0
  low : ∀ i, i < S.2.2.length → ∀ c, c < S.2.2.getD i 0 → (S.2.1.getD i fzR) c = 0
theorem rdi_step {S : RS3} {t : Nat} (h : RdI S t) : RdI (rstep S t) (t + 1) := by
  obtain ⟨L, F, P⟩ := S
  obtain ⟨hz, hlen, hlt, hnd, hone, hlow⟩ := h
  have hz : ∀ r ∈ L, ∀ c, c < t → r c = 0 := hz
  have hlen : F.length = P.length := hlen
  have hlt : ∀ p ∈ P, p < t := hlt
  have hnd : P.Nodup := hnd
  have hone : ∀ i j, i < P.length → j < P.length → (F.getD i fzR) (P.getD j 0) = if i = j then 1 else 0 := hone
  have hlow : ∀ i, i < P.length → ∀ c, c < P.getD i 0 → (F.getD i fzR) c = 0 := hlow
  unfold rstep
  show RdI (match hdsR t L with | [] => (L, F, P) | h :: _ => ((L.eraseIdx h).map (clr (L.getD h fzR) t), F.map (clr (L.getD h fzR) t) ++ [nrmR (L.getD h fzR) t], P ++ [t])) (t + 1)
  cases eh : hdsR t L with
  | nil =>
    refine ⟨fun r mr c hc => ?_, hlen, fun p mp => Nat.lt_succ_of_lt (hlt p mp), hnd, hone, hlow⟩
    by_cases e : c = t
    · subst e
      obtain ⟨k, hk, e⟩ := List.mem_iff_getElem.mp mr
      have := List.filter_eq_nil_iff.mp eh k (List.mem_range.mpr hk)
      have e2 : L.getD k fzR = r := by rw [List.getD_eq_getElem?_getD, List.getElem?_eq_getElem hk, ← e]; rfl
      rw [e2] at this
      simpa using this
    · exact hz r mr c (by omega)
  | cons h hs =>
    have mh : h ∈ hdsR t L := by rw [eh]; exact List.mem_cons_self
    obtain ⟨m1, m2⟩ := List.mem_filter.mp mh
    have hltL := List.mem_range.mp m1
    have nz : L.getD h fzR t ≠ 0 := by simpa using m2
    generalize hr : L.getD h fzR = r at nz
    have er : L[h] = r := by rw [← hr, List.getD_eq_getElem?_getD, List.getElem?_eq_getElem hltL]; rfl
    have mr : r ∈ L := er ▸ List.getElem_mem hltL
    have r0 : ∀ c, c < t → nrmR r t c = 0 := fun c hc => by
      show r c / r t = 0
      rw [hz r mr c hc]
      simp [Rat.div_def, Rat.zero_mul]
    have rt1 : nrmR r t t = 1 := by
      show r t / r t = 1
      rw [Rat.div_def]; exact Rat.mul_inv_cancel _ nz
    have ck : ∀ (q : Nat → Rat) c, c < t → clr r t q c = q c := fun q c hc => by
      show q c - q t * (nrmR r t c) = q c
      rw [r0 c hc]
      grind
    have ct : ∀ q : Nat → Rat, clr r t q t = 0 := fun q => by
      show q t - q t * (nrmR r t t) = 0
      rw [rt1]
      grind
    have lP : (P ++ [t]).length = P.length + 1 := by rw [List.length_append, List.length_singleton]
    have gP : ∀ j, j < P.length → (P ++ [t]).getD j 0 = P.getD j 0 := fun j hj => by rw [List.getD_eq_getElem?_getD, List.getElem?_append_left hj, ← List.getD_eq_getElem?_getD]
    have gP2 : (P ++ [t]).getD P.length 0 = t := by rw [List.getD_eq_getElem?_getD, List.getElem?_append_right (Nat.le_refl _), Nat.sub_self]; rfl
    have gF : ∀ j, j < P.length → (F.map (clr r t) ++ [nrmR r t]).getD j fzR = clr r t (F.getD j fzR) := fun j hj => by
      rw [List.getD_eq_getElem?_getD, List.getElem?_append_left (by rw [List.length_map]; omega), List.getElem?_map, List.getElem?_eq_getElem (by omega), List.getD_eq_getElem?_getD, List.getElem?_eq_getElem (by omega)]
      rfl
    have gF2 : (F.map (clr r t) ++ [nrmR r t]).getD P.length fzR = nrmR r t := by
      rw [List.getD_eq_getElem?_getD, List.getElem?_append_right (by rw [List.length_map]; omega), List.length_map, show P.length - F.length = 0 by omega]
      rfl
    have pl : ∀ j, j < P.length → P.getD j 0 < t := fun j hj => hlt _ (getD_in hj)
    show RdI ((L.eraseIdx h).map (clr (L.getD h fzR) t), F.map (clr (L.getD h fzR) t) ++ [nrmR (L.getD h fzR) t], P ++ [t]) (t + 1)
    rw [hr]
    refine ⟨fun q mq c hc => ?_, ?_, fun p mp => ?_, ?_, fun i j hi hj => ?_, fun i hi c hc => ?_⟩
    · obtain ⟨p, mp, rfl⟩ := List.mem_map.mp mq
      by_cases e : c = t
      · rw [e]; exact ct p
      · rw [ck p c (by omega)]
        exact hz p (List.mem_of_mem_eraseIdx mp) c (by omega)
    · show (F.map (clr r t) ++ [nrmR r t]).length = (P ++ [t]).length
      rw [List.length_append, List.length_map, lP, List.length_singleton, hlen]
    · have mp : p ∈ P ++ [t] := mp
      rcases List.mem_append.mp mp with mp | mp
      · exact Nat.lt_succ_of_lt (hlt p mp)
      · rw [List.mem_singleton.mp mp]; omega
    · show (P ++ [t]).Nodup
      rw [List.nodup_append]
      exact ⟨hnd, List.nodup_cons.mpr ⟨List.not_mem_nil, List.nodup_nil⟩, fun x mx y my e => by
        rw [List.mem_singleton.mp my] at e
        have := hlt x mx
        omega⟩
    · have hi : i < (P ++ [t]).length := hi
      have hj : j < (P ++ [t]).length := hj
      rw [lP] at hi hj
      show ((F.map (clr r t) ++ [nrmR r t]).getD i fzR) ((P ++ [t]).getD j 0) = if i = j then 1 else 0
      by_cases ci : i < P.length
      · rw [gF i ci]
        by_cases cj : j < P.length
        · rw [gP j cj, ck _ _ (pl j cj)]
          exact hone i j ci cj
        · have ej : j = P.length := by omega
          subst ej
          rw [gP2, ct, if_neg (by omega)]
      · have ei : i = P.length := by omega
        subst ei
        rw [gF2]
        by_cases cj : j < P.length
        · rw [gP j cj, r0 _ (pl j cj), if_neg (by omega)]
        · have ej : j = P.length := by omega
          subst ej
          rw [gP2, rt1, if_pos rfl]
    · have hi : i < (P ++ [t]).length := hi
      rw [lP] at hi
      have hc : c < (P ++ [t]).getD i 0 := hc
      show ((F.map (clr r t) ++ [nrmR r t]).getD i fzR) c = 0
      by_cases ci : i < P.length
      · rw [gP i ci] at hc
        rw [gF i ci, ck _ _ (Nat.lt_trans hc (pl i ci))]
        exact hlow i ci c hc
      · have ei : i = P.length := by omega
        subst ei
        rw [gP2] at hc
        rw [gF2]
        exact r0 c hc
theorem rdi_red : ∀ (c t : Nat) (S : RS3), RdI S t → RdI ((List.range' t c).foldl rstep S) (t + c)
  | 0, _, _, h => h
  | c + 1, t, S, h => by
    rw [List.range'_succ, List.foldl_cons, show t + (c + 1) = t + 1 + c by omega]
    exact rdi_red c (t + 1) (rstep S t) (rdi_step h)
theorem red_is (L : List (Nat → Rat)) : RdI (red m L) m := by
  have h0 : RdI (L, [], []) 0 := ⟨fun _ _ c hc => absurd hc (Nat.not_lt_zero _), rfl, fun _ m => (by cases m), List.nodup_nil, fun i _ hi => absurd hi (Nat.not_lt_zero _), fun i hi => absurd hi (Nat.not_lt_zero _)⟩
  have := rdi_red m 0 _ h0
  unfold red
  rw [List.range_eq_range', Nat.zero_add] at *
  exact this
end
end PR
set_option maxHeartbeats 4000000
namespace PR
open PySem PySem.Spec PyProof.Rows L2 PL MB
section
variable {n : Nat}
end
end PR
set_option maxHeartbeats 4000000
namespace PR
open PySem PySem.Spec PyProof.Rows L2 PL MB
section
variable {n : Nat} {W : Nat → Nat → Rat}
end
section
variable {n : Nat}
end
end PR
set_option maxHeartbeats 4000000
namespace PR
open PySem PySem.Spec PyProof.Rows L2 PL MB
section
variable {n a b : Nat} {M : Nat → Nat → Int}
end
end PR
set_option maxHeartbeats 4000000
namespace PR
open PySem PySem.Spec PyProof.Rows L2 PL MB
section
variable {n : Nat} {M : Nat → Nat → Int}
def tS (n : Nat) (M : Nat → Nat → Int) (c : Rat) : Nat → Nat → Rat := fun x y => if x < n ∧ y < n then (M x y : Rat) * c else 0
end
end PR
set_option maxHeartbeats 4000000
namespace PR
open PySem PySem.Spec PyProof.Rows L2 PL MB
end PR
set_option maxHeartbeats 4000000
namespace PR
open PySem PySem.Spec PyProof.Rows L2 PL MB
section
variable {n : Nat}
theorem a_asgL {g : D → En → Option En} {e : EX} {ρ : En} {s : DS} : sAsg g e ρ s = RE (e ρ s) ρ fun d s' => match g d ρ with | some ρ' => .go .nx ρ' s' | none => .bad := rfl
end
end PR
set_option maxHeartbeats 4000000
namespace PR
open PySem PySem.Spec PyProof.Rows L2 PL MB
def Ks (A B : Nat → Nat → Int) : Prop := ∀ x z, A x z ≤ 4 → B x z ≤ 4
theorem Ks.refl (A : Nat → Nat → Int) : Ks A A := fun _ _ h => h
theorem Ks.trans {A B C : Nat → Nat → Int} (h : Ks A B) (k : Ks B C) : Ks A C := fun x z e => k x z (h x z e)
theorem Ks.sym2 (A : Nat → Nat → Int) (a b : Nat) {v : Int} (hv : v ≤ 4) : Ks A (sym2 A a b v) := fun x z e => by
  rw [sym2_at]
  split
  · exact hv
  · exact e
end PR
set_option maxHeartbeats 4000000
namespace PR
open PySem PySem.Spec PyProof.Rows L2 PL MB
theorem w_lawfrac' (n d : Int) (hd : d ≠ 0) (hl : d.natAbs.log2 < 9000) (s : DS) : m__law_frac [.int n, .int d] s = .ok (ratT (Rat.divInt n d)) s := by
  by_cases h : 0 < d
  · exact w_lawfrac n d h hl s
  · have hn : 0 < -d := by omega
    obtain ⟨e1, e2⟩ := divInt_parts (n := -n) hn
    have c : decide (d < 0) = true := decide_eq_true (by omega)
    have k : okDiv (Nat.gcd (-n).natAbs (-d).natAbs : Nat) = true := by
      unfold okDiv
      rw [Bool.and_eq_true_iff]
      exact ⟨decide_eq_true (gcd_pos_of (by omega)), decide_eq_true (gcd_log (by omega) (by rw [Int.natAbs_neg]; exact hl))⟩
    have l2 : (0 + 1 + 1 ≤ 1000000) := by decide
    have e : Rat.divInt n d = Rat.divInt (-n) (-d) := (Rat.neg_divInt_neg n d).symm
    have np : ∀ (i : Int) s, dNegI (.int i) s = .ok (.int (-i)) s := fun i s => rfl
    simp only [m__law_frac, b__law_frac, evX, c, w_lawgcd, k, l2, np]
    rw [e]
    unfold ratT
    rw [e1, e2]
theorem w_plus4 {p q : Rat} (hp : fit p = true) (hq : fit q = true) (s : DS) : m__law_plus [ratT p, ratT q] s = .ok (ratT (p + q)) s := by
  have k1 : okMul p.num (q.den : Int) = true := okMul_of (fit_num hp) (fitD hq) (by decide)
  have k2 : okMul q.num (p.den : Int) = true := okMul_of (fit_num hq) (fitD hp) (by decide)
  have k3 : okMul (p.den : Int) (q.den : Int) = true := okMul_of (fitD hp) (fitD hq) (by decide)
  have t0 : ∀ q s, dIdx (ratT q) (.int 0) s = .ok (.int q.num) s := fun q s => rfl
  have t1 : ∀ q s, dIdx (ratT q) (.int 1) s = .ok (.int (q.den : Int)) s := fun q s => rfl
  have ad : ∀ (a b : Int) s, dAddL (.int a) (.int b) s = .ok (.int (a + b)) s := fun a b s => rfl
  have e : Rat.divInt (p.num * (q.den : Int) + q.num * (p.den : Int)) ((p.den : Int) * (q.den : Int)) = p + q := by
    rw [Rat.add_def']
    show _ = Rat.divInt _ ((p.den * q.den : Nat) : Int)
    rw [Int.natCast_mul]
  have lf := fun s => w_lawfrac' (p.num * (q.den : Int) + q.num * (p.den : Int)) ((p.den : Int) * (q.den : Int)) (den2_ne p q) (log_den2 hp hq) s
  rw [e] at lf
  simp only [m__law_plus, b__law_plus, evX, ar, t0, t1, k1, k2, k3, ad, lf]
theorem w_times4 {p q : Rat} (hp : fit p = true) (hq : fit q = true) (s : DS) : m__law_times [ratT p, ratT q] s = .ok (ratT (p * q)) s := by
  have k1 : okMul p.num q.num = true := okMul_of (fit_num hp) (fit_num hq) (by decide)
  have k3 : okMul (p.den : Int) (q.den : Int) = true := okMul_of (fitD hp) (fitD hq) (by decide)
  have t0 : ∀ q s, dIdx (ratT q) (.int 0) s = .ok (.int q.num) s := fun q s => rfl
  have t1 : ∀ q s, dIdx (ratT q) (.int 1) s = .ok (.int (q.den : Int)) s := fun q s => rfl
  have e : Rat.divInt (p.num * q.num) ((p.den : Int) * (q.den : Int)) = p * q := by
    conv => rhs; rw [← Rat.num_divInt_den p, ← Rat.num_divInt_den q, Rat.divInt_mul_divInt]
  have lf := fun s => w_lawfrac' (p.num * q.num) ((p.den : Int) * (q.den : Int)) (den2_ne p q) (log_den2 hp hq) s
  rw [e] at lf
  simp only [m__law_times, b__law_times, evX, ar, t0, t1, k1, k3, lf]
end PR
set_option maxHeartbeats 4000000
namespace PR
open PySem PySem.Spec PyProof.Rows L2 PL MB
theorem c_drawG {α : Type} {i m : Nat} {x : EX} {ρ0 : En} (enc : α → D) (Q : α → Prop) (d0 : α) (hm : m ≤ 1000000) (he : ∀ k, k < m → ∀ s, ∃ (v : α) (s' : DS), Q v ∧ x (ρ0.set i (some (.int k))) s = .ok (enc v) s') (s : DS) : ∃ (f : Nat → α) (s' : DS), (∀ j, j < m → Q (f j)) ∧ compR (gSet i) tYesD x ρ0 ((List.range m).map fun (k : Nat) => D.int k) s = .ok (.lst (rw1 m fun j => enc (f j))) s' := by
  have key : ∀ (l : List Nat) (acc : List D) (s : DS), (∀ k ∈ l, k < m) → ∃ (vs : List α) (s' : DS), vs.length = l.length ∧ (∀ v ∈ vs, Q v) ∧ compA (gSet i) tYesD x ρ0 acc (l.map fun (k : Nat) => D.int k) s = .ok (.lst (acc ++ vs.map enc)) s' := fun l => by
    induction l with
    | nil => intro acc s _; exact ⟨[], s, rfl, fun _ m => (by cases m), by simp [a_compNil]⟩
    | cons k l ih =>
      intro acc s h
      obtain ⟨v, s1, hv, e⟩ := he k (h k List.mem_cons_self) s
      obtain ⟨vs, s2, hl, hq, e2⟩ := ih (acc ++ [enc v]) s1 fun z mz => h z (List.mem_cons_of_mem _ mz)
      refine ⟨v :: vs, s2, by simp [hl], fun z mz => ?_, ?_⟩
      · rcases List.mem_cons.mp mz with rfl | mz
        · exact hv
        · exact hq z mz
      · show (M.bnd (noErr (x (ρ0.set i (some (.int k))))) fun z => compA (gSet i) tYesD x ρ0 (acc ++ [z]) (l.map fun (k : Nat) => D.int k)) s = _
        unfold M.bnd
        rw [noErr_ok e]
        show compA (gSet i) tYesD x ρ0 (acc ++ [enc v]) (l.map fun (k : Nat) => D.int k) s1 = _
        rw [e2]
        simp
  obtain ⟨vs, s', hl, hq, e⟩ := key (List.range m) [] s fun k mk => List.mem_range.mp mk
  rw [List.length_range] at hl
  refine ⟨fun j => vs.getD j d0, s', fun j hj => hq _ (getD_in (by omega)), ?_⟩
  unfold compR
  rw [if_pos (by rw [List.length_map, List.length_range]; exact hm), e, List.nil_append, map_getD vs _ d0, hl]
def Sm (q : Rat) : Prop := ∃ a : Int, a.natAbs < 2 ^ 6 ∧ q = (a : Rat) / ((12 : Int) : Rat)
theorem sm_div {n : Int} (hn : n.natAbs ≤ 4) {r : Nat} (hr : r < 4) : Sm (Rat.divInt n (1 + (r : Int))) := by
  have h12 : ((12 : Int) : Rat) ≠ 0 := by decide
  have key : ∀ d k : Int, d * k = 12 → d ≠ 0 → k.natAbs ≤ 12 → Sm (Rat.divInt n d) := fun d k e hd hk => by
    refine ⟨n * k, ?_, ?_⟩
    · rw [Int.natAbs_mul]
      exact Nat.lt_of_le_of_lt (Nat.mul_le_mul hn hk) (by decide)
    · rw [Rat.divInt_eq_div, ← e, Rat.intCast_mul, Rat.intCast_mul]
      have h1 := rne hd
      have h2 := rne (show k ≠ 0 by intro h; rw [h, Int.mul_zero] at e; cases e)
      grind
  match r, hr with
  | 0, _ => exact key 1 12 rfl (by decide) (by decide)
  | 1, _ => exact key 2 6 rfl (by decide) (by decide)
  | 2, _ => exact key 3 4 rfl (by decide) (by decide)
  | 3, _ => exact key 4 3 rfl (by decide) (by decide)
theorem w_small (s : DS) : ∃ (q : Rat) (s' : DS), Sm q ∧ m__law_small [.st] s = .ok (ratT q) s' := by
  obtain ⟨k, s1, hk, e1⟩ := take_lit (k := 9) (by decide) (by decide) (i := 9) rfl s
  obtain ⟨t, s2, ht, e2⟩ := take_lit (k := 3) (by decide) (by decide) (i := 3) rfl s1
  have ad : ∀ (a b : Int) s, dAddL (.int a) (.int b) s = .ok (.int (a + b)) s := fun a b s => rfl
  by_cases c : t = 0
  · have z : decide ((t : Int) = 0) = true := decide_eq_true (by omega)
    obtain ⟨r, s3, hr, e3⟩ := take_lit (k := 4) (by decide) (by decide) (i := 4) rfl s2
    have lf := fun s => w_lawfrac' ((k : Int) - 4) (1 + (r : Int)) (by omega) (log_of (k := 10) (by omega) (by decide)) s
    exact ⟨_, s3, sm_div (n := (k : Int) - 4) (by omega) hr, by simp only [m__law_small, b__law_small, evX, ar, e1, e2, z, e3, ad, lf]⟩
  · have z : decide ((t : Int) = 0) = false := decide_eq_false (by omega)
    have c2 : (0 + 1 + 1 : Nat) ≤ 1000000 := by decide
    refine ⟨Rat.divInt ((k : Int) - 4) 1, s2, sm_div (n := (k : Int) - 4) (r := 0) (by omega) (by decide), ?_⟩
    have e : (D.tup [.int ((k : Int) - 4), .int 1]) = ratT (Rat.divInt ((k : Int) - 4) 1) := by
      unfold ratT
      have e1 : ((1 : Int) : Rat) = 1 := rfl
      rw [show Rat.divInt ((k : Int) - 4) 1 = (((k : Int) - 4 : Int) : Rat) by rw [Rat.divInt_eq_div, e1]; grind]
      rfl
    rw [← e]
    simp only [m__law_small, b__law_small, evX, ar, e1, e2, z, c2]
def pR (m : Nat) (f : Nat → Rat) : D := .lst (rw1 m fun j => ratT (f j))
theorem w_row4 {m : Nat} (hm : m ≤ 1000) (s : DS) : ∃ (f : Nat → Rat) (s' : DS), (∀ j, j < m → Sm (f j)) ∧ m__law_row [.st, .int m] s = .ok (pR m f) s' := by
  obtain ⟨f, s', hf, e⟩ := c_drawG (i := 2) (m := m) (x := cCall (ar 1 m__law_small) (aCons (cVar 0) aNil)) (ρ0 := [some .st, some (.int m), none]) ratT Sm 0 (by omega) (fun k hk s => by
    obtain ⟨q, s1, hq, e⟩ := w_small s
    exact ⟨q, s1, hq, by simp only [evX, ar, e]⟩) s
  exact ⟨f, s', hf, by simp only [m__law_row, b__law_row, evX, d_srcR (show m ≤ 1000000 by omega), e]; rfl⟩
end PR
set_option maxHeartbeats 4000000
namespace PR
open PySem PySem.Spec PyProof.Rows L2 PL MB
section
variable {m : Nat}
theorem rat_of {q : Rat} (h : fit q = true) (s : DS) : mRat [.int q.num, .int (q.den : Int)] s = .ok (.rat q) s := by
  have h1 : ¬ ((q.den : Int) = 0) := by have := q.den_pos; omega
  rw [d_rat2, d_ratNew, if_neg h1, if_pos (log_of (fitD h) (by decide)), Rat.num_divInt_den]
theorem w_ratio_row (hm : m ≤ 1000) {f : Nat → Rat} (hf : ∀ j, j < m → fit (f j) = true) (s : DS) : m__law_ratio_row [pR m f] s = .ok (rwR m f) s := by
  have it : itemsOf (pR m f) = some (rw1 m fun j => ratT (f j)) := rfl
  have t0 : ∀ q s, dIdx (ratT q) (.int 0) s = .ok (.int q.num) s := fun q s => rfl
  have t1 : ∀ q s, dIdx (ratT q) (.int 1) s = .ok (.int (q.den : Int)) s := fun q s => rfl
  have cc : ∀ s, compR (gSet 1) tYesD (cCall mRat (aCons (cBin dIdx (cVar 1) (cC (.int 0))) (aCons (cBin dIdx (cVar 1) (cC (.int 1))) aNil))) [some (pR m f), none] (rw1 m fun j => ratT (f j)) s = .ok (.lst (rw1 m fun j => .rat (f j))) s := fun s =>
    c_rw _ (by omega) fun j hj s => by simp only [evX, t0, t1, rat_of (hf j hj)]
  simp only [m__law_ratio_row, b__law_ratio_row, evX, it, cc]
  rfl
theorem w_pairs_of4 (hm : m ≤ 1000) {f : Nat → Rat} (s : DS) : m__law_pairs_of [rwR m f] s = .ok (pR m f) s := by
  have it : itemsOf (rwR m f) = some (rw1 m fun j => .rat (f j)) := rfl
  have f0 : ∀ q s, dFldN (.rat q) s = .ok (.int q.num) s := fun q s => rfl
  have f1 : ∀ q s, dFldD (.rat q) s = .ok (.int (q.den : Int)) s := fun q s => rfl
  have c2 : (0 + 1 + 1 : Nat) ≤ 1000000 := by decide
  have cc : ∀ s, compR (gSet 1) tYesD (cTup (aCons (cUn dFldN (cVar 1)) (aCons (cUn dFldD (cVar 1)) aNil))) [some (rwR m f), none] (rw1 m fun j => .rat (f j)) s = .ok (.lst (rw1 m fun j => ratT (f j))) s := fun s =>
    c_rw _ (by omega) fun j hj s => by simp only [evX, f0, f1, c2]; rfl
  simp only [m__law_pairs_of, b__law_pairs_of, evX, it, cc]
  rfl
theorem ix_pR {f : Nat → Rat} {j : Nat} (hj : j < m) (s : DS) : dIdx (pR m f) (.int j) s = .ok (ratT (f j)) s := d_ixL (f := fun j => ratT (f j)) hj
def fsum (g : Nat → Rat) : Nat → Rat
  | 0 => 0
  | k + 1 => fsum g k + g k
theorem fsum_lsum (g : Nat → Rat) : ∀ k, fsum g k = lsum ((List.range k).map g)
  | 0 => rfl
  | k + 1 => by
    have app : ∀ (l : List Rat) (x : Rat), lsum (l ++ [x]) = lsum l + x := fun l x => by
      induction l with
      | nil => show x + 0 = 0 + x; grind
      | cons y l ih => show y + lsum (l ++ [x]) = y + lsum l + x; rw [ih]; grind
    rw [List.range_succ, List.map_append]
    show fsum g k + g k = lsum ((List.range k).map g ++ [g k])
    rw [app, fsum_lsum g k]
theorem fsum_at {B : Nat} {g : Nat → Rat} {e : Int} (hg : ∀ j, j < m → ∃ a : Int, a.natAbs < 2 ^ B ∧ g j = (a : Rat) / (e : Rat)) : ∀ k, k ≤ m → ∃ c : Int, c.natAbs ≤ k * 2 ^ B ∧ fsum g k = (c : Rat) / (e : Rat) := fun k => by
  induction k with
  | zero => intro _; exact ⟨0, Nat.zero_le _, by show (0 : Rat) = ((0 : Int) : Rat) / _; rw [Rat.div_def]; simp [Rat.zero_mul]⟩
  | succ k ih =>
    intro hk
    obtain ⟨c, hc, ec⟩ := ih (by omega)
    obtain ⟨a, ha, ea⟩ := hg k (by omega)
    refine ⟨c + a, by rw [Nat.succ_mul]; omega, ?_⟩
    show fsum g k + g k = _
    rw [ec, ea, quo_add]
theorem fsum_bits {B E : Nat} {g : Nat → Rat} (h : ∃ e : Int, 0 < e ∧ e.natAbs < 2 ^ E ∧ ∀ j, j < m → ∃ a : Int, a.natAbs < 2 ^ B ∧ g j = (a : Rat) / (e : Rat)) : ∀ k, k ≤ m → ∃ (e c : Int), 0 < e ∧ e.natAbs < 2 ^ E ∧ c.natAbs ≤ k * 2 ^ B ∧ fsum g k = (c : Rat) / (e : Rat) := by
  obtain ⟨e, he, heE, hg⟩ := h
  exact fun k hk => by
    obtain ⟨c, hc, ec⟩ := fsum_at hg k hk
    exact ⟨e, c, he, heE, hc, ec⟩
theorem prod_cm {N K : Nat} {f g : Nat → Rat} (hf : CmX m N N f) (hg : CmX m K K g) : ∃ e : Int, 0 < e ∧ e.natAbs < 2 ^ (N + K) ∧ ∀ j, j < m → ∃ a : Int, a.natAbs < 2 ^ (N + K) ∧ f j * g j = (a : Rat) / (e : Rat) := by
  obtain ⟨d, hd, hdb, hF⟩ := hf
  obtain ⟨e, he, heb, hG⟩ := hg
  have h1 := rne (show d ≠ 0 by omega)
  have h2 := rne (show e ≠ 0 by omega)
  refine ⟨d * e, Int.mul_pos hd he, ia_mul hdb heb, fun j hj => ?_⟩
  obtain ⟨a, ha, e1⟩ := hF j hj
  obtain ⟨b, hb, e2⟩ := hG j hj
  refine ⟨a * b, ia_mul ha hb, ?_⟩
  rw [e1, e2, Rat.intCast_mul, Rat.intCast_mul]
  grind
theorem fsum_fit {B E : Nat} (hB : B + 10 ≤ 4000) (hE : E ≤ 4000) (hm : m ≤ 1000) {g : Nat → Rat} (h : ∃ e : Int, 0 < e ∧ e.natAbs < 2 ^ E ∧ ∀ j, j < m → ∃ a : Int, a.natAbs < 2 ^ B ∧ g j = (a : Rat) / (e : Rat)) {k : Nat} (hk : k ≤ m) : fit (fsum g k) = true := by
  obtain ⟨e, c, he, heE, hc, ec⟩ := fsum_bits h k hk
  rw [ec]
  refine (Bits.quo (N := B + 10) he (Nat.lt_of_le_of_lt hc ?_) heE).fit hB hE
  have h1 := Nat.two_pow_pos B
  have : k * 2 ^ B ≤ 1000 * 2 ^ B := Nat.mul_le_mul_right _ (by omega)
  rw [Nat.pow_add 2 B 10]
  have e10 : (2 : Nat) ^ 10 = 1024 := rfl
  rw [e10]
  omega
theorem w_dot4 (hm : m ≤ 1000) {N K : Nat} (hN : N + K + 10 ≤ 4000) {f g : Nat → Rat} (hf : CmX m N N f) (hg : CmX m K K g) (s : DS) : m__law_dot [pR m f, pR m g] s = .ok (ratT (lsum ((List.range m).map fun j => f j * g j))) s := by
  have hp := prod_cm hf hg
  have ff : ∀ j, j < m → fit (f j) = true := fun j hj => (hf.bits hj).fit (by omega) (by omega)
  have fg : ∀ j, j < m → fit (g j) = true := fun j hj => (hg.bits hj).fit (by omega) (by omega)
  have fp : ∀ j, j < m → fit (f j * g j) = true := fun j hj => ((hf.bits hj).mul (hg.bits hj)).fit (by omega) (by omega)
  have fs : ∀ k, k ≤ m → fit (fsum (fun j => f j * g j) k) = true := fun k hk => fsum_fit (by omega) (by omega) hm hp hk
  have lo : ∀ (c k : Nat) (s : DS), k + c = m → forL (gSet 3) l1__law_dot ((List.range' k c).map fun (k : Nat) => D.int k) [some (pR m f), some (pR m g), some (ratT (fsum (fun j => f j * g j) k)), none] s = .go .nx [some (pR m f), some (pR m g), some (ratT (fsum (fun j => f j * g j) m)), none] s := fun c => by
    induction c with
    | zero => intro k s hk; rw [show k = m by omega]; rfl
    | succ c ih =>
      intro k s hk
      have i := ih (k + 1) s (by omega)
      rw [List.range'_succ, List.map_cons, fl_cons, ← i]
      have a1 := fun s => ix_pR (f := f) (show k < m by omega) s
      have a2 := fun s => ix_pR (f := g) (show k < m by omega) s
      have t := fun s => w_times4 (ff k (by omega)) (fg k (by omega)) s
      have p := fun s => w_plus4 (fs k (by omega)) (fp k (by omega)) s
      simp only [l1__law_dot, evX, ar, a1, a2, t, p]
      rfl
  have ln : ∀ s, dLen (pR m f) s = .ok (.int (m : Nat)) s := fun s => by unfold pR; rw [d_lenL, rw1_length]
  have lo := fun s => lo m 0 s (by omega)
  rw [← List.range_eq_range'] at lo
  have c2 : (0 + 1 + 1 : Nat) ≤ 1000000 := by decide
  have z : ratT (fsum (fun j => f j * g j) 0) = .tup [.int 0, .int 1] := rfl
  rw [z] at lo
  rw [← fsum_lsum]
  simp only [m__law_dot, b__law_dot, evX, ln, d_forR (show m ≤ 1000000 by omega), c2, lo]
end
end PR
set_option maxHeartbeats 4000000
set_option maxHeartbeats 300000
namespace PR
open PySem PySem.Spec PyProof.Rows L2 PL MB
theorem fs_congr {f g : Nat → Rat} : ∀ {m : Nat}, (∀ k, k < m → f k = g k) → fsum f m = fsum g m
  | 0, _ => rfl
  | m + 1, h => by
    show fsum f m + f m = fsum g m + g m
    rw [fs_congr (m := m) fun k hk => h k (by omega), h m (by omega)]
theorem fs_add (f g : Nat → Rat) : ∀ m, fsum (fun k => f k + g k) m = fsum f m + fsum g m
  | 0 => by show (0 : Rat) = 0 + 0; grind
  | m + 1 => by
    show fsum (fun k => f k + g k) m + (f m + g m) = fsum f m + f m + (fsum g m + g m)
    rw [fs_add f g m]
    grind
theorem fs_mul (c : Rat) (f : Nat → Rat) : ∀ m, fsum (fun k => c * f k) m = c * fsum f m
  | 0 => by show (0 : Rat) = c * 0; grind
  | m + 1 => by
    show fsum (fun k => c * f k) m + c * f m = c * (fsum f m + f m)
    rw [fs_mul c f m]
    grind
theorem fs_sub (f g : Nat → Rat) (m : Nat) : fsum (fun k => f k - g k) m = fsum f m - fsum g m := by
  have h := fs_add f (fun k => (-1) * g k) m
  rw [fs_mul (-1) g m] at h
  rw [fs_congr (g := fun k => f k + (-1) * g k) fun k _ => by grind, h]
  grind
theorem fs_zero {f : Nat → Rat} {m : Nat} (h : ∀ k, k < m → f k = 0) : fsum f m = 0 := by
  rw [fs_congr (g := fun _ => 0 * (0 : Rat)) fun k hk => by rw [h k hk]; grind, fs_mul]
  grind
theorem fs_single {f : Nat → Rat} {i : Nat} : ∀ {m : Nat}, i < m → (∀ k, k < m → k ≠ i → f k = 0) → fsum f m = f i
  | 0, h, _ => absurd h (Nat.not_lt_zero _)
  | m + 1, h, hz => by
    show fsum f m + f m = f i
    by_cases c : i = m
    · subst c
      rw [fs_zero fun k hk => hz k (by omega) (by omega)]
      grind
    · rw [fs_single (m := m) (by omega) fun k hk hne => hz k (by omega) hne, hz m (by omega) fun e => c e.symm]
      grind
theorem fs_swap (f : Nat → Nat → Rat) (p : Nat) : ∀ m, fsum (fun i => fsum (fun k => f i k) p) m = fsum (fun k => fsum (fun i => f i k) m) p
  | 0 => (fs_zero fun k _ => rfl).symm
  | m + 1 => by
    show fsum (fun i => fsum (fun k => f i k) p) m + fsum (fun k => f m k) p = fsum (fun k => fsum (fun i => f i k) m + f m k) p
    rw [fs_swap f p m, fs_add]
theorem fs_pos {f : Nat → Rat} : ∀ {m : Nat}, 0 < fsum f m → ∃ k, k < m ∧ 0 < f k
  | 0, h => absurd h (show ¬ (0 : Rat) < 0 by decide)
  | m + 1, h => by
    have h : 0 < fsum f m + f m := h
    by_cases c : 0 < f m
    · exact ⟨m, by omega, c⟩
    · obtain ⟨k, hk, e⟩ := fs_pos (f := f) (m := m) (by grind)
      exact ⟨k, by omega, e⟩
theorem fs_nn {f : Nat → Rat} : ∀ {m : Nat}, (∀ k, k < m → 0 ≤ f k) → 0 ≤ fsum f m
  | 0, _ => by show (0 : Rat) ≤ 0; grind
  | m + 1, h => by
    have h1 := fs_nn (f := f) (m := m) fun k hk => h k (by omega)
    have h2 := h m (by omega)
    show 0 ≤ fsum f m + f m
    grind
theorem fs_nn0 {f : Nat → Rat} : ∀ {m : Nat}, (∀ k, k < m → 0 ≤ f k) → fsum f m ≤ 0 → ∀ k, k < m → f k = 0
  | 0, _, _, k, hk => absurd hk (Nat.not_lt_zero _)
  | m + 1, h, hz, k, hk => by
    have h1 := fs_nn (f := f) (m := m) fun k hk => h k (by omega)
    have h2 := h m (by omega)
    have hz : fsum f m + f m ≤ 0 := hz
    by_cases c : k = m
    · subst c; grind
    · exact fs_nn0 (f := f) (m := m) (fun k hk => h k (by omega)) (by grind) k (by omega)
section
variable {n m : Nat} {A X : Nat → Nat → Rat} {β : Nat → Nat}
def cX (n m j : Nat) : Rat := if n ≤ j ∧ j < n + m then 1 else 0
structure Tb (n m : Nat) (A : Nat → Nat → Rat) (β : Nat → Nat) (X : Nat → Nat → Rat) : Prop where
  bl : ∀ i, i < m → β i < n + m
  idn : ∀ i, i < m → ∀ k, k < m → X i (β k) = if i = k then 1 else 0
  bt : ∀ i, i < m → ∀ j, j ≤ n + m → fsum (fun k => A i (β k) * X k j) m = A i j
  ut : ∀ i, i < m → ∀ j, j ≤ n + m → X i j = fsum (fun k => X i (n + k) * A k j) m
  nn : ∀ i, i < m → 0 ≤ X i (n + m)
theorem Tb.inj (h : Tb n m A β X) {i k : Nat} (hi : i < m) (hk : k < m) (e : β i = β k) : i = k := by
  have h1 := h.idn i hi i hi
  have h2 := h.idn i hi k hk
  rw [e, h2, if_pos rfl] at h1
  by_cases c : i = k
  · exact c
  · rw [if_neg c] at h1
    exact absurd h1 (by decide)
def dX (n m : Nat) (β : Nat → Nat) (X : Nat → Nat → Rat) (j : Nat) : Rat := cX n m j - fsum (fun i => cX n m (β i) * X i j) m
theorem Tb.dual (h : Tb n m A β X) {j : Nat} (hj : j ≤ n + m) : dX n m β X j = cX n m j - fsum (fun k => fsum (fun i => cX n m (β i) * X i (n + k)) m * A k j) m := by
  unfold dX
  congr 1
  rw [fs_congr (g := fun i => fsum (fun k => cX n m (β i) * X i (n + k) * A k j) m) fun i hi => by
    rw [h.ut i hi j hj, ← fs_mul]
    exact fs_congr fun k _ => by grind, fs_swap]
  exact fs_congr fun k _ => by
    rw [fs_congr (g := fun i => A k j * (cX n m (β i) * X i (n + k))) fun i _ => by grind, fs_mul]
    grind
theorem Tb.dbas (h : Tb n m A β X) {k : Nat} (hk : k < m) : dX n m β X (β k) = 0 := by
  unfold dX
  rw [fs_single (i := k) hk fun i hi hne => by rw [h.idn i hi k hk, if_neg hne]; grind, h.idn k hk k hk, if_pos rfl]
  grind
theorem Tb.key {β' : Nat → Nat} {X' : Nat → Nat → Rat} (h : Tb n m A β X) (h' : Tb n m A β' X') {s : Nat} (hs : s ≤ n + m) : dX n m β X s = dX n m β' X' s - fsum (fun i => dX n m β' X' (β i) * X i s) m := by
  obtain ⟨y, hy⟩ : ∃ y : Nat → Rat, y = fun k => fsum (fun i => cX n m (β' i) * X' i (n + k)) m := ⟨_, rfl⟩
  have e' : ∀ j, j ≤ n + m → dX n m β' X' j = cX n m j - fsum (fun k => y k * A k j) m := fun j hj => by rw [hy]; exact h'.dual hj
  have e1 : fsum (fun i => dX n m β' X' (β i) * X i s) m = fsum (fun i => cX n m (β i) * X i s) m - fsum (fun i => fsum (fun k => y k * A k (β i)) m * X i s) m := by
    rw [← fs_sub]
    refine fs_congr fun i hi => ?_
    rw [e' (β i) (Nat.le_of_lt (h.bl i hi))]
    generalize fsum (fun k => y k * A k (β i)) m = z
    grind
  have e2 : fsum (fun i => fsum (fun k => y k * A k (β i)) m * X i s) m = fsum (fun k => y k * A k s) m := by
    have e3 : ∀ i, i < m → fsum (fun k => y k * A k (β i)) m * X i s = fsum (fun k => y k * (A k (β i) * X i s)) m := fun i _ => by
      have e4 : fsum (fun k => y k * (A k (β i) * X i s)) m = fsum (fun k => X i s * (y k * A k (β i))) m := fs_congr fun k _ => by grind
      rw [e4, fs_mul]
      generalize fsum (fun k => y k * A k (β i)) m = z
      grind
    rw [fs_congr e3, fs_swap]
    refine fs_congr fun k hk => ?_
    rw [fs_mul, h.bt k hk s hs]
  rw [e' s hs, e1, e2]
  unfold dX
  generalize fsum (fun k => y k * A k s) m = z1
  generalize fsum (fun i => cX n m (β i) * X i s) m = z2
  grind
def pvX (X : Nat → Nat → Rat) (r a : Nat) : Nat → Nat → Rat := fun i j => if i = r then X r j * (X r a)⁻¹ else X i j - X i a * X r j * (X r a)⁻¹
def pvB (β : Nat → Nat) (r a : Nat) : Nat → Nat := fun i => if i = r then a else β i
theorem inv_of {x : Rat} (h : 0 < x) : ∃ u, u = x⁻¹ ∧ x * u = 1 ∧ 0 ≤ u := by
  have e : x * x⁻¹ = 1 := Rat.mul_inv_cancel x (fun e => by rw [e] at h; exact absurd h (by decide))
  refine ⟨x⁻¹, rfl, e, ?_⟩
  generalize x⁻¹ = u at e
  by_cases c : 0 ≤ u
  · exact c
  · have h2 := Rat.mul_nonneg (Rat.le_of_lt h) (show 0 ≤ -u by grind)
    grind
theorem Tb.piv (h : Tb n m A β X) {r a : Nat} (hr : r < m) (ha : a < n + m) (hp : 0 < X r a) (hq : ∀ i, i < m → 0 < X i a → X r (n + m) * X i a ≤ X i (n + m) * X r a) : Tb n m A (pvB β r a) (pvX X r a) := by
  obtain ⟨u, hu, hu1, hu0⟩ := inv_of hp
  refine ⟨fun i hi => ?_, fun i hi k hk => ?_, fun i hi j hj => ?_, fun i hi j hj => ?_, fun i hi => ?_⟩
  · unfold pvB
    split
    · exact ha
    · exact h.bl i hi
  · unfold pvB pvX
    rw [← hu]
    by_cases c : k = r
    · subst c
      rw [if_pos rfl]
      by_cases q : i = k
      · rw [if_pos q, if_pos q]; exact hu1
      · rw [if_neg q, if_neg q, show X i a * X k a * u = X i a * (X k a * u) by grind, hu1]; grind
    · rw [if_neg c, h.idn r hr k hk, if_neg fun e : r = k => c e.symm]
      by_cases q : i = r
      · rw [if_pos q, if_neg (fun e : i = k => c (e ▸ q))]; grind
      · rw [if_neg q, h.idn i hi k hk]; grind
  · obtain ⟨B, hB⟩ : ∃ B, B = X r j * u := ⟨_, rfl⟩
    have e : ∀ k, k < m → A i (pvB β r a k) * pvX X r a k j = (A i (β k) * X k j - B * (A i (β k) * X k a)) + (if k = r then A i a * B else 0) := fun k hk => by
      unfold pvB pvX
      rw [← hu]
      by_cases c : k = r
      · subst c
        rw [if_pos rfl, if_pos rfl, if_pos rfl, ← hB]
        have : B * X k a = X k j := by rw [hB, show X k j * u * X k a = X k j * (X k a * u) by grind, hu1]; grind
        have : A i (β k) * X k j = B * (A i (β k) * X k a) := by rw [← this]; grind
        grind
      · rw [if_neg c, if_neg c, if_neg c, hB]; grind
    rw [fs_congr e, fs_add, fs_sub, fs_mul, h.bt i hi j hj, h.bt i hi a (Nat.le_of_lt ha), fs_single (i := r) hr fun k _ hk => if_neg hk, if_pos rfl]
    grind
  · unfold pvX
    rw [← hu]
    by_cases c : i = r
    · rw [if_pos c, fs_congr (g := fun k => u * (X r (n + k) * A k j)) fun k _ => by rw [if_pos c]; grind, fs_mul, ← h.ut r hr j hj]
      grind
    · obtain ⟨w, hw⟩ : ∃ w, w = X i a * u := ⟨_, rfl⟩
      rw [if_neg c, fs_congr (g := fun k => X i (n + k) * A k j - w * (X r (n + k) * A k j)) fun k _ => by rw [if_neg c, hw]; grind, fs_sub, fs_mul, ← h.ut i hi j hj, ← h.ut r hr j hj, hw]
      grind
  · unfold pvX
    rw [← hu]
    by_cases c : i = r
    · rw [if_pos c]
      exact Rat.mul_nonneg (h.nn r hr) hu0
    · rw [if_neg c]
      have hi0 := h.nn i hi
      have hr0 := h.nn r hr
      by_cases q : 0 < X i a
      · have h1 := hq i hi q
        have h2 := Rat.mul_nonneg (show 0 ≤ X i (n + m) * X r a - X r (n + m) * X i a by grind) hu0
        have h3 : (X i (n + m) * X r a - X r (n + m) * X i a) * u = X i (n + m) - X i a * X r (n + m) * u := by
          rw [show (X i (n + m) * X r a - X r (n + m) * X i a) * u = X i (n + m) * (X r a * u) - X i a * X r (n + m) * u by grind, hu1]
          grind
        rw [← h3]
        exact h2
      · have h1 := Rat.mul_nonneg (Rat.mul_nonneg (show 0 ≤ -(X i a) by grind) hr0) hu0
        have h3 : X i a * X r (n + m) * u = -(-(X i a) * X r (n + m) * u) := by grind
        rw [h3]
        grind
theorem d_piv {r a : Nat} (hr : r < m) (hp : 0 < X r a) (j : Nat) : dX n m (pvB β r a) (pvX X r a) j = dX n m β X j - dX n m β X a * (X r j * (X r a)⁻¹) := by
  obtain ⟨u, hu, hu1, hu0⟩ := inv_of hp
  rw [← hu]
  obtain ⟨B, hB⟩ : ∃ B, B = X r j * u := ⟨_, rfl⟩
  unfold dX
  have e : ∀ i, i < m → cX n m (pvB β r a i) * pvX X r a i j = (cX n m (β i) * X i j - B * (cX n m (β i) * X i a)) + (if i = r then cX n m a * B else 0) := fun i hi => by
    unfold pvB pvX
    rw [← hu]
    by_cases c : i = r
    · subst c
      rw [if_pos rfl, if_pos rfl, if_pos rfl, ← hB]
      have : B * X i a = X i j := by rw [hB, show X i j * u * X i a = X i j * (X i a * u) by grind, hu1]; grind
      have : cX n m (β i) * X i j = B * (cX n m (β i) * X i a) := by rw [← this]; grind
      grind
    · rw [if_neg c, if_neg c, if_neg c, hB]; grind
  rw [fs_congr e, fs_add, fs_sub, fs_mul, fs_single (i := r) hr fun k _ hk => if_neg hk, if_pos rfl, ← hB]
  grind
end
end PR
set_option maxHeartbeats 4000000
set_option maxHeartbeats 400000
namespace PR
open PySem PySem.Spec PyProof.Rows L2 PL MB
section
variable {n m : Nat} {A : Nat → Nat → Rat}
theorem Tb.uniq {β β' : Nat → Nat} {X X' : Nat → Nat → Rat} (h : Tb n m A β X) (h' : Tb n m A β' X') (e : ∀ i, i < m → β i = β' i) {i j : Nat} (hi : i < m) (hj : j ≤ n + m) : X i j = X' i j := by
  have e1 : ∀ k, k < m → fsum (fun l => X i (n + l) * A l (β' k)) m = if i = k then 1 else 0 := fun k hk => by
    rw [← e k hk, ← h.ut i hi (β k) (Nat.le_of_lt (h.bl k hk)), h.idn i hi k hk]
  have e2 : ∀ l, l < m → X i (n + l) * A l j = fsum (fun k => X i (n + l) * A l (β' k) * X' k j) m := fun l hl => by
    rw [← h'.bt l hl j hj, ← fs_mul]
    exact fs_congr fun k _ => by grind
  rw [h.ut i hi j hj, fs_congr e2, fs_swap]
  have e3 : ∀ k, k < m → fsum (fun l => X i (n + l) * A l (β' k) * X' k j) m = X' k j * (if i = k then 1 else 0) := fun k hk => by
    rw [← e1 k hk, ← fs_mul]
    exact fs_congr fun l _ => by grind
  rw [fs_congr e3, fs_single (i := i) hi fun k _ hk => by rw [if_neg fun z => hk z.symm]; grind, if_pos rfl]
  grind
theorem dX_congr {β β' : Nat → Nat} {X X' : Nat → Nat → Rat} {j : Nat} (e : ∀ i, i < m → β i = β' i) (ex : ∀ i, i < m → X i j = X' i j) : dX n m β X j = dX n m β' X' j := by
  unfold dX
  congr 1
  exact fs_congr fun i hi => by rw [e i hi, ex i hi]
structure Run (n m : Nat) (A : Nat → Nat → Rat) (β : Nat → Nat → Nat) (X : Nat → Nat → Nat → Rat) (e r : Nat → Nat) : Prop where
  tb : ∀ u, Tb n m A (β u) (X u)
  el : ∀ u, e u < n
  eneg : ∀ u, dX n m (β u) (X u) (e u) < 0
  efst : ∀ u j, j < e u → 0 ≤ dX n m (β u) (X u) j
  rl : ∀ u, r u < m
  rpos : ∀ u, 0 < X u (r u) (e u)
  rmin : ∀ u i, i < m → 0 < X u i (e u) → X u (r u) (n + m) * X u i (e u) = X u i (n + m) * X u (r u) (e u) → β u (r u) ≤ β u i
  bs : ∀ u i, i < m → β (u + 1) i = pvB (β u) (r u) (e u) i
  xs : ∀ u i, i < m → ∀ j, j ≤ n + m → X (u + 1) i j = pvX (X u) (r u) (e u) i j
def inB (m : Nat) (β : Nat → Nat) (v : Nat) : Prop := ∃ i, i < m ∧ β i = v
variable {β : Nat → Nat → Nat} {X : Nat → Nat → Nat → Rat} {e r : Nat → Nat}
theorem run_enter (R : Run n m A β X e r) {v p : Nat} (h : ¬ inB m (β p) v) : ∀ c : Nat, inB m (β (p + c)) v → ∃ w, p ≤ w ∧ w < p + c ∧ e w = v
  | 0, hq => absurd hq h
  | c + 1, hq => by
    by_cases q : inB m (β (p + c)) v
    · obtain ⟨w, h1, h2, h3⟩ := run_enter R h c q
      exact ⟨w, h1, by omega, h3⟩
    · obtain ⟨i, hi, ei⟩ := hq
      rw [show p + (c + 1) = p + c + 1 by omega, R.bs (p + c) i hi] at ei
      unfold pvB at ei
      by_cases z : i = r (p + c)
      · rw [if_pos z] at ei
        exact ⟨p + c, by omega, by omega, ei⟩
      · rw [if_neg z] at ei
        exact absurd ⟨i, hi, ei⟩ q
theorem run_leave (R : Run n m A β X e r) {v p : Nat} (h : inB m (β p) v) : ∀ c : Nat, ¬ inB m (β (p + c)) v → ∃ w, p ≤ w ∧ w < p + c ∧ β w (r w) = v
  | 0, hq => absurd h hq
  | c + 1, hq => by
    by_cases q : inB m (β (p + c)) v
    · obtain ⟨i, hi, ei⟩ := q
      by_cases z : i = r (p + c)
      · exact ⟨p + c, by omega, by omega, by rw [← z]; exact ei⟩
      · refine absurd ⟨i, hi, ?_⟩ hq
        rw [show p + (c + 1) = p + c + 1 by omega, R.bs (p + c) i hi]
        unfold pvB
        rw [if_neg z]
        exact ei
    · obtain ⟨w, h1, h2, h3⟩ := run_leave R h c q
      exact ⟨w, h1, by omega, h3⟩
theorem run_obj (R : Run n m A β X e r) (u : Nat) : dX n m (β u) (X u) (n + m) ≤ dX n m (β (u + 1)) (X (u + 1)) (n + m) ∧ (dX n m (β (u + 1)) (X (u + 1)) (n + m) ≤ dX n m (β u) (X u) (n + m) → X u (r u) (n + m) = 0) := by
  have h1 := d_piv (n := n) (X := X u) (β := β u) (R.rl u) (R.rpos u) (n + m)
  have h2 : dX n m (β (u + 1)) (X (u + 1)) (n + m) = dX n m (pvB (β u) (r u) (e u)) (pvX (X u) (r u) (e u)) (n + m) := dX_congr (R.bs u) fun i hi => R.xs u i hi (n + m) (Nat.le_refl _)
  rw [h2, h1]
  obtain ⟨w, hw, hw1, hw0⟩ := inv_of (R.rpos u)
  rw [← hw]
  have hn := (R.tb u).nn (r u) (R.rl u)
  have he := R.eneg u
  have hm := Rat.mul_nonneg hn hw0
  generalize X u (r u) (n + m) = z at hn hm ⊢
  generalize dX n m (β u) (X u) (e u) = d at he ⊢
  generalize dX n m (β u) (X u) (n + m) = D
  generalize X u (r u) (e u) = q at hw1
  have h3 := Rat.mul_nonneg (show 0 ≤ -d by grind) hm
  refine ⟨by grind, fun h4 => ?_⟩
  have h5 : d * (z * w) = 0 := by grind
  have h6 : z * w = 0 := by
    rcases Rat.mul_eq_zero.mp h5 with h | h
    · rw [h] at he; exact absurd he (by decide)
    · exact h
  have h7 : z = z * (q * w) := by rw [hw1]; grind
  rw [h7, show z * (q * w) = q * (z * w) by grind, h6]
  grind
theorem run_mono (R : Run n m A β X e r) (p : Nat) : ∀ c, dX n m (β p) (X p) (n + m) ≤ dX n m (β (p + c)) (X (p + c)) (n + m)
  | 0 => by show _ ≤ dX n m (β p) (X p) (n + m); grind
  | c + 1 => by
    have h1 := run_mono R p c
    have h2 := (run_obj R (p + c)).1
    rw [show p + (c + 1) = p + c + 1 by omega]
    grind
def vlX (n m : Nat) (β : Nat → Nat) (X : Nat → Nat → Rat) (v : Nat) : Rat := fsum (fun i => if β i = v then X i (n + m) else 0) m
theorem vl_in {β : Nat → Nat} {X : Nat → Nat → Rat} (h : Tb n m A β X) {i : Nat} (hi : i < m) : vlX n m β X (β i) = X i (n + m) := by
  unfold vlX
  rw [fs_single (i := i) hi fun k hk hne => if_neg fun z => hne (h.inj hk hi z), if_pos rfl]
theorem vl_out {β : Nat → Nat} {X : Nat → Nat → Rat} {v : Nat} (h : ¬ inB m β v) : vlX n m β X v = 0 := fs_zero fun k hk => if_neg fun z => h ⟨k, hk, z⟩
theorem vl_step (R : Run n m A β X e r) {u : Nat} (h : X u (r u) (n + m) = 0) (v : Nat) : vlX n m (β (u + 1)) (X (u + 1)) v = vlX n m (β u) (X u) v := by
  unfold vlX
  refine fs_congr fun i hi => ?_
  rw [R.bs u i hi, R.xs u i hi (n + m) (Nat.le_refl _)]
  unfold pvB pvX
  by_cases c : i = r u
  · rw [if_pos c, if_pos c, h, c, h]
    split <;> split <;> grind
  · rw [if_neg c, if_neg c, h]
    split <;> grind
theorem argmax (f : Nat → Nat) (a : Nat) : ∀ c : Nat, ∃ u, a ≤ u ∧ u < a + (c + 1) ∧ ∀ w, a ≤ w → w < a + (c + 1) → f w ≤ f u
  | 0 => ⟨a, by omega, by omega, fun w h1 h2 => by rw [show w = a by omega]; exact Nat.le_refl _⟩
  | c + 1 => by
    obtain ⟨u, h1, h2, h3⟩ := argmax f a c
    by_cases q : f u ≤ f (a + (c + 1))
    · refine ⟨a + (c + 1), by omega, by omega, fun w k1 k2 => ?_⟩
      by_cases z : w = a + (c + 1)
      · rw [z]; exact Nat.le_refl _
      · exact Nat.le_trans (h3 w k1 (by omega)) q
    · refine ⟨u, h1, by omega, fun w k1 k2 => ?_⟩
      by_cases z : w = a + (c + 1)
      · rw [z]; omega
      · exact h3 w k1 (by omega)
theorem no_cycle (R : Run n m A β X e r) (a c : Nat) (he : ∀ i, i < m → β a i = β (a + (c + 1)) i) : False := by
  have hD : dX n m (β a) (X a) (n + m) = dX n m (β (a + (c + 1))) (X (a + (c + 1))) (n + m) := dX_congr he fun i hi => (R.tb a).uniq (R.tb _) he hi (Nat.le_refl _)
  have inab : ∀ v, inB m (β a) v ↔ inB m (β (a + (c + 1))) v := fun v => ⟨fun ⟨i, hi, z⟩ => ⟨i, hi, by rw [← he i hi]; exact z⟩, fun ⟨i, hi, z⟩ => ⟨i, hi, by rw [he i hi]; exact z⟩⟩
  -- all turns are degenerate
  have dg : ∀ u, a ≤ u → u < a + (c + 1) → X u (r u) (n + m) = 0 := fun u h1 h2 => by
    refine (run_obj R u).2 ?_
    have k1 := run_mono R a (u - a)
    have k2 := run_mono R (u + 1) (a + (c + 1) - (u + 1))
    rw [show a + (u - a) = u by omega] at k1
    rw [show u + 1 + (a + (c + 1) - (u + 1)) = a + (c + 1) by omega, ← hD] at k2
    grind
  have vl : ∀ v k, k ≤ c + 1 → vlX n m (β (a + k)) (X (a + k)) v = vlX n m (β a) (X a) v := fun v k => by
    induction k with
    | zero => intro _; rfl
    | succ k ih =>
      intro hk
      rw [show a + (k + 1) = a + k + 1 by omega, vl_step R (dg (a + k) (by omega) (by omega)) v, ih (by omega)]
  have vl : ∀ v u, a ≤ u → u ≤ a + (c + 1) → vlX n m (β u) (X u) v = vlX n m (β a) (X a) v := fun v u h1 h2 => by
    have := vl v (u - a) (by omega)
    rw [show a + (u - a) = u by omega] at this
    exact this
  -- what goes in and out comes in
  have fick : ∀ v u u', a ≤ u → u < a + (c + 1) → a ≤ u' → u' < a + (c + 1) → inB m (β u) v → ¬ inB m (β u') v → ∃ w, a ≤ w ∧ w < a + (c + 1) ∧ e w = v := fun v u u' h1 h2 h3 h4 h5 h6 => by
    by_cases z : u' < u
    · obtain ⟨w, k1, k2, k3⟩ := run_enter R h6 (u - u') (by rw [show u' + (u - u') = u by omega]; exact h5)
      exact ⟨w, by omega, by omega, k3⟩
    · by_cases q : inB m (β a) v
      · obtain ⟨w, k1, k2, k3⟩ := run_enter R h6 (a + (c + 1) - u') (by rw [show u' + (a + (c + 1) - u') = a + (c + 1) by omega]; exact (inab v).mp q)
        exact ⟨w, by omega, by omega, k3⟩
      · obtain ⟨w, k1, k2, k3⟩ := run_enter R q (u - a) (by rw [show a + (u - a) = u by omega]; exact h5)
        exact ⟨w, by omega, by omega, k3⟩
  obtain ⟨s, s1, s2, smax⟩ := argmax e a c
  have nots : ¬ inB m (β s) (e s) := fun ⟨i, hi, z⟩ => by
    have h1 := (R.tb s).dbas hi
    have h2 := R.eneg s
    rw [← z, h1] at h2
    exact absurd h2 (by decide)
  have ins : inB m (β (s + 1)) (e s) := ⟨r s, R.rl s, by rw [R.bs s _ (R.rl s)]; exact if_pos rfl⟩
  -- it leaves at some turn
  obtain ⟨u, u1, u2, hu⟩ : ∃ u, a ≤ u ∧ u < a + (c + 1) ∧ β u (r u) = e s := by
    by_cases q : inB m (β a) (e s)
    · obtain ⟨w, k1, k2, k3⟩ := run_leave R q (s - a) (by rw [show a + (s - a) = s by omega]; exact nots)
      exact ⟨w, by omega, by omega, k3⟩
    · obtain ⟨w, k1, k2, k3⟩ := run_leave R ins (a + (c + 1) - (s + 1)) (by rw [show s + 1 + (a + (c + 1) - (s + 1)) = a + (c + 1) by omega]; exact fun z => q ((inab _).mpr z))
      exact ⟨w, by omega, by omega, k3⟩
  have une : e u ≠ e s := fun z => by
    have h1 := (R.tb u).dbas (R.rl u)
    have h2 := R.eneg u
    rw [hu, ← z] at h1
    rw [h1] at h2
    exact absurd h2 (by decide)
  have ult : e u < e s := by
    have := smax u u1 u2
    omega
  have hds := R.efst s (e u) ult
  have hdu := R.eneg u
  have hk := (R.tb u).key (R.tb s) (s := e u) (by have := R.el u; omega)
  obtain ⟨i, hi, hpos⟩ := fs_pos (f := fun i => dX n m (β s) (X s) (β u i) * X u i (e u)) (m := m) (by grind)
  have dne : dX n m (β s) (X s) (β u i) ≠ 0 := fun z => by
    rw [z] at hpos
    exact absurd hpos (by grind)
  have notv : ¬ inB m (β s) (β u i) := fun ⟨k, hk', z⟩ => dne (by rw [← z]; exact (R.tb s).dbas hk')
  obtain ⟨w, w1, w2, w3⟩ := fick (β u i) u s u1 u2 s1 s2 ⟨i, hi, rfl⟩ notv
  have vle : β u i ≤ e s := by rw [← w3]; exact smax w w1 w2
  have vne : β u i ≠ e s := fun z => by
    have : i = r u := (R.tb u).inj hi (R.rl u) (by rw [z, hu])
    subst this
    have h1 := R.rpos u
    have h2 := R.eneg s
    rw [z] at hpos
    have h3 := Rat.mul_nonneg (show 0 ≤ -(dX n m (β s) (X s) (e s)) by grind) (Rat.le_of_lt h1)
    grind
  have hdv := R.efst s (β u i) (by omega)
  have hx : 0 < X u i (e u) := by
    by_cases q : 0 < X u i (e u)
    · exact q
    · have h3 := Rat.mul_nonneg hdv (show 0 ≤ -(X u i (e u)) by grind)
      grind
  have hz : X u i (n + m) = 0 := by
    have h1 := vl (β u i) u u1 (by omega)
    have h2 := vl (β u i) s s1 (by omega)
    rw [vl_out notv] at h2
    rw [vl_in (R.tb u) hi, ← h2] at h1
    exact h1
  have := R.rmin u i hi hx (by rw [dg u u1 u2, hz]; grind)
  rw [hu] at this
  omega
def cod (K : Nat) (f : Nat → Nat) : Nat → Nat
  | 0 => 0
  | m + 1 => cod K f m * K + f m
theorem cod_lt {K : Nat} {f : Nat → Nat} : ∀ {m : Nat}, (∀ i, i < m → f i < K) → cod K f m < K ^ m
  | 0, _ => by show 0 < 1; decide
  | m + 1, h => by
    have h1 := cod_lt (m := m) fun i hi => h i (by omega)
    have h2 := h m (by omega)
    show cod K f m * K + f m < K ^ (m + 1)
    rw [Nat.pow_succ]
    have : (cod K f m + 1) * K ≤ K ^ m * K := Nat.mul_le_mul_right _ h1
    rw [Nat.succ_mul] at this
    omega
theorem cod_inj {K : Nat} {f g : Nat → Nat} : ∀ {m : Nat}, (∀ i, i < m → f i < K) → (∀ i, i < m → g i < K) → cod K f m = cod K g m → ∀ i, i < m → f i = g i
  | 0, _, _, _, i, hi => absurd hi (Nat.not_lt_zero _)
  | m + 1, hf, hg, he, i, hi => by
    have he : cod K f m * K + f m = cod K g m * K + g m := he
    have f1 := hf m (by omega)
    have g1 := hg m (by omega)
    have k1 : f m = g m := by
      have h1 := congrArg (fun z => z % K) he
      simp only [Nat.mul_comm _ K, Nat.mul_add_mod, Nat.mod_eq_of_lt f1, Nat.mod_eq_of_lt g1] at h1
      exact h1
    have k2 : cod K f m = cod K g m := by
      have h2 : cod K f m * K = cod K g m * K := by omega
      exact Nat.eq_of_mul_eq_mul_right (by omega) h2
    by_cases c : i = m
    · rw [c]; exact k1
    · exact cod_inj (fun i hi => hf i (by omega)) (fun i hi => hg i (by omega)) k2 i (by omega)
theorem pigeon {f : Nat → Nat} {K : Nat} (h : ∀ u, f u < K) : ∃ a c, f a = f (a + (c + 1)) := by
  refine Classical.byContradiction fun hn => ?_
  have inj : ∀ a b, a < b → f a ≠ f b := fun a b hab z => hn ⟨a, b - a - 1, by rw [show a + (b - a - 1 + 1) = b by omega]; exact z⟩
  have nd : ((List.range (K + 1)).map f).Nodup := by
    refine List.pairwise_map.mpr ?_
    exact List.pairwise_lt_range.imp fun {a b} hab => inj a b hab
  have := nd_range nd fun p mp => by
    obtain ⟨u, _, rfl⟩ := List.mem_map.mp mp
    exact h u
  rw [List.length_map, List.length_range] at this
  omega
theorem no_run (R : Run n m A β X e r) : False := by
  obtain ⟨a, c, h⟩ := pigeon (f := fun u => cod (n + m) (β u) m) (K := (n + m) ^ m) fun u => cod_lt fun i hi => (R.tb u).bl i hi
  exact no_cycle R a c fun i hi => cod_inj (fun i hi => (R.tb a).bl i hi) (fun i hi => (R.tb _).bl i hi) h i hi
end
end PR
set_option maxHeartbeats 4000000
namespace PR
open PySem PySem.Spec PyProof.Rows L2 PL MB
end PR
set_option maxHeartbeats 4000000
namespace PR
open PySem PySem.Spec PyProof.Rows L2 PL MB
abbrev RwF := Nat → Rat
end PR
set_option maxHeartbeats 4000000
set_option maxHeartbeats 400000
namespace PR
open PySem PySem.Spec PyProof.Rows L2 PL MB
theorem dt_eqr {M : List RwF} {p q : Nat} (hpq : p < q) (hq : q < M.length) (h : M.getD p fzR = M.getD q fzR) (cs : List Nat) : dt M cs = 0 := by
  have e1 : M = M.take p ++ M.getD p fzR :: M.drop (p + 1) := by
    have hp : p < M.length := by omega
    rw [List.getD_eq_getElem?_getD, List.getElem?_eq_getElem hp]
    show M = M.take p ++ M[p] :: M.drop (p + 1)
    rw [← List.drop_eq_getElem_cons hp]
    exact (List.take_append_drop p M).symm
  have hl : q - (p + 1) < (M.drop (p + 1)).length := by rw [List.length_drop]; omega
  have e2 : M.drop (p + 1) = (M.drop (p + 1)).take (q - (p + 1)) ++ M.getD q fzR :: (M.drop (p + 1)).drop (q - (p + 1) + 1) := by
    have eg : (M.drop (p + 1))[q - (p + 1)] = M.getD q fzR := by
      rw [List.getElem_drop, List.getD_eq_getElem?_getD, List.getElem?_eq_getElem hq]
      show M[p + 1 + (q - (p + 1))] = M[q]
      congr 1
      omega
    rw [← eg, ← List.drop_eq_getElem_cons hl]
    exact (List.take_append_drop _ _).symm
  rw [e1, e2, ← h]
  exact dt_sameP _ _ _ _ cs
theorem set_split {L : List RwF} {i : Nat} (hi : i < L.length) (v : RwF) : L.set i v = L.take i ++ v :: L.drop (i + 1) := List.set_eq_take_append_cons_drop.trans (if_pos hi)
theorem dt_setc {L : List RwF} {i : Nat} {v w : RwF} {cs : List Nat} (h : ∀ c ∈ cs, v c = w c) : dt (L.set i v) cs = dt (L.set i w) cs := by
  have e : ∀ v : RwF, L.set i v = (List.range L.length).map fun k => if k = i then v else L.getD k fzR := fun v => by
    refine List.ext_getElem (by rw [List.length_set, List.length_map, List.length_range]) fun k h1 h2 => ?_
    rw [List.length_set] at h1
    rw [List.getElem_set, List.getElem_map, List.getElem_range, List.getD_eq_getElem?_getD, List.getElem?_eq_getElem h1]
    by_cases c : i = k
    · rw [if_pos c, if_pos c.symm]
    · rw [if_neg c, if_neg fun z => c z.symm]; rfl
  rw [e v, e w]
  refine dt_congr fun k _ c mc => ?_
  split
  · exact h c mc
  · rfl
theorem dt_comb {L : List RwF} {i : Nat} (hi : i < L.length) (x : Nat → Rat) (cs : List Nat) : ∀ t, t ≤ L.length → dt (L.set i fun c => fsum (fun k => (L.getD k fzR) c * x k) t) cs = if i < t then x i * dt L cs else 0
  | 0, _ => by
    rw [if_neg (Nat.not_lt_zero i), set_split hi]
    have h := dt_lin fzR fzR 1 (L.drop (i + 1)) (L.take i) cs
    have e : les fzR 1 fzR = fun c => fsum (fun k => (L.getD k fzR) c * x k) 0 := by
      funext c
      show (0 : Rat) - 1 * 0 = 0
      grind
    rw [e] at h
    rw [h]
    grind
  | t + 1, ht => by
    have ih := dt_comb hi x cs t (by omega)
    have h := dt_lin (fun c => fsum (fun k => (L.getD k fzR) c * x k) t) (L.getD t fzR) (-(x t)) (L.drop (i + 1)) (L.take i) cs
    have e : les (L.getD t fzR) (-(x t)) (fun c => fsum (fun k => (L.getD k fzR) c * x k) t) = fun c => fsum (fun k => (L.getD k fzR) c * x k) (t + 1) := by
      funext c
      show fsum _ t - -(x t) * (L.getD t fzR) c = fsum _ t + (L.getD t fzR) c * x t
      grind
    rw [e, ← set_split hi, ← set_split hi, ← set_split hi, ih] at h
    rw [h]
    by_cases c : i = t
    · subst c
      have es : L.set i (L.getD i fzR) = L := by
        refine List.ext_getElem (by rw [List.length_set]) fun k h1 h2 => ?_
        rw [List.getElem_set]
        by_cases q : i = k
        · subst q; rw [if_pos rfl, List.getD_eq_getElem?_getD, List.getElem?_eq_getElem h2]; rfl
        · rw [if_neg q]
      rw [es, if_neg (Nat.lt_irrefl i), if_pos (Nat.lt_succ_self i)]
      grind
    · have z : dt (L.set i (L.getD t fzR)) cs = 0 := by
        have gi : (L.set i (L.getD t fzR)).getD i fzR = L.getD t fzR := by rw [List.getD_eq_getElem?_getD, List.getElem?_set, if_pos rfl, if_pos hi]; rfl
        have gt : (L.set i (L.getD t fzR)).getD t fzR = L.getD t fzR := by rw [List.getD_eq_getElem?_getD, List.getElem?_set, if_neg c, ← List.getD_eq_getElem?_getD]
        rcases Nat.lt_or_gt_of_ne c with q | q
        · exact dt_eqr q (by rw [List.length_set]; omega) (by rw [gi, gt]) cs
        · exact dt_eqr q (by rw [List.length_set]; omega) (by rw [gi, gt]) cs
      rw [z]
      by_cases q : i < t
      · rw [if_pos q, if_pos (by omega)]; grind
      · rw [if_neg q, if_neg (by omega)]; grind
section
variable {n m : Nat}
def clR (A : Nat → Nat → Rat) (β : Nat → Nat) (m : Nat) : List RwF := (List.range m).map fun k l => A l (β k)
theorem cl_len {A : Nat → Nat → Rat} {β : Nat → Nat} : (clR A β m).length = m := by unfold clR; rw [List.length_map, List.length_range]
theorem cl_get {A : Nat → Nat → Rat} {β : Nat → Nat} {k : Nat} (h : k < m) : (clR A β m).getD k fzR = fun l => A l (β k) := by
  unfold clR
  rw [List.getD_eq_getElem?_getD, List.getElem?_map, List.getElem?_range h]
  rfl
theorem Tb.cram {A : Nat → Nat → Rat} {β : Nat → Nat} {X : Nat → Nat → Rat} (h : Tb n m A β X) {i j : Nat} (hi : i < m) (hj : j ≤ n + m) : dt ((clR A β m).set i fun l => A l j) (List.range m) = X i j * dt (clR A β m) (List.range m) := by
  have h1 := dt_comb (L := clR A β m) (i := i) (by rw [cl_len]; exact hi) (fun k => X k j) (List.range m) m (by rw [cl_len]; exact Nat.le_refl _)
  rw [if_pos hi] at h1
  rw [← h1]
  refine dt_setc fun c mc => ?_
  have hc := List.mem_range.mp mc
  rw [← h.bt c hc j hj]
  refine fs_congr fun k hk => ?_
  rw [cl_get hk]
def clZ (A : Nat → Nat → Int) (β : Nat → Nat) (m : Nat) : List (Nat → Int) := (List.range m).map fun k l => A l (β k)
def AQ (A : Nat → Nat → Int) (l j : Nat) : Rat := (A l j : Rat)
theorem cl_int {A : Nat → Nat → Int} {β : Nat → Nat} : dt (clR (AQ A) β m) (List.range m) = ((dtZ (clZ A β m) (List.range m) : Int) : Rat) := by
  rw [dtZ_cast]
  unfold clZ clR
  rw [List.map_map]
  rfl
theorem cl_set {A : Nat → Nat → Int} {β : Nat → Nat} {i j : Nat} : dt ((clR (AQ A) β m).set i fun l => AQ A l j) (List.range m) = ((dtZ ((clZ A β m).set i fun l => A l j) (List.range m) : Int) : Rat) := by
  rw [dtZ_cast, List.map_set]
  unfold clZ clR
  rw [List.map_map]
  rfl
theorem dEZ_bdG {r : Nat → Int} {B C : Nat} : ∀ {cs : List Nat} {G : List Nat → Int}, (∀ c ∈ cs, (r c).natAbs ≤ B) → (∀ rest : List Nat, rest.length + 1 = cs.length → (∀ c ∈ rest, c ∈ cs) → (G rest).natAbs ≤ C) → (dEZ r cs G).natAbs ≤ cs.length * (B * C)
  | [], G, _, _ => by show (0 : Int).natAbs ≤ _; omega
  | c :: cs, G, h1, h2 => by
    have ih := dEZ_bdG (cs := cs) (G := fun rest => G (c :: rest)) (C := C) (r := r) (fun x m => h1 x (List.mem_cons_of_mem _ m)) fun rest hl hm => h2 (c :: rest) (by rw [List.length_cons, List.length_cons, hl]) fun x mx => by
      rcases List.mem_cons.mp mx with rfl | mx
      · exact List.mem_cons_self
      · exact List.mem_cons_of_mem _ (hm x mx)
    have a1 : (r c * G cs).natAbs ≤ B * C := by
      rw [Int.natAbs_mul]
      exact Nat.mul_le_mul (h1 c List.mem_cons_self) (h2 cs rfl fun x m => List.mem_cons_of_mem _ m)
    show (r c * G cs - dEZ r cs (fun rest => G (c :: rest))).natAbs ≤ (cs.length + 1) * (B * C)
    rw [Nat.succ_mul]
    omega
theorem dtZ_bdG {B K : Nat} : ∀ {L : List (Nat → Int)} {cs : List Nat}, L.length = cs.length → cs.length ≤ K → (∀ r ∈ L, ∀ c ∈ cs, (r c).natAbs ≤ B) → (dtZ L cs).natAbs ≤ (K * B) ^ L.length
  | [], cs, _, _, _ => by show (1 : Int).natAbs ≤ (K * B) ^ 0; rw [Nat.pow_zero]; decide
  | r :: L, cs, hl, hK, hb => by
    have h := dEZ_bdG (r := r) (cs := cs) (G := dtZ L) (C := (K * B) ^ L.length) (hb r List.mem_cons_self) fun rest h1 h2 => dtZ_bdG (by rw [List.length_cons] at hl; omega) (by omega) fun q mq c mc => hb q (List.mem_cons_of_mem _ mq) c (h2 c mc)
    refine Nat.le_trans h ?_
    rw [List.length_cons, Nat.pow_succ, Nat.mul_comm _ (K * B), Nat.mul_assoc]
    exact Nat.mul_le_mul_right _ hK
structure SxS where
  b : Nat → Nat
  g : Int
  T : Nat → Nat → Int
  P : Nat → Int
def Qx (S : SxS) (i j : Nat) : Rat := (S.T i j : Rat) / (S.g : Rat)
structure Iv (n m : Nat) (A : Nat → Nat → Int) (S : SxS) : Prop where
  pos : 0 < S.g
  tb : Tb n m (AQ A) S.b (Qx S)
  pr : ∀ j, j ≤ n + m → (S.P j : Rat) = (S.g : Rat) * dX n m S.b (Qx S) j
  det : ∃ s : Int, (s = 1 ∨ s = -1) ∧ S.g = s * dtZ (clZ A S.b m) (List.range m)
def sxS (S : SxS) (r a : Nat) : SxS where
  b := pvB S.b r a
  g := S.T r a
  T := fun i j => if i = r then S.T r j else (S.T i j * S.T r a - S.T i a * S.T r j) / S.g
  P := fun j => (S.P j * S.T r a - S.P a * S.T r j) / S.g
variable {A : Nat → Nat → Int} {S : SxS}
theorem Iv.gq (h : Iv n m A S) : (0 : Rat) < (S.g : Rat) := Rat.intCast_pos.mpr h.pos
theorem Iv.cell (h : Iv n m A S) {i j : Nat} : (S.T i j : Rat) = (S.g : Rat) * Qx S i j := by
  obtain ⟨u, hu, h1, _⟩ := inv_of h.gq
  unfold Qx
  rw [Rat.div_def, ← hu, show (S.g : Rat) * ((S.T i j : Rat) * u) = (S.T i j : Rat) * ((S.g : Rat) * u) by grind, h1]
  grind
theorem Iv.item (h : Iv n m A S) : ∃ s : Int, (s = 1 ∨ s = -1) ∧ S.g = s * dtZ (clZ A S.b m) (List.range m) ∧ ∀ i j, i < m → j ≤ n + m → S.T i j = s * dtZ ((clZ A S.b m).set i fun l => A l j) (List.range m) := by
  obtain ⟨s, hs, hg⟩ := h.det
  refine ⟨s, hs, hg, fun i j hi hj => ?_⟩
  have h1 := h.tb.cram hi hj
  rw [cl_int, cl_set] at h1
  have h2 := h.cell (i := i) (j := j)
  have h3 : (S.T i j : Rat) = ((s * dtZ ((clZ A S.b m).set i fun l => A l j) (List.range m) : Int) : Rat) := by
    rw [h2, hg, Rat.intCast_mul, Rat.intCast_mul, h1]
    grind
  exact Rat.intCast_inj.mp h3
theorem Iv.bd (h : Iv n m A S) {B : Nat} (hb : ∀ l j, l < m → j ≤ n + m → (A l j).natAbs ≤ B) : S.g.natAbs ≤ (m * B) ^ m ∧ ∀ i j, i < m → j ≤ n + m → (S.T i j).natAbs ≤ (m * B) ^ m := by
  obtain ⟨s, hs, hg, hT⟩ := h.item
  have sa : s.natAbs = 1 := by rcases hs with rfl | rfl <;> rfl
  have lc : ∀ β : Nat → Nat, (clZ A β m).length = m := fun β => by unfold clZ; rw [List.length_map, List.length_range]
  have hc : ∀ r ∈ clZ A S.b m, ∀ c ∈ List.range m, (r c).natAbs ≤ B := fun r mr c mc => by
    obtain ⟨k, mk, rfl⟩ := List.mem_map.mp mr
    exact hb c _ (List.mem_range.mp mc) (Nat.le_of_lt (h.tb.bl k (List.mem_range.mp mk)))
  refine ⟨?_, fun i j hi hj => ?_⟩
  · rw [hg, Int.natAbs_mul, sa, Nat.one_mul]
    have := dtZ_bdG (K := m) (L := clZ A S.b m) (cs := List.range m) (by rw [lc, List.length_range]) (by rw [List.length_range]; exact Nat.le_refl _) hc
    rw [lc] at this
    exact this
  · rw [hT i j hi hj, Int.natAbs_mul, sa, Nat.one_mul]
    have := dtZ_bdG (K := m) (L := (clZ A S.b m).set i fun l => A l j) (cs := List.range m) (by rw [List.length_set, lc, List.length_range]) (by rw [List.length_range]; exact Nat.le_refl _) fun r mr c mc => by
      rcases List.mem_or_eq_of_mem_set mr with q | q
      · exact hc r q c mc
      · rw [q]; exact hb c j (List.mem_range.mp mc) hj
    rw [List.length_set, lc] at this
    exact this
theorem Iv.turn (h : Iv n m A S) {r a : Nat} (hr : r < m) (ha : a < n) (hp : 0 < S.T r a) (hq : ∀ i, i < m → 0 < S.T i a → S.T r (n + m) * S.T i a ≤ S.T i (n + m) * S.T r a) :
    Iv n m A (sxS S r a) ∧ (∀ i j, i < m → j ≤ n + m → Qx (sxS S r a) i j = pvX (Qx S) r a i j) ∧ (∀ i j, i < m → i ≠ r → j ≤ n + m → S.T i j * S.T r a - S.T i a * S.T r j = S.g * (sxS S r a).T i j) ∧ ∀ j, j ≤ n + m → S.P j * S.T r a - S.P a * S.T r j = S.g * (sxS S r a).P j := by
  have gq := h.gq
  obtain ⟨u, hu, hu1, hu0⟩ := inv_of gq
  have cell : ∀ i j, (S.T i j : Rat) = (S.g : Rat) * Qx S i j := fun i j => h.cell
  have qpos : ∀ i j, 0 < S.T i j → 0 < Qx S i j := fun i j hT => by
    have h1 : (0 : Rat) < (S.T i j : Rat) := Rat.intCast_pos.mpr hT
    rw [cell] at h1
    by_cases c : 0 < Qx S i j
    · exact c
    · have := Rat.mul_nonneg (Rat.le_of_lt gq) (show 0 ≤ -(Qx S i j) by grind)
      grind
  have pq := qpos r a hp
  have tpos : ∀ i j, 0 < Qx S i j → 0 < S.T i j := fun i j hX => by
    have h1 := Rat.mul_pos gq hX
    rw [← cell] at h1
    exact Rat.intCast_pos.mp h1
  have tb' : Tb n m (AQ A) (pvB S.b r a) (pvX (Qx S) r a) := h.tb.piv hr (by omega) pq fun i hi hX => by
    have h1 := hq i hi (tpos i a hX)
    have h2 : ((S.T r (n + m) * S.T i a : Int) : Rat) ≤ ((S.T i (n + m) * S.T r a : Int) : Rat) := Rat.intCast_le_intCast.mpr h1
    rw [Rat.intCast_mul, Rat.intCast_mul, cell, cell, cell, cell] at h2
    obtain ⟨w, hw⟩ : ∃ w, w = (S.g : Rat) * (S.g : Rat) := ⟨_, rfl⟩
    have hwp : 0 < w := by rw [hw]; exact Rat.mul_pos gq gq
    have h3 : w * (Qx S r (n + m) * Qx S i a) ≤ w * (Qx S i (n + m) * Qx S r a) := by rw [hw]; grind
    obtain ⟨v, hv, hv1, hv0⟩ := inv_of hwp
    have h4 := Rat.mul_nonneg (show 0 ≤ w * (Qx S i (n + m) * Qx S r a) - w * (Qx S r (n + m) * Qx S i a) by grind) hv0
    have h5 : (w * (Qx S i (n + m) * Qx S r a) - w * (Qx S r (n + m) * Qx S i a)) * v = (w * v) * (Qx S i (n + m) * Qx S r a - Qx S r (n + m) * Qx S i a) := by grind
    rw [h5, hv1] at h4
    grind
  obtain ⟨s, hs, hg, hT⟩ := h.item
  -- the new items are whole
  have gp : ((S.T r a : Int) : Rat) = ((s * dtZ (clZ A (pvB S.b r a) m) (List.range m) : Int) : Rat) := by
    rw [hT r a hr (by omega)]
    congr 2
    have e : (clZ A S.b m).set r (fun l => A l a) = clZ A (pvB S.b r a) m := by
      refine (List.ext_getElem (by rw [List.length_set]; unfold clZ; rw [List.length_map, List.length_map]) fun k h1 h2 => ?_).symm
      simp only [clZ, List.getElem_map, List.getElem_range, List.getElem_set]
      unfold pvB
      by_cases c : r = k
      · rw [if_pos c, if_pos c.symm]
      · rw [if_neg c, if_neg fun z => c z.symm]
    rw [e]
  have whole : ∀ i j, i < m → j ≤ n + m → ∃ z : Int, (S.T r a : Rat) * pvX (Qx S) r a i j = (z : Rat) := fun i j hi hj => by
    have h1 := tb'.cram hi hj
    rw [cl_int, cl_set] at h1
    refine ⟨s * dtZ ((clZ A (pvB S.b r a) m).set i fun l => A l j) (List.range m), ?_⟩
    rw [gp, Rat.intCast_mul, Rat.intCast_mul, h1]
    grind
  obtain ⟨p, hp1⟩ : ∃ p : Rat, p = (S.T r a : Rat) := ⟨_, rfl⟩
  obtain ⟨v, hv, hv1, hv0⟩ := inv_of pq
  have newT : ∀ i j, i < m → i ≠ r → j ≤ n + m → ((S.T i j * S.T r a - S.T i a * S.T r j : Int) : Rat) = (S.g : Rat) * ((S.T r a : Rat) * pvX (Qx S) r a i j) := fun i j hi hir hj => by
    unfold pvX
    rw [if_neg hir, ← hv, Rat.intCast_sub, Rat.intCast_mul, Rat.intCast_mul, cell i j, cell r a, cell i a, cell r j]
    have e : (S.g : Rat) * ((S.g : Rat) * Qx S r a * (Qx S i j - Qx S i a * Qx S r j * v)) = (S.g : Rat) * Qx S i j * ((S.g : Rat) * Qx S r a) - (S.g : Rat) * Qx S i a * ((S.g : Rat) * Qx S r j) * (Qx S r a * v) := by grind
    rw [e, hv1]
    grind
  have exT : ∀ i j, i < m → i ≠ r → j ≤ n + m → S.T i j * S.T r a - S.T i a * S.T r j = S.g * (sxS S r a).T i j ∧ ((sxS S r a).T i j : Rat) = (S.T r a : Rat) * pvX (Qx S) r a i j := fun i j hi hir hj => by
    obtain ⟨z, hz⟩ := whole i j hi hj
    have h1 := newT i j hi hir hj
    rw [hz, ← Rat.intCast_mul] at h1
    have h2 := Rat.intCast_inj.mp h1
    have h3 : (sxS S r a).T i j = z := by
      show (if i = r then S.T r j else (S.T i j * S.T r a - S.T i a * S.T r j) / S.g) = z
      rw [if_neg hir, h2]
      exact Int.mul_ediv_cancel_left z (by have := h.pos; omega)
    rw [h3]
    exact ⟨h2, hz.symm⟩
  have qx : ∀ i j, i < m → j ≤ n + m → Qx (sxS S r a) i j = pvX (Qx S) r a i j := fun i j hi hj => by
    have hpp : (0 : Rat) < (S.T r a : Rat) := Rat.intCast_pos.mpr hp
    obtain ⟨y, hy, hy1, _⟩ := inv_of hpp
    show ((sxS S r a).T i j : Rat) / ((S.T r a : Int) : Rat) = _
    rw [Rat.div_def, ← hy]
    by_cases c : i = r
    · subst c
      have e : (sxS S i a).T i j = S.T i j := if_pos rfl
      rw [e]
      unfold pvX
      rw [if_pos rfl, ← hv]
      have e2 : (S.T i j : Rat) * y = (S.g : Rat) * Qx S i j * y := by rw [cell i j]
      have e3 : (S.g : Rat) * Qx S i a * y = 1 := by rw [← cell i a]; exact hy1
      rw [e2]
      have e4 : (S.g : Rat) * Qx S i j * y = Qx S i j * ((S.g : Rat) * y * (Qx S i a * v)) := by rw [hv1]; grind
      rw [e4, show Qx S i j * ((S.g : Rat) * y * (Qx S i a * v)) = Qx S i j * v * ((S.g : Rat) * Qx S i a * y) by grind, e3]
      grind
    · rw [(exT i j hi c hj).2, show (S.T r a : Rat) * pvX (Qx S) r a i j * y = pvX (Qx S) r a i j * ((S.T r a : Rat) * y) by grind, hy1]
      grind
  have dq : ∀ j, j ≤ n + m → dX n m (sxS S r a).b (Qx (sxS S r a)) j = dX n m (pvB S.b r a) (pvX (Qx S) r a) j := fun j hj => dX_congr (fun i _ => rfl) fun i hi => qx i j hi hj
  have newP : ∀ j, j ≤ n + m → ((S.P j * S.T r a - S.P a * S.T r j : Int) : Rat) = (S.g : Rat) * ((S.T r a : Rat) * dX n m (pvB S.b r a) (pvX (Qx S) r a) j) := fun j hj => by
    rw [d_piv hr pq j, ← hv, Rat.intCast_sub, Rat.intCast_mul, Rat.intCast_mul, h.pr j hj, h.pr a (by omega), cell r a, cell r j]
    have e : (S.g : Rat) * ((S.g : Rat) * Qx S r a * (dX n m S.b (Qx S) j - dX n m S.b (Qx S) a * (Qx S r j * v))) = (S.g : Rat) * dX n m S.b (Qx S) j * ((S.g : Rat) * Qx S r a) - (S.g : Rat) * dX n m S.b (Qx S) a * ((S.g : Rat) * Qx S r j) * (Qx S r a * v) := by grind
    rw [e, hv1]
    grind
  have wholeP : ∀ j, j ≤ n + m → ∃ z : Int, (S.T r a : Rat) * dX n m (pvB S.b r a) (pvX (Qx S) r a) j = (z : Rat) := fun j hj => by
    have key : ∀ q, q ≤ m → ∃ z : Int, (S.T r a : Rat) * fsum (fun i => cX n m (pvB S.b r a i) * pvX (Qx S) r a i j) q = (z : Rat) := fun q => by
      induction q with
      | zero => intro _; exact ⟨0, by show (S.T r a : Rat) * 0 = 0; grind⟩
      | succ q ih =>
        intro hq2
        obtain ⟨z, hz⟩ := ih (by omega)
        obtain ⟨y, hy⟩ := whole q j (by omega) hj
        show ∃ z : Int, (S.T r a : Rat) * (fsum (fun i => cX n m (pvB S.b r a i) * pvX (Qx S) r a i j) q + cX n m (pvB S.b r a q) * pvX (Qx S) r a q j) = (z : Rat)
        by_cases c : n ≤ pvB S.b r a q ∧ pvB S.b r a q < n + m
        · refine ⟨z + y, ?_⟩
          have : cX n m (pvB S.b r a q) = 1 := if_pos c
          rw [this, Rat.intCast_add, ← hz, ← hy]
          grind
        · refine ⟨z, ?_⟩
          have : cX n m (pvB S.b r a q) = 0 := if_neg c
          rw [this, ← hz]
          grind
    obtain ⟨z, hz⟩ := key m (Nat.le_refl _)
    unfold dX
    by_cases c : n ≤ j ∧ j < n + m
    · refine ⟨S.T r a - z, ?_⟩
      have : cX n m j = 1 := if_pos c
      rw [this, Rat.intCast_sub, ← hz]
      grind
    · refine ⟨-z, ?_⟩
      have : cX n m j = 0 := if_neg c
      rw [this, Rat.intCast_neg, ← hz]
      grind
  have exP : ∀ j, j ≤ n + m → S.P j * S.T r a - S.P a * S.T r j = S.g * (sxS S r a).P j ∧ ((sxS S r a).P j : Rat) = (S.T r a : Rat) * dX n m (pvB S.b r a) (pvX (Qx S) r a) j := fun j hj => by
    obtain ⟨z, hz⟩ := wholeP j hj
    have h1 := newP j hj
    rw [hz, ← Rat.intCast_mul] at h1
    have h2 := Rat.intCast_inj.mp h1
    have h3 : (sxS S r a).P j = z := by
      show (S.P j * S.T r a - S.P a * S.T r j) / S.g = z
      rw [h2]
      exact Int.mul_ediv_cancel_left z (by have := h.pos; omega)
    rw [h3]
    exact ⟨h2, hz.symm⟩
  refine ⟨⟨hp, ?_, fun j hj => ?_, s, hs, Rat.intCast_inj.mp gp⟩, qx, fun i j hi hir hj => (exT i j hi hir hj).1, fun j hj => (exP j hj).1⟩
  · exact ⟨tb'.bl, fun i hi k hk => (qx i (pvB S.b r a k) hi (Nat.le_of_lt (tb'.bl k hk))).trans (tb'.idn i hi k hk), fun i hi j hj => by
      rw [← tb'.bt i hi j hj]
      exact fs_congr fun k hk => by rw [qx k j hk hj]; rfl, fun i hi j hj => by
      rw [qx i j hi hj, tb'.ut i hi j hj]
      exact fs_congr fun k hk => by rw [qx i (n + k) hi (by omega)], fun i hi => by rw [qx i (n + m) hi (Nat.le_refl _)]; exact tb'.nn i hi⟩
  · rw [(exP j hj).2, dq j hj]
    rfl
end
end PR
set_option maxHeartbeats 4000000
set_option maxHeartbeats 400000
namespace PR
open PySem PySem.Spec PyProof.Rows L2 PL MB
section
variable {n m : Nat} {A : Nat → Nat → Int} {S : SxS}
def entL (n : Nat) (P : Nat → Int) : List Nat := (List.range n).filter fun j => decide (P j < 0)
theorem ent_is {P : Nat → Int} {a : Nat} {l : List Nat} (h : entL n P = a :: l) : a < n ∧ P a < 0 ∧ ∀ j, j < a → 0 ≤ P j := by
  have hh : ∀ (q d : Nat) {a : Nat} {l : List Nat}, (List.range' d q).filter (fun j => decide (P j < 0)) = a :: l → d ≤ a ∧ a < d + q ∧ P a < 0 ∧ ∀ j, d ≤ j → j < a → 0 ≤ P j := fun q => by
    induction q with
    | zero => intro d a l h; cases h
    | succ q ih =>
      intro d a l h
      rw [List.range'_succ, List.filter_cons] at h
      by_cases c : P d < 0
      · rw [if_pos (decide_eq_true c)] at h
        cases h
        exact ⟨Nat.le_refl _, by omega, c, fun j h1 h2 => absurd h2 (by omega)⟩
      · rw [if_neg (by rw [decide_eq_false c]; decide)] at h
        obtain ⟨h1, h2, h3, h4⟩ := ih (d + 1) h
        refine ⟨by omega, by omega, h3, fun j k1 k2 => ?_⟩
        by_cases z : j = d
        · rw [z]; omega
        · exact h4 j (by omega) k2
  unfold entL at h
  rw [List.range_eq_range'] at h
  obtain ⟨h1, h2, h3, h4⟩ := hh n 0 h
  exact ⟨by omega, h3, fun j hj => h4 j (by omega) hj⟩
theorem ent_nil {P : Nat → Int} (h : entL n P = []) {j : Nat} (hj : j < n) : 0 ≤ P j := by
  have := List.filter_eq_nil_iff.mp h j (List.mem_range.mpr hj)
  simp only [decide_eq_true_eq] at this
  omega
def lvB (R a : Nat) (S : SxS) (i k : Nat) : Prop := S.T i R * S.T k a < S.T k R * S.T i a ∨ (S.T i R * S.T k a = S.T k R * S.T i a ∧ S.b i < S.b k)
instance (R a : Nat) (S : SxS) (i k : Nat) : Decidable (lvB R a S i k) := by unfold lvB; infer_instance
def lvF (R a : Nat) (S : SxS) (o : Option Nat) (i : Nat) : Option Nat := if 0 < S.T i a then (match o with | none => some i | some k => if lvB R a S i k then some i else some k) else o
def lvO (R a : Nat) (S : SxS) (m : Nat) : Option Nat := (List.range m).foldl (lvF R a S) none
theorem lvO_succ (R a : Nat) (S : SxS) (m : Nat) : lvO R a S (m + 1) = lvF R a S (lvO R a S m) m := by
  unfold lvO
  rw [List.range_succ, List.foldl_append]
  rfl
def lvLe (R a : Nat) (S : SxS) (r j : Nat) : Prop := S.T r R * S.T j a < S.T j R * S.T r a ∨ (S.T r R * S.T j a = S.T j R * S.T r a ∧ S.b r ≤ S.b j)
theorem lv_tr {R a i r j : Nat} (hi : 0 < S.T i a) (hr : 0 < S.T r a) (hj : 0 < S.T j a) (h1 : lvB R a S i r) (h2 : lvLe R a S r j) : lvLe R a S i j := by
  unfold lvB at h1
  unfold lvLe at h2 ⊢
  generalize S.T i R = x at h1 ⊢
  generalize S.T r R = y at h1 h2
  generalize S.T j R = z at h2 ⊢
  generalize S.T i a = p at hi h1 ⊢
  generalize S.T r a = q at hr h1 h2
  generalize S.T j a = w at hj h2 ⊢
  have e1 : (x * w) * q = (x * q) * w := by grind
  have e2 : (z * p) * q = (z * q) * p := by grind
  have e3 : (y * p) * w = (y * w) * p := by grind
  rcases h1 with h1 | ⟨h1, b1⟩ <;> rcases h2 with h2 | ⟨h2, b2⟩
  · left
    have k1 := Int.mul_lt_mul_of_pos_right h1 hj
    have k2 := Int.mul_lt_mul_of_pos_right h2 hi
    exact Int.lt_of_mul_lt_mul_right (show (x * w) * q < (z * p) * q by omega) (Int.le_of_lt hr)
  · left
    have k1 := Int.mul_lt_mul_of_pos_right h1 hj
    have k2 : y * w * p = z * q * p := by rw [h2]
    exact Int.lt_of_mul_lt_mul_right (show (x * w) * q < (z * p) * q by omega) (Int.le_of_lt hr)
  · left
    have k1 : x * q * w = y * p * w := by rw [h1]
    have k2 := Int.mul_lt_mul_of_pos_right h2 hi
    exact Int.lt_of_mul_lt_mul_right (show (x * w) * q < (z * p) * q by omega) (Int.le_of_lt hr)
  · right
    have k1 : x * q * w = y * p * w := by rw [h1]
    have k2 : y * w * p = z * q * p := by rw [h2]
    exact ⟨Int.eq_of_mul_eq_mul_right (show q ≠ 0 by omega) (show (x * w) * q = (z * p) * q by omega), by omega⟩
theorem lv_is (R a : Nat) (S : SxS) : ∀ m, (lvO R a S m = none ∧ ∀ i, i < m → S.T i a ≤ 0) ∨ ∃ r, lvO R a S m = some r ∧ r < m ∧ 0 < S.T r a ∧ ∀ j, j < m → 0 < S.T j a → lvLe R a S r j
  | 0 => .inl ⟨rfl, fun i hi => absurd hi (Nat.not_lt_zero _)⟩
  | m + 1 => by
    rw [lvO_succ]
    unfold lvF
    by_cases c : 0 < S.T m a
    · rw [if_pos c]
      rcases lv_is R a S m with ⟨h1, h2⟩ | ⟨r, h1, h2, h3, h4⟩
      · rw [h1]
        refine .inr ⟨m, rfl, by omega, c, fun j hj hp => ?_⟩
        by_cases z : j = m
        · subst z; exact .inr ⟨rfl, Nat.le_refl _⟩
        · have := h2 j (by omega); omega
      · rw [h1]
        dsimp only
        by_cases q : lvB R a S m r
        · rw [if_pos q]
          refine .inr ⟨m, rfl, by omega, c, fun j hj hp => ?_⟩
          by_cases z : j = m
          · subst z; exact .inr ⟨rfl, Nat.le_refl _⟩
          · exact lv_tr c h3 hp q (h4 j (by omega) hp)
        · rw [if_neg q]
          refine .inr ⟨r, rfl, by omega, h3, fun j hj hp => ?_⟩
          by_cases z : j = m
          · subst z
            unfold lvB at q
            unfold lvLe
            rcases Int.lt_trichotomy (S.T r R * S.T j a) (S.T j R * S.T r a) with k | k | k
            · exact .inl k
            · exact .inr ⟨k, Nat.not_lt.mp fun z => q (.inr ⟨k.symm, z⟩)⟩
            · exact absurd (.inl k) q
          · exact h4 j (by omega) hp
    · rw [if_neg c]
      rcases lv_is R a S m with ⟨h1, h2⟩ | ⟨r, h1, h2, h3, h4⟩
      · refine .inl ⟨h1, fun i hi => ?_⟩
        by_cases z : i = m
        · rw [z]; omega
        · exact h2 i (by omega)
      · refine .inr ⟨r, h1, by omega, h3, fun j hj hp => ?_⟩
        by_cases z : j = m
        · subst z; exact absurd hp c
        · exact h4 j (by omega) hp
theorem cX_nn (j : Nat) : 0 ≤ cX n m j := by
  unfold cX
  split <;> grind
theorem cX_own {j : Nat} (h : j < n) : cX n m j = 0 := if_neg fun z => by omega
theorem Iv.dsgn (h : Iv n m A S) {j : Nat} (hj : j ≤ n + m) : (S.P j < 0 ↔ dX n m S.b (Qx S) j < 0) := by
  have hg := h.gq
  have hp := h.pr j hj
  constructor
  · intro hn
    have h1 : (S.P j : Rat) < 0 := by
      have := Rat.intCast_lt_intCast.mpr hn
      exact this
    rw [hp] at h1
    by_cases c : dX n m S.b (Qx S) j < 0
    · exact c
    · have := Rat.mul_nonneg (Rat.le_of_lt hg) (show 0 ≤ dX n m S.b (Qx S) j by grind)
      grind
  · intro hd
    have h1 : 0 < (S.g : Rat) * (-(dX n m S.b (Qx S) j)) := Rat.mul_pos hg (by grind)
    have h2 : (S.P j : Rat) < ((0 : Int) : Rat) := by
      rw [hp]
      have e : ((0 : Int) : Rat) = 0 := rfl
      rw [e]
      grind
    exact Rat.intCast_lt_intCast.mp h2
theorem Iv.qsgn (h : Iv n m A S) {i j : Nat} : (0 < S.T i j ↔ 0 < Qx S i j) := by
  have hg := h.gq
  have hc := h.cell (i := i) (j := j)
  constructor
  · intro hT
    have h1 : (0 : Rat) < (S.T i j : Rat) := Rat.intCast_pos.mpr hT
    rw [hc] at h1
    by_cases c : 0 < Qx S i j
    · exact c
    · have := Rat.mul_nonneg (Rat.le_of_lt hg) (show 0 ≤ -(Qx S i j) by grind)
      grind
  · intro hX
    have h1 := Rat.mul_pos hg hX
    rw [← hc] at h1
    exact Rat.intCast_pos.mp h1
theorem Iv.leaves (h : Iv n m A S) {a : Nat} (ha : a < n) (hn : S.P a < 0) : ∃ r, lvO (n + m) a S m = some r ∧ r < m ∧ 0 < S.T r a ∧ ∀ j, j < m → 0 < S.T j a → lvLe (n + m) a S r j := by
  rcases lv_is (n + m) a S m with ⟨_, h2⟩ | h2
  · have h3 := (h.dsgn (show a ≤ n + m by omega)).mp hn
    unfold dX at h3
    rw [cX_own ha] at h3
    have h4 : 0 < fsum (fun i => cX n m (S.b i) * Qx S i a) m := by grind
    obtain ⟨i, hi, hp⟩ := fs_pos h4
    have h5 : ¬ 0 < Qx S i a := fun z => by
      have := h.qsgn.mpr z
      have := h2 i hi
      omega
    have := Rat.mul_nonneg (cX_nn (n := n) (m := m) (S.b i)) (show 0 ≤ -(Qx S i a) by grind)
    grind
  · exact h2
def nxt (n m : Nat) (S : SxS) : SxS := match entL n S.P with
  | [] => S
  | a :: _ => sxS S ((lvO (n + m) a S m).getD 0) a
theorem Iv.next (h : Iv n m A S) : Iv n m A (nxt n m S) := by
  unfold nxt
  cases e : entL n S.P with
  | nil => exact h
  | cons a l =>
    obtain ⟨h1, h2, _⟩ := ent_is e
    obtain ⟨r, e1, hr, hp, hq⟩ := h.leaves h1 h2
    show Iv n m A (sxS S ((lvO (n + m) a S m).getD 0) a)
    rw [e1]
    refine (h.turn hr h1 hp fun i hi hT => ?_).1
    rcases hq i hi hT with k | k
    · exact Int.le_of_lt k
    · exact Int.le_of_eq k.1
def itX (n m : Nat) (S : SxS) : Nat → SxS
  | 0 => S
  | k + 1 => nxt n m (itX n m S k)
theorem Iv.iter (h : Iv n m A S) : ∀ k, Iv n m A (itX n m S k)
  | 0 => h
  | k + 1 => (h.iter k).next
theorem Iv.ends (h : Iv n m A S) : ∃ k, entL n (itX n m S k).P = [] := by
  refine Classical.byContradiction fun hn => ?_
  have hne : ∀ u, ∃ a l, entL n (itX n m S u).P = a :: l := fun u => List.exists_cons_of_ne_nil fun z => hn ⟨u, z⟩
  obtain ⟨e, he⟩ : ∃ e : Nat → Nat, e = fun u => (entL n (itX n m S u).P).headD 0 := ⟨_, rfl⟩
  obtain ⟨r, hr⟩ : ∃ r : Nat → Nat, r = fun u => (lvO (n + m) (e u) (itX n m S u) m).getD 0 := ⟨_, rfl⟩
  have fact : ∀ u, e u < n ∧ (itX n m S u).P (e u) < 0 ∧ (∀ j, j < e u → 0 ≤ (itX n m S u).P j) ∧ r u < m ∧ 0 < (itX n m S u).T (r u) (e u) ∧ (∀ j, j < m → 0 < (itX n m S u).T j (e u) → lvLe (n + m) (e u) (itX n m S u) (r u) j) ∧ itX n m S (u + 1) = sxS (itX n m S u) (r u) (e u) := fun u => by
    obtain ⟨a, l, ea⟩ := hne u
    obtain ⟨h1, h2, h3⟩ := ent_is ea
    have e1 : e u = a := by rw [he]; show (entL n (itX n m S u).P).headD 0 = a; rw [ea]; rfl
    obtain ⟨k, k1, k2, k3, k4⟩ := (h.iter u).leaves h1 h2
    have e2 : r u = k := by rw [hr]; show (lvO (n + m) (e u) (itX n m S u) m).getD 0 = k; rw [e1, k1]; rfl
    rw [e1, e2]
    refine ⟨h1, h2, h3, k2, k3, k4, ?_⟩
    show nxt n m (itX n m S u) = _
    unfold nxt
    rw [ea]
    show sxS _ ((lvO (n + m) a (itX n m S u) m).getD 0) a = _
    rw [k1]
    rfl
  refine no_run (n := n) (m := m) (A := AQ A) (β := fun u => (itX n m S u).b) (X := fun u => Qx (itX n m S u)) (e := e) (r := r) ⟨fun u => (h.iter u).tb, fun u => (fact u).1, fun u => ?_, fun u j hj => ?_, fun u => (fact u).2.2.2.1, fun u => ?_, fun u i hi hX hz => ?_, fun u i hi => ?_, fun u i hi j hj => ?_⟩
  · exact ((h.iter u).dsgn (by have := (fact u).1; omega)).mp (fact u).2.1
  · have h1 := (fact u).2.2.1 j hj
    have h2 := (h.iter u).dsgn (j := j) (by have := (fact u).1; omega)
    have h3 : ¬ dX n m (itX n m S u).b (Qx (itX n m S u)) j < 0 := fun z => by have := h2.mpr z; omega
    exact Rat.not_lt.mp h3
  · exact (h.iter u).qsgn.mp (fact u).2.2.2.2.1
  · have hT := (h.iter u).qsgn.mpr hX
    rcases (fact u).2.2.2.2.2.1 i hi hT with k | k
    · have c1 := (h.iter u).cell (i := r u) (j := n + m)
      have c2 := (h.iter u).cell (i := i) (j := e u)
      have c3 := (h.iter u).cell (i := i) (j := n + m)
      have c4 := (h.iter u).cell (i := r u) (j := e u)
      have k2 := Rat.intCast_lt_intCast.mpr k
      rw [Rat.intCast_mul, Rat.intCast_mul, c1, c2, c3, c4] at k2
      have hz : Qx (itX n m S u) (r u) (n + m) * Qx (itX n m S u) i (e u) = Qx (itX n m S u) i (n + m) * Qx (itX n m S u) (r u) (e u) := hz
      have : ((itX n m S u).g : Rat) * Qx (itX n m S u) (r u) (n + m) * (((itX n m S u).g : Rat) * Qx (itX n m S u) i (e u)) = ((itX n m S u).g : Rat) * ((itX n m S u).g : Rat) * (Qx (itX n m S u) (r u) (n + m) * Qx (itX n m S u) i (e u)) := by grind
      rw [this, hz] at k2
      grind
    · exact k.2
  · show (itX n m S (u + 1)).b i = _
    rw [(fact u).2.2.2.2.2.2]
    rfl
  · show Qx (itX n m S (u + 1)) i j = _
    rw [(fact u).2.2.2.2.2.2]
    exact ((h.iter u).turn (fact u).2.2.2.1 (fact u).1 (fact u).2.2.2.2.1 fun i hi hT => by
      rcases (fact u).2.2.2.2.2.1 i hi hT with k | k
      · exact Int.le_of_lt k
      · exact Int.le_of_eq k.1).2.1 i j hi hj
theorem Iv.end_f (h : Iv n m A S) (hA : ∀ i, i < m → ∀ k, k < m → A i (n + k) = if i = k then 1 else 0) (he : entL n S.P = []) (hR : S.P (n + m) < 0) :
    (∀ j, j < n → fsum (fun k => ((S.g - S.P (n + k) : Int) : Rat) / (S.g : Rat) * AQ A k j) m ≤ 0) ∧ 0 < fsum (fun k => ((S.g - S.P (n + k) : Int) : Rat) / (S.g : Rat) * AQ A k (n + m)) m := by
  obtain ⟨u, hu, hu1, hu0⟩ := inv_of h.gq
  obtain ⟨Y, hY⟩ : ∃ Y : Nat → Rat, Y = fun k => fsum (fun i => cX n m (S.b i) * Qx S i (n + k)) m := ⟨_, rfl⟩
  have dual : ∀ j, j ≤ n + m → dX n m S.b (Qx S) j = cX n m j - fsum (fun k => Y k * AQ A k j) m := fun j hj => by rw [hY]; exact h.tb.dual hj
  have yk : ∀ k, k < m → ((S.g - S.P (n + k) : Int) : Rat) / (S.g : Rat) = Y k := fun k hk => by
    have h1 := dual (n + k) (by omega)
    have h2 : fsum (fun l => Y l * AQ A l (n + k)) m = Y k := by
      rw [fs_single (i := k) hk fun l hl hne => by
        show Y l * ((A l (n + k) : Int) : Rat) = 0
        rw [hA l hl k hk, if_neg hne]
        show Y l * 0 = 0
        grind]
      show Y k * ((A k (n + k) : Int) : Rat) = Y k
      rw [hA k hk k hk, if_pos rfl]
      show Y k * 1 = Y k
      grind
    have h3 : cX n m (n + k) = 1 := if_pos ⟨by omega, by omega⟩
    rw [h2, h3] at h1
    rw [Rat.intCast_sub, h.pr (n + k) (by omega), h1, Rat.div_def, ← hu, show ((S.g : Rat) - (S.g : Rat) * (1 - Y k)) * u = Y k * ((S.g : Rat) * u) by grind, hu1]
    grind
  have cg : ∀ j, fsum (fun k => ((S.g - S.P (n + k) : Int) : Rat) / (S.g : Rat) * AQ A k j) m = fsum (fun k => Y k * AQ A k j) m := fun j => fs_congr fun k hk => by rw [yk k hk]
  refine ⟨fun j hj => ?_, ?_⟩
  · rw [cg j]
    have h1 := dual j (by omega)
    rw [cX_own hj] at h1
    have h2 := h.dsgn (j := j) (by omega)
    have h3 : ¬ dX n m S.b (Qx S) j < 0 := fun z => by have := h2.mpr z; have := ent_nil he hj; omega
    grind
  · rw [cg]
    have h1 := dual (n + m) (Nat.le_refl _)
    have h4 : cX n m (n + m) = 0 := if_neg fun z => by omega
    rw [h4] at h1
    have h2 := (h.dsgn (Nat.le_refl _)).mp hR
    grind
theorem Iv.end_w (h : Iv n m A S) (hR : 0 ≤ S.P (n + m)) :
    (∀ j, 0 ≤ vlX n m S.b (Qx S) j) ∧ ∀ l, l < m → fsum (fun j => vlX n m S.b (Qx S) j * AQ A l j) n = AQ A l (n + m) := by
  have h1 : ¬ dX n m S.b (Qx S) (n + m) < 0 := fun z => by have := (h.dsgn (Nat.le_refl _)).mpr z; omega
  have h4 : cX n m (n + m) = 0 := if_neg fun z => by omega
  unfold dX at h1
  rw [h4] at h1
  have h2 : fsum (fun i => cX n m (S.b i) * Qx S i (n + m)) m ≤ 0 := by grind
  have h3 := fs_nn0 (f := fun i => cX n m (S.b i) * Qx S i (n + m)) (fun i hi => Rat.mul_nonneg (cX_nn _) (h.tb.nn i hi)) h2
  have art : ∀ i, i < m → ¬ S.b i < n → Qx S i (n + m) = 0 := fun i hi hb => by
    have h5 := h3 i hi
    have h6 : cX n m (S.b i) = 1 := if_pos ⟨by omega, h.tb.bl i hi⟩
    have h5 : cX n m (S.b i) * Qx S i (n + m) = 0 := h5
    rw [h6] at h5
    grind
  refine ⟨fun j => fs_nn fun i hi => ?_, fun l hl => ?_⟩
  · split
    · exact h.tb.nn i hi
    · grind
  · rw [← h.tb.bt l hl (n + m) (Nat.le_refl _)]
    have e1 : ∀ j, j < n → vlX n m S.b (Qx S) j * AQ A l j = fsum (fun i => if S.b i = j then Qx S i (n + m) * AQ A l j else 0) m := fun j _ => by
      unfold vlX
      rw [show fsum (fun i => if S.b i = j then Qx S i (n + m) else 0) m * AQ A l j = AQ A l j * fsum (fun i => if S.b i = j then Qx S i (n + m) else 0) m by grind, ← fs_mul]
      refine fs_congr fun i _ => ?_
      split <;> grind
    rw [fs_congr e1, fs_swap]
    refine fs_congr fun i hi => ?_
    by_cases c : S.b i < n
    · rw [fs_single (i := S.b i) c fun j _ hne => if_neg fun z => hne z.symm, if_pos rfl]
      grind
    · rw [art i hi c, fs_zero fun j hj => if_neg fun z => c (by omega)]
      grind
theorem Iv.start (hA : ∀ i, i < m → ∀ k, k < m → A i (n + k) = if i = k then 1 else 0) (hR : ∀ i, i < m → 0 ≤ A i (n + m)) {P : Nat → Int} (hP : ∀ j, j ≤ n + m → (P j : Rat) = cX n m j - fsum (fun i => AQ A i j) m) : Iv n m A ⟨fun i => n + i, 1, A, P⟩ := by
  have q1 : ∀ i j, Qx ⟨fun i => n + i, 1, A, P⟩ i j = AQ A i j := fun i j => by
    show (A i j : Rat) / ((1 : Int) : Rat) = (A i j : Rat)
    have e : ((1 : Int) : Rat) = 1 := rfl
    rw [e, Rat.div_def]
    grind
  have id1 : ∀ i, i < m → ∀ k, k < m → AQ A i (n + k) = if i = k then 1 else 0 := fun i hi k hk => by
    show ((A i (n + k) : Int) : Rat) = _
    rw [hA i hi k hk]
    split <;> rfl
  refine ⟨show (0 : Int) < 1 by decide, ⟨fun i hi => by show n + i < n + m; omega, fun i hi k hk => by rw [q1]; exact id1 i hi k hk, fun i hi j hj => ?_, fun i hi j hj => ?_, fun i hi => ?_⟩, fun j hj => ?_, 1, .inl rfl, ?_⟩
  · rw [fs_congr (g := fun k => AQ A i (n + k) * AQ A k j) fun k _ => by rw [q1], fs_single (i := i) hi fun k hk hne => by rw [id1 i hi k hk, if_neg fun z => hne z.symm]; grind, id1 i hi i hi, if_pos rfl]
    grind
  · rw [q1, fs_congr (g := fun k => AQ A i (n + k) * AQ A k j) fun k _ => by rw [q1], fs_single (i := i) hi fun k hk hne => by rw [id1 i hi k hk, if_neg fun z => hne z.symm]; grind, id1 i hi i hi, if_pos rfl]
    grind
  · rw [q1]
    exact Rat.intCast_nonneg.mpr (hR i hi)
  · rw [hP j hj]
    show _ = ((1 : Int) : Rat) * (cX n m j - fsum (fun i => cX n m (n + i) * Qx ⟨fun i => n + i, 1, A, P⟩ i j) m)
    have e : ((1 : Int) : Rat) = 1 := rfl
    rw [e, fs_congr (f := fun i => cX n m (n + i) * Qx ⟨fun i => n + i, 1, A, P⟩ i j) (g := fun i => AQ A i j) fun i hi => by
      rw [q1, show cX n m (n + i) = 1 from if_pos ⟨by omega, by omega⟩]
      grind]
    grind
  · show (1 : Int) = 1 * dtZ (clZ A (fun i => n + i) m) (List.range m)
    have key : ∀ q d, d + q = m → dt ((List.range' d q).map fun k l => AQ A l (n + k)) (List.range' d q) = 1 := fun q => by
      induction q with
      | zero => intro d _; rfl
      | succ q ih =>
        intro d hd
        rw [List.range'_succ, List.map_cons, dt_first _ d _ _ (by rw [List.length_map]) (fun v mv => by
          obtain ⟨k, mk, rfl⟩ := List.mem_map.mp mv
          have := List.mem_range'_1.mp mk
          show AQ A d (n + k) = 0
          rw [id1 d (by omega) k (by omega), if_neg (by omega)]), ih (d + 1) (by omega), id1 d (by omega) d (by omega), if_pos rfl]
        grind
    have h1 := key m 0 (by omega)
    rw [← List.range_eq_range'] at h1
    have h2 : dt (clR (AQ A) (fun i => n + i) m) (List.range m) = 1 := h1
    rw [cl_int] at h2
    have : dtZ (clZ A (fun i => n + i) m) (List.range m) = 1 := Rat.intCast_inj.mp h2
    omega
end
end PR
set_option maxHeartbeats 4000000
namespace PR
open PySem PySem.Spec PyProof.Rows L2 PL MB
end PR
set_option maxHeartbeats 4000000
namespace PR
open PySem PySem.Spec PyProof.Rows L2 PL MB
section
variable {m : Nat}
def smF (L : List RwF) (w : Nat → Rat) (k : Nat) : RwF := fun i => fsum (fun k => w k * (L.getD k fzR) i) k
theorem w_sum_of (hm : m ≤ 1000) {L : List RwF} {w : Nat → Rat} (hl : L.length ≤ 1000) (hw : ∀ k, k < L.length → fit (w k) = true) (hL : ∀ k, k < L.length → ∀ i, i < m → fit ((L.getD k fzR) i) = true)
    (hp : ∀ k, k < L.length → ∀ i, i < m → fit (w k * (L.getD k fzR) i) = true) (hs : ∀ k, k ≤ L.length → ∀ i, i < m → fit (smF L w k i) = true) (s : DS) :
    m__law_sum_of [.lst (L.map (pR m)), pR L.length w, .int m] s = .ok (pR m (smF L w L.length)) s := by
  have ixL : ∀ k s, k < L.length → dIdx (.lst (L.map (pR m))) (.int k) s = .ok (pR m (L.getD k fzR)) s := fun k s hk => ix_mapL fzR hk s
  have c2 : (0 + 1 + 1 : Nat) ≤ 1000000 := by decide
  have lo : ∀ (c k : Nat) (s : DS), k + c = L.length → forL (gSet 4) l1__law_sum_of ((List.range' k c).map fun (k : Nat) => D.int k) [some (.lst (L.map (pR m))), some (pR L.length w), some (.int m), some (pR m (smF L w k)), none, none] s = .go .nx [some (.lst (L.map (pR m))), some (pR L.length w), some (.int m), some (pR m (smF L w L.length)), none, none] s := fun c => by
    induction c with
    | zero => intro k s hk; rw [show k = L.length by omega]; rfl
    | succ c ih =>
      intro k s hk
      have i := ih (k + 1) s (by omega)
      rw [List.range'_succ, List.map_cons, fl_cons, ← i]
      have hk' : k < L.length := by omega
      have cc : ∀ s, compR (gSet 5) tYesD (cCall (ar 2 m__law_plus) (aCons (cBin dIdx (cVar 3) (cVar 5)) (aCons (cCall (ar 2 m__law_times) (aCons (cBin dIdx (cVar 1) (cVar 4)) (aCons (cBin dIdx (cBin dIdx (cVar 0) (cVar 4)) (cVar 5)) aNil))) aNil))) [some (.lst (L.map (pR m))), some (pR L.length w), some (.int m), some (pR m (smF L w k)), some (.int k), none] ((List.range m).map fun (k : Nat) => D.int k) s = .ok (pR m (smF L w (k + 1))) s := fun s =>
        c_rng (fun j => ratT (smF L w (k + 1) j)) (by omega) fun j hj s => by
          have a1 := fun s => ix_pR (m := L.length) (f := w) hk' s
          have a2 := fun s => ix_pR (f := L.getD k fzR) hj s
          have a3 := fun s => ix_pR (f := smF L w k) hj s
          have t := fun s => w_times4 (hw k hk') (hL k hk' j hj) s
          have p := fun s => w_plus4 (hs k (by omega) j hj) (hp k hk' j hj) s
          simp only [evX, ar, ixL k _ hk', a1, a2, a3, t, p]
          rfl
      simp only [l1__law_sum_of, evX, d_srcR (show m ≤ 1000000 by omega), cc]
  have ln : ∀ s, dLen (.lst (L.map (pR m))) s = .ok (.int (L.length : Nat)) s := fun s => by rw [d_lenL, List.length_map]
  have lo := fun s => lo L.length 0 s (by omega)
  rw [← List.range_eq_range'] at lo
  have c0 : ∀ A0 A1 s, compR (gSet 4) tYesD (cTup (aCons (cC (.int 0)) (aCons (cC (.int 1)) aNil))) [A0, A1, some (.int m), none, none, none] ((List.range m).map fun (k : Nat) => D.int k) s = .ok (pR m (smF L w 0)) s := fun A0 A1 s =>
    c_rng (fun j => ratT (smF L w 0 j)) (by omega) fun j hj s => by simp only [evX, c2]; rfl
  simp only [m__law_sum_of, b__law_sum_of, evX, ln, d_srcR (show m ≤ 1000000 by omega), c0, d_forR (show L.length ≤ 1000000 by omega), lo]
theorem a_uAtG {l : List D} {a i : Nat} {x : EX} {ρ : En} {s : DS} {d : D} (h0 : ρ[i]? = some (some (.lst l))) (hx : x ρ s = .ok (.int a) s) (ha : a < l.length) : uAt i x d ρ s = .go .nx (ρ.set i (some (.lst (l.set a d)))) s := by
  unfold uAt
  rw [h0]
  dsimp only
  rw [hx, re_ok]
  dsimp only
  rw [ixN_nat ha]
end
end PR
set_option maxHeartbeats 4000000
namespace PR
open PySem PySem.Spec PyProof.Rows L2 PL MB
section
variable {m : Nat}
end
end PR
set_option maxHeartbeats 4000000
namespace PR
open PySem PySem.Spec PyProof.Rows L2 PL MB
section
variable {n : Nat} {a b : Nat} {M : Nat → Nat → Int}
end
section
variable {n : Nat} {a b : Nat} {M : Nat → Nat → Int}
end
end PR
set_option maxHeartbeats 4000000
namespace PR
open PySem PySem.Spec PyProof.Rows L2 PL MB
section
variable {w K : Nat}
theorem cm_sm {m : Nat} {f : RwF} (h : ∀ j, j < m → Sm (f j)) : CmX m 6 6 f := ⟨12, by decide, by decide, fun j hj => h j hj⟩
theorem fit_sm {q : Rat} (h : Sm q) : fit q = true := by
  obtain ⟨a, ha, e⟩ := h
  rw [e]
  exact (Bits.quo (N := 6) (E := 6) (by decide) ha (by decide)).fit (by decide) (by decide)
theorem fit_smm {p q : Rat} (hp : Sm p) (hq : Sm q) : fit (p * q) = true := by
  obtain ⟨a, ha, e⟩ := hp
  obtain ⟨b, hb, e2⟩ := hq
  rw [e, e2]
  exact ((Bits.quo (N := 6) (E := 6) (by decide) ha (by decide)).mul (Bits.quo (N := 6) (E := 6) (by decide) hb (by decide))).fit (by decide) (by decide)
theorem ixN_last (n : Nat) : ixN (n + 1) (-1) = some n := by
  unfold ixN
  simp
  omega
theorem rwM {m K : Nat} (R : Nat → RwF) : rw1 K (fun k => pR m (R k)) = ((List.range K).map R).map (pR m) := by
  unfold rw1
  rw [List.map_map]
  rfl
theorem gtR {K k : Nat} {α : Type} {f : Nat → α} {d : α} (h : k < K) : ((List.range K).map f).getD k d = f k := by
  rw [List.getD_eq_getElem?_getD, List.getElem?_map, List.getElem?_range h]
  rfl
theorem zip_rw4 {f f2 : Nat → D} : zipL (rw1 K f) (rw1 K f2) = (List.range K).map fun k => .tup [f k, f2 k] := by
  unfold zipL rw1
  rw [List.zip_map', List.map_map]
  rfl
theorem NB_mono : ∀ {k k' N : Nat}, k ≤ k' → NB k N ≤ NB k' N
  | 0, k', N, _ => NB_ge k' N
  | k + 1, 0, N, h => absurd h (Nat.not_succ_le_zero _)
  | k + 1, k' + 1, N, h => NB_mono (k := k) (k' := k') (N := 2 * N + 1) (Nat.le_of_succ_le_succ h)
end
end PR
set_option maxHeartbeats 4000000
set_option maxHeartbeats 400000
namespace PR
open PySem PySem.Spec PyProof.Rows L2 PL MB
section
def rI (w : Nat) (f : Nat → Int) : D := .lst (rw1 w fun j => .int (f j))
def tI (m w : Nat) (T : Nat → Nat → Int) : D := .lst (rw1 m fun i => rI w (T i))
def bI (m : Nat) (b : Nat → Nat) : D := .lst (rw1 m fun i => .int (b i : Nat))
theorem rI_ix {w j : Nat} {f : Nat → Int} (h : j < w) (s : DS) : dIdx (rI w f) (.int (j : Nat)) s = .ok (.int (f j)) s := d_ixL h
theorem rI_last {w : Nat} {f : Nat → Int} (s : DS) : dIdx (rI (w + 1) f) (.int (-1)) s = .ok (.int (f w)) s := by
  have : atI (rw1 (w + 1) fun j => D.int (f j)) (-1) = some (.int (f w)) := by
    unfold atI
    rw [rw1_length, ixN_last]
    exact rw1_get (Nat.lt_succ_self w)
  unfold rI
  rw [d_idxL, this]
theorem tI_ix {m w i : Nat} {T : Nat → Nat → Int} (h : i < m) (s : DS) : dIdx (tI m w T) (.int (i : Nat)) s = .ok (rI w (T i)) s := d_ixL h
theorem bI_ix {m i : Nat} {b : Nat → Nat} (h : i < m) (s : DS) : dIdx (bI m b) (.int (i : Nat)) s = .ok (.int (b i : Nat)) s := d_ixL h
theorem tI_len {m w : Nat} {T : Nat → Nat → Int} (s : DS) : dLen (tI m w T) s = .ok (.int (m : Nat)) s := by unfold tI; rw [d_lenL, rw1_length]
theorem w_subtracted {w a : Nat} {R H : Nat → Int} {g : Int} (hw : w ≤ 1000) (ha : a < w) (hg : 0 < g) (hgl : g.natAbs < 2 ^ 8000) (hR : ∀ j, j < w → (R j).natAbs < 2 ^ 8000) (hH : ∀ j, j < w → (H j).natAbs < 2 ^ 8000) (s : DS) :
    m_subtracted [rI w R, rI w H, .int (a : Nat), .int g] s = .ok (rI w fun j => (R j * H a - R a * H j) / g) s := by
  have kd : okDiv g = true := by
    unfold okDiv
    rw [Bool.and_eq_true_iff]
    exact ⟨decide_eq_true hg, decide_eq_true (log_of hgl (by decide))⟩
  have c : ∀ (A4 A5 : Option D) s, A4 = some (.int (H a)) → A5 = some (.int (R a)) → compR (gTupD 2 (gsCons (gSet 6) (gsCons (gSet 7) gsNil))) tYesD (cBin dFdiv (cBin dSub (cBin dMul (cVar 6) (cVar 4)) (cBin dMul (cVar 5) (cVar 7))) (cVar 3)) [some (rI w R), some (rI w H), none, some (.int g), A4, A5, none, none] ((List.range w).map fun k => .tup [.int (R k), .int (H k)]) s = .ok (rI w fun j => (R j * H a - R a * H j) / g) s := fun A4 A5 s e4 e5 => by
    subst e4 e5
    refine c_mapG (fun k => [some (rI w R), some (rI w H), none, some (.int g), some (.int (H a)), some (.int (R a)), some (.int (R k)), some (.int (H k))]) (fun j => .int ((R j * H a - R a * H j) / g)) (by rw [List.length_range]; omega) (fun k _ => rfl) fun k mk s => ?_
    have hk := List.mem_range.mp mk
    have k1 : okMul (R k) (H a) = true := okMul_of (hR k hk) (hH a ha) (by decide)
    have k2 : okMul (R a) (H k) = true := okMul_of (hR a ha) (hH k hk) (by decide)
    simp only [evX, k1, k2, d_fdiv, kd]
  have i1 : ∀ s, dIdx (rI w R) (.int (a : Nat)) s = .ok (.int (R a)) s := fun s => rI_ix ha s
  have i2 : ∀ s, dIdx (rI w H) (.int (a : Nat)) s = .ok (.int (H a)) s := fun s => rI_ix ha s
  have z : ∀ s, zipD (rI w R) (rI w H) s = .ok ((List.range w).map fun k => .tup [.int (R k), .int (H k)]) s := fun s => by
    show (pure (zipL (rw1 w fun j => .int (R j)) (rw1 w fun j => .int (H j))) : PL.M (List D)) s = _
    rw [zip_rw4]; rfl
  simp only [m_subtracted, b_subtracted, evX, i1, i2, a_srcZip, z, c]
theorem sx_fold {σ α : Type} {E : σ → En} {h : α → D} {i : Nat} {b : SX} {s : DS} (P : σ → Prop) (f : σ → α → σ) : ∀ (l : List α) (A : σ), P A → (∀ a ∈ l, ∀ A, P A → b ((E A).set i (some (h a))) s = .go .nx (E (f A a)) s ∧ P (f A a)) →
    forL (gSet i) b (l.map h) (E A) s = .go .nx (E (l.foldl f A)) s ∧ P (l.foldl f A)
  | [], A, hA, _ => ⟨rfl, hA⟩
  | a :: l, A, hA, st => by
    obtain ⟨e, p⟩ := st a List.mem_cons_self A hA
    obtain ⟨e2, p2⟩ := sx_fold P f l (f A a) p fun a m => st a (List.mem_cons_of_mem _ m)
    refine ⟨?_, p2⟩
    rw [List.map_cons, fl_cons, e, lp_nx, e2]
    rfl
def boI : Option Nat → D
  | none => .int (-1)
  | some k => .int (k : Nat)
theorem w_leaving {m w a : Nat} {S : SxS} (hm : m ≤ 1000) (ha : a < w + 1) (hT : ∀ i j, i < m → j < w + 1 → (S.T i j).natAbs < 2 ^ 8000) (s : DS) :
    m_leaving [tI m (w + 1) S.T, bI m S.b, .int (a : Nat)] s = .ok (boI (lvO w a S m)) s := by
  have hh := fun s => sx_fold (σ := Option Nat) (α := Nat) (E := fun o => [some (tI m (w + 1) S.T), some (bI m S.b), some (.int (a : Nat)), some (boI o), none, none, none]) (h := fun k => D.int (k : Nat)) (i := 4) (b := l1_leaving) (s := s) (fun o => ∀ k, o = some k → k < m) (lvF w a S) (List.range m) none (fun k e => by cases e) fun i mi o ho => by
    have hi := List.mem_range.mp mi
    have t0 : ∀ s, dIdx (tI m (w + 1) S.T) (.int (i : Nat)) s = .ok (rI (w + 1) (S.T i)) s := fun s => tI_ix hi s
    have t1 : ∀ s, dIdx (rI (w + 1) (S.T i)) (.int (a : Nat)) s = .ok (.int (S.T i a)) s := fun s => rI_ix ha s
    have t2 : ∀ i s, dIdx (rI (w + 1) (S.T i)) (.int (-1)) s = .ok (.int (S.T i w)) s := fun i s => rI_last s
    have ng : ∀ s, dNegI (.int 1) s = .ok (.int (-1)) s := fun s => rfl
    have tb : ∀ s, dIdx (bI m S.b) (.int (i : Nat)) s = .ok (.int (S.b i : Nat)) s := fun s => bI_ix hi s
    by_cases c : 0 < S.T i a
    · have d1 : decide (0 < S.T i a) = true := decide_eq_true c
      cases o with
      | none =>
        have e : lvF w a S none i = some i := if_pos c
        have k1 : okMul (S.T i w) (S.T i a) = true := okMul_of (hT i w hi (by omega)) (hT i a hi ha) (by decide)
        have d2 : decide ((-1 : Int) < 0) = true := rfl
        have d3 : decide (S.T i w * S.T i a < S.T i w * S.T i a) = false := decide_eq_false (Int.lt_irrefl _)
        have d4 : decide ((S.b i : Int) < (S.b i : Int)) = false := decide_eq_false (Int.lt_irrefl _)
        rw [e]
        refine ⟨?_, fun k q => by cases q; exact hi⟩
        simp only [l1_leaving, evX, boI, t0, t1, t2, ng, tb, d1, d2, d3, d4, k1, ite_self]
      | some k =>
        have hk := ho k rfl
        have u0 : ∀ s, dIdx (tI m (w + 1) S.T) (.int (k : Nat)) s = .ok (rI (w + 1) (S.T k)) s := fun s => tI_ix hk s
        have u1 : ∀ s, dIdx (rI (w + 1) (S.T k)) (.int (a : Nat)) s = .ok (.int (S.T k a)) s := fun s => rI_ix ha s
        have ub : ∀ s, dIdx (bI m S.b) (.int (k : Nat)) s = .ok (.int (S.b k : Nat)) s := fun s => bI_ix hk s
        have k1 : okMul (S.T i w) (S.T k a) = true := okMul_of (hT i w hi (by omega)) (hT k a hk ha) (by decide)
        have k2 : okMul (S.T k w) (S.T i a) = true := okMul_of (hT k w hk (by omega)) (hT i a hi ha) (by decide)
        have d2 : decide ((k : Int) < 0) = false := decide_eq_false (by omega)
        have e : lvF w a S (some k) i = if lvB w a S i k then some i else some k := if_pos c
        rw [e]
        refine ⟨?_, fun k' q => by split at q <;> cases q <;> assumption⟩
        by_cases x : S.T i w * S.T k a < S.T k w * S.T i a
        · have d3 : decide (S.T i w * S.T k a < S.T k w * S.T i a) = true := decide_eq_true x
          rw [if_pos (show lvB w a S i k from .inl x)]
          simp only [l1_leaving, evX, boI, t0, t1, t2, ng, tb, d1, d2, d3, k1, k2, u0, u1, ub]
        · have d3 : decide (S.T i w * S.T k a < S.T k w * S.T i a) = false := decide_eq_false x
          by_cases y : S.T i w * S.T k a = S.T k w * S.T i a
          · have d4 : decide (S.T i w * S.T k a = S.T k w * S.T i a) = true := decide_eq_true y
            by_cases z : S.b i < S.b k
            · have d5 : decide ((S.b i : Int) < (S.b k : Int)) = true := decide_eq_true (by omega)
              rw [if_pos (show lvB w a S i k from .inr ⟨y, z⟩)]
              simp only [l1_leaving, evX, boI, t0, t1, t2, ng, tb, d1, d2, d3, d4, d5, k1, k2, u0, u1, ub]
            · have d5 : decide ((S.b i : Int) < (S.b k : Int)) = false := decide_eq_false (by omega)
              rw [if_neg (show ¬ lvB w a S i k from fun q => by rcases q with q | q; exact x q; exact z q.2)]
              simp only [l1_leaving, evX, boI, t0, t1, t2, ng, tb, d1, d2, d3, d4, d5, k1, k2, u0, u1, ub]
          · have d4 : decide (S.T i w * S.T k a = S.T k w * S.T i a) = false := decide_eq_false y
            rw [if_neg (show ¬ lvB w a S i k from fun q => by rcases q with q | q; exact x q; exact y q.1)]
            simp only [l1_leaving, evX, boI, t0, t1, t2, ng, tb, d1, d2, d3, d4, k1, k2, u0, u1, ub]
    · have d1 : decide (0 < S.T i a) = false := decide_eq_false c
      have e : lvF w a S o i = o := if_neg c
      rw [e]
      refine ⟨?_, ho⟩
      simp only [l1_leaving, evX, t0, t1, t2, ng, tb, d1]
  have ln : ∀ s, dLen (tI m (w + 1) S.T) s = .ok (.int (m : Nat)) s := fun s => tI_len s
  have ng : ∀ s, dNegI (.int 1) s = .ok (.int (-1)) s := fun s => rfl
  have fr : ∀ g b ρ s, forRD g b (.int (m : Nat)) ρ s = forL g b ((List.range m).map fun (k : Nat) => D.int k) ρ s := fun g b ρ s => d_forR (by omega)
  have lo : ∀ s, forL (gSet 4) l1_leaving ((List.range m).map fun (k : Nat) => D.int k) [some (tI m (w + 1) S.T), some (bI m S.b), some (.int (a : Nat)), some (.int (-1)), none, none, none] s = .go .nx [some (tI m (w + 1) S.T), some (bI m S.b), some (.int (a : Nat)), some (boI (lvO w a S m)), none, none, none] s := fun s => (hh s).1
  simp only [m_leaving, b_leaving, evX, ln, ng, fr, lo]
end
end PR
set_option maxHeartbeats 4000000
set_option maxHeartbeats 400000
namespace PR
open PySem PySem.Spec PyProof.Rows L2 PL MB
section
variable {n m : Nat} {A : Nat → Nat → Int} {S : SxS}
theorem fs_bd {f : Nat → Rat} {C : Rat} : ∀ {m : Nat}, (∀ k, k < m → -C ≤ f k ∧ f k ≤ C) → -((m : Rat) * C) ≤ fsum f m ∧ fsum f m ≤ (m : Rat) * C
  | 0, _ => by
    have e : ((0 : Nat) : Rat) = 0 := rfl
    show -(((0 : Nat) : Rat) * C) ≤ 0 ∧ 0 ≤ ((0 : Nat) : Rat) * C
    rw [e]
    constructor <;> grind
  | m + 1, h => by
    obtain ⟨h1, h2⟩ := fs_bd (f := f) (C := C) (m := m) fun k hk => h k (by omega)
    obtain ⟨h3, h4⟩ := h m (by omega)
    have e : ((m + 1 : Nat) : Rat) = (m : Rat) + 1 := by
      have := Rat.intCast_add (m : Int) 1
      exact_mod_cast this
    show -(((m + 1 : Nat) : Rat) * C) ≤ fsum f m + f m ∧ fsum f m + f m ≤ ((m + 1 : Nat) : Rat) * C
    rw [e]
    constructor <;> grind
theorem abs_q {z : Int} {C : Nat} : z.natAbs ≤ C ↔ -(((C : Int)) : Rat) ≤ (z : Rat) ∧ (z : Rat) ≤ ((C : Int) : Rat) := by
  rw [← Rat.intCast_neg, Rat.intCast_le_intCast, Rat.intCast_le_intCast]
  omega
theorem Iv.bdP (h : Iv n m A S) {C : Nat} (hg : S.g.natAbs ≤ C) (hT : ∀ i j, i < m → j ≤ n + m → (S.T i j).natAbs ≤ C) {j : Nat} (hj : j ≤ n + m) : (S.P j).natAbs ≤ (m + 1) * C := by
  have hp := h.pr j hj
  have hc : ∀ j, cX n m j = 0 ∨ cX n m j = 1 := fun j => by unfold cX; split; exact .inr rfl; exact .inl rfl
  have e : (S.g : Rat) * dX n m S.b (Qx S) j = (S.g : Rat) * cX n m j - fsum (fun i => cX n m (S.b i) * (S.T i j : Rat)) m := by
    have e1 : fsum (fun i => cX n m (S.b i) * (S.T i j : Rat)) m = (S.g : Rat) * fsum (fun i => cX n m (S.b i) * Qx S i j) m := by
      rw [← fs_mul]
      refine fs_congr fun k _ => ?_
      rw [h.cell (i := k) (j := j)]
      grind
    rw [e1]
    unfold dX
    grind
  have b := fs_bd (f := fun i => cX n m (S.b i) * (S.T i j : Rat)) (C := ((C : Int) : Rat)) (m := m) fun i hi => by
    obtain ⟨q1, q2⟩ := abs_q.mp (hT i j hi hj)
    rcases hc (S.b i) with z | z <;> rw [z] <;> constructor <;> grind
  obtain ⟨g1, g2⟩ := abs_q.mp hg
  rw [abs_q, hp, e]
  have e2 : ((((m + 1) * C : Nat) : Int) : Rat) = (m : Rat) * ((C : Int) : Rat) + ((C : Int) : Rat) := by
    rw [Nat.add_mul, Nat.one_mul, Int.natCast_add, Rat.intCast_add, Int.natCast_mul, Rat.intCast_mul]
    rfl
  rw [e2]
  generalize fsum (fun i => cX n m (S.b i) * (S.T i j : Rat)) m = F at b
  generalize ((C : Int) : Rat) = K at *
  generalize (S.g : Rat) = G at *
  rcases hc j with z | z <;> rw [z] <;> constructor <;> grind
def SxB (n m : Nat) (S : SxS) : Prop := S.g.natAbs < 2 ^ 8000 ∧ (∀ i j, i < m → j < n + m + 1 → (S.T i j).natAbs < 2 ^ 8000) ∧ ∀ j, j < n + m + 1 → (S.P j).natAbs < 2 ^ 8000
theorem Iv.sxB (h : Iv n m A S) {B : Nat} (hb : ∀ l j, l < m → j ≤ n + m → (A l j).natAbs ≤ B) (hB : (m + 1) * (m * B) ^ m < 2 ^ 8000) : SxB n m S := by
  obtain ⟨h1, h2⟩ := h.bd hb
  have h3 : (m * B) ^ m ≤ (m + 1) * (m * B) ^ m := Nat.le_mul_of_pos_left _ (Nat.succ_pos m)
  exact ⟨Nat.lt_of_le_of_lt h1 (Nat.lt_of_le_of_lt h3 hB), fun i j hi hj => Nat.lt_of_le_of_lt (h2 i j hi (by omega)) (Nat.lt_of_le_of_lt h3 hB), fun j hj => Nat.lt_of_le_of_lt (h.bdP h1 h2 (by omega)) hB⟩
def fEn (n m : Nat) (F : D) (S : SxS) : En := [none, none, some F, some (tI m (n + m + 1) S.T), some (.int (n : Nat)), some (bI m S.b), none, some (rI (n + m + 1) S.P), some (.int S.g), some (.lst ((entL n S.P).map fun (k : Nat) => D.int k)), none, none, none, none, none, none]
theorem ok_lendI {l : List D} {r : Int} (h : ∀ x ∈ l, ∃ k, x = D.int k) : okLend l (.int r) = true := by
  cases l with
  | nil => rfl
  | cons x l =>
    obtain ⟨k, rfl⟩ := h x List.mem_cons_self
    rfl
theorem fe_turn (h : Iv n m A S) (hB : SxB n m S) (hn : n + m + 1 ≤ 1000) {F : D} {a : Nat} {l : List Nat} (he : entL n S.P = a :: l) (s : DS) : l1_feasible (fEn n m F S) s = .go .nx (fEn n m F (nxt n m S)) s := by
  obtain ⟨ha, hneg, _⟩ := ent_is he
  obtain ⟨r, hr, hrm, hpos, hle⟩ := h.leaves ha hneg
  have en : nxt n m S = sxS S r a := by unfold nxt; rw [he]; dsimp only; rw [hr]; rfl
  rw [en]
  obtain ⟨bg, bT, bP⟩ := hB
  have i0 : ∀ s, dIdx (.lst (D.int (a : Nat) :: l.map fun (k : Nat) => D.int k)) (.int 0) s = .ok (.int (a : Nat)) s := fun s => by rw [d_idxL, atI_zero]
  have lv := fun s => w_leaving (m := m) (w := n + m) (a := a) (S := S) (by omega) (by omega) bT s
  rw [hr] at lv
  have le : ∀ (A11 : Option D) s, A11 = some (.int (a : Nat)) → cLend 5 (cCall (ar 3 m_leaving) (aCons (cVar 3) (aCons (cVar 5) (aCons (cVar 11) aNil)))) [none, none, some F, some (tI m (n + m + 1) S.T), some (.int (n : Nat)), some (bI m S.b), none, some (rI (n + m + 1) S.P), some (.int S.g), none, none, A11, none, none, none, none] s = .ok (.int (r : Nat)) s := fun A11 s e => by
    subst e
    refine a_lend (l := rw1 m fun i => .int (S.b i : Nat)) rfl ?_ (ok_lendI fun x mx => ?_)
    · simp only [evX, ar, lv, boI]
    · obtain ⟨k, _, rfl⟩ := List.mem_map.mp mx
      exact ⟨_, rfl⟩
  have i3 : ∀ s, dIdx (tI m (n + m + 1) S.T) (.int (r : Nat)) s = .ok (rI (n + m + 1) (S.T r)) s := fun s => tI_ix hrm s
  have ln : ∀ s, dLen (tI m (n + m + 1) S.T) s = .ok (.int (m : Nat)) s := fun s => tI_len s
  have sr : ∀ s, srcRD (.int (m : Nat)) s = .ok ((List.range m).map fun (k : Nat) => D.int k) s := fun s => d_srcR (by omega)
  have sr2 : ∀ s, srcRD (.int (n : Nat)) s = .ok ((List.range n).map fun (k : Nat) => D.int k) s := fun s => d_srcR (by omega)
  have sb : ∀ (R : Nat → Int) s, (∀ j, j < n + m + 1 → (R j).natAbs < 2 ^ 8000) → m_subtracted [rI (n + m + 1) R, rI (n + m + 1) (S.T r), .int (a : Nat), .int S.g] s = .ok (rI (n + m + 1) fun j => (R j * S.T r a - R a * S.T r j) / S.g) s := fun R s hR => w_subtracted hn (by omega) h.pos bg hR (bT r · hrm) s
  have c1 : ∀ s, compR (gSet 6) tYesD (cIf (cTest (cBin dEq (cVar 6) (cVar 12))) (cVar 13) (cCall (ar 4 m_subtracted) (aCons (cBin dIdx (cVar 3) (cVar 6)) (aCons (cVar 13) (aCons (cVar 11) (aCons (cVar 8) aNil)))))) [none, none, some F, some (tI m (n + m + 1) S.T), some (.int (n : Nat)), some (bI m S.b), none, some (rI (n + m + 1) S.P), some (.int S.g), none, none, some (.int (a : Nat)), some (.int (r : Nat)), some (rI (n + m + 1) (S.T r)), none, none] ((List.range m).map fun (k : Nat) => D.int k) s = .ok (tI m (n + m + 1) (sxS S r a).T) s := fun s =>
    c_rng (fun i => rI (n + m + 1) ((sxS S r a).T i)) (by omega) fun i hi s => by
      have it : ∀ s, dIdx (tI m (n + m + 1) S.T) (.int (i : Nat)) s = .ok (rI (n + m + 1) (S.T i)) s := fun s => tI_ix hi s
      by_cases c : i = r
      · have d1 : decide ((i : Int) = (r : Int)) = true := decide_eq_true (by omega)
        have e : (sxS S r a).T i = S.T r := by funext j; exact if_pos c
        rw [e]
        simp only [evX, d1]
      · have d1 : decide ((i : Int) = (r : Int)) = false := decide_eq_false (by omega)
        have e : (sxS S r a).T i = fun j => (S.T i j * S.T r a - S.T i a * S.T r j) / S.g := by funext j; exact if_neg c
        rw [e]
        simp only [evX, ar, d1, it, sb (S.T i) _ fun j hj => bT i j hi hj]
  have c2 : ∀ A3 A5 A8 s, compR (gSet 10) (cTest (cBin dLt (cBin dIdx (cVar 7) (cVar 10)) (cC (.int 0)))) (cVar 10) [none, none, some F, A3, some (.int (n : Nat)), A5, none, some (rI (n + m + 1) (sxS S r a).P), A8, none, none, none, none, none, none, none] ((List.range n).map fun (k : Nat) => D.int k) s = .ok (.lst ((entL n (sxS S r a).P).map fun (k : Nat) => D.int k)) s := fun A3 A5 A8 s =>
    c_filter (fun j => decide ((sxS S r a).P j < 0)) _ (by rw [List.length_range]; omega) (fun j mj s => by
      have hj := List.mem_range.mp mj
      have ip : ∀ s, dIdx (rI (n + m + 1) (sxS S r a).P) (.int (j : Nat)) s = .ok (.int ((sxS S r a).P j)) s := fun s => rI_ix (by omega) s
      simp only [evX, ip]) fun j mj _ s => by simp only [evX]
  have ih : ∀ s, dIdx (rI (n + m + 1) (S.T r)) (.int (a : Nat)) s = .ok (.int (S.T r a)) s := fun s => rI_ix (by omega) s
  have sp : ∀ s, m_subtracted [rI (n + m + 1) S.P, rI (n + m + 1) (S.T r), .int (a : Nat), .int S.g] s = .ok (rI (n + m + 1) (sxS S r a).P) s := fun s => sb S.P s bP
  have up : ∀ (A3 A7 A8 : Option D) s, sAsgT (uAt 5 (cVar 12)) (cVar 11) [none, none, some F, A3, some (.int (n : Nat)), some (bI m S.b), none, A7, A8, none, none, some (.int (a : Nat)), some (.int (r : Nat)), none, none, none] s = .go .nx [none, none, some F, A3, some (.int (n : Nat)), some (bI m (sxS S r a).b), none, A7, A8, none, none, some (.int (a : Nat)), some (.int (r : Nat)), none, none, none] s := fun A3 A7 A8 s => by
    have ev : ∀ (ρ : En) s, ρ[11]? = some (some (D.int (a : Nat))) → cVar 11 ρ s = .ok (.int (a : Nat)) s := fun ρ s e => by
      unfold cVar
      rw [e]
      rfl
    rw [a_asgT, ev _ _ rfl, re_ok, a_uAtG (i := 5) (l := rw1 m fun i => .int (S.b i : Nat)) (a := r) rfl (by rfl) (by rw [rw1_length]; exact hrm), rw1_set]
    have e : (rw1 m fun y => if y = r then D.int (a : Nat) else D.int (S.b y : Nat)) = rw1 m fun y => D.int ((sxS S r a).b y : Nat) := rw1_congr fun x _ => by
      show _ = D.int ((pvB S.b r a x : Nat) : Int)
      unfold pvB
      split <;> rfl
    rw [e]
    rfl
  unfold fEn
  rw [he]
  simp only [l1_feasible, evX, ar, i0, le, i3, ln, sr, c1, sp, ih, up, sr2, c2]
  rfl
theorem it_sh : ∀ (k : Nat) (S : SxS), itX n m S (k + 1) = itX n m (nxt n m S) k
  | 0, _ => rfl
  | k + 1, S => by
    show nxt n m (itX n m S (k + 1)) = nxt n m (itX n m (nxt n m S) k)
    rw [it_sh k S]
theorem fe_while {B : Nat} (hb : ∀ l j, l < m → j ≤ n + m → (A l j).natAbs ≤ B) (hB : (m + 1) * (m * B) ^ m < 2 ^ 8000) (hn : n + m + 1 ≤ 1000) {F : D} : ∀ (k : Nat) {S : SxS}, Iv n m A S → entL n (itX n m S k).P = [] → ∃ fin N, Iv n m A fin ∧ entL n fin.P = [] ∧ ∀ s, WhileN (cTest (cBin dGt (cUn dLen (cVar 9)) (cC (.int 0)))) l1_feasible N (fEn n m F S) s (.go .nx (fEn n m F fin) s) := fun k => by
  have tst : ∀ (S : SxS) s, cTest (cBin dGt (cUn dLen (cVar 9)) (cC (.int 0))) (fEn n m F S) s = .ok (decide (0 < ((entL n S.P).length : Int))) s := fun S s => by
    have ln : ∀ s, dLen (.lst ((entL n S.P).map fun (k : Nat) => D.int k)) s = .ok (.int ((entL n S.P).length : Nat)) s := fun s => by rw [d_lenL, List.length_map]
    unfold fEn
    simp only [evX, ln]
  have stop : ∀ {S : SxS}, Iv n m A S → entL n S.P = [] → ∃ fin N, Iv n m A fin ∧ entL n fin.P = [] ∧ ∀ s, WhileN (cTest (cBin dGt (cUn dLen (cVar 9)) (cC (.int 0)))) l1_feasible N (fEn n m F S) s (.go .nx (fEn n m F fin) s) := fun {S} h e => ⟨S, 0, h, e, fun s => .stop (by rw [tst, e]; rfl)⟩
  induction k with
  | zero => intro S h e; exact stop h e
  | succ k ih =>
    intro S h e
    cases c : entL n S.P with
    | nil => exact stop h c
    | cons a l =>
      rw [it_sh] at e
      obtain ⟨fin, N, h1, h2, h3⟩ := ih h.next e
      refine ⟨fin, N + 1, h1, h2, fun s => .turn (s1 := s) (s2 := s) ?_ (fe_turn h (h.sxB hb hB) hn c s) (.inl rfl) (h3 s)⟩
      rw [tst, c]
      exact congrArg (fun b => R.ok b s) (decide_eq_true (show (0 : Int) < (((a :: l).length : Nat) : Int) by rw [List.length_cons]; omega))
end
end PR
set_option maxHeartbeats 4000000
set_option maxHeartbeats 400000
namespace PR
open PySem PySem.Spec PyProof.Rows L2 PL MB
section
def zS (f : Nat → Int) (m : Nat) : Int := ((List.range m).map f).sum
theorem zS_is (f : Nat → Int) : ∀ m, ((zS f m : Int) : Rat) = fsum (fun i => (f i : Rat)) m
  | 0 => rfl
  | m + 1 => by
    have e : zS f (m + 1) = zS f m + f m := by
      unfold zS
      rw [List.range_succ, List.map_append, List.sum_append]
      simp
    show _ = fsum (fun i => (f i : Rat)) m + (f m : Rat)
    rw [e, Rat.intCast_add, zS_is f m]
def PZ (A : Nat → Nat → Int) (n m j : Nat) : Int := (if n ≤ j ∧ j < n + m then 1 else 0) - zS (fun i => A i j) m
theorem PZ_is (A : Nat → Nat → Int) (n m j : Nat) : (PZ A n m j : Rat) = cX n m j - fsum (fun i => AQ A i j) m := by
  have h := zS_is (fun i => A i j) m
  unfold PZ cX
  rw [Rat.intCast_sub, h]
  congr 1
  split <;> rfl
theorem a_ch3 {x y z : EX} {ρ : En} {s : DS} {a b c : Int} (h1 : x ρ s = .ok (.int a) s) (h2 : y ρ s = .ok (.int b) s) (h3 : z ρ s = .ok (.int c) s) : cChain dLe dLt x y z ρ s = .ok (.bl (decide (a ≤ b) && decide (b < c))) s := by
  have e : dLe (.int a) (.int b) s = .ok (.bl (decide (a ≤ b))) s := by simp only [evX]
  have e2 : dLt (.int b) (.int c) s = .ok (.bl (decide (b < c))) s := by simp only [evX]
  unfold cChain
  show M.bnd (x ρ) _ s = _
  unfold M.bnd
  rw [h1]
  show M.bnd (y ρ) _ s = _
  unfold M.bnd
  rw [h2]
  show M.bnd (dLe (.int a) (.int b)) _ s = _
  unfold M.bnd
  rw [e]
  cases decide (a ≤ b) with
  | false => rfl
  | true =>
    show M.bnd (z ρ) _ s = _
    unfold M.bnd
    rw [h3]
    exact e2
theorem fl_ap7 {E : List D → En} {i : Nat} {b : SX} {g : Nat → D} {n : Nat} {s : DS} (hb : ∀ j, j < n → b ((E (rw1 j g)).set i (some (.int (j : Nat)))) s = .go .nx (E (rw1 j g ++ [g j])) s) : forL (gSet i) b ((List.range n).map fun (k : Nat) => D.int k) (E []) s = .go .nx (E (rw1 n g)) s := by
  have key : ∀ (q d : Nat), d + q ≤ n → forL (gSet i) b ((List.range' d q).map fun (k : Nat) => D.int k) (E (rw1 d g)) s = .go .nx (E (rw1 (d + q) g)) s := fun q => by
    induction q with
    | zero => intro d _; rfl
    | succ q ih =>
      intro d hd
      have e : rw1 d g ++ [g d] = rw1 (d + 1) g := by unfold rw1; rw [List.range_succ, List.map_append]; rfl
      rw [List.range'_succ, List.map_cons, fl_cons, hb d (by omega), lp_nx, e, ih (d + 1) (by omega), Nat.add_right_comm]
      rfl
  rw [List.range_eq_range']
  have := key n 0 (by omega)
  rw [Nat.zero_add] at this
  exact this
theorem ap_x {l : List D} {d : D} {ρ : En} {s : DS} {i : Nat} {e : EX} (h1 : ρ[i]? = some (some (.lst l))) (h2 : e ρ s = .ok d s) (hl : l.length < 1000000) : sApp i e ρ s = .go .nx (ρ.set i (some (.lst (l ++ [d])))) s := by
  unfold sApp
  rw [h1]
  dsimp only
  rw [h2, re_ok, if_pos hl]
theorem w_costs {n m : Nat} {A : Nat → Nat → Int} (hn : n + m + 1 ≤ 1000) (s : DS) : m_costs [tI m (n + m + 1) A, .int (n : Nat)] s = .ok (rI (n + m + 1) (PZ A n m)) s := by
  have it : itemsOf (tI m (n + m + 1) A) = some (rw1 m fun i => rI (n + m + 1) (A i)) := rfl
  have lo := fun s => fl_ap7 (E := fun l => [some (tI m (n + m + 1) A), some (.int (n : Nat)), some (.int ((n + m + 1 : Nat) : Int)), some (.lst l), none, none]) (i := 4) (b := l1_costs) (s := s) (g := fun j => .int (PZ A n m j)) (n := n + m + 1) fun j hj => by
    obtain ⟨l, el⟩ : ∃ l, l = rw1 j fun j => D.int (PZ A n m j) := ⟨_, rfl⟩
    have hl : l.length < 1000000 := by rw [el, rw1_length]; omega
    rw [← el]
    have cc : ∀ A3 s, compR (gSet 5) tYesD (cBin dIdx (cVar 5) (cVar 4)) [some (tI m (n + m + 1) A), some (.int (n : Nat)), some (.int ((n + m + 1 : Nat) : Int)), A3, some (.int (j : Nat)), none] (rw1 m fun i => rI (n + m + 1) (A i)) s = .ok (.lst (((List.range m).map fun i => A i j).map D.int)) s := fun A3 s => by
      rw [List.map_map]
      refine c_rw (fun i => .int (A i j)) (by omega) fun i hi s => ?_
      have ij : ∀ s, dIdx (rI (n + m + 1) (A i)) (.int (j : Nat)) s = .ok (.int (A i j)) s := fun s => rI_ix hj s
      simp only [evX, ij]
    have ch : ∀ A3 s, cChain dLe dLt (cVar 1) (cVar 4) (cBin dSubI (cVar 2) (cC (.int 1))) [some (tI m (n + m + 1) A), some (.int (n : Nat)), some (.int ((n + m + 1 : Nat) : Int)), A3, some (.int (j : Nat)), none] s = .ok (.bl (decide ((n : Int) ≤ (j : Int)) && decide ((j : Int) < ((n + m + 1 : Nat) : Int) - 1))) s := fun A3 s => a_ch3 (by simp only [evX]) (by simp only [evX]) (by simp only [evX])
    have e : ((if (decide ((n : Int) ≤ (j : Int)) && decide ((j : Int) < ((n + m + 1 : Nat) : Int) - 1)) = true then 1 else 0) : Int) = if n ≤ j ∧ j < n + m then 1 else 0 := by
      by_cases c : n ≤ j ∧ j < n + m
      · rw [if_pos c, if_pos (by rw [Bool.and_eq_true_iff]; exact ⟨decide_eq_true (by omega), decide_eq_true (by omega)⟩)]
      · rw [if_neg c, if_neg (by rw [Bool.and_eq_true_iff]; exact fun z => c ⟨by have := of_decide_eq_true z.1; omega, by have := of_decide_eq_true z.2; omega⟩)]
    have ev : ∀ s, cBin dSubI (cUn dInt (cChain dLe dLt (cVar 1) (cVar 4) (cBin dSubI (cVar 2) (cC (.int 1))))) (cUn dSum (cComp (srcSeq (cVar 0)) (gSet 5) tYesD (cBin dIdx (cVar 5) (cVar 4)) [5])) [some (tI m (n + m + 1) A), some (.int (n : Nat)), some (.int ((n + m + 1 : Nat) : Int)), some (.lst l), some (.int (j : Nat)), none] s = .ok (.int (PZ A n m j)) s := fun s => by
      have di : ∀ b s, dInt (.bl b) s = .ok (.int (if b = true then 1 else 0)) s := fun b s => rfl
      have cc := fun s => cc (some (.lst l)) s
      have ch := fun s => ch (some (.lst l)) s
      simp only [evX, ch, di, e, it, cc, d_sum]
      rfl
    show l1_costs [some (tI m (n + m + 1) A), some (.int (n : Nat)), some (.int ((n + m + 1 : Nat) : Int)), some (.lst l), some (.int (j : Nat)), none] s = _
    unfold l1_costs
    rw [a_wipe, ap_x (l := l) rfl (ev s) hl]
    rfl
  have ln : ∀ s, dLen (tI m (n + m + 1) A) s = .ok (.int (m : Nat)) s := fun s => tI_len s
  have ad : ∀ (a b : Int) s, dAddL (.int a) (.int b) s = .ok (.int (a + b)) s := fun a b s => rfl
  have fr : ∀ g b ρ s, forRD g b (.int ((n : Int) + (m : Int) + 1)) ρ s = forL g b ((List.range (n + m + 1)).map fun (k : Nat) => D.int k) ρ s := fun g b ρ s => d_forR (n := n + m + 1) (by omega)
  have l2 : ∀ s, forL (gSet 4) l1_costs ((List.range (n + m + 1)).map fun (k : Nat) => D.int k) [some (tI m (n + m + 1) A), some (.int (n : Nat)), some (.int ((n : Int) + (m : Int) + 1)), some (.lst []), none, none] s = .go .nx [some (tI m (n + m + 1) A), some (.int (n : Nat)), some (.int ((n + m + 1 : Nat) : Int)), some (rI (n + m + 1) (PZ A n m)), none, none] s := fun s => by
    exact lo s
  have l0 : (0 : Nat) ≤ 1000000 := by decide
  simp only [m_costs, b_costs, evX, ln, ad, fr, l2, l0]
end
end PR
set_option maxHeartbeats 4000000
set_option maxHeartbeats 400000
namespace PR
open PySem PySem.Spec PyProof.Rows L2 PL MB
section
def lcF (q : Nat → Rat) (k : Nat) : Nat := (List.range k).foldl (fun L j => Nat.lcm L (q j).den) 1
theorem lcF_succ (q : Nat → Rat) (k : Nat) : lcF q (k + 1) = Nat.lcm (lcF q k) (q k).den := by
  unfold lcF
  rw [List.range_succ, List.foldl_append]
  rfl
theorem lcF_pos (q : Nat → Rat) : ∀ k, 0 < lcF q k
  | 0 => Nat.one_pos
  | k + 1 => by rw [lcF_succ]; exact Nat.lcm_pos (lcF_pos q k) (q k).den_pos
theorem lcF_dvd (q : Nat → Rat) : ∀ {k j : Nat}, j < k → (q j).den ∣ lcF q k
  | 0, _, h => absurd h (Nat.not_lt_zero _)
  | k + 1, j, h => by
    rw [lcF_succ]
    by_cases c : j = k
    · rw [c]; exact Nat.dvd_lcm_right _ _
    · exact Nat.dvd_trans (lcF_dvd q (by omega)) (Nat.dvd_lcm_left _ _)
theorem lcF_le {q : Nat → Rat} {D : Nat} : ∀ {k : Nat}, (∀ j, j < k → (q j).den ∣ D) → lcF q k ∣ D
  | 0, _ => Nat.one_dvd _
  | k + 1, h => by
    rw [lcF_succ]
    exact Nat.lcm_dvd (lcF_le fun j hj => h j (by omega)) (h k (by omega))
def rfZ (q : Nat → Rat) (k : Nat) : Int := if q k < 0 then -(lcF q (k + 1) : Int) else lcF q (k + 1)
theorem rfZ_abs (q : Nat → Rat) (k : Nat) : (rfZ q k).natAbs = lcF q (k + 1) := by unfold rfZ; split <;> omega
theorem sgn_lt (p : Rat) : decide (sgn p < 0) = decide (p < 0) := by
  unfold sgn
  by_cases c : p < 0
  · have h : ¬ 0 < p := by grind
    rw [if_pos c, if_neg h, decide_eq_true c]
    rfl
  · rw [if_neg c, decide_eq_false c]
    split <;> rfl
theorem w_row_factor {k N : Nat} {q : Nat → Rat} (hk : k < 1000) (hD : 0 < N) (hD2 : N < 2 ^ 63) (hd : ∀ j, j < k + 1 → (q j).den ∣ N) (s : DS) : m_row_factor [.lst (rw1 (k + 1) fun j => .rat (q j))] s = .ok (.int (rfZ q k)) s := by
  have it : itemsOf (.lst (rw1 (k + 1) fun j => D.rat (q j))) = some (rw1 (k + 1) fun j => .rat (q j)) := rfl
  have lo := fun s => sx_fold (σ := Nat) (α := Nat) (E := fun L => [some (.lst (rw1 (k + 1) fun j => .rat (q j))), some (.int (L : Nat)), none]) (h := fun j => D.rat (q j)) (i := 2) (b := l1_row_factor) (s := s) (fun L => L ∣ N) (fun L j => Nat.lcm L (q j).den) (List.range (k + 1)) 1 (Nat.one_dvd _) fun j mj L hL => by
    have hj := List.mem_range.mp mj
    refine ⟨?_, Nat.lcm_dvd hL (hd j hj)⟩
    have f1 : ∀ s, dFldD (.rat (q j)) s = .ok (.int ((q j).den : Int)) s := fun s => rfl
    have l1 : ∀ s, dLcm (.int (L : Nat)) (.int ((q j).den : Int)) s = .ok (.int ((Nat.lcm L (q j).den : Nat) : Int)) s := fun s => by
      have := d_lcm (i := (L : Int)) (j := ((q j).den : Int)) (s := s) (by have := Nat.le_of_dvd hD hL; omega) (by have := Nat.le_of_dvd hD (hd j hj); omega)
      rw [this]
      rfl
    simp only [l1_row_factor, evX, f1, l1]
  have l2 : ∀ s, forL (gSet 2) l1_row_factor (rw1 (k + 1) fun j => .rat (q j)) [some (.lst (rw1 (k + 1) fun j => .rat (q j))), some (.int 1), none] s = .go .nx [some (.lst (rw1 (k + 1) fun j => .rat (q j))), some (.int (lcF q (k + 1) : Nat)), none] s := fun s => (lo s).1
  have ng : ∀ s, dNegI (.int 1) s = .ok (.int (-1)) s := fun s => rfl
  have la : ∀ s, dIdx (.lst (rw1 (k + 1) fun j => .rat (q j))) (.int (-1)) s = .ok (.rat (q k)) s := fun s => by
    have : atI (rw1 (k + 1) fun j => D.rat (q j)) (-1) = some (.rat (q k)) := by
      unfold atI
      rw [rw1_length, ixN_last]
      exact rw1_get (Nat.lt_succ_self k)
    rw [d_idxL, this]
  have ng2 : ∀ (z : Int) s, dNeg (.int z) s = .ok (.int (-z)) s := fun z s => rfl
  have sg := fun s => w_sign (q k) s
  by_cases c : q k < 0
  · have d1 : decide (sgn (q k) < 0) = true := by rw [sgn_lt]; exact decide_eq_true c
    have e : rfZ q k = -(lcF q (k + 1) : Int) := if_pos c
    rw [e]
    simp only [m_row_factor, b_row_factor, evX, Tag.is, ar, List.length_cons, List.length_nil, it, l2, ng, la, sg, d1, ng2]
  · have d1 : decide (sgn (q k) < 0) = false := by rw [sgn_lt]; exact decide_eq_false c
    have e : rfZ q k = (lcF q (k + 1) : Int) := if_neg c
    rw [e]
    simp only [m_row_factor, b_row_factor, evX, Tag.is, ar, List.length_cons, List.length_nil, it, l2, ng, la, sg, d1, ng2]
def eZ (q : Nat → Rat) (k j : Nat) : Int := (q j).num * (rfZ q k / ((q j).den : Int))
theorem eZ_is {q : Nat → Rat} {k j : Nat} (h : j < k + 1) : (eZ q k j : Rat) = (rfZ q k : Rat) * q j := by
  have h1 : ((q j).den : Int) ∣ rfZ q k := Int.ofNat_dvd_left.mpr (by rw [rfZ_abs]; exact lcF_dvd q h)
  obtain ⟨c, hc⟩ := h1
  have hd : ((q j).den : Int) ≠ 0 := by have := (q j).den_pos; omega
  have e : rfZ q k / ((q j).den : Int) = c := by rw [hc]; exact Int.mul_ediv_cancel_left _ hd
  have e2 : q j = ((q j).num : Rat) / (((q j).den : Int) : Rat) := by
    conv => lhs; rw [← Rat.num_divInt_den (q j), Rat.divInt_eq_div]
  unfold eZ
  rw [e, hc, Rat.intCast_mul, Rat.intCast_mul]
  have h3 : (((q j).den : Int) : Rat) ≠ 0 := fun z => hd (Rat.intCast_inj.mp z)
  conv => rhs; rw [e2]
  grind
theorem eZ_last {q : Nat → Rat} {k : Nat} : 0 ≤ eZ q k k := by
  have h := eZ_is (q := q) (k := k) (j := k) (Nat.lt_succ_self k)
  have hp := lcF_pos q (k + 1)
  have h0 : (0 : Rat) < ((lcF q (k + 1) : Int) : Rat) := Rat.intCast_pos.mpr (by omega)
  have : (0 : Rat) ≤ (eZ q k k : Rat) := by
    rw [h]
    unfold rfZ
    by_cases c : q k < 0
    · rw [if_pos c, Rat.intCast_neg]
      have := Rat.mul_nonneg (Rat.le_of_lt h0) (show 0 ≤ -(q k) by grind)
      grind
    · rw [if_neg c]
      exact Rat.mul_nonneg (Rat.le_of_lt h0) (by grind)
  have e0 : ((0 : Int) : Rat) = 0 := rfl
  rw [← e0] at this
  exact Rat.intCast_le_intCast.mp this
def AZ (q : Nat → Nat → Rat) (n m i j : Nat) : Int := if j < n then eZ (q i) n j else if j < n + m then (if i = j - n then 1 else 0) else eZ (q i) n n
end
end PR
set_option maxHeartbeats 4000000
set_option maxHeartbeats 400000
namespace PR
open PySem PySem.Spec PyProof.Rows L2 PL MB
section
theorem fl_ix {E : Nat → En} {i : Nat} {b : SX} {n : Nat} {s : DS} (hb : ∀ j, j < n → b ((E j).set i (some (.int (j : Nat)))) s = .go .nx (E (j + 1)) s) : forL (gSet i) b ((List.range n).map fun (k : Nat) => D.int k) (E 0) s = .go .nx (E n) s := by
  have key : ∀ (q d : Nat), d + q ≤ n → forL (gSet i) b ((List.range' d q).map fun (k : Nat) => D.int k) (E d) s = .go .nx (E (d + q)) s := fun q => by
    induction q with
    | zero => intro d _; rfl
    | succ q ih =>
      intro d hd
      rw [List.range'_succ, List.map_cons, fl_cons, hb d (by omega), lp_nx, ih (d + 1) (by omega), Nat.add_right_comm]
      rfl
  rw [List.range_eq_range']
  have := key n 0 (by omega)
  rw [Nat.zero_add] at this
  exact this
theorem rw_app {n k : Nat} {f g : Nat → D} : rw1 n f ++ rw1 k g = rw1 (n + k) fun j => if j < n then f j else g (j - n) := by
  apply List.ext_getElem?
  intro x
  have gt : ∀ (n : Nat) (f : Nat → D) (x : Nat), (rw1 n f)[x]? = if x < n then some (f x) else none := fun n f x => by
    by_cases c : x < n
    · rw [if_pos c, rw1_get c]
    · rw [if_neg c]
      exact List.getElem?_eq_none (by rw [rw1_length]; omega)
  rw [List.getElem?_append, rw1_length]
  by_cases c : x < n
  · rw [if_pos c, gt, gt, if_pos c, if_pos (by omega), if_pos c]
  · rw [if_neg c, gt, gt]
    by_cases c2 : x < n + k
    · rw [if_pos c2, if_pos (by omega), if_neg c]
    · rw [if_neg c2, if_neg (by omega)]
theorem cut_last (n : Nat) (f : Nat → D) : PL.cutD (rw1 (n + 1) f) (some (-1)) none = [f n] := by
  have h2 : HT.sIx (rw1 (n + 1) f).length 0 (some (-1)) = n := by
    rw [rw1_length]
    show (if (-1 : Int) < 0 then ((-1 : Int) + ((n + 1 : Nat) : Int)).toNat else min (-1 : Int).toNat (n + 1)) = _
    rw [if_pos (by decide)]
    omega
  have h1 : HT.sIx (rw1 (n + 1) f).length (rw1 (n + 1) f).length none = n + 1 := by
    rw [rw1_length]; rfl
  unfold PL.cutD
  rw [h1, h2]
  have e : rw1 (n + 1) f = rw1 n f ++ [f n] := by unfold rw1; rw [List.range_succ, List.map_append]; rfl
  rw [e]
  have : (rw1 n f).length = n := rw1_length n f
  simp [this, List.drop_append, List.take_append]
theorem cut_ini (n : Nat) (f : Nat → D) : PL.cutD (rw1 (n + 1) f) none (some (-1)) = rw1 n f := by
  rw [cut_init, rw1_length]
  unfold rw1
  rw [← List.map_take, List.take_range]
  congr 2
  omega
theorem row_split {n m i : Nat} (q : Nat → Nat → Rat) : rw1 n (fun j => D.int (eZ (q i) n j)) ++ (rw1 m (fun k => D.int (if k = i then 1 else 0)) ++ [D.int (eZ (q i) n n)]) = rw1 (n + m + 1) fun j => .int (AZ q n m i j) := by
  have e1 : [D.int (eZ (q i) n n)] = rw1 1 fun _ => .int (eZ (q i) n n) := rfl
  rw [e1, rw_app, rw_app]
  rw [Nat.add_assoc]
  refine rw1_congr fun j hj => ?_
  unfold AZ
  by_cases c : j < n
  · rw [if_pos c, if_pos c]
  · rw [if_neg c, if_neg c]
    by_cases c2 : j < n + m
    · rw [if_pos (by omega), if_pos c2]
      by_cases c3 : i = j - n
      · rw [if_pos c3, if_pos c3.symm]
      · rw [if_neg c3, if_neg fun z => c3 z.symm]
    · rw [if_neg (by omega), if_neg c2]
structure Cols (n m N B : Nat) (q : Nat → Nat → Rat) (cols : D) (C : Nat → D) (R : D) : Prop where
  nm : n + m + 1 ≤ 1000
  it : itemsOf cols = some (rw1 n C)
  ln : ∀ s, dLen cols s = .ok (.int (n : Nat)) s
  col : ∀ j i s, j < n → i < m → dIdx (C j) (.int (i : Nat)) s = .ok (.rat (q i j)) s
  rt : ∀ i s, i < m → dIdx R (.int (i : Nat)) s = .ok (.rat (q i n)) s
  lr : ∀ s, dLen R s = .ok (.int (m : Nat)) s
  N0 : 0 < N
  N1 : N < 2 ^ 63
  den : ∀ i j, i < m → j < n + 1 → (q i j).den ∣ N
  num : ∀ i j, i < m → j < n + 1 → (q i j).num.natAbs ≤ B
  B1 : B < 2 ^ 4000
variable {n m N B : Nat} {q : Nat → Nat → Rat} {cols R : D} {C : Nat → D}
theorem Cols.fac (h : Cols n m N B q cols C R) {i : Nat} (hi : i < m) : (rfZ (q i) n).natAbs ≤ N := by
  rw [rfZ_abs]
  exact Nat.le_of_dvd h.N0 (lcF_le fun j hj => h.den i j hi hj)
theorem Cols.bd (h : Cols n m N B q cols C R) {i : Nat} (hi : i < m) {j : Nat} (hj : j ≤ n + m) : (AZ q n m i j).natAbs ≤ B * N + 1 := by
  have key : ∀ j, j < n + 1 → (eZ (q i) n j).natAbs ≤ B * N := fun j hj => by
    unfold eZ
    rw [Int.natAbs_mul]
    refine Nat.mul_le_mul (h.num i j hi hj) (Nat.le_trans ?_ (h.fac hi))
    rw [Int.natAbs_ediv_of_dvd]
    · exact Nat.div_le_self _ _
    · exact Int.ofNat_dvd_left.mpr (by rw [rfZ_abs]; exact lcF_dvd _ hj)
  unfold AZ
  split
  · have := key j (by omega); omega
  · split
    · split <;> simp
    · have := key n (by omega); omega
theorem w_starting (h : Cols n m N B q cols C R) (s : DS) : m_starting [cols, R] s = .ok (.tup [.lst (rw1 m fun i => .int (rfZ (q i) n)), tI m (n + m + 1) (AZ q n m)]) s := by
  have hnm := h.nm
  have lo := fun s => fl_ix (E := fun j => [some cols, some R, some (.lst (rw1 j fun i => .int (rfZ (q i) n))), some (.lst (rw1 j fun i => rI (n + m + 1) (AZ q n m i))), none, none, none, none, none, none, none, none]) (i := 4) (b := l1_starting) (n := m) (s := s) fun i hi => by
    obtain ⟨F, eF⟩ : ∃ F, F = rw1 i fun i => D.int (rfZ (q i) n) := ⟨_, rfl⟩
    obtain ⟨G, eG⟩ : ∃ G, G = rw1 i fun i => rI (n + m + 1) (AZ q n m i) := ⟨_, rfl⟩
    have hF : F.length < 1000000 := by rw [eF, rw1_length]; omega
    have hG : G.length < 1000000 := by rw [eG, rw1_length]; omega
    have sF : (rw1 (i + 1) fun i => D.int (rfZ (q i) n)) = F ++ [.int (rfZ (q i) n)] := by rw [eF]; unfold rw1; rw [List.range_succ, List.map_append]; rfl
    have sG : (rw1 (i + 1) fun i => rI (n + m + 1) (AZ q n m i)) = G ++ [rI (n + m + 1) (AZ q n m i)] := by rw [eG]; unfold rw1; rw [List.range_succ, List.map_append]; rfl
    rw [sF, sG, ← eF, ← eG]
    have it := h.it
    have c5 : ∀ A2 A3 s, compR (gSet 6) tYesD (cBin dIdx (cVar 6) (cVar 4)) [some cols, some R, A2, A3, some (.int (i : Nat)), none, none, none, none, none, none, none] (rw1 n C) s = .ok (.lst (rw1 n fun j => .rat (q i j))) s := fun A2 A3 s =>
      c_rw _ (by omega) fun j hj s => by
        have e := fun s => h.col j i s hj hi
        simp only [evX, e]
    have ri := fun s => h.rt i s hi
    have ad : ∀ s, dAddL (.lst (rw1 n fun j => .rat (q i j))) (.lst [.rat (q i n)]) s = .ok (.lst (rw1 (n + 1) fun j => .rat (q i j))) s := fun s => by
      rw [d_addLL (by rw [rw1_length]; simp; omega)]
      have e : (rw1 (n + 1) fun j => D.rat (q i j)) = (rw1 n fun j => D.rat (q i j)) ++ [.rat (q i n)] := by unfold rw1; rw [List.range_succ, List.map_append]; rfl
      rw [e]
    have rf := fun s => w_row_factor (k := n) (N := N) (q := q i) (by omega) h.N0 h.N1 (fun j hj => h.den i j hi hj) s
    have it2 : itemsOf (.lst (rw1 (n + 1) fun j => D.rat (q i j))) = some (rw1 (n + 1) fun j => .rat (q i j)) := rfl
    have c8 : ∀ A2 A3 A5 s, compR (gSet 9) tYesD (cBin dMul (cUn dFldN (cVar 9)) (cBin dFdiv (cVar 7) (cUn dFldD (cVar 9)))) [some cols, some R, A2, A3, some (.int (i : Nat)), A5, none, some (.int (rfZ (q i) n)), none, none, none, none] (rw1 (n + 1) fun j => .rat (q i j)) s = .ok (.lst (rw1 (n + 1) fun j => .int (eZ (q i) n j))) s := fun A2 A3 A5 s =>
      c_rw _ (by omega) fun j hj s => by
        have f0 : ∀ s, dFldN (.rat (q i j)) s = .ok (.int (q i j).num) s := fun s => rfl
        have f1 : ∀ s, dFldD (.rat (q i j)) s = .ok (.int ((q i j).den : Int)) s := fun s => rfl
        have hdn : (q i j).den < 2 ^ 63 := Nat.lt_of_le_of_lt (Nat.le_of_dvd h.N0 (h.den i j hi hj)) h.N1
        have kd : okDiv ((q i j).den : Int) = true := by
          unfold okDiv
          rw [Bool.and_eq_true_iff]
          exact ⟨decide_eq_true (by have := (q i j).den_pos; omega), decide_eq_true (log_of (k := 63) (by omega) (by decide))⟩
        have km : okMul (q i j).num (rfZ (q i) n / ((q i j).den : Int)) = true := by
          refine okMul_of (a := 4000) (b := 63) (Nat.lt_of_le_of_lt (h.num i j hi hj) h.B1) ?_ (by decide)
          rw [Int.natAbs_ediv_of_dvd (Int.ofNat_dvd_left.mpr (by rw [rfZ_abs]; exact lcF_dvd _ hj))]
          exact Nat.lt_of_le_of_lt (Nat.div_le_self _ _) (Nat.lt_of_le_of_lt (h.fac hi) h.N1)
        simp only [evX, f0, f1, d_fdiv, kd, km]
        rfl
    have lr := h.lr
    have sr : ∀ s, srcRD (.int (m : Nat)) s = .ok ((List.range m).map fun (k : Nat) => D.int k) s := fun s => d_srcR (by omega)
    have c10 : ∀ A2 A3 A8 s, compR (gSet 11) tYesD (cUn dInt (cBin dEq (cVar 11) (cVar 4))) [some cols, some R, A2, A3, some (.int (i : Nat)), none, none, some (.int (rfZ (q i) n)), A8, none, none, none] ((List.range m).map fun (k : Nat) => D.int k) s = .ok (.lst (rw1 m fun k => .int (if k = i then 1 else 0))) s := fun A2 A3 A8 s =>
      c_rng _ (by omega) fun k hk s => by
        have di : ∀ b s, dInt (.bl b) s = .ok (.int (if b = true then 1 else 0)) s := fun b s => rfl
        by_cases c : k = i
        · have d1 : decide ((k : Int) = (i : Int)) = true := decide_eq_true (by omega)
          rw [if_pos c]
          simp only [evX, d1, di]
        · have d1 : decide ((k : Int) = (i : Int)) = false := decide_eq_false (by omega)
          rw [if_neg c]
          simp only [evX, d1, di]
    have ng : ∀ s, dNegI (.int 1) s = .ok (.int (-1)) s := fun s => rfl
    have l01 : (0 + 1 : Nat) ≤ 1000000 := by decide
    have ap2 : ∀ A5 A8 A10 s, sApp 2 (cVar 7) [some cols, some R, some (.lst F), some (.lst G), none, A5, none, some (.int (rfZ (q i) n)), A8, none, A10, none] s = .go .nx [some cols, some R, some (.lst (F ++ [.int (rfZ (q i) n)])), some (.lst G), none, A5, none, some (.int (rfZ (q i) n)), A8, none, A10, none] s := fun A5 A8 A10 s => ap_x (l := F) rfl (by simp only [evX]) hF
    have ev3 : ∀ A2 s, cBin dAddL (cBin dAddL (cSl (cVar 8) pNone (pSome (cUn dNegI (cC (.int 1))))) (cVar 10)) (cSl (cVar 8) (pSome (cUn dNegI (cC (.int 1)))) pNone) [some cols, some R, A2, some (.lst G), none, none, none, none, some (.lst (rw1 (n + 1) fun j => .int (eZ (q i) n j))), none, some (.lst (rw1 m fun k => .int (if k = i then 1 else 0))), none] s = .ok (rI (n + m + 1) (AZ q n m i)) s := fun A2 s => by
      have a1 : ∀ s, dAddL (.lst (rw1 n fun j => .int (eZ (q i) n j))) (.lst (rw1 m fun k => .int (if k = i then 1 else 0))) s = .ok (.lst ((rw1 n fun j => .int (eZ (q i) n j)) ++ (rw1 m fun k => .int (if k = i then 1 else 0)))) s := fun s => d_addLL (by rw [rw1_length, rw1_length]; omega)
      have a2 : ∀ s, dAddL (.lst ((rw1 n fun j => .int (eZ (q i) n j)) ++ (rw1 m fun k => .int (if k = i then 1 else 0)))) (.lst [.int (eZ (q i) n n)]) s = .ok (rI (n + m + 1) (AZ q n m i)) s := fun s => by
        rw [d_addLL (by rw [List.length_append, rw1_length, rw1_length]; simp; omega), List.append_assoc, row_split]
        rfl
      have e1 := cut_last n fun j => D.int (eZ (q i) n j)
      have e2 := cut_ini n fun j => D.int (eZ (q i) n j)
      simp only [evX, ng, e1, e2, a1, a2]
    have ap3 : ∀ A2 s, sApp 3 (cBin dAddL (cBin dAddL (cSl (cVar 8) pNone (pSome (cUn dNegI (cC (.int 1))))) (cVar 10)) (cSl (cVar 8) (pSome (cUn dNegI (cC (.int 1)))) pNone)) [some cols, some R, A2, some (.lst G), none, none, none, none, some (.lst (rw1 (n + 1) fun j => .int (eZ (q i) n j))), none, some (.lst (rw1 m fun k => .int (if k = i then 1 else 0))), none] s = .go .nx [some cols, some R, A2, some (.lst (G ++ [rI (n + m + 1) (AZ q n m i)])), none, none, none, none, some (.lst (rw1 (n + 1) fun j => .int (eZ (q i) n j))), none, some (.lst (rw1 m fun k => .int (if k = i then 1 else 0))), none] s := fun A2 s => ap_x (l := G) rfl (ev3 A2 s) hG
    simp only [l1_starting, evX, ar, it, c5, ri, ad, rf, it2, c8, lr, sr, c10, ap2, ap3, l01]
  have lr := h.lr
  have fr : ∀ g b ρ s, forRD g b (.int (m : Nat)) ρ s = forL g b ((List.range m).map fun (k : Nat) => D.int k) ρ s := fun g b ρ s => d_forR (by omega)
  have l0 : (0 : Nat) ≤ 1000000 := by decide
  have l2 : ∀ s, forL (gSet 4) l1_starting ((List.range m).map fun (k : Nat) => D.int k) [some cols, some R, some (.lst []), some (.lst []), none, none, none, none, none, none, none, none] s = .go .nx [some cols, some R, some (.lst (rw1 m fun i => .int (rfZ (q i) n))), some (tI m (n + m + 1) (AZ q n m)), none, none, none, none, none, none, none, none] s := lo
  have l22 : (0 + 1 + 1 : Nat) ≤ 1000000 := by decide
  simp only [m_starting, b_starting, evX, lr, fr, l0, l2, l22]
end
end PR
set_option maxHeartbeats 4000000
set_option maxHeartbeats 400000
namespace PR
open PySem PySem.Spec PyProof.Rows L2 PL MB
section
variable {n m N B K : Nat} {q : Nat → Nat → Rat} {cols R : D} {C : Nat → D}
def S0Z (q : Nat → Nat → Rat) (n m : Nat) : SxS := ⟨fun i => n + i, 1, AZ q n m, PZ (AZ q n m) n m⟩
theorem AZ_d {i k : Nat} (hk : k < m) : AZ q n m i (n + k) = if i = k then 1 else 0 := by
  unfold AZ
  rw [if_neg (by omega), if_pos (by omega), Nat.add_sub_cancel_left]
theorem AZ_R {i : Nat} : AZ q n m i (n + m) = eZ (q i) n n := by
  unfold AZ
  rw [if_neg (by omega), if_neg (by omega)]
theorem AZ_c {i j : Nat} (hj : j < n) : AZ q n m i j = eZ (q i) n j := if_pos hj
theorem S0_iv : Iv n m (AZ q n m) (S0Z q n m) := Iv.start (fun i _ k hk => AZ_d hk) (fun i _ => by rw [AZ_R]; exact eZ_last) fun j _ => PZ_is _ n m j
def fdX (S : SxS) (n m k j : Nat) : Rat := fsum (fun i => if S.b i = j then Qx S i (n + m) else 0) k
theorem w_feasible (h : Cols n m N B q cols C R) (hK : (m + 1) * (m * (B * N + 1)) ^ m < 2 ^ K) (hK3 : K ≤ 3000) :
    (∃ x, (∀ s, m_feasible [cols, R] s = .ok (.tup [.str "weights", rwR n x]) s) ∧ (∀ j, 0 ≤ x j) ∧ (∀ i, i < m → fsum (fun j => x j * q i j) n = q i n) ∧ CmX n K K x) ∨
    (∃ y, (∀ s, m_feasible [cols, R] s = .ok (.tup [.str "functional", rwR m y]) s) ∧ (∀ j, j < n → fsum (fun i => y i * q i j) m ≤ 0) ∧ 0 < fsum (fun i => y i * q i n) m ∧ CmX m (K + 65) K y) := by
  have hnm := h.nm
  have hb : ∀ l j, l < m → j ≤ n + m → (AZ q n m l j).natAbs ≤ B * N + 1 := fun l j hl hj => h.bd hl hj
  have hB : (m + 1) * (m * (B * N + 1)) ^ m < 2 ^ 8000 := Nat.lt_of_lt_of_le hK (Nat.pow_le_pow_right (by decide) (by omega))
  obtain ⟨k, hk⟩ := (S0_iv (q := q) (n := n) (m := m)).ends
  obtain ⟨S, W, hi, he, hw⟩ := fe_while (F := .lst (rw1 m fun i => .int (rfZ (q i) n))) hb hB hnm k S0_iv hk
  have hw := fun s => sWhile_eq (hw s)
  obtain ⟨bg, bT, bP⟩ := hi.sxB hb hB
  obtain ⟨b1, b2⟩ := hi.bd hb
  have b3 := fun j => hi.bdP b1 b2 (j := j)
  have le1 : (m * (B * N + 1)) ^ m ≤ (m + 1) * (m * (B * N + 1)) ^ m := Nat.le_mul_of_pos_left _ (Nat.succ_pos m)
  have g0 := hi.pos
  have gn : ¬ S.g = 0 := by omega
  have gl : S.g.natAbs.log2 < 9000 := log_of bg (by decide)
  have gK : S.g.natAbs < 2 ^ K := by omega
  -- the walk up to the while
  have st := w_starting h
  have ln := h.ln
  have lt : ∀ T s, dLen (tI m (n + m + 1) T) s = .ok (.int (m : Nat)) s := fun T s => tI_len s
  have sr : ∀ s, srcRD (.int (m : Nat)) s = .ok ((List.range m).map fun (k : Nat) => D.int k) s := fun s => d_srcR (by omega)
  have sr2 : ∀ s, srcRD (.int (n : Nat)) s = .ok ((List.range n).map fun (k : Nat) => D.int k) s := fun s => d_srcR (by omega)
  have co := fun s => w_costs (n := n) (m := m) (A := AZ q n m) hnm s
  have c5 : ∀ A2 s, compR (gSet 6) tYesD (cBin dAdd (cVar 4) (cVar 6)) [none, none, A2, some (tI m (n + m + 1) (AZ q n m)), some (.int (n : Nat)), none, none, none, none, none, none, none, none, none, none, none] ((List.range m).map fun (k : Nat) => D.int k) s = .ok (bI m (S0Z q n m).b) s := fun A2 s =>
    c_rng (fun i => .int (((S0Z q n m).b i : Nat) : Int)) (by omega) fun i hi s => by
      simp only [evX]
      rfl
  have c9 : ∀ A2 A3 A5 A8 s, compR (gSet 10) (cTest (cBin dLt (cBin dIdx (cVar 7) (cVar 10)) (cC (.int 0)))) (cVar 10) [none, none, A2, A3, some (.int (n : Nat)), A5, none, some (rI (n + m + 1) (PZ (AZ q n m) n m)), A8, none, none, none, none, none, none, none] ((List.range n).map fun (k : Nat) => D.int k) s = .ok (.lst ((entL n (S0Z q n m).P).map fun (k : Nat) => D.int k)) s := fun A2 A3 A5 A8 s =>
    c_filter (fun j => decide ((S0Z q n m).P j < 0)) _ (by rw [List.length_range]; omega) (fun j mj s => by
      have hj := List.mem_range.mp mj
      have ip : ∀ s, dIdx (rI (n + m + 1) (PZ (AZ q n m) n m)) (.int (j : Nat)) s = .ok (.int ((S0Z q n m).P j)) s := fun s => rI_ix (f := PZ (AZ q n m) n m) (by omega) s
      simp only [evX, ip]) fun j mj _ s => by simp only [evX]
  have hw2 : ∀ s, sWhile (cTest (cBin dGt (cUn dLen (cVar 9)) (cC (.int 0)))) l1_feasible [none, none, some (.lst (rw1 m fun i => .int (rfZ (q i) n))), some (tI m (n + m + 1) (AZ q n m)), some (.int (n : Nat)), some (bI m (S0Z q n m).b), none, some (rI (n + m + 1) (PZ (AZ q n m) n m)), some (.int 1), some (.lst ((entL n (S0Z q n m).P).map fun (k : Nat) => D.int k)), none, none, none, none, none, none] s = .go .nx [none, none, some (.lst (rw1 m fun i => .int (rfZ (q i) n))), some (tI m (n + m + 1) S.T), some (.int (n : Nat)), some (bI m S.b), none, some (rI (n + m + 1) S.P), some (.int S.g), some (.lst ((entL n S.P).map fun (k : Nat) => D.int k)), none, none, none, none, none, none] s := hw
  have ng : ∀ s, dNegI (.int 1) s = .ok (.int (-1)) s := fun s => rfl
  have la : ∀ s, dIdx (rI (n + m + 1) S.P) (.int (-1)) s = .ok (.int (S.P (n + m))) s := fun s => rI_last s
  have l22 : (0 + 1 + 1 : Nat) ≤ 1000000 := by decide
  have as1 : ∀ s, sAsg (gTupD 2 (gsCons (gSet 2) (gsCons (gSet 3) gsNil))) (cCall (ar 2 m_starting) (aCons (cVar 0) (aCons (cVar 1) aNil))) [some cols, some R, none, none, none, none, none, none, none, none, none, none, none, none, none, none] s = .go .nx [some cols, some R, some (.lst (rw1 m fun i => .int (rfZ (q i) n))), some (tI m (n + m + 1) (AZ q n m)), none, none, none, none, none, none, none, none, none, none, none, none] s := fun s => by
    have ev : ∀ s, cCall (ar 2 m_starting) (aCons (cVar 0) (aCons (cVar 1) aNil)) [some cols, some R, none, none, none, none, none, none, none, none, none, none, none, none, none, none] s = .ok (.tup [.lst (rw1 m fun i => .int (rfZ (q i) n)), tI m (n + m + 1) (AZ q n m)]) s := fun s => by simp only [evX, ar, st]
    rw [a_asgL, ev, re_ok]
    rfl
  by_cases c : S.P (n + m) < 0
  · right
    have d1 : decide (S.P (n + m) < 0) = true := decide_eq_true c
    obtain ⟨e1, e2⟩ := hi.end_f (fun i _ k hk => AZ_d hk) he c
    obtain ⟨y, hy⟩ : ∃ y : Nat → Rat, y = fun i => ((rfZ (q i) n * (S.g - S.P (n + i)) : Int) : Rat) / (S.g : Rat) := ⟨_, rfl⟩
    have sum : ∀ j j', j < n + 1 → (∀ i, i < m → AZ q n m i j' = eZ (q i) n j) → fsum (fun i => y i * q i j) m = fsum (fun k => ((S.g - S.P (n + k) : Int) : Rat) / (S.g : Rat) * AQ (AZ q n m) k j') m := fun j j' hj hj' => by
      refine fs_congr fun i hi => ?_
      have e := eZ_is (q := q i) (k := n) (j := j) hj
      show y i * q i j = _ * ((AZ q n m i j' : Int) : Rat)
      rw [hj' i hi, e, hy]
      dsimp only
      rw [Rat.intCast_mul, Rat.div_def, Rat.div_def]
      grind
    have cF : ∀ s, compR (gSet 6) tYesD (cCall mRat (aCons (cBin dMul (cBin dIdx (cVar 2) (cVar 6)) (cBin dSub (cVar 8) (cBin dIdx (cVar 7) (cBin dAdd (cVar 4) (cVar 6))))) (aCons (cVar 8) aNil))) [none, none, some (.lst (rw1 m fun i => .int (rfZ (q i) n))), some (tI m (n + m + 1) S.T), some (.int (n : Nat)), some (bI m S.b), none, some (rI (n + m + 1) S.P), some (.int S.g), none, none, none, none, none, none, none] ((List.range m).map fun (k : Nat) => D.int k) s = .ok (.lst (rw1 m fun i => .rat (y i))) s := fun s =>
      c_rng (fun i => .rat (y i)) (by omega) fun i hi s => by
        have i1 : ∀ s, dIdx (.lst (rw1 m fun i => .int (rfZ (q i) n))) (.int (i : Nat)) s = .ok (.int (rfZ (q i) n)) s := fun s => d_ixL hi
        have i2 : ∀ s, dIdx (rI (n + m + 1) S.P) (.int ((n : Int) + (i : Int))) s = .ok (.int (S.P (n + i))) s := fun s => rI_ix (j := n + i) (by omega) s
        have km : okMul (rfZ (q i) n) (S.g - S.P (n + i)) = true := by
          refine okMul_smallL _ ?_
          have := h.fac hi
          have := h.N1
          omega
        have ey : y i = Rat.divInt (rfZ (q i) n * (S.g - S.P (n + i))) S.g := by rw [hy, Rat.divInt_eq_div]
        simp only [evX, i1, i2, km, gn, gl, ey]
    refine ⟨y, fun s => ?_, fun j hj => ?_, ?_, ?_⟩
    · simp only [m_feasible, b_feasible, evX, ar, as1, ln, lt, sr, sr2, co, c5, c9, hw2, ng, la, d1, cF, l22]
      rfl
    · rw [sum j j (by omega) fun i _ => AZ_c hj]
      exact e1 j hj
    · rw [sum n (n + m) (by omega) fun i _ => AZ_R]
      exact e2
    · refine ⟨S.g, g0, gK, fun i hi => ⟨rfZ (q i) n * (S.g - S.P (n + i)), ?_, by rw [hy]⟩⟩
      have f1 := h.fac hi
      have f2 := h.N1
      have f3 := b3 (n + i) (by omega)
      rw [Int.natAbs_mul]
      have f4 : (S.g - S.P (n + i)).natAbs ≤ 2 * 2 ^ K := by omega
      refine Nat.lt_of_le_of_lt (Nat.mul_le_mul (Nat.le_trans f1 (Nat.le_of_lt f2)) f4) ?_
      rw [Nat.pow_add, show (2 : Nat) ^ 63 * (2 * 2 ^ K) = 2 ^ K * 2 ^ 64 by rw [Nat.mul_comm, Nat.mul_assoc, Nat.mul_comm 2, Nat.mul_assoc]]
      exact Nat.mul_lt_mul_of_pos_left (by decide) (Nat.two_pow_pos K)
  · left
    have d1 : decide (S.P (n + m) < 0) = false := decide_eq_false c
    obtain ⟨e1, e2⟩ := hi.end_w (by omega)
    have z0 : ∀ s, m_zero [] s = .ok (.rat 0) s := fun s => by
      have l1 : (1 : Int).natAbs.log2 < 9000 := by decide
      have n1 : ¬ ((1 : Int) = 0) := by decide
      have z : Rat.divInt 0 1 = 0 := by decide
      simp only [m_zero, b_zero, evX, n1, l1, z]
    have zc : ∀ s, compR (gSet 15) tYesD (cCall (ar 0 m_zero) aNil) [none, none, none, some (tI m (n + m + 1) S.T), some (.int (n : Nat)), some (bI m S.b), none, none, some (.int S.g), none, none, none, none, none, none, none] ((List.range n).map fun (k : Nat) => D.int k) s = .ok (.lst (rw1 n fun j => .rat (fdX S n m 0 j))) s := fun s =>
      c_rng (fun j => .rat (fdX S n m 0 j)) (by omega) fun j hj s => by
        have e : fdX S n m 0 j = 0 := rfl
        simp only [evX, ar, z0, e]
    have lo : ∀ s, forL (gSet 6) l2_feasible ((List.range m).map fun (k : Nat) => D.int k) [none, none, none, some (tI m (n + m + 1) S.T), some (.int (n : Nat)), some (bI m S.b), none, none, some (.int S.g), none, none, none, none, none, some (.lst (rw1 n fun j => .rat (fdX S n m 0 j))), none] s = .go .nx [none, none, none, some (tI m (n + m + 1) S.T), some (.int (n : Nat)), some (bI m S.b), none, none, some (.int S.g), none, none, none, none, none, some (.lst (rw1 n fun j => .rat (fdX S n m m j))), none] s := fun s =>
      fl_ix (E := fun k => [none, none, none, some (tI m (n + m + 1) S.T), some (.int (n : Nat)), some (bI m S.b), none, none, some (.int S.g), none, none, none, none, none, some (.lst (rw1 n fun j => .rat (fdX S n m k j))), none]) fun i hi' => by
        have ib : ∀ s, dIdx (bI m S.b) (.int (i : Nat)) s = .ok (.int (S.b i : Nat)) s := fun s => bI_ix hi' s
        have it : ∀ s, dIdx (tI m (n + m + 1) S.T) (.int (i : Nat)) s = .ok (rI (n + m + 1) (S.T i)) s := fun s => tI_ix hi' s
        have il : ∀ s, dIdx (rI (n + m + 1) (S.T i)) (.int (-1)) s = .ok (.int (S.T i (n + m))) s := fun s => rI_last s
        have sc : ∀ j, fdX S n m (i + 1) j = fdX S n m i j + (if S.b i = j then Qx S i (n + m) else 0) := fun j => rfl
        by_cases q2 : S.b i < n
        · have d2 : decide ((S.b i : Int) < (n : Int)) = true := decide_eq_true (by omega)
          have up : ∀ s, sAsgT (uAt 14 (cBin dIdx (cVar 5) (cVar 6))) (cCall mRat (aCons (cBin dIdx (cBin dIdx (cVar 3) (cVar 6)) (cUn dNegI (cC (.int 1)))) (aCons (cVar 8) aNil))) [none, none, none, some (tI m (n + m + 1) S.T), some (.int (n : Nat)), some (bI m S.b), some (.int (i : Nat)), none, some (.int S.g), none, none, none, none, none, some (.lst (rw1 n fun j => .rat (fdX S n m i j))), none] s = .go .nx [none, none, none, some (tI m (n + m + 1) S.T), some (.int (n : Nat)), some (bI m S.b), some (.int (i : Nat)), none, some (.int S.g), none, none, none, none, none, some (.lst (rw1 n fun j => .rat (fdX S n m (i + 1) j))), none] s := fun s => by
            have ev : ∀ s, cCall mRat (aCons (cBin dIdx (cBin dIdx (cVar 3) (cVar 6)) (cUn dNegI (cC (.int 1)))) (aCons (cVar 8) aNil)) [none, none, none, some (tI m (n + m + 1) S.T), some (.int (n : Nat)), some (bI m S.b), some (.int (i : Nat)), none, some (.int S.g), none, none, none, none, none, some (.lst (rw1 n fun j => .rat (fdX S n m i j))), none] s = .ok (.rat (Qx S i (n + m))) s := fun s => by
              have eq : Qx S i (n + m) = Rat.divInt (S.T i (n + m)) S.g := by rw [Rat.divInt_eq_div]; rfl
              simp only [evX, it, ng, il, gn, gl, eq]
            rw [a_asgT, ev, re_ok, a_uAtG (i := 14) (l := rw1 n fun j => .rat (fdX S n m i j)) (a := S.b i) rfl (by simp only [evX, ib]) (by rw [rw1_length]; exact q2), rw1_set]
            have e : (rw1 n fun y => if y = S.b i then D.rat (Qx S i (n + m)) else D.rat (fdX S n m i y)) = rw1 n fun j => D.rat (fdX S n m (i + 1) j) := rw1_congr fun x _ => by
              rw [sc]
              by_cases c3 : x = S.b i
              · rw [if_pos c3, if_pos c3.symm]
                have z : fdX S n m i x = 0 := fs_zero fun k hk => if_neg fun z => by
                  have := hi.tb.inj (show k < m by omega) hi' (z.trans c3)
                  omega
                rw [z]
                congr 1
                grind
              · rw [if_neg c3, if_neg fun z => c3 z.symm]
                congr 1
                grind
            rw [e]
            rfl
          simp only [l2_feasible, evX, ib, d2, up]
        · have d2 : decide ((S.b i : Int) < (n : Int)) = false := decide_eq_false (by omega)
          have e : (rw1 n fun j => D.rat (fdX S n m (i + 1) j)) = rw1 n fun j => D.rat (fdX S n m i j) := rw1_congr fun x hx => by
            rw [sc, if_neg fun z => q2 (by omega)]
            congr 1
            grind
          rw [e]
          simp only [l2_feasible, evX, ib, d2]
    have fr : ∀ g b ρ s, forRD g b (.int (m : Nat)) ρ s = forL g b ((List.range m).map fun (k : Nat) => D.int k) ρ s := fun g b ρ s => d_forR (by omega)
    refine ⟨vlX n m S.b (Qx S), fun s => ?_, e1, fun i hi => ?_, S.g, g0, gK, fun j _ => ?_⟩
    · simp only [m_feasible, b_feasible, evX, ar, as1, ln, lt, sr, sr2, co, c5, c9, hw2, ng, la, d1, zc, fr, lo, l22]
      rfl
    · have h2 := e2 i hi
      have e3 := eZ_is (q := q i) (k := n) (j := n) (by omega)
      have h3 : fsum (fun j => vlX n m S.b (Qx S) j * AQ (AZ q n m) i j) n = (rfZ (q i) n : Rat) * fsum (fun j => vlX n m S.b (Qx S) j * q i j) n := by
        rw [← fs_mul]
        refine fs_congr fun j hj => ?_
        have e := eZ_is (q := q i) (k := n) (j := j) (by omega)
        show _ * ((AZ q n m i j : Int) : Rat) = _
        rw [AZ_c hj, e]
        grind
      have h4 : AQ (AZ q n m) i (n + m) = (rfZ (q i) n : Rat) * q i n := by
        show ((AZ q n m i (n + m) : Int) : Rat) = _
        rw [AZ_R, e3]
      rw [h3, h4] at h2
      have nz : (rfZ (q i) n : Rat) ≠ 0 := fun z => by
        have h5 : rfZ (q i) n = 0 := Rat.intCast_inj.mp z
        have h6 := rfZ_abs (q i) n
        have h7 := lcF_pos (q i) (n + 1)
        omega
      have h8 := congrArg (fun t => (rfZ (q i) n : Rat)⁻¹ * t) h2
      have h9 : (rfZ (q i) n : Rat)⁻¹ * (rfZ (q i) n : Rat) = 1 := Rat.inv_mul_cancel _ nz
      rw [← Rat.mul_assoc, ← Rat.mul_assoc, h9] at h8
      grind
    · by_cases ib : ∃ i, i < m ∧ S.b i = j
      · obtain ⟨i, hi', e⟩ := ib
        refine ⟨S.T i (n + m), Nat.lt_of_le_of_lt (b2 i (n + m) hi' (Nat.le_refl _)) (by omega), ?_⟩
        rw [← e, vl_in hi.tb hi']
        rfl
      · refine ⟨0, Nat.two_pow_pos K, ?_⟩
        rw [vl_out fun ⟨i, hi', e⟩ => ib ⟨i, hi', e⟩]
        have e0 : ((0 : Int) : Rat) = 0 := rfl
        rw [e0]
        grind
end
end PR
set_option maxHeartbeats 4000000
namespace PR
open PySem PySem.Spec PyProof.Rows L2 PL MB
section
variable {m : Nat}
theorem rstep_pv (S : RS3) (t : Nat) : (rstep S t = S ∧ hdsR t S.1 = []) ∨ ((rstep S t).2.2 = S.2.2 ++ [t] ∧ hdsR t S.1 ≠ []) := by
  unfold rstep
  cases e : hdsR t S.1 with
  | nil => exact .inl ⟨rfl, rfl⟩
  | cons h hs => exact .inr ⟨rfl, fun z => by cases z⟩
theorem red_succ (L : List RwF) (a : Nat) : red (a + 1) L = rstep (red a L) a := by
  unfold red
  rw [List.range_succ, List.foldl_append]
  rfl
theorem NBs : ∀ k N, NB (k + 1) N = 2 * NB k N + 1
  | 0, N => rfl
  | k + 1, N => by
    show NB (k + 1) (2 * N + 1) = 2 * NB k (2 * N + 1) + 1
    exact NBs k (2 * N + 1)
theorem rstep_cm {t N : Nat} {S : RS3} (ht : t < m) (hb : AllN m N (S.1 ++ S.2.1)) (hd : hdsR t S.1 ≠ []) : AllN m (2 * N + 1) ((rstep S t).1 ++ (rstep S t).2.1) := by
  obtain ⟨L, F, P⟩ := S
  obtain ⟨h, hs, eh⟩ := List.exists_cons_of_ne_nil hd
  have eh : hdsR t L = h :: hs := eh
  have mh : h ∈ hdsR t L := by rw [eh]; exact List.mem_cons_self
  obtain ⟨m1, m2⟩ := List.mem_filter.mp mh
  have hlt := List.mem_range.mp m1
  have nz : L.getD h fzR t ≠ 0 := by simpa using m2
  have mr : L.getD h fzR ∈ L := getD_in hlt
  have br := hb _ (List.mem_append_left _ mr)
  have es : rstep (L, F, P) t = ((L.eraseIdx h).map (clr (L.getD h fzR) t), F.map (clr (L.getD h fzR) t) ++ [nrmR (L.getD h fzR) t], P ++ [t]) := by
    unfold rstep
    show (match hdsR t L with | [] => _ | h :: _ => _) = _
    rw [eh]
  rw [es]
  intro q mq
  rcases List.mem_append.mp mq with mq | mq
  · obtain ⟨p, mp, rfl⟩ := List.mem_map.mp mq
    exact (cm_clr br (hb p (List.mem_append_left _ (List.mem_of_mem_eraseIdx mp))) ht nz).1
  · rcases List.mem_append.mp mq with mq | mq
    · obtain ⟨p, mp, rfl⟩ := List.mem_map.mp mq
      exact (cm_clr br (hb p (List.mem_append_right _ mp)) ht nz).1
    · rw [List.mem_singleton.mp mq]
      exact (cm_nrm br ht nz).mono (by omega) (by omega)
theorem red_cm {N : Nat} {L : List RwF} (hb : AllN m N L) : ∀ a, a ≤ m → AllN m (NB (red a L).2.2.length N) ((red a L).1 ++ (red a L).2.1)
  | 0, _ => fun q mq => by
    have mq : q ∈ L ++ [] := mq
    rw [List.append_nil] at mq
    exact hb q mq
  | a + 1, ha => by
    have ih := red_cm hb a (by omega)
    rw [red_succ]
    rcases rstep_pv (red a L) a with ⟨e, _⟩ | ⟨e, h⟩
    · rw [e]; exact ih
    · rw [e, List.length_append, List.length_singleton, NBs]
      exact rstep_cm (by omega) ih h
end
end PR
set_option maxHeartbeats 4000000
namespace PR
open PySem PySem.Spec PyProof.Rows L2 PL MB
section
variable {m : Nat} {F : List RwF} {P : List Nat} {f : Nat}
end
end PR
set_option maxHeartbeats 4000000
namespace MB
open PySem PySem.Spec PyProof.Rows L2 PL
end MB
set_option maxHeartbeats 4000000
namespace PR
open PySem PySem.Spec PyProof.Rows L2 PL MB
section
variable {m : Nat}
end
end PR
set_option maxHeartbeats 4000000
namespace PR
open PySem PySem.Spec PyProof.Rows L2 PL MB
section
variable {m : Nat}
end
end PR
set_option maxHeartbeats 4000000
namespace PR
open PySem PySem.Spec PyProof.Rows L2 PL MB
section
variable {m : Nat}
theorem filt_no {α : Type} (l : List α) : l.filter (fun _ => false) = [] := by simp
theorem w_are_ratios (hm : m ≤ 1000) (x : RwF) (s : DS) : m__law_are_ratios [rwR m x, .int m] s = .ok (.bl true) s := by
  have o1 : okIs (rwR m x) = true := rfl
  have o2 : ∀ q, okIs (.rat q) = true := fun q => rfl
  have h1 : Tg.tuple.has (rwR m x) = true := rfl
  have h2 : ∀ q, Tg.rat.has (.rat q) = true := fun q => rfl
  have ln : ∀ s, dLen (rwR m x) s = .ok (.int m) s := fun s => d_lenrT
  have itx : itemsOf (rwR m x) = some ((List.range m).map fun j => .rat (x j)) := rfl
  have cc : ∀ s, compR (gSet 2) (cNotT (cTest (cUn (dIsi .rat) (cVar 2)))) (cVar 2) [some (rwR m x), none, none] ((List.range m).map fun j => .rat (x j)) s = .ok (.lst []) s := fun s => by
    rw [c_filter (h := fun j => D.rat (x j)) (fun _ => false) (fun j => D.rat (x j)) (by rw [List.length_range]; omega) (fun j mj s => by simp only [evX, o2, h2, if_true, Bool.not_true]) (fun j mj q s => by cases q)]
    rw [filt_no]
    rfl
  have nt : (!decide True) = false := rfl
  simp only [m__law_are_ratios, b__law_are_ratios, evX, o1, h1, if_true, ln, nt, itx, cc]
  rfl
end
end PR
set_option maxHeartbeats 4000000
namespace PR
open PySem PySem.Spec PyProof.Rows L2 PL MB
section
variable {w : Nat} {L : List RwF}
structure S3 (w : Nat) (L : List RwF) : Prop where
  hw : w ≤ 4
  hl : L.length ≤ 4
  hb : AllN w 14 L
theorem S3.nb (h : S3 w L) : NB L.length 14 ≤ 239 := Nat.le_trans (NB_mono h.hl) (by decide)
theorem S3.pl (h : S3 w L) : (red w L).2.2.length ≤ w := by
  have hi := red_is (m := w) L
  exact nd_range hi.nd hi.lt
theorem S3.F (h : S3 w L) : AllN w (NB (red w L).2.2.length 14) (red w L).2.1 := fun q mq => red_cm h.hb w (Nat.le_refl _) q (List.mem_append_right _ mq)
end
end PR
set_option maxHeartbeats 4000000
set_option maxHeartbeats 400000
namespace PR
open PySem PySem.Spec PyProof.Rows L2 PL MB
section
variable {w K : Nat} {R : Nat → RwF} {g : RwF}
structure S5 (w K : Nat) (R : Nat → RwF) (g : RwF) : Prop where
  hw : w ≤ 4
  hk : K ≤ 5
  hR : ∀ k, k < K → ∀ j, j < w → Sm (R k j)
  hg : ∀ j, j < w → ∃ a : Int, a.natAbs < 2 ^ 15 ∧ g j = (a : Rat) / ((144 : Int) : Rat)
theorem den_of {q : Rat} {a d : Int} (hd : 0 < d) (h : q = (a : Rat) / (d : Rat)) : q.den ∣ d.natAbs := by
  rw [h, ← Rat.divInt_eq_div, Rat.den_divInt, if_neg (by omega)]
  exact Nat.div_dvd_of_dvd (by rw [Int.gcd_eq_natAbs_gcd_natAbs]; exact Nat.gcd_dvd_left _ _)
theorem sm_144 {q : Rat} (h : Sm q) : ∃ a : Int, a.natAbs < 2 ^ 15 ∧ q = (a : Rat) / ((144 : Int) : Rat) := by
  obtain ⟨a, ha, e⟩ := h
  refine ⟨a * 12, by rw [Int.natAbs_mul]; have : a.natAbs < 64 := ha; show a.natAbs * 12 < 32768; omega, ?_⟩
  have e0 : ((144 : Int) : Rat) = ((12 : Int) : Rat) * ((12 : Int) : Rat) := by rw [← Rat.intCast_mul]; rfl
  have h12 : ((12 : Int) : Rat) ≠ 0 := by decide
  rw [e, e0, Rat.intCast_mul]
  grind
def q5 (K : Nat) (R : Nat → RwF) (g : RwF) : Nat → Nat → Rat := fun i j => if j < K then R j i else g i
theorem S5.at (h : S5 w K R g) {i j : Nat} (hi : i < w) : ∃ a : Int, a.natAbs < 2 ^ 15 ∧ q5 K R g i j = (a : Rat) / ((144 : Int) : Rat) := by
  unfold q5
  split
  · rename_i hj; exact sm_144 (h.hR j hj i hi)
  · exact h.hg i hi
theorem S5.cols (h : S5 w K R g) {cols : D} (it : itemsOf cols = some (rw1 K fun k => rwR w (R k))) (ln : ∀ s, dLen cols s = .ok (.int (K : Nat)) s) : Cols K w 144 (2 ^ 15) (q5 K R g) cols (fun k => rwR w (R k)) (rwR w g) where
  nm := by have := h.hw; have := h.hk; omega
  it := it
  ln := ln
  col := fun j i s hj hi => by
    have e : q5 K R g i j = R j i := if_pos hj
    rw [e]
    exact d_ixT hi
  rt := fun i s hi => by
    have e : q5 K R g i K = g i := if_neg (Nat.lt_irrefl _)
    rw [e]
    exact d_ixT hi
  lr := fun s => d_lenrT
  N0 := by decide
  N1 := by decide
  den := fun i j hi _ => by
    obtain ⟨a, _, e⟩ := h.at (j := j) hi
    exact den_of (by decide) e
  num := fun i j hi _ => by
    obtain ⟨a, ha, e⟩ := h.at (j := j) hi
    rw [e]
    exact Nat.le_of_lt (Bits.quo (N := 15) (E := 8) (by decide) ha (by decide)).1
  B1 := by decide
theorem k103 (h : w ≤ 4) : (w + 1) * (w * (2 ^ 15 * 144 + 1)) ^ w < 2 ^ 103 := by
  have : w = 0 ∨ w = 1 ∨ w = 2 ∨ w = 3 ∨ w = 4 := by omega
  rcases this with rfl | rfl | rfl | rfl | rfl <;> decide
def An (w K : Nat) (R : Nat → RwF) (g : RwF) (cols : D) : Prop :=
    (∃ x, (∀ s, m_feasible [cols, rwR w g] s = .ok (.tup [.str "weights", rwR K x]) s) ∧ (∀ j, 0 ≤ x j) ∧ (∀ i, i < w → fsum (fun j => x j * R j i) K = g i) ∧ CmX K 200 200 x) ∨
    (∃ y, (∀ s, m_feasible [cols, rwR w g] s = .ok (.tup [.str "functional", rwR w y]) s) ∧ (∀ j, j < K → fsum (fun i => y i * R j i) w ≤ 0) ∧ 0 < fsum (fun i => y i * g i) w ∧ CmX w 200 200 y)
theorem S5.an (h : S5 w K R g) {cols : D} (it : itemsOf cols = some (rw1 K fun k => rwR w (R k))) (ln : ∀ s, dLen cols s = .ok (.int (K : Nat)) s) : An w K R g cols := by
  have e1 : ∀ i j, j < K → q5 K R g i j = R j i := fun i j hj => if_pos hj
  have e2 : ∀ i, q5 K R g i K = g i := fun i => if_neg (Nat.lt_irrefl _)
  rcases w_feasible (h.cols it ln) (k103 h.hw) (by decide) with ⟨x, a1, a2, a3, a4⟩ | ⟨y, a1, a2, a3, a4⟩
  · refine .inl ⟨x, a1, a2, fun i hi => ?_, a4.mono (by decide) (by decide)⟩
    have := a3 i hi
    rw [e2, fs_congr (g := fun j => x j * R j i) fun j hj => by rw [e1 i j hj]] at this
    exact this
  · refine .inr ⟨y, a1, fun j hj => ?_, ?_, a4.mono (by decide) (by decide)⟩
    · have := a2 j hj
      rw [fs_congr (g := fun i => y i * R j i) fun i _ => by rw [e1 i j hj]] at this
      exact this
    · rw [fs_congr (g := fun i => y i * g i) fun i _ => by rw [e2 i]] at a3
      exact a3
theorem weak {x y : Nat → Rat} (hx : ∀ j, 0 ≤ x j) (hg : ∀ i, i < w → fsum (fun j => x j * R j i) K = g i) (hy : ∀ j, j < K → fsum (fun i => y i * R j i) w ≤ 0) : fsum (fun i => y i * g i) w ≤ 0 := by
  have e1 : fsum (fun i => y i * g i) w = fsum (fun j => x j * fsum (fun i => y i * R j i) w) K := by
    rw [fs_congr (g := fun i => fsum (fun j => y i * (x j * R j i)) K) fun i hi => by rw [← hg i hi, fs_mul]]
    rw [fs_swap]
    refine fs_congr fun j _ => ?_
    rw [← fs_mul]
    exact fs_congr fun i _ => by grind
  have e2 : 0 ≤ fsum (fun j => x j * -(fsum (fun i => y i * R j i) w)) K := fs_nn fun j hj => Rat.mul_nonneg (hx j) (by have := hy j hj; grind)
  have e3 : fsum (fun j => x j * -(fsum (fun i => y i * R j i) w)) K = (-1) * fsum (fun j => x j * fsum (fun i => y i * R j i) w) K := by
    rw [← fs_mul]
    exact fs_congr fun j _ => by grind
  rw [e1]
  rw [e3] at e2
  generalize fsum (fun j => x j * fsum (fun i => y i * R j i) w) K = F at *
  grind
theorem w_above (q : Rat) (s : DS) : m__law_is_above [ratT q] s = .ok (.bl (decide (0 < q))) s := by
  have t0 : ∀ s, dIdx (ratT q) (.int 0) s = .ok (.int q.num) s := fun s => rfl
  have e : decide (0 < q.num) = decide (0 < q) := pos_num
  simp only [m__law_is_above, b__law_is_above, evX, t0, e]
theorem q_pR {m : Nat} {f : RwF} (s : DS) : dEq (pR m f) (pR m f) s = .ok (.bl true) s := d_eqS (q_lst fun d md => by
  obtain ⟨k, _, rfl⟩ := List.mem_map.mp md
  exact q_tup fun d md => by
    rcases List.mem_cons.mp md with rfl | md
    · exact q_int _ _
    · rw [List.mem_singleton.mp md]; exact q_int _ _) s
theorem w_weights_hold (h : S5 w K R g) {x : Nat → Rat} (hx : ∀ j, 0 ≤ x j) (hg : ∀ i, i < w → fsum (fun j => x j * R j i) K = g i) (hc : CmX K 200 200 x) (s : DS) : m__law_weights_hold [.lst (rw1 K fun k => pR w (R k)), pR w g, rwR K x] s = .ok (.bl true) s := by
  have hw := h.hw
  have hk := h.hk
  have ln : ∀ s, dLen (.lst (rw1 K fun k => pR w (R k))) s = .ok (.int (K : Nat)) s := fun s => by rw [d_lenL, rw1_length]
  have ln2 : ∀ s, dLen (pR w g) s = .ok (.int (w : Nat)) s := fun s => by unfold pR; rw [d_lenL, rw1_length]
  have ar1 := fun s => w_are_ratios (m := K) (by omega) x s
  have pa := fun s => w_pairs_of4 (m := K) (by omega) (f := x) s
  have it : itemsOf (pR K x) = some ((List.range K).map fun j => ratT (x j)) := rfl
  have cc : ∀ s, compR (gSet 4) (cTest (cBin dLt (cBin dIdx (cVar 4) (cC (.int 0))) (cC (.int 0)))) (cVar 4) [some (.lst (rw1 K fun k => pR w (R k))), some (pR w g), none, some (pR K x), none] ((List.range K).map fun j => ratT (x j)) s = .ok (.lst []) s := fun s => by
    rw [c_filter (h := fun j => ratT (x j)) (fun _ => false) (fun j => ratT (x j)) (by rw [List.length_range]; omega) (fun j mj s => by
      have t0 : ∀ s, dIdx (ratT (x j)) (.int 0) s = .ok (.int (x j).num) s := fun s => rfl
      have d1 : decide ((x j).num < 0) = false := decide_eq_false (by have := Rat.num_nonneg.mpr (hx j); omega)
      simp only [evX, t0, d1]) (fun j mj q s => by cases q)]
    rw [filt_no]
    rfl
  have hl : ((List.range K).map R).length = K := by rw [List.length_map, List.length_range]
  have cx : ∀ i, i < w → CmX K 6 6 (fun k => R k i) := fun i hi => cm_sm fun k hk => h.hR k hk i hi
  have ws := fun s => w_sum_of (m := w) (L := (List.range K).map R) (w := x) (by omega) (by omega) (by rw [hl]; exact fun k hk => (hc.bits hk).fit (by decide) (by decide)) (by rw [hl]; exact fun k hk i hi => by rw [gtR hk]; exact fit_sm (h.hR k hk i hi))
    (by rw [hl]; exact fun k hk i hi => by rw [gtR hk]; exact ((hc.bits hk).mul ((cx i hi).bits hk)).fit (by decide) (by decide))
    (by
      rw [hl]
      intro k hk i hi
      unfold smF
      rw [fs_congr (g := fun k => x k * R k i) fun j hj => by rw [gtR (show j < K by omega)]]
      exact fsum_fit (m := K) (by decide) (by decide) (by omega) (prod_cm hc (cx i hi)) hk) s
  rw [hl, ← rwM] at ws
  have es : pR w (smF ((List.range K).map R) x K) = pR w g := by
    unfold pR
    congr 1
    refine rw1_congr fun i hi => ?_
    have : smF ((List.range K).map R) x K i = g i := by
      unfold smF
      rw [fs_congr (g := fun k => x k * R k i) fun j hj => by rw [gtR hj]]
      exact hg i hi
    rw [this]
  rw [es] at ws
  have l0 : ∀ s, dLen (.lst []) s = .ok (.int 0) s := fun s => rfl
  have qp := fun s => q_pR (m := w) (f := g) s
  simp only [m__law_weights_hold, b__law_weights_hold, evX, ar, ln, ln2, ar1, pa, it, cc, ws, qp]
  rfl
theorem w_functional_holds (h : S5 w K R g) {y : Nat → Rat} (hy : ∀ j, j < K → fsum (fun i => y i * R j i) w ≤ 0) (hp : 0 < fsum (fun i => y i * g i) w) (hc : CmX w 200 200 y) (s : DS) : m__law_functional_holds [.lst (rw1 K fun k => pR w (R k)), pR w g, rwR w y] s = .ok (.bl true) s := by
  have hw := h.hw
  have hk := h.hk
  have ln2 : ∀ s, dLen (pR w g) s = .ok (.int (w : Nat)) s := fun s => by unfold pR; rw [d_lenL, rw1_length]
  have ar1 := fun s => w_are_ratios (m := w) (by omega) y s
  have pa := fun s => w_pairs_of4 (m := w) (by omega) (f := y) s
  have it : itemsOf (.lst (rw1 K fun k => pR w (R k))) = some ((List.range K).map fun k => pR w (R k)) := rfl
  have cg : CmX w 15 15 g := ⟨144, by decide, by decide, h.hg⟩
  have ab := fun q s => w_above q s
  have cc : ∀ s, compR (gSet 4) (cTest (cCall (ar 1 m__law_is_above) (aCons (cCall (ar 2 m__law_dot) (aCons (cVar 3) (aCons (cVar 4) aNil))) aNil))) (cVar 4) [some (.lst (rw1 K fun k => pR w (R k))), some (pR w g), none, some (pR w y), none] ((List.range K).map fun k => pR w (R k)) s = .ok (.lst []) s := fun s => by
    rw [c_filter (h := fun k => pR w (R k)) (fun _ => false) (fun k => pR w (R k)) (by rw [List.length_range]; omega) (fun k mk s => by
      have hk := List.mem_range.mp mk
      have wd := fun s => w_dot4 (m := w) (by omega) (N := 200) (K := 6) (by decide) hc (cm_sm (h.hR k hk)) s
      rw [← fsum_lsum] at wd
      have d1 : decide (0 < fsum (fun j => y j * R k j) w) = false := decide_eq_false (by have := hy k hk; grind)
      simp only [evX, ar, wd, ab, d1]) (fun j mj q s => by cases q)]
    rw [filt_no]
    rfl
  have wd := fun s => w_dot4 (m := w) (by omega) (N := 200) (K := 15) (by decide) hc cg s
  rw [← fsum_lsum] at wd
  have d1 : decide (0 < fsum (fun j => y j * g j) w) = true := decide_eq_true hp
  simp only [m__law_functional_holds, b__law_functional_holds, evX, ar, ln2, ar1, pa, it, cc, wd, ab, d1]
  rfl
end
end PR
set_option maxHeartbeats 4000000
set_option maxHeartbeats 400000
namespace PR
open PySem PySem.Spec PyProof.Rows L2 PL MB
noncomputable def q05_1 : SX := (sSet 2 (cCall (ar 2 m__law_take) (aCons (cVar 1) (aCons (cC (.int 5)) aNil))))
noncomputable def q05_2 : SX := (sSet 3 (cComp (srcR1 (cCall (ar 2 m__law_take) (aCons (cVar 1) (aCons (cC (.int 6)) aNil)))) (gSet 4) tYesD (cCall (ar 2 m__law_row) (aCons (cVar 1) (aCons (cVar 2) aNil))) [4]))
noncomputable def q05_3 : SX := (sSet 5 (cCall (ar 2 m__law_take) (aCons (cVar 1) (aCons (cC (.int 3)) aNil))))
noncomputable def q05_4 : SX := (sSet 6 (cCall (ar 2 m__law_row) (aCons (cVar 1) (aCons (cVar 2) aNil))))
noncomputable def q05_a1 : SX := (sSet 7 (cComp (srcSeq (cVar 3)) (gSet 8) tYesD (cCall (ar 2 m__law_frac) (aCons (cCall (ar 2 m__law_take) (aCons (cVar 1) (aCons (cC (.int 5)) aNil))) (aCons (cBin dAddL (cC (.int 1)) (cCall (ar 2 m__law_take) (aCons (cVar 1) (aCons (cC (.int 3)) aNil)))) aNil))) [8]))
noncomputable def q05_a2 : SX := (sWipe [7] (sSet 6 (cCall (ar 3 m__law_sum_of) (aCons (cVar 3) (aCons (cVar 7) (aCons (cVar 2) aNil))))))
noncomputable def q05_n : SX := (sWipe [2] (sSet 9 (cCall (ar 2 m__law_row) (aCons (cVar 1) (aCons (cVar 2) aNil)))))
noncomputable def q05_i1 : SX := (sIf (cAndT (cTest (cBin dEq (cVar 5) (cC (.int 1)))) (cTest (cCall (ar 1 m__law_is_above) (aCons (cCall (ar 2 m__law_dot) (aCons (cVar 9) (aCons (cVar 9) aNil))) aNil)))) sNever (sWipe [9] (sIf (cTest (cBin dEq (cVar 5) (cC (.int 1)))) (sSet 5 (cC (.int 2))) sPass)))
noncomputable def q05_i2 : SX := (sIf (cAndT (cTest (cBin dEq (cVar 5) (cC (.int 1)))) (cTest (cCall (ar 1 m__law_is_above) (aCons (cCall (ar 2 m__law_dot) (aCons (cVar 9) (aCons (cVar 9) aNil))) aNil)))) (sSeq (sSet 6 (cVar 9)) (sWipe [9] (sForR1 (cUn dLen (cVar 3)) (gSet 4) l1_law__29))) (sWipe [9] (sIf (cTest (cBin dEq (cVar 5) (cC (.int 1)))) (sSet 5 (cC (.int 2))) sPass)))
noncomputable def q05_t1 : SX := (sSet 11 (cCall (ar 2 m_feasible) (aCons (cComp (srcSeq (cVar 3)) (gSet 8) tYesD (cCall (ar 1 m__law_ratio_row) (aCons (cVar 8) aNil)) [8]) (aCons (cCall (ar 1 m__law_ratio_row) (aCons (cVar 6) aNil)) aNil))))
noncomputable def q05_t2 : SX := (sIf (cOrT (cNotT (cTest (cUn (dIsi .tuple) (cVar 11)))) (cTest (cBin dNe (cUn dLen (cVar 11)) (cC (.int 2))))) (sRetE (cC (.bl false))) sPass)
noncomputable def q05_t3 : SX := (sIf (cTest (cBin dEq (cBin dIdx (cVar 11) (cC (.int 0))) (cC (.str "weights")))) (sIf (cOrT (cNotT (cTest (cCall (ar 3 m__law_weights_hold) (aCons (cVar 3) (aCons (cVar 6) (aCons (cBin dIdx (cVar 11) (cC (.int 1))) aNil)))))) (cTest (cBin dEq (cVar 5) (cC (.int 1))))) (sRetE (cC (.bl false))) (sWipe [5] sPass)) (sIf (cOrT (cTest (cBin dNe (cBin dIdx (cVar 11) (cC (.int 0))) (cC (.str "functional")))) (cOrT (cNotT (cTest (cCall (ar 3 m__law_functional_holds) (aCons (cVar 3) (aCons (cVar 6) (aCons (cBin dIdx (cVar 11) (cC (.int 1))) aNil)))))) (cTest (cBin dEq (cVar 5) (cC (.int 0)))))) (sRetE (cC (.bl false))) (sWipe [5] sPass)))
noncomputable def q05_t4 : SX := (sWipe [3, 6] (sSet 12 (cCall (ar 2 m_feasible) (aCons (cUn dTupOf (cComp (srcSeq (cVar 3)) (gSet 8) tYesD (cCall (ar 1 m__law_ratio_row) (aCons (cVar 8) aNil)) [8])) (aCons (cCall (ar 1 m__law_ratio_row) (aCons (cVar 6) aNil)) aNil)))))
noncomputable def q05_t5 : SX := (sRetE (cAndV (cUn (dIsi .tuple) (cVar 12)) (cAndV (cBin dEq (cUn dLen (cVar 12)) (cC (.int 2))) (cBin dEq (cBin dIdx (cVar 12) (cC (.int 0))) (cBin dIdx (cVar 11) (cC (.int 0)))))))
noncomputable def q05_t : SX := sSeq q05_t1 (sSeq q05_t2 (sSeq q05_t3 (sSeq q05_t4 (q05_t5))))
noncomputable def q05_5 : SX := sIfD (cTest (cBin dEq (cVar 5) (cC (.int 0)))) (sSeq q05_a1 (q05_a2)) (sSeq q05_n (sSeq q05_i1 q05_t)) (sSeq q05_n (sSeq q05_i2 q05_t))
theorem q05_eq : b_law__29 = sSeq q05_1 (sSeq q05_2 (sSeq q05_3 (sSeq q05_4 q05_5))) := rfl
section
variable {w K : Nat} {R : Nat → RwF} {g : RwF}
theorem s05_t (h : S5 w K R g) {kd : Int} (h0 : kd = 0 → ∃ v : Nat → Rat, (∀ j, 0 ≤ v j) ∧ ∀ i, i < w → fsum (fun j => v j * R j i) K = g i)
    (h1 : kd = 1 → ∃ y : Nat → Rat, (∀ j, j < K → fsum (fun i => y i * R j i) w ≤ 0) ∧ 0 < fsum (fun i => y i * g i) w) (s : DS) : ∃ ρ' s', q05_t [none, some .st, none, some (.lst (rw1 K fun k => pR w (R k))), none, some (.int kd), some (pR w g), none, none, none, none, none, none] s = .go (.rt (.bl true)) ρ' s' := by
  have hw := h.hw
  have hk := h.hk
  have it : itemsOf (.lst (rw1 K fun k => pR w (R k))) = some (rw1 K fun k => pR w (R k)) := rfl
  have rr : ∀ (A5 A11 : Option D) s, compR (gSet 8) tYesD (cCall (ar 1 m__law_ratio_row) (aCons (cVar 8) aNil)) [none, some .st, none, some (.lst (rw1 K fun k => pR w (R k))), none, A5, some (pR w g), none, none, none, none, A11, none] (rw1 K fun k => pR w (R k)) s = .ok (.lst (rw1 K fun k => rwR w (R k))) s := fun A5 A11 s =>
    c_rw (fun k => rwR w (R k)) (by omega) fun k hk s => by
      have e := fun s => w_ratio_row (m := w) (by omega) (f := R k) (fun j hj => fit_sm (h.hR k hk j hj)) s
      simp only [evX, ar, e]
  have cg : CmX w 15 15 g := ⟨144, by decide, by decide, h.hg⟩
  have rg := fun s => w_ratio_row (m := w) (by omega) (f := g) (fun j hj => (cg.bits hj).fit (by decide) (by decide)) s
  have tl : ∀ l s, dTupOf (.lst l) s = .ok (.tup l) s := fun l s => rfl
  have a1 := h.an (cols := .lst (rw1 K fun k => rwR w (R k))) rfl fun s => by rw [d_lenL, rw1_length]
  have a2 := h.an (cols := .tup (rw1 K fun k => rwR w (R k))) rfl fun s => by rw [d_lenT, rw1_length]
  have i2 : ∀ l, okIs (.tup l) = true := fun l => rfl
  have i3 : ∀ l, Tg.tuple.has (.tup l) = true := fun l => rfl
  have l2 : ∀ a b s, dLen (.tup [a, b]) s = .ok (.int 2) s := fun a b s => rfl
  have n2 : ∀ s, dNe (.int 2) (.int 2) s = .ok (.bl false) s := fun s => by simp only [evX]; rfl
  have e2 : ∀ s, dEq (.int 2) (.int 2) s = .ok (.bl true) s := fun s => by simp only [evX]; rfl
  have x0 : ∀ a b s, dIdx (.tup [a, b]) (.int 0) s = .ok a s := fun a b s => rfl
  have x1 : ∀ a b s, dIdx (.tup [a, b]) (.int 1) s = .ok b s := fun a b s => rfl
  have qw : ∀ s, dEq (.str "weights") (.str "weights") s = .ok (.bl true) s := fun s => d_eqS (by simp [eqQ, flatD]; rfl) s
  have qf : ∀ s, dEq (.str "functional") (.str "functional") s = .ok (.bl true) s := fun s => d_eqS (by simp [eqQ, flatD]; rfl) s
  have qn : ∀ s, dNe (.str "functional") (.str "functional") s = .ok (.bl false) s := fun s => d_neS (by simp [eqQ, flatD]; rfl) s
  have qx : ∀ s, dEq (.str "functional") (.str "weights") s = .ok (.bl false) s := fun s => rfl
  rcases a1 with ⟨x, f1, xp, xg, xc⟩ | ⟨y, f1, yp, yg, yc⟩
  · have nk : kd ≠ 1 := fun z => by
      obtain ⟨y, hy, hp⟩ := h1 z
      have := weak xp xg hy
      grind
    have dk : decide (kd = 1) = false := decide_eq_false nk
    have hold := fun s => w_weights_hold h xp xg xc s
    have f2 : ∃ x', ∀ s, m_feasible [.tup (rw1 K fun k => rwR w (R k)), rwR w g] s = .ok (.tup [.str "weights", rwR K x']) s := by
      rcases a2 with ⟨x', f2, _⟩ | ⟨y, _, yp, yg, _⟩
      · exact ⟨x', f2⟩
      · have := weak xp xg yp
        grind
    obtain ⟨x', f2⟩ := f2
    have s1 : ∀ s, q05_t1 [none, some .st, none, some (.lst (rw1 K fun k => pR w (R k))), none, some (.int kd), some (pR w g), none, none, none, none, none, none] s = .go .nx [none, some .st, none, some (.lst (rw1 K fun k => pR w (R k))), none, some (.int kd), some (pR w g), none, none, none, none, some (.tup [.str "weights", rwR K x]), none] s := fun s => by simp only [q05_t1, evX, ar, it, rr, rg, f1]
    have s2 : ∀ s, q05_t2 [none, some .st, none, some (.lst (rw1 K fun k => pR w (R k))), none, some (.int kd), some (pR w g), none, none, none, none, some (.tup [.str "weights", rwR K x]), none] s = .go .nx [none, some .st, none, some (.lst (rw1 K fun k => pR w (R k))), none, some (.int kd), some (pR w g), none, none, none, none, some (.tup [.str "weights", rwR K x]), none] s := fun s => by simp only [q05_t2, evX, i2, i3, l2, n2]
    refine ⟨[], s, ?_⟩
    rw [q05_t, a_seq, s1, rs_nx, a_seq, s2, rs_nx]
    simp only [q05_t3, q05_t4, q05_t5, evX, ar, it, rr, rg, tl, x0, x1, qw, hold, dk, f2, i2, i3, l2, e2]
  · have nk : kd ≠ 0 := fun z => by
      obtain ⟨v, hv, hg⟩ := h0 z
      have := weak hv hg yp
      grind
    have dk : decide (kd = 0) = false := decide_eq_false nk
    have hold := fun s => w_functional_holds h yp yg yc s
    have f2 : ∃ y', ∀ s, m_feasible [.tup (rw1 K fun k => rwR w (R k)), rwR w g] s = .ok (.tup [.str "functional", rwR w y']) s := by
      rcases a2 with ⟨x, _, xp, xg, _⟩ | ⟨y', f2, _⟩
      · have := weak xp xg yp
        grind
      · exact ⟨y', f2⟩
    obtain ⟨y', f2⟩ := f2
    have s1 : ∀ s, q05_t1 [none, some .st, none, some (.lst (rw1 K fun k => pR w (R k))), none, some (.int kd), some (pR w g), none, none, none, none, none, none] s = .go .nx [none, some .st, none, some (.lst (rw1 K fun k => pR w (R k))), none, some (.int kd), some (pR w g), none, none, none, none, some (.tup [.str "functional", rwR w y]), none] s := fun s => by simp only [q05_t1, evX, ar, it, rr, rg, f1]
    have s2 : ∀ s, q05_t2 [none, some .st, none, some (.lst (rw1 K fun k => pR w (R k))), none, some (.int kd), some (pR w g), none, none, none, none, some (.tup [.str "functional", rwR w y]), none] s = .go .nx [none, some .st, none, some (.lst (rw1 K fun k => pR w (R k))), none, some (.int kd), some (pR w g), none, none, none, none, some (.tup [.str "functional", rwR w y]), none] s := fun s => by simp only [q05_t2, evX, i2, i3, l2, n2]
    refine ⟨[], s, ?_⟩
    rw [q05_t, a_seq, s1, rs_nx, a_seq, s2, rs_nx]
    simp only [q05_t3, q05_t4, q05_t5, evX, ar, it, rr, rg, tl, x0, x1, qx, qn, qf, hold, dk, f2, i2, i3, l2, e2]
theorem c_drawH {α : Type} {i m : Nat} {x : EX} {ρ0 : En} (hh : Nat → D) (enc : α → D) (Q : α → Prop) (d0 : α) (hm : m ≤ 1000000) (he : ∀ k, k < m → ∀ s, ∃ (v : α) (s' : DS), Q v ∧ x (ρ0.set i (some (hh k))) s = .ok (enc v) s') (s : DS) : ∃ (f : Nat → α) (s' : DS), (∀ j, j < m → Q (f j)) ∧ compR (gSet i) tYesD x ρ0 (rw1 m hh) s = .ok (.lst (rw1 m fun j => enc (f j))) s' := by
  have key : ∀ (l : List Nat) (acc : List D) (s : DS), (∀ k ∈ l, k < m) → ∃ (vs : List α) (s' : DS), vs.length = l.length ∧ (∀ v ∈ vs, Q v) ∧ compA (gSet i) tYesD x ρ0 acc (l.map hh) s = .ok (.lst (acc ++ vs.map enc)) s' := fun l => by
    induction l with
    | nil => intro acc s _; exact ⟨[], s, rfl, fun _ m => (by cases m), by simp [a_compNil]⟩
    | cons k l ih =>
      intro acc s h
      obtain ⟨v, s1, hv, e⟩ := he k (h k List.mem_cons_self) s
      obtain ⟨vs, s2, hl, hq, e2⟩ := ih (acc ++ [enc v]) s1 fun z mz => h z (List.mem_cons_of_mem _ mz)
      refine ⟨v :: vs, s2, by simp [hl], fun z mz => ?_, ?_⟩
      · rcases List.mem_cons.mp mz with rfl | mz
        · exact hv
        · exact hq z mz
      · show (M.bnd (noErr (x (ρ0.set i (some (hh k))))) fun z => compA (gSet i) tYesD x ρ0 (acc ++ [z]) (l.map hh)) s = _
        unfold M.bnd
        rw [noErr_ok e]
        show compA (gSet i) tYesD x ρ0 (acc ++ [enc v]) (l.map hh) s1 = _
        rw [e2]
        simp
  obtain ⟨vs, s', hl, hq, e⟩ := key (List.range m) [] s fun k mk => List.mem_range.mp mk
  rw [List.length_range] at hl
  refine ⟨fun j => vs.getD j d0, s', fun j hj => hq _ (getD_in (by omega)), ?_⟩
  unfold compR rw1
  rw [if_pos (by rw [List.length_map, List.length_range]; exact hm), e, List.nil_append, map_getD vs _ d0, hl]
  rfl
theorem s05_a {kd : Int} (hw : w ≤ 4) (hk : K ≤ 5) (hR : ∀ k, k < K → ∀ j, j < w → Sm (R k j)) (s : DS) : ∃ (v : Nat → Rat) (s' : DS), (∀ j, j < K → Sm (v j) ∧ 0 ≤ v j) ∧ q05_a1 [none, some .st, some (.int (w : Nat)), some (.lst (rw1 K fun k => pR w (R k))), none, some (.int kd), some (pR w g), none, none, none, none, none, none] s = .go .nx [none, some .st, some (.int (w : Nat)), some (.lst (rw1 K fun k => pR w (R k))), none, some (.int kd), some (pR w g), some (pR K v), none, none, none, none, none] s' := by
  have it : itemsOf (.lst (rw1 K fun k => pR w (R k))) = some (rw1 K fun k => pR w (R k)) := rfl
  have ad : ∀ (a b : Int) s, dAddL (.int a) (.int b) s = .ok (.int (a + b)) s := fun a b s => rfl
  obtain ⟨v, s1, hv, e⟩ := c_drawH (i := 8) (m := K) (x := cCall (ar 2 m__law_frac) (aCons (cCall (ar 2 m__law_take) (aCons (cVar 1) (aCons (cC (.int 5)) aNil))) (aCons (cBin dAddL (cC (.int 1)) (cCall (ar 2 m__law_take) (aCons (cVar 1) (aCons (cC (.int 3)) aNil)))) aNil))) (ρ0 := [none, some .st, some (.int (w : Nat)), some (.lst (rw1 K fun k => pR w (R k))), none, some (.int kd), some (pR w g), none, none, none, none, none, none]) (fun k => pR w (R k)) ratT (fun q => Sm q ∧ 0 ≤ q) 0 (by omega) (fun k hk s => by
    obtain ⟨n, s1, hn, e1⟩ := take_lit (k := 5) (by decide) (by decide) (i := 5) rfl s
    obtain ⟨r, s2, hr, e2⟩ := take_lit (k := 3) (by decide) (by decide) (i := 3) rfl s1
    have lf := fun s => w_lawfrac' (n : Int) (1 + (r : Int)) (by omega) (log_of (k := 10) (by omega) (by decide)) s
    refine ⟨_, s2, ⟨sm_div (n := (n : Int)) (by omega) (show r < 4 by omega), ?_⟩, by simp only [evX, ar, e1, e2, ad, lf]⟩
    rw [Rat.divInt_eq_div]
    have h1 : (0 : Rat) < ((1 + (r : Int) : Int) : Rat) := Rat.intCast_pos.mpr (by omega)
    have h2 : (0 : Rat) ≤ ((n : Int) : Rat) := by
      have e0 : ((0 : Int) : Rat) = 0 := rfl
      rw [← e0]
      exact Rat.intCast_le_intCast.mpr (by omega)
    rw [Rat.div_def]
    exact Rat.mul_nonneg h2 (Rat.le_of_lt (Rat.inv_pos.mpr h1))) s
  exact ⟨v, s1, hv, by simp only [q05_a1, evX, it, e]; rfl⟩
theorem s05_a2 {kd : Int} (hw : w ≤ 4) (hk : K ≤ 5) (hR : ∀ k, k < K → ∀ j, j < w → Sm (R k j)) {v : Nat → Rat} (hv : ∀ j, j < K → Sm (v j)) (s : DS) : q05_a2 [none, some .st, some (.int (w : Nat)), some (.lst (rw1 K fun k => pR w (R k))), none, some (.int kd), some (pR w g), some (pR K v), none, none, none, none, none] s = .go .nx [none, some .st, some (.int (w : Nat)), some (.lst (rw1 K fun k => pR w (R k))), none, some (.int kd), some (pR w (smF ((List.range K).map R) v K)), none, none, none, none, none, none] s ∧ S5 w K R (smF ((List.range K).map R) v K) ∧ ∀ i, i < w → fsum (fun j => v j * R j i) K = smF ((List.range K).map R) v K i := by
  have hl : ((List.range K).map R).length = K := by rw [List.length_map, List.length_range]
  have hS : ∀ k, k < K → ∀ i, i < w → Sm ((((List.range K).map R).getD k fzR) i) := fun k hk i hi => by rw [gtR hk]; exact hR k hk i hi
  have es : ∀ k, k ≤ K → ∀ i, smF ((List.range K).map R) v k i = fsum (fun j => v j * R j i) k := fun k hk i => by
    unfold smF
    exact fs_congr fun j hj => by rw [gtR (show j < K by omega)]
  have at_ : ∀ k, k ≤ K → ∀ i, i < w → ∃ c : Int, c.natAbs ≤ k * 2 ^ 12 ∧ smF ((List.range K).map R) v k i = (c : Rat) / ((144 : Int) : Rat) := fun k hk i hi => by
    rw [es k hk i]
    exact fsum_at (B := 12) (m := K) (e := 144) (g := fun j => v j * R j i) (fun j hj => by
      obtain ⟨a, ha, ea⟩ := hv j hj
      obtain ⟨b, hb, eb⟩ := hR j hj i hi
      refine ⟨a * b, ia_mul ha hb, ?_⟩
      have e0 : ((144 : Int) : Rat) = ((12 : Int) : Rat) * ((12 : Int) : Rat) := by rw [← Rat.intCast_mul]; rfl
      have h12 : ((12 : Int) : Rat) ≠ 0 := by decide
      show v j * R j i = _
      rw [ea, eb, e0, Rat.intCast_mul]
      grind) k hk
  have bd : ∀ k, k ≤ K → ∀ i, i < w → ∃ c : Int, c.natAbs < 2 ^ 15 ∧ smF ((List.range K).map R) v k i = (c : Rat) / ((144 : Int) : Rat) := fun k hk i hi => by
    obtain ⟨c, hc, e⟩ := at_ k hk i hi
    refine ⟨c, Nat.lt_of_le_of_lt hc ?_, e⟩
    have : k * 2 ^ 12 ≤ 5 * 2 ^ 12 := Nat.mul_le_mul_right _ (by omega)
    exact Nat.lt_of_le_of_lt this (by decide)
  have ws := fun s => w_sum_of (m := w) (L := (List.range K).map R) (w := v) (by omega) (by omega) (by rw [hl]; exact fun k hk => fit_sm (hv k hk)) (by rw [hl]; exact fun k hk i hi => fit_sm (hS k hk i hi)) (by rw [hl]; exact fun k hk i hi => fit_smm (hv k hk) (hS k hk i hi)) (by
    rw [hl]
    intro k hk i hi
    obtain ⟨c, hc, e⟩ := bd k hk i hi
    rw [e]
    exact (Bits.quo (N := 15) (E := 15) (by decide) hc (by decide)).fit (by decide) (by decide)) s
  rw [hl, ← rwM] at ws
  exact ⟨by simp only [q05_a2, evX, ar, ws], ⟨hw, hk, hR, fun j hj => bd K (Nat.le_refl _) j hj⟩, fun i _ => (es K (Nat.le_refl _) i).symm⟩
theorem s05_n {kd : Int} (hw : w ≤ 4) (s : DS) : ∃ (u : RwF) (s' : DS), (∀ j, j < w → Sm (u j)) ∧ q05_n [none, some .st, some (.int (w : Nat)), some (.lst (rw1 K fun k => pR w (R k))), none, some (.int kd), some (pR w g), none, none, none, none, none, none] s = .go .nx [none, some .st, none, some (.lst (rw1 K fun k => pR w (R k))), none, some (.int kd), some (pR w g), none, none, some (pR w u), none, none, none] s' := by
  obtain ⟨u, s', hu, e⟩ := w_row4 (m := w) (by omega) s
  exact ⟨u, s', hu, by simp only [q05_n, evX, ar, e]⟩
theorem s05_i1 {u : RwF} {kd : Int} (hk : kd = 0) (s : DS) : q05_i1 [none, some .st, none, some (.lst (rw1 K fun k => pR w (R k))), none, some (.int kd), some (pR w g), none, none, some (pR w u), none, none, none] s = .go .nx [none, some .st, none, some (.lst (rw1 K fun k => pR w (R k))), none, some (.int kd), some (pR w g), none, none, none, none, none, none] s := by
  subst hk
  have d1 : decide ((0 : Int) = 1) = false := rfl
  simp only [q05_i1, evX, d1]
def tnR (w : Nat) (u : RwF) (r : RwF) : RwF := if 0 < fsum (fun i => u i * r i) w then fun i => -(r i) else r
theorem sm_neg {q : Rat} (h : Sm q) : Sm (-q) := by
  obtain ⟨a, ha, e⟩ := h
  refine ⟨-a, by rw [Int.natAbs_neg]; exact ha, ?_⟩
  rw [e, Rat.intCast_neg]
  grind
theorem tn_sm {u r : RwF} (h : ∀ j, j < w → Sm (r j)) : ∀ j, j < w → Sm (tnR w u r j) := fun j hj => by
  unfold tnR
  split
  · exact sm_neg (h j hj)
  · exact h j hj
theorem tn_le {u r : RwF} : fsum (fun i => u i * tnR w u r i) w ≤ 0 := by
  unfold tnR
  by_cases c : 0 < fsum (fun i => u i * r i) w
  · rw [if_pos c, fs_congr (g := fun i => (-1) * (u i * r i)) fun i _ => by grind, fs_mul]
    generalize fsum (fun i => u i * r i) w = F at *
    grind
  · rw [if_neg c]
    grind
theorem s05_i2 {u : RwF} {kd : Int} (hkd : kd ≠ 0) (h : S5 w K R g) (hu : ∀ j, j < w → Sm (u j)) (s : DS) : ∃ (R2 : Nat → RwF) (g2 : RwF) (kd2 : Int), S5 w K R2 g2 ∧ kd2 ≠ 0 ∧ (kd2 = 1 → ∃ y : Nat → Rat, (∀ j, j < K → fsum (fun i => y i * R2 j i) w ≤ 0) ∧ 0 < fsum (fun i => y i * g2 i) w) ∧ q05_i2 [none, some .st, none, some (.lst (rw1 K fun k => pR w (R k))), none, some (.int kd), some (pR w g), none, none, some (pR w u), none, none, none] s = .go .nx [none, some .st, none, some (.lst (rw1 K fun k => pR w (R2 k))), none, some (.int kd2), some (pR w g2), none, none, none, none, none, none] s := by
  have hw := h.hw
  have hk := h.hk
  have wd := fun s => w_dot4 (m := w) (by omega) (N := 6) (K := 6) (by decide) (cm_sm hu) (cm_sm hu) s
  rw [← fsum_lsum] at wd
  have ab := fun q s => w_above q s
  by_cases c : kd = 1
  · have d1 : decide (kd = 1) = true := decide_eq_true c
    by_cases c2 : 0 < fsum (fun i => u i * u i) w
    · have d2 : decide (0 < fsum (fun j => u j * u j) w) = true := decide_eq_true c2
      have ln : ∀ s, dLen (.lst (rw1 K fun k => pR w (R k))) s = .ok (.int (K : Nat)) s := fun s => by rw [d_lenL, rw1_length]
      have fr : ∀ g b ρ s, forRD g b (.int (K : Nat)) ρ s = forL g b ((List.range K).map fun (k : Nat) => D.int k) ρ s := fun g b ρ s => d_forR (by omega)
      have lo : ∀ s, forL (gSet 4) l1_law__29 ((List.range K).map fun (k : Nat) => D.int k) [none, some .st, none, some (.lst (rw1 K fun j => pR w (if j < 0 then tnR w u (R j) else R j))), none, some (.int kd), some (pR w u), none, none, some (pR w u), none, none, none] s = .go .nx [none, some .st, none, some (.lst (rw1 K fun j => pR w (if j < K then tnR w u (R j) else R j))), none, some (.int kd), some (pR w u), none, none, some (pR w u), none, none, none] s := fun s =>
        fl_ix (E := fun k => [none, some .st, none, some (.lst (rw1 K fun j => pR w (if j < k then tnR w u (R j) else R j))), none, some (.int kd), some (pR w u), none, none, some (pR w u), none, none, none]) fun k hk' => by
          have ix : ∀ s, dIdx (.lst (rw1 K fun j => pR w (if j < k then tnR w u (R j) else R j))) (.int (k : Nat)) s = .ok (pR w (R k)) s := fun s => by
            have := d_ixL (n := K) (a := k) (f := fun j => pR w (if j < k then tnR w u (R j) else R j)) (s := s) hk'
            rw [this, if_neg (Nat.lt_irrefl k)]
          have wk := fun s => w_dot4 (m := w) (by omega) (N := 6) (K := 6) (by decide) (cm_sm hu) (cm_sm (h.hR k hk')) s
          rw [← fsum_lsum] at wk
          by_cases c3 : 0 < fsum (fun i => u i * R k i) w
          · have d3 : decide (0 < fsum (fun j => u j * R k j) w) = true := decide_eq_true c3
            have it : itemsOf (pR w (R k)) = some (rw1 w fun j => ratT (R k j)) := rfl
            have c2' : (0 + 1 + 1 : Nat) ≤ 1000000 := by decide
            have cc : ∀ s, compR (gSet 10) tYesD (cTup (aCons (cUn dNegI (cBin dIdx (cVar 10) (cC (.int 0)))) (aCons (cBin dIdx (cVar 10) (cC (.int 1))) aNil))) [none, some .st, none, some (.lst (rw1 K fun j => pR w (if j < k then tnR w u (R j) else R j))), some (.int (k : Nat)), some (.int kd), some (pR w u), none, none, some (pR w u), none, none, none] (rw1 w fun j => ratT (R k j)) s = .ok (pR w fun j => -(R k j)) s := fun s =>
              c_rw (fun j => ratT (-(R k j))) (by omega) fun j hj s => by
                have t0 : ∀ s, dIdx (ratT (R k j)) (.int 0) s = .ok (.int (R k j).num) s := fun s => rfl
                have t1 : ∀ s, dIdx (ratT (R k j)) (.int 1) s = .ok (.int ((R k j).den : Int)) s := fun s => rfl
                have ng : ∀ (z : Int) s, dNegI (.int z) s = .ok (.int (-z)) s := fun z s => rfl
                have e : ratT (-(R k j)) = .tup [.int (-(R k j).num), .int ((R k j).den : Int)] := rfl
                rw [e]
                simp only [evX, t0, t1, ng, c2']
            have ev : ∀ s, cComp (srcSeq (cBin dIdx (cVar 3) (cVar 4))) (gSet 10) tYesD (cTup (aCons (cUn dNegI (cBin dIdx (cVar 10) (cC (.int 0)))) (aCons (cBin dIdx (cVar 10) (cC (.int 1))) aNil))) [10] [none, some .st, none, some (.lst (rw1 K fun j => pR w (if j < k then tnR w u (R j) else R j))), some (.int (k : Nat)), some (.int kd), some (pR w u), none, none, some (pR w u), none, none, none] s = .ok (pR w fun j => -(R k j)) s := fun s => by
              simp only [evX, ix, it, cc]
            have up : ∀ s, sAsgT (uAt 3 (cVar 4)) (cComp (srcSeq (cBin dIdx (cVar 3) (cVar 4))) (gSet 10) tYesD (cTup (aCons (cUn dNegI (cBin dIdx (cVar 10) (cC (.int 0)))) (aCons (cBin dIdx (cVar 10) (cC (.int 1))) aNil))) [10]) [none, some .st, none, some (.lst (rw1 K fun j => pR w (if j < k then tnR w u (R j) else R j))), some (.int (k : Nat)), some (.int kd), some (pR w u), none, none, some (pR w u), none, none, none] s = .go .nx [none, some .st, none, some (.lst (rw1 K fun j => pR w (if j < k + 1 then tnR w u (R j) else R j))), some (.int (k : Nat)), some (.int kd), some (pR w u), none, none, some (pR w u), none, none, none] s := fun s => by
              rw [a_asgT, ev, re_ok, a_uAtG (i := 3) (l := rw1 K fun j => pR w (if j < k then tnR w u (R j) else R j)) (a := k) rfl (by simp only [evX]) (by rw [rw1_length]; exact hk'), rw1_set]
              have e : (rw1 K fun y => if y = k then pR w (fun j => -(R k j)) else pR w (if y < k then tnR w u (R y) else R y)) = rw1 K fun j => pR w (if j < k + 1 then tnR w u (R j) else R j) := rw1_congr fun x _ => by
                by_cases q : x = k
                · rw [if_pos q, if_pos (by omega), q]
                  unfold tnR
                  rw [if_pos c3]
                · rw [if_neg q]
                  by_cases q2 : x < k
                  · rw [if_pos q2, if_pos (by omega)]
                  · rw [if_neg q2, if_neg (by omega)]
              rw [e]
              rfl
            simp only [l1_law__29, evX, ar, ix, wk, ab, d3, up]
          · have d3 : decide (0 < fsum (fun j => u j * R k j) w) = false := decide_eq_false c3
            have e : (rw1 K fun j => pR w (if j < k + 1 then tnR w u (R j) else R j)) = rw1 K fun j => pR w (if j < k then tnR w u (R j) else R j) := rw1_congr fun x _ => by
              by_cases q : x = k
              · rw [q, if_pos (by omega), if_neg (Nat.lt_irrefl k)]
                unfold tnR
                rw [if_neg c3]
              · by_cases q2 : x < k
                · rw [if_pos q2, if_pos (by omega)]
                · rw [if_neg q2, if_neg (by omega)]
            rw [e]
            simp only [l1_law__29, evX, ar, ix, wk, ab, d3]
      refine ⟨fun j => tnR w u (R j), u, kd, ⟨hw, hk, fun k hk => tn_sm (h.hR k hk), fun j hj => sm_144 (hu j hj)⟩, hkd, fun _ => ⟨u, fun j _ => tn_le, c2⟩, ?_⟩
      have e0 : (rw1 K fun j => pR w (if j < 0 then tnR w u (R j) else R j)) = rw1 K fun k => pR w (R k) := rw1_congr fun x _ => by rw [if_neg (Nat.not_lt_zero _)]
      have eK : (rw1 K fun j => pR w (if j < K then tnR w u (R j) else R j)) = rw1 K fun k => pR w (tnR w u (R k)) := rw1_congr fun x hx => by rw [if_pos hx]
      rw [e0, eK] at lo
      simp only [q05_i2, evX, ar, d1, wd, ab, d2, ln, fr, lo]
    · have d2 : decide (0 < fsum (fun j => u j * u j) w) = false := decide_eq_false c2
      refine ⟨R, g, 2, h, by decide, fun z => absurd z (by decide), ?_⟩
      simp only [q05_i2, evX, ar, d1, wd, ab, d2]
  · have d1 : decide (kd = 1) = false := decide_eq_false c
    refine ⟨R, g, kd, h, hkd, fun z => absurd z c, ?_⟩
    simp only [q05_i2, evX, ar, d1]
end
theorem law_true : ∀ s : DS, ∃ ρ' s', b_law__29 (none :: some .st :: List.replicate 11 none) s = .go (.rt (.bl true)) ρ' s' := fun s => by
  obtain ⟨w, s1, hw, e1⟩ := take_lit (k := 5) (by decide) (by decide) (i := 5) rfl s
  obtain ⟨K, s2, hK, e2⟩ := take_lit (k := 6) (by decide) (by decide) (i := 6) rfl s1
  obtain ⟨R, s3, hR, e3⟩ := c_drawG (i := 4) (m := K) (x := cCall (ar 2 m__law_row) (aCons (cVar 1) (aCons (cVar 2) aNil))) (ρ0 := [none, some .st, some (.int (w : Nat)), none, none, none, none, none, none, none, none, none, none]) (fun f => pR w f) (fun f => ∀ j, j < w → Sm (f j)) fzR (by omega) (fun k hk s => by
    obtain ⟨f, s', hf, e⟩ := w_row4 (m := w) (by omega) s
    exact ⟨f, s', hf, by simp only [evX, ar, e]⟩) s2
  obtain ⟨kn, s4, hkd, e4⟩ := take_lit (k := 3) (by decide) (by decide) (i := 3) rfl s3
  obtain ⟨kd, hkn⟩ : ∃ kd : Int, kd = (kn : Int) := ⟨_, rfl⟩
  rw [← hkn] at e4
  obtain ⟨g, s5, hg, e5⟩ := w_row4 (m := w) (by omega) s4
  have hh : b_law__29 (none :: some .st :: List.replicate 11 none) s = b_law__29 [none, some .st, none, none, none, none, none, none, none, none, none, none, none] s := rfl
  have f1 : q05_1 [none, some .st, none, none, none, none, none, none, none, none, none, none, none] s = .go .nx [none, some .st, some (.int (w : Nat)), none, none, none, none, none, none, none, none, none, none] s1 := by simp only [q05_1, evX, ar, e1]
  have f2 : q05_2 [none, some .st, some (.int (w : Nat)), none, none, none, none, none, none, none, none, none, none] s1 = .go .nx [none, some .st, some (.int (w : Nat)), some (.lst (rw1 K fun k => pR w (R k))), none, none, none, none, none, none, none, none, none] s3 := by simp only [q05_2, evX, ar, e2, d_srcR (show K ≤ 1000000 by omega), e3]
  have f3 : q05_3 [none, some .st, some (.int (w : Nat)), some (.lst (rw1 K fun k => pR w (R k))), none, none, none, none, none, none, none, none, none] s3 = .go .nx [none, some .st, some (.int (w : Nat)), some (.lst (rw1 K fun k => pR w (R k))), none, some (.int kd), none, none, none, none, none, none, none] s4 := by simp only [q05_3, evX, ar, e4]
  have f4 : q05_4 [none, some .st, some (.int (w : Nat)), some (.lst (rw1 K fun k => pR w (R k))), none, some (.int kd), none, none, none, none, none, none, none] s4 = .go .nx [none, some .st, some (.int (w : Nat)), some (.lst (rw1 K fun k => pR w (R k))), none, some (.int kd), some (pR w g), none, none, none, none, none, none] s5 := by simp only [q05_4, evX, ar, e5]
  have h5 : S5 w K R g := ⟨by omega, by omega, hR, fun j hj => sm_144 (hg j hj)⟩
  rw [hh, q05_eq, a_seq, f1, rs_nx, a_seq, f2, rs_nx, a_seq, f3, rs_nx, a_seq, f4, rs_nx]
  by_cases c : kd = 0
  · have d0 : cTest (cBin dEq (cVar 5) (cC (.int 0))) [none, some .st, some (.int (w : Nat)), some (.lst (rw1 K fun k => pR w (R k))), none, some (.int kd), some (pR w g), none, none, none, none, none, none] s5 = .ok true s5 := by
      have d1 : decide (kd = 0) = true := decide_eq_true c
      simp only [evX, d1]
    obtain ⟨v, s6, hv, e6⟩ := s05_a (w := w) (K := K) (R := R) (g := g) (kd := kd) (by omega) (by omega) hR s5
    obtain ⟨e7, h7, g7⟩ := s05_a2 (w := w) (K := K) (R := R) (g := g) (kd := kd) (by omega) (by omega) hR (fun j hj => (hv j hj).1) s6
    obtain ⟨g1, hg1⟩ : ∃ g1, g1 = smF ((List.range K).map R) v K := ⟨_, rfl⟩
    rw [← hg1] at e7 h7 g7
    obtain ⟨u, s8, hu, e8⟩ := s05_n (w := w) (K := K) (R := R) (g := g1) (kd := kd) (by omega) s6
    have e9 := s05_i1 (w := w) (K := K) (R := R) (g := g1) (u := u) c s8
    obtain ⟨v2, hv2⟩ : ∃ v2 : Nat → Rat, v2 = fun j => if j < K then v j else 0 := ⟨_, rfl⟩
    obtain ⟨ρ', s', e10⟩ := s05_t h7 (kd := kd) (fun _ => ⟨v2, fun j => by rw [hv2]; dsimp only; split; exact (hv j (by assumption)).2; exact Rat.le_refl, fun i hi => by
      rw [← g7 i hi]
      exact fs_congr fun j hj => by rw [hv2]; dsimp only; rw [if_pos hj]⟩) (fun z => absurd (z.symm.trans c) (by decide)) s8
    refine ⟨ρ', s', ?_⟩
    rw [q05_5, a_ifD d0, if_pos rfl, a_seq, a_seq, e6, rs_nx, e7, rs_nx, a_seq, e8, rs_nx, a_seq, e9, rs_nx, e10]
  · have d0 : cTest (cBin dEq (cVar 5) (cC (.int 0))) [none, some .st, some (.int (w : Nat)), some (.lst (rw1 K fun k => pR w (R k))), none, some (.int kd), some (pR w g), none, none, none, none, none, none] s5 = .ok false s5 := by
      have d1 : decide (kd = 0) = false := decide_eq_false c
      simp only [evX, d1]
    obtain ⟨u, s8, hu, e8⟩ := s05_n (w := w) (K := K) (R := R) (g := g) (kd := kd) (by omega) s5
    obtain ⟨R2, g2, kd2, h2, n2, k2, e9⟩ := s05_i2 (u := u) c h5 hu s8
    obtain ⟨ρ', s', e10⟩ := s05_t h2 (kd := kd2) (fun z => absurd z n2) k2 s8
    refine ⟨ρ', s', ?_⟩
    rw [q05_5, a_ifD d0, if_neg (by decide), a_seq, e8, rs_nx, a_seq, e9, rs_nx, e10]
end PR
set_option maxHeartbeats 4000000
namespace LK
open PySem PySem.Spec PyProof.Rows L2 PL MB PR
theorem all_mk {l : PySem.W.OpenLaw} {w : World} {K : PySem.W.Frag} {h : Heap} {mg : Str → Option Value} {fa : Addr} (X : K.In h) (N : h.Ns mainGlobals mg) (hfa : mg "law" = some (.ref fa))
        {rc c0  : Addr}
    {a0 : Addr} {od0 an0 : Option Addr} {sl0 : Array (Option Value)} {oc0 kV0 dc0 pm0 cd0 ct0 : Value}
    {tD0 : Addr} {to0 : Value} {td0 : Option Addr} {tn0 : Nat} {ts0 : Array (Option Value)} {tt0 : Tok}
    {a1 : Addr} {od1 an1 : Option Addr} {sl1 : Array (Option Value)} {oc1 kV1 dc1 pm1 cd1 ct1 : Value}
    {a2 : Addr} {od2 an2 : Option Addr} {sl2 : Array (Option Value)} {oc2 kV2 dc2 pm2 cd2 ct2 : Value}
    {a3 : Addr} {od3 an3 : Option Addr} {sl3 : Array (Option Value)} {oc3 kV3 dc3 pm3 cd3 ct3 : Value}
    {a4 : Addr} {od4 an4 : Option Addr} {sl4 : Array (Option Value)} {oc4 kV4 dc4 pm4 cd4 ct4 : Value}
    {a5 : Addr} {od5 an5 : Option Addr} {sl5 : Array (Option Value)} {oc5 kV5 dc5 pm5 cd5 ct5 : Value}
    {a6 : Addr} {od6 an6 : Option Addr} {sl6 : Array (Option Value)} {oc6 kV6 dc6 pm6 cd6 ct6 : Value}
    {a7 : Addr} {od7 an7 : Option Addr} {sl7 : Array (Option Value)} {oc7 kV7 dc7 pm7 cd7 ct7 : Value}
    {a8 : Addr} {od8 an8 : Option Addr} {sl8 : Array (Option Value)} {oc8 kV8 dc8 pm8 cd8 ct8 : Value}
    {a9 : Addr} {od9 an9 : Option Addr} {sl9 : Array (Option Value)} {oc9 kV9 dc9 pm9 cd9 ct9 : Value}
    {a10 : Addr} {od10 an10 : Option Addr} {sl10 : Array (Option Value)} {oc10 kV10 dc10 pm10 cd10 ct10 : Value}
    {a11 : Addr} {od11 an11 : Option Addr} {sl11 : Array (Option Value)} {oc11 kV11 dc11 pm11 cd11 ct11 : Value}
    {a12 : Addr} {od12 an12 : Option Addr} {sl12 : Array (Option Value)} {oc12 kV12 dc12 pm12 cd12 ct12 : Value}
    {a13 : Addr} {od13 an13 : Option Addr} {sl13 : Array (Option Value)} {oc13 kV13 dc13 pm13 cd13 ct13 : Value}
    {a14 : Addr} {od14 an14 : Option Addr} {sl14 : Array (Option Value)} {oc14 kV14 dc14 pm14 cd14 ct14 : Value}
    {a15 : Addr} {od15 an15 : Option Addr} {sl15 : Array (Option Value)} {oc15 kV15 dc15 pm15 cd15 ct15 : Value}
    {a16 : Addr} {od16 an16 : Option Addr} {sl16 : Array (Option Value)} {oc16 kV16 dc16 pm16 cd16 ct16 : Value}
    {a17 : Addr} {od17 an17 : Option Addr} {sl17 : Array (Option Value)} {oc17 kV17 dc17 pm17 cd17 ct17 : Value}
    {a18 : Addr} {od18 an18 : Option Addr} {sl18 : Array (Option Value)} {oc18 kV18 dc18 pm18 cd18 ct18 : Value}
    {a19 : Addr} {od19 an19 : Option Addr} {sl19 : Array (Option Value)} {oc19 kV19 dc19 pm19 cd19 ct19 : Value}
    {a20 : Addr} {od20 an20 : Option Addr} {sl20 : Array (Option Value)} {oc20 kV20 dc20 pm20 cd20 ct20 : Value}
    {a21 : Addr} {od21 an21 : Option Addr} {sl21 : Array (Option Value)} {oc21 kV21 dc21 pm21 cd21 ct21 : Value}
    {a22 : Addr} {od22 an22 : Option Addr} {sl22 : Array (Option Value)} {oc22 kV22 dc22 pm22 cd22 ct22 : Value}
    {a23 : Addr} {od23 an23 : Option Addr} {sl23 : Array (Option Value)} {oc23 kV23 dc23 pm23 cd23 ct23 : Value}
    {a24 : Addr} {od24 an24 : Option Addr} {sl24 : Array (Option Value)} {oc24 kV24 dc24 pm24 cd24 ct24 : Value}
    {a25 : Addr} {od25 an25 : Option Addr} {sl25 : Array (Option Value)} {oc25 kV25 dc25 pm25 cd25 ct25 : Value}
    {a26 : Addr} {od26 an26 : Option Addr} {sl26 : Array (Option Value)} {oc26 kV26 dc26 pm26 cd26 ct26 : Value}
    {a27 : Addr} {od27 an27 : Option Addr} {sl27 : Array (Option Value)} {oc27 kV27 dc27 pm27 cd27 ct27 : Value}
    {a28 : Addr} {od28 an28 : Option Addr} {sl28 : Array (Option Value)} {oc28 kV28 dc28 pm28 cd28 ct28 : Value}
    {a29 : Addr} {od29 an29 : Option Addr} {sl29 : Array (Option Value)} {oc29 kV29 dc29 pm29 cd29 ct29 : Value}
    {a30 : Addr} {od30 an30 : Option Addr} {sl30 : Array (Option Value)} {oc30 kV30 dc30 pm30 cd30 ct30 : Value}
        (gR : PySem.W.nsIn K mainGlobals "Ratio" = some (some (.ref rc)))
    (gE0 : PySem.W.nsIn K mainGlobals "ZeroDivisor" = some (some (.ref c0)))
    (m0 : PySem.W.findIn K (.ref rc) "__init__" = some (some (.ref a0)))
    (i0 : PySem.W.isFn K (.ref a0) = true)
    (l0 : K.lookup a0 = some ⟨oc0, od0, .func (PySem.W.fnOf "__init__" "Ratio.__init__" (defArgs s_Ratio___init__) (defBody s_Ratio___init__) (defScope s_Ratio___init__) (.ref tD0) kV0 dc0 pm0 an0 cd0 ct0), sl0⟩)
    (D0 : K.lookup tD0 = some ⟨to0, td0, .seq [Value.int 1 tt0].toArray tn0, ts0⟩)
    (c_0 : PySem.W.codeIn K cd0 "Ratio.__init__" = true)
    (k0 : PySem.W.keepIn K (.ref a0) = true)
    (m1 : PySem.W.findIn K (.ref rc) "__eq__" = some (some (.ref a1)))
    (i1 : PySem.W.isFn K (.ref a1) = true)
    (l1 : K.lookup a1 = some ⟨oc1, od1, .func (PySem.W.fnOf "__eq__" "Ratio.__eq__" (defArgs s_Ratio___eq__) (defBody s_Ratio___eq__) (defScope s_Ratio___eq__) .none kV1 dc1 pm1 an1 cd1 ct1), sl1⟩)
    (c_1 : PySem.W.codeIn K cd1 "Ratio.__eq__" = true)
    (k1 : PySem.W.keepIn K (.ref a1) = true)
    (m2 : PySem.W.findIn K (.ref rc) "__add__" = some (some (.ref a2)))
    (i2 : PySem.W.isFn K (.ref a2) = true)
    (l2 : K.lookup a2 = some ⟨oc2, od2, .func (PySem.W.fnOf "__add__" "Ratio.__add__" (defArgs s_Ratio___add__) (defBody s_Ratio___add__) (defScope s_Ratio___add__) .none kV2 dc2 pm2 an2 cd2 ct2), sl2⟩)
    (c_2 : PySem.W.codeIn K cd2 "Ratio.__add__" = true)
    (k2 : PySem.W.keepIn K (.ref a2) = true)
    (m3 : PySem.W.findIn K (.ref rc) "__sub__" = some (some (.ref a3)))
    (i3 : PySem.W.isFn K (.ref a3) = true)
    (l3 : K.lookup a3 = some ⟨oc3, od3, .func (PySem.W.fnOf "__sub__" "Ratio.__sub__" (defArgs s_Ratio___sub__) (defBody s_Ratio___sub__) (defScope s_Ratio___sub__) .none kV3 dc3 pm3 an3 cd3 ct3), sl3⟩)
    (c_3 : PySem.W.codeIn K cd3 "Ratio.__sub__" = true)
    (k3 : PySem.W.keepIn K (.ref a3) = true)
    (m4 : PySem.W.findIn K (.ref rc) "__mul__" = some (some (.ref a4)))
    (i4 : PySem.W.isFn K (.ref a4) = true)
    (l4 : K.lookup a4 = some ⟨oc4, od4, .func (PySem.W.fnOf "__mul__" "Ratio.__mul__" (defArgs s_Ratio___mul__) (defBody s_Ratio___mul__) (defScope s_Ratio___mul__) .none kV4 dc4 pm4 an4 cd4 ct4), sl4⟩)
    (c_4 : PySem.W.codeIn K cd4 "Ratio.__mul__" = true)
    (k4 : PySem.W.keepIn K (.ref a4) = true)
    (m5 : PySem.W.findIn K (.ref rc) "__neg__" = some (some (.ref a5)))
    (i5 : PySem.W.isFn K (.ref a5) = true)
    (l5 : K.lookup a5 = some ⟨oc5, od5, .func (PySem.W.fnOf "__neg__" "Ratio.__neg__" (defArgs s_Ratio___neg__) (defBody s_Ratio___neg__) (defScope s_Ratio___neg__) .none kV5 dc5 pm5 an5 cd5 ct5), sl5⟩)
    (c_5 : PySem.W.codeIn K cd5 "Ratio.__neg__" = true)
    (k5 : PySem.W.keepIn K (.ref a5) = true)
    (m6 : PySem.W.findIn K (.ref rc) "sign" = some (some (.ref a6)))
    (i6 : PySem.W.isFn K (.ref a6) = true)
    (l6 : K.lookup a6 = some ⟨oc6, od6, .func (PySem.W.fnOf "sign" "Ratio.sign" (defArgs s_Ratio_sign) (defBody s_Ratio_sign) (defScope s_Ratio_sign) .none kV6 dc6 pm6 an6 cd6 ct6), sl6⟩)
    (c_6 : PySem.W.codeIn K cd6 "Ratio.sign" = true)
    (k6 : PySem.W.keepIn K (.ref a6) = true)
    (g7 : PySem.W.nsIn K mainGlobals "zero" = some (some (.ref a7)))
    (l7 : K.lookup a7 = some ⟨oc7, od7, .func (PySem.W.fnOf "zero" "zero" (defArgs s_zero) (defBody s_zero) (defScope s_zero) .none kV7 dc7 pm7 an7 cd7 ct7), sl7⟩)
    (c_7 : PySem.W.codeIn K cd7 "zero" = true)
    (k7 : PySem.W.keepIn K (.ref a7) = true)
    (g8 : PySem.W.nsIn K mainGlobals "row_factor" = some (some (.ref a8)))
    (l8 : K.lookup a8 = some ⟨oc8, od8, .func (PySem.W.fnOf "row_factor" "row_factor" (defArgs s_row_factor) (defBody s_row_factor) (defScope s_row_factor) .none kV8 dc8 pm8 an8 cd8 ct8), sl8⟩)
    (c_8 : PySem.W.codeIn K cd8 "row_factor" = true)
    (k8 : PySem.W.keepIn K (.ref a8) = true)
    (g9 : PySem.W.nsIn K mainGlobals "starting" = some (some (.ref a9)))
    (l9 : K.lookup a9 = some ⟨oc9, od9, .func (PySem.W.fnOf "starting" "starting" (defArgs s_starting) (defBody s_starting) (defScope s_starting) .none kV9 dc9 pm9 an9 cd9 ct9), sl9⟩)
    (c_9 : PySem.W.codeIn K cd9 "starting" = true)
    (k9 : PySem.W.keepIn K (.ref a9) = true)
    (g10 : PySem.W.nsIn K mainGlobals "costs" = some (some (.ref a10)))
    (l10 : K.lookup a10 = some ⟨oc10, od10, .func (PySem.W.fnOf "costs" "costs" (defArgs s_costs) (defBody s_costs) (defScope s_costs) .none kV10 dc10 pm10 an10 cd10 ct10), sl10⟩)
    (c_10 : PySem.W.codeIn K cd10 "costs" = true)
    (k10 : PySem.W.keepIn K (.ref a10) = true)
    (g11 : PySem.W.nsIn K mainGlobals "leaving" = some (some (.ref a11)))
    (l11 : K.lookup a11 = some ⟨oc11, od11, .func (PySem.W.fnOf "leaving" "leaving" (defArgs s_leaving) (defBody s_leaving) (defScope s_leaving) .none kV11 dc11 pm11 an11 cd11 ct11), sl11⟩)
    (c_11 : PySem.W.codeIn K cd11 "leaving" = true)
    (k11 : PySem.W.keepIn K (.ref a11) = true)
    (g12 : PySem.W.nsIn K mainGlobals "subtracted" = some (some (.ref a12)))
    (l12 : K.lookup a12 = some ⟨oc12, od12, .func (PySem.W.fnOf "subtracted" "subtracted" (defArgs s_subtracted) (defBody s_subtracted) (defScope s_subtracted) .none kV12 dc12 pm12 an12 cd12 ct12), sl12⟩)
    (c_12 : PySem.W.codeIn K cd12 "subtracted" = true)
    (k12 : PySem.W.keepIn K (.ref a12) = true)
    (g13 : PySem.W.nsIn K mainGlobals "feasible" = some (some (.ref a13)))
    (l13 : K.lookup a13 = some ⟨oc13, od13, .func (PySem.W.fnOf "feasible" "feasible" (defArgs s_feasible) (defBody s_feasible) (defScope s_feasible) .none kV13 dc13 pm13 an13 cd13 ct13), sl13⟩)
    (c_13 : PySem.W.codeIn K cd13 "feasible" = true)
    (k13 : PySem.W.keepIn K (.ref a13) = true)
    (g14 : PySem.W.nsIn K mainGlobals "_law_state" = some (some (.ref a14)))
    (l14 : K.lookup a14 = some ⟨oc14, od14, .func (PySem.W.fnOf "_law_state" "_law_state" (defArgs s__law_state) (defBody s__law_state) (defScope s__law_state) .none kV14 dc14 pm14 an14 cd14 ct14), sl14⟩)
    (c_14 : PySem.W.codeIn K cd14 "_law_state" = true)
    (k14 : PySem.W.keepIn K (.ref a14) = true)
    (g15 : PySem.W.nsIn K mainGlobals "_law_take" = some (some (.ref a15)))
    (l15 : K.lookup a15 = some ⟨oc15, od15, .func (PySem.W.fnOf "_law_take" "_law_take" (defArgs s__law_take) (defBody s__law_take) (defScope s__law_take) .none kV15 dc15 pm15 an15 cd15 ct15), sl15⟩)
    (c_15 : PySem.W.codeIn K cd15 "_law_take" = true)
    (k15 : PySem.W.keepIn K (.ref a15) = true)
    (g16 : PySem.W.nsIn K mainGlobals "_law_gcd" = some (some (.ref a16)))
    (l16 : K.lookup a16 = some ⟨oc16, od16, .func (PySem.W.fnOf "_law_gcd" "_law_gcd" (defArgs s__law_gcd) (defBody s__law_gcd) (defScope s__law_gcd) .none kV16 dc16 pm16 an16 cd16 ct16), sl16⟩)
    (c_16 : PySem.W.codeIn K cd16 "_law_gcd" = true)
    (k16 : PySem.W.keepIn K (.ref a16) = true)
    (g17 : PySem.W.nsIn K mainGlobals "_law_frac" = some (some (.ref a17)))
    (l17 : K.lookup a17 = some ⟨oc17, od17, .func (PySem.W.fnOf "_law_frac" "_law_frac" (defArgs s__law_frac) (defBody s__law_frac) (defScope s__law_frac) .none kV17 dc17 pm17 an17 cd17 ct17), sl17⟩)
    (c_17 : PySem.W.codeIn K cd17 "_law_frac" = true)
    (k17 : PySem.W.keepIn K (.ref a17) = true)
    (g18 : PySem.W.nsIn K mainGlobals "_law_plus" = some (some (.ref a18)))
    (l18 : K.lookup a18 = some ⟨oc18, od18, .func (PySem.W.fnOf "_law_plus" "_law_plus" (defArgs s__law_plus) (defBody s__law_plus) (defScope s__law_plus) .none kV18 dc18 pm18 an18 cd18 ct18), sl18⟩)
    (c_18 : PySem.W.codeIn K cd18 "_law_plus" = true)
    (k18 : PySem.W.keepIn K (.ref a18) = true)
    (g19 : PySem.W.nsIn K mainGlobals "_law_times" = some (some (.ref a19)))
    (l19 : K.lookup a19 = some ⟨oc19, od19, .func (PySem.W.fnOf "_law_times" "_law_times" (defArgs s__law_times) (defBody s__law_times) (defScope s__law_times) .none kV19 dc19 pm19 an19 cd19 ct19), sl19⟩)
    (c_19 : PySem.W.codeIn K cd19 "_law_times" = true)
    (k19 : PySem.W.keepIn K (.ref a19) = true)
    (g20 : PySem.W.nsIn K mainGlobals "_law_ratio_row" = some (some (.ref a20)))
    (l20 : K.lookup a20 = some ⟨oc20, od20, .func (PySem.W.fnOf "_law_ratio_row" "_law_ratio_row" (defArgs s__law_ratio_row) (defBody s__law_ratio_row) (defScope s__law_ratio_row) .none kV20 dc20 pm20 an20 cd20 ct20), sl20⟩)
    (c_20 : PySem.W.codeIn K cd20 "_law_ratio_row" = true)
    (k20 : PySem.W.keepIn K (.ref a20) = true)
    (g21 : PySem.W.nsIn K mainGlobals "_law_pairs_of" = some (some (.ref a21)))
    (l21 : K.lookup a21 = some ⟨oc21, od21, .func (PySem.W.fnOf "_law_pairs_of" "_law_pairs_of" (defArgs s__law_pairs_of) (defBody s__law_pairs_of) (defScope s__law_pairs_of) .none kV21 dc21 pm21 an21 cd21 ct21), sl21⟩)
    (c_21 : PySem.W.codeIn K cd21 "_law_pairs_of" = true)
    (k21 : PySem.W.keepIn K (.ref a21) = true)
    (g22 : PySem.W.nsIn K mainGlobals "_law_are_ratios" = some (some (.ref a22)))
    (l22 : K.lookup a22 = some ⟨oc22, od22, .func (PySem.W.fnOf "_law_are_ratios" "_law_are_ratios" (defArgs s__law_are_ratios) (defBody s__law_are_ratios) (defScope s__law_are_ratios) .none kV22 dc22 pm22 an22 cd22 ct22), sl22⟩)
    (c_22 : PySem.W.codeIn K cd22 "_law_are_ratios" = true)
    (k22 : PySem.W.keepIn K (.ref a22) = true)
    (g23 : PySem.W.nsIn K mainGlobals "_law_small" = some (some (.ref a23)))
    (l23 : K.lookup a23 = some ⟨oc23, od23, .func (PySem.W.fnOf "_law_small" "_law_small" (defArgs s__law_small) (defBody s__law_small) (defScope s__law_small) .none kV23 dc23 pm23 an23 cd23 ct23), sl23⟩)
    (c_23 : PySem.W.codeIn K cd23 "_law_small" = true)
    (k23 : PySem.W.keepIn K (.ref a23) = true)
    (g24 : PySem.W.nsIn K mainGlobals "_law_row" = some (some (.ref a24)))
    (l24 : K.lookup a24 = some ⟨oc24, od24, .func (PySem.W.fnOf "_law_row" "_law_row" (defArgs s__law_row) (defBody s__law_row) (defScope s__law_row) .none kV24 dc24 pm24 an24 cd24 ct24), sl24⟩)
    (c_24 : PySem.W.codeIn K cd24 "_law_row" = true)
    (k24 : PySem.W.keepIn K (.ref a24) = true)
    (g25 : PySem.W.nsIn K mainGlobals "_law_dot" = some (some (.ref a25)))
    (l25 : K.lookup a25 = some ⟨oc25, od25, .func (PySem.W.fnOf "_law_dot" "_law_dot" (defArgs s__law_dot) (defBody s__law_dot) (defScope s__law_dot) .none kV25 dc25 pm25 an25 cd25 ct25), sl25⟩)
    (c_25 : PySem.W.codeIn K cd25 "_law_dot" = true)
    (k25 : PySem.W.keepIn K (.ref a25) = true)
    (g26 : PySem.W.nsIn K mainGlobals "_law_sum_of" = some (some (.ref a26)))
    (l26 : K.lookup a26 = some ⟨oc26, od26, .func (PySem.W.fnOf "_law_sum_of" "_law_sum_of" (defArgs s__law_sum_of) (defBody s__law_sum_of) (defScope s__law_sum_of) .none kV26 dc26 pm26 an26 cd26 ct26), sl26⟩)
    (c_26 : PySem.W.codeIn K cd26 "_law_sum_of" = true)
    (k26 : PySem.W.keepIn K (.ref a26) = true)
    (g27 : PySem.W.nsIn K mainGlobals "_law_is_above" = some (some (.ref a27)))
    (l27 : K.lookup a27 = some ⟨oc27, od27, .func (PySem.W.fnOf "_law_is_above" "_law_is_above" (defArgs s__law_is_above) (defBody s__law_is_above) (defScope s__law_is_above) .none kV27 dc27 pm27 an27 cd27 ct27), sl27⟩)
    (c_27 : PySem.W.codeIn K cd27 "_law_is_above" = true)
    (k27 : PySem.W.keepIn K (.ref a27) = true)
    (g28 : PySem.W.nsIn K mainGlobals "_law_weights_hold" = some (some (.ref a28)))
    (l28 : K.lookup a28 = some ⟨oc28, od28, .func (PySem.W.fnOf "_law_weights_hold" "_law_weights_hold" (defArgs s__law_weights_hold) (defBody s__law_weights_hold) (defScope s__law_weights_hold) .none kV28 dc28 pm28 an28 cd28 ct28), sl28⟩)
    (c_28 : PySem.W.codeIn K cd28 "_law_weights_hold" = true)
    (k28 : PySem.W.keepIn K (.ref a28) = true)
    (g29 : PySem.W.nsIn K mainGlobals "_law_functional_holds" = some (some (.ref a29)))
    (l29 : K.lookup a29 = some ⟨oc29, od29, .func (PySem.W.fnOf "_law_functional_holds" "_law_functional_holds" (defArgs s__law_functional_holds) (defBody s__law_functional_holds) (defScope s__law_functional_holds) .none kV29 dc29 pm29 an29 cd29 ct29), sl29⟩)
    (c_29 : PySem.W.codeIn K cd29 "_law_functional_holds" = true)
    (k29 : PySem.W.keepIn K (.ref a29) = true)
    (g30 : PySem.W.nsIn K mainGlobals "law" = some (some (.ref a30)))
    (l30 : K.lookup a30 = some ⟨oc30, od30, .func (PySem.W.fnOf "law" "law" (defArgs s_law) (defBody s_law) (defScope s_law) .none kV30 dc30 pm30 an30 cd30 ct30), sl30⟩)
    (c_30 : PySem.W.codeIn K cd30 "law" = true)
    (k30 : PySem.W.keepIn K (.ref a30) = true)
    (z_isinstance : PySem.W.nsIn K mainGlobals "isinstance" = some none)
    (z_int : PySem.W.nsIn K mainGlobals "int" = some none)
    (z_range : PySem.W.nsIn K mainGlobals "range" = some none)
    (z_abs : PySem.W.nsIn K mainGlobals "abs" = some none)
    (z_len : PySem.W.nsIn K mainGlobals "len" = some none)
    (z_sum : PySem.W.nsIn K mainGlobals "sum" = some none)
    (z_zip : PySem.W.nsIn K mainGlobals "zip" = some none)
    (z_tuple : PySem.W.nsIn K mainGlobals "tuple" = some none)
    (ggcd : PySem.W.nsIn K mainGlobals "gcd" = some (some (.builtin "math.gcd")))
    (glcm : PySem.W.nsIn K mainGlobals "lcm" = some (some (.builtin "math.lcm")))
    (hgn : PySem.W.specialIn K (.builtin "object.__class__") "__get__" = some (some (.builtin "getset_descriptor.__get__")))
    (htk : PySem.W.takesIn K (.builtin "object.__class__") = some true)
    (Rpg : PySem.W.plainGet K rc Str.empty = true)
    (Rhd : PySem.W.hasDictIn K rc = true)
    (Rpo : PySem.W.plainOver K rc = true)
    (Rsa : PySem.W.findIn K (.ref rc) "__setattr__" = some (some (.builtin "object.__setattr__")))
    (Rmk : PySem.W.makesIn K rc = true)
    (Rkc : PySem.W.keepIn K (.ref rc) = true)
    (Rha : PySem.W.findIn K (.ref rc) "__class__" = some (some (.builtin "object.__class__")))
    (Rhm : PySem.W.mroIn K rc (.type "object") = some true)
    (Rcl : PySem.W.isClsIn K rc = true)
    (Rty : PySem.W.typeIn K (.ref rc) = some (.type "type"))
    (Rsint : PySem.W.subIn K (.ref rc) (.type "int") = some false)
    (Rsbool : PySem.W.subIn K (.ref rc) (.type "bool") = some false)
    (Rsstr : PySem.W.subIn K (.ref rc) (.type "str") = some false)
    (Rslist : PySem.W.subIn K (.ref rc) (.type "list") = some false)
    (Rstuple : PySem.W.subIn K (.ref rc) (.type "tuple") = some false)
    (Rss : PySem.W.subIn K (.ref rc) (.ref rc) = some true)
    (Rsf : PySem.W.selfFirst K rc = true)
    (nan : PySem.W.findIn K (.ref rc) "n" = some none)
    (nad : PySem.W.findIn K (.ref rc) "d" = some none)
    (rne : PySem.W.findIn K (.ref rc) "__ne__" = some (some (.builtin "object.__ne__")))
    (rob : PySem.W.subIn K (.ref rc) (.type "object") = some true)
    (nfNoneType : PySem.W.notFirst K rc (.type "NoneType") = true)
    (nfbool : PySem.W.notFirst K rc (.type "bool") = true)
    (nfint : PySem.W.notFirst K rc (.type "int") = true)
    (nfstr : PySem.W.notFirst K rc (.type "str") = true)
    (nftuple : PySem.W.notFirst K rc (.type "tuple") = true)
    (nflist : PySem.W.notFirst K rc (.type "list") = true)
    (kE0 : PySem.W.keepIn K (.ref c0) = true)
    (qE0 : PySem.W.excIn K c0 [.type "ValueError", .type "Exception", .type "BaseException", .type "object"] "ValueError.__new__" = true)
    (sE0 : PySem.W.subIn K (.ref c0) (.type "BaseException") = some true)
    (tE0 : PySem.W.typeIn K (.ref c0) = some (.type "type"))
    (hE0 : PySem.W.hasDictIn K c0 = true)
    (u0_0 : PySem.W.subIn K (.ref c0) (.ref c0) = some true) :
    ∃ fd : FuncData, (∀ (s : Shared) (v : Value), BindsTo s fd ⟨[v], []⟩ [("_law_script", v)]) ∧ ∀ base : Heap, K.In base → base.Ns mainGlobals mg → FnOk l.prog w K mg base (L2.CX l.prog w) 11 fa fd ["_law_script"] (spLaw K) := by
  have e := hfa.symm.trans (PySem.W.mg_of X N g30)
  cases e
  have T : Tx l.prog mg ⟨K, none, rc, fun c => match c with  | _ => (rc, []), fun c => match c with | 0 => (c0, ([] : List Str)) | 1 => (c0, ([] : List Str)) | 2 => (c0, ([] : List Str)) | 3 => (c0, ([] : List Str)) | _ => (c0, []), fun c => match c with  | _ => false, fun c => match c with | 0 => true | _ => false⟩ { a_Ratio___init__ := a0, d_Ratio___init__ := PySem.W.fnOf "__init__" "Ratio.__init__" (defArgs s_Ratio___init__) (defBody s_Ratio___init__) (defScope s_Ratio___init__) (.ref tD0) kV0 dc0 pm0 an0 cd0 ct0, a_Ratio___eq__ := a1, d_Ratio___eq__ := PySem.W.fnOf "__eq__" "Ratio.__eq__" (defArgs s_Ratio___eq__) (defBody s_Ratio___eq__) (defScope s_Ratio___eq__) .none kV1 dc1 pm1 an1 cd1 ct1, a_Ratio___add__ := a2, d_Ratio___add__ := PySem.W.fnOf "__add__" "Ratio.__add__" (defArgs s_Ratio___add__) (defBody s_Ratio___add__) (defScope s_Ratio___add__) .none kV2 dc2 pm2 an2 cd2 ct2, a_Ratio___sub__ := a3, d_Ratio___sub__ := PySem.W.fnOf "__sub__" "Ratio.__sub__" (defArgs s_Ratio___sub__) (defBody s_Ratio___sub__) (defScope s_Ratio___sub__) .none kV3 dc3 pm3 an3 cd3 ct3, a_Ratio___mul__ := a4, d_Ratio___mul__ := PySem.W.fnOf "__mul__" "Ratio.__mul__" (defArgs s_Ratio___mul__) (defBody s_Ratio___mul__) (defScope s_Ratio___mul__) .none kV4 dc4 pm4 an4 cd4 ct4, a_Ratio___neg__ := a5, d_Ratio___neg__ := PySem.W.fnOf "__neg__" "Ratio.__neg__" (defArgs s_Ratio___neg__) (defBody s_Ratio___neg__) (defScope s_Ratio___neg__) .none kV5 dc5 pm5 an5 cd5 ct5, a_Ratio_sign := a6, d_Ratio_sign := PySem.W.fnOf "sign" "Ratio.sign" (defArgs s_Ratio_sign) (defBody s_Ratio_sign) (defScope s_Ratio_sign) .none kV6 dc6 pm6 an6 cd6 ct6, a_zero := a7, d_zero := PySem.W.fnOf "zero" "zero" (defArgs s_zero) (defBody s_zero) (defScope s_zero) .none kV7 dc7 pm7 an7 cd7 ct7, a_row_factor := a8, d_row_factor := PySem.W.fnOf "row_factor" "row_factor" (defArgs s_row_factor) (defBody s_row_factor) (defScope s_row_factor) .none kV8 dc8 pm8 an8 cd8 ct8, a_starting := a9, d_starting := PySem.W.fnOf "starting" "starting" (defArgs s_starting) (defBody s_starting) (defScope s_starting) .none kV9 dc9 pm9 an9 cd9 ct9, a_costs := a10, d_costs := PySem.W.fnOf "costs" "costs" (defArgs s_costs) (defBody s_costs) (defScope s_costs) .none kV10 dc10 pm10 an10 cd10 ct10, a_leaving := a11, d_leaving := PySem.W.fnOf "leaving" "leaving" (defArgs s_leaving) (defBody s_leaving) (defScope s_leaving) .none kV11 dc11 pm11 an11 cd11 ct11, a_subtracted := a12, d_subtracted := PySem.W.fnOf "subtracted" "subtracted" (defArgs s_subtracted) (defBody s_subtracted) (defScope s_subtracted) .none kV12 dc12 pm12 an12 cd12 ct12, a_feasible := a13, d_feasible := PySem.W.fnOf "feasible" "feasible" (defArgs s_feasible) (defBody s_feasible) (defScope s_feasible) .none kV13 dc13 pm13 an13 cd13 ct13, a__law_state := a14, d__law_state := PySem.W.fnOf "_law_state" "_law_state" (defArgs s__law_state) (defBody s__law_state) (defScope s__law_state) .none kV14 dc14 pm14 an14 cd14 ct14, a__law_take := a15, d__law_take := PySem.W.fnOf "_law_take" "_law_take" (defArgs s__law_take) (defBody s__law_take) (defScope s__law_take) .none kV15 dc15 pm15 an15 cd15 ct15, a__law_gcd := a16, d__law_gcd := PySem.W.fnOf "_law_gcd" "_law_gcd" (defArgs s__law_gcd) (defBody s__law_gcd) (defScope s__law_gcd) .none kV16 dc16 pm16 an16 cd16 ct16, a__law_frac := a17, d__law_frac := PySem.W.fnOf "_law_frac" "_law_frac" (defArgs s__law_frac) (defBody s__law_frac) (defScope s__law_frac) .none kV17 dc17 pm17 an17 cd17 ct17, a__law_plus := a18, d__law_plus := PySem.W.fnOf "_law_plus" "_law_plus" (defArgs s__law_plus) (defBody s__law_plus) (defScope s__law_plus) .none kV18 dc18 pm18 an18 cd18 ct18, a__law_times := a19, d__law_times := PySem.W.fnOf "_law_times" "_law_times" (defArgs s__law_times) (defBody s__law_times) (defScope s__law_times) .none kV19 dc19 pm19 an19 cd19 ct19, a__law_ratio_row := a20, d__law_ratio_row := PySem.W.fnOf "_law_ratio_row" "_law_ratio_row" (defArgs s__law_ratio_row) (defBody s__law_ratio_row) (defScope s__law_ratio_row) .none kV20 dc20 pm20 an20 cd20 ct20, a__law_pairs_of := a21, d__law_pairs_of := PySem.W.fnOf "_law_pairs_of" "_law_pairs_of" (defArgs s__law_pairs_of) (defBody s__law_pairs_of) (defScope s__law_pairs_of) .none kV21 dc21 pm21 an21 cd21 ct21, a__law_are_ratios := a22, d__law_are_ratios := PySem.W.fnOf "_law_are_ratios" "_law_are_ratios" (defArgs s__law_are_ratios) (defBody s__law_are_ratios) (defScope s__law_are_ratios) .none kV22 dc22 pm22 an22 cd22 ct22, a__law_small := a23, d__law_small := PySem.W.fnOf "_law_small" "_law_small" (defArgs s__law_small) (defBody s__law_small) (defScope s__law_small) .none kV23 dc23 pm23 an23 cd23 ct23, a__law_row := a24, d__law_row := PySem.W.fnOf "_law_row" "_law_row" (defArgs s__law_row) (defBody s__law_row) (defScope s__law_row) .none kV24 dc24 pm24 an24 cd24 ct24, a__law_dot := a25, d__law_dot := PySem.W.fnOf "_law_dot" "_law_dot" (defArgs s__law_dot) (defBody s__law_dot) (defScope s__law_dot) .none kV25 dc25 pm25 an25 cd25 ct25, a__law_sum_of := a26, d__law_sum_of := PySem.W.fnOf "_law_sum_of" "_law_sum_of" (defArgs s__law_sum_of) (defBody s__law_sum_of) (defScope s__law_sum_of) .none kV26 dc26 pm26 an26 cd26 ct26, a__law_is_above := a27, d__law_is_above := PySem.W.fnOf "_law_is_above" "_law_is_above" (defArgs s__law_is_above) (defBody s__law_is_above) (defScope s__law_is_above) .none kV27 dc27 pm27 an27 cd27 ct27, a__law_weights_hold := a28, d__law_weights_hold := PySem.W.fnOf "_law_weights_hold" "_law_weights_hold" (defArgs s__law_weights_hold) (defBody s__law_weights_hold) (defScope s__law_weights_hold) .none kV28 dc28 pm28 an28 cd28 ct28, a__law_functional_holds := a29, d__law_functional_holds := PySem.W.fnOf "_law_functional_holds" "_law_functional_holds" (defArgs s__law_functional_holds) (defBody s__law_functional_holds) (defScope s__law_functional_holds) .none kV29 dc29 pm29 an29 cd29 ct29, a_law := fa, d_law := PySem.W.fnOf "law" "law" (defArgs s_law) (defBody s_law) (defScope s_law) .none kV30 dc30 pm30 an30 cd30 ct30 } := {
    isk := isK_of ⟨⟨⟨⟨Rpg, Rhd, Rpo, Rsa⟩, Rha, hgn, htk, Rhm⟩, Rcl, Rty, all5 Rsint Rsbool Rsstr Rslist Rstuple⟩, (fun c h => (by
      rcases c with _ | _ | _ | _ | c
      · exact (Bool.false_ne_true h).elim
      · exact (Bool.false_ne_true h).elim
      · exact (Bool.false_ne_true h).elim
      · exact (Bool.false_ne_true h).elim
      · exact (Bool.false_ne_true h).elim)), (fun c h => (by
      rcases c with _ | _ | _ | _ | c
      · exact (Bool.false_ne_true h).elim
      · exact (Bool.false_ne_true h).elim
      · exact (Bool.false_ne_true h).elim
      · exact (Bool.false_ne_true h).elim
      · exact (Bool.false_ne_true h).elim)), (fun c e h he hne => (by
      rcases c with _ | _ | _ | _ | c
      · exact (Bool.false_ne_true h).elim
      · exact (Bool.false_ne_true h).elim
      · exact (Bool.false_ne_true h).elim
      · exact (Bool.false_ne_true h).elim
      · exact (Bool.false_ne_true h).elim))⟩
    g_Ratio := PySem.W.mg_of X N gR
    z_isinstance := PySem.W.mg_none_of X N z_isinstance
    cl_Ratio := ⟨Rpg, Rhd, Rpo, Rsa⟩
    na_n := nan
    na_d := nad
    F_Ratio___eq__ := ⟨⟨_, _, _, _, _, _, _, _, _, _, rfl, l1, c_1, .inl ⟨rfl, rfl⟩, .inl rfl⟩, k1⟩
    z_int := PySem.W.mg_none_of X N z_int
    F__law_take := ⟨⟨_, _, _, _, _, _, _, _, _, _, rfl, l15, c_15, .inl ⟨rfl, rfl⟩, .inl rfl⟩, k15⟩
    g__law_take := PySem.W.mg_of X N g15
    z_range := PySem.W.mg_none_of X N z_range
    z_abs := PySem.W.mg_none_of X N z_abs
    F__law_gcd := ⟨⟨_, _, _, _, _, _, _, _, _, _, rfl, l16, c_16, .inl ⟨rfl, rfl⟩, .inl rfl⟩, k16⟩
    g__law_gcd := PySem.W.mg_of X N g16
    F__law_frac := ⟨⟨_, _, _, _, _, _, _, _, _, _, rfl, l17, c_17, .inl ⟨rfl, rfl⟩, .inl rfl⟩, k17⟩
    g__law_frac := PySem.W.mg_of X N g17
    F__law_small := ⟨⟨_, _, _, _, _, _, _, _, _, _, rfl, l23, c_23, .inl ⟨rfl, rfl⟩, .inl rfl⟩, k23⟩
    g__law_small := PySem.W.mg_of X N g23
    F__law_row := ⟨⟨_, _, _, _, _, _, _, _, _, _, rfl, l24, c_24, .inl ⟨rfl, rfl⟩, .inl rfl⟩, k24⟩
    g__law_row := PySem.W.mg_of X N g24
    z_len := PySem.W.mg_none_of X N z_len
    F__law_plus := ⟨⟨_, _, _, _, _, _, _, _, _, _, rfl, l18, c_18, .inl ⟨rfl, rfl⟩, .inl rfl⟩, k18⟩
    F__law_times := ⟨⟨_, _, _, _, _, _, _, _, _, _, rfl, l19, c_19, .inl ⟨rfl, rfl⟩, .inl rfl⟩, k19⟩
    g__law_times := PySem.W.mg_of X N g19
    g__law_plus := PySem.W.mg_of X N g18
    F__law_sum_of := ⟨⟨_, _, _, _, _, _, _, _, _, _, rfl, l26, c_26, .inl ⟨rfl, rfl⟩, .inl rfl⟩, k26⟩
    g__law_sum_of := PySem.W.mg_of X N g26
    F__law_is_above := ⟨⟨_, _, _, _, _, _, _, _, _, _, rfl, l27, c_27, .inl ⟨rfl, rfl⟩, .inl rfl⟩, k27⟩
    F__law_dot := ⟨⟨_, _, _, _, _, _, _, _, _, _, rfl, l25, c_25, .inl ⟨rfl, rfl⟩, .inl rfl⟩, k25⟩
    g__law_dot := PySem.W.mg_of X N g25
    g__law_is_above := PySem.W.mg_of X N g27
    g_lcm := PySem.W.mg_of X N glcm
    F_Ratio_sign := ⟨⟨_, _, _, _, _, _, _, _, _, _, rfl, l6, c_6, .inl ⟨rfl, rfl⟩, .inl rfl⟩, k6⟩
    M_Ratio_sign := ⟨m6, i6, k6⟩
    k_Ratio := Rkc
    F_Ratio___neg__ := ⟨⟨_, _, _, _, _, _, _, _, _, _, rfl, l5, c_5, .inl ⟨rfl, rfl⟩, .inl rfl⟩, k5⟩
    F_rneg := m5
    I_rneg := i5
    F_row_factor := ⟨⟨_, _, _, _, _, _, _, _, _, _, rfl, l8, c_8, .inl ⟨rfl, rfl⟩, .inl rfl⟩, k8⟩
    g_row_factor := PySem.W.mg_of X N g8
    F_Ratio___mul__ := ⟨⟨_, _, _, _, _, _, _, _, _, _, rfl, l4, c_4, .inl ⟨rfl, rfl⟩, .inl rfl⟩, k4⟩
    O_mul := ⟨Rsf, m4, i4⟩
    F_starting := ⟨⟨_, _, _, _, _, _, _, _, _, _, rfl, l9, c_9, .inl ⟨rfl, rfl⟩, .inl rfl⟩, k9⟩
    g_starting := PySem.W.mg_of X N g9
    F_Ratio___add__ := ⟨⟨_, _, _, _, _, _, _, _, _, _, rfl, l2, c_2, .inl ⟨rfl, rfl⟩, .inl rfl⟩, k2⟩
    O_add := ⟨Rsf, m2, i2⟩
    z_sum := PySem.W.mg_none_of X N z_sum
    F_costs := ⟨⟨_, _, _, _, _, _, _, _, _, _, rfl, l10, c_10, .inl ⟨rfl, rfl⟩, .inl rfl⟩, k10⟩
    g_costs := PySem.W.mg_of X N g10
    F_leaving := ⟨⟨_, _, _, _, _, _, _, _, _, _, rfl, l11, c_11, .inl ⟨rfl, rfl⟩, .inl rfl⟩, k11⟩
    g_leaving := PySem.W.mg_of X N g11
    z_zip := PySem.W.mg_none_of X N z_zip
    F_Ratio___sub__ := ⟨⟨_, _, _, _, _, _, _, _, _, _, rfl, l3, c_3, .inl ⟨rfl, rfl⟩, .inl rfl⟩, k3⟩
    O_sub := ⟨Rsf, m3, i3⟩
    F_subtracted := ⟨⟨_, _, _, _, _, _, _, _, _, _, rfl, l12, c_12, .inl ⟨rfl, rfl⟩, .inl rfl⟩, k12⟩
    g_subtracted := PySem.W.mg_of X N g12
    z_tuple := PySem.W.mg_none_of X N z_tuple
    F_zero := ⟨⟨_, _, _, _, _, _, _, _, _, _, rfl, l7, c_7, .inl ⟨rfl, rfl⟩, .inl rfl⟩, k7⟩
    g_zero := PySem.W.mg_of X N g7
    F_feasible := ⟨⟨_, _, _, _, _, _, _, _, _, _, rfl, l13, c_13, .inl ⟨rfl, rfl⟩, .inl rfl⟩, k13⟩
    F__law_ratio_row := ⟨⟨_, _, _, _, _, _, _, _, _, _, rfl, l20, c_20, .inl ⟨rfl, rfl⟩, .inl rfl⟩, k20⟩
    g__law_ratio_row := PySem.W.mg_of X N g20
    g_feasible := PySem.W.mg_of X N g13
    F__law_are_ratios := ⟨⟨_, _, _, _, _, _, _, _, _, _, rfl, l22, c_22, .inl ⟨rfl, rfl⟩, .inl rfl⟩, k22⟩
    g__law_are_ratios := PySem.W.mg_of X N g22
    F__law_pairs_of := ⟨⟨_, _, _, _, _, _, _, _, _, _, rfl, l21, c_21, .inl ⟨rfl, rfl⟩, .inl rfl⟩, k21⟩
    g__law_pairs_of := PySem.W.mg_of X N g21
    F__law_weights_hold := ⟨⟨_, _, _, _, _, _, _, _, _, _, rfl, l28, c_28, .inl ⟨rfl, rfl⟩, .inl rfl⟩, k28⟩
    g__law_weights_hold := PySem.W.mg_of X N g28
    F__law_functional_holds := ⟨⟨_, _, _, _, _, _, _, _, _, _, rfl, l29, c_29, .inl ⟨rfl, rfl⟩, .inl rfl⟩, k29⟩
    g__law_functional_holds := PySem.W.mg_of X N g29
    F_law := ⟨⟨_, _, _, _, _, _, _, _, _, _, rfl, l30, c_30, .inl ⟨rfl, rfl⟩, .inl rfl⟩, k30⟩
    F_Ratio___init__ := ⟨⟨_, _, _, _, _, _, _, _, _, _, rfl, l0, c_0, .inr ⟨by simp, tD0, _, _, _, rfl, D0, rfl, .cons ⟨_, rfl⟩ .nil⟩, .inl rfl⟩, k0⟩
    F__law_state := ⟨⟨_, _, _, _, _, _, _, _, _, _, rfl, l14, c_14, .inl ⟨rfl, rfl⟩, .inl rfl⟩, k14⟩
    g__law_state := PySem.W.mg_of X N g14
    mk_Ratio := ⟨Rmk, m0, i0, Rkc⟩
    g_gcd := PySem.W.mg_of X N ggcd
    x_ZeroDivisor := ⟨PySem.W.mg_of X N gE0, rfl, rfl, kE0, ⟨_, _, _, _, PySem.F.excBase_ValueError, qE0⟩, sE0, tE0⟩
    F_req := m1
    I_req := i1
    F_rne := rne
    S_rob := rob
    S_rnf := all6 nfNoneType nfbool nfint nfstr nftuple nflist }
  exact ⟨PySem.W.fnOf "law" "law" (defArgs s_law) (defBody s_law) (defScope s_law) .none kV30 dc30 pm30 an30 cd30 ct30, fun s v => .of_eq rfl, fun base _ _ => ok_law T law_true⟩
theorem walk {l : PySem.W.OpenLaw} {q : Program} {loose : List Str} {XP : (Str → Option Value) → Heap → Prop} {YP : World → Heap → Prop} {d : DefRec} {K : Params → PySem.W.Frag} (hn : l.most = some 63) (hdf : d.params.defaults = [])
    (hY : ∀ (w : World) (h : Heap), YP w h → (K w.params).In h)
    (F : ∀ (w : World) (mg : Str → Option Value) (fa : Addr) (h : Heap), (K w.params).In h → h.Ns mainGlobals mg → mg d.name = some (.ref fa) →
      ∃ fd : FuncData, (∀ (s : Shared) (u : Value), BindsTo s fd ⟨[u], []⟩ [("_law_script", u)]) ∧ ∀ base : Heap, (K w.params).In base → base.Ns mainGlobals mg → FnOk l.prog w (K w.params) mg base (L2.CX l.prog w) 11 fa fd ["_law_script"] (spLaw (K w.params))) :
    PySem.W.WalkO q loose XP YP l.row.toRowW d [] (fun f vs => PySem.call f vs) :=
  L2.walk_of (n := 63) (k := 11) (x := "_law_script") (CX := fun w => L2.CX l.prog w) (sp := fun w => spLaw (K w.params)) hn (by decide) hdf ⟨rfl, by decide, by decide⟩ hY F (fun _ _ a ns hl _ hS => ⟨a, ns, rfl, hS, hl, fun _ => rfl⟩) fun _ _ _ _ _ ⟨_, _, _, _, _, _, _, _, _, _, _, _, z⟩ => z
end LK
open PySem PySem.W PyProof.Rows in
set_option maxRecDepth 100000 in
set_option maxHeartbeats 0 in
theorem PySem.Challenge.cw_metricparts_k05_whole_weights_or_functio_holds : PySem.Challenge.rw_metricparts_k05_whole_weights_or_functio.Holds := by
  w_on; o_law; k_head; (case hw => w_witness2)
  k_fill
  refine LK.walk (l := PySem.Challenge.rw_metricparts_k05_whole_weights_or_functio) rfl rfl (fun w h Y => PySem.W.kIn_of Y) ?F
  case F =>
    intro w mg fa h KX G hmg
    refine' LK.all_mk KX G hmg ?y_gR ?y_gE0 ?y_m0 ?y_i0 ?y_l0 ?y_D0 ?y_c_0 ?y_k0 ?y_m1 ?y_i1 ?y_l1 ?y_c_1 ?y_k1 ?y_m2 ?y_i2 ?y_l2 ?y_c_2 ?y_k2 ?y_m3 ?y_i3 ?y_l3 ?y_c_3 ?y_k3 ?y_m4 ?y_i4 ?y_l4 ?y_c_4 ?y_k4 ?y_m5 ?y_i5 ?y_l5 ?y_c_5 ?y_k5 ?y_m6 ?y_i6 ?y_l6 ?y_c_6 ?y_k6 ?y_g7 ?y_l7 ?y_c_7 ?y_k7 ?y_g8 ?y_l8 ?y_c_8 ?y_k8 ?y_g9 ?y_l9 ?y_c_9 ?y_k9 ?y_g10 ?y_l10 ?y_c_10 ?y_k10 ?y_g11 ?y_l11 ?y_c_11 ?y_k11 ?y_g12 ?y_l12 ?y_c_12 ?y_k12 ?y_g13 ?y_l13 ?y_c_13 ?y_k13 ?y_g14 ?y_l14 ?y_c_14 ?y_k14 ?y_g15 ?y_l15 ?y_c_15 ?y_k15 ?y_g16 ?y_l16 ?y_c_16 ?y_k16 ?y_g17 ?y_l17 ?y_c_17 ?y_k17 ?y_g18 ?y_l18 ?y_c_18 ?y_k18 ?y_g19 ?y_l19 ?y_c_19 ?y_k19 ?y_g20 ?y_l20 ?y_c_20 ?y_k20 ?y_g21 ?y_l21 ?y_c_21 ?y_k21 ?y_g22 ?y_l22 ?y_c_22 ?y_k22 ?y_g23 ?y_l23 ?y_c_23 ?y_k23 ?y_g24 ?y_l24 ?y_c_24 ?y_k24 ?y_g25 ?y_l25 ?y_c_25 ?y_k25 ?y_g26 ?y_l26 ?y_c_26 ?y_k26 ?y_g27 ?y_l27 ?y_c_27 ?y_k27 ?y_g28 ?y_l28 ?y_c_28 ?y_k28 ?y_g29 ?y_l29 ?y_c_29 ?y_k29 ?y_g30 ?y_l30 ?y_c_30 ?y_k30 ?y_z_isinstance ?y_z_int ?y_z_range ?y_z_abs ?y_z_len ?y_z_sum ?y_z_zip ?y_z_tuple ?y_ggcd ?y_glcm ?y_hgn ?y_htk ?y_Rpg ?y_Rhd ?y_Rpo ?y_Rsa ?y_Rmk ?y_Rkc ?y_Rha ?y_Rhm ?y_Rcl ?y_Rty ?y_Rsint ?y_Rsbool ?y_Rsstr ?y_Rslist ?y_Rstuple ?y_Rss ?y_Rsf ?y_nan ?y_nad ?y_rne ?y_rob ?y_nfNoneType ?y_nfbool ?y_nfint ?y_nfstr ?y_nftuple ?y_nflist ?y_kE0 ?y_qE0 ?y_sE0 ?y_tE0 ?y_hE0 ?y_u0_0
    (case y_gR => k_is)
    (case y_gE0 => k_is)
    (case y_m0 => k_is)
    (case y_i0 => k_is)
    (case y_l0 => k_is)
    (case y_D0 => k_is)
    (case y_c_0 => k_is)
    (case y_k0 => k_is)
    (case y_m1 => k_is)
    (case y_i1 => k_is)
    (case y_l1 => k_is)
    (case y_c_1 => k_is)
    (case y_k1 => k_is)
    (case y_m2 => k_is)
    (case y_i2 => k_is)
    (case y_l2 => k_is)
    (case y_c_2 => k_is)
    (case y_k2 => k_is)
    (case y_m3 => k_is)
    (case y_i3 => k_is)
    (case y_l3 => k_is)
    (case y_c_3 => k_is)
    (case y_k3 => k_is)
    (case y_m4 => k_is)
    (case y_i4 => k_is)
    (case y_l4 => k_is)
    (case y_c_4 => k_is)
    (case y_k4 => k_is)
    (case y_m5 => k_is)
    (case y_i5 => k_is)
    (case y_l5 => k_is)
    (case y_c_5 => k_is)
    (case y_k5 => k_is)
    (case y_m6 => k_is)
    (case y_i6 => k_is)
    (case y_l6 => k_is)
    (case y_c_6 => k_is)
    (case y_k6 => k_is)
    (case y_g7 => k_is)
    (case y_l7 => k_is)
    (case y_c_7 => k_is)
    (case y_k7 => k_is)
    (case y_g8 => k_is)
    (case y_l8 => k_is)
    (case y_c_8 => k_is)
    (case y_k8 => k_is)
    (case y_g9 => k_is)
    (case y_l9 => k_is)
    (case y_c_9 => k_is)
    (case y_k9 => k_is)
    (case y_g10 => k_is)
    (case y_l10 => k_is)
    (case y_c_10 => k_is)
    (case y_k10 => k_is)
    (case y_g11 => k_is)
    (case y_l11 => k_is)
    (case y_c_11 => k_is)
    (case y_k11 => k_is)
    (case y_g12 => k_is)
    (case y_l12 => k_is)
    (case y_c_12 => k_is)
    (case y_k12 => k_is)
    (case y_g13 => k_is)
    (case y_l13 => k_is)
    (case y_c_13 => k_is)
    (case y_k13 => k_is)
    (case y_g14 => k_is)
    (case y_l14 => k_is)
    (case y_c_14 => k_is)
    (case y_k14 => k_is)
    (case y_g15 => k_is)
    (case y_l15 => k_is)
    (case y_c_15 => k_is)
    (case y_k15 => k_is)
    (case y_g16 => k_is)
    (case y_l16 => k_is)
    (case y_c_16 => k_is)
    (case y_k16 => k_is)
    (case y_g17 => k_is)
    (case y_l17 => k_is)
    (case y_c_17 => k_is)
    (case y_k17 => k_is)
    (case y_g18 => k_is)
    (case y_l18 => k_is)
    (case y_c_18 => k_is)
    (case y_k18 => k_is)
    (case y_g19 => k_is)
    (case y_l19 => k_is)
    (case y_c_19 => k_is)
    (case y_k19 => k_is)
    (case y_g20 => k_is)
    (case y_l20 => k_is)
    (case y_c_20 => k_is)
    (case y_k20 => k_is)
    (case y_g21 => k_is)
    (case y_l21 => k_is)
    (case y_c_21 => k_is)
    (case y_k21 => k_is)
    (case y_g22 => k_is)
    (case y_l22 => k_is)
    (case y_c_22 => k_is)
    (case y_k22 => k_is)
    (case y_g23 => k_is)
    (case y_l23 => k_is)
    (case y_c_23 => k_is)
    (case y_k23 => k_is)
    (case y_g24 => k_is)
    (case y_l24 => k_is)
    (case y_c_24 => k_is)
    (case y_k24 => k_is)
    (case y_g25 => k_is)
    (case y_l25 => k_is)
    (case y_c_25 => k_is)
    (case y_k25 => k_is)
    (case y_g26 => k_is)
    (case y_l26 => k_is)
    (case y_c_26 => k_is)
    (case y_k26 => k_is)
    (case y_g27 => k_is)
    (case y_l27 => k_is)
    (case y_c_27 => k_is)
    (case y_k27 => k_is)
    (case y_g28 => k_is)
    (case y_l28 => k_is)
    (case y_c_28 => k_is)
    (case y_k28 => k_is)
    (case y_g29 => k_is)
    (case y_l29 => k_is)
    (case y_c_29 => k_is)
    (case y_k29 => k_is)
    (case y_g30 => k_is)
    (case y_l30 => k_is)
    (case y_c_30 => k_is)
    (case y_k30 => k_is)
    (case y_z_isinstance => k_is)
    (case y_z_int => k_is)
    (case y_z_range => k_is)
    (case y_z_abs => k_is)
    (case y_z_len => k_is)
    (case y_z_sum => k_is)
    (case y_z_zip => k_is)
    (case y_z_tuple => k_is)
    (case y_ggcd => k_is)
    (case y_glcm => k_is)
    (case y_hgn => k_is)
    (case y_htk => k_is)
    (case y_Rpg => k_is)
    (case y_Rhd => k_is)
    (case y_Rpo => k_is)
    (case y_Rsa => k_is)
    (case y_Rmk => k_is)
    (case y_Rkc => k_is)
    (case y_Rha => k_is)
    (case y_Rhm => k_is)
    (case y_Rcl => k_is)
    (case y_Rty => k_is)
    (case y_Rsint => k_is)
    (case y_Rsbool => k_is)
    (case y_Rsstr => k_is)
    (case y_Rslist => k_is)
    (case y_Rstuple => k_is)
    (case y_Rss => k_is)
    (case y_Rsf => k_is)
    (case y_nan => k_is)
    (case y_nad => k_is)
    (case y_rne => k_is)
    (case y_rob => k_is)
    (case y_nfNoneType => k_is)
    (case y_nfbool => k_is)
    (case y_nfint => k_is)
    (case y_nfstr => k_is)
    (case y_nftuple => k_is)
    (case y_nflist => k_is)
    (case y_kE0 => k_is)
    (case y_qE0 => k_exc)
    (case y_sE0 => k_is)
    (case y_tE0 => k_is)
    (case y_hE0 => k_is)
    (case y_u0_0 => k_is)
