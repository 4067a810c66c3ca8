import PyProof.Rows.All
import HandS.ForMost
import HandS.TupAny
import HandS.Deep
import HandS.Wide
import HandS.More
import HandS.IsInst
import KE.GoesEnum
import KE.KDictKeyed
import HandS.Gcd
import HandS.SetFor
import HandS.Strs
import HandS.SortInts
import PySem.Challenge.RW_commonfront_k77_rows_made_thinner
set_option Elab.async false
set_option linter.all false
set_option maxRecDepth 100000
set_option maxHeartbeats 4000000
/-! a big-step evaluator of Python as plain Lean functions on inline data, over the layer HandS -/
namespace Mp
open PySem PySem.Spec PyProof.Rows L2

/-! ### values of the evaluator -/
inductive W where
  | non | bl (b : Bool) | int (i : Int) | str (x : Str)
  | tup (ws : List W) | lst (ws : List W) | dk (kvs : List (Key × W)) | dt (kvs : List (List Key × W)) | scr (ns : List Int)
  | cel (n : Nat) | ty (n : String)
  | dn (kvs : List (NestedKey × W)) | ins (c : Str) (fs : List (Str × W)) | lck (w : W)
/-- who may write the root: own: this name alone; frz: nobody any more; brw: not I -/
inductive Md where
  | own | frz | brw
  deriving DecidableEq
def W.mut : W → Bool
  | .lst _ => true
  | .dk _ => true
  | .dt _ => true
  | .dn _ => true
  | .ins _ _ => true
  | _ => false
abbrev Store := List W
/-- the frozen part and the world -/
structure KW where
  K : PySem.W.Frag
  w : World
abbrev _root_.L2.Cx.kw (X : Cx) : KW := ⟨X.K, X.w⟩
abbrev Wm := W × Md
abbrev Env := List (Option Wm)

/-! ### what stands where -/
/-- the class with that name, as the top has it -/
def clsAt (K : PySem.W.Frag) (c : Str) (C : Addr) : Prop := PySem.W.nsIn K mainGlobals c = some (some (.ref C))
mutual
/-- the key, as tuples that stand -/
inductive IsK (H : Hp) : V → NestedKey → Prop
  | non : IsK H .non .none
  | int (i : Int) : IsK H (.int i) (.num i)
  | str (x : Str) : IsK H (.str x) (.text x)
  | tup {a : Addr} {xs : List V} {ks : List NestedKey} : H a = some (.tup xs) → IsKs H xs ks → IsK H (.ref a) (.tup ks)
inductive IsKs (H : Hp) : List V → List NestedKey → Prop
  | nil : IsKs H [] []
  | cons {v : V} {k : NestedKey} {vs : List V} {ks : List NestedKey} : IsK H v k → IsKs H vs ks → IsKs H (v :: vs) (k :: ks)
end
mutual
theorem IsK.mono {H H' : Hp} (ht : ∀ a xs, H a = some (.tup xs) → H' a = some (.tup xs)) : ∀ {v : V} {k : NestedKey}, IsK H v k → IsK H' v k
  | _, _, .non => .non
  | _, _, .int i => .int i
  | _, _, .str x => .str x
  | _, _, .tup h r => .tup (ht _ _ h) (IsKs.mono ht r)
theorem IsKs.mono {H H' : Hp} (ht : ∀ a xs, H a = some (.tup xs) → H' a = some (.tup xs)) : ∀ {v : List V} {k : List NestedKey}, IsKs H v k → IsKs H' v k
  | _, _, .nil => .nil
  | _, _, .cons r t => .cons (IsK.mono ht r) (IsKs.mono ht t)
end
/-- a dict with nested keys: what is true of its one object -/
def DnO (w : World) (a : Addr) (es : List (NestedKey × Addr × V)) : HO := .ext fun h => (a == sysModules) = false ∧ es.length ≤ sizeLine ∧ ∃ vs : List (NestedKey × Addr × Value),
  Paired (fun (p : NestedKey × Addr × V) (q : NestedKey × Addr × Value) => p.1 = q.1 ∧ p.2.1 = q.2.1 ∧ RelV p.2.2 q.2.2) es vs ∧
    ∃ o ds ep, h.get? a = some o ∧ o.ExactDict ∧ o.data = .dict ds ep ∧ ds.toList = vs.map (fun x => (⟨x.1.hash w, .ref x.2.1, x.2.2⟩ : DictEntry)) ∧ (vs.map (·.1)).Nodup
inductive Shape (K : KW) (H : Hp) : Addr → HO → W → List V → List W → Prop
  | lst {a : Addr} (xs : List V) (ws : List W) : Shape K H a (.lst xs) (.lst ws) xs ws
  | dk {a : Addr} {kvs : List (Key × V)} {kws : List (Key × W)} : kvs.map (·.1) = kws.map (·.1) → Shape K H a (.dK kvs) (.dk kws) (kvs.map (·.2)) (kws.map (·.2))
  | dt {a : Addr} {kvs : List (List Key × V)} {kws : List (List Key × W)} : kvs.map (·.1) = kws.map (·.1) → Shape K H a (.dT kvs) (.dt kws) (kvs.map (·.2)) (kws.map (·.2))
  | dn {a : Addr} {es : List (NestedKey × Addr × V)} {kws : List (NestedKey × W)} : es.map (·.1) = kws.map (·.1) → (∀ e ∈ es, IsK H (.ref e.2.1) e.1 ∧ e.1.depth ≤ 8) → Shape K H a (DnO K.w a es) (.dn kws) (es.map (·.2.2)) (kws.map (·.2))
  | ins {a : Addr} {C dx : Addr} {fs : List (Str × V)} {c : Str} {kfs : List (Str × W)} : clsAt K.K c C → fs.map (·.1) = kfs.map (·.1) → Shape K H a (.ins C dx fs) (.ins c kfs) (fs.map (·.2)) (kfs.map (·.2))
theorem Shape.mut {K : KW} {H : Hp} {a : Addr} {o : HO} {w : W} {xs ws} (s : Shape K H a o w xs ws) : w.mut = true := by cases s <;> rfl
theorem Shape.ntup {K : KW} {H : Hp} {a : Addr} {o : HO} {w : W} {xs ws} (s : Shape K H a o w xs ws) : ∀ ys, o ≠ .tup ys := by cases s <;> (intro ys e; cases e)
theorem Shape.opn {K : KW} {H : Hp} {a : Addr} {o : HO} {w : W} {xs ws} (s : Shape K H a o w xs ws) : ∀ od u, o ≠ .frz od u := by cases s <;> (intro od u e; cases e)
theorem Shape.mono {K : KW} {H H' : Hp} {a : Addr} {o : HO} {w : W} {xs ws} (ht : ∀ a xs, H a = some (.tup xs) → H' a = some (.tup xs)) (s : Shape K H a o w xs ws) : Shape K H' a o w xs ws := by
  induction s with
  | lst xs ws => exact .lst xs ws
  | dk e => exact .dk e
  | dt e => exact .dt e
  | dn e h => exact .dn e fun x hx => ⟨(h x hx).1.mono ht, (h x hx).2⟩
  | ins c e => exact .ins c e

/-- a list that nobody writes: the script -/
def SqF (K : PySem.W.Frag) (α : List Addr) (H : Hp) (a : Addr) (xs : List V) : Prop :=
  (∃ o, H a = some (.frz o (.lst xs)) ∧ a ∉ α) ∨
    ∃ (o : Obj) (its : Array Value) (n : Nat), K.lookup a = some o ∧ o.cls = .type "list" ∧ o.dict = none ∧ o.data = .seq its n ∧ its.size ≤ sizeLine ∧ Vals xs its.toList
theorem SqF.sqL {K : PySem.W.Frag} {α : List Addr} {H : Hp} {a : Addr} {xs : List V} (h : SqF K α H a xs) : SqL K H a xs := by
  rcases h with ⟨o, h, _⟩ | h
  · exact .inl (.inr ⟨o, h⟩)
  · exact .inr h
mutual
inductive Rep (K : KW) (α : List Addr) (Z : Addr → Prop) (H : Hp) : V → W → Prop
  | non : Rep K α Z H .non .non
  | bl (b : Bool) : Rep K α Z H (.bl b) (.bl b)
  | int (i : Int) : Rep K α Z H (.int i) (.int i)
  | str (x : Str) : Rep K α Z H (.str x) (.str x)
  | tup {a : Addr} {xs : List V} {ws : List W} : H a = some (.tup xs) → RepL K α Z H xs ws → Rep K α Z H (.ref a) (.tup ws)
  | mu {a : Addr} {o : HO} {w : W} {xs : List V} {ws : List W} : H a = some o → Z a → Shape K H a o w xs ws → RepL K α Z H xs ws → Rep K α Z H (.ref a) w
  | scr {a : Addr} {ns : List Int} : SqF K.K α H a (ns.map V.int) → Rep K α Z H (.ref a) (.scr ns)
  | cel {a : Addr} {n : Nat} : α[n]? = some a → Rep K α Z H (.ref a) (.cel n)
  | ty (n : String) : Rep K α Z H (.ty n) (.ty n)
inductive RepL (K : KW) (α : List Addr) (Z : Addr → Prop) (H : Hp) : List V → List W → Prop
  | nil : RepL K α Z H [] []
  | cons {v : V} {w : W} {vs : List V} {ws : List W} : Rep K α Z H v w → RepL K α Z H vs ws → RepL K α Z H (v :: vs) (w :: ws)
end

inductive RepM (K : KW) (α : List Addr) (Z : Addr → Prop) (H : Hp) : Md → V → W → Prop
  | im {m : Md} {v : V} {w : W} : w.mut = false → Rep K α Z H v w → RepM K α Z H m v w
  | mu {m : Md} {a : Addr} {o : HO} {w : W} {xs : List V} {ws : List W} : H a = some o → Shape K H a o w xs ws → RepL K α Z H xs ws → a ∉ α → (m = .own → ¬ Z a) → (m = .frz → Z a) → RepM K α Z H m (.ref a) w

/-- one step of the world: all that is not a cell is kept -/
structure Keep (H : Hp) (α : List Addr) (Z : Addr → Prop) (H' : Hp) (α' : List Addr) (Z' : Addr → Prop) : Prop where
  al : ∃ nw : List Addr, α' = α ++ nw ∧ ∀ a ∈ nw, H a = none
  h : ∀ a o, H a = some o → a ∉ α → H' a = some o
  d : ∀ a, H' a = none → H a = none
  z : ∀ a, Z a → Z' a
  z' : ∀ a, Z' a → Z a ∨ H a = none
  f : ∀ a o u, H a = some (.frz o u) → H' a = some (.frz o u)

/-- a cell's content; locked while it is walked -/
inductive Cel (K : KW) (α : List Addr) (Z : Addr → Prop) (H : Hp) : Addr → W → Prop
  | opn {a : Addr} {o : HO} {w : W} {xs : List V} {ws : List W} : H a = some o → Shape K H a o w xs ws → RepL K α Z H xs ws → Cel K α Z H a w
  | lck {a : Addr} {od : Obj} {o : HO} {w : W} {xs : List V} {ws : List W} : H a = some (.frz od o) → Shape K H a o w xs ws → RepL K α Z H xs ws → Cel K α Z H a (.lck w)
structure WOk (K : KW) (H : Hp) (S : Store) (α : List Addr) (Z : Addr → Prop) : Prop where
  nd : α.Nodup
  cells : Paired (Cel K α Z H) α S
  zα : ∀ a, Z a → a ∉ α
  zH : ∀ a, Z a → H a ≠ none

section
variable {K : KW} {α α' α2 : List Addr} {Z Z' Z2 : Addr → Prop} {H H' H2 : Hp} {S S' : Store} {m : Md} {v : V} {w : W} {vs : List V} {ws : List W}

theorem WOk.cell (w : WOk K H S α Z) {a : Addr} (h : a ∈ α) : ∃ w, Cel K α Z H a w := by
  have go : ∀ {α0 : List Addr} {S0 : Store}, Paired (Cel K α Z H) α0 S0 → a ∈ α0 → ∃ w, Cel K α Z H a w := by
    intro α0 S0 p
    induction p with
    | nil => intro h; cases h
    | cons r t ih =>
      intro h
      rcases List.mem_cons.mp h with e | h
      · subst e; exact ⟨_, r⟩
      · exact ih h
  exact go w.cells h
theorem Cel.ex {a : Addr} {w : W} (c : Cel K α Z H a w) : ∃ o, H a = some o ∧ ∀ xs, o ≠ .tup xs := by
  cases c with
  | opn h s _ => exact ⟨_, h, s.ntup⟩
  | lck h _ _ => exact ⟨_, h, fun xs e => by cases e⟩
theorem Keep.refl : Keep H α Z H α Z := ⟨⟨[], by simp, by simp⟩, fun _ _ h _ => h, fun _ h => h, fun _ h => h, fun _ h => .inl h, fun _ _ _ h => h⟩
theorem Keep.trans (a : Keep H α Z H' α' Z') (b : Keep H' α' Z' H2 α2 Z2) : Keep H α Z H2 α2 Z2 := by
  obtain ⟨n1, e1, f1⟩ := a.al
  obtain ⟨n2, e2, f2⟩ := b.al
  refine ⟨⟨n1 ++ n2, by rw [e2, e1, List.append_assoc], fun x hx => ?_⟩, fun x o h hn => ?_, fun x h => a.d x (b.d x h), fun x h => b.z x (a.z x h), fun x h => ?_, fun x o u h => b.f x o u (a.f x o u h)⟩
  · rcases List.mem_append.mp hx with h | h
    · exact f1 x h
    · exact a.d x (f2 x h)
  · refine b.h x o (a.h x o h hn) fun hx => ?_
    rw [e1] at hx
    rcases List.mem_append.mp hx with h' | h'
    · exact hn h'
    · rw [f1 x h'] at h; cases h
  · rcases b.z' x h with h | h
    · exact a.z' x h
    · exact .inr (a.d x h)
theorem Keep.notin (k : Keep H α Z H' α' Z') {a : Addr} {o : HO} (h : H a = some o) (hn : a ∉ α) : a ∉ α' := by
  obtain ⟨n1, e1, f1⟩ := k.al
  intro hx
  rw [e1] at hx
  rcases List.mem_append.mp hx with h' | h'
  · exact hn h'
  · rw [f1 a h'] at h; cases h
/-- what is said of cells: they are no tuples -/
def NoTup (H : Hp) (α : List Addr) : Prop := ∀ a ∈ α, ∀ xs, H a ≠ some (.tup xs)
theorem WOk.noTup (w : WOk K H S α Z) : NoTup H α := fun a h xs e => by
  obtain ⟨_, c⟩ := w.cell h
  obtain ⟨o, h0, n⟩ := c.ex
  rw [e] at h0; cases h0; exact n _ rfl
theorem Keep.tup (k : Keep H α Z H' α' Z') (hc : NoTup H α) {a : Addr} {xs : List V} (h : H a = some (.tup xs)) : H' a = some (.tup xs) :=
  k.h _ _ h fun hx => hc a hx xs h
theorem Keep.sqF (k : Keep H α Z H' α' Z') {K : PySem.W.Frag} {a : Addr} {xs : List V} (h : SqF K α H a xs) : SqF K α' H' a xs := by
  rcases h with ⟨o, h, n⟩ | h
  · exact .inl ⟨o, k.h _ _ h n, k.notin h n⟩
  · exact .inr h

mutual
/-- a value stays through a step -/
theorem Rep.keep0 (hc : NoTup H α) (hz : ∀ a, Z a → a ∉ α) (k : Keep H α Z H' α' Z') : ∀ {v : V} {w : W}, Rep K α Z H v w → Rep K α' Z' H' v w
  | _, _, .non => .non
  | _, _, .bl b => .bl b
  | _, _, .int i => .int i
  | _, _, .str x => .str x
  | _, _, .ty n => .ty n
  | _, _, .tup h r => .tup (k.tup hc h) (RepL.keep0 hc hz k r)
  | _, _, .mu h z s r => .mu (k.h _ _ h (hz _ z)) (k.z _ z) (s.mono fun _ _ => k.tup hc) (RepL.keep0 hc hz k r)
  | _, _, .scr h => .scr (k.sqF h)
  | _, _, .cel h => .cel (by
      obtain ⟨n1, e1, _⟩ := k.al
      rw [e1, List.getElem?_append_left (List.getElem?_eq_some_iff.mp h).1]
      exact h)
theorem RepL.keep0 (hc : NoTup H α) (hz : ∀ a, Z a → a ∉ α) (k : Keep H α Z H' α' Z') : ∀ {vs : List V} {ws : List W}, RepL K α Z H vs ws → RepL K α' Z' H' vs ws
  | _, _, .nil => .nil
  | _, _, .cons r t => .cons (Rep.keep0 hc hz k r) (RepL.keep0 hc hz k t)
end

theorem Rep.keep (o : WOk K H S α Z) (k : Keep H α Z H' α' Z') (r : Rep K α Z H v w) : Rep K α' Z' H' v w := r.keep0 o.noTup o.zα k
theorem RepL.keep (o : WOk K H S α Z) (k : Keep H α Z H' α' Z') (r : RepL K α Z H vs ws) : RepL K α' Z' H' vs ws := r.keep0 o.noTup o.zα k
theorem RepM.keep (o : WOk K H S α Z) (k : Keep H α Z H' α' Z') (r : RepM K α Z H m v w) : RepM K α' Z' H' m v w := by
  cases r with
  | im e r => exact .im e (r.keep o k)
  | mu h s r hn h1 h2 =>
    refine .mu (k.h _ _ h hn) (s.mono fun _ _ => k.tup o.noTup) (r.keep o k) (k.notin h hn) (fun e z => ?_) fun e => k.z _ (h2 e)
    rcases k.z' _ z with z | z
    · exact h1 e z
    · rw [h] at z; cases z
theorem Rep.toM (o : WOk K H S α Z) (r : Rep K α Z H v w) : RepM K α Z H .frz v w := by
  by_cases e : w.mut = true
  · cases r with
    | mu h z s r => exact .mu h s r (o.zα _ z) (fun e => by cases e) fun _ => z
    | _ => cases e
  · exact .im (by simpa using e) r
theorem Rep.im (r : Rep K α Z H v w) (e : w.mut = false) : RepM K α Z H m v w := .im e r
theorem RepM.rep (r : RepM K α Z H .frz v w) : Rep K α Z H v w := by
  cases r with
  | im _ r => exact r
  | mu h s r _ _ h2 => exact .mu h (h2 rfl) s r
theorem RepM.repI (r : RepM K α Z H m v w) (e : w.mut = false) : Rep K α Z H v w := by
  cases r with
  | im _ r => exact r
  | mu h s r _ _ h2 => rw [s.mut] at e; cases e
theorem RepM.muE (r : RepM K α Z H m v w) (h : w.mut = true) : ∃ a o xs ws, v = .ref a ∧ H a = some o ∧ Shape K H a o w xs ws ∧ RepL K α Z H xs ws ∧ a ∉ α ∧ (m = .own → ¬ Z a) ∧ (m = .frz → Z a) := by
  cases r with
  | im e _ => rw [h] at e; cases e
  | mu h s r hn h1 h2 => exact ⟨_, _, _, _, rfl, h, s, r, hn, h1, h2⟩
theorem RepM.brw (r : RepM K α Z H m v w) : RepM K α Z H .brw v w := by
  cases r with
  | im e r => exact .im e r
  | mu h s r hn _ _ => exact .mu h s r hn (fun e => by cases e) fun e => by cases e
theorem RepL.length (r : RepL K α Z H vs ws) : vs.length = ws.length := by
  induction ws generalizing vs with
  | nil => cases r; rfl
  | cons w ws ih => cases r with | cons r t => simp [ih t]
theorem RepL.get : ∀ {vs : List V} {ws : List W} {i : Nat} {w : W}, RepL K α Z H vs ws → ws[i]? = some w → ∃ v, vs[i]? = some v ∧ Rep K α Z H v w
  | _, _, _, _, .nil, e => by simp at e
  | _, _, 0, _, .cons r _, e => by simp at e; subst e; exact ⟨_, rfl, r⟩
  | _, _, i + 1, w, .cons _ t, e => by
    obtain ⟨u, h1, h2⟩ := RepL.get (i := i) (w := w) t (by simpa using e)
    exact ⟨u, by simpa using h1, h2⟩
theorem RepL.append : ∀ {vs vs' : List V} {ws ws' : List W}, RepL K α Z H vs ws → RepL K α Z H vs' ws' → RepL K α Z H (vs ++ vs') (ws ++ ws')
  | _, _, _, _, .nil, s => s
  | _, _, _, _, .cons r t, s => .cons r (RepL.append t s)
theorem RepL.take : ∀ {vs : List V} {ws : List W} (n : Nat), RepL K α Z H vs ws → RepL K α Z H (vs.take n) (ws.take n)
  | _, _, 0, _ => .nil
  | _, _, _ + 1, .nil => .nil
  | _, _, n + 1, .cons r t => .cons r (RepL.take n t)
theorem RepL.drop : ∀ {vs : List V} {ws : List W} (n : Nat), RepL K α Z H vs ws → RepL K α Z H (vs.drop n) (ws.drop n)
  | _, _, 0, r => r
  | _, _, _ + 1, .nil => .nil
  | _, _, n + 1, .cons _ t => RepL.drop n t
theorem RepL.set {x : V} {u : W} (r : Rep K α Z H x u) : ∀ {xs : List V} {us : List W} (i : Nat), RepL K α Z H xs us → RepL K α Z H (xs.set i x) (us.set i u)
  | _, _, _, .nil => .nil
  | _, _, 0, .cons _ t => .cons r t
  | _, _, i + 1, .cons q t => .cons q (RepL.set r i t)
theorem Keep.new {p : Addr} {o : HO} (hp : H p = none) : Keep H α Z (upd H p o) α Z :=
  ⟨⟨[], by simp, by simp⟩, fun a u h _ => by rw [upd_ne (ne_of_none h hp)]; exact h, fun a h => by
    by_cases e : a = p
    · rw [e]; exact hp
    · rw [upd_ne e] at h; exact h, fun _ h => h, fun _ h => .inl h, fun a o u h => by rw [upd_ne (ne_of_none h hp)]; exact h⟩
theorem Paired.impM {A B : Type} {F G : A → B → Prop} : ∀ {l₁ : List A} {l₂ : List B}, Paired F l₁ l₂ → (∀ a b, a ∈ l₁ → F a b → G a b) → Paired G l₁ l₂
  | _, _, .nil, _ => .nil
  | _, _, .cons r t, f => .cons (f _ _ List.mem_cons_self r) (Paired.impM t fun a b h => f a b (List.mem_cons_of_mem _ h))
theorem Cel.to {α2 : List Addr} {Z2 : Addr → Prop} {H2 : Hp} {a : Addr} {w : W} (c : Cel K α Z H a w) (h : ∀ o, H a = some o → H2 a = some o) (ht : ∀ b xs, H b = some (.tup xs) → H2 b = some (.tup xs)) (hr : ∀ xs ws, RepL K α Z H xs ws → RepL K α2 Z2 H2 xs ws) : Cel K α2 Z2 H2 a w := by
  cases c with
  | opn e s r => exact .opn (h _ e) (s.mono ht) (hr _ _ r)
  | lck e s r => exact .lck (h _ e) (s.mono ht) (hr _ _ r)
theorem WOk.new {p : Addr} {u : HO} (o : WOk K H S α Z) (hp : H p = none) : WOk K (upd H p u) S α Z := by
  refine ⟨o.nd, Paired.impM o.cells fun a w _ c => c.to (fun ob h => by rw [upd_ne (ne_of_none h hp)]; exact h) (fun b ys hb => by rw [upd_ne (ne_of_none hb hp)]; exact hb) fun _ _ r => r.keep o (Keep.new hp), o.zα, fun a z => ?_⟩
  · have := o.zH a z
    by_cases e : a = p
    · rw [e, upd_same]; simp
    · rw [upd_ne e]; exact this
theorem WOk.nZ {p : Addr} (o : WOk K H S α Z) (hp : H p = none) : ¬ Z p := fun z => o.zH p z hp
theorem WOk.nα {p : Addr} (o : WOk K H S α Z) (hp : H p = none) : p ∉ α := fun z => by
  obtain ⟨_, c⟩ := o.cell z
  obtain ⟨_, e, _⟩ := c.ex
  rw [hp] at e; cases e

/-- p may be written: no tuple, nothing frozen, or a cell -/
structure Wr (H : Hp) (α : List Addr) (Z : Addr → Prop) (p : Addr) : Prop where
  t : ∀ xs, H p ≠ some (.tup xs)
  f : ∀ o u, H p = some (.frz o u) → p ∈ α
  z : ¬ Z p
mutual
theorem Rep.put0 {p : Addr} {u : HO} (h0 : Wr H α Z p) : ∀ {v : V} {w : W}, Rep K α Z H v w → Rep K α Z (upd H p u) v w
  | _, _, .non => .non
  | _, _, .bl b => .bl b
  | _, _, .int i => .int i
  | _, _, .str x => .str x
  | _, _, .ty n => .ty n
  | _, _, .tup h r => .tup (by rw [upd_ne (by rintro rfl; exact h0.t _ h)]; exact h) (RepL.put0 h0 r)
  | _, _, .mu h z s r => .mu (by rw [upd_ne (by rintro rfl; exact h0.z z)]; exact h) z (s.mono fun b ys hb => by rw [upd_ne (by rintro rfl; exact h0.t _ hb)]; exact hb) (RepL.put0 h0 r)
  | _, _, .scr h => .scr (by
      rcases h with ⟨o, h, n⟩ | h
      · exact .inl ⟨o, by rw [upd_ne (by rintro rfl; exact n (h0.f _ _ h))]; exact h, n⟩
      · exact .inr h)
  | _, _, .cel h => .cel h
theorem RepL.put0 {p : Addr} {u : HO} (h0 : Wr H α Z p) : ∀ {vs : List V} {ws : List W}, RepL K α Z H vs ws → RepL K α Z (upd H p u) vs ws
  | _, _, .nil => .nil
  | _, _, .cons r t => .cons (Rep.put0 h0 r) (RepL.put0 h0 t)
end
theorem Wr.of {p : Addr} {o : HO} {w0 : W} {xs0 : List V} {ws0 : List W} (nz : ¬ Z p) (h : H p = some o) (s : Shape K H p o w0 xs0 ws0) : Wr H α Z p :=
  ⟨fun ys e => by rw [h] at e; cases e; exact s.ntup _ rfl, fun a t e => by rw [h] at e; cases e; exact absurd rfl (s.opn a t), nz⟩
theorem Wr.mono {p : Addr} {u : HO} (h0 : Wr H α Z p) {a : Addr} {o : HO} {w : W} {xs : List V} {ws : List W} (s : Shape K H a o w xs ws) : Shape K (upd H p u) a o w xs ws :=
  s.mono fun b ys hb => by rw [upd_ne (by rintro rfl; exact h0.t _ hb)]; exact hb
theorem RepL.put {p : Addr} {u : HO} (h0 : Wr H α Z p) (r : RepL K α Z H vs ws) : RepL K α Z (upd H p u) vs ws := r.put0 h0
theorem WOk.put {p : Addr} {u : HO} (wo : WOk K H S α Z) (h0 : Wr H α Z p) (nα : p ∉ α) : WOk K (upd H p u) S α Z :=
  ⟨wo.nd, Paired.impM wo.cells fun a w ha c => c.to (fun o h' => by rw [upd_ne (by rintro rfl; exact nα ha)]; exact h') (fun b ys hb => by rw [upd_ne (by rintro rfl; exact h0.t _ hb)]; exact hb) fun _ _ r => r.put0 h0, wo.zα, fun a z => by
    rw [upd_ne (by rintro rfl; exact h0.z z)]; exact wo.zH a z⟩

/-! ### the frame's names -/
structure EnvOk (K : KW) (α : List Addr) (Z : Addr → Prop) (H : Hp) (ρ : Env) (σ : L2.St) : Prop where
  len : ρ.length = σ.length
  slot : ∀ (i : Nat) w m, ρ[i]? = some (some (w, m)) → ∃ v, σ[i]? = some (some v) ∧ RepM K α Z H m v w
  sep : ∀ (i j : Nat) w w' m', i ≠ j → ρ[i]? = some (some (w, Md.own)) → w.mut = true → ρ[j]? = some (some (w', m')) → w'.mut = true → σ[i]? ≠ σ[j]?
theorem EnvOk.keep {ρ : Env} {σ : L2.St} (o : WOk K H S α Z) (k : Keep H α Z H' α' Z') (e : EnvOk K α Z H ρ σ) : EnvOk K α' Z' H' ρ σ :=
  ⟨e.len, fun i w m h => let ⟨v, h1, r⟩ := e.slot i w m h; ⟨v, h1, r.keep o k⟩, e.sep⟩

/-- what came of an expression -/
structure Got (K : KW) (H0 : Hp) (α : List Addr) (Z : Addr → Prop) (H : Hp) (r : Wm) (v : V) : Prop where
  rep : RepM K α Z H r.2 v r.1
  fr : r.2 = .own → r.1.mut = true → ∀ a, v = .ref a → H0 a = none
theorem Got.keep {r : Wm} {H0 : Hp} (o : WOk K H S α Z) (k : Keep H α Z H' α' Z') (g : Got K H0 α Z H r v) : Got K H0 α' Z' H' r v := ⟨g.rep.keep o k, g.fr⟩
theorem Got.back {r : Wm} {H0 H1 : Hp} (d : ∀ a, H1 a = none → H0 a = none) (g : Got K H1 α Z H r v) : Got K H0 α Z H r v := ⟨g.rep, fun a b c e => d _ (g.fr a b c e)⟩
theorem Got.im {w : W} {m : Md} {H0 : Hp} (r : Rep K α Z H v w) (e : w.mut = false) : Got K H0 α Z H (w, m) v := ⟨.im e r, fun _ h => by rw [e] at h; cases h⟩
end

section
variable {K : KW} {α : List Addr} {Z : Addr → Prop} {H : Hp} {m : Md} {v : V}
theorem RepM.ofBl {b : Bool} (r : RepM K α Z H m v (.bl b)) : v = .bl b := by
  have r := r.repI rfl
  cases r with
  | bl => rfl
  | mu _ _ s _ => cases s
theorem RepM.ofInt {i : Int} (r : RepM K α Z H m v (.int i)) : v = .int i := by
  have r := r.repI rfl
  cases r with
  | int => rfl
  | mu _ _ s _ => cases s
theorem RepM.ofStr {x : Str} (r : RepM K α Z H m v (.str x)) : v = .str x := by
  have r := r.repI rfl
  cases r with
  | str => rfl
  | mu _ _ s _ => cases s
theorem RepM.ofNon (r : RepM K α Z H m v .non) : v = .non := by
  have r := r.repI rfl
  cases r with
  | non => rfl
  | mu _ _ s _ => cases s
theorem RepM.ofTup {ws : List W} (r : RepM K α Z H m v (.tup ws)) : ∃ a xs, v = .ref a ∧ H a = some (.tup xs) ∧ RepL K α Z H xs ws := by
  have r := r.repI rfl
  cases r with
  | tup h r => exact ⟨_, _, rfl, h, r⟩
  | mu _ _ s _ => cases s
theorem RepM.ofScr {ns : List Int} (r : RepM K α Z H m v (.scr ns)) : ∃ a, v = .ref a ∧ SqL K.K H a (ns.map V.int) := by
  have r := r.repI rfl
  cases r with
  | scr h => exact ⟨_, rfl, h.sqL⟩
  | mu _ _ s _ => cases s
theorem RepM.ofCel {n : Nat} (r : RepM K α Z H m v (.cel n)) : ∃ a, v = .ref a ∧ α[n]? = some a := by
  have r := r.repI rfl
  cases r with
  | cel h => exact ⟨_, rfl, h⟩
  | mu _ _ s _ => cases s
theorem RepM.ofLst {ws : List W} (r : RepM K α Z H m v (.lst ws)) : ∃ a xs, v = .ref a ∧ H a = some (.lst xs) ∧ RepL K α Z H xs ws ∧ a ∉ α ∧ (m = .own → ¬ Z a) ∧ (m = .frz → Z a) := by
  cases r with
  | im e _ => cases e
  | mu h s r hn h1 h2 => cases s; exact ⟨_, _, rfl, h, r, hn, h1, h2⟩
end

abbrev CE := Env → Store → Option (Wm × Store)
abbrev CT := Env → Store → Option (Bool × Store)
abbrev CA := Env → Store → Option (List Wm × Store)
def semE (K : KW) (f : CE) : TE := fun σ H Q => ∃ ρ S α Z r S', WOk K H S α Z ∧ EnvOk K α Z H ρ σ ∧ f ρ S = some (r, S') ∧
  ∀ v H' α' Z', Keep H α Z H' α' Z' → WOk K H' S' α' Z' → Got K H α' Z' H' r v → Q v H'
def semT (K : KW) (f : CT) : TT := fun σ H Q => ∃ ρ S α Z b S', WOk K H S α Z ∧ EnvOk K α Z H ρ σ ∧ f ρ S = some (b, S') ∧
  ∀ H' α' Z', Keep H α Z H' α' Z' → WOk K H' S' α' Z' → Q b H'
def semA (K : KW) (f : CA) : TA := fun σ H Q => ∃ ρ S α Z rs S', WOk K H S α Z ∧ EnvOk K α Z H ρ σ ∧ f ρ S = some (rs, S') ∧
  ∀ vs H' α' Z', Keep H α Z H' α' Z' → WOk K H' S' α' Z' → Paired (Got K H α' Z' H') rs vs → Q vs H'
abbrev EE (X : Cx) (e : Expr) (f : CE) : Prop := PE X e (semE X.kw f)
abbrev ET (X : Cx) (e : Expr) (f : CT) : Prop := PT X e (semT X.kw f)
abbrev EA (X : Cx) (es : List Expr) (f : CA) : Prop := PA X es (semA X.kw f)
theorem PE.cons {X : Cx} {e : Expr} {t t' : TE} (h : PE X e t) (i : ∀ σ H Q, t' σ H Q → t σ H Q) : PE X e t' := ⟨fun pins s σ H Q I q => h.run pins s σ H Q I (i σ H Q q)⟩
theorem PT.cons {X : Cx} {e : Expr} {t t' : TT} (h : PT X e t) (i : ∀ σ H Q, t' σ H Q → t σ H Q) : PT X e t' := ⟨fun pins s σ H Q I q => h.run pins s σ H Q I (i σ H Q q)⟩
theorem PA.cons {X : Cx} {es : List Expr} {t t' : TA} (h : PA X es t) (i : ∀ σ H Q, t' σ H Q → t σ H Q) : PA X es t' := ⟨fun pos pins s σ H Q I q => h.run pos pins s σ H Q I (i σ H Q q)⟩

/-! ### names and constants -/
def cVar (i : Nat) : CE := fun ρ S => match ρ[i]? with
  | some (some (w, m)) => some ((w, if m = .own then .brw else m), S)
  | _ => none
def cLit (w : W) : CE := fun _ S => some ((w, .frz), S)
section
variable {X : Cx}
theorem e_var (i : Nat) {x : Str} {pos : Pos} (hN : X.N[i]? = some x := by rfl) (hv : Vis X.env.scope x := by first | exact Or.inl rfl | exact Or.inr (Or.inl rfl) | exact Or.inr (Or.inr rfl)) (hd : (x == ("__debug__" : Str)) = false := by decide)
    (hcd : (x == ("__classdict__" : Str)) = false := by decide) : EE X (.Name x pos) (cVar i) := by
  refine PE.cons (pe_var hN hv hd hcd) fun σ H Q ⟨ρ, S, α, Z, r, S', wo, en, h, q⟩ => ?_
  unfold cVar at h
  split at h
  · rename_i w m hr
    obtain ⟨v, h1, r1⟩ := en.slot i w m hr
    cases h
    refine ⟨v, h1, q v H α Z Keep.refl wo ⟨?_, fun e => ?_⟩⟩
    · by_cases e : m = .own
      · simp only [e, if_true]; exact r1.brw
      · simp only [e, if_false]; exact r1
    · by_cases e' : m = .own
      · simp only [e', if_true] at e; cases e
      · simp only [e', if_false] at e
  · cases h
theorem e_c {e : Expr} {v : V} {w : W} (h : PE X e (tC v)) (r : ∀ α Z H, Rep X.kw α Z H v w) (hm : w.mut = false) : EE X e (cLit w) := by
  refine PE.cons h fun σ H Q ⟨ρ, S, α, Z, r', S', wo, en, h, q⟩ => ?_
  cases h
  exact q v H α Z Keep.refl wo (Got.im (r α Z H) hm)
theorem e_int {i : Int} {j pos} : EE X (.Constant (.int i) j pos) (cLit (.int i)) := e_c pe_int (fun _ _ _ => .int i) rfl
theorem e_bl {b : Bool} {j pos} : EE X (.Constant (.bool b) j pos) (cLit (.bl b)) := e_c pe_bl (fun _ _ _ => .bl b) rfl
theorem e_non {j pos} : EE X (.Constant .none j pos) (cLit .non) := e_c pe_non (fun _ _ _ => .non) rfl
theorem e_str {x : Str} {j pos} : EE X (.Constant (.str x) j pos) (cLit (.str x)) := e_c pe_str (fun _ _ _ => .str x) rfl
end

section
variable {K : KW} {α α0 : List Addr} {Z Z' Z0 : Addr → Prop} {H H0 : Hp} {S : Store}
mutual
theorem Rep.mono (hz : ∀ a, Z a → Z' a) : ∀ {v : V} {w : W}, Rep K α Z H v w → Rep K α Z' H v w
  | _, _, .non => .non
  | _, _, .bl b => .bl b
  | _, _, .int i => .int i
  | _, _, .str x => .str x
  | _, _, .ty n => .ty n
  | _, _, .tup h r => .tup h (RepL.mono hz r)
  | _, _, .mu h z s r => .mu h (hz _ z) s (RepL.mono hz r)
  | _, _, .scr h => .scr h
  | _, _, .cel h => .cel h
theorem RepL.mono (hz : ∀ a, Z a → Z' a) : ∀ {vs : List V} {ws : List W}, RepL K α Z H vs ws → RepL K α Z' H vs ws
  | _, _, .nil => .nil
  | _, _, .cons r t => .cons (Rep.mono hz r) (RepL.mono hz t)
end
mutual
/-- one more cell, which nothing leans on -/
theorem Rep.up {p : Addr} (nz : ¬ Z p) (nf : ∀ o u, H p ≠ some (.frz o u)) : ∀ {v : V} {w : W}, Rep K α Z H v w → Rep K (α ++ [p]) Z H v w
  | _, _, .non => .non
  | _, _, .bl b => .bl b
  | _, _, .int i => .int i
  | _, _, .str x => .str x
  | _, _, .ty n => .ty n
  | _, _, .tup h r => .tup h (RepL.up nz nf r)
  | _, _, .mu h z s r => .mu h z s (RepL.up nz nf r)
  | _, _, .scr h => .scr (by
      rcases h with ⟨o, h, n⟩ | h
      · refine .inl ⟨o, h, fun hm => ?_⟩
        rcases List.mem_append.mp hm with hm | hm
        · exact n hm
        · rw [List.mem_singleton.mp hm] at h; exact nf _ _ h
      · exact .inr h)
  | _, _, .cel h => .cel (by rw [List.getElem?_append_left (List.getElem?_eq_some_iff.mp h).1]; exact h)
theorem RepL.up {p : Addr} (nz : ¬ Z p) (nf : ∀ o u, H p ≠ some (.frz o u)) : ∀ {vs : List V} {ws : List W}, RepL K α Z H vs ws → RepL K (α ++ [p]) Z H vs ws
  | _, _, .nil => .nil
  | _, _, .cons r t => .cons (Rep.up nz nf r) (RepL.up nz nf t)
end
theorem WOk.mono (o : WOk K H S α Z) (hz : ∀ a, Z a → Z' a) (h1 : ∀ a, Z' a → a ∉ α) (h2 : ∀ a, Z' a → H a ≠ none) : WOk K H S α Z' :=
  ⟨o.nd, Paired.impM o.cells fun _ _ _ c => c.to (fun _ h => h) (fun _ _ h => h) fun _ _ r => r.mono hz, h1, h2⟩
/-- may be kept by another thing -/
def sto (r : Wm) : Bool := !(r.1.mut && (match r.2 with | .brw => true | _ => false))
theorem freeze_all {rs : List Wm} {vs : List V} (wo : WOk K H S α Z) (k : Keep H0 α0 Z0 H α Z) (g : Paired (Got K H0 α Z H) rs vs) (s : rs.all sto = true) :
    ∃ Z', (∀ a, Z a → Z' a) ∧ Keep H0 α0 Z0 H α Z' ∧ WOk K H S α Z' ∧ RepL K α Z' H vs (rs.map (·.1)) := by
  refine ⟨fun a => Z a ∨ (H0 a = none ∧ a ∉ α ∧ V.ref a ∈ vs ∧ H a ≠ none), fun a h => .inl h, ⟨k.al, k.h, k.d, fun a h => .inl (k.z a h), fun a h => ?_, k.f⟩, wo.mono (fun a h => .inl h) (fun a h => ?_) (fun a h => ?_), ?_⟩
  · rcases h with h | h
    · exact k.z' a h
    · exact .inr h.1
  · rcases h with h | h
    · exact wo.zα a h
    · exact h.2.1
  · rcases h with h | h
    · exact wo.zH a h
    · exact h.2.2.2
  · have go : ∀ {rs0 : List Wm} {vs0 : List V}, Paired (Got K H0 α Z H) rs0 vs0 → rs0.all sto = true → (∀ v ∈ vs0, v ∈ vs) →
        RepL K α (fun a => Z a ∨ (H0 a = none ∧ a ∉ α ∧ V.ref a ∈ vs ∧ H a ≠ none)) H vs0 (rs0.map (·.1)) := by
      intro rs0 vs0 p
      induction p with
      | nil => intro _ _; exact .nil
      | @cons r v rs1 vs1 gr gt ih =>
        intro hs hm
        rw [List.all_cons, Bool.and_eq_true] at hs
        refine .cons ?_ (ih hs.2 fun v hv => hm v (List.mem_cons_of_mem _ hv))
        obtain ⟨w, m⟩ := r
        obtain ⟨rep, fr⟩ := gr
        cases rep with
        | im _ r => exact r.mono fun a h => .inl h
        | mu h sh r hn h1 h2 =>
          refine .mu h ?_ sh (r.mono fun a h => .inl h)
          cases m with
          | own => exact .inr ⟨fr rfl sh.mut _ rfl, hn, hm _ List.mem_cons_self, by rw [h]; simp⟩
          | frz => exact .inl (h2 rfl)
          | brw =>
            have := hs.1
            unfold sto at this
            have e := sh.mut
            simp only [e] at this
            cases this
    exact go g s fun _ h => h
end

/-! ### in a row -/
def bnd {A B : Type} (x : Option (A × Store)) (k : A → Store → Option B) : Option B := match x with
  | some (a, S) => k a S
  | none => none
@[simp] theorem bnd_some {A B : Type} (a : A) (S : Store) (k : A → Store → Option B) : bnd (some (a, S)) k = k a S := rfl
@[simp] theorem bnd_none {A B : Type} (k : A → Store → Option B) : bnd (none : Option (A × Store)) k = none := rfl
theorem of_bnd {A B : Type} {x : Option (A × Store)} {k : A → Store → Option B} {b : B} (h : bnd x k = some b) : ∃ a S, x = some (a, S) ∧ k a S = some b := by
  cases x with
  | none => cases h
  | some p => exact ⟨p.1, p.2, rfl, h⟩
def cNil : CA := fun _ S => some ([], S)
def cCons (f : CE) (g : CA) : CA := fun ρ S => bnd (f ρ S) fun r S => bnd (g ρ S) fun rs S => some (r :: rs, S)
section
variable {X : Cx} {e a b : Expr} {es : List Expr} {fa fb : CE} {f g : CA} {pos : Pos}
theorem a_nil : EA X [] cNil := by
  refine PA.cons pa_nil fun σ H Q ⟨ρ, S, α, Z, r', S', wo, en, h, q⟩ => ?_
  cases h
  exact q [] H α Z Keep.refl wo .nil
theorem a_cons (ha : EE X e fa) (hr : EA X es g) (hs : starEach (e :: es) X.env = (false, eval e X.env) :: starEach es X.env := by rfl) : EA X (e :: es) (cCons fa g) := by
  refine PA.cons (pa_cons ha hr hs) fun σ H Q ⟨ρ, S, α, Z, r', S', wo, en, h, q⟩ => ?_
  obtain ⟨r, S1, h1, h⟩ := of_bnd h
  obtain ⟨rs, S2, h2, h⟩ := of_bnd h
  cases h
  exact ⟨ρ, S, α, Z, r, S1, wo, en, h1, fun v1 H1 α1 Z1 k1 w1 g1 => ⟨ρ, S1, α1, Z1, rs, _, w1, en.keep wo k1, h2, fun vs H2 α2 Z2 k2 w2 g2 =>
    q (v1 :: vs) H2 α2 Z2 (k1.trans k2) w2 (.cons (g1.keep w1 k2) (Paired.impM g2 fun _ _ _ g => g.back k1.d))⟩⟩

/-! ### displays -/
def cTup (f : CA) : CE := fun ρ S => bnd (f ρ S) fun rs S => if rs.all sto = true ∧ rs.length ≤ sizeLine then some ((.tup (rs.map (·.1)), .own), S) else none
def cLst (f : CA) : CE := fun ρ S => bnd (f ρ S) fun rs S => if rs.all sto = true ∧ rs.length ≤ sizeLine then some ((.lst (rs.map (·.1)), .own), S) else none
/-- a list that many names may write -/
def cBox (f : CA) : CE := fun ρ S => bnd (f ρ S) fun rs S => if rs.all sto = true ∧ rs.length ≤ sizeLine then some ((.cel S.length, .own), S ++ [.lst (rs.map (·.1))]) else none
theorem Paired.len {A B : Type} {F : A → B → Prop} {l₁ : List A} {l₂ : List B} (p : Paired F l₁ l₂) : l₁.length = l₂.length := Paired.length p
theorem e_tup {x1} (h : EA X es f) : EE X (.Tuple es x1 pos) (cTup f) := by
  refine PE.cons (pe_tup h) fun σ H Q ⟨ρ, S, α, Z, r', S', wo, en, h, q⟩ => ?_
  obtain ⟨rs, S1, h1, h⟩ := of_bnd h
  split at h
  · rename_i hs
    cases h
    refine ⟨ρ, S, α, Z, rs, _, wo, en, h1, fun vs H1 α1 Z1 k1 w1 g1 => ⟨by rw [← Paired.len g1]; exact hs.2, fun p hp => ?_⟩⟩
    obtain ⟨Z2, _, k2, w2, r2⟩ := freeze_all w1 k1 g1 hs.1
    have k3 : Keep H1 α1 Z2 (upd H1 p (.tup vs)) α1 Z2 := Keep.new hp
    exact q _ _ _ _ (k2.trans k3) (w2.new hp) (Got.im (.tup upd_same (r2.keep w2 k3)) rfl)
  · cases h
theorem e_lst (h : EA X es f) : EE X (.List es pos) (cLst f) := by
  refine PE.cons (pe_lst h) fun σ H Q ⟨ρ, S, α, Z, r', S', wo, en, h, q⟩ => ?_
  obtain ⟨rs, S1, h1, h⟩ := of_bnd h
  split at h
  · rename_i hs
    cases h
    refine ⟨ρ, S, α, Z, rs, _, wo, en, h1, fun vs H1 α1 Z1 k1 w1 g1 => ⟨by rw [← Paired.len g1]; exact hs.2, fun p hp => ?_⟩⟩
    obtain ⟨Z2, _, k2, w2, r2⟩ := freeze_all w1 k1 g1 hs.1
    have k3 : Keep H1 α1 Z2 (upd H1 p (.lst vs)) α1 Z2 := Keep.new hp
    refine q _ _ _ _ (k2.trans k3) (w2.new hp) ⟨.mu upd_same (.lst _ _) (r2.keep w2 k3) (w2.nα hp) (fun _ => w2.nZ hp) (fun e => by cases e), fun _ _ a e => ?_⟩
    cases e
    exact k1.d _ hp
  · cases h
theorem Paired.snoc {A B : Type} {F : A → B → Prop} {x : A} {y : B} {l₁ : List A} {l₂ : List B} (pr : Paired F l₁ l₂) (f : F x y) : Paired F (l₁ ++ [x]) (l₂ ++ [y]) := by
  induction pr with
  | nil => exact .cons f .nil
  | cons r t ih => exact .cons r ih
/-- a thing that nobody has yet becomes a cell -/
theorem WOk.boxAt {K : KW} {α : List Addr} {Z : Addr → Prop} {H : Hp} {S : Store} {p : Addr} {o : HO} {w : W} {vs : List V} {ws : List W} (wo : WOk K H S α Z) (hp : H p = some o) (nα : p ∉ α) (nz : ¬ Z p) (s : Shape K H p o w vs ws) (r : RepL K α Z H vs ws) :
    WOk K H (S ++ [w]) (α ++ [p]) Z := by
  have up : ∀ {vs : List V} {ws : List W}, RepL K α Z H vs ws → RepL K (α ++ [p]) Z H vs ws := fun {vs ws} r => by
    exact r.up nz fun a b e => by rw [hp] at e; cases e; exact absurd rfl (s.opn a b)
  refine ⟨?_, ?_, fun a z => ?_, wo.zH⟩
  · rw [List.nodup_append]
    refine ⟨wo.nd, by simp, fun a ha b hb e => ?_⟩
    have e' : b = p := by simpa using hb
    rw [e, e'] at ha
    exact nα ha
  · exact (Paired.impM wo.cells fun a w _ c => c.to (fun _ h => h) (fun _ _ h => h) fun _ _ r => up r).snoc (.opn hp s (up r))
  · intro ha
    rcases List.mem_append.mp ha with h | h
    · exact wo.zα a z h
    · have e : a = p := by simpa using h
      rw [e] at z
      exact nz z
theorem WOk.box {K : KW} {α : List Addr} {Z : Addr → Prop} {H : Hp} {S : Store} {p : Addr} {vs : List V} {ws : List W} (o : WOk K H S α Z) (hp : H p = none) (r : RepL K α Z H vs ws) :
    WOk K (upd H p (.lst vs)) (S ++ [.lst ws]) (α ++ [p]) Z ∧ Keep H α Z (upd H p (.lst vs)) (α ++ [p]) Z := by
  have k : Keep H α Z (upd H p (.lst vs)) (α ++ [p]) Z := ⟨⟨[p], rfl, fun a ha => by
    have e : a = p := by simpa using ha
    rw [e]; exact hp⟩, (Keep.new (Z := Z) hp).h, (Keep.new (α := α) (Z := Z) hp).d, fun _ h => h, fun _ h => .inl h, (Keep.new (α := α) (Z := Z) hp).f⟩
  exact ⟨(o.new hp).boxAt upd_same (o.nα hp) (o.nZ hp) (.lst _ _) (r.keep o (Keep.new hp)), k⟩
theorem WOk.len {K : KW} {α : List Addr} {Z : Addr → Prop} {H : Hp} {S : Store} (o : WOk K H S α Z) : α.length = S.length := Paired.length o.cells
theorem e_box (h : EA X es f) : EE X (.List es pos) (cBox f) := by
  refine PE.cons (pe_lst h) fun σ H Q ⟨ρ, S, α, Z, r', S', wo, en, h, q⟩ => ?_
  obtain ⟨rs, S1, h1, h⟩ := of_bnd h
  split at h
  · rename_i hs
    cases h
    refine ⟨ρ, S, α, Z, rs, _, wo, en, h1, fun vs H1 α1 Z1 k1 w1 g1 => ⟨by rw [← Paired.len g1]; exact hs.2, fun p hp => ?_⟩⟩
    obtain ⟨Z2, _, k2, w2, r2⟩ := freeze_all w1 k1 g1 hs.1
    obtain ⟨w3, k3⟩ := w2.box hp r2
    refine q _ _ _ _ (k2.trans k3) w3 (Got.im (.cel ?_) rfl)
    rw [← w2.len, List.getElem?_append_right (Nat.le_refl _), Nat.sub_self]; rfl
  · cases h

/-! ### operators -/
def OS (K : KW) (r : R2) (g : W → W → Option W) : Prop := ∀ {α : List Addr} {Z : Addr → Prop} {H : Hp} {S : Store} {x y : V} {a b c : W} {m1 m2 : Md}, WOk K H S α Z → RepM K α Z H m1 x a → RepM K α Z H m2 y b → g a b = some c →
  ∀ Q : VK, (∀ v H', Keep H α Z H' α Z → WOk K H' S α Z → Got K H α Z H' (c, .own) v → Q v H') → r x y H Q
def cBin (g : W → W → Option W) (fa fb : CE) : CE := fun ρ S => bnd (fa ρ S) fun a S => bnd (fb ρ S) fun b S => (g a.1 b.1).map fun c => ((c, .own), S)
theorem bin_ok {r : R2} {g : W → W → Option W} (hs : OS X.kw r g) {σ : L2.St} {H : Hp} {Q : VK} (h : semE X.kw (cBin g fa fb) σ H Q) : tOp r (semE X.kw fa) (semE X.kw fb) σ H Q := by
  obtain ⟨ρ, S, α, Z, r', S', wo, en, h, q⟩ := h
  obtain ⟨ra, S1, h1, h⟩ := of_bnd h
  obtain ⟨rb, S2, h2, h⟩ := of_bnd h
  cases hc : g ra.1 rb.1 with
  | none => rw [hc] at h; cases h
  | some c =>
    rw [hc] at h
    cases h
    exact ⟨ρ, S, α, Z, ra, S1, wo, en, h1, fun v1 H1 α1 Z1 k1 w1 g1 => ⟨ρ, S1, α1, Z1, rb, _, w1, en.keep wo k1, h2, fun v2 H2 α2 Z2 k2 w2 g2 =>
      hs w2 (g1.rep.keep w1 k2) g2.rep hc _ fun v H3 k3 w3 g3 => q v H3 α2 Z2 ((k1.trans k2).trans k3) w3 (g3.back (k1.trans k2).d)⟩⟩
theorem e_op {op : Operator} {r : R2} {g : W → W → Option W} (ho : OpR X (binaryOp op) r) (hs : OS X.kw r g) (ha : EE X a fa) (hb : EE X b fb) : EE X (.BinOp a op b pos) (cBin g fa fb) :=
  PE.cons (pe_op ho ha hb) fun _ _ _ h => bin_ok hs h
theorem e_cmp {op : CmpOp} {r : R2} {g : W → W → Option W} (ho : OpR X (compareOp op) r) (hs : OS X.kw r g) (ha : EE X a fa) (hb : EE X b fb) (hm : behindInMarks op b = false := by rfl) : EE X (.Compare a [op] [b] pos) (cBin g fa fb) :=
  PE.cons (pe_cmpR ho ha hb hm) fun _ _ _ h => bin_ok hs h
/-- an expression that gives a bool, as a test -/
def cB (f : CE) : CT := fun ρ S => bnd (f ρ S) fun r S => match r.1 with | .bl b => some (b, S) | _ => none
theorem test_ok {f : CE} {σ : L2.St} {H : Hp} {Q : Bool → Hp → Prop} {K : KW} (h : semT K (cB f) σ H Q) : semE K f σ H fun x H1 => ∃ c, x = .bl c ∧ Q c H1 := by
  obtain ⟨ρ, S, α, Z, r', S', wo, en, h, q⟩ := h
  obtain ⟨r, S1, h1, h⟩ := of_bnd h
  obtain ⟨w, m⟩ := r
  cases w with
  | bl c =>
    cases h
    refine ⟨ρ, S, α, Z, _, _, wo, en, h1, fun v H' α' Z' k w g => ⟨_, ?_, q H' α' Z' k w⟩⟩
    exact g.rep.ofBl
  | _ => cases h
theorem t_cmp {op : CmpOp} {r : R2} {g : W → W → Option W} (ho : OpR X (compareOp op) r) (hs : OS X.kw r g) (ha : EE X a fa) (hb : EE X b fb) (hm : behindInMarks op b = false := by rfl) : ET X (.Compare a [op] [b] pos) (cB (cBin g fa fb)) :=
  PT.cons (pt_cmpR ho ha hb hm) fun _ _ _ h => bin_ok hs (test_ok h)
theorem t_val {f : CE} (h : EE X e f) (he : ∀ whole, isTrue e X.env whole = (do let v ← whole; standAt e.pos; holding [v] (truthy v)) := by intro _; rfl) : ET X e (cB f) :=
  PT.cons (pt_val h he) fun _ _ _ h => test_ok h
end

/-! ### the operators by values -/
section
variable {K : KW}
def gAdd : W → W → Option W
  | .int i, .int j => some (.int (i + j))
  | .str i, .str j => if i.length + j.length ≤ sizeLine then some (.str (i ++ j)) else none
  | .tup a, .tup b => if a.length + b.length ≤ sizeLine then some (.tup (a ++ b)) else none
  | .lst a, .lst b => if a.length + b.length ≤ sizeLine then some (.lst (a ++ b)) else none
  | _, _ => none
def rAddW (K : PySem.W.Frag) : R2 := fun x y H Q => (rI0 (fun i j => .int (i + j))) x y H Q ∨ (∃ i j, x = .str i ∧ y = .str j ∧ i.length + j.length ≤ sizeLine ∧ Q (.str (i ++ j)) H) ∨ rCatA K x y H Q ∨ rCat x y H Q
theorem op_addW {X : Cx} : OpR X (binaryOp .Add) (rAddW X.K) := op_add.or (op_add_str.or (op_catA.or op_cat))
theorem os_add : OS K (rAddW K.K) gAdd := by
  intro α Z H S x y a b c m1 m2 wo ra rb hg Q q
  unfold gAdd at hg
  split at hg
  · cases hg
    rw [ra.ofInt, rb.ofInt]
    exact .inl ⟨_, _, rfl, rfl, q _ _ Keep.refl wo (Got.im (.int _) rfl)⟩
  · split at hg
    · rename_i hl
      cases hg
      rw [ra.ofStr, rb.ofStr]
      exact .inr (.inl ⟨_, _, rfl, rfl, hl, q _ _ Keep.refl wo (Got.im (.str _) rfl)⟩)
    · cases hg
  · split at hg
    · rename_i hl
      cases hg
      obtain ⟨p, xs, rfl, hp, rp⟩ := ra.ofTup
      obtain ⟨p', ys, rfl, hp', rp'⟩ := rb.ofTup
      refine .inr (.inr (.inl ⟨p, p', xs, ys, rfl, rfl, .of hp, .of hp', by rw [rp.length, rp'.length]; exact hl, fun e => ?_, fun _ e => ?_, fun _ _ t ht => ?_⟩))
      · subst e
        cases rp
        exact q _ _ Keep.refl wo (Got.im (.tup hp' rp') rfl)
      · subst e
        cases rp'
        rw [List.append_nil] at q
        exact q _ _ Keep.refl wo (Got.im (.tup hp rp) rfl)
      · have k : Keep H α Z (upd H t (.tup (xs ++ ys))) α Z := Keep.new ht
        exact q _ _ k (wo.new ht) (Got.im (.tup upd_same ((rp.append rp').keep wo k)) rfl)
    · cases hg
  · split at hg
    · rename_i hl
      cases hg
      obtain ⟨p, xs, rfl, hp, rp, _⟩ := ra.ofLst
      obtain ⟨p', ys, rfl, hp', rp', _⟩ := rb.ofLst
      refine .inr (.inr (.inr ⟨p, p', xs, ys, rfl, rfl, hp, hp', by rw [rp.length, rp'.length]; exact hl, fun t ht => ?_⟩))
      have k : Keep H α Z (upd H t (.lst (xs ++ ys))) α Z := Keep.new ht
      refine q _ _ k (wo.new ht) ⟨.mu upd_same (.lst _ _) ((rp.append rp').keep wo k) (wo.nα ht) (fun _ => wo.nZ ht) (fun e => by cases e), fun _ _ a e => ?_⟩
      cases e
      exact ht
    · cases hg
  · cases hg
theorem os_int {C : Int → Int → Prop} [∀ i j, Decidable (C i j)] {f : Int → Int → Int} : OS K (rI C fun i j => .int (f i j)) (fun a b => match a, b with | .int i, .int j => if C i j then some (.int (f i j)) else none | _, _ => none) := by
  intro α Z H S x y a b c m1 m2 wo ra rb hg Q q
  dsimp only at hg
  split at hg
  · split at hg
    · rename_i hC
      cases hg
      rw [ra.ofInt, rb.ofInt]
      exact ⟨_, _, rfl, rfl, hC, q _ _ Keep.refl wo (Got.im (.int _) rfl)⟩
    · cases hg
  · cases hg
theorem os_int0 {f : Int → Int → Int} : OS K (rI0 fun i j => .int (f i j)) (fun a b => match a, b with | .int i, .int j => some (.int (f i j)) | _, _ => none) := by
  intro α Z H S x y a b c m1 m2 wo ra rb hg Q q
  dsimp only at hg
  split at hg
  · cases hg
    rw [ra.ofInt, rb.ofInt]
    exact ⟨_, _, rfl, rfl, q _ _ Keep.refl wo (Got.im (.int _) rfl)⟩
  · cases hg
theorem os_cmp {p : Int → Int → Bool} : OS K (rI0 fun i j => .bl (p i j)) (fun a b => match a, b with | .int i, .int j => some (.bl (p i j)) | _, _ => none) := by
  intro α Z H S x y a b c m1 m2 wo ra rb hg Q q
  dsimp only at hg
  split at hg
  · cases hg
    rw [ra.ofInt, rb.ofInt]
    exact ⟨_, _, rfl, rfl, q _ _ Keep.refl wo (Got.im (.bl _) rfl)⟩
  · cases hg
def gSub : W → W → Option W := fun a b => match a, b with | .int i, .int j => some (.int (i - j)) | _, _ => none
def gMul : W → W → Option W := fun a b => match a, b with | .int i, .int j => if ((-(2 ^ 64) < i ∧ i < 2 ^ 64) ∨ (-(2 ^ 64) < j ∧ j < 2 ^ 64)) then some (.int (i * j)) else none | _, _ => none
def gDiv : W → W → Option W := fun a b => match a, b with | .int i, .int j => if (j ≠ 0 ∧ j.natAbs < 1073741824) then some (.int (i.fdiv j)) else none | _, _ => none
def gMod : W → W → Option W := fun a b => match a, b with | .int i, .int j => if j ≠ 0 then some (.int (i.fmod j)) else none | _, _ => none
def gPow : W → W → Option W := fun a b => match a, b with | .int i, .int j => if (0 ≤ j ∧ j ≤ 1000000 ∧ i.natAbs < 2 ^ 64) then some (.int (i ^ j.toNat)) else none | _, _ => none
def gLt : W → W → Option W := fun a b => match a, b with | .int i, .int j => some (.bl (decide (i < j))) | _, _ => none
def gLe : W → W → Option W := fun a b => match a, b with | .int i, .int j => some (.bl (decide (i ≤ j))) | _, _ => none
def gGt : W → W → Option W := fun a b => match a, b with | .int i, .int j => some (.bl (decide (j < i))) | _, _ => none
def gGe : W → W → Option W := fun a b => match a, b with | .int i, .int j => some (.bl (decide (j ≤ i))) | _, _ => none
variable {X : Cx} {a b : Expr} {fa fb : CE} {pos : Pos}
theorem e_add (ha : EE X a fa) (hb : EE X b fb) : EE X (.BinOp a .Add b pos) (cBin gAdd fa fb) := e_op op_addW os_add ha hb
theorem e_sub (ha : EE X a fa) (hb : EE X b fb) : EE X (.BinOp a .Sub b pos) (cBin gSub fa fb) := e_op op_sub os_int0 ha hb
theorem e_mul (ha : EE X a fa) (hb : EE X b fb) : EE X (.BinOp a .Mult b pos) (cBin gMul fa fb) := e_op op_mul (os_int (C := fun i j => (-(2 ^ 64) < i ∧ i < 2 ^ 64) ∨ (-(2 ^ 64) < j ∧ j < 2 ^ 64))) ha hb
theorem e_div (ha : EE X a fa) (hb : EE X b fb) : EE X (.BinOp a .FloorDiv b pos) (cBin gDiv fa fb) := e_op op_fdivN (os_int (C := fun _ j => j ≠ 0 ∧ j.natAbs < 1073741824)) ha hb
theorem e_mod (ha : EE X a fa) (hb : EE X b fb) : EE X (.BinOp a .Mod b pos) (cBin gMod fa fb) := e_op op_modN (os_int (C := fun _ j => j ≠ 0)) ha hb
theorem e_pow (ha : EE X a fa) (hb : EE X b fb) : EE X (.BinOp a .Pow b pos) (cBin gPow fa fb) := e_op op_pow (os_int (C := fun i j => 0 ≤ j ∧ j ≤ 1000000 ∧ i.natAbs < 2 ^ 64)) ha hb
theorem e_lt (ha : EE X a fa) (hb : EE X b fb) : EE X (.Compare a [.Lt] [b] pos) (cBin gLt fa fb) := e_cmp op_lt os_cmp ha hb (nomark _)
theorem e_le (ha : EE X a fa) (hb : EE X b fb) : EE X (.Compare a [.LtE] [b] pos) (cBin gLe fa fb) := e_cmp op_le os_cmp ha hb (nomark _)
theorem e_gt (ha : EE X a fa) (hb : EE X b fb) : EE X (.Compare a [.Gt] [b] pos) (cBin gGt fa fb) := e_cmp op_gt os_cmp ha hb (nomark _)
theorem e_ge (ha : EE X a fa) (hb : EE X b fb) : EE X (.Compare a [.GtE] [b] pos) (cBin gGe fa fb) := e_cmp op_ge os_cmp ha hb (nomark _)
theorem t_lt (ha : EE X a fa) (hb : EE X b fb) : ET X (.Compare a [.Lt] [b] pos) (cB (cBin gLt fa fb)) := t_cmp op_lt os_cmp ha hb (nomark _)
theorem t_le (ha : EE X a fa) (hb : EE X b fb) : ET X (.Compare a [.LtE] [b] pos) (cB (cBin gLe fa fb)) := t_cmp op_le os_cmp ha hb (nomark _)
theorem t_gt (ha : EE X a fa) (hb : EE X b fb) : ET X (.Compare a [.Gt] [b] pos) (cB (cBin gGt fa fb)) := t_cmp op_gt os_cmp ha hb (nomark _)
theorem t_ge (ha : EE X a fa) (hb : EE X b fb) : ET X (.Compare a [.GtE] [b] pos) (cB (cBin gGe fa fb)) := t_cmp op_ge os_cmp ha hb (nomark _)

/-! ### == and != -/
mutual
/-- as data to be compared: none, bools, ints, texts, lists, tuples -/
def toD : W → Option PyData
  | .non => some .none
  | .bl b => some (.bool b)
  | .int i => some (.int i)
  | .str x => some (.str x)
  | .tup ws => (toDs ws).map .tuple
  | .lst ws => (toDs ws).map .list
  | _ => none
def toDs : List W → Option (List PyData)
  | [] => some []
  | w :: ws => match toD w, toDs ws with
    | some d, some ds => some (d :: ds)
    | _, _ => none
end
def gEq (neg : Bool) : W → W → Option W := fun a b => match toD a, toD b with
  | some d, some e => if SeqAt.shaped d = true ∧ SeqAt.shaped e = true then some (.bl (neg != PyData.eqv d e)) else none
  | _, _ => none
mutual
theorem Rep.dp {α : List Addr} {Z : Addr → Prop} {H : Hp} : ∀ {w : W} {v : V} {d : PyData}, Rep K α Z H v w → toD w = some d → Dp K.K H v d
  | .non, _, _, r, e => by
    cases e
    rw [(r.im (m := .frz) rfl).ofNon]; exact .non
  | .bl b, _, _, r, e => by
    cases e
    rw [(r.im (m := .frz) rfl).ofBl]; exact .bl b
  | .int i, _, _, r, e => by
    cases e
    rw [(r.im (m := .frz) rfl).ofInt]; exact .int i
  | .str x, _, _, r, e => by
    cases e
    rw [(r.im (m := .frz) rfl).ofStr]; exact .str x
  | .tup ws, _, _, r, e => by
    obtain ⟨a, xs, rfl, h, rl⟩ := (r.im (m := .frz) rfl).ofTup
    unfold toD at e
    obtain ⟨ds, e1, e2⟩ := Option.map_eq_some_iff.mp e
    subst e2
    exact .tup (.of h) (RepL.dp rl e1)
  | .lst ws, _, _, r, e => by
    cases r with
    | mu h z s rl =>
      cases s
      unfold toD at e
      obtain ⟨ds, e1, e2⟩ := Option.map_eq_some_iff.mp e
      subst e2
      exact .lst (.inl (.inl h)) (RepL.dp rl e1)
  | .dk _, _, _, _, e => by cases e
  | .dt _, _, _, _, e => by cases e
  | .scr _, _, _, _, e => by cases e
  | .cel _, _, _, _, e => by cases e
  | .ty _, _, _, _, e => by cases e
  | .dn _, _, _, _, e => by cases e
  | .ins _ _, _, _, _, e => by cases e
  | .lck _, _, _, _, e => by cases e
theorem RepL.dp {α : List Addr} {Z : Addr → Prop} {H : Hp} : ∀ {ws : List W} {vs : List V} {ds : List PyData}, RepL K α Z H vs ws → toDs ws = some ds → DpAll K.K H vs ds
  | [], _, _, r, e => by
    cases e; cases r; exact .nil
  | w :: ws, _, _, r, e => by
    unfold toDs at e
    split at e
    · rename_i d ds h1 h2
      cases e
      cases r with
      | cons r t => exact .cons (Rep.dp r h1) (RepL.dp t h2)
    · cases e
end
theorem RepM.dp {α : List Addr} {Z : Addr → Prop} {H : Hp} {m : Md} {w : W} {v : V} {d : PyData} (r : RepM K α Z H m v w) (e : toD w = some d) : Dp K.K H v d := by
  cases r with
  | im _ r => exact r.dp e
  | mu h s r _ _ _ =>
    cases s with
    | lst =>
      unfold toD at e
      obtain ⟨ds, e1, e2⟩ := Option.map_eq_some_iff.mp e
      subst e2
      exact .lst (.inl (.inl h)) (r.dp e1)
    | dk _ => cases e
    | dt _ => cases e
    | dn _ _ => cases e
    | ins _ _ => cases e
theorem os_eq : OS K (rEqD K.K) (gEq false) := by
  intro α Z H S x y a b c m1 m2 wo ra rb hg Q q
  unfold gEq at hg
  split at hg
  · rename_i d e h1 h2
    split at hg
    · rename_i hs
      cases hg
      refine ⟨d, e, ra.dp h1, rb.dp h2, hs.1, hs.2, ?_⟩
      have := q (.bl (PyData.eqv d e)) H Keep.refl wo (Got.im (by rw [Bool.false_bne]; exact .bl _) rfl)
      exact this
    · cases hg
  · cases hg
theorem os_ne : OS K (rNeD K.K) (gEq true) := by
  intro α Z H S x y a b c m1 m2 wo ra rb hg Q q
  unfold gEq at hg
  split at hg
  · rename_i d e h1 h2
    split at hg
    · rename_i hs
      cases hg
      refine ⟨d, e, ra.dp h1, rb.dp h2, hs.1, hs.2, ?_⟩
      have := q (.bl (!PyData.eqv d e)) H Keep.refl wo (Got.im (by rw [Bool.true_bne]; exact .bl _) rfl)
      exact this
    · cases hg
  · cases hg
theorem e_eq {k : Nat} (hr : Room k X.A) (ha : EE X a fa) (hb : EE X b fb) : EE X (.Compare a [.Eq] [b] pos) (cBin (gEq false) fa fb) := e_cmp (op_eqD hr.units) os_eq ha hb (nomark _)
theorem e_ne {k : Nat} (hr : Room k X.A) (ha : EE X a fa) (hb : EE X b fb) : EE X (.Compare a [.NotEq] [b] pos) (cBin (gEq true) fa fb) := e_cmp (op_neD hr.units) os_ne ha hb (nomark _)
theorem t_eq {k : Nat} (hr : Room k X.A) (ha : EE X a fa) (hb : EE X b fb) : ET X (.Compare a [.Eq] [b] pos) (cB (cBin (gEq false) fa fb)) := t_cmp (op_eqD hr.units) os_eq ha hb (nomark _)
theorem t_ne {k : Nat} (hr : Room k X.A) (ha : EE X a fa) (hb : EE X b fb) : ET X (.Compare a [.NotEq] [b] pos) (cB (cBin (gEq true) fa fb)) := t_cmp (op_neD hr.units) os_ne ha hb (nomark _)

/-! ### -x, not, and, or, if else -/
def cNeg (f : CE) : CE := fun ρ S => bnd (f ρ S) fun r S => match r.1 with | .int i => some ((.int (-i), .own), S) | _ => none
theorem e_neg (ha : EE X a fa) : EE X (.UnaryOp .USub a pos) (cNeg fa) := by
  refine PE.cons (pe_un un_neg ha) fun σ H Q ⟨ρ, S, α, Z, r', S', wo, en, h, q⟩ => ?_
  obtain ⟨r, S1, h1, h⟩ := of_bnd h
  obtain ⟨w, m⟩ := r
  cases w with
  | int i =>
    cases h
    exact ⟨ρ, S, α, Z, _, _, wo, en, h1, fun v H' α' Z' k w g => ⟨i, g.rep.ofInt, q _ H' α' Z' k w (Got.im (.int _) rfl)⟩⟩
  | _ => cases h
def tvT (f : CT) : CE := fun ρ S => bnd (f ρ S) fun b S => some ((.bl b, .own), S)
def cNotT (f : CT) : CT := fun ρ S => bnd (f ρ S) fun b S => some (!b, S)
def cAndT (f g : CT) : CT := fun ρ S => bnd (f ρ S) fun b S => if b = true then g ρ S else some (false, S)
def cOrT (f g : CT) : CT := fun ρ S => bnd (f ρ S) fun b S => if b = true then some (true, S) else g ρ S
theorem t_not {f : CT} (h : ET X a f) : ET X (.UnaryOp .Not a pos) (cNotT f) := by
  refine PT.cons (pt_not h) fun σ H Q ⟨ρ, S, α, Z, r', S', wo, en, h, q⟩ => ?_
  obtain ⟨r, S1, h1, h⟩ := of_bnd h
  cases h
  exact ⟨ρ, S, α, Z, _, _, wo, en, h1, fun H' α' Z' k w => q H' α' Z' k w⟩
abbrev EW (X : Cx) (e : Expr) (f : CT) : Prop := PW X e (semT X.kw f)
theorem PW.cons {X : Cx} {e : Expr} {t t' : TT} (h : PW X e t) (i : ∀ σ H Q, t' σ H Q → t σ H Q) : PW X e t' := ⟨fun wh pins s σ H Q I q => h.run wh pins s σ H Q I (i σ H Q q)⟩
theorem w_and1 {f : CT} (h : ET X a f) : EW X (.BoolOp .And [a] pos) f := pw_and1 h
theorem w_or1 {f : CT} (h : ET X a f) : EW X (.BoolOp .Or [a] pos) f := pw_or1 h
theorem w_and {f g : CT} {rest : List Expr} (h : ET X a f) (h2 : EW X (.BoolOp .And (b :: rest) pos) g) : EW X (.BoolOp .And (a :: b :: rest) pos) (cAndT f g) := by
  refine PW.cons (pw_and h h2) fun σ H Q ⟨ρ, S, α, Z, r', S', wo, en, h, q⟩ => ?_
  obtain ⟨r, S1, h1, h⟩ := of_bnd h
  refine ⟨ρ, S, α, Z, r, S1, wo, en, h1, fun H' α' Z' k w => ?_⟩
  cases r with
  | true =>
    rw [if_pos rfl] at h
    refine iteT ?_
    exact ⟨ρ, S1, α', Z', r', S', w, en.keep wo k, h, fun H2 α2 Z2 k2 w2 => q H2 α2 Z2 (k.trans k2) w2⟩
  | false =>
    rw [if_neg Bool.false_ne_true] at h
    refine iteF ?_
    cases h
    exact q H' α' Z' k w
theorem w_or {f g : CT} {rest : List Expr} (h : ET X a f) (h2 : EW X (.BoolOp .Or (b :: rest) pos) g) : EW X (.BoolOp .Or (a :: b :: rest) pos) (cOrT f g) := by
  refine PW.cons (pw_or h h2) fun σ H Q ⟨ρ, S, α, Z, r', S', wo, en, h, q⟩ => ?_
  obtain ⟨r, S1, h1, h⟩ := of_bnd h
  refine ⟨ρ, S, α, Z, r, S1, wo, en, h1, fun H' α' Z' k w => ?_⟩
  cases r with
  | true =>
    rw [if_pos rfl] at h
    refine iteT ?_
    cases h
    exact q H' α' Z' k w
  | false =>
    rw [if_neg Bool.false_ne_true] at h
    refine iteF ?_
    exact ⟨ρ, S1, α', Z', r', S', w, en.keep wo k, h, fun H2 α2 Z2 k2 w2 => q H2 α2 Z2 (k.trans k2) w2⟩
theorem t_w {f : CT} (h : EW X a f) : ET X a f := h.pt
/-- not, as a value -/
def cNotV (f : CE) : CE := fun ρ S => bnd (f ρ S) fun r S => match r.1 with | .bl b => some ((.bl (!b), .own), S) | _ => none
theorem e_not (ha : EE X a fa) : EE X (.UnaryOp .Not a pos) (cNotV fa) := by
  refine PE.cons (pe_not ha) fun σ H Q ⟨ρ, S, α, Z, r', S', wo, en, h, q⟩ => ?_
  obtain ⟨r, S1, h1, h⟩ := of_bnd h
  obtain ⟨w, m⟩ := r
  cases w with
  | bl i =>
    cases h
    exact ⟨ρ, S, α, Z, _, _, wo, en, h1, fun v H' α' Z' k w g => ⟨i, g.rep.ofBl, q _ H' α' Z' k w (Got.im (.bl _) rfl)⟩⟩
  | _ => cases h
/-- and, or of bools (the last of any kind), as a value -/
def cAndV (f g : CE) : CE := fun ρ S => bnd (f ρ S) fun r S => match r.1 with | .bl b => if b = true then g ρ S else some ((.bl false, .own), S) | _ => none
def cOrV (f g : CE) : CE := fun ρ S => bnd (f ρ S) fun r S => match r.1 with | .bl b => if b = true then some ((.bl true, .own), S) else g ρ S | _ => none
theorem e_one {op} {f : CE} (h : EE X a f) : EE X (.BoolOp op [a] pos) f := pe_one h
theorem e_and {f g : CE} {rest : List Expr} (h : EE X a f) (h2 : EE X (.BoolOp .And (b :: rest) pos) g) : EE X (.BoolOp .And (a :: b :: rest) pos) (cAndV f g) := by
  refine PE.cons (pe_and h h2) fun σ H Q ⟨ρ, S, α, Z, r', S', wo, en, h, q⟩ => ?_
  obtain ⟨r, S1, h1, h⟩ := of_bnd h
  obtain ⟨w, m⟩ := r
  cases w with
  | bl c =>
    refine ⟨ρ, S, α, Z, _, _, wo, en, h1, fun v H' α' Z' k w g => ⟨c, g.rep.ofBl, ?_⟩⟩
    dsimp only at h
    cases c with
    | true =>
      rw [if_pos rfl] at h
      refine iteT ?_
      exact ⟨ρ, S1, α', Z', r', S', w, en.keep wo k, h, fun v H2 α2 Z2 k2 w2 g2 => q v H2 α2 Z2 (k.trans k2) w2 (g2.back k.d)⟩
    | false =>
      rw [if_neg Bool.false_ne_true] at h
      refine iteF ?_
      cases h
      exact q _ H' α' Z' k w (Got.im (.bl _) rfl)
  | _ => cases h
theorem e_or {f g : CE} {rest : List Expr} (h : EE X a f) (h2 : EE X (.BoolOp .Or (b :: rest) pos) g) : EE X (.BoolOp .Or (a :: b :: rest) pos) (cOrV f g) := by
  refine PE.cons (pe_or h h2) fun σ H Q ⟨ρ, S, α, Z, r', S', wo, en, h, q⟩ => ?_
  obtain ⟨r, S1, h1, h⟩ := of_bnd h
  obtain ⟨w, m⟩ := r
  cases w with
  | bl c =>
    refine ⟨ρ, S, α, Z, _, _, wo, en, h1, fun v H' α' Z' k w g => ⟨c, g.rep.ofBl, ?_⟩⟩
    dsimp only at h
    cases c with
    | true =>
      rw [if_pos rfl] at h
      refine iteT ?_
      cases h
      exact q _ H' α' Z' k w (Got.im (.bl _) rfl)
    | false =>
      rw [if_neg Bool.false_ne_true] at h
      refine iteF ?_
      exact ⟨ρ, S1, α', Z', r', S', w, en.keep wo k, h, fun v H2 α2 Z2 k2 w2 g2 => q v H2 α2 Z2 (k.trans k2) w2 (g2.back k.d)⟩
  | _ => cases h
def cIf (c : CT) (f g : CE) : CE := fun ρ S => bnd (c ρ S) fun b S => if b = true then f ρ S else g ρ S
theorem e_if {c : Expr} {t : CT} {f g : CE} (hc : ET X c t) (ha : EE X a f) (hb : EE X b g) : EE X (.IfExp c a b pos) (cIf t f g) := by
  refine PE.cons (pe_ifExp hc ha hb) fun σ H Q ⟨ρ, S, α, Z, r', S', wo, en, h, q⟩ => ?_
  obtain ⟨r, S1, h1, h⟩ := of_bnd h
  refine ⟨ρ, S, α, Z, r, S1, wo, en, h1, fun H' α' Z' k w => ?_⟩
  have fin : ∀ {f : CE}, f ρ S1 = some (r', S') → semE X.kw f σ H' Q := fun {f} h => ⟨ρ, S1, α', Z', r', S', w, en.keep wo k, h, fun v H2 α2 Z2 k2 w2 g2 => q v H2 α2 Z2 (k.trans k2) w2 (g2.back k.d)⟩
  cases r with
  | true =>
    rw [if_pos rfl] at h
    refine iteT ?_
    exact fin h
  | false =>
    rw [if_neg Bool.false_ne_true] at h
    refine iteF ?_
    exact fin h
end

/-- what a value leads to: a cell's content -/
def drf (S : Store) : W → Option W
  | .cel n => match S[n]? with
    | some (.lck w) => some w
    | o => o
  | w => some w
/-- what is read behind a value -/
inductive RepU (K : KW) (α : List Addr) (Z : Addr → Prop) (H : Hp) : V → W → Prop
  | im {v : V} {u : W} : u.mut = false → Rep K α Z H v u → RepU K α Z H v u
  | mu {a : Addr} {o : HO} {u : W} {xs : List V} {ws : List W} : Rd H a o → Shape K H a o u xs ws → RepL K α Z H xs ws → RepU K α Z H (.ref a) u
theorem Paired.at {A B : Type} {F : A → B → Prop} : ∀ {l₁ : List A} {l₂ : List B} {n : Nat} {x : A} {y : B}, Paired F l₁ l₂ → l₁[n]? = some x → l₂[n]? = some y → F x y := by
  intro l₁ l₂ n x y pr
  induction pr generalizing n with
  | nil => intro h; simp at h
  | cons r t ih =>
    intro h1 h2
    cases n with
    | zero => simp at h1 h2; subst h1; subst h2; exact r
    | succ n => exact ih (by simpa using h1) (by simpa using h2)
section
variable {K : KW} {α : List Addr} {Z : Addr → Prop} {H : Hp} {S : Store} {m : Md} {v : V} {w u : W}
theorem WOk.at (o : WOk K H S α Z) {n : Nat} {a : Addr} {w : W} (h1 : α[n]? = some a) (h2 : S[n]? = some w) : Cel K α Z H a w := Paired.at o.cells h1 h2
theorem WOk.atL (o : WOk K H S α Z) {n : Nat} {a : Addr} {ws : List W} (h1 : α[n]? = some a) (h2 : S[n]? = some (.lst ws)) : ∃ xs, H a = some (.lst xs) ∧ RepL K α Z H xs ws := by
  cases o.at h1 h2 with
  | opn h s r => cases s; exact ⟨_, h, r⟩
theorem RepM.drf (wo : WOk K H S α Z) (r : RepM K α Z H m v w) (h : drf S w = some u) : RepU K α Z H v u := by
  have plain : Mp.drf S w = some w → RepU K α Z H v u := fun e => by
    rw [e] at h; cases h
    cases r with
    | im e r => exact .im e r
    | mu h0 s rl _ _ _ => exact .mu (.inl h0) s rl
  cases w with
  | cel n =>
    obtain ⟨a, rfl, ha⟩ := r.ofCel
    unfold Mp.drf at h
    dsimp only at h
    split at h
    · rename_i w' hS
      cases h
      cases wo.at ha hS with
      | opn _ s _ => cases s
      | lck h0 s rl => exact .mu (.inr ⟨_, h0⟩) s rl
    · rename_i hS hn
      cases wo.at ha h with
      | opn h0 s rl => exact .mu (.inl h0) s rl
      | lck h0 s rl => exact absurd h (hn _)
  | _ => exact plain rfl
theorem RepU.ofInt {i : Int} (r : RepU K α Z H v (.int i)) : v = .int i := by
  cases r with
  | im _ r => exact (r.im (m := .frz) rfl).ofInt
  | mu _ s _ => cases s
theorem RepU.ofStr {x : Str} (r : RepU K α Z H v (.str x)) : v = .str x := by
  cases r with
  | im _ r => exact (r.im (m := .frz) rfl).ofStr
  | mu _ s _ => cases s
theorem RepU.ofTup {ws : List W} (r : RepU K α Z H v (.tup ws)) : ∃ a xs, v = .ref a ∧ H a = some (.tup xs) ∧ RepL K α Z H xs ws := by
  cases r with
  | im _ r => exact (r.im (m := .frz) rfl).ofTup
  | mu _ s _ => cases s
theorem RepU.ofScr {ns : List Int} (r : RepU K α Z H v (.scr ns)) : ∃ a, v = .ref a ∧ SqL K.K H a (ns.map V.int) := by
  cases r with
  | im _ r => exact (r.im (m := .frz) rfl).ofScr
  | mu _ s _ => cases s
theorem RepU.ofLst {ws : List W} (r : RepU K α Z H v (.lst ws)) : ∃ a xs, v = .ref a ∧ Rd H a (.lst xs) ∧ RepL K α Z H xs ws := by
  cases r with
  | im e _ => cases e
  | mu h s r => cases s; exact ⟨_, _, rfl, h, r⟩
theorem RepU.muE (r : RepU K α Z H v u) (h : u.mut = true) : ∃ a o xs ws, v = .ref a ∧ Rd H a o ∧ Shape K H a o u xs ws ∧ RepL K α Z H xs ws := by
  cases r with
  | im e _ => rw [h] at e; cases e
  | mu h s r => exact ⟨_, _, _, _, rfl, h, s, r⟩
theorem rd_sqL {a : Addr} {xs : List V} {F : PySem.W.Frag} (h : Rd H a (.lst xs)) : SqL F H a xs := .inl h
end
/-! ### dicts -/
section
variable {κ β : Type} [DecidableEq κ]
def dGet (kvs : List (κ × β)) (k : κ) : Option β := (kvs.find? fun kv => decide (kv.1 = k)).map (·.2)
def dPut (kvs : List (κ × β)) (k : κ) (v : β) : List (κ × β) :=
  if (kvs.any fun kv => decide (kv.1 = k)) = true then kvs.map (fun kv => if kv.1 = k then (kv.1, v) else kv) else kvs ++ [(k, v)]
end
def keyOf : W → Option Key
  | .int i => some (.inl i)
  | .str x => some (.inr x)
  | _ => none
def keysOf : List W → Option (List Key)
  | [] => some []
  | w :: ws => match keyOf w, keysOf ws with
    | some k, some ks => some (k :: ks)
    | _, _ => none
/-- what a dict holds at a key: none: no key of its kind -/
def dicAt : W → W → Option (Option W)
  | .dk kvs, k => (keyOf k).map fun k => dGet kvs k
  | .dt kvs, .tup ws => (keysOf ws).map fun k => dGet kvs k
  | _, _ => none
def tkOf : W → Option (List Key)
  | .tup ws => keysOf ws
  | _ => none
def dkPut (kvs : List (Key × W)) (k v : W) : Option W := match keyOf k with
  | some κ => if kvs.length < sizeLine then some (.dk (dPut kvs κ v)) else none
  | none => none
def dtPut (kvs : List (List Key × W)) (k v : W) : Option W := match tkOf k with
  | some κ => if kvs.length < sizeLine then some (.dt (dPut kvs κ v)) else none
  | none => none
section
variable {K : KW} {α : List Addr} {Z : Addr → Prop} {H : Hp} {S : Store} {m m2 : Md} {v y : V} {k w : W}
theorem dk_get {κ : Type} [DecidableEq κ] : ∀ {kvs : List (κ × V)} {kws : List (κ × W)} (k : κ), kvs.map (·.1) = kws.map (·.1) → RepL K α Z H (kvs.map (·.2)) (kws.map (·.2)) →
    (dGet kws k = none → valV kvs k = none) ∧ ∀ w, dGet kws k = some w → ∃ v, valV kvs k = some v ∧ Rep K α Z H v w
  | [], [], k, _, _ => ⟨fun _ => rfl, fun w h => by cases h⟩
  | [], _ :: _, _, h, _ => by cases h
  | _ :: _, [], _, h, _ => by cases h
  | (k1, v1) :: r, (k2, w2) :: q, k, h, rl => by
    have e1 : k1 = k2 := by injection h
    have e2 : r.map (·.1) = q.map (·.1) := by injection h
    subst e1
    cases rl with
    | cons ra rt =>
      by_cases e : k1 = k
      · constructor
        · intro hh; simp [dGet, List.find?_cons, e] at hh
        · intro w hh
          simp [dGet, List.find?_cons, e] at hh
          subst hh
          exact ⟨v1, valV_pos (p := (k1, v1)) e, ra⟩
      · have ih := dk_get k e2 rt
        have a1 : dGet ((k1, w2) :: q) k = dGet q k := by simp [dGet, List.find?_cons, e]
        rw [a1, valV_neg (p := (k1, v1)) e]
        exact ih
theorem any_key {κ β γ : Type} [DecidableEq κ] (k : κ) : ∀ {kvs : List (κ × β)} {kws : List (κ × γ)}, kvs.map (·.1) = kws.map (·.1) → (kvs.any fun kv => decide (kv.1 = k)) = kws.any fun kv => decide (kv.1 = k)
  | [], [], _ => rfl
  | [], _ :: _, h => by cases h
  | _ :: _, [], h => by cases h
  | a :: r, b :: q, h => by
    have e1 : a.1 = b.1 := by injection h
    have e2 : r.map (·.1) = q.map (·.1) := by injection h
    rw [List.any_cons, List.any_cons, any_key k e2, e1]
theorem dk_map {κ : Type} [DecidableEq κ] (k : κ) (rv : Rep K α Z H v w) : ∀ {kvs : List (κ × V)} {kws : List (κ × W)}, kvs.map (·.1) = kws.map (·.1) → RepL K α Z H (kvs.map (·.2)) (kws.map (·.2)) →
    (kvs.map fun kv => if kv.1 = k then (kv.1, v) else kv).map (·.1) = (kws.map fun kv => if kv.1 = k then (kv.1, w) else kv).map (·.1) ∧
      RepL K α Z H ((kvs.map fun kv => if kv.1 = k then (kv.1, v) else kv).map (·.2)) ((kws.map fun kv => if kv.1 = k then (kv.1, w) else kv).map (·.2))
  | [], [], _, _ => ⟨rfl, .nil⟩
  | [], _ :: _, h, _ => by cases h
  | _ :: _, [], h, _ => by cases h
  | (k1, v1) :: r, (k2, w2) :: q, h, rl => by
    have e1 : k1 = k2 := by injection h
    have e2 : r.map (·.1) = q.map (·.1) := by injection h
    subst e1
    cases rl with
    | cons ra rt =>
      obtain ⟨i1, i2⟩ := dk_map k rv e2 rt
      by_cases e : k1 = k
      · simp only [List.map_cons, e, if_true]
        exact ⟨by rw [i1], .cons rv i2⟩
      · simp only [List.map_cons, e, if_false]
        exact ⟨by rw [i1], .cons ra i2⟩
theorem dk_put {κ : Type} [DecidableEq κ] (k : κ) (rv : Rep K α Z H v w) {kvs : List (κ × V)} {kws : List (κ × W)} (h : kvs.map (·.1) = kws.map (·.1)) (rl : RepL K α Z H (kvs.map (·.2)) (kws.map (·.2))) :
    (putK kvs k v).map (·.1) = (dPut kws k w).map (·.1) ∧ RepL K α Z H ((putK kvs k v).map (·.2)) ((dPut kws k w).map (·.2)) := by
  unfold putK dPut
  rw [any_key k h]
  split
  · exact dk_map k rv h rl
  · refine ⟨by simp [h], ?_⟩
    rw [List.map_append, List.map_append]
    exact rl.append (.cons rv .nil)
theorem keyOf_ok {κ : Key} (r : RepM K α Z H m y k) (h : keyOf k = some κ) : y = kV κ := by
  cases k with
  | int i => cases h; exact r.ofInt
  | str x => cases h; exact r.ofStr
  | _ => cases h
theorem keysOf_ok : ∀ {ws : List W} {xs : List V} {ks : List Key}, RepL K α Z H xs ws → keysOf ws = some ks → xs = ks.map kV
  | [], _, _, r, h => by cases h; cases r; rfl
  | w :: ws, _, _, r, h => by
    unfold keysOf at h
    split at h
    · rename_i κ ks h1 h2
      cases h
      cases r with
      | cons r t => rw [List.map_cons, ← keysOf_ok t h2, ← keyOf_ok (r.im (m := .frz) (by cases w <;> first | rfl | cases h1)) h1]
    · cases h
theorem tkOf_ok {κ : List Key} (r : RepM K α Z H m y k) (h : tkOf k = some κ) : ∃ b, y = .ref b ∧ H b = some (.tup (κ.map kV)) := by
  cases k with
  | tup ws =>
    obtain ⟨b, xs, rfl, hb, rb⟩ := r.ofTup
    rw [keysOf_ok rb h] at hb
    exact ⟨b, rfl, hb⟩
  | _ => cases h
theorem dic_get {d : W} {o : Option W} (rd : RepU K α Z H v d) (ry : RepM K α Z H m2 y k) (h : dicAt d k = some o) :
    ∃ a, v = .ref a ∧ (o = none → DGet H a y none) ∧ ∀ w, o = some w → ∃ u, DGet H a y (some u) ∧ Rep K α Z H u w := by
  cases rd with
  | im e r => cases d <;> first | (cases e; done) | (cases k <;> cases h)
  | mu h0 s rl =>
    refine ⟨_, rfl, ?_⟩
    cases s with
    | lst => cases h
    | dn _ _ => cases h
    | ins _ _ => cases h
    | @dk kvs kws e =>
      obtain ⟨κ, hk, ho⟩ := Option.map_eq_some_iff.mp h
      obtain ⟨g1, g2⟩ := dk_get κ e rl
      rw [keyOf_ok ry hk]
      refine ⟨fun hh => ?_, fun w hh => ?_⟩
      · rw [← g1 (ho.trans hh)]; exact .inl ⟨_, _, h0, rfl, rfl⟩
      · obtain ⟨u, q1, q2⟩ := g2 w (ho.trans hh)
        refine ⟨u, ?_, q2⟩
        rw [← q1]; exact .inl ⟨_, _, h0, rfl, rfl⟩
    | @dt kvs kws e =>
      cases k with
      | tup ws =>
        obtain ⟨κ, hk, ho⟩ := Option.map_eq_some_iff.mp h
        obtain ⟨g1, g2⟩ := dk_get κ e rl
        obtain ⟨b, xs, rfl, hb, rb⟩ := ry.ofTup
        rw [keysOf_ok rb hk] at hb
        refine ⟨fun hh => ?_, fun w hh => ?_⟩
        · rw [← g1 (ho.trans hh)]; exact .inr ⟨_, _, _, h0, rfl, hb, rfl⟩
        · obtain ⟨u, q1, q2⟩ := g2 w (ho.trans hh)
          refine ⟨u, ?_, q2⟩
          rw [← q1]; exact .inr ⟨_, _, _, h0, rfl, hb, rfl⟩
      | _ => cases h
end
section
variable {X : Cx} {a b : Expr} {fa fb : CE} {pos : Pos}
def rIxD : R2 := fun x y H Q => ∃ a v, x = .ref a ∧ DGet H a y (some v) ∧ Q v H
theorem ix_dict (hu : X.A.units + 1 < cLine) : IxR X rIxD := by
  intro value slice pins s σ H x y v u Q I rx ry h hs
  obtain ⟨p, z, rfl, g, q⟩ := h
  cases rx
  exact tail_any (dict_typeIs I g) PySem.F.slot_dict_getitem.lookup (d_getItem hu I g ry fun w' s3 I3 rw' => ⟨z, H, I3, rw', q⟩) hs
def rIxW (K : PySem.W.Frag) : R2 := fun x y H Q => rIx K x y H Q ∨ rIxD x y H Q
/-- o[i], in place -/
def gIx0 : W → W → Option W
  | .tup ws, .int i => atI ws i
  | .lst ws, .int i => atI ws i
  | .scr ns, .int i => (atI ns i).map .int
  | .str x, .int i => if x.length ≤ sizeLine then (atI x.cps.toList i).map fun c => .str ⟨#[c]⟩ else none
  | d, k => match dicAt d k with
    | some o => o
    | none => none
def gIx (S : Store) (a k : W) : Option W := match drf S a with
  | some u => gIx0 u k
  | none => none
theorem atI_rep {K : KW} {α : List Addr} {Z : Addr → Prop} {H : Hp} {xs : List V} {ws : List W} {i : Int} {w : W} (r : RepL K α Z H xs ws) (h : atI ws i = some w) : ∃ v, atI xs i = some v ∧ Rep K α Z H v w := by
  unfold atI at h ⊢
  rw [r.length]
  cases e : ixN ws.length i with
  | none => rw [e] at h; cases h
  | some j =>
    rw [e] at h
    exact r.get h
def cIx (fa fb : CE) : CE := fun ρ S => bnd (fa ρ S) fun a S => bnd (fb ρ S) fun b S => (gIx S a.1 b.1).map fun c => ((c, .frz), S)
theorem e_ix {k : Nat} (hr : Room k X.A) (ha : EE X a fa) (hb : EE X b fb) (hs : PlainIx b := by exact fun _ _ => rfl) : EE X (.Subscript a b pos) (cIx fa fb) := by
  refine PE.cons (pe_ix (ix_seq.or (ix_dict (hu_of hr))) ha hb hs) fun σ H Q ⟨ρ, S, α, Z, r', S', wo, en, h, q⟩ => ?_
  obtain ⟨ra, S1, h1, h⟩ := of_bnd h
  obtain ⟨rb, S2, h2, h⟩ := of_bnd h
  cases hc : gIx S2 ra.1 rb.1 with
  | none => rw [hc] at h; cases h
  | some c =>
    rw [hc] at h
    cases h
    refine ⟨ρ, S, α, Z, ra, S1, wo, en, h1, fun v1 H1 α1 Z1 k1 w1 g1 => ⟨ρ, S1, α1, Z1, rb, _, w1, en.keep wo k1, h2, fun v2 H2 α2 Z2 k2 w2 g2 => ?_⟩⟩
    have fin : ∀ v, Rep X.kw α2 Z2 H2 v c → Q v H2 := fun v r => q v H2 α2 Z2 (k1.trans k2) w2 ⟨r.toM w2, fun e => by cases e⟩
    have r2 := g2.rep
    unfold gIx at hc
    split at hc
    · rename_i wa hd
      have r1 := (g1.rep.keep w1 k2).drf w2 hd
      obtain ⟨wb, mb⟩ := rb
      dsimp only at hc r1 r2
      have dic : ∀ o, dicAt wa wb = some o → (match dicAt wa wb with | some o => o | none => none) = some c → rIxD v1 v2 H2 Q := fun o e hc => by
        rw [e] at hc
        obtain ⟨a, e1, e2, e3⟩ := dic_get r1 r2 e
        obtain ⟨u, q1, q2⟩ := e3 c hc
        exact ⟨a, u, e1, q1, fin u q2⟩
      have dic2 : (match dicAt wa wb with | some o => o | none => none) = some c → rIxD v1 v2 H2 Q := fun hc => by
        cases e : dicAt wa wb with
        | none => rw [e] at hc; cases hc
        | some o => exact dic o e hc
      unfold gIx0 at hc
      split at hc
      · obtain ⟨p, xs, rfl, hp, rp⟩ := r1.ofTup
        rw [r2.ofInt]
        obtain ⟨u, q1, q2⟩ := atI_rep rp hc
        exact .inl (.inr (.inl ⟨p, xs, _, u, rfl, rfl, .of hp, q1, fin u q2⟩))
      · obtain ⟨p, xs, rfl, hp, rp⟩ := r1.ofLst
        rw [r2.ofInt]
        obtain ⟨u, q1, q2⟩ := atI_rep rp hc
        exact .inl (.inl ⟨p, xs, _, u, rfl, rfl, rd_sqL hp, q1, fin u q2⟩)
      · obtain ⟨p, rfl, hp⟩ := r1.ofScr
        rw [r2.ofInt]
        obtain ⟨n, hn, rfl⟩ := Option.map_eq_some_iff.mp hc
        refine .inl (.inl ⟨p, _, _, .int n, rfl, rfl, hp, ?_, fin _ (.int n)⟩)
        unfold atI at hn ⊢
        rw [List.length_map]
        revert hn
        cases ixN _ _ with
        | none => intro hn; cases hn
        | some j =>
          intro hn
          have hn : _ = some n := hn
          show (List.map V.int _)[j]? = some (V.int n)
          rw [List.getElem?_map]
          exact congrArg (Option.map V.int) hn
      · split at hc
        · rename_i hl
          rw [r1.ofStr, r2.ofInt]
          obtain ⟨n, hn, rfl⟩ := Option.map_eq_some_iff.mp hc
          exact .inl (.inr (.inr ⟨_, _, n, rfl, rfl, hl, hn, fin _ (.str _)⟩))
        · cases hc
      · exact .inr (dic2 hc)
    · cases hc

/-- what a dict, a cell's too, holds at a key -/
def dicS (S : Store) (d k : W) : Option (Option W) := match drf S d with
  | some u => dicAt u k
  | none => none
def isDic : W → Bool
  | .dk _ => true
  | .dt _ => true
  | _ => false
def isDicS (S : Store) (w : W) : Bool := match drf S w with
  | some u => isDic u
  | none => false
def cGet1 (fd fk : CE) : CE := fun ρ S => bnd (fd ρ S) fun d S => if isDicS S d.1 = true then bnd (fk ρ S) fun k S => match dicS S d.1 k.1 with
  | some o => some ((o.getD .non, .frz), S)
  | none => none
  else none
theorem of_dicS {S : Store} {d k : W} {o : Option W} (h : dicS S d k = some o) : ∃ u, drf S d = some u ∧ dicAt u k = some o := by
  unfold dicS at h
  split at h
  · exact ⟨_, by assumption, h⟩
  · cases h
theorem isD_of {K : KW} {α : List Addr} {Z : Addr → Prop} {H : Hp} {S : Store} {m : Md} {v : V} {d : W} (wo : WOk K H S α Z) (rd : RepM K α Z H m v d) (h : isDicS S d = true) : ∃ a, v = .ref a ∧ IsD H a := by
  unfold isDicS at h
  split at h
  · rename_i u hu
    have r := rd.drf wo hu
    cases r with
    | im e r => cases u <;> first | (cases e; done) | cases h
    | mu h0 s rl =>
      refine ⟨_, rfl, ?_⟩
      cases s with
      | lst => cases h
      | dn _ _ => cases h
      | ins _ _ => cases h
      | dk e => exact .inl ⟨_, h0⟩
      | dt e => exact .inr ⟨_, h0⟩
  · cases h
theorem e_get1 {k : Nat} {apos cpos : Pos} (hr : Room k X.A) (ha : EE X a fa) (hb : EE X b fb) (m : M1 X a "get" apos b cpos) : EE X (.Call (.Attribute a "get" apos) [b] [] cpos) (cGet1 fa fb) := by
  refine PE.cons (pe_dget1 (hu_of hr) ha hb m) fun σ H Q ⟨ρ, S, α, Z, r', S', wo, en, h, q⟩ => ?_
  obtain ⟨ra, S1, h1, h⟩ := of_bnd h
  split at h
  rotate_left
  · cases h
  rename_i hdi
  obtain ⟨rb, S2, h2, h⟩ := of_bnd h
  split at h
  · rename_i o ho
    cases h
    obtain ⟨u0, hu0, ho⟩ := of_dicS ho
    refine ⟨ρ, S, α, Z, ra, S1, wo, en, h1, fun v1 H1 α1 Z1 k1 w1 g1 => ?_⟩
    obtain ⟨p, e1, hd⟩ := isD_of w1 g1.rep hdi
    refine ⟨p, e1, hd, ρ, S1, α1, Z1, rb, _, w1, en.keep wo k1, h2, fun v2 H2 α2 Z2 k2 w2 g2 => ?_⟩
    obtain ⟨p', e1', d1, d2⟩ := dic_get ((g1.rep.keep w1 k2).drf w2 hu0) g2.rep ho
    have ep : p' = p := by rw [e1] at e1'; cases e1'; rfl
    subst ep
    have fin : ∀ v w, Rep X.kw α2 Z2 H2 v w → w = o.getD .non → Q v H2 := fun v w r e => by
      subst e
      exact q v H2 α2 Z2 (k1.trans k2) w2 ⟨r.toM w2, fun e => by cases e⟩
    cases o with
    | none => exact ⟨none, d1 rfl, fin _ _ .non rfl⟩
    | some w =>
      obtain ⟨u, q1, q2⟩ := d2 w rfl
      exact ⟨some u, q1, fin _ _ q2 rfl⟩
  · cases h
def cGet2 (fd fk fx : CE) : CE := fun ρ S => bnd (fd ρ S) fun d S => if isDicS S d.1 = true then bnd (fk ρ S) fun k S => bnd (fx ρ S) fun x S => match dicS S d.1 k.1 with
  | some (some w) => some ((w, .frz), S)
  | some none => some (x, S)
  | none => none
  else none
theorem e_get2 {k : Nat} {c : Expr} {fc : CE} {apos cpos : Pos} (hr : Room k X.A) (ha : EE X a fa) (hb : EE X b fb) (hc : EE X c fc) (m : M2 X a "get" apos b c cpos) : EE X (.Call (.Attribute a "get" apos) [b, c] [] cpos) (cGet2 fa fb fc) := by
  refine PE.cons (pe_dget2 (hu_of hr) ha hb hc m) fun σ H Q ⟨ρ, S, α, Z, r', S', wo, en, h, q⟩ => ?_
  obtain ⟨ra, S1, h1, h⟩ := of_bnd h
  split at h
  rotate_left
  · cases h
  rename_i hdi
  obtain ⟨rb, S2, h2, h⟩ := of_bnd h
  obtain ⟨rc, S3, h3, h⟩ := of_bnd h
  obtain ⟨o, ho, h⟩ : ∃ o, dicS S3 ra.1 rb.1 = some o ∧ (match o with | some w => some ((w, Md.frz), S3) | none => some (rc, S3)) = some (r', S') := by
    split at h
    · rename_i w ho; exact ⟨_, ho, h⟩
    · rename_i ho; exact ⟨_, ho, h⟩
    · cases h
  obtain ⟨u0, hu0, ho⟩ := of_dicS ho
  refine ⟨ρ, S, α, Z, ra, S1, wo, en, h1, fun v1 H1 α1 Z1 k1 w1 g1 => ?_⟩
  obtain ⟨p, e1, hd⟩ := isD_of w1 g1.rep hdi
  refine ⟨p, e1, hd, ρ, S1, α1, Z1, rb, _, w1, en.keep wo k1, h2, fun v2 H2 α2 Z2 k2 w2 g2 => ⟨ρ, _, α2, Z2, rc, _, w2, en.keep wo (k1.trans k2), h3, fun v3 H3 α3 Z3 k3 w3 g3 => ?_⟩⟩
  obtain ⟨p', e1', d1, d2⟩ := dic_get ((g1.rep.keep w1 (k2.trans k3)).drf (by cases o <;> (cases h; exact w3)) hu0) (g2.rep.keep w2 k3) ho
  have ep : p' = p := by rw [e1] at e1'; cases e1'; rfl
  subst ep
  have kk := (k1.trans k2).trans k3
  cases o with
  | none =>
    cases h
    exact ⟨none, d1 rfl, q _ H3 α3 Z3 kk w3 (g3.back (k1.trans k2).d)⟩
  | some w =>
    cases h
    obtain ⟨u, q1, q2⟩ := d2 w rfl
    exact ⟨some u, q1, q _ H3 α3 Z3 kk w3 ⟨q2.toM w3, fun e => by cases e⟩⟩

/-- k in d -/
def cInD (neg : Bool) (fk fd : CE) : CE := fun ρ S => bnd (fk ρ S) fun k S => bnd (fd ρ S) fun d S => match dicS S d.1 k.1 with
  | some o => some ((.bl (neg != o.isSome), .own), S)
  | none => none
/-- {} -/
def cDk : CE := fun _ S => some ((.dk [], .own), S)
def cDt : CE := fun _ S => some ((.dt [], .own), S)
theorem e_dk : EE X (.Dict [] [] pos) cDk := by
  refine PE.cons pe_dnewK fun σ H Q ⟨ρ, S, α, Z, r', S', wo, en, h, q⟩ => ?_
  cases h
  intro p hp
  refine q _ _ α Z (Keep.new hp) (wo.new hp) ⟨.mu upd_same (.dk (kvs := []) (kws := []) rfl) .nil (wo.nα hp) (fun _ => wo.nZ hp) (fun e => by cases e), fun _ _ a e => ?_⟩
  cases e
  exact hp
theorem e_dt : EE X (.Dict [] [] pos) cDt := by
  refine PE.cons pe_dnewT fun σ H Q ⟨ρ, S, α, Z, r', S', wo, en, h, q⟩ => ?_
  cases h
  intro p hp
  refine q _ _ α Z (Keep.new hp) (wo.new hp) ⟨.mu upd_same (.dt (kvs := []) (kws := []) rfl) .nil (wo.nα hp) (fun _ => wo.nZ hp) (fun e => by cases e), fun _ _ a e => ?_⟩
  cases e
  exact hp
end

/-! ### statements -/
structure Bs where
  H : Hp
  α : List Addr
  Z : Addr → Prop
def OwnB (B : Bs) (ρ : Env) (σ : L2.St) : Prop := ∀ (i : Nat) w, ρ[i]? = some (some (w, Md.own)) → w.mut = true → ∀ a, σ[i]? = some (some (.ref a)) → B.H a = none
structure At (K : KW) (B : Bs) (ρ : Env) (S : Store) (σ : L2.St) (H : Hp) (α : List Addr) (Z : Addr → Prop) : Prop where
  w : WOk K H S α Z
  k : Keep B.H B.α B.Z H α Z
  e : EnvOk K α Z H ρ σ
  o : OwnB B ρ σ
def SOk (K : KW) (B : Bs) (ρ : Env) (S : Store) (σ : L2.St) (H : Hp) : Prop := ∃ α Z, At K B ρ S σ H α Z
inductive SOut where
  | nx (ρ : Env) (S : Store) | rt (r : Wm) (S : Store) | bk (ρ : Env) (S : Store) | ct (ρ : Env) (S : Store)
abbrev CS := Env → Store → Option SOut
def EndOk (K : KW) (B : Bs) (D : Ends) : SOut → Prop
  | .nx ρ S => ∀ σ H, SOk K B ρ S σ H → D.nx σ H
  | .bk ρ S => ∀ σ H, SOk K B ρ S σ H → D.bk σ H
  | .ct ρ S => ∀ σ H, SOk K B ρ S σ H → D.ct σ H
  | .rt r S => sto r = true ∧ ∀ v H α Z, Keep B.H B.α B.Z H α Z → WOk K H S α Z → Got K B.H α Z H r v → D.rt v H
def semS (K : KW) (f : CS) : TS := fun D σ H => ∃ B ρ S o, SOk K B ρ S σ H ∧ f ρ S = some o ∧ EndOk K B D o
abbrev ES (X : Cx) (st : Stmt) (f : CS) : Prop := PS X st (semS X.kw f)
abbrev ESs (X : Cx) (st : List Stmt) (f : CS) : Prop := PSs X st (semS X.kw f)
theorem PS.cons {X : Cx} {st : Stmt} {t t' : TS} (h : PS X st t) (i : ∀ D σ H, t' D σ H → t D σ H) : PS X st t' := ⟨fun pins s σ H D I q => h.run pins s σ H D I (i D σ H q)⟩
theorem PSs.cons {X : Cx} {st : List Stmt} {t t' : TS} (h : PSs X st t) (i : ∀ D σ H, t' D σ H → t D σ H) : PSs X st t' := ⟨fun pins s σ H D I q => h.run pins s σ H D I (i D σ H q)⟩
def cSkip : CS := fun ρ S => some (.nx ρ S)
def cSeq (f g : CS) : CS := fun ρ S => match f ρ S with
  | some (.nx ρ' S') => g ρ' S'
  | o => o
section
variable {X : Cx} {st : Stmt} {rest : List Stmt} {f g : CS} {e : Expr} {fe : CE} {pos : Pos}
theorem s_nil : ESs X [] cSkip := PSs.cons pss_nil fun D σ H ⟨B, ρ, S, o, so, h, q⟩ => by
  cases h
  exact q σ H so
theorem s_cons (h1 : ES X st f) (h2 : ESs X rest g) : ESs X (st :: rest) (cSeq f g) := PSs.cons (pss_cons h1 h2) fun D σ H ⟨B, ρ, S, o, so, h, q⟩ => by
  unfold cSeq at h
  cases hf : f ρ S with
  | none => rw [hf] at h; cases h
  | some o1 =>
    rw [hf] at h
    refine ⟨B, ρ, S, o1, so, hf, ?_⟩
    cases o1 with
    | nx ρ' S' => exact fun σ' H' so' => ⟨B, ρ', S', o, so', h, q⟩
    | rt r S' => cases h; exact q
    | bk ρ' S' => cases h; exact q
    | ct ρ' S' => cases h; exact q
theorem s_one (h1 : ES X st f) : ESs X [st] f := pss_one h1
theorem s_pass : ES X (.Pass pos) cSkip := PS.cons ps_pass fun D σ H ⟨B, ρ, S, o, so, h, q⟩ => by
  cases h
  exact q σ H so
def cBrk : CS := fun ρ S => some (.bk ρ S)
def cCnt : CS := fun ρ S => some (.ct ρ S)
theorem s_break : ES X (.Break pos) cBrk := PS.cons ps_break fun D σ H ⟨B, ρ, S, o, so, h, q⟩ => by
  cases h
  exact q σ H so
theorem s_continue : ES X (.Continue pos) cCnt := PS.cons ps_continue fun D σ H ⟨B, ρ, S, o, so, h, q⟩ => by
  cases h
  exact q σ H so
theorem At.go {K : KW} {B : Bs} {ρ : Env} {S S' : Store} {σ : L2.St} {H H' : Hp} {α α' : List Addr} {Z Z' : Addr → Prop} (a : At K B ρ S σ H α Z) (k : Keep H α Z H' α' Z') (w : WOk K H' S' α' Z') : At K B ρ S' σ H' α' Z' :=
  ⟨w, a.k.trans k, a.e.keep a.w k, a.o⟩
def cDrop (fe : CE) : CS := fun ρ S => bnd (fe ρ S) fun _ S => some (.nx ρ S)
theorem s_expr (he : EE X e fe) (hs : swapsWith e none pos.line X.env = pure false := by rfl) : ES X (.Expr e pos) (cDrop fe) := PS.cons (ps_expr he hs) fun D σ H ⟨B, ρ, S, o, ⟨α, Z, at_⟩, h, q⟩ => by
  obtain ⟨r, S1, h1, h⟩ := of_bnd h
  cases h
  exact ⟨ρ, S, α, Z, r, S1, at_.w, at_.e, h1, fun v H1 α1 Z1 k1 w1 _ => q σ H1 ⟨α1, Z1, at_.go k1 w1⟩⟩
theorem s_doc {x j pos'} : ES X (.Expr (.Constant (.str x) j pos) pos') cSkip := PS.cons ps_doc fun D σ H ⟨B, ρ, S, o, so, h, q⟩ => by
  cases h
  exact q σ H so
def cRet (fe : CE) : CS := fun ρ S => bnd (fe ρ S) fun r S => if sto r = true then some (.rt r S) else none
theorem s_ret (he : EE X e fe) : ES X (.Return (some e) pos) (cRet fe) := PS.cons (ps_ret he) fun D σ H ⟨B, ρ, S, o, ⟨α, Z, at_⟩, h, q⟩ => by
  obtain ⟨r, S1, h1, h⟩ := of_bnd h
  split at h
  · cases h
    exact ⟨ρ, S, α, Z, r, S1, at_.w, at_.e, h1, fun v H1 α1 Z1 k1 w1 g => q.2 v H1 α1 Z1 (at_.k.trans k1) w1 (g.back at_.k.d)⟩
  · cases h
def cRetN : CS := fun _ S => some (.rt (.non, .own) S)
theorem s_retN : ES X (.Return none pos) cRetN := PS.cons ps_retN fun D σ H ⟨B, ρ, S, o, ⟨α, Z, at_⟩, h, q⟩ => by
  cases h
  exact q.2 _ H α Z at_.k at_.w (Got.im .non rfl)
/-- a name's own value is handed out -/
def cRetV (i : Nat) : CS := fun ρ S => match ρ[i]? with
  | some (some r) => if sto r = true then some (.rt r S) else none
  | _ => none
theorem s_retV (i : Nat) {x : Str} {p : Pos} (hN : X.N[i]? = some x := by rfl) (hv : Vis X.env.scope x := by first | exact Or.inl rfl | exact Or.inr (Or.inl rfl) | exact Or.inr (Or.inr rfl)) (hd : (x == ("__debug__" : Str)) = false := by decide)
    (hcd : (x == ("__classdict__" : Str)) = false := by decide) : ES X (.Return (some (.Name x p)) pos) (cRetV i) := PS.cons (ps_ret (pe_var hN hv hd hcd)) fun D σ H ⟨B, ρ, S, o, ⟨α, Z, at_⟩, h, q⟩ => by
  unfold cRetV at h
  split at h
  · rename_i r hr
    split at h
    · cases h
      obtain ⟨w, m⟩ := r
      obtain ⟨v, e1, r1⟩ := at_.e.slot i w m hr
      refine ⟨v, e1, q.2 v H α Z at_.k at_.w ⟨r1, fun e2 e3 a e4 => ?_⟩⟩
      dsimp only at e2 e3
      subst e2 e4
      exact at_.o i w hr e3 a e1
    · cases h
  · cases h
def cIfS (t : CT) (f g : CS) : CS := fun ρ S => bnd (t ρ S) fun b S => if b = true then f ρ S else g ρ S
theorem s_if {c : Expr} {a b : List Stmt} {t : CT} (hc : ET X c t) (ha : ESs X a f) (hb : ESs X b g) : ES X (.If c a b pos) (cIfS t f g) := PS.cons (ps_if hc ha hb) fun D σ H ⟨B, ρ, S, o, ⟨α, Z, at_⟩, h, q⟩ => by
  obtain ⟨r, S1, h1, h⟩ := of_bnd h
  refine ⟨ρ, S, α, Z, r, S1, at_.w, at_.e, h1, fun H1 α1 Z1 k1 w1 => ?_⟩
  cases r with
  | true =>
    rw [if_pos rfl] at h
    refine iteT ?_
    exact ⟨B, ρ, S1, o, ⟨α1, Z1, at_.go k1 w1⟩, h, q⟩
  | false =>
    rw [if_neg Bool.false_ne_true] at h
    refine iteF ?_
    exact ⟨B, ρ, S1, o, ⟨α1, Z1, at_.go k1 w1⟩, h, q⟩
end

/-! ### a name gives its list up -/
def frzE (ρ : Env) (i : Nat) : Env := match ρ[i]? with
  | some (some (w, .own)) => ρ.set i (some (w, .frz))
  | _ => ρ
def cFz (is : List Nat) (f : CS) : CS := fun ρ S => f (is.foldl frzE ρ) S
theorem At.frz {K : KW} {B : Bs} {ρ : Env} {S : Store} {σ : L2.St} {H : Hp} {α : List Addr} {Z : Addr → Prop} (a : At K B ρ S σ H α Z) (i : Nat) : ∃ Z', At K B (frzE ρ i) S σ H α Z' := by
  unfold frzE
  split
  · rename_i w hr
    have hi : i < ρ.length := (List.getElem?_eq_some_iff.mp hr).1
    obtain ⟨v, e1, r1⟩ := a.e.slot i w .own hr
    cases hm : w.mut with
    | false =>
      refine ⟨Z, a.w, a.k, ⟨by rw [List.length_set]; exact a.e.len, fun j w' m' hj => ?_, fun j j' w1 w2 m2 hne h1 h2 h3 h4 => ?_⟩, fun j w' hj hm' => ?_⟩
      · by_cases e : i = j
        · subst e
          rw [List.getElem?_set_self hi] at hj
          cases hj
          exact ⟨v, e1, .im hm (r1.repI hm)⟩
        · rw [List.getElem?_set_ne e] at hj
          exact a.e.slot j w' m' hj
      · have n1 : i ≠ j := fun e => by subst e; rw [List.getElem?_set_self hi] at h1; cases h1
        rw [List.getElem?_set_ne n1] at h1
        by_cases e : i = j'
        · subst e
          rw [List.getElem?_set_self hi] at h3
          cases h3
          rw [hm] at h4; cases h4
        · rw [List.getElem?_set_ne e] at h3
          exact a.e.sep j j' w1 w2 m2 hne h1 h2 h3 h4
      · have n1 : i ≠ j := fun e => by subst e; rw [List.getElem?_set_self hi] at hj; cases hj
        rw [List.getElem?_set_ne n1] at hj
        exact a.o j w' hj hm'
    | true =>
      obtain ⟨p, o, xs, ws, rfl, h0, s, rl, hn, h1, h2⟩ := r1.muE hm
      have hb := a.o i w hr hm p e1
      have up : ∀ b, Z b → Z b ∨ b = p := fun b h => .inl h
      refine ⟨fun b => Z b ∨ b = p, a.w.mono up (fun b h => ?_) (fun b h => ?_), ⟨a.k.al, a.k.h, a.k.d, fun b h => .inl (a.k.z b h), fun b h => ?_, a.k.f⟩, ⟨by rw [List.length_set]; exact a.e.len, fun j w' m' hj => ?_, fun j j' w1 w2 m2 hne h1 h2 h3 h4 => ?_⟩, fun j w' hj hm' => ?_⟩
      · rcases h with h | h
        · exact a.w.zα b h
        · rw [h]; exact hn
      · rcases h with h | h
        · exact a.w.zH b h
        · rw [h, h0]; simp
      · rcases h with h | h
        · exact a.k.z' b h
        · rw [h]; exact .inr hb
      · by_cases e : i = j
        · subst e
          rw [List.getElem?_set_self hi] at hj
          cases hj
          exact ⟨.ref p, e1, .mu h0 s (rl.mono up) hn (fun e => by cases e) fun _ => .inr rfl⟩
        · rw [List.getElem?_set_ne e] at hj
          obtain ⟨u, q1, q2⟩ := a.e.slot j w' m' hj
          refine ⟨u, q1, ?_⟩
          cases q2 with
          | im e r => exact .im e (r.mono up)
          | mu c0 c1 c2 c3 c4 c5 =>
            refine .mu c0 c1 (c2.mono up) c3 (fun em z => ?_) fun em => .inl (c5 em)
            rcases z with z | z
            · exact c4 em z
            · subst em z
              exact a.e.sep i j w w' .own e hr hm hj c1.mut (e1.trans q1.symm)
      · have n1 : i ≠ j := fun e => by subst e; rw [List.getElem?_set_self hi] at h1; cases h1
        rw [List.getElem?_set_ne n1] at h1
        by_cases e : i = j'
        · subst e
          rw [List.getElem?_set_self hi] at h3
          cases h3
          exact a.e.sep j _ w1 w .own hne h1 h2 hr hm
        · rw [List.getElem?_set_ne e] at h3
          exact a.e.sep j j' w1 w2 m2 hne h1 h2 h3 h4
      · have n1 : i ≠ j := fun e => by subst e; rw [List.getElem?_set_self hi] at hj; cases hj
        rw [List.getElem?_set_ne n1] at hj
        exact a.o j w' hj hm'
  · exact ⟨Z, a⟩
theorem At.frzs {K : KW} {B : Bs} {S : Store} {σ : L2.St} {H : Hp} {α : List Addr} : ∀ (is : List Nat) {ρ : Env} {Z : Addr → Prop}, At K B ρ S σ H α Z → ∃ Z', At K B (is.foldl frzE ρ) S σ H α Z'
  | [], _, Z, a => ⟨Z, a⟩
  | i :: is, _, _, a => let ⟨_, a'⟩ := a.frz i; At.frzs is a'
theorem s_fz {X : Cx} {st : Stmt} {f : CS} (is : List Nat) (h : ES X st f) : ES X st (cFz is f) := PS.cons h fun D σ H ⟨B, ρ, S, o, ⟨α, Z, at_⟩, h, q⟩ => by
  obtain ⟨Z', a'⟩ := at_.frzs is
  exact ⟨B, _, S, o, ⟨α, Z', a'⟩, h, q⟩

/-! ### targets -/
def md (r : Wm) : Wm := (r.1, if r.1.mut = true then r.2 else .frz)
abbrev CG := Wm → Env → Option Env
/-- the value fits a slot: an own one is nobody else's -/
structure Fits (K : KW) (B : Bs) (ρ : Env) (σ : L2.St) (H : Hp) (α : List Addr) (Z : Addr → Prop) (r : Wm) (v : V) : Prop where
  rep : RepM K α Z H r.2 v r.1
  fr : r.2 = .own → r.1.mut = true → ∀ a, v = .ref a → B.H a = none ∧ ∀ (j : Nat) w m, ρ[j]? = some (some (w, m)) → w.mut = true → σ[j]? ≠ some (some (.ref a))
def Slots (is : List Nat) (σ σ' : L2.St) : Prop := σ'.length = σ.length ∧ ∀ j, j ∉ is → σ'[j]? = σ[j]?
def semG (K : KW) (is : List Nat) (t : CG) : TG := fun v σ H Q => ∃ B ρ S α Z r ρ', At K B ρ S σ H α Z ∧ Fits K B ρ σ H α Z r v ∧ t r ρ = some ρ' ∧ ∀ σ', At K B ρ' S σ' H α Z → Slots is σ σ' → Q σ' H
def semGs (K : KW) (is : List Nat) (t : List W → Env → Option Env) : TGs := fun vs σ H Q => ∃ B ρ S α Z ws ρ', At K B ρ S σ H α Z ∧ RepL K α Z H vs ws ∧ t ws ρ = some ρ' ∧ ∀ σ', At K B ρ' S σ' H α Z → Slots is σ σ' → Q σ' H
abbrev EG (X : Cx) (tg : Expr) (is : List Nat) (t : CG) : Prop := PG X tg (semG X.kw is t)
abbrev EGs (X : Cx) (tgs : List Expr) (is : List Nat) (t : List W → Env → Option Env) : Prop := PGs X tgs (semGs X.kw is t)
theorem PG.cons {X : Cx} {tg : Expr} {t t' : TG} (h : PG X tg t) (i : ∀ v σ H Q, t' v σ H Q → t v σ H Q) : PG X tg t' := ⟨fun pins s σ H v u Q I r q => h.run pins s σ H v u Q I r (i v σ H Q q)⟩
theorem PGs.cons {X : Cx} {tg : List Expr} {t t' : TGs} (h : PGs X tg t) (i : ∀ v σ H Q, t' v σ H Q → t v σ H Q) : PGs X tg t' := ⟨fun pins s σ H v u Q I r q => h.run pins s σ H v u Q I r (i v σ H Q q)⟩
def tName (i : Nat) : CG := fun r ρ => if sto r = true then some (ρ.set i (some (md r))) else none
theorem md_mut {r : Wm} {w : W} {m : Md} (h : some (md r) = some (w, m)) : r.1 = w ∧ (w.mut = true → r.2 = m) ∧ (w.mut = false → m = .frz) := by
  unfold md at h
  injection h with h
  injection h with h1 h2
  subst h1
  refine ⟨rfl, fun e => ?_, fun e => ?_⟩
  · rw [if_pos e] at h2; exact h2
  · rw [e, if_neg Bool.false_ne_true] at h2; exact h2.symm
theorem At.set {K : KW} {B : Bs} {ρ : Env} {S : Store} {σ : L2.St} {H : Hp} {α : List Addr} {Z : Addr → Prop} {r : Wm} {v : V} (a : At K B ρ S σ H α Z) (i : Nat) (f : Fits K B ρ σ H α Z r v) (hs : sto r = true) :
    At K B (ρ.set i (some (md r))) S (σ.set i (some v)) H α Z := by
  have get : ∀ (j : Nat) w m, (ρ.set i (some (md r)))[j]? = some (some (w, m)) → (i ≠ j ∧ ρ[j]? = some (some (w, m)) ∧ (σ.set i (some v))[j]? = σ[j]?) ∨ (i = j ∧ some (md r) = some (w, m) ∧ (σ.set i (some v))[j]? = some (some v)) := by
    intro j w m hj
    by_cases e : i = j
    · subst e
      have hi : i < ρ.length := by
        have := (List.getElem?_eq_some_iff.mp hj).1
        rwa [List.length_set] at this
      rw [List.getElem?_set_self hi] at hj
      exact .inr ⟨rfl, Option.some.inj hj, List.getElem?_set_self (by rw [← a.e.len]; exact hi)⟩
    · rw [List.getElem?_set_ne e] at hj
      exact .inl ⟨e, hj, List.getElem?_set_ne e⟩
  have rep : ∀ w m, some (md r) = some (w, m) → RepM K α Z H m v w := by
    intro w m h
    obtain ⟨e1, e2, e3⟩ := md_mut h
    subst e1
    cases hm : r.1.mut with
    | true => rw [← e2 hm]; exact f.rep
    | false => exact .im hm (f.rep.repI hm)
  refine ⟨a.w, a.k, ⟨by rw [List.length_set, List.length_set]; exact a.e.len, fun j w m hj => ?_, fun j j' w w' m' hne h1 h2 h3 h4 => ?_⟩, fun j w hj hm b hb => ?_⟩
  · rcases get j w m hj with ⟨_, h1, h2⟩ | ⟨_, h1, h2⟩
    · rw [h2]; exact a.e.slot j w m h1
    · exact ⟨v, h2, rep w m h1⟩
  · rcases get j w _ h1 with ⟨n1, g1, s1⟩ | ⟨n1, g1, s1⟩ <;> rcases get j' w' m' h3 with ⟨n2, g2, s2⟩ | ⟨n2, g2, s2⟩
    · rw [s1, s2]; exact a.e.sep j j' w w' m' hne g1 h2 g2 h4
    · rw [s1, s2]
      obtain ⟨e1, e2, _⟩ := md_mut g2
      subst e1
      obtain ⟨u, q1, q2⟩ := a.e.slot j w _ g1
      intro e
      rw [q1] at e
      cases e
      cases q2 with
      | im e _ => rw [h2] at e; cases e
      | mu c0 c1 c2 c3 c4 c5 =>
        have c4 := c4 rfl
        obtain ⟨fr, ff⟩ := f
        have key : r.2 = .own ∨ r.2 = .frz ∨ r.2 = .brw := by cases r.2 <;> simp
        rcases key with k | k | k
        · exact (ff k h4 _ rfl).2 j w _ g1 h2 q1
        · rw [k] at fr
          cases fr with
          | im e _ => rw [h4] at e; cases e
          | mu d0 d1 d2 d3 d4 d5 => exact c4 (d5 rfl)
        · unfold sto at hs
          rw [h4, k] at hs
          cases hs
    · rw [s1, s2]
      obtain ⟨e1, e2, _⟩ := md_mut g1
      subst e1
      intro e
      obtain ⟨u, q1, q2⟩ := a.e.slot j' w' m' g2
      rw [q1] at e
      cases e
      have k := e2 h2
      cases q2 with
      | im e _ => rw [h4] at e; cases e
      | mu c0 c1 c2 c3 c4 c5 => exact (f.fr k h2 _ rfl).2 j' w' m' g2 h4 q1
    · exact absurd (n1.symm.trans n2) hne
  · rcases get j w _ hj with ⟨n1, g1, s1⟩ | ⟨n1, g1, s1⟩
    · rw [s1] at hb; exact a.o j w g1 hm b hb
    · obtain ⟨e1, e2, _⟩ := md_mut g1
      subst e1
      rw [s1] at hb
      cases hb
      exact (f.fr (e2 hm) hm _ rfl).1
theorem g_name {X : Cx} (i : Nat) {x : Str} {pos : Pos} (hN : X.N.Nodup) (hi : X.N[i]? = some x := by rfl) (hx : Loc X.env.scope x := by first | exact Or.inl rfl | exact Or.inr rfl)
    (hf : X.fn x = true ∨ X.env.scope.names.lookup x = some .local := by first | exact .inl rfl | exact .inr rfl) : EG X (.Name x pos) [i] (tName i) :=
  PG.cons (pg_name hN hi hx hf) fun v σ H Q ⟨B, ρ, S, α, Z, r, ρ', at_, ft, h, q⟩ => by
    unfold tName at h
    split at h
    · rename_i hs
      cases h
      exact q _ (at_.set i ft hs) ⟨List.length_set, fun j hj => List.getElem?_set_ne (fun e => hj (by simp [e]))⟩
    · cases h
def tNil : List W → Env → Option Env := fun ws ρ => match ws with
  | [] => some ρ
  | _ :: _ => none
def tCons (t : CG) (u : List W → Env → Option Env) : List W → Env → Option Env := fun ws ρ => match ws with
  | [] => none
  | w :: ws => (t (w, .frz) ρ).bind (u ws)
theorem gs_nil {X : Cx} : EGs X [] [] tNil := PGs.cons pgs_nil fun vs σ H Q ⟨B, ρ, S, α, Z, ws, ρ', at_, rl, h, q⟩ => by
  cases rl with
  | nil => cases h; exact ⟨rfl, q σ at_ ⟨rfl, fun _ _ => rfl⟩⟩
  | cons => cases h
theorem Fits.frz {K : KW} {B : Bs} {ρ : Env} {S : Store} {σ : L2.St} {H : Hp} {α : List Addr} {Z : Addr → Prop} {w : W} {v : V} (o : WOk K H S α Z) (r : Rep K α Z H v w) : Fits K B ρ σ H α Z (w, .frz) v := ⟨r.toM o, fun e => by cases e⟩
theorem gs_cons {X : Cx} {e : Expr} {es : List Expr} {i1 i2 : List Nat} {t : CG} {u : List W → Env → Option Env} (h1 : EG X e i1 t) (h2 : EGs X es i2 u)
    (hs : (assignEach (e :: es) X.env).map (·.2) = assign e X.env :: (assignEach es X.env).map (·.2) := by rfl) : EGs X (e :: es) (i1 ++ i2) (tCons t u) :=
  PGs.cons (pgs_cons h1 h2 hs) fun vs σ H Q ⟨B, ρ, S, α, Z, ws, ρ', at_, rl, h, q⟩ => by
    cases rl with
    | nil => cases h
    | cons r rl =>
      obtain ⟨ρ1, e1, e2⟩ := Option.bind_eq_some_iff.mp h
      exact ⟨_, _, rfl, B, ρ, S, α, Z, _, ρ1, at_, Fits.frz at_.w r, e1, fun σ1 at1 sl1 => ⟨B, ρ1, S, α, Z, _, ρ', at1, rl, e2, fun σ2 at2 sl2 => q σ2 at2 ⟨sl2.1.trans sl1.1, fun j hj => (sl2.2 j fun h => hj (List.mem_append_right _ h)).trans (sl1.2 j fun h => hj (List.mem_append_left _ h))⟩⟩⟩
def tTup (n : Nat) (t : List W → Env → Option Env) : CG := fun r ρ => match r.1 with
  | .tup ws => if ws.length = n then t ws ρ else none
  | _ => none
theorem g_tup {X : Cx} {es : List Expr} {k : Nat} {pos : Pos} {is : List Nat} {t : List W → Env → Option Env} {n : Nat} (hc : X.calm = true) (h : EGs X es is t) (hn : (assignEach es X.env).length = n := by rfl) (hst : (assignEach es X.env).findIdx? (·.1) = none := by rfl) :
    EG X (.Tuple es k pos) is (tTup n t) := PG.cons (pg_tup hc h hn hst) fun v σ H Q ⟨B, ρ, S, α, Z, r, ρ', at_, ft, h, q⟩ => by
  obtain ⟨w, m⟩ := r
  cases w with
  | tup ws =>
    have h : (if ws.length = n then t ws ρ else none) = some ρ' := h
    split at h
    · rename_i hl
      obtain ⟨a, xs, rfl, ha, rl⟩ := ft.rep.ofTup
      exact ⟨a, xs, rfl, .of ha, rl.length.trans hl, B, ρ, S, α, Z, ws, ρ', at_, rl, h, q⟩
    · cases h
  | _ => cases h
def cAsg (t : CG) (fe : CE) : CS := fun ρ S => bnd (fe ρ S) fun r S => (t r ρ).map fun ρ' => .nx ρ' S
theorem Got.fits {K : KW} {B : Bs} {ρ : Env} {S : Store} {σ : L2.St} {H H' : Hp} {α α' : List Addr} {Z Z' : Addr → Prop} {r : Wm} {v : V} (a : At K B ρ S σ H α Z) (g : Got K H α' Z' H' r v) : Fits K B ρ σ H' α' Z' r v :=
  ⟨g.rep, fun e1 e2 b e3 => by
    have hb := g.fr e1 e2 b e3
    refine ⟨a.k.d b hb, fun j w m hj hm hσ => ?_⟩
    obtain ⟨u, q1, q2⟩ := a.e.slot j w m hj
    rw [hσ] at q1
    cases q1
    cases q2 with
    | im e _ => rw [hm] at e; cases e
    | mu c0 => rw [hb] at c0; cases c0⟩
theorem s_asg {X : Cx} {tg e : Expr} {fe : CE} {is : List Nat} {t : CG} {pos : Pos} (hg : EG X tg is t) (he : EE X e fe) (hs : swapsWithSole [tg] e pos.line X.env = pure false := by rfl) (hw : swappedStores [tg] e X.env = pure none := by rfl)
    (h1 : (assignEach [tg] X.env).map (·.2) = [assign tg X.env] := by rfl) : ES X (.Assign [tg] e pos) (cAsg t fe) := PS.cons (ps_asg he hg hs hw h1) fun D σ H ⟨B, ρ, S, o, ⟨α, Z, at_⟩, h, q⟩ => by
  obtain ⟨r, S1, h1, h⟩ := of_bnd h
  obtain ⟨ρ', e1, rfl⟩ := Option.map_eq_some_iff.mp h
  exact ⟨ρ, S, α, Z, r, S1, at_.w, at_.e, h1, fun v H1 α1 Z1 k1 w1 g => ⟨B, ρ, S1, α1, Z1, r, ρ', at_.go k1 w1, g.fits at_, e1, fun σ' at' _ => q σ' H1 ⟨α1, Z1, at'⟩⟩⟩
/-- name op= e, by an operator that makes ints -/
def cAug (i : Nat) (g : W → W → Option W) (fe : CE) : CS := fun ρ S => bnd (fe ρ S) fun r S => match ρ[i]? with
  | some (some (w, _)) => (match g w r.1 with
    | some (.int z) => some (.nx (ρ.set i (some (.int z, .frz))) S)
    | _ => none)
  | _ => none
def gMulA : W → W → Option W := gMul
theorem s_augR {X : Cx} (i : Nat) {x : Str} {e : Expr} {fe : CE} {op : Operator} {g : W → W → Option W} {ti : TIp} {pos pos' : Pos} (hN : X.N.Nodup) (he : EE X e fe) (ho : PIp X op ti)
    (hg : ∀ a b z, g a b = some (.int z) → ∃ i j, a = .int i ∧ b = .int j ∧ ∀ H (Q : VK), Q (.int z) H → ti (.int i) (.int j) H Q) (hi : X.N[i]? = some x := by rfl) (hx : Loc X.env.scope x := by first | exact Or.inl rfl | exact Or.inr rfl)
    (hf : X.fn x = true ∨ X.env.scope.names.lookup x = some .local := by first | exact .inl rfl | exact .inr rfl) : ES X (.AugAssign (.Name x pos') op e pos) (cAug i g fe) :=
  PS.cons (ps_aug hN hi hx he ho hf) fun D σ H ⟨B, ρ, S, o, ⟨α, Z, at_⟩, h, q⟩ => by
    obtain ⟨r, S1, h1, h⟩ := of_bnd h
    split at h
    · rename_i w m hr
      split at h
      · rename_i z hz
        cases h
        obtain ⟨a, b, rfl, eb, hq⟩ := hg _ _ _ hz
        obtain ⟨v, e1, r1⟩ := at_.e.slot i _ m hr
        refine ⟨v, e1, ρ, S, α, Z, r, _, at_.w, at_.e, h1, fun v1 H1 α1 Z1 k1 w1 g => ?_⟩
        obtain ⟨rw_, rm⟩ := r
        dsimp only at eb
        subst eb
        rw [r1.ofInt, g.rep.ofInt]
        refine hq _ _ (q _ _ ⟨α1, Z1, ?_⟩)
        exact (at_.go k1 w1).set (r := (.int z, .frz)) i ⟨.im rfl (.int z), fun e => by cases e⟩ rfl
      · cases h
    · cases h
def gAddI : W → W → Option W := fun a b => match a, b with | .int i, .int j => some (.int (i + j)) | _, _ => none
theorem s_augAdd {X : Cx} (i : Nat) {x : Str} {e : Expr} {fe : CE} {pos pos' : Pos} (hN : X.N.Nodup) (he : EE X e fe) (hi : X.N[i]? = some x := by rfl) (hx : Loc X.env.scope x := by first | exact Or.inl rfl | exact Or.inr rfl)
    (hf : X.fn x = true ∨ X.env.scope.names.lookup x = some .local := by first | exact .inl rfl | exact .inr rfl) : ES X (.AugAssign (.Name x pos') .Add e pos) (cAug i gAddI fe) :=
  s_augR i hN he ip_add (fun a b z h => by
    unfold gAddI at h
    split at h
    · cases h; exact ⟨_, _, rfl, rfl, fun H Q q => ⟨_, _, rfl, rfl, q⟩⟩
    · cases h) hi hx hf

/-! ### what is walked -/
def OwnRoot (ρ : Env) (σ : L2.St) (a : Addr) : Prop := ∃ (i : Nat) (w : W), ρ[i]? = some (some (w, Md.own)) ∧ w.mut = true ∧ σ[i]? = some (some (.ref a))
open Classical in
/-- the heap without what this frame may write -/
noncomputable def hide (ρ : Env) (σ : L2.St) (H : Hp) : Hp := fun a => if OwnRoot ρ σ a then none else H a
section
variable {K : KW} {α α' : List Addr} {Z Z' : Addr → Prop} {H H' : Hp} {S S' : Store} {ρ : Env} {σ : L2.St} {B : Bs}
theorem hide_some {a : Addr} {o : HO} (h : H a = some o) (n : ¬ OwnRoot ρ σ a) : hide ρ σ H a = some o := by unfold hide; rw [if_neg n]; exact h
theorem of_hide {a : Addr} {o : HO} (h : hide ρ σ H a = some o) : H a = some o ∧ ¬ OwnRoot ρ σ a := by
  unfold hide at h
  split at h
  · cases h
  · rename_i n; exact ⟨h, n⟩
theorem hide_none {a : Addr} (h : hide ρ σ H a = none) : H a = none ∨ OwnRoot ρ σ a := by
  unfold hide at h
  split at h
  · rename_i n; exact .inr n
  · exact .inl h
theorem hide_none' {a : Addr} (h : H a = none) : hide ρ σ H a = none := by
  unfold hide; split <;> first | rfl | exact h
theorem EnvOk.root (e : EnvOk K α Z H ρ σ) {a : Addr} (r : OwnRoot ρ σ a) : ∃ o w xs ws, H a = some o ∧ Shape K H a o w xs ws ∧ a ∉ α ∧ ¬ Z a := by
  obtain ⟨i, w, h1, h2, h3⟩ := r
  obtain ⟨v, e1, r1⟩ := e.slot i w _ h1
  obtain ⟨p, o, xs, ws, rfl, h0, s, rl, hn, c1, c2⟩ := r1.muE h2
  rw [h3] at e1
  cases e1
  exact ⟨o, w, xs, ws, h0, s, hn, c1 rfl⟩
mutual
theorem Rep.there (ht : ∀ a xs, H a = some (.tup xs) → H' a = some (.tup xs)) (hz : ∀ a o, Z a → H a = some o → H' a = some o) (hf : ∀ a o u, H a = some (.frz o u) → a ∉ α → H' a = some (.frz o u)) : ∀ {v : V} {w : W}, Rep K α Z H v w → Rep K α Z H' v w
  | _, _, .non => .non
  | _, _, .bl b => .bl b
  | _, _, .int i => .int i
  | _, _, .str x => .str x
  | _, _, .ty n => .ty n
  | _, _, .tup h r => .tup (ht _ _ h) (RepL.there ht hz hf r)
  | _, _, .mu h z s r => .mu (hz _ _ z h) z (s.mono ht) (RepL.there ht hz hf r)
  | _, _, .scr h => .scr (by
      rcases h with ⟨o, h, n⟩ | h
      · exact .inl ⟨o, hf _ _ _ h n, n⟩
      · exact .inr h)
  | _, _, .cel h => .cel h
theorem RepL.there (ht : ∀ a xs, H a = some (.tup xs) → H' a = some (.tup xs)) (hz : ∀ a o, Z a → H a = some o → H' a = some o) (hf : ∀ a o u, H a = some (.frz o u) → a ∉ α → H' a = some (.frz o u)) : ∀ {vs : List V} {ws : List W}, RepL K α Z H vs ws → RepL K α Z H' vs ws
  | _, _, .nil => .nil
  | _, _, .cons r t => .cons (Rep.there ht hz hf r) (RepL.there ht hz hf t)
end
theorem EnvOk.hideT (e : EnvOk K α Z H ρ σ) (a : Addr) (xs : List V) (h : H a = some (.tup xs)) : hide ρ σ H a = some (.tup xs) := hide_some h fun q => by
    obtain ⟨o, w, xs', ws', h0, s, _⟩ := e.root q
    rw [h] at h0; cases h0; exact s.ntup _ rfl
theorem EnvOk.hideL (e : EnvOk K α Z H ρ σ) {vs : List V} {ws : List W} (r : RepL K α Z H vs ws) : RepL K α Z (hide ρ σ H) vs ws :=
  r.there e.hideT (fun a o z h => hide_some h fun q => by
    obtain ⟨o, w, xs', ws', h0, s, _, n⟩ := e.root q
    exact n z) (fun a o u h _ => hide_some h fun q => by
    obtain ⟨o, w, xs', ws', h0, s, _⟩ := e.root q
    rw [h] at h0; cases h0; exact s.opn _ _ rfl)
theorem EnvOk.hideW (e : EnvOk K α Z H ρ σ) (w : WOk K H S α Z) : WOk K (hide ρ σ H) S α Z :=
  ⟨w.nd, Paired.impM w.cells fun a ws ha c => c.to (fun o h => hide_some h fun q => by
    obtain ⟨o, w, xs', ws', h0, s, n, _⟩ := e.root q
    exact n ha) e.hideT fun _ _ r => e.hideL r, w.zα, fun a z h => by
    rcases hide_none h with h | q
    · exact w.zH a z h
    · obtain ⟨o, w, xs', ws', h0, s, _, n⟩ := e.root q
      exact n z⟩
theorem Keep.unhide : Keep (hide ρ σ H) α Z H α Z := ⟨⟨[], by simp, by simp⟩, fun a o h _ => (of_hide h).1, fun a h => hide_none' h, fun _ h => h, fun _ h => .inl h, fun a o u h => (of_hide h).1⟩
theorem At.keepHide (a : At K B ρ S σ H α Z) : Keep B.H B.α B.Z (hide ρ σ H) α Z := by
  have nr : ∀ b, B.H b ≠ none → ¬ OwnRoot ρ σ b := fun b hb q => by
    obtain ⟨i, w, h1, h2, h3⟩ := q
    exact hb (a.o i w h1 h2 b h3)
  refine ⟨a.k.al, fun b o h hn => hide_some (a.k.h b o h hn) (nr b (by rw [h]; simp)), fun b h => ?_, a.k.z, a.k.z', fun b o u h => hide_some (a.k.f b o u h) (nr b (by rw [h]; simp))⟩
  rcases hide_none h with h | ⟨i, w, h1, h2, h3⟩
  · exact a.k.d b h
  · exact a.o i w h1 h2 b h3
theorem At.rebase (a : At K B ρ S σ H α Z) : At K ⟨hide ρ σ H, α, Z⟩ ρ S σ H α Z :=
  ⟨a.w, Keep.unhide, a.e, fun i w h1 h2 b h3 => by
    show hide ρ σ H b = none
    unfold hide
    exact if_pos ⟨i, w, h1, h2, h3⟩⟩
/-- what stands over the narrower base stands over the wider -/
theorem SOk.wide {ρ' : Env} {S1 : Store} {σ' : L2.St} (a : At K B ρ S σ H α Z) (s : SOk K ⟨hide ρ σ H, α, Z⟩ ρ' S1 σ' H') : SOk K B ρ' S1 σ' H' := by
  obtain ⟨α1, Z1, b⟩ := s
  exact ⟨α1, Z1, b.w, a.keepHide.trans b.k, b.e, fun i w h1 h2 c h3 => a.keepHide.d c (b.o i w h1 h2 c h3)⟩
end
def Walks (K : KW) (J : It) (ws : List W) (H1 : Hp) (α1 : List Addr) (Z1 : Addr → Prop) : Prop := ∀ H α Z S, Keep H1 α1 Z1 H α Z → WOk K H S α Z → ∀ i,
  (∀ w, ws[i]? = some w → J.go i H ∧ ∀ x H', J.yld i H x H' → (H' = H ∨ ∃ p u, H p = none ∧ H' = upd H p u) ∧ Rep K α Z H' x w) ∧ (i = ws.length → J.stop i H)
abbrev CI := Env → Store → Option (List W × Store)
def semI (K : KW) (f : CI) : TI := fun σ H R => ∃ ρ S α Z ws S', WOk K H S α Z ∧ EnvOk K α Z H ρ σ ∧ f ρ S = some (ws, S') ∧
  ∀ J H1 α1 Z1, Keep H α Z H1 α1 Z1 → WOk K H1 S' α1 Z1 → Walks K J ws (hide ρ σ H1) α1 Z1 → R J H1
abbrev EI (X : Cx) (tg it : Expr) (f : CI) : Prop := PI X tg it (semI X.kw f)
theorem PI.cons {X : Cx} {tg it : Expr} {t t' : TI} (h : PI X tg it t) (i : ∀ σ H Q, t' σ H Q → t σ H Q) : PI X tg it t' := ⟨fun pins s σ H R I q => h.run pins s σ H R I (i σ H R q)⟩
section
variable {X : Cx} {K : KW} {α : List Addr} {Z : Addr → Prop} {H : Hp} {S : Store} {ρ : Env} {σ : L2.St} {a : Addr} {xs : List V} {ws : List W} {tg it : Expr}
theorem walks_list (w : WOk K H S α Z) (e : EnvOk K α Z H ρ σ) (h : H a = some (.lst xs)) (hn : a ∉ α) (no : ¬ OwnRoot ρ σ a) (r : RepL K α Z H xs ws) : Walks K (Itl K.K a) ws (hide ρ σ H) α Z := by
  intro H2 α2 Z2 S2 k w2 i
  have h2 : H2 a = some (.lst xs) := k.h _ _ (hide_some h no) hn
  have r2 : RepL K α2 Z2 H2 xs ws := (e.hideL r).keep (e.hideW w) k
  refine ⟨fun u hu => ?_, fun hu => ⟨xs, .of h2, by rw [r2.length, hu]; exact Nat.le_refl _⟩⟩
  obtain ⟨v, hv, rv⟩ := r2.get hu
  refine ⟨⟨xs, v, .of h2, hv⟩, fun x H' y => ?_⟩
  obtain ⟨rfl, y⟩ := y
  have := y xs (.of h2)
  rw [hv] at this
  cases this
  exact ⟨.inl rfl, rv⟩
theorem walks_tup (w : WOk K H S α Z) (e : EnvOk K α Z H ρ σ) (h : H a = some (.tup xs)) (r : RepL K α Z H xs ws) : Walks K (Itt K.K a) ws (hide ρ σ H) α Z := by
  intro H2 α2 Z2 S2 k w2 i
  have hh : hide ρ σ H a = some (.tup xs) := hide_some h fun q => by
    obtain ⟨o, w, xs', ws', h0, s, _⟩ := e.root q
    rw [h] at h0; cases h0; exact s.ntup _ rfl
  have h2 : H2 a = some (.tup xs) := k.tup (e.hideW w).noTup hh
  have r2 : RepL K α2 Z2 H2 xs ws := (e.hideL r).keep (e.hideW w) k
  refine ⟨fun u hu => ?_, fun hu => ⟨xs, .of h2, by rw [r2.length, hu]; exact Nat.le_refl _⟩⟩
  obtain ⟨v, hv, rv⟩ := r2.get hu
  refine ⟨⟨xs, v, .of h2, hv⟩, fun x H' y => ?_⟩
  obtain ⟨rfl, y⟩ := y
  have := y xs (.of h2)
  rw [hv] at this
  cases this
  exact ⟨.inl rfl, rv⟩
def rangeW (lo : Int) (n : Nat) : List W := (List.range n).map fun i => .int (lo + (i : Nat))
theorem rangeW_get (lo : Int) (n i : Nat) : (rangeW lo n)[i]? = if i < n then some (.int (lo + (i : Nat))) else none := by
  unfold rangeW
  rw [List.getElem?_map]
  split
  · rename_i h; rw [List.getElem?_range h]; rfl
  · rename_i h; rw [List.getElem?_eq_none (by simpa using h)]; rfl
theorem walks_range (lo : Int) (n : Nat) : Walks K (Itr lo n) (rangeW lo n) H α Z := by
  intro H2 α2 Z2 S2 k w2 i
  rw [rangeW_get]
  refine ⟨fun u hu => ?_, fun hu => ?_⟩
  · split at hu
    · rename_i hi
      cases hu
      refine ⟨hi, fun x H' y => ?_⟩
      obtain ⟨rfl, rfl⟩ := y
      exact ⟨.inl rfl, .int _⟩
    · cases hu
  · unfold rangeW at hu
    rw [List.length_map, List.length_range] at hu
    exact Nat.le_of_eq hu.symm
/-- an item's source: which of the two -/
theorem PI.or {t u : TI} (h1 : PI X tg it t) (h2 : PI X tg it u) : PI X tg it (fun σ H R => t σ H R ∨ u σ H R) := ⟨fun pins s σ H R I q => by
  rcases q with q | q
  · exact h1.run pins s σ H R I q
  · exact h2.run pins s σ H R I q⟩
def itemsOf : W → Option (List W)
  | .tup ws => some ws
  | .lst ws => some ws
  | _ => none
/-- for x in e, e no bare name: what came is nobody's -/
def iExp (f : CE) : CI := fun ρ S => bnd (f ρ S) fun r S => if sto r = true then (itemsOf r.1).map fun ws => (ws, S) else none
/-- for x in a name's list (which the loop does not write) -/
def iVar (i : Nat) : CI := fun ρ S => match ρ[i]? with
  | some (some (w, m)) => if w.mut = true ∧ m = .own then none else (itemsOf w).map fun ws => (ws, S)
  | _ => none
theorem i_exp {e : Expr} {f : CE} (h : EE X e f) : EI X tg e (iExp f) := PI.cons (PI.or (pi_list (tg := tg) h) (pi_tup (tg := tg) h)) fun σ H R ⟨ρ, S, α, Z, ws, S', wo, en, h, q⟩ => by
  obtain ⟨r, S1, h1, h⟩ := of_bnd h
  split at h
  · rename_i hs
    obtain ⟨ws', hw, e⟩ := Option.map_eq_some_iff.mp h
    cases e
    obtain ⟨w, m⟩ := r
    cases w with
    | tup us =>
      cases hw
      refine .inr ⟨ρ, S, α, Z, _, _, wo, en, h1, fun v H1 α1 Z1 k w g => ?_⟩
      obtain ⟨a, xs, rfl, h0, rl⟩ := g.rep.ofTup
      exact ⟨a, rfl, ⟨xs, .of h0⟩, q _ _ _ _ k w (walks_tup w (en.keep wo k) h0 rl)⟩
    | lst us =>
      cases hw
      refine .inl ⟨ρ, S, α, Z, _, _, wo, en, h1, fun v H1 α1 Z1 k w g => ?_⟩
      obtain ⟨a, xs, rfl, h0, rl, hn, c1, c2⟩ := g.rep.ofLst
      refine ⟨a, rfl, ⟨xs, .of h0⟩, q _ _ _ _ k w (walks_list w (en.keep wo k) h0 hn (fun ro => ?_) rl)⟩
      cases m with
      | own =>
        have := g.fr rfl rfl a rfl
        obtain ⟨o, _, _, _, h0', _⟩ := en.root ro
        rw [this] at h0'; cases h0'
      | frz =>
        obtain ⟨o, _, _, _, _, _, _, nz⟩ := (en.keep wo k).root ro
        exact nz (c2 rfl)
      | brw => cases hs
    | _ => cases hw
  · cases h
theorem i_var (i : Nat) {x : Str} {pos : Pos} (hN : X.N[i]? = some x := by rfl) (hv : Vis X.env.scope x := by first | exact Or.inl rfl | exact Or.inr (Or.inl rfl) | exact Or.inr (Or.inr rfl)) (hd : (x == ("__debug__" : Str)) = false := by decide)
    (hcd : (x == ("__classdict__" : Str)) = false := by decide) : EI X tg (.Name x pos) (iVar i) := PI.cons (PI.or (pi_list (tg := tg) (pe_var hN hv hd hcd)) (pi_tup (tg := tg) (pe_var hN hv hd hcd))) fun σ H R ⟨ρ, S, α, Z, ws, S', wo, en, h, q⟩ => by
  unfold iVar at h
  split at h
  · rename_i w m hr
    split at h
    · cases h
    · rename_i hno
      obtain ⟨ws', hw, e⟩ := Option.map_eq_some_iff.mp h
      cases e
      obtain ⟨v, e1, r1⟩ := en.slot i w m hr
      cases w with
      | tup us =>
        cases hw
        obtain ⟨a, xs, rfl, h0, rl⟩ := r1.ofTup
        exact .inr ⟨_, e1, a, rfl, ⟨xs, .of h0⟩, q _ _ _ _ Keep.refl wo (walks_tup wo en h0 rl)⟩
      | lst us =>
        cases hw
        obtain ⟨a, xs, rfl, h0, rl, hn, c1, c2⟩ := r1.ofLst
        refine .inl ⟨_, e1, a, rfl, ⟨xs, .of h0⟩, q _ _ _ _ Keep.refl wo (walks_list wo en h0 hn (fun ro => ?_) rl)⟩
        obtain ⟨j, w', g1, g2, g3⟩ := ro
        by_cases hij : j = i
        · subst hij
          rw [hr] at g1
          cases g1
          exact hno ⟨rfl, rfl⟩
        · exact en.sep j i w' _ m hij g1 g2 hr rfl (g3.trans e1.symm)
      | _ => cases hw
  · cases h
def iRange1 (f : CE) : CI := fun ρ S => bnd (f ρ S) fun r S => match r.1 with
  | .int j => if j.natAbs < 1073741824 then some (rangeW 0 j.toNat, S) else none
  | _ => none
def iRange2 (f g : CE) : CI := fun ρ S => bnd (f ρ S) fun a S => bnd (g ρ S) fun b S => match a.1, b.1 with
  | .int i, .int j => if i.natAbs < 1073741824 ∧ j.natAbs < 1073741824 then some (rangeW i (j - i).toNat, S) else none
  | _, _ => none
theorem i_range1 {e : Expr} {f : CE} {p pos : Pos} (hm : X.mg "range" = none) (h : EE X e f) (hg : Gl X "range" := by rfl) (hs : starEach [e] X.env = [(false, eval e X.env)] := by rfl) (hs2 : starEach (e :: []) X.env = (false, eval e X.env) :: starEach [] X.env := by rfl) : EI X tg (.Call (.Name "range" p) [e] [] pos) (iRange1 f) :=
  PI.cons (pi_range1 hg hm (a_cons h a_nil hs2) hs) fun σ H R ⟨ρ, S, α, Z, ws, S', wo, en, h, q⟩ => by
    obtain ⟨r, S1, h1, h⟩ := of_bnd h
    obtain ⟨w, m⟩ := r
    cases w with
    | int j =>
      have h : (if j.natAbs < 1073741824 then some (rangeW 0 j.toNat, S1) else none) = some (ws, S') := h
      split at h
      · rename_i hb
        cases h
        refine ⟨ρ, S, α, Z, _, _, wo, en, (by unfold cCons; rw [h1]; rfl), fun vs H1 α1 Z1 k w g => ?_⟩
        cases g with
        | cons g gt =>
          cases gt
          exact ⟨j, by rw [g.rep.ofInt], by omega, by omega, q _ _ _ _ k w (walks_range 0 _)⟩
      · cases h
    | _ => cases h
theorem i_range2 {e e2 : Expr} {f g : CE} {p pos : Pos} (hm : X.mg "range" = none) (h : EE X e f) (h2 : EE X e2 g) (hg : Gl X "range" := by rfl) (hs : starEach [e, e2] X.env = [(false, eval e X.env), (false, eval e2 X.env)] := by rfl) (hs2 : starEach [e2] X.env = [(false, eval e2 X.env)] := by rfl)
    (hs3 : starEach (e :: [e2]) X.env = (false, eval e X.env) :: starEach [e2] X.env := by rfl) (hs4 : starEach (e2 :: []) X.env = (false, eval e2 X.env) :: starEach [] X.env := by rfl) : EI X tg (.Call (.Name "range" p) [e, e2] [] pos) (iRange2 f g) :=
  PI.cons (pi_range2 hg hm (a_cons h (a_cons h2 a_nil hs4) hs3) hs hs2) fun σ H R ⟨ρ, S, α, Z, ws, S', wo, en, h, q⟩ => by
    obtain ⟨r, S1, h1, h⟩ := of_bnd h
    obtain ⟨r2, S2, h2, h⟩ := of_bnd h
    obtain ⟨w, m⟩ := r
    obtain ⟨w2, m2⟩ := r2
    cases w with
    | int i =>
      cases w2 with
      | int j =>
        have h : (if i.natAbs < 1073741824 ∧ j.natAbs < 1073741824 then some (rangeW i (j - i).toNat, S2) else none) = some (ws, S') := h
        split at h
        · rename_i hb
          cases h
          refine ⟨ρ, S, α, Z, _, _, wo, en, (by unfold cCons; rw [h1]; simp only [bnd_some]; rw [h2]; rfl), fun vs H1 α1 Z1 k w g => ?_⟩
          cases g with
          | cons g gt =>
            cases gt with
            | cons g2 gt =>
              cases gt
              exact ⟨i, j, by rw [g.rep.ofInt, g2.rep.ofInt], ⟨by omega, by omega, by omega, by omega⟩, q _ _ _ _ k w (walks_range i _)⟩
        · cases h
      | _ => cases h
    | _ => cases h
end

/-! ### for -/
def cForL (t : CG) (body : CS) : List W → Env → Store → Option SOut
  | [], ρ, S => some (.nx ρ S)
  | w :: ws, ρ, S => match t (w, .frz) ρ with
    | none => none
    | some ρ1 => match body ρ1 S with
      | some (.nx ρ2 S2) => cForL t body ws ρ2 S2
      | some (.ct ρ2 S2) => cForL t body ws ρ2 S2
      | some (.bk ρ2 S2) => some (.nx ρ2 S2)
      | some (.rt r S2) => some (.rt r S2)
      | none => none
def cFor (t : CG) (it : CI) (body : CS) : CS := fun ρ S => bnd (it ρ S) fun ws S => cForL t body ws ρ S
section
variable {X : Cx} {tg iter : Expr} {body : List Stmt} {is : List Nat} {t : CG} {it : CI} {f : CS} {pos : Pos}
/-- a turn's item, come -/
theorem At.item {K : KW} {B : Bs} {ρ : Env} {S : Store} {σ : L2.St} {H H' : Hp} {α : List Addr} {Z : Addr → Prop} (a : At K B ρ S σ H α Z) (h : H' = H ∨ ∃ p u, H p = none ∧ H' = upd H p u) : At K B ρ S σ H' α Z := by
  rcases h with rfl | ⟨p, u, hp, rfl⟩
  · exact a
  · exact a.go (Keep.new hp) (a.w.new hp)
theorem s_for (hc : X.calm = true) (hg : EG X tg is t) (hi : EI X tg iter it) (hb : ESs X body f) (hp : PassesOwn (model X.prog X.w) X.A X.env X.xe := by exact PassesOwn.never) (hs : ∀ x, foldedSetIterable iter X.env x = pure x := by intro _; rfl) : ES X (.For tg iter body [] pos) (cFor t it f) :=
  PS.cons (ps_for hp hc hi hg hb hs) fun D σ H ⟨B, ρ, S, o, ⟨α, Z, at_⟩, h, q⟩ => by
    obtain ⟨ws, S1, h1, h⟩ := of_bnd h
    refine ⟨ρ, S, α, Z, ws, S1, at_.w, at_.e, h1, fun J H1 α1 Z1 k w wk => ?_⟩
    have a1 := at_.go k w
    have rb := a1.rebase
    refine ⟨fun i m σ' H' => m = ws.length - i ∧ i ≤ ws.length ∧ ∃ ρ' S', SOk X.kw ⟨hide ρ σ H1, α1, Z1⟩ ρ' S' σ' H' ∧ cForL t f (ws.drop i) ρ' S' = some o, ⟨ws.length, by simp, Nat.zero_le _, ρ, S1, ⟨α1, Z1, rb⟩, h⟩, ?_⟩
    rintro i m σ' H' ⟨rfl, hi, ρ', S', ⟨α', Z', a'⟩, h'⟩
    obtain ⟨w1, w2⟩ := wk H' α' Z' S' a'.k a'.w i
    by_cases hlt : i < ws.length
    · have hw : ws[i]? = some ws[i] := List.getElem?_eq_getElem hlt
      obtain ⟨go, yl⟩ := w1 _ hw
      rw [List.drop_eq_getElem_cons hlt] at h'
      refine .inr ⟨go, fun σ2 H2 => ∃ ρ2 S2, SOk X.kw ⟨hide ρ σ H1, α1, Z1⟩ ρ2 S2 σ2 H2 ∧ cForL t f (ws.drop (i + 1)) ρ2 S2 = some o, fun σ2 H2 ⟨ρ2, S2, s2, e2⟩ => ⟨ws.length - (i + 1), by omega, rfl, hlt, ρ2, S2, s2, e2⟩, fun x H2 y => ?_⟩
      obtain ⟨ext, rx⟩ := yl x H2 y
      have a2 := a'.item ext
      unfold cForL at h'
      cases ht : t (ws[i], .frz) ρ' with
      | none => rw [ht] at h'; cases h'
      | some ρ3 =>
        rw [ht] at h'
        refine ⟨_, ρ', S', α', Z', _, ρ3, a2, Fits.frz a2.w rx, ht, fun σ3 a3 _ => ?_⟩
        dsimp only at h'
        cases hf : f ρ3 S' with
        | none => rw [hf] at h'; cases h'
        | some o1 =>
          rw [hf] at h'
          refine ⟨_, ρ3, S', o1, ⟨α', Z', a3⟩, hf, ?_⟩
          cases o1 with
          | nx ρ4 S4 => exact fun σ4 H4 s4 => ⟨ρ4, S4, s4, h'⟩
          | ct ρ4 S4 => exact fun σ4 H4 s4 => ⟨ρ4, S4, s4, h'⟩
          | bk ρ4 S4 =>
            cases h'
            exact fun σ4 H4 s4 => q σ4 H4 (s4.wide a1)
          | rt r S4 =>
            cases h'
            exact ⟨q.1, fun v H4 α4 Z4 k4 w4 g4 => q.2 v H4 α4 Z4 (a1.keepHide.trans k4) w4 (g4.back a1.keepHide.d)⟩
    · have e : ws.drop i = [] := List.drop_eq_nil_of_le (by omega)
      rw [e] at h'
      cases h'
      exact .inl ⟨w2 (by omega), q σ' H' (SOk.wide a1 ⟨α', Z', a'⟩)⟩
end

/-! ### list comprehensions -/
def wipeE (ρ : Env) : List Nat → Env
  | [] => ρ
  | v :: vs => (wipeE ρ vs).set v none
abbrev CC := Env → Store → Option (Bool × Store)
def lcL (t : CG) (c : CT) (f : CE) (ρ : Env) : List W → Store → Option (List W × Store)
  | [], S => some ([], S)
  | w :: ws, S => match t (w, .frz) ρ with
    | none => none
    | some ρ1 => bnd (c ρ1 S) fun b S1 => if b = true then bnd (f ρ1 S1) fun r S2 => if sto r = true then bnd (lcL t c f ρ ws S2) fun rs S3 => some (r.1 :: rs, S3) else none
        else lcL t c f ρ ws S1
def cLc (t : CG) (it : CI) (c : CT) (f : CE) (vs : List Nat) : CE := fun ρ S => bnd (it ρ S) fun ws S => if ws.length ≤ sizeLine then bnd (lcL t c f (wipeE ρ vs) ws S) fun rs S => some ((.lst rs, .own), S) else none
def tYesT : CT := fun _ S => some (true, S)
theorem wipeE_get {ρ : Env} {i : Nat} {x : Wm} : ∀ {vs : List Nat}, (wipeE ρ vs)[i]? = some (some x) → ρ[i]? = some (some x) ∧ i ∉ vs
  | [], h => ⟨h, by simp⟩
  | v :: vs, h => by
    unfold wipeE at h
    by_cases hi : v = i
    · subst hi
      by_cases hv : v < (wipeE ρ vs).length
      · rw [List.getElem?_set_self hv] at h; cases h
      · rw [List.getElem?_eq_none (by simpa using hv)] at h; cases h
    · rw [List.getElem?_set_ne hi] at h
      obtain ⟨h1, h2⟩ := wipeE_get h
      exact ⟨h1, by simp only [List.mem_cons, not_or]; exact ⟨fun e => hi e.symm, h2⟩⟩
theorem wipeE_len (ρ : Env) : ∀ vs : List Nat, (wipeE ρ vs).length = ρ.length
  | [] => rfl
  | v :: vs => by unfold wipeE; rw [List.length_set, wipeE_len ρ vs]
theorem wipe_out {σ : L2.St} {i : Nat} : ∀ {vs : List Nat}, i ∉ vs → (wipe σ vs)[i]? = σ[i]?
  | [], _ => rfl
  | v :: vs, h => by
    unfold wipe
    rw [List.getElem?_set_ne (fun e => h (by simp [e]))]
    exact wipe_out fun q => h (List.mem_cons_of_mem _ q)
theorem wipe_in {σ : L2.St} {i : Nat} (hl : i < σ.length) : ∀ {vs : List Nat}, i ∈ vs → (wipe σ vs)[i]? = some none
  | v :: vs, h => by
    unfold wipe
    by_cases e : v = i
    · subst e
      rw [List.getElem?_set_self (by rw [wipe_length]; exact hl)]
    · rw [List.getElem?_set_ne e]
      rcases List.mem_cons.mp h with q | q
      · exact absurd q.symm e
      · exact wipe_in hl q
theorem wipe_eq {σ σ2 : L2.St} {is vs : List Nat} (s : Slots is (wipe σ vs) σ2) (hs : ∀ j ∈ is, j ∈ vs) : wipe σ2 vs = wipe σ vs := by
  have hl : σ2.length = σ.length := s.1.trans (wipe_length σ vs)
  refine List.ext_getElem? fun i => ?_
  by_cases hi : i < σ.length
  · by_cases hv : i ∈ vs
    · rw [wipe_in (by rw [hl]; exact hi) hv, wipe_in hi hv]
    · rw [wipe_out hv, s.2 i fun q => hv (hs i q)]
  · rw [List.getElem?_eq_none (by rw [wipe_length, hl]; omega), List.getElem?_eq_none (by rw [wipe_length]; omega)]
theorem EnvOk.wipe {K : KW} {α : List Addr} {Z : Addr → Prop} {H : Hp} {ρ : Env} {σ : L2.St} (e : EnvOk K α Z H ρ σ) (vs : List Nat) : EnvOk K α Z H (wipeE ρ vs) (wipe σ vs) := by
  refine ⟨by rw [wipeE_len, wipe_length]; exact e.len, fun i w m h => ?_, fun i j w w' m' hne h1 h2 h3 h4 => ?_⟩
  · obtain ⟨q1, q2⟩ := wipeE_get h
    rw [wipe_out q2]; exact e.slot i w m q1
  · obtain ⟨q1, q2⟩ := wipeE_get h1
    obtain ⟨q3, q4⟩ := wipeE_get h3
    rw [wipe_out q2, wipe_out q4]; exact e.sep i j w w' m' hne q1 h2 q3 h4
abbrev ETs (X : Cx) (cs : List Expr) (f : CT) : Prop := PTs X cs (semT X.kw f)
theorem ts_nil {X : Cx} : ETs X [] tYesT := ⟨fun pins s σ H Q I h => pts_nil.run pins s σ H Q I (by
  obtain ⟨ρ, S, α, Z, b, S', wo, en, h, q⟩ := h
  cases h
  exact q H α Z Keep.refl wo)⟩
theorem ts_one {X : Cx} {c : Expr} {f : CT} (h : ET X c f) : ETs X [c] f := pts_one h
section
variable {X : Cx} {tg iter elt : Expr} {ifs : List Expr} {scope : Scope} {own : List (Str × Nat)} {is : List Nat} {t : CG} {it : CI} {c : CT} {f : CE} {pos : Pos}
theorem lc_ok {σ : L2.St} {H : Hp} {Q : VK} {vs : List Nat} (hs : ∀ j ∈ is, j ∈ vs) (h : semE X.kw (cLc t it c f vs) σ H Q) : tLc (semI X.kw it) (semG X.kw is t) (semT X.kw c) (semE X.kw f) vs σ H Q := by
  obtain ⟨ρ, S, α, Z, r', S', wo, en, h, q⟩ := h
  obtain ⟨ws, S1, h1, h⟩ := of_bnd h
  split at h
  · rename_i hsz
    obtain ⟨rs, S2, h2, h⟩ := of_bnd h
    cases h
    refine ⟨ρ, S, α, Z, ws, S1, wo, en, h1, fun J H1 α1 Z1 k w wk D hD => ?_⟩
    have en1 := en.keep wo k
    have k0 : Keep H1 α1 Z1 (upd H1 D (.lst [])) α1 Z1 := Keep.new hD
    have e2 : EnvOk X.kw α1 Z1 (upd H1 D (.lst [])) (wipeE ρ vs) (wipe σ vs) := (en1.keep w k0).wipe vs
    refine ⟨fun i m H' => m = ws.length - i ∧ i ≤ ws.length ∧ ∃ S3 α3 Z3 acc accW tl, H' D = some (.lst acc) ∧ acc.length ≤ i ∧ Keep H1 α1 Z1 (fun a => if a = D then none else H' a) α3 Z3 ∧ WOk X.kw H' S3 α3 Z3 ∧ ¬ Z3 D ∧ D ∉ α3 ∧ RepL X.kw α3 Z3 H' acc accW ∧
        lcL t c f (wipeE ρ vs) (ws.drop i) S3 = some (tl, S') ∧ rs = accW ++ tl, ⟨ws.length, by simp, Nat.zero_le _, S1, α1, Z1, [], [], rs, upd_same, Nat.le_refl _, ?_, w.new hD, w.nZ hD, w.nα hD, .nil, h2, rfl⟩, ?_⟩
    · have : (fun a => if a = D then none else upd H1 D (.lst []) a) = H1 := by
        funext a
        by_cases e : a = D
        · rw [if_pos e, e, hD]
        · rw [if_neg e, upd_ne e]
      rw [this]; exact Keep.refl
    rintro i m H' ⟨rfl, hi, S3, α3, Z3, acc, accW, tl, hacc, hal, kk, wo3, nz, nα, rl, hl, hrs⟩
    -- the world behind the start of the walk
    have kk' : Keep H1 α1 Z1 H' α3 Z3 := ⟨kk.al, fun a o h hn => by
      have := kk.h a o h hn
      split at this
      · cases this
      · exact this, fun a h => by
      refine kk.d a ?_
      show (if a = D then none else H' a) = none
      rw [h]; simp, kk.z, kk.z', fun a o u h => by
      have := kk.f a o u h
      split at this
      · cases this
      · exact this⟩
    have wk' := wk H' α3 Z3 S3 ((Keep.unhide (ρ := ρ) (σ := σ)).trans kk') wo3 i
    have en3 : EnvOk X.kw α3 Z3 H' (wipeE ρ vs) (wipe σ vs) := (en1.keep w kk').wipe vs
    by_cases hlt : i < ws.length
    · have hw : ws[i]? = some ws[i] := List.getElem?_eq_getElem hlt
      obtain ⟨go, yl⟩ := wk'.1 _ hw
      rw [List.drop_eq_getElem_cons hlt] at hl
      refine .inr ⟨go, fun H2 => i + 1 ≤ ws.length ∧ ∃ S3 α3 Z3 acc accW tl, H2 D = some (.lst acc) ∧ acc.length ≤ i + 1 ∧ Keep H1 α1 Z1 (fun a => if a = D then none else H2 a) α3 Z3 ∧ WOk X.kw H2 S3 α3 Z3 ∧ ¬ Z3 D ∧ D ∉ α3 ∧ RepL X.kw α3 Z3 H2 acc accW ∧
        lcL t c f (wipeE ρ vs) (ws.drop (i + 1)) S3 = some (tl, S') ∧ rs = accW ++ tl, fun H2 h2 => ⟨ws.length - (i + 1), by omega, rfl, h2⟩, fun x H2 y => ?_⟩
      obtain ⟨ext, rx⟩ := yl x H2 y
      have k4 : Keep H' α3 Z3 H2 α3 Z3 := by
        rcases ext with rfl | ⟨p, u, hp, rfl⟩
        · exact Keep.refl
        · exact Keep.new hp
      have w4 : WOk X.kw H2 S3 α3 Z3 := by
        rcases ext with rfl | ⟨p, u, hp, rfl⟩
        · exact wo3
        · exact wo3.new hp
      have en4 := en3.keep wo3 k4
      unfold lcL at hl
      cases ht : t (ws[i], .frz) (wipeE ρ vs) with
      | none => rw [ht] at hl; cases hl
      | some ρ1 =>
        rw [ht] at hl
        dsimp only at hl
        obtain ⟨b, S5, hb, hl⟩ := of_bnd hl
        -- the block's frame over what stands now
        have a4 : At X.kw ⟨hide (wipeE ρ vs) (wipe σ vs) H2, α3, Z3⟩ (wipeE ρ vs) S3 (wipe σ vs) H2 α3 Z3 := ⟨w4, Keep.unhide, en4, fun i w h1 h2 b h3 => by
          show hide _ _ H2 b = none
          unfold hide
          exact if_pos ⟨i, w, h1, h2, h3⟩⟩
        refine ⟨_, _, S3, α3, Z3, _, ρ1, a4, Fits.frz w4 rx, ht, fun σ2 a5 sl => ⟨wipe_eq sl hs, ρ1, S3, α3, Z3, b, S5, w4, a5.e, hb, fun H3 α5 Z5 k5 w5 => ?_⟩⟩
        -- D through a step
        have stay : ∀ {Ha Hb : Hp} {αa αb : List Addr} {Za Zb : Addr → Prop} {acc : List V}, Keep Ha αa Za Hb αb Zb → Ha D = some (.lst acc) → ¬ Za D → D ∉ αa → Hb D = some (.lst acc) ∧ ¬ Zb D ∧ D ∉ αb := fun {Ha Hb αa αb Za Zb acc} k h n1 n2 =>
          ⟨k.h _ _ h n2, (fun z => by
            rcases k.z' _ z with z | z
            · exact n1 z
            · rw [h] at z; cases z), k.notin h n2⟩
        obtain ⟨d4, nz4, nα4⟩ := stay k4 hacc nz nα
        obtain ⟨d5, nz5, nα5⟩ := stay k5 d4 nz4 nα4
        have keepD : ∀ {Hb : Hp} {αb : List Addr} {Zb : Addr → Prop}, Keep H' α3 Z3 Hb αb Zb → ¬ Zb D → D ∉ αb → Keep H1 α1 Z1 (fun a => if a = D then none else Hb a) αb Zb := fun {Hb αb Zb} k n1 n2 => by
          have kt := kk'.trans k
          refine ⟨kt.al, fun a o h hn => ?_, fun a h => ?_, kt.z, kt.z', fun a o u h => by
            show (if a = D then none else Hb a) = _
            by_cases e : a = D
            · rw [e] at h; rw [hD] at h; cases h
            · rw [if_neg e]; exact kt.f a o u h⟩
          · show (if a = D then none else Hb a) = some o
            by_cases e : a = D
            · rw [e] at h; rw [hD] at h; cases h
            · rw [if_neg e]; exact kt.h a o h hn
          · have h : (if a = D then none else Hb a) = none := h
            by_cases e : a = D
            · rw [e]; exact hD
            · rw [if_neg e] at h; exact kt.d a h
        cases b with
        | false =>
          rw [if_neg Bool.false_ne_true] at hl
          refine iteF ⟨hlt, S5, α5, Z5, acc, accW, tl, d5, Nat.le_succ_of_le hal, keepD (k4.trans k5) nz5 nα5, w5, nz5, nα5, (rl.keep wo3 k4).keep w4 k5, hl, hrs⟩
        | true =>
          rw [if_pos rfl] at hl
          obtain ⟨r, S6, hf, hl⟩ := of_bnd hl
          split at hl
          · rename_i hst
            obtain ⟨rs', S7, hl, he⟩ := of_bnd hl
            cases he
            refine iteT ⟨ρ1, S5, α5, Z5, r, S6, w5, a5.e.keep w4 k5, hf, fun v H6 α6 Z6 k6 w6 g6 => ?_⟩
            obtain ⟨d6, nz6, nα6⟩ := stay k6 d5 nz5 nα5
            obtain ⟨Z7, zz, k7, w7, r7⟩ := freeze_all (rs := [r]) (vs := [v]) w6 k6 (.cons g6 .nil) (by simp [hst])
            have nz7 : ¬ Z7 D := fun z => by
              rcases k7.z' _ z with z | z
              · exact nz5 z
              · rw [d5] at z; cases z
            refine ⟨acc, d6, Nat.lt_of_le_of_lt hal (Nat.lt_of_lt_of_le hlt hsz), hlt, S6, α6, Z7, acc ++ [v], accW ++ [r.1], rs', upd_same, by rw [List.length_append]; simp; exact hal, ?_, ?_, nz7, nα6, ?_, hl, by rw [hrs, List.append_assoc]; rfl⟩
            · have := keepD ((k4.trans k5).trans k7) nz7 nα6
              have e : (fun a => if a = D then none else upd H6 D (.lst (acc ++ [v])) a) = fun a => if a = D then none else H6 a := by
                funext a
                by_cases e : a = D
                · rw [if_pos e, if_pos e]
                · rw [if_neg e, if_neg e, upd_ne e]
              rw [e]; exact this
            · exact w7.put (Wr.of nz7 d6 (Shape.lst (K := X.kw) _ [])) nα6
            · exact RepL.put (Wr.of nz7 d6 (Shape.lst (K := X.kw) _ [])) ((((rl.keep wo3 k4).keep w4 k5).keep w5 k7).append r7)
          · cases hl
    · have e : ws.drop i = [] := List.drop_eq_nil_of_le (by omega)
      rw [e] at hl
      cases hl
      rw [List.append_nil] at hrs
      subst hrs
      exact .inl ⟨wk'.2 (by omega), q _ _ _ _ (k.trans kk') wo3 ⟨.mu hacc (.lst _ _) rl nα (fun _ => nz) (fun e => by cases e), fun _ _ a e => by cases e; exact k.d _ hD⟩⟩
  · cases h
end

section
variable {X : Cx} {tg iter elt : Expr} {ifs : List Expr} {scope : Scope} {own : List (Str × Nat)} {is : List Nat} {t : CG} {it : CI} {c : CT} {f : CE} {pos : Pos}
theorem e_lc (hc : X.calm = true) (hN : X.N.Nodup) (hi : EI X tg iter it) (ok : BlkOk X.N X.env.scope scope own) (hj : (is.all fun j => (own.map (·.2)).contains j) = true)
    (hg : ∀ (s : Shared) (H : Hp) (C : Addr) (cl : List (Str × Addr)) (fp : List Addr), EG (X.blk s H scope (compEnvC scope cl C X.env) fp) tg is t)
    (ht : ∀ (s : Shared) (H : Hp) (C : Addr) (cl : List (Str × Addr)) (fp : List Addr), ETs (X.blk s H scope (compEnvC scope cl C X.env) fp) ifs c)
    (he : ∀ (s : Shared) (H : Hp) (C : Addr) (cl : List (Str × Addr)) (fp : List Addr), EE (X.blk s H scope (compEnvC scope cl C X.env) fp) elt f) (hs : ∀ x, foldedSetIterable iter X.env x = pure x := by intro _; rfl) :
    EE X (.ListComp elt [⟨tg, iter, ifs, 0⟩] scope pos) (cLc t it c f (own.map (·.2))) :=
  PE.cons (pe_lc hc hN hi ok hg ht he hs) fun _ _ _ h => lc_ok (fun j hj' => by simpa using List.all_eq_true.mp hj j hj') h
theorem asg_name {K : KW} {f : CE} {i : Nat} {D : Ends} {σ : L2.St} {H : Hp} (h : semS K (cAsg (tName i) f) D σ H) : semE K f σ H fun x H1 => gName i x σ H1 D.nx := by
  obtain ⟨B, ρ, S, o, ⟨α, Z, at_⟩, h, q⟩ := h
  obtain ⟨r, S1, h1, h⟩ := of_bnd h
  obtain ⟨ρ', e1, rfl⟩ := Option.map_eq_some_iff.mp h
  refine ⟨ρ, S, α, Z, r, S1, at_.w, at_.e, h1, fun v H1 α1 Z1 k1 w1 g => ?_⟩
  unfold tName at e1
  split at e1
  · rename_i hs
    cases e1
    exact q _ H1 ⟨α1, Z1, (at_.go k1 w1).set i (g.fits at_) hs⟩
  · cases e1
theorem s_setLc {i : Nat} {y : Str} {py spos : Pos} (hc : X.calm = true) (hN : X.N.Nodup) (hi : EI X tg iter it) (ok : BlkOk X.N X.env.scope scope own) (hj : (is.all fun j => (own.map (·.2)).contains j) = true)
    (hg : ∀ (s : Shared) (H : Hp) (C : Addr) (cl : List (Str × Addr)) (fp : List Addr), EG (X.blk s H scope (compEnvC scope cl C X.env) fp) tg is t)
    (ht : ∀ (s : Shared) (H : Hp) (C : Addr) (cl : List (Str × Addr)) (fp : List Addr), ETs (X.blk s H scope (compEnvC scope cl C X.env) fp) ifs c)
    (he : ∀ (s : Shared) (H : Hp) (C : Addr) (cl : List (Str × Addr)) (fp : List Addr), EE (X.blk s H scope (compEnvC scope cl C X.env) fp) elt f)
    (hy : X.N[i]? = some y := by rfl) (hyl : X.env.scope.names.lookup y = some .local := by rfl) (hk : X.env.scope.kind = .function := by rfl) (hl : (py.line == pos.line) = true := by rfl)
    (ha : (scope.names.any fun (n, k) => n == y && (k == .local || k == .cell)) = false := by decide +kernel) (hs : ∀ x, foldedSetIterable iter X.env x = pure x := by intro _; rfl) :
    ES X (.Assign [.Name y py] (.ListComp elt [⟨tg, iter, ifs, 0⟩] scope pos) spos) (cAsg (tName i) (cLc t it c f (own.map (·.2)))) :=
  PS.cons (ps_setLc hc hN hy hyl (sw_true hk hyl hl ha) hi ok hg ht he hs) fun D σ H h => lc_ok (fun j hj' => by simpa using List.all_eq_true.mp hj j hj') (asg_name h)
end

/-! ### calls of defs -/
abbrev FnSem := List W → Store → Option (Wm × Store)
def spF (K : KW) (n : Nat) (m : FnSem) : Sp := fun vs H Q _ => ∃ ws S α Z r S', WOk K H S α Z ∧ ws.length = n ∧ Paired (fun v w => RepM K α Z H .brw v w) vs ws ∧ m ws S = some (r, S') ∧
  ∀ v H' α' Z', Keep H α Z H' α' Z' → WOk K H' S' α' Z' → Got K H α' Z' H' r v → Q v H'
def cFn (n N : Nat) (c : CS) : FnSem := fun ws S => if ws.length = n then (match c (ws.map (fun w => some (w, Md.brw)) ++ List.replicate (N - n) none) S with
  | some (.rt r S') => if sto r = true then some (r, S') else none
  | some (.nx _ S') => some ((.non, .own), S')
  | _ => none) else none
def cCall (m : FnSem) (fs : CA) : CE := fun ρ S => bnd (fs ρ S) fun rs S => m (rs.map (·.1)) S
section
variable {P : Program} {w : World} {K : PySem.W.Frag} {mg : Str → Option Value} {base : Heap}
theorem fn_ok {x qual : Str} {st : Stmt} {f : Addr} {fd : FuncData} {N ps : List Str} {k : Nat} {c : CS} (F : Fun K x qual st f fd) (sc : FnScope N ps (defScope st)) (hn : ps.length ≤ N.length)
    (hb : ∀ (cdv : Value) (A : Around) (outer : List PySem.Env) (s : Shared) (H : Hp) (E : XK), Room k (A.deeper (envOfC qual (defScope st) s.heap.objs.size f cdv)) → ESs (cxOf CX0 P w K mg base N qual (defScope st) f cdv A outer s H E).nox (defBody st) c) :
    FnOk P w K mg base CX0 (k + 1) f fd ps (spF ⟨K, w⟩ ps.length (cFn ps.length N.length c)) := by
  refine F.ok sc (fun vs H Q E h => ?_) (fun cdv A outer s H vs Q E hr h => ⟨_, hb cdv A outer s H E hr, ?_⟩)
  · obtain ⟨ws, S, α, Z, r, S', wo, hl, p, _⟩ := h
    rw [← hl]; exact Paired.length p
  · obtain ⟨ws, S, α, Z, r, S', wo, hl, p, h, q⟩ := h
    unfold cFn at h
    rw [if_pos hl] at h
    have slot : ∀ {vs : List V} {ws : List W} {i : Nat} {u : W} {m : Md}, Paired (fun v u => RepM ⟨K, w⟩ α Z H .brw v u) vs ws → (ws.map (fun w => some (w, Md.brw)))[i]? = some (some (u, m)) → ∃ v, (vs.map some)[i]? = some (some v) ∧ m = .brw ∧ RepM ⟨K, w⟩ α Z H .brw v u := by
      intro vs ws i u m p
      induction p generalizing i with
      | nil => intro h; simp at h
      | cons r t ih =>
        intro h
        cases i with
        | zero => simp at h; obtain ⟨rfl, rfl⟩ := h; exact ⟨_, rfl, rfl, r⟩
        | succ i => exact ih (by simpa using h)
    have get : ∀ (i : Nat) (u : W) (m : Md), (ws.map (fun w => some (w, Md.brw)) ++ List.replicate (N.length - ps.length) none)[i]? = some (some (u, m)) → ∃ v, (L2.start N vs)[i]? = some (some v) ∧ m = .brw ∧ RepM ⟨K, w⟩ α Z H .brw v u := by
      intro i u m h
      have hlv := Paired.length p
      by_cases hi : i < ws.length
      · rw [List.getElem?_append_left (by simpa using hi)] at h
        obtain ⟨v, e1, e2, e3⟩ := slot p h
        refine ⟨v, ?_, e2, e3⟩
        unfold L2.start
        rw [List.getElem?_append_left (by rw [List.length_map, hlv]; exact hi)]
        exact e1
      · rw [List.getElem?_append_right (by simpa using Nat.le_of_not_lt hi)] at h
        rw [List.getElem?_replicate] at h
        split at h <;> cases h
    have en : EnvOk ⟨K, w⟩ α Z H (ws.map (fun w => some (w, Md.brw)) ++ List.replicate (N.length - ps.length) none) (L2.start N vs) := by
      refine ⟨?_, fun i w m h => ?_, fun i j w w' m' _ h => ?_⟩
      · have hlv := Paired.length p
        unfold L2.start
        simp only [List.length_append, List.length_map, List.length_replicate, hlv, hl]
      · obtain ⟨v, e1, e2, e3⟩ := get i w m h
        exact ⟨v, e1, by rw [e2]; exact e3⟩
      · obtain ⟨v, e1, e2, e3⟩ := get i w _ h
        cases e2
    have so : At ⟨K, w⟩ ⟨H, α, Z⟩ (ws.map (fun w => some (w, Md.brw)) ++ List.replicate (N.length - ps.length) none) S (L2.start N vs) H α Z := ⟨wo, Keep.refl, en, fun i w h => by
      obtain ⟨v, e1, e2, e3⟩ := get i w _ h
      cases e2⟩
    cases hc : c (ws.map (fun w => some (w, Md.brw)) ++ List.replicate (N.length - ps.length) none) S with
    | none => rw [hc] at h; cases h
    | some o =>
      rw [hc] at h
      refine ⟨⟨H, α, Z⟩, _, S, o, ⟨α, Z, so⟩, hc, ?_⟩
      cases o with
      | rt r1 S1 =>
        have h : (if sto r1 = true then some (r1, S1) else none) = some (r, S') := h
        split at h
        · rename_i hs
          cases h
          exact ⟨hs, fun v H' α' Z' k w g => q v H' α' Z' k w g⟩
        · cases h
      | nx ρ1 S1 =>
        cases h
        exact fun σ' H' ⟨α', Z', a⟩ => q .non H' α' Z' a.k a.w (Got.im .non rfl)
      | bk ρ1 S1 => cases h
      | ct ρ1 S1 => cases h
end

section
variable {X : Cx} {a b e : Expr} {es : List Expr} {fa fb fe : CE} {fs : CA} {pos p : Pos} {x : Str}
theorem got_vals {K : KW} {H0 H : Hp} {α : List Addr} {Z : Addr → Prop} {rs : List Wm} {vs : List V} (g : Paired (Got K H0 α Z H) rs vs) : Paired (fun v w => RepM K α Z H .brw v w) vs (rs.map (·.1)) := by
  induction g with
  | nil => exact .nil
  | cons r t ih => exact .cons r.rep.brw ih
theorem cFn_len {n N : Nat} {c : CS} {ws : List W} {S : Store} {r : Wm × Store} (h : cFn n N c ws S = some r) : ws.length = n := by
  unfold cFn at h
  split at h
  · assumption
  · cases h
theorem e_call {k j n : Nat} {f : Addr} {fd : FuncData} {ps : List Str} {m : FnSem} (F : FnOk X.prog X.w X.K X.mg X.base CX0 k f fd ps (spF X.kw n m)) (hr : Room j X.A) (hj : k ≤ j) (hm : X.mg x = some (.ref f)) (hk : PySem.W.keepIn X.K (.ref f) = true) (hb : Binds X.K fd ps [])
    (hlen : ∀ ws S r, m ws S = some r → ws.length = n) (ha : EA X (e :: es) fs) (hg : Gl X x := by rfl) (hdb : (x == ("__debug__" : Str)) = false := by decide) (he : starEach (e :: es) X.env = (false, eval e X.env) :: starEach es X.env := by rfl) (hpl : (backTo pos (starEach es X.env)).any (·.1) = false := by rfl) :
    EE X (.Call (.Name x p) (e :: es) [] pos) (cCall m fs) :=
  PE.cons (pe_call F (hr.mono hj) hg hm hk hb .nil pass0 ha hdb he hpl) fun σ H Q ⟨ρ, S, α, Z, r', S', wo, en, h, q⟩ => by
    obtain ⟨rs, S1, h1, h⟩ := of_bnd h
    refine ⟨ρ, S, α, Z, rs, S1, wo, en, h1, fun vs H1 α1 Z1 k1 w1 g1 => ?_⟩
    show spF X.kw n m (vs ++ []) H1 Q E0
    rw [List.append_nil]
    exact ⟨rs.map (·.1), S1, α1, Z1, r', S', w1, hlen _ _ _ h, got_vals g1, h, fun v H2 α2 Z2 k2 w2 g2 => q v H2 α2 Z2 (k1.trans k2) w2 (g2.back k1.d)⟩

/-! ### built-ins by values -/
def CO (K : KW) (r : List V → Hp → VK → Prop) (g : Store → List W → Option W) : Prop := ∀ {α : List Addr} {Z : Addr → Prop} {H : Hp} {S : Store} {vs : List V} {ws : List W} {c : W}, WOk K H S α Z → Paired (fun v w => RepM K α Z H .brw v w) vs ws → g S ws = some c →
  ∀ Q : VK, (∀ v H', Keep H α Z H' α Z → WOk K H' S α Z → Got K H α Z H' (c, .own) v → Q v H') → r vs H Q
def cBi (g : Store → List W → Option W) (fs : CA) : CE := fun ρ S => bnd (fs ρ S) fun rs S => (g S (rs.map (·.1))).map fun c => ((c, .own), S)
theorem bi_ok {K : KW} {r : List V → Hp → VK → Prop} {g : Store → List W → Option W} (ho : CO K r g) {σ : L2.St} {H : Hp} {Q : VK} (h : semE K (cBi g fs) σ H Q) : tCB r (semA K fs) σ H Q := by
  obtain ⟨ρ, S, α, Z, r', S', wo, en, h, q⟩ := h
  obtain ⟨rs, S1, h1, h⟩ := of_bnd h
  obtain ⟨c, hc, e⟩ := Option.map_eq_some_iff.mp h
  cases e
  exact ⟨ρ, S, α, Z, rs, _, wo, en, h1, fun vs H1 α1 Z1 k1 w1 g1 => ho w1 (got_vals g1) hc _ fun v H2 k2 w2 g2 => q v H2 α1 Z1 (k1.trans k2) w2 (g2.back k1.d)⟩
theorem e_bi {id : String} {r : List V → Hp → VK → Prop} {g : Store → List W → Option W} (hc : CallR X (.builtin id) r) (ho : CO X.kw r g) (hm : X.mg x = none) (ha : EA X (e :: es) fs) (hv : bootBuiltins x = some (.builtin id)) (hg : Gl X x := by rfl) (hn : x ≠ "__name__" := by decide) (hdb : (x == ("__debug__" : Str)) = false := by decide)
    (he : starEach (e :: es) X.env = (false, eval e X.env) :: starEach es X.env := by rfl) (hpl : (backTo pos (starEach es X.env)).any (·.1) = false := by rfl) : EE X (.Call (.Name x p) (e :: es) [] pos) (cBi g fs) :=
  PE.cons (pe_callB hc hg hm hv ha hn hdb he hpl) fun _ _ _ h => bi_ok ho h
theorem e_ty {T : String} {r : List V → Hp → VK → Prop} {g : Store → List W → Option W} (hc : CallR X (.type T) r) (ho : CO X.kw r g) (hm : X.mg x = none) (ha : EA X (e :: es) fs) (hv : bootBuiltins x = some (.type T)) (hg : Gl X x := by rfl) (hn : x ≠ "__name__" := by decide) (hdb : (x == ("__debug__" : Str)) = false := by decide)
    (he : starEach (e :: es) X.env = (false, eval e X.env) :: starEach es X.env := by rfl) (hpl : (backTo pos (starEach es X.env)).any (·.1) = false := by rfl) : EE X (.Call (.Name x p) (e :: es) [] pos) (cBi g fs) :=
  PE.cons (pe_callTy hc hg hm hv ha hn hdb he hpl) fun _ _ _ h => bi_ok ho h
end
section
variable {K : KW} {α : List Addr} {Z : Addr → Prop} {H : Hp}
theorem one_of {vs : List V} {w : W} (p : Paired (fun v w => RepM K α Z H .brw v w) vs [w]) : ∃ v, vs = [v] ∧ RepM K α Z H .brw v w := by
  cases p with
  | cons r t => cases t; exact ⟨_, rfl, r⟩
theorem two_of {vs : List V} {w u : W} (p : Paired (fun v w => RepM K α Z H .brw v w) vs [w, u]) : ∃ v x, vs = [v, x] ∧ RepM K α Z H .brw v w ∧ RepM K α Z H .brw x u := by
  cases p with
  | cons r t =>
    obtain ⟨v, rfl, r2⟩ := one_of t
    exact ⟨_, _, rfl, r, r2⟩
/-- len -/
def gLen : Store → List W → Option W := fun S ws => match ws with
  | [.tup us] => some (.int us.length)
  | [.lst us] => some (.int us.length)
  | [.dk kvs] => some (.int kvs.length)
  | [.str x] => if x.length ≤ sizeLine then some (.int x.length) else none
  | [.scr ns] => some (.int ns.length)
  | [.cel n] => match S[n]? with
    | some (.lst us) => some (.int us.length)
    | some (.dk kvs) => some (.int kvs.length)
    | _ => none
  | _ => none
def rLenW (K : PySem.W.Frag) : List V → Hp → VK → Prop := fun xs H Q => ((∃ p ys, xs = [V.ref p] ∧ (SqL K H p ys ∨ SqT K H p ys) ∧ Q (.int ys.length) H) ∨ (∃ z, xs = [V.str z] ∧ z.length ≤ sizeLine ∧ Q (.int z.length) H)) ∨ (∃ a kvs, xs = [V.ref a] ∧ H a = some (.dK kvs) ∧ Q (.int kvs.length) H)
theorem call_lenW {X : Cx} : CallR X (.builtin "len") (rLenW X.K) := (call_len_seq.or call_len_str).or call_lenD
theorem co_len : CO K (rLenW K.K) gLen := by
  intro α Z H S vs ws c wo p hg Q q
  have fin : ∀ i, c = .int i → Q (.int i) H := fun i e => by subst e; exact q _ _ Keep.refl wo (Got.im (.int i) rfl)
  unfold gLen at hg
  split at hg
  · obtain ⟨v, rfl, r⟩ := one_of p
    obtain ⟨a, xs, rfl, h0, rl⟩ := r.ofTup
    cases hg
    exact .inl (.inl ⟨a, xs, rfl, .inr (.of h0), by rw [rl.length]; exact fin _ rfl⟩)
  · obtain ⟨v, rfl, r⟩ := one_of p
    obtain ⟨a, xs, rfl, h0, rl, _⟩ := r.ofLst
    cases hg
    exact .inl (.inl ⟨a, xs, rfl, .inl (.of h0), by rw [rl.length]; exact fin _ rfl⟩)
  · obtain ⟨v, rfl, r⟩ := one_of p
    obtain ⟨a, o, xs, us, rfl, h0, s, rl, _⟩ := r.muE rfl
    cases hg
    cases s with
    | @dk kvs kws e =>
      have hl := congrArg List.length e
      rw [List.length_map, List.length_map] at hl
      exact .inr ⟨a, _, rfl, h0, by rw [hl]; exact fin _ rfl⟩
  · obtain ⟨v, rfl, r⟩ := one_of p
    split at hg
    · rename_i hl
      cases hg
      rw [r.ofStr]
      exact .inl (.inr ⟨_, rfl, hl, fin _ rfl⟩)
    · cases hg
  · obtain ⟨v, rfl, r⟩ := one_of p
    obtain ⟨a, rfl, h0⟩ := r.ofScr
    cases hg
    exact .inl (.inl ⟨a, _, rfl, .inl h0, by rw [List.length_map]; exact fin _ rfl⟩)
  · obtain ⟨v, rfl, r⟩ := one_of p
    obtain ⟨a, rfl, h0⟩ := r.ofCel
    split at hg
    · rename_i hS
      cases hg
      obtain ⟨xs, h2, rl⟩ := wo.atL h0 hS
      exact .inl (.inl ⟨a, xs, rfl, .inl (.of h2), by rw [rl.length]; exact fin _ rfl⟩)
    · rename_i hS
      cases hg
      cases wo.at h0 hS with
      | opn h2 s rl =>
        cases s with
        | @dk vkvs kws e =>
          have hl := congrArg List.length e
          rw [List.length_map, List.length_map] at hl
          exact .inr ⟨a, _, rfl, h2, by rw [hl]; exact fin _ rfl⟩
    · cases hg
  · cases hg
theorem RepL.ints {ns : List Int} : RepL K α Z H (ns.map V.int) (ns.map W.int) := by
  induction ns with
  | nil => exact .nil
  | cons n ns ih => exact .cons (.int n) ih
theorem new_list {S : Store} {Q : VK} {xs : List V} {ws : List W} {m : Md} (wo : WOk K H S α Z) (rl : RepL K α Z H xs ws) (q : ∀ v H', Keep H α Z H' α Z → WOk K H' S α Z → Got K H α Z H' (.lst ws, .own) v → Q v H') : ∀ l, H l = none → Q (.ref l) (upd H l (.lst xs)) := fun l hl => by
  have k : Keep H α Z (upd H l (.lst xs)) α Z := Keep.new hl
  exact q _ _ k (wo.new hl) ⟨.mu upd_same (.lst _ _) (rl.keep wo k) (wo.nα hl) (fun _ => wo.nZ hl) (fun e => by cases e), fun _ _ a e => by cases e; exact hl⟩
theorem new_tup {S : Store} {Q : VK} {xs : List V} {ws : List W} {m : Md} (wo : WOk K H S α Z) (rl : RepL K α Z H xs ws) (q : ∀ v H', Keep H α Z H' α Z → WOk K H' S α Z → Got K H α Z H' (.tup ws, .own) v → Q v H') : ∀ l, H l = none → Q (.ref l) (upd H l (.tup xs)) := fun l hl => by
  have k : Keep H α Z (upd H l (.tup xs)) α Z := Keep.new hl
  exact q _ _ k (wo.new hl) (Got.im (.tup upd_same (rl.keep wo k)) rfl)
/-- list(x), tuple(x) -/
def gList : Store → List W → Option W := fun S ws => match ws with
  | [.tup us] => some (.lst us)
  | [.lst us] => some (.lst us)
  | [.scr ns] => some (.lst (ns.map .int))
  | [.cel n] => match S[n]? with
    | some (.lst us) => some (.lst us)
    | _ => none
  | _ => none
theorem co_list : CO K (fun xs H Q => ∃ p ys, xs = [V.ref p] ∧ (SqL K.K H p ys ∨ SqT K.K H p ys) ∧ ∀ l, H l = none → Q (.ref l) (upd H l (.lst ys))) gList := by
  intro α Z H S vs ws c wo p hg Q q
  unfold gList at hg
  split at hg
  · obtain ⟨v, rfl, r⟩ := one_of p
    obtain ⟨a, xs, rfl, h0, rl⟩ := r.ofTup
    cases hg
    exact ⟨a, xs, rfl, .inr (.of h0), new_list (m := .own) wo rl q⟩
  · obtain ⟨v, rfl, r⟩ := one_of p
    obtain ⟨a, xs, rfl, h0, rl, _⟩ := r.ofLst
    cases hg
    exact ⟨a, xs, rfl, .inl (.of h0), new_list (m := .own) wo rl q⟩
  · obtain ⟨v, rfl, r⟩ := one_of p
    obtain ⟨a, rfl, h0⟩ := r.ofScr
    cases hg
    exact ⟨a, _, rfl, .inl h0, new_list (m := .own) wo RepL.ints q⟩
  · obtain ⟨v, rfl, r⟩ := one_of p
    obtain ⟨a, rfl, h0⟩ := r.ofCel
    split at hg
    · rename_i hS
      cases hg
      obtain ⟨xs, h2, rl⟩ := wo.atL h0 hS
      exact ⟨a, xs, rfl, .inl (.of h2), new_list (m := .own) wo rl q⟩
    · cases hg
  · cases hg
def gTuple : Store → List W → Option W := fun S ws => match ws with
  | [.tup us] => some (.tup us)
  | [.lst us] => some (.tup us)
  | [.cel n] => match S[n]? with
    | some (.lst us) => some (.tup us)
    | _ => none
  | _ => none
theorem co_tuple : CO K (fun xs H Q => ∃ p ys, xs = [V.ref p] ∧ ((SqL K.K H p ys ∧ ∀ l, H l = none → Q (.ref l) (upd H l (.tup ys))) ∨ (SqT K.K H p ys ∧ Q (.ref p) H))) gTuple := by
  intro α Z H S vs ws c wo p hg Q q
  unfold gTuple at hg
  split at hg
  · obtain ⟨v, rfl, r⟩ := one_of p
    obtain ⟨a, xs, rfl, h0, rl⟩ := r.ofTup
    cases hg
    exact ⟨a, xs, rfl, .inr ⟨.of h0, q _ _ Keep.refl wo (Got.im (.tup h0 rl) rfl)⟩⟩
  · obtain ⟨v, rfl, r⟩ := one_of p
    obtain ⟨a, xs, rfl, h0, rl, _⟩ := r.ofLst
    cases hg
    exact ⟨a, xs, rfl, .inl ⟨.of h0, new_tup (m := .own) wo rl q⟩⟩
  · obtain ⟨v, rfl, r⟩ := one_of p
    obtain ⟨a, rfl, h0⟩ := r.ofCel
    split at hg
    · rename_i hS
      cases hg
      obtain ⟨xs, h2, rl⟩ := wo.atL h0 hS
      exact ⟨a, xs, rfl, .inl ⟨.of h2, new_tup (m := .own) wo rl q⟩⟩
    · cases hg
  · cases hg
/-- int(n), int(flag) -/
def gInt : Store → List W → Option W := fun _ ws => match ws with
  | [.int i] => some (.int i)
  | [.bl k] => some (.int (if k then 1 else 0))
  | _ => none
theorem co_int : CO K (fun xs H Q => (∃ i, xs = [V.int i] ∧ Q (.int i) H) ∨ ∃ k, xs = [V.bl k] ∧ Q (.int (if k then 1 else 0)) H) gInt := by
  intro α Z H S vs ws c wo p hg Q q
  unfold gInt at hg
  split at hg
  · obtain ⟨v, rfl, r⟩ := one_of p
    cases hg
    rw [r.ofInt]
    exact .inl ⟨_, rfl, q _ _ Keep.refl wo (Got.im (.int _) rfl)⟩
  · obtain ⟨v, rfl, r⟩ := one_of p
    cases hg
    rw [r.ofBl]
    exact .inr ⟨_, rfl, q _ _ Keep.refl wo (Got.im (.int _) rfl)⟩
  · cases hg
def gAbs : Store → List W → Option W := fun _ ws => match ws with
  | [.int i] => some (.int (if i < 0 then -i else i))
  | _ => none
theorem co_abs : CO K (fun xs H Q => ∃ i, xs = [V.int i] ∧ Q (.int (if i < 0 then -i else i)) H) gAbs := by
  intro α Z H S vs ws c wo p hg Q q
  unfold gAbs at hg
  split at hg
  · obtain ⟨v, rfl, r⟩ := one_of p
    cases hg
    rw [r.ofInt]
    exact ⟨_, rfl, q _ _ Keep.refl wo (Got.im (.int _) rfl)⟩
  · cases hg
def gMin2 : Store → List W → Option W := fun _ ws => match ws with
  | [.int i, .int j] => some (.int (if j < i then j else i))
  | _ => none
def gMax2 : Store → List W → Option W := fun _ ws => match ws with
  | [.int i, .int j] => some (.int (if j > i then j else i))
  | _ => none
theorem co_min2 : CO K (fun xs H Q => ∃ i j, xs = [V.int i, V.int j] ∧ Q (.int (if j < i then j else i)) H) gMin2 := by
  intro α Z H S vs ws c wo p hg Q q
  unfold gMin2 at hg
  split at hg
  · obtain ⟨v, u, rfl, r, r2⟩ := two_of p
    cases hg
    rw [r.ofInt, r2.ofInt]
    exact ⟨_, _, rfl, q _ _ Keep.refl wo (Got.im (.int _) rfl)⟩
  · cases hg
theorem co_max2 : CO K (fun xs H Q => ∃ i j, xs = [V.int i, V.int j] ∧ Q (.int (if j > i then j else i)) H) gMax2 := by
  intro α Z H S vs ws c wo p hg Q q
  unfold gMax2 at hg
  split at hg
  · obtain ⟨v, u, rfl, r, r2⟩ := two_of p
    cases hg
    rw [r.ofInt, r2.ofInt]
    exact ⟨_, _, rfl, q _ _ Keep.refl wo (Got.im (.int _) rfl)⟩
  · cases hg
end
section
variable {X : Cx} {a b e : Expr} {es : List Expr} {fa fb fe : CE} {fs : CA} {pos p : Pos} {x : Str}
theorem e_len (hm : X.mg "len" = none) (h : EE X e fe) (hg : Gl X "len" := by rfl) (hs : starEach [e] X.env = (false, eval e X.env) :: starEach [] X.env := by rfl) : EE X (.Call (.Name "len" p) [e] [] pos) (cBi gLen (cCons fe cNil)) :=
  e_bi call_lenW co_len hm (a_cons h a_nil hs) PySem.boot_len hg (by decide) (by decide) hs
theorem e_list (hm : X.mg "list" = none) (h : EE X e fe) (hg : Gl X "list" := by rfl) (hs : starEach [e] X.env = (false, eval e X.env) :: starEach [] X.env := by rfl) : EE X (.Call (.Name "list" p) [e] [] pos) (cBi gList (cCons fe cNil)) :=
  e_ty call_list_of co_list hm (a_cons h a_nil hs) (by decide +kernel) hg (by decide) (by decide) hs
theorem e_tuple (hm : X.mg "tuple" = none) (h : EE X e fe) (hg : Gl X "tuple" := by rfl) (hs : starEach [e] X.env = (false, eval e X.env) :: starEach [] X.env := by rfl) : EE X (.Call (.Name "tuple" p) [e] [] pos) (cBi gTuple (cCons fe cNil)) :=
  e_ty call_tuple_of co_tuple hm (a_cons h a_nil hs) (by decide +kernel) hg (by decide) (by decide) hs
theorem e_intf (hm : X.mg "int" = none) (h : EE X e fe) (hg : Gl X "int" := by rfl) (hs : starEach [e] X.env = (false, eval e X.env) :: starEach [] X.env := by rfl) : EE X (.Call (.Name "int" p) [e] [] pos) (cBi gInt (cCons fe cNil)) :=
  e_ty call_int1 co_int hm (a_cons h a_nil hs) (by decide +kernel) hg (by decide) (by decide) hs
theorem e_abs (hm : X.mg "abs" = none) (h : EE X e fe) (hg : Gl X "abs" := by rfl) (hs : starEach [e] X.env = (false, eval e X.env) :: starEach [] X.env := by rfl) : EE X (.Call (.Name "abs" p) [e] [] pos) (cBi gAbs (cCons fe cNil)) :=
  e_bi call_abs co_abs hm (a_cons h a_nil hs) (by decide +kernel) hg (by decide) (by decide) hs

/-! ### a name's own list, dict is written -/
theorem At.write {K : KW} {B : Bs} {ρ : Env} {S : Store} {σ : L2.St} {H : Hp} {α : List Addr} {Z : Addr → Prop} {i : Nat} {c : Addr} {u : HO} {w w' : W} {xs' : List V} {ws' : List W} (at_ : At K B ρ S σ H α Z)
    (hr : ρ[i]? = some (some (w, .own))) (hm : w.mut = true) (hσ : σ[i]? = some (some (.ref c))) (s : Shape K H c u w' xs' ws') (r : RepL K α Z H xs' ws') : At K B (ρ.set i (some (w', .own))) S σ (upd H c u) α Z := by
  have hi : i < ρ.length := (List.getElem?_eq_some_iff.mp hr).1
  obtain ⟨o, w0, xs0, ws0, h0, s0, nα, nz⟩ := at_.e.root ⟨i, w, hr, hm, hσ⟩
  have hB := at_.o i w hr hm c hσ
  have hw : Wr H α Z c := Wr.of nz h0 s0
  have get : ∀ (j : Nat) w1 m1, (ρ.set i (some (w', Md.own)))[j]? = some (some (w1, m1)) → (i = j ∧ w1 = w' ∧ m1 = .own) ∨ (i ≠ j ∧ ρ[j]? = some (some (w1, m1))) := by
    intro j w1 m1 h
    by_cases e : i = j
    · subst e
      rw [List.getElem?_set_self hi] at h
      cases h
      exact .inl ⟨rfl, rfl, rfl⟩
    · rw [List.getElem?_set_ne e] at h
      exact .inr ⟨e, h⟩
  refine ⟨at_.w.put hw nα, ⟨at_.k.al, fun b t hb hn => ?_, fun b hb => ?_, at_.k.z, at_.k.z', fun b o t hb => by rw [upd_ne (by rintro rfl; rw [hB] at hb; cases hb)]; exact at_.k.f b o t hb⟩, ⟨by rw [List.length_set]; exact at_.e.len, fun j w1 m1 hj => ?_, fun j j' w1 w2 m2 hne h1 h2 h3 h4 => ?_⟩, fun j w1 hj hm1 b hb => ?_⟩
  · rw [upd_ne (by rintro rfl; rw [hB] at hb; cases hb)]
    exact at_.k.h b t hb hn
  · by_cases e : b = c
    · rw [e]; exact hB
    · rw [upd_ne e] at hb; exact at_.k.d b hb
  · rcases get j w1 m1 hj with ⟨e, rfl, rfl⟩ | ⟨e, h⟩
    · subst e
      exact ⟨_, hσ, .mu upd_same (hw.mono s) (RepL.put hw r) nα (fun _ => nz) (fun e => by cases e)⟩
    · obtain ⟨v, q1, q2⟩ := at_.e.slot j w1 m1 h
      refine ⟨v, q1, ?_⟩
      cases q2 with
      | im e r2 => exact .im e (r2.put0 hw)
      | mu c0 c1 c2 c3 c4 c5 =>
        refine .mu ?_ (hw.mono c1) (RepL.put hw c2) c3 c4 c5
        rw [upd_ne (by rintro rfl; exact at_.e.sep i j w w1 m1 e hr hm h c1.mut (hσ.trans q1.symm))]
        exact c0
  · rcases get j w1 _ h1 with ⟨e, rfl, _⟩ | ⟨e, h⟩ <;> rcases get j' w2 m2 h3 with ⟨e', rfl, rfl⟩ | ⟨e', h'⟩
    · exact absurd (e.symm.trans e') hne
    · subst e; exact at_.e.sep _ j' w w2 m2 hne hr hm h' h4
    · subst e'
      exact at_.e.sep j _ w1 w .own hne h h2 hr hm
    · exact at_.e.sep j j' w1 w2 m2 hne h h2 h' h4
  · rcases get j w1 _ hj with ⟨e, rfl, _⟩ | ⟨e, h⟩
    · subst e; exact at_.o _ w hr hm b hb
    · exact at_.o j w1 h hm1 b hb
/-- a cell is written: what stands there may be anything but locked -/
theorem WOk.cellPut {K : KW} {S : Store} {H : Hp} {α : List Addr} {Z : Addr → Prop} {n : Nat} {c : Addr} {u : HO} {w : W} {xs' : List V} {ws' : List W} (wo : WOk K H S α Z) (hc : α[n]? = some c)
    (s : Shape K H c u w xs' ws') (r : RepL K α Z H xs' ws') (hf : ∀ o u, H c ≠ some (.frz o u)) : Keep H α Z (upd H c u) α Z ∧ WOk K (upd H c u) (S.set n w) α Z := by
  have hmem : c ∈ α := List.mem_of_getElem? hc
  obtain ⟨w0, c0⟩ := wo.cell hmem
  obtain ⟨o0, h0, n0⟩ := c0.ex
  have nz : ¬ Z c := fun z => wo.zα c z hmem
  have hw : Wr H α Z c := ⟨fun xs e => by rw [h0] at e; cases e; exact n0 _ rfl, fun _ _ _ => hmem, nz⟩
  have k : Keep H α Z (upd H c u) α Z := ⟨⟨[], by simp, by simp⟩, fun b t hb hn => by
    rw [upd_ne (by rintro rfl; exact hn hmem)]; exact hb, fun b hb => by
    by_cases e : b = c
    · rw [e, upd_same] at hb; cases hb
    · rw [upd_ne e] at hb; exact hb, fun _ h => h, fun _ h => .inl h, fun b o t hb => by rw [upd_ne (by rintro rfl; exact hf _ _ hb)]; exact hb⟩
  refine ⟨k, wo.nd, ?_, wo.zα, fun b z => by rw [upd_ne (by rintro rfl; exact nz z)]; exact wo.zH b z⟩
  have go : ∀ {l₁ : List Addr} {l₂ : Store} {n : Nat}, l₁.Nodup → Paired (Cel K α Z H) l₁ l₂ → l₁[n]? = some c → Paired (Cel K α Z (upd H c u)) l₁ (l₂.set n w) := by
    intro l₁ l₂ n nd p
    induction p generalizing n with
    | nil => intro h; simp at h
    | @cons a ws l₁ l₂ r1 t ih =>
      intro h
      rw [List.nodup_cons] at nd
      cases n with
      | zero =>
        have e : a = c := by simpa using h
        subst e
        exact .cons (.opn upd_same (hw.mono s) (RepL.put hw r)) (Paired.impM t fun b us hb c1 => c1.to (fun o h1 => by rw [upd_ne (by rintro rfl; exact nd.1 hb)]; exact h1) (fun b ys hb => by rw [upd_ne (by rintro rfl; exact hw.t _ hb)]; exact hb) fun _ _ r => RepL.put hw r)
      | succ n =>
        have h : l₁[n]? = some c := by simpa using h
        exact .cons (r1.to (fun o h1 => by rw [upd_ne (by rintro rfl; exact nd.1 (List.mem_of_getElem? h))]; exact h1) (fun b ys hb => by rw [upd_ne (by rintro rfl; exact hw.t _ hb)]; exact hb) fun _ _ r => RepL.put hw r) (ih nd.2 h)
  exact go wo.nd wo.cells hc
theorem At.cell {K : KW} {B : Bs} {ρ : Env} {S : Store} {σ : L2.St} {H : Hp} {α : List Addr} {Z : Addr → Prop} {n : Nat} {c : Addr} {u : HO} {w : W} {xs' : List V} {ws' : List W} (at_ : At K B ρ S σ H α Z)
    (hc : α[n]? = some c) (s : Shape K H c u w xs' ws') (r : RepL K α Z H xs' ws') (hf : ∀ o u, H c ≠ some (.frz o u)) : At K B ρ (S.set n w) σ (upd H c u) α Z :=
  let ⟨k, w⟩ := at_.w.cellPut hc s r hf
  at_.go k w
/-- xs.append(e) -/
def cApp (i : Nat) (f : CE) : CS := fun ρ S => bnd (f ρ S) fun r S => if sto r = true then (match ρ[i]? with
  | some (some (.lst ws, .own)) => if ws.length < sizeLine then some (.nx (ρ.set i (some (.lst (ws ++ [r.1]), .own))) S) else none
  | _ => none) else none
theorem s_app {apos cpos p : Pos} (i : Nat) (he : EE X e fe) (hN : X.N[i]? = some x := by rfl) (hv : Vis X.env.scope x := by first | exact Or.inl rfl | exact Or.inr (Or.inl rfl) | exact Or.inr (Or.inr rfl)) (hd : (x == ("__debug__" : Str)) = false := by decide)
    (hcd : (x == ("__classdict__" : Str)) = false := by decide) (hbase : attributeBase (.Name x p) "append" X.env (eval (.Name x p) X.env) = eval (.Name x p) X.env := by rfl)
    (hfew : ((backTo cpos (starEach [e] X.env)).all (fun x => !x.1) && (backToKw cpos (keywordEach [] X.env)).all (fun x => x.1.isSome)
      && decide (([e] : List Expr).length + ([] : List Keyword).length + (if ([] : List Keyword).isEmpty then 0 else 1) < 30)) = true := by rfl)
    (hline : (apos.endLine == cpos.line) = true := by rfl) (hs : starEach [e] X.env = (false, eval e X.env) :: starEach [] X.env := by rfl) (hplain : (backTo cpos (starEach [] X.env)).any (·.1) = false := by rfl)
    (hsw : swapsWith (.Call (.Attribute (.Name x p) "append" apos) [e] [] cpos) none pos.line X.env = pure false := by rfl) :
    ES X (.Expr (.Call (.Attribute (.Name x p) "append" apos) [e] [] cpos) pos) (cApp i fe) :=
  PS.cons (ps_expr (pe_bm PySem.F.plainAttrs_list PySem.F.slot_list_append PySem.F.type_list_append mt_append (pe_var hN hv hd hcd) (a_cons he a_nil hs) hbase hfew hline hs hplain) hsw) fun D σ H ⟨B, ρ, S, o, ⟨α, Z, at_⟩, h, q⟩ => by
    obtain ⟨r, S1, h1, h⟩ := of_bnd h
    split at h
    · rename_i hst
      split at h
      · rename_i ws hr
        split at h
        · rename_i hl
          cases h
          obtain ⟨v, e1, r1⟩ := at_.e.slot i _ _ hr
          obtain ⟨c, xs, rfl, h0, rl, nα, c1, _⟩ := r1.ofLst
          refine ⟨_, e1, .inl ⟨rfl, xs, .of h0⟩, ρ, S, α, Z, [r], S1, at_.w, at_.e, (by unfold cCons; rw [h1]; rfl), fun vs H1 α1 Z1 k1 w1 g1 => ?_⟩
          have h3 : H1 c = some (.lst xs) := k1.h _ _ h0 nα
          obtain ⟨Z2, zz, k2, w2, r2⟩ := freeze_all w1 k1 g1 (by simp [hst])
          have rl2 : RepL X.kw α1 Z2 H1 xs ws := (rl.keep at_.w k1).mono zz
          cases g1 with
          | cons g gt =>
            cases gt
            exact ⟨c, xs, _, rfl, rfl, h3, by rw [rl.length]; exact hl, q _ _ ⟨α1, Z2, (at_.go k2 w2).write hr rfl e1 (.lst _ _) (rl2.append r2)⟩⟩
        · cases h
      · cases h
    · cases h

/-- o[k] = e, o a name -/
def setAt (ρ : Env) (S : Store) (i : Nat) (k w : W) : Option SOut := match ρ[i]? with
  | some (some (.lst ws, .own)) => (match k with
    | .int n => (ixN ws.length n).map fun j => .nx (ρ.set i (some (.lst (ws.set j w), .own))) S
    | _ => none)
  | some (some (.cel c, _)) => (match k, S[c]? with
    | .int n, some (.lst ws) => (ixN ws.length n).map fun j => .nx ρ (S.set c (.lst (ws.set j w)))
    | _, _ => none)
  | some (some (.dk kvs, .own)) => (dkPut kvs k w).map fun d => .nx (ρ.set i (some (d, .own))) S
  | some (some (.dt kvs, .own)) => (dtPut kvs k w).map fun d => .nx (ρ.set i (some (d, .own))) S
  | _ => none
def cSetIx (i : Nat) (fk fe : CE) : CS := fun ρ S => bnd (fe ρ S) fun r S => bnd (fk ρ S) fun k S => if sto r = true then setAt ρ S i k.1 r.1 else none
def rSetD : V → V → V → Hp → (Hp → Prop) → Prop := fun o i v H Q => ∃ p H', o = .ref p ∧ DPut H p i v H' ∧ Q H'
theorem set_dict (hu : X.A.units + 1 < cLine) : PSet X rSetD := by
  intro pins s σ H o i v ov iv u Q I ro ri rv h
  obtain ⟨p, H', rfl, g, q⟩ := h
  cases ro
  exact d_setItem hu I g ri rv fun s4 I4 => ⟨H', I4, q⟩
theorem PSet.or {t u : TSet} (h1 : PSet X t) (h2 : PSet X u) : PSet X (fun o i v H Q => t o i v H Q ∨ u o i v H Q) := by
  intro pins s σ H o i v ov iv w Q I ro ri rv h
  rcases h with h | h
  · exact h1 pins s σ H o i v ov iv w Q I ro ri rv h
  · exact h2 pins s σ H o i v ov iv w Q I ro ri rv h
theorem s_setIx {k : Nat} {idx : Expr} {fk : CE} {p p2 : Pos} (i : Nat) (hr : Room k X.A) (hk : EE X idx fk) (he : EE X e fe) (hN : X.N[i]? = some x := by rfl) (hv : Vis X.env.scope x := by first | exact Or.inl rfl | exact Or.inr (Or.inl rfl) | exact Or.inr (Or.inr rfl)) (hd : (x == ("__debug__" : Str)) = false := by decide)
    (hcd : (x == ("__classdict__" : Str)) = false := by decide)
    (ha : ∀ v, assign (.Subscript (.Name x p) idx p2) X.env v = (do
      let ov ← holding [v] (eval (.Name x p) X.env)
      let iv ← holding [v, ov] (eval idx X.env)
      standAt p2
      holding [v, ov, iv] (setItem ov iv v)
      release [v, ov, iv] []) := by intro _; rfl)
    (hs : swapsWithSole [.Subscript (.Name x p) idx p2] e pos.line X.env = pure false := by rfl) (hw : swappedStores [.Subscript (.Name x p) idx p2] e X.env = pure none := by rfl)
    (h1 : (assignEach [.Subscript (.Name x p) idx p2] X.env).map (·.2) = [assign (.Subscript (.Name x p) idx p2) X.env] := by rfl) : ES X (.Assign [.Subscript (.Name x p) idx p2] e pos) (cSetIx i fk fe) :=
  PS.cons (ps_asg he (pg_sub (pe_var hN hv hd hcd) hk (PSet.or set_list (set_dict (hu_of hr))) ha) hs hw h1) fun D σ H ⟨B, ρ, S, o, ⟨α, Z, at_⟩, h, q⟩ => by
    obtain ⟨r, S1, h1, h⟩ := of_bnd h
    obtain ⟨k, S2, h2, h⟩ := of_bnd h
    split at h
    · rename_i hst
      refine ⟨ρ, S, α, Z, r, S1, at_.w, at_.e, h1, fun v H1 α1 Z1 k1 w1 g1 => ?_⟩
      have main : ∀ ov, σ[i]? = some (some ov) → (∀ y H2 α2 Z2, Keep H1 α1 Z1 H2 α2 Z2 → WOk X.kw H2 S2 α2 Z2 → Got X.kw H1 α2 Z2 H2 k y → rSetL ov y v H2 (fun H3 => D.nx σ H3) ∨ rSetD ov y v H2 (fun H3 => D.nx σ H3)) →
          L2.gSub (tVar i) (semE X.kw fk) (fun o i v H Q => rSetL o i v H Q ∨ rSetD o i v H Q) v σ H1 D.nx := fun ov hov hh =>
        ⟨ov, hov, ρ, S1, α1, Z1, k, S2, w1, at_.e.keep at_.w k1, h2, fun y H2 α2 Z2 k2 w2 g2 => hh y H2 α2 Z2 k2 w2 g2⟩
      have prep : ∀ {H2 α2 Z2}, Keep H1 α1 Z1 H2 α2 Z2 → WOk X.kw H2 S2 α2 Z2 → ∃ Z3, At X.kw B ρ S2 σ H2 α2 Z3 ∧ Rep X.kw α2 Z3 H2 v r.1 := fun {H2 α2 Z2} k2 w2 => by
        obtain ⟨Z3, zz, k3, w3, r3⟩ := freeze_all (rs := [r]) (vs := [v]) w2 (k1.trans k2) (.cons (g1.keep w1 k2) .nil) (by simp [hst])
        cases r3 with
        | cons r3 _ => exact ⟨Z3, at_.go k3 w3, r3⟩
      unfold setAt at h
      split at h
      · rename_i ws hr
        obtain ⟨u, e1, r1⟩ := at_.e.slot i _ _ hr
        obtain ⟨c, xs, rfl, h0, rl, nα, c1, _⟩ := r1.ofLst
        split at h
        · rename_i n hkn
          obtain ⟨j, hj, e⟩ := Option.map_eq_some_iff.mp h
          subst e
          refine main _ e1 fun y H2 α2 Z2 k2 w2 g2 => ?_
          obtain ⟨Z3, a3, r3⟩ := prep k2 w2
          have gy := g2.rep
          rw [hkn] at gy
          have kk := k1.trans k2
          have h3 : H2 c = some (.lst xs) := kk.h _ _ h0 nα
          have rl3 : RepL X.kw α2 Z3 H2 xs ws := by
            obtain ⟨v', e1', r1'⟩ := a3.e.slot i _ _ hr
            rw [e1] at e1'
            cases e1'
            obtain ⟨c', xs', e', h0', rl', _⟩ := r1'.ofLst
            cases e'
            rw [h3] at h0'
            cases h0'
            exact rl'
          refine .inl ⟨c, xs, n, j, rfl, gy.ofInt, h3, by rw [rl.length]; exact hj, q _ _ ⟨α2, Z3, a3.write hr rfl e1 (.lst _ _) (rl3.set r3 j)⟩⟩
        · cases h
      · rename_i n m hr
        obtain ⟨u, e1, r1⟩ := at_.e.slot i _ _ hr
        obtain ⟨c, rfl, hc⟩ := r1.ofCel
        split at h
        · rename_i z ws hkn hSn
          obtain ⟨j, hj, e⟩ := Option.map_eq_some_iff.mp h
          subst e
          refine main _ e1 fun y H2 α2 Z2 k2 w2 g2 => ?_
          obtain ⟨Z3, a3, r3⟩ := prep k2 w2
          have gy := g2.rep
          rw [hkn] at gy
          obtain ⟨nw, eα, _⟩ := (k1.trans k2).al
          have hc2 : α2[n]? = some c := by
            rw [eα, List.getElem?_append_left (List.getElem?_eq_some_iff.mp hc).1]; exact hc
          obtain ⟨xs, h3, rl3⟩ := a3.w.atL hc2 hSn
          exact .inl ⟨c, xs, z, j, rfl, gy.ofInt, h3, by rw [rl3.length]; exact hj, q _ _ ⟨α2, Z3, a3.cell hc2 (.lst _ _) (rl3.set r3 j) (fun o u e => by rw [h3] at e; cases e)⟩⟩
        · cases h
      · rename_i kvs hr
        obtain ⟨u, e1, r1⟩ := at_.e.slot i _ _ hr
        obtain ⟨d, hd, e⟩ := Option.map_eq_some_iff.mp h
        subst e
        unfold dkPut at hd
        split at hd
        · rename_i κ hκ
          split at hd
          · rename_i hl
            cases hd
            refine main _ e1 fun y H2 α2 Z2 k2 w2 g2 => ?_
            obtain ⟨Z3, a3, r3⟩ := prep k2 w2
            obtain ⟨v', e1', r1'⟩ := a3.e.slot i _ _ hr
            rw [e1] at e1'
            cases e1'
            obtain ⟨c', o2, xs', us', e', h0', s', rl', _⟩ := r1'.muE rfl
            subst e'
            cases s' with
            | @dk vkvs _ ek =>
              have hlen := congrArg List.length ek
              rw [List.length_map, List.length_map] at hlen
              obtain ⟨p1, p2⟩ := dk_put κ r3 ek rl'
              exact .inr ⟨_, _, rfl, .inl ⟨vkvs, κ, h0', keyOf_ok g2.rep hκ, by rw [hlen]; exact hl, rfl⟩, q _ _ ⟨α2, Z3, a3.write hr rfl e1 (.dk p1) p2⟩⟩
          · cases hd
        · cases hd
      · rename_i kvs hr
        obtain ⟨u, e1, r1⟩ := at_.e.slot i _ _ hr
        obtain ⟨d, hd, e⟩ := Option.map_eq_some_iff.mp h
        subst e
        unfold dtPut at hd
        split at hd
        · rename_i κ hκ
          split at hd
          · rename_i hl
            cases hd
            refine main _ e1 fun y H2 α2 Z2 k2 w2 g2 => ?_
            obtain ⟨Z3, a3, r3⟩ := prep k2 w2
            obtain ⟨v', e1', r1'⟩ := a3.e.slot i _ _ hr
            rw [e1] at e1'
            cases e1'
            obtain ⟨c', o2, xs', us', e', h0', s', rl', _⟩ := r1'.muE rfl
            subst e'
            cases s' with
            | @dt vkvs _ ek =>
              have hlen := congrArg List.length ek
              rw [List.length_map, List.length_map] at hlen
              obtain ⟨p1, p2⟩ := dk_put κ r3 ek rl'
              obtain ⟨b, eb, hb⟩ := tkOf_ok g2.rep hκ
              exact .inr ⟨_, _, rfl, .inr ⟨vkvs, κ, b, h0', eb, hb, by rw [hlen]; exact hl, rfl⟩, q _ _ ⟨α2, Z3, a3.write hr rfl e1 (.dt p1) p2⟩⟩
          · cases hd
        · cases hd
      · cases h
    · cases h
end

/-! ### slices -/
abbrev CO1 := Env → Store → Option (Option Int × Store)
def semO (K : KW) (f : CO1) : TO := fun σ H Q => ∃ ρ S α Z r S', WOk K H S α Z ∧ EnvOk K α Z H ρ σ ∧ f ρ S = some (r, S') ∧ ∀ H' α' Z', Keep H α Z H' α' Z' → WOk K H' S' α' Z' → Q r H'
abbrev EO (X : Cx) (e : Option Expr) (f : CO1) : Prop := PO X e (semO X.kw f)
theorem PO.cons {X : Cx} {e : Option Expr} {t t' : TO} (h : PO X e t) (i : ∀ σ H Q, t' σ H Q → t σ H Q) : PO X e t' := ⟨fun pins s σ H Q I q => h.run pins s σ H Q I (i σ H Q q)⟩
def oNone : CO1 := fun _ S => some (none, S)
def oSome (f : CE) : CO1 := fun ρ S => bnd (f ρ S) fun r S => match r.1 with
  | .int i => some (some i, S)
  | _ => none
def cutW {A : Type} (xs : List A) (lo hi : Option Int) : List A := (xs.drop (HT.sIx xs.length 0 lo)).take (HT.sIx xs.length xs.length hi - HT.sIx xs.length 0 lo)
def gSl (w : W) (lo hi : Option Int) : Option W := match w with
  | .tup us => some (.tup (cutW us lo hi))
  | .lst us => some (.lst (cutW us lo hi))
  | .str x => if x.length ≤ sizeLine then some (.str (cutS x lo hi)) else none
  | _ => none
def cSl (f : CE) (lo hi : CO1) : CE := fun ρ S => bnd (f ρ S) fun r S => bnd (lo ρ S) fun l S => bnd (hi ρ S) fun h S => (gSl r.1 l h).map fun c => ((c, .own), S)
section
variable {X : Cx} {e : Expr} {f : CE} {lo hi : Option Expr} {fl fh : CO1} {pos p2 : Pos}
theorem o_none : EO X none oNone := PO.cons po_none fun σ H Q ⟨ρ, S, α, Z, r, S', wo, en, h, q⟩ => by
  cases h
  exact q H α Z Keep.refl wo
theorem o_some (h : EE X e f) : EO X (some e) (oSome f) := PO.cons (po_some h) fun σ H Q ⟨ρ, S, α, Z, r, S', wo, en, h, q⟩ => by
  obtain ⟨r1, S1, h1, h⟩ := of_bnd h
  obtain ⟨w, m⟩ := r1
  cases w with
  | int i =>
    cases h
    exact ⟨ρ, S, α, Z, _, _, wo, en, h1, fun v H1 α1 Z1 k w g => ⟨i, g.rep.ofInt, q H1 α1 Z1 k w⟩⟩
  | _ => cases h
theorem cut_whole {A : Type} {xs : List A} {lo hi : Option Int} (h : HT.sIx xs.length 0 lo = 0 ∧ HT.sIx xs.length xs.length hi = xs.length) : cutW xs lo hi = xs := by
  unfold cutW
  rw [h.1, h.2, List.drop_zero, Nat.sub_zero, List.take_length]
theorem e_sl (h : EE X e f) (hl : EO X lo fl) (hu : EO X hi fh) : EE X (.Subscript e (.Slice lo hi none p2) pos) (cSl f fl fh) :=
  PE.cons (pe_slice (sl_tupA.or (sl_list.or sl_str)) h hl hu) fun σ H Q ⟨ρ, S, α, Z, r', S', wo, en, h, q⟩ => by
    obtain ⟨r, S1, h1, h⟩ := of_bnd h
    obtain ⟨l, S2, h2, h⟩ := of_bnd h
    obtain ⟨u, S3, h3, h⟩ := of_bnd h
    obtain ⟨c, hc, e⟩ := Option.map_eq_some_iff.mp h
    cases e
    refine ⟨ρ, S, α, Z, r, S1, wo, en, h1, fun v H1 α1 Z1 k1 w1 g1 => ⟨ρ, S1, α1, Z1, l, S2, w1, en.keep wo k1, h2, fun H2 α2 Z2 k2 w2 => ⟨ρ, S2, α2, Z2, u, _, w2, en.keep wo (k1.trans k2), h3, fun H3 α3 Z3 k3 w3 => ?_⟩⟩⟩
    have rp := g1.rep.keep w1 (k2.trans k3)
    have kk := (k1.trans k2).trans k3
    have cut : ∀ {xs : List V} {ws : List W}, RepL X.kw α3 Z3 H3 xs ws → RepL X.kw α3 Z3 H3 (cutV xs l u) (cutW ws l u) := fun {xs ws} r => by
      unfold cutV cutW
      rw [r.length]
      exact (r.drop _).take _
    obtain ⟨w, m⟩ := r
    have qq : ∀ v H', Keep H3 α3 Z3 H' α3 Z3 → WOk X.kw H' S' α3 Z3 → Got X.kw H3 α3 Z3 H' (c, .own) v → Q v H' := fun v H' k w g => q v H' α3 Z3 (kk.trans k) w (g.back kk.d)
    cases w with
    | tup us =>
      cases hc
      obtain ⟨a, xs, rfl, h0, rl⟩ := rp.ofTup
      refine .inl ⟨a, xs, rfl, .of h0, fun hw => ?_, fun _ => new_tup (m := .own) w3 (cut rl) qq⟩
      rw [rl.length] at hw
      rw [cut_whole hw] at qq
      exact qq _ _ Keep.refl w3 (Got.im (.tup h0 rl) rfl)
    | lst us =>
      cases hc
      obtain ⟨a, xs, rfl, h0, rl, _⟩ := rp.ofLst
      exact .inr (.inl ⟨a, xs, rfl, .of h0, new_list (m := .own) w3 (cut rl) qq⟩)
    | str x =>
      have hc : (if x.length ≤ sizeLine then some (W.str (cutS x l u)) else none) = some c := hc
      split at hc
      · rename_i hl
        cases hc
        exact .inr (.inr ⟨x, rp.ofStr, hl, qq _ _ Keep.refl w3 (Got.im (.str _) rfl)⟩)
      · cases hc
    | _ => cases hc
end

/-! ### isinstance(x, a built-in type) -/
def tyName : W → Option String
  | .non => some "NoneType"
  | .bl _ => some "bool"
  | .int _ => some "int"
  | .str _ => some "str"
  | .tup _ => some "tuple"
  | .lst _ => some "list"
  | .dk _ => some "dict"
  | .dt _ => some "dict"
  | _ => none
def gIsi : Store → List W → Option W := fun _ ws => match ws with
  | [w, .ty n] => (match tyName w with
    | some t => (kitB t n).map .bl
    | none => none)
  | _ => none
theorem RepM.ofTy {K : KW} {α : List Addr} {Z : Addr → Prop} {H : Hp} {m : Md} {v : V} {n : String} (r : RepM K α Z H m v (.ty n)) : v = .ty n := by
  have r := r.repI rfl
  cases r with
  | ty => rfl
  | mu _ _ s _ => cases s
theorem tyX_of {K : KW} {α : List Addr} {Z : Addr → Prop} {H : Hp} {m : Md} {v : V} {w : W} {t : String} (r : RepM K α Z H m v w) (h : tyName w = some t) : TyX K.K H v (.type t) := by
  cases w with
  | non => cases h; rw [r.ofNon]; exact .base .non
  | bl b => cases h; rw [r.ofBl]; exact .base (.bl b)
  | int b => cases h; rw [r.ofInt]; exact .base (.int b)
  | str b => cases h; rw [r.ofStr]; exact .base (.str b)
  | tup us => cases h; obtain ⟨a, xs, rfl, h0, rl⟩ := r.ofTup; exact .base (.tup h0)
  | lst us => cases h; obtain ⟨a, xs, rfl, h0, rl, _⟩ := r.ofLst; exact .base (.lst h0)
  | dk us =>
    cases h
    obtain ⟨a, o, xs, ws, rfl, h0, s, _⟩ := r.muE rfl
    cases s
    exact .base (.dK h0)
  | dt us =>
    cases h
    obtain ⟨a, o, xs, ws, rfl, h0, s, _⟩ := r.muE rfl
    cases s
    exact .base (.dT h0)
  | _ => cases h
theorem co_isi {K : KW} : CO K (rIsi K.K) gIsi := by
  intro α Z H S vs ws c wo p hg Q q
  unfold gIsi at hg
  split at hg
  · rename_i w n
    split at hg
    · rename_i t ht
      obtain ⟨b, hb, rfl⟩ := Option.map_eq_some_iff.mp hg
      obtain ⟨v, u, rfl, r1, r2⟩ := two_of p
      rw [r2.ofTy]
      exact ⟨v, .ty n, .type t, .type n, b, rfl, .ty n, tyX_of r1 ht, kit_ty hb, q _ _ Keep.refl wo (Got.im (.bl b) rfl)⟩
    · cases hg
  · cases hg
section
variable {X : Cx} {a b e : Expr} {es : List Expr} {fa fb fe : CE} {fs : CA} {pos p : Pos} {x : Str}
theorem e_tyN {n : String} (hm : X.mg x = none) (hv : bootBuiltins x = some (.type n)) (hg : Gl X x := by rfl) (hn : x ≠ "__name__" := by decide) (hd : (x == ("__debug__" : Str)) = false := by decide) : EE X (.Name x pos) (cLit (.ty n)) :=
  e_c (pe_bltn (v := .ty n) hg hm hv rfl hn hd) (fun _ _ _ => .ty n) rfl
theorem e_isi (hm : X.mg "isinstance" = none) (h : EE X e fe) (h2 : EE X b fb) (hg : Gl X "isinstance" := by rfl) (hs : starEach (e :: [b]) X.env = (false, eval e X.env) :: starEach [b] X.env := by rfl) (hs2 : starEach [b] X.env = (false, eval b X.env) :: starEach [] X.env := by rfl)
    (hpl : (backTo pos (starEach [b] X.env)).any (·.1) = false := by rfl) : EE X (.Call (.Name "isinstance" p) [e, b] [] pos) (cBi gIsi (cCons fe (cCons fb cNil))) :=
  e_bi call_isi co_isi hm (a_cons h (a_cons h2 a_nil hs2) hs) (by decide +kernel) hg (by decide) (by decide) hs hpl

/-! ### sorted(d), d a dict with ints as keys -/
def intKeys : List Key → Option (List Int)
  | [] => some []
  | .inl i :: ks => (intKeys ks).map (i :: ·)
  | .inr _ :: _ => none
theorem intKeys_ok : ∀ {ks : List Key} {is : List Int}, intKeys ks = some is → ks = is.map Sum.inl
  | [], _, h => by cases h; rfl
  | .inl i :: ks, _, h => by
    obtain ⟨js, h1, rfl⟩ := Option.map_eq_some_iff.mp h
    rw [intKeys_ok h1]; rfl
  | .inr _ :: _, _, h => by cases h
def sortI (is : List Int) : List Int := is.mergeSort fun a b => decide (a ≤ b)
theorem sortI_perm (is : List Int) : (sortI is).Perm is := List.mergeSort_perm _ _
theorem sortI_sorted (is : List Int) : (sortI is).Pairwise (· ≤ ·) := by
  have h := List.pairwise_mergeSort (le := fun a b : Int => decide (a ≤ b)) (fun a b c h1 h2 => by simp at *; omega) (fun a b => by simp; omega) is
  exact h.imp fun h => by simpa using h
def gSortD : Store → List W → Option W := fun _ ws => match ws with
  | [.dk kvs] => (match intKeys (kvs.map (·.1)) with
    | some is => if is.length < 64 then some (.lst ((sortI is).map .int)) else none
    | none => none)
  | _ => none
theorem co_sortD {K : KW} : CO K (fun xs H Q => ∃ (a : Addr) (kvs : List (Key × V)) (ks : List Int), xs = [V.ref a] ∧ Rd H a (.dK kvs) ∧ kvs.map (·.1) = ks.map Sum.inl ∧ ks.length < 64 ∧
    ∀ (ys : List Int) (p : Addr), ys.Perm ks → ys.Pairwise (· ≤ ·) → H p = none → Q (.ref p) (upd H p (.lst (ys.map V.int)))) gSortD := by
  intro α Z H S vs ws c wo p hg Q q
  unfold gSortD at hg
  split at hg
  · rename_i kvs
    split at hg
    · rename_i is his
      split at hg
      · rename_i h64
        cases hg
        obtain ⟨v, rfl, r⟩ := one_of p
        obtain ⟨a, o, xs, ws, rfl, h0, s, rl, _⟩ := r.muE rfl
        cases s with
        | @dk vkvs _ e =>
          refine ⟨a, vkvs, is, rfl, .inl h0, by rw [e]; exact intKeys_ok his, h64, fun ys p hp hs hn => ?_⟩
          have e2 : ys = sortI is := PySem.W.ksm_same (hp.trans (sortI_perm is).symm) hs (sortI_sorted is)
          subst e2
          exact new_list (m := .own) wo RepL.ints q p hn
      · cases hg
    · cases hg
  · cases hg
theorem e_sortD (hc : X.calm = true) (hm : X.mg "sorted" = none) (h : EE X e fe) (hg : Gl X "sorted" := by rfl) (hs : starEach [e] X.env = (false, eval e X.env) :: starEach [] X.env := by rfl) : EE X (.Call (.Name "sorted" p) [e] [] pos) (cBi gSortD (cCons fe cNil)) :=
  e_bi (call_sortedDI hc) co_sortD hm (a_cons h a_nil hs) (by decide +kernel) hg (by decide) (by decide) hs
end

/-! ### enumerate(tuple) -/
set_option maxHeartbeats 1000000 in
theorem meets_enumOne {val : Value} {itO : Obj} {Hs : Heap → Prop} (Bg : Begins val itO Hs) :
    Meets (Builtin.«enumerate.__new__» ⟨[.type "enumerate", val], []⟩) (fun _ R st => Hs st.heap ∧
      R (.ok (.ret (.ref (st.heap.push itO).objs.size))) { st with heap := (st.heap.push itO).push { cls := .type "enumerate", data := .fields #[.none, .bool false, .ref st.heap.objs.size, rawInt 0, .none, .none] } }) :=
  .of_wp fun prog w A R st hyp => by
    obtain ⟨hp, g, d, tk, os⟩ := st
    obtain ⟨hb1, hb2⟩ := hyp
    have hsub := sub_enumerate
    have begin_ : ∀ {A' : Around} {E : Value → Shared → Prop} {Q : Value → Shared → Prop}, Q (.ref hp.objs.size) ⟨hp.push itO, g, d, tk, os⟩ → wpAny (model prog w) A' (pyIter val) Q E ⟨hp, g, d, tk, os⟩ :=
      fun k => Bg.iter prog w _ _ ⟨hp, g, d, tk, os⟩ _ hb1 k
    wp_walk using begin_
    refine wpAny_stack_any fun stk => wpAny_pure ?_
    split
    · rename_i cc _ _ _ _ _
      cases (cc == Value.type "enumerate")
      · wp_walk using begin_
        exact ⟨_, rfl, hb2⟩
      · wp_walk using begin_
        exact ⟨_, rfl, hb2⟩
    · wp_walk using begin_
      exact ⟨_, rfl, hb2⟩
theorem enumOne_begins {prog : Program} {w : World} {A : Around} {E : Value → Shared → Prop} {s : Shared} {val : Value} {itO : Obj} {Hs : Heap → Prop} {Q : Value → Shared → Prop} (Bg : Begins val itO Hs) (h1 : Hs s.heap)
    (h : ∀ h', IsEnum h' (s.heap.objs.size + 1) s.heap.objs.size 0 .none → h'.get? s.heap.objs.size = some itO → h'.objs.size = s.heap.objs.size + 2 →
      (∀ b o, s.heap.get? b = some o → h'.get? b = some o) → Q (.ref (s.heap.objs.size + 1)) { s with heap := h' }) :
    wpAny (model prog w) A (call (.type "enumerate") [val]) Q E s := by
  refine callType_new F.called_enumerate (by decide) (F.typeCall_enumerate_1 _) (F.newCall_enumerate_1 _) (fun obj => F.args_object_init_2 obj _) F.entry_enumerate_new (meets_enumOne Bg) ⟨h1, ?_⟩
  have hz : (s.heap.push itO).objs.size = s.heap.objs.size + 1 := Heap.size_push ..
  show _ ∧ _
  rw [hz]
  have he : IsEnum ((s.heap.push itO).push { cls := .type "enumerate", data := .fields #[.none, .bool false, .ref s.heap.objs.size, rawInt 0, .none, .none] }) (s.heap.objs.size + 1) s.heap.objs.size 0 .none := by
    have q := Heap.get?_push_size (s.heap.push itO) (o := { cls := .type "enumerate", data := .fields #[.none, .bool false, .ref s.heap.objs.size, rawInt 0, .none, .none] }) rfl
    rw [hz] at q; exact q
  exact ⟨⟨_, he, rfl⟩, h _ he (Heap.get?_push_of_some _ (Heap.get?_push_size _ Bg.free)) (by rw [Heap.size_push, hz]) fun b o x => Heap.get?_push_of_some _ (Heap.get?_push_of_some _ x)⟩
/-- the tuple at a, each item in a new pair -/
def IteT (K : PySem.W.Frag) (a : Addr) : It :=
  ⟨fun i H => ∃ (xs : List V) (x : V), SqT K H a xs ∧ xs[i]? = some x, fun i H v H' => ∃ T x, v = .ref T ∧ H T = none ∧ H' = upd H T (.tup [.int (i : Nat), x]) ∧ ∀ xs, SqT K H a xs → xs[i]? = some x, fun i H => ∃ xs : List V, SqT K H a xs ∧ i = xs.length⟩
theorem turn_enumT {P : Program} {w : World} {K : PySem.W.Frag} {elts : List Expr} {kk : Nat} {tpos : Pos} (a en it : Addr) :
    Turn P w K (.Tuple elts kk tpos) (IteT K a) [en, it] en (fun i h => (∃ old, IsEnum h en it ((i : Nat) : Int) old) ∧ h.IsTupleIter it a i ∧ en ≠ it ∧ a ≠ it ∧ a ≠ en) where
  mem := by simp
  obj := fun i h st b hb => by
    obtain ⟨⟨old, hen⟩, ⟨ob, hob, hcls, hdat⟩, _⟩ := st
    rcases (show b = en ∨ b = it by simpa using hb) with rfl | rfl
    · exact ⟨_, hen, fun v q => nomatch q⟩
    · exact ⟨ob, hob, fun v q => by rw [hdat] at q; cases q⟩
  keep := fun i h h' st k => by
    obtain ⟨⟨old, hen⟩, hi, r⟩ := st
    exact ⟨⟨old, k en (by simp) _ hen⟩, hi.at fun o q => k it (by simp) o q, r⟩
  item := by
    intro X hP hw hK hc i pins s σ H E I hf st hg
    subst hP hw hK
    obtain ⟨⟨old, hen⟩, hti, hne, hai, hae⟩ := st
    obtain ⟨xs, x, hq, hx⟩ := hg
    obtain ⟨its, rv, tp, hz⟩ := I.tuple hq
    have lt1 : en < s.heap.objs.size := Heap.lt_size hen
    have lt2 : it < s.heap.objs.size := by obtain ⟨_, q, _⟩ := hti; exact Heap.lt_size q
    have D := Draws.tuple (prog := X.prog) (w := X.w) (A := X.A.in1) (I.ok.hd hc) it a hai its.toArray
    have hlen : i < its.toArray.size := by
      obtain ⟨hlt, _⟩ := List.getElem?_eq_some_iff.mp hx
      rw [List.size_toArray, ← rv.length]; exact hlt
    refine wpAny_pyNext_enum_itemC D hen ⟨hti, tp⟩ hlen hne (by simp only [List.mem_cons, List.not_mem_nil, or_false, not_or]; exact ⟨hne, hae.symm⟩) fun u h' tk hu hout hst' hT hsz hk => ?_
    have hu : its[i]? = some u := by simpa using hu
    obtain ⟨u', hu', ru⟩ := rv.get hx
    rw [hu] at hu'
    cases hu'
    refine ⟨_, rfl, wpAny_letOwnedTupleGo_enum (s := { s with heap := h', toks := tk + 1 }) hout fun h2 he2 sb => ?_⟩
    have hT2 : h2.get? s.heap.objs.size = some { cls := .type "tuple", data := .seq #[.int i tk, u] } := (sb.2 _ (Nat.ne_of_gt lt1)).trans hT
    have new : ObjOk X.prog X.w (upd H s.heap.objs.size (.tup [.int (i : Nat), x])) h2 s.heap.objs.size (.tup [.int (i : Nat), x]) :=
      ⟨by show 2 ≤ sizeLine; decide, [.int i tk, u], .cons ⟨_, rfl⟩ (.cons ru .nil), ⟨_, hT2, rfl, _, rfl⟩⟩
    have I2 := I.turnedNew (t' := tk + 1) (ch := [en, it]) (fun b ob hb q => (sb.2 b (fun z => hb (by simp [z]))).trans (hk b ob (fun z => hb (by simp [z])) (fun z => hb (by simp [z])) q)) hf (Nat.le_refl _) new
    refine ⟨.ref s.heap.objs.size, _, I2, rfl, ⟨_, x, rfl, I.hok.fresh (Nat.le_refl _), rfl, fun ys hy => by rw [I.tuple_inj hy hq]; exact hx⟩, ⟨⟨u, ?_⟩, hst'.1.at fun o q => (sb.2 it (Ne.symm hne)).trans q, hne, hai, hae⟩, fun b hb => ?_⟩
    · have e1 : ((i + 1 : Nat) : Int) = (i : Int) + 1 := by omega
      rw [e1]; exact he2
    · have hlt : b < s.heap.objs.size := by
        rcases (show b = en ∨ b = it by simpa using hb) with rfl | rfl
        · exact lt1
        · exact lt2
      rw [upd_ne (Nat.ne_of_lt hlt)]
      exact (hf b hb).1
  done := by
    intro X hP hw hK hc i pins s σ H E I hf st hg
    subst hP hw hK
    obtain ⟨⟨old, hen⟩, hti, hne, hai, hae⟩ := st
    obtain ⟨xs, hq, hx⟩ := hg
    obtain ⟨its, rv, tp, hz⟩ := I.tuple hq
    obtain ⟨f0, f1, f2, f3, f4, f5⟩ := hf it (by simp)
    have D := Draws.tuple (prog := X.prog) (w := X.w) (A := X.A.in1) (I.ok.hd hc) it a hai its.toArray
    have hi : i = its.toArray.size := by rw [hx, List.size_toArray, ← rv.length]
    exact wpAny_pyNext_enum_endD D hen ⟨by rw [← hi]; exact hti, tp⟩ fun h' eb => ⟨rfl, I.turned (t' := s.toks) (fun b o hb q => eb b o hb q) f0 f1 f3 f4 f5⟩
  self := fun A i s Q E st h => let ⟨⟨_, hen⟩, _⟩ := st; wpAny_pyIter_enum hen h
def iEnumA (K : PySem.W.Frag) (ta : TA) : TI := fun σ H R => ta σ H fun vs H1 => ∃ a xs, vs = [V.ref a] ∧ SqT K H1 a xs ∧ R (IteT K a) H1
theorem pi_enumT {X : Cx} {e : Expr} {ta : TA} {p pos tpos : Pos} {elts : List Expr} {kk : Nat} (hg : Gl X "enumerate") (hm : X.mg "enumerate" = none) (ha : PA X [e] ta) (hs : starEach [e] X.env = [(false, eval e X.env)]) :
    PI X (.Tuple elts kk tpos) (.Call (.Name "enumerate" p) [e] [] pos) (iEnumA X.K ta) := by
  refine ⟨fun pins s σ H R I h => ?_⟩
  refine Call_ (ld_blt I hg hm boot_enumerate (PyProof.Rows.callWith_type1 (thn (ha.run pos pins s σ H _ I h) fun us s1 ⟨vs, H1, I1, rs, hh⟩ => ?_) hs rfl))
  obtain ⟨a, xs, ex, hq, q⟩ := hh
  subst ex
  cases rs with
  | cons r rr =>
    cases rr
    cases r
    obtain ⟨its, rv, tp, hz⟩ := I1.tuple hq
    have hlt : a < s1.heap.objs.size := tp.lt
    refine enumOne_begins (begins_tuple a its.toArray) tp fun h' hen hit hsz hk => wpAny_pyIter_enum hen ?_
    have I2 : Inv X pins σ H1 { s1 with heap := h' } := I1.kept (t' := s1.toks) hk
    refine ⟨s1.heap.objs.size + 1, [s1.heap.objs.size + 1, s1.heap.objs.size], _, _, H1, rfl, I2, turn_enumT a (s1.heap.objs.size + 1) s1.heap.objs.size, ⟨⟨.none, hen⟩, ⟨_, hit, rfl, rfl⟩, Nat.succ_ne_self _, Nat.ne_of_lt hlt, Nat.ne_of_lt (Nat.lt_succ_of_lt hlt)⟩, fun b hb => ?_, q⟩
    have hle : s1.heap.objs.size ≤ b := by
      rcases (show b = s1.heap.objs.size + 1 ∨ b = s1.heap.objs.size by simpa using hb) with rfl | rfl
      · exact Nat.le_succ _
      · exact Nat.le_refl _
    exact I1.fpOk hle (I1.hok.fresh hle)
def enumW (ws : List W) : List W := ws.zipIdx.map fun p => .tup [.int (p.2 : Nat), p.1]
theorem enumW_get (ws : List W) (i : Nat) : (enumW ws)[i]? = (ws[i]?).map fun w => .tup [.int (i : Nat), w] := by
  unfold enumW
  rw [List.getElem?_map, List.getElem?_zipIdx]
  cases ws[i]? with
  | none => rfl
  | some w => simp
theorem enumW_len (ws : List W) : (enumW ws).length = ws.length := by
  unfold enumW
  rw [List.length_map, List.length_zipIdx]
section
variable {X : Cx} {K : KW} {α : List Addr} {Z : Addr → Prop} {H : Hp} {S : Store} {ρ : Env} {σ : L2.St} {a : Addr} {xs : List V} {ws : List W} {elts : List Expr} {kk : Nat} {tpos p pos : Pos} {e : Expr}
theorem pair_new {H2 : Hp} {α2 : List Addr} {Z2 : Addr → Prop} {S2 : Store} {i : Nat} {T : Addr} {x : V} {w : W} (w2 : WOk K H2 S2 α2 Z2) (hT : H2 T = none) (r : Rep K α2 Z2 H2 x w) : Rep K α2 Z2 (upd H2 T (.tup [.int (i : Nat), x])) (.ref T) (.tup [.int (i : Nat), w]) :=
  .tup upd_same (.cons (.int _) (.cons (r.keep w2 (Keep.new hT)) .nil))
theorem walks_enum (w : WOk K H S α Z) (en : EnvOk K α Z H ρ σ) (h : H a = some (.lst xs)) (hn : a ∉ α) (no : ¬ OwnRoot ρ σ a) (r : RepL K α Z H xs ws) : Walks K (Ite K.K a) (enumW ws) (hide ρ σ H) α Z := by
  intro H2 α2 Z2 S2 k w2 i
  have h2 : H2 a = some (.lst xs) := k.h _ _ (hide_some h no) hn
  have r2 : RepL K α2 Z2 H2 xs ws := (en.hideL r).keep (en.hideW w) k
  rw [enumW_get, enumW_len]
  refine ⟨fun u hu => ?_, fun hu => ⟨xs, .of h2, by rw [r2.length, hu]; exact Nat.le_refl _⟩⟩
  obtain ⟨w0, hw0, rfl⟩ := Option.map_eq_some_iff.mp hu
  obtain ⟨v, hv, rv⟩ := r2.get hw0
  refine ⟨⟨xs, v, .of h2, hv⟩, fun x H' y => ?_⟩
  obtain ⟨T, x', rfl, hT, rfl, y⟩ := y
  have q := y xs (.of h2)
  rw [hv] at q
  cases q
  exact ⟨.inr ⟨T, _, hT, rfl⟩, pair_new w2 hT rv⟩
theorem walks_enumT (w : WOk K H S α Z) (en : EnvOk K α Z H ρ σ) (h : H a = some (.tup xs)) (r : RepL K α Z H xs ws) : Walks K (IteT K.K a) (enumW ws) (hide ρ σ H) α Z := by
  intro H2 α2 Z2 S2 k w2 i
  have hh : hide ρ σ H a = some (.tup xs) := hide_some h fun q => by
    obtain ⟨o, w, xs', ws', h0, s, _⟩ := en.root q
    rw [h] at h0; cases h0; exact s.ntup _ rfl
  have h2 : H2 a = some (.tup xs) := k.tup (en.hideW w).noTup hh
  have r2 : RepL K α2 Z2 H2 xs ws := (en.hideL r).keep (en.hideW w) k
  rw [enumW_get, enumW_len]
  refine ⟨fun u hu => ?_, fun hu => ⟨xs, .of h2, by rw [r2.length, hu]⟩⟩
  obtain ⟨w0, hw0, rfl⟩ := Option.map_eq_some_iff.mp hu
  obtain ⟨v, hv, rv⟩ := r2.get hw0
  refine ⟨⟨xs, v, .of h2, hv⟩, fun x H' y => ?_⟩
  obtain ⟨T, x', rfl, hT, rfl, y⟩ := y
  have q := y xs (.of h2)
  rw [hv] at q
  cases q
  exact ⟨.inr ⟨T, _, hT, rfl⟩, pair_new w2 hT rv⟩
/-- for k, x in enumerate(name) -/
def iEnV (i : Nat) : CI := fun ρ S => bnd (iVar i ρ S) fun ws S => some (enumW ws, S)
theorem i_enumV (i : Nat) {x : Str} {p1 : Pos} (hm : X.mg "enumerate" = none) (hg : Gl X "enumerate" := by rfl) (hN : X.N[i]? = some x := by rfl) (hv : Vis X.env.scope x := by first | exact Or.inl rfl | exact Or.inr (Or.inl rfl) | exact Or.inr (Or.inr rfl)) (hd : (x == ("__debug__" : Str)) = false := by decide)
    (hcd : (x == ("__classdict__" : Str)) = false := by decide) (hs : starEach [.Name x p1] X.env = [(false, eval (.Name x p1) X.env)] := by rfl) (hs2 : starEach (Expr.Name x p1 :: []) X.env = (false, eval (.Name x p1) X.env) :: starEach [] X.env := by rfl) :
    EI X (.Tuple elts kk tpos) (.Call (.Name "enumerate" p) [.Name x p1] [] pos) (iEnV i) :=
  PI.cons (PI.or (pi_enum hg hm (pa_cons (pe_var hN hv hd hcd) pa_nil hs2) hs) (pi_enumT hg hm (pa_cons (pe_var hN hv hd hcd) pa_nil hs2) hs)) fun σ H R ⟨ρ, S, α, Z, ws, S', wo, en, h, q⟩ => by
    obtain ⟨ws0, S1, h, h9⟩ := of_bnd h
    cases h9
    unfold iVar at h
    split at h
    · rename_i w m hr
      split at h
      · cases h
      · rename_i hno
        obtain ⟨ws', hw, e⟩ := Option.map_eq_some_iff.mp h
        cases e
        obtain ⟨v, e1, r1⟩ := en.slot i w m hr
        cases w with
        | tup us =>
          cases hw
          obtain ⟨a, xs, rfl, h0, rl⟩ := r1.ofTup
          exact .inr ⟨_, e1, a, xs, rfl, .of h0, q _ _ _ _ Keep.refl wo (walks_enumT wo en h0 rl)⟩
        | lst us =>
          cases hw
          obtain ⟨a, xs, rfl, h0, rl, hn, c1, c2⟩ := r1.ofLst
          refine .inl ⟨_, e1, a, xs, rfl, .of h0, q _ _ _ _ Keep.refl wo (walks_enum wo en h0 hn (fun ro => ?_) rl)⟩
          obtain ⟨j, w', g1, g2, g3⟩ := ro
          by_cases hij : j = i
          · subst hij
            rw [hr] at g1
            cases g1
            exact hno ⟨rfl, rfl⟩
          · exact en.sep j i w' _ m hij g1 g2 hr rfl (g3.trans e1.symm)
        | _ => cases hw
    · cases h
end
end Mp
/-! reckoning with the evaluator's functions -/
namespace Mp
open PySem PySem.Spec PyProof.Rows L2

/-! ### values -/
section
variable (b : Bool) (i : Int) (x : Str) (ws : List W) (kvs : List (Key × W)) (tvs : List (List Key × W)) (ns : List Int) (n : Nat) (m : Md) (t : String)
@[simp] theorem mut_non : W.mut .non = false := rfl
@[simp] theorem mut_bl : W.mut (.bl b) = false := rfl
@[simp] theorem mut_int : W.mut (.int i) = false := rfl
@[simp] theorem mut_str : W.mut (.str x) = false := rfl
@[simp] theorem mut_tup : W.mut (.tup ws) = false := rfl
@[simp] theorem mut_lst : W.mut (.lst ws) = true := rfl
@[simp] theorem mut_dk : W.mut (.dk kvs) = true := rfl
@[simp] theorem mut_dt : W.mut (.dt tvs) = true := rfl
@[simp] theorem mut_scr : W.mut (.scr ns) = false := rfl
@[simp] theorem mut_cel : W.mut (.cel n) = false := rfl
@[simp] theorem sto_non : sto (.non, m) = true := rfl
@[simp] theorem sto_bl : sto (.bl b, m) = true := rfl
@[simp] theorem sto_int : sto (.int i, m) = true := rfl
@[simp] theorem sto_str : sto (.str x, m) = true := rfl
@[simp] theorem sto_tup : sto (.tup ws, m) = true := rfl
@[simp] theorem sto_scr : sto (.scr ns, m) = true := rfl
@[simp] theorem sto_cel : sto (.cel n, m) = true := rfl
@[simp] theorem sto_own (w : W) : sto (w, .own) = true := by unfold sto; simp
@[simp] theorem sto_frz (w : W) : sto (w, .frz) = true := by unfold sto; simp
theorem sto_im {w : W} (h : w.mut = false) : sto (w, m) = true := by unfold sto; simp [h]
@[simp] theorem md_non : md (.non, m) = (.non, .frz) := rfl
@[simp] theorem md_bl : md (.bl b, m) = (.bl b, .frz) := rfl
@[simp] theorem md_int : md (.int i, m) = (.int i, .frz) := rfl
@[simp] theorem md_str : md (.str x, m) = (.str x, .frz) := rfl
@[simp] theorem md_tup : md (.tup ws, m) = (.tup ws, .frz) := rfl
@[simp] theorem md_lst : md (.lst ws, m) = (.lst ws, m) := rfl
@[simp] theorem md_dk : md (.dk kvs, m) = (.dk kvs, m) := rfl
@[simp] theorem md_dt : md (.dt tvs, m) = (.dt tvs, m) := rfl
@[simp] theorem md_scr : md (.scr ns, m) = (.scr ns, .frz) := rfl
@[simp] theorem md_cel : md (.cel n, m) = (.cel n, .frz) := rfl
theorem md_im {w : W} (h : w.mut = false) : md (w, m) = (w, .frz) := by unfold md; simp [h]
end

/-! ### the combinators' equations -/
section
variable (ρ : Env) (S : Store)
@[simp] theorem q_lit (w : W) : cLit w ρ S = some ((w, .frz), S) := rfl
@[simp] theorem q_nil : cNil ρ S = some ([], S) := rfl
@[simp] theorem q_cons (f : CE) (g : CA) : cCons f g ρ S = bnd (f ρ S) fun r S => bnd (g ρ S) fun rs S => some (r :: rs, S) := rfl
theorem q_var (i : Nat) : cVar i ρ S = match ρ[i]? with
  | some (some (w, m)) => some ((w, if m = .own then .brw else m), S)
  | _ => none := rfl
@[simp] theorem q_bin (g : W → W → Option W) (fa fb : CE) : cBin g fa fb ρ S = bnd (fa ρ S) fun a S => bnd (fb ρ S) fun b S => (g a.1 b.1).map fun c => ((c, .own), S) := rfl
@[simp] theorem q_tup (f : CA) : cTup f ρ S = bnd (f ρ S) fun rs S => if rs.all sto = true ∧ rs.length ≤ sizeLine then some ((.tup (rs.map (·.1)), .own), S) else none := rfl
@[simp] theorem q_lst (f : CA) : cLst f ρ S = bnd (f ρ S) fun rs S => if rs.all sto = true ∧ rs.length ≤ sizeLine then some ((.lst (rs.map (·.1)), .own), S) else none := rfl
@[simp] theorem q_box (f : CA) : cBox f ρ S = bnd (f ρ S) fun rs S => if rs.all sto = true ∧ rs.length ≤ sizeLine then some ((.cel S.length, .own), S ++ [.lst (rs.map (·.1))]) else none := rfl
@[simp] theorem q_neg (f : CE) : cNeg f ρ S = bnd (f ρ S) fun r S => match r.1 with | .int i => some ((.int (-i), .own), S) | _ => none := rfl
@[simp] theorem q_notT (f : CT) : cNotT f ρ S = bnd (f ρ S) fun b S => some (!b, S) := rfl
@[simp] theorem q_andT (f g : CT) : cAndT f g ρ S = bnd (f ρ S) fun b S => if b = true then g ρ S else some (false, S) := rfl
@[simp] theorem q_orT (f g : CT) : cOrT f g ρ S = bnd (f ρ S) fun b S => if b = true then some (true, S) else g ρ S := rfl
@[simp] theorem q_notV (f : CE) : cNotV f ρ S = bnd (f ρ S) fun r S => match r.1 with | .bl b => some ((.bl (!b), .own), S) | _ => none := rfl
@[simp] theorem q_andV (f g : CE) : cAndV f g ρ S = bnd (f ρ S) fun r S => match r.1 with | .bl b => if b = true then g ρ S else some ((.bl false, .own), S) | _ => none := rfl
@[simp] theorem q_orV (f g : CE) : cOrV f g ρ S = bnd (f ρ S) fun r S => match r.1 with | .bl b => if b = true then some ((.bl true, .own), S) else g ρ S | _ => none := rfl
@[simp] theorem q_if (c : CT) (f g : CE) : cIf c f g ρ S = bnd (c ρ S) fun b S => if b = true then f ρ S else g ρ S := rfl
@[simp] theorem q_B (f : CE) : cB f ρ S = bnd (f ρ S) fun r S => match r.1 with | .bl b => some (b, S) | _ => none := rfl
@[simp] theorem q_ix (fa fb : CE) : cIx fa fb ρ S = bnd (fa ρ S) fun a S => bnd (fb ρ S) fun b S => (gIx S a.1 b.1).map fun c => ((c, .frz), S) := rfl
@[simp] theorem q_call (m : FnSem) (fs : CA) : cCall m fs ρ S = bnd (fs ρ S) fun rs S => m (rs.map (·.1)) S := rfl
@[simp] theorem q_bi (g : Store → List W → Option W) (fs : CA) : cBi g fs ρ S = bnd (fs ρ S) fun rs S => (g S (rs.map (·.1))).map fun c => ((c, .own), S) := rfl
@[simp] theorem q_sl (f : CE) (lo hi : CO1) : cSl f lo hi ρ S = bnd (f ρ S) fun r S => bnd (lo ρ S) fun l S => bnd (hi ρ S) fun h S => (gSl r.1 l h).map fun c => ((c, .own), S) := rfl
@[simp] theorem q_oNone : oNone ρ S = some (none, S) := rfl
@[simp] theorem q_oSome (f : CE) : oSome f ρ S = bnd (f ρ S) fun r S => match r.1 with | .int i => some (some i, S) | _ => none := rfl
@[simp] theorem q_dk : cDk ρ S = some ((.dk [], .own), S) := rfl
@[simp] theorem q_dt : cDt ρ S = some ((.dt [], .own), S) := rfl
@[simp] theorem q_yesT : tYesT ρ S = some (true, S) := rfl
@[simp] theorem q_get2 (fd fk fx : CE) : cGet2 fd fk fx ρ S = bnd (fd ρ S) fun d S => if isDicS S d.1 = true then bnd (fk ρ S) fun k S => bnd (fx ρ S) fun x S => match dicS S d.1 k.1 with
  | some (some w) => some ((w, .frz), S)
  | some none => some (x, S)
  | none => none
  else none := rfl
@[simp] theorem q_lc (t : CG) (it : CI) (c : CT) (f : CE) (vs : List Nat) : cLc t it c f vs ρ S = bnd (it ρ S) fun ws S => if ws.length ≤ sizeLine then bnd (lcL t c f (wipeE ρ vs) ws S) fun rs S => some ((.lst rs, .own), S) else none := rfl
@[simp] theorem q_iExp (f : CE) : iExp f ρ S = bnd (f ρ S) fun r S => if sto r = true then (itemsOf r.1).map fun ws => (ws, S) else none := rfl
theorem q_iVar (i : Nat) : iVar i ρ S = match ρ[i]? with
  | some (some (w, m)) => if w.mut = true ∧ m = .own then none else (itemsOf w).map fun ws => (ws, S)
  | _ => none := rfl
@[simp] theorem q_iEnV (i : Nat) : iEnV i ρ S = bnd (iVar i ρ S) fun ws S => some (enumW ws, S) := rfl
@[simp] theorem q_range1 (f : CE) : iRange1 f ρ S = bnd (f ρ S) fun r S => match r.1 with
  | .int j => if j.natAbs < 1073741824 then some (rangeW 0 j.toNat, S) else none
  | _ => none := rfl
@[simp] theorem q_range2 (f g : CE) : iRange2 f g ρ S = bnd (f ρ S) fun a S => bnd (g ρ S) fun b S => match a.1, b.1 with
  | .int i, .int j => if i.natAbs < 1073741824 ∧ j.natAbs < 1073741824 then some (rangeW i (j - i).toNat, S) else none
  | _, _ => none := rfl
@[simp] theorem items_tup (ws : List W) : itemsOf (.tup ws) = some ws := rfl
@[simp] theorem items_lst (ws : List W) : itemsOf (.lst ws) = some ws := rfl
-- statements
theorem q_seq (f g : CS) : cSeq f g ρ S = match f ρ S with
  | some (.nx ρ' S') => g ρ' S'
  | o => o := rfl
@[simp] theorem q_skip : cSkip ρ S = some (.nx ρ S) := rfl
@[simp] theorem q_ret (f : CE) : cRet f ρ S = bnd (f ρ S) fun r S => if sto r = true then some (.rt r S) else none := rfl
theorem q_retV (i : Nat) : cRetV i ρ S = match ρ[i]? with
  | some (some r) => if sto r = true then some (.rt r S) else none
  | _ => none := rfl
@[simp] theorem q_ifS (t : CT) (f g : CS) : cIfS t f g ρ S = bnd (t ρ S) fun b S => if b = true then f ρ S else g ρ S := rfl
@[simp] theorem q_asg (t : CG) (f : CE) : cAsg t f ρ S = bnd (f ρ S) fun r S => (t r ρ).map fun ρ' => .nx ρ' S := rfl
@[simp] theorem q_drop (f : CE) : cDrop f ρ S = bnd (f ρ S) fun _ S => some (.nx ρ S) := rfl
@[simp] theorem q_for (t : CG) (it : CI) (b : CS) : cFor t it b ρ S = bnd (it ρ S) fun ws S => cForL t b ws ρ S := rfl
@[simp] theorem q_tName (i : Nat) (r : Wm) : tName i r ρ = if sto r = true then some (ρ.set i (some (md r))) else none := rfl
@[simp] theorem q_tTup (n : Nat) (t : List W → Env → Option Env) (ws : List W) (m : Md) : tTup n t (.tup ws, m) ρ = if ws.length = n then t ws ρ else none := rfl
@[simp] theorem q_tCons (t : CG) (u : List W → Env → Option Env) (w : W) (ws : List W) : tCons t u (w :: ws) ρ = (t (w, .frz) ρ).bind (u ws) := rfl
@[simp] theorem q_tNil : tNil [] ρ = some ρ := rfl
@[simp] theorem q_fz (is : List Nat) (f : CS) : cFz is f ρ S = f (is.foldl frzE ρ) S := rfl
theorem q_frzE (i : Nat) : frzE ρ i = match ρ[i]? with
  | some (some (w, .own)) => ρ.set i (some (w, .frz))
  | _ => ρ := rfl
theorem q_app (i : Nat) (f : CE) : cApp i f ρ S = bnd (f ρ S) fun r S => if sto r = true then (match ρ[i]? with
  | some (some (.lst ws, .own)) => if ws.length < sizeLine then some (.nx (ρ.set i (some (.lst (ws ++ [r.1]), .own))) S) else none
  | _ => none) else none := rfl
theorem q_aug (i : Nat) (g : W → W → Option W) (f : CE) : cAug i g f ρ S = bnd (f ρ S) fun r S => match ρ[i]? with
  | some (some (w, _)) => (match g w r.1 with
    | some (.int z) => some (.nx (ρ.set i (some (.int z, .frz))) S)
    | _ => none)
  | _ => none := rfl
@[simp] theorem q_setIx (i : Nat) (fk fe : CE) : cSetIx i fk fe ρ S = bnd (fe ρ S) fun r S => bnd (fk ρ S) fun k S => if sto r = true then setAt ρ S i k.1 r.1 else none := rfl
@[simp] theorem q_wipe0 : wipeE ρ [] = ρ := rfl
@[simp] theorem q_wipe (v : Nat) (vs : List Nat) : wipeE ρ (v :: vs) = (wipeE ρ vs).set v none := rfl
end
@[simp] theorem lc_nil (t : CG) (c : CT) (f : CE) (ρ : Env) (S : Store) : lcL t c f ρ [] S = some ([], S) := rfl
theorem lc_cons (t : CG) (c : CT) (f : CE) (ρ : Env) (w : W) (ws : List W) (S : Store) : lcL t c f ρ (w :: ws) S = match t (w, .frz) ρ with
    | none => none
    | some ρ1 => bnd (c ρ1 S) fun b S1 => if b = true then bnd (f ρ1 S1) fun r S2 => if sto r = true then bnd (lcL t c f ρ ws S2) fun rs S3 => some (r.1 :: rs, S3) else none
        else lcL t c f ρ ws S1 := rfl
@[simp] theorem for_nil (t : CG) (b : CS) (ρ : Env) (S : Store) : cForL t b [] ρ S = some (.nx ρ S) := rfl
theorem for_cons (t : CG) (b : CS) (w : W) (ws : List W) (ρ : Env) (S : Store) : cForL t b (w :: ws) ρ S = match t (w, .frz) ρ with
  | none => none
  | some ρ1 => match b ρ1 S with
    | some (.nx ρ2 S2) => cForL t b ws ρ2 S2
    | some (.ct ρ2 S2) => cForL t b ws ρ2 S2
    | some (.bk ρ2 S2) => some (.nx ρ2 S2)
    | some (.rt r S2) => some (.rt r S2)
    | none => none := rfl

/-- how a def's body ends -/
def fin (o : Option SOut) : Option (Wm × Store) := match o with
  | some (.rt r S') => if sto r = true then some (r, S') else none
  | some (.nx _ S') => some ((.non, .own), S')
  | _ => none
theorem cFn_run {n N : Nat} {c : CS} {ws : List W} {S : Store} (h : ws.length = n) : cFn n N c ws S = fin (c (ws.map (fun w => some (w, Md.brw)) ++ List.replicate (N - n) none) S) := by
  unfold cFn
  rw [if_pos h]
  rfl
@[simp] theorem fin_rt (r : Wm) (S : Store) : fin (some (.rt r S)) = if sto r = true then some (r, S) else none := rfl
@[simp] theorem fin_nx (ρ : Env) (S : Store) : fin (some (.nx ρ S)) = some ((.non, .own), S) := rfl

/-! ### loops -/
/-- a comprehension whose turns are f x, the store kept -/
theorem lc_map {A : Type} {t : CG} {c : CT} {f : CE} {ρ : Env} {S : Store} {enc : A → W} {g : A → W} : ∀ {xs : List A},
    (∀ x ∈ xs, ∃ ρ1 m, t (enc x, .frz) ρ = some ρ1 ∧ c ρ1 S = some (true, S) ∧ f ρ1 S = some ((g x, m), S) ∧ sto (g x, m) = true) → lcL t c f ρ (xs.map enc) S = some (xs.map g, S)
  | [], _ => rfl
  | x :: xs, h => by
    obtain ⟨ρ1, m, h1, h2, h3, h4⟩ := h x List.mem_cons_self
    rw [List.map_cons, lc_cons, h1]
    simp only [h2, bnd_some, if_true, h3, h4]
    rw [lc_map fun y hy => h y (List.mem_cons_of_mem _ hy)]
    rfl
theorem lc_filter {A : Type} {t : CG} {c : CT} {f : CE} {ρ : Env} {S : Store} {enc : A → W} {g : A → W} {p : A → Bool} : ∀ {xs : List A},
    (∀ x ∈ xs, ∃ ρ1 m, t (enc x, .frz) ρ = some ρ1 ∧ c ρ1 S = some (p x, S) ∧ (p x = true → f ρ1 S = some ((g x, m), S) ∧ sto (g x, m) = true)) → lcL t c f ρ (xs.map enc) S = some ((xs.filter p).map g, S)
  | [], _ => rfl
  | x :: xs, h => by
    obtain ⟨ρ1, m, h1, h2, h3⟩ := h x List.mem_cons_self
    have ih := lc_filter fun y hy => h y (List.mem_cons_of_mem _ hy)
    rw [List.map_cons, lc_cons, h1]
    simp only [h2, bnd_some]
    by_cases hp : p x = true
    · obtain ⟨h4, h5⟩ := h3 hp
      rw [if_pos hp, List.filter_cons_of_pos hp]
      simp only [h4, bnd_some, h5, if_true]
      rw [ih]; rfl
    · rw [if_neg hp, List.filter_cons_of_neg hp]
      exact ih
/-- a comprehension that draws: what each turn gives is R -/
theorem lc_ex {t : CG} {c : CT} {f : CE} {ρ : Env} {I : Store → Prop} {R : W → W → Prop} : ∀ {ws : List W} {S : Store}, I S →
    (∀ w ∈ ws, ∀ S, I S → ∃ ρ1 g m S2, t (w, .frz) ρ = some ρ1 ∧ c ρ1 S = some (true, S) ∧ f ρ1 S = some ((g, m), S2) ∧ sto (g, m) = true ∧ I S2 ∧ R w g) → ∃ gs S2, lcL t c f ρ ws S = some (gs, S2) ∧ I S2 ∧ Paired R ws gs
  | [], S, hI, _ => ⟨[], S, rfl, hI, .nil⟩
  | w :: ws, S, hI, h => by
    obtain ⟨ρ1, g, m, S2, h1, h2, h3, h4, h5, h6⟩ := h w List.mem_cons_self S hI
    obtain ⟨gs, S3, h7, h8, h9⟩ := lc_ex h5 fun y hy => h y (List.mem_cons_of_mem _ hy)
    refine ⟨g :: gs, S3, ?_, h8, .cons h6 h9⟩
    rw [lc_cons, h1]
    simp only [h2, bnd_some, if_true, h3, h4]
    rw [h7]; rfl
/-- a loop whose turns all go on -/
theorem for_inv {t : CG} {b : CS} {ws : List W} (I : Nat → Env → Store → Prop) (step : ∀ i w ρ S, ws[i]? = some w → I i ρ S → ∃ ρ1 ρ2 S2, t (w, .frz) ρ = some ρ1 ∧ b ρ1 S = some (.nx ρ2 S2) ∧ I (i + 1) ρ2 S2)
    {ρ : Env} {S : Store} (h0 : I 0 ρ S) : ∃ ρ2 S2, cForL t b ws ρ S = some (.nx ρ2 S2) ∧ I ws.length ρ2 S2 := by
  have go : ∀ (us : List W) (i : Nat) (ρ : Env) (S : Store), ws.drop i = us → i ≤ ws.length → I i ρ S → ∃ ρ2 S2, cForL t b us ρ S = some (.nx ρ2 S2) ∧ I ws.length ρ2 S2 := by
    intro us
    induction us with
    | nil =>
      intro i ρ S e hi h
      have : i = ws.length := by
        have := congrArg List.length e
        rw [List.length_drop, List.length_nil] at this
        omega
      subst this
      exact ⟨ρ, S, rfl, h⟩
    | cons u us ih =>
      intro i ρ S e hi h
      have hlt : i < ws.length := by
        have := congrArg List.length e
        rw [List.length_drop, List.length_cons] at this
        omega
      rw [List.drop_eq_getElem_cons hlt] at e
      injection e with e1 e2
      obtain ⟨ρ1, ρ2, S2, h1, h2, h3⟩ := step i u ρ S (by rw [← e1]; exact List.getElem?_eq_getElem hlt) h
      obtain ⟨ρ3, S3, h4, h5⟩ := ih (i + 1) ρ2 S2 e2 hlt h3
      refine ⟨ρ3, S3, ?_, h5⟩
      rw [for_cons, h1]
      simp only [h2]
      exact h4
  exact go ws 0 ρ S (List.drop_zero) (Nat.zero_le _) h0
/-- over encoded items, by a state that each turn changes -/
theorem for_fold {A B : Type} {t : CG} {b : CS} {enc : A → W} {st : B → A → B} (I : B → Env → Store → Prop) : ∀ {xs : List A} {s : B} {ρ : Env} {S : Store},
    (∀ x ∈ xs, ∀ s ρ S, I s ρ S → ∃ ρ1 ρ2 S2, t (enc x, .frz) ρ = some ρ1 ∧ b ρ1 S = some (.nx ρ2 S2) ∧ I (st s x) ρ2 S2) → I s ρ S → ∃ ρ2 S2, cForL t b (xs.map enc) ρ S = some (.nx ρ2 S2) ∧ I (xs.foldl st s) ρ2 S2
  | [], s, ρ, S, _, h => ⟨ρ, S, rfl, h⟩
  | x :: xs, s, ρ, S, h, hi => by
    obtain ⟨ρ1, ρ2, S2, h1, h2, h3⟩ := h x List.mem_cons_self s ρ S hi
    obtain ⟨ρ3, S3, h4, h5⟩ := for_fold I (fun y hy => h y (List.mem_cons_of_mem _ hy)) h3
    refine ⟨ρ3, S3, ?_, h5⟩
    rw [List.map_cons, for_cons, h1]
    simp only [h2]
    exact h4
/-- a loop that may leave by a return of one value: p tells the items that leave -/
theorem for_search {A : Type} {t : CG} {b : CS} {enc : A → W} {p : A → Bool} {r : Wm} {S : Store} (I : Env → Prop) : ∀ {xs : List A} {ρ : Env},
    (∀ x ∈ xs, ∀ ρ, I ρ → ∃ ρ1, t (enc x, .frz) ρ = some ρ1 ∧ ((p x = true ∧ b ρ1 S = some (.rt r S)) ∨ (p x = false ∧ ∃ ρ2, b ρ1 S = some (.nx ρ2 S) ∧ I ρ2))) → I ρ →
      (xs.any p = true ∧ cForL t b (xs.map enc) ρ S = some (.rt r S)) ∨ (xs.any p = false ∧ ∃ ρ2, cForL t b (xs.map enc) ρ S = some (.nx ρ2 S) ∧ I ρ2)
  | [], ρ, _, h => .inr ⟨rfl, ρ, rfl, h⟩
  | x :: xs, ρ, h, hi => by
    obtain ⟨ρ1, h1, h2⟩ := h x List.mem_cons_self ρ hi
    rw [List.any_cons, List.map_cons, for_cons, h1]
    rcases h2 with ⟨hp, h2⟩ | ⟨hp, ρ2, h2, h3⟩
    · exact .inl ⟨by rw [hp]; rfl, by simp only [h2]⟩
    · simp only [h2, hp, Bool.false_or]
      exact for_search I (fun y hy => h y (List.mem_cons_of_mem _ hy)) h3

/-! ### == -/
mutual
/-- data of at most that depth: what == asks -/
def okD : W → Nat → Bool
  | .non, _ => true
  | .bl _, _ => true
  | .int _, _ => true
  | .str x, _ => PyData.strOk x
  | .tup ws, n => decide (0 < n) && okDs ws (n - 1)
  | .lst ws, n => decide (0 < n) && okDs ws (n - 1)
  | .dk _, _ => false
  | .dt _, _ => false
  | .scr _, _ => false
  | .cel _, _ => false
  | .ty _, _ => false
  | .dn _, _ => false
  | .ins _ _, _ => false
  | .lck _, _ => false
def okDs : List W → Nat → Bool
  | [], _ => true
  | w :: ws, n => okD w n && okDs ws n
end
def eqW (a b : W) : Bool := match toD a, toD b with
  | some d, some e => PyData.eqv d e
  | _, _ => false
def eqWs (a b : List W) : Bool := match toDs a, toDs b with
  | some d, some e => PyData.eqvAll d e
  | _, _ => false
mutual
theorem okD_ok : ∀ (w : W) (n : Nat), okD w n = true → ∃ d, toD w = some d ∧ d.canLay0 = true ∧ d.depth ≤ n
  | .non, _, _ => ⟨_, rfl, rfl, Nat.zero_le _⟩
  | .bl _, _, _ => ⟨_, rfl, rfl, Nat.zero_le _⟩
  | .int _, _, _ => ⟨_, rfl, rfl, Nat.zero_le _⟩
  | .str x, _, h => ⟨_, rfl, h, Nat.zero_le _⟩
  | .tup ws, n, h => by
    unfold okD at h
    rw [Bool.and_eq_true, decide_eq_true_eq] at h
    obtain ⟨ds, h1, h2, h3⟩ := okDs_ok ws (n - 1) h.2
    refine ⟨.tuple ds, by unfold toD; rw [h1]; rfl, h2, ?_⟩
    have := h.1
    show PyData.depthAll ds + 1 ≤ n
    omega
  | .lst ws, n, h => by
    unfold okD at h
    rw [Bool.and_eq_true, decide_eq_true_eq] at h
    obtain ⟨ds, h1, h2, h3⟩ := okDs_ok ws (n - 1) h.2
    refine ⟨.list ds, by unfold toD; rw [h1]; rfl, h2, ?_⟩
    have := h.1
    show PyData.depthAll ds + 1 ≤ n
    omega
  | .dk _, _, h => by cases h
  | .dt _, _, h => by cases h
  | .scr _, _, h => by cases h
  | .cel _, _, h => by cases h
  | .ty _, _, h => by cases h
  | .dn _, _, h => by cases h
  | .ins _ _, _, h => by cases h
  | .lck _, _, h => by cases h
theorem okDs_ok : ∀ (ws : List W) (n : Nat), okDs ws n = true → ∃ ds, toDs ws = some ds ∧ PyData.canLayAll0 ds = true ∧ PyData.depthAll ds ≤ n
  | [], _, _ => ⟨[], rfl, rfl, Nat.zero_le _⟩
  | w :: ws, n, h => by
    unfold okDs at h
    rw [Bool.and_eq_true] at h
    obtain ⟨d, h1, h2, h3⟩ := okD_ok w n h.1
    obtain ⟨ds, h4, h5, h6⟩ := okDs_ok ws n h.2
    refine ⟨d :: ds, by unfold toDs; rw [h1, h4], ?_, ?_⟩
    · show (d.canLay0 && PyData.canLayAll0 ds) = true
      rw [h2, h5]; rfl
    · show max d.depth (PyData.depthAll ds) ≤ n
      omega
end
theorem gEq_ok {neg : Bool} {a b : W} (ha : okD a 64 = true) (hb : okD b 64 = true) : gEq neg a b = some (.bl (neg != eqW a b)) := by
  obtain ⟨d, h1, h2, h3⟩ := okD_ok a 64 ha
  obtain ⟨e, h4, h5, h6⟩ := okD_ok b 64 hb
  unfold gEq eqW
  rw [h1, h4]
  have s1 : SeqAt.shaped d = true := by unfold SeqAt.shaped; rw [h2, Bool.true_and, decide_eq_true_eq]; exact h3
  have s2 : SeqAt.shaped e = true := by unfold SeqAt.shaped; rw [h5, Bool.true_and, decide_eq_true_eq]; exact h6
  simp only [s1, s2, and_self, if_true]
theorem eqW_refl {a : W} {n : Nat} (h : okD a n = true) : eqW a a = true := by
  obtain ⟨d, h1, h2, _⟩ := okD_ok a n h
  unfold eqW
  rw [h1]
  exact SeqAt.eqv_refl d h2
@[simp] theorem eqW_int (i j : Int) : eqW (.int i) (.int j) = decide (i = j) := by
  show (i == j) = decide (i = j)
  by_cases h : i = j <;> simp [h]
@[simp] theorem eqW_str (x y : Str) : eqW (.str x) (.str y) = decide (x = y) := by
  show (x == y) = decide (x = y)
  by_cases h : x = y <;> simp [h]
@[simp] theorem eqW_bl (x y : Bool) : eqW (.bl x) (.bl y) = (x == y) := rfl
@[simp] theorem gEq_int (neg : Bool) (i j : Int) : gEq neg (.int i) (.int j) = some (.bl (neg != decide (i = j))) := by rw [gEq_ok rfl rfl, eqW_int]
@[simp] theorem gEq_bl (neg : Bool) (i j : Bool) : gEq neg (.bl i) (.bl j) = some (.bl (neg != (i == j))) := by rw [gEq_ok rfl rfl, eqW_bl]
theorem gEq_str {neg : Bool} {x y : Str} (hx : PyData.strOk x = true) (hy : PyData.strOk y = true) : gEq neg (.str x) (.str y) = some (.bl (neg != decide (x = y))) := by rw [gEq_ok (by unfold okD; exact hx) (by unfold okD; exact hy), eqW_str]
theorem gEq_same {neg : Bool} {a : W} (h : okD a 64 = true) : gEq neg a a = some (.bl (neg != true)) := by rw [gEq_ok h h, eqW_refl h]
theorem okDs_all : ∀ {ws : List W} {n : Nat}, (∀ w ∈ ws, okD w n = true) → okDs ws n = true
  | [], _, _ => rfl
  | w :: ws, n, h => by
    unfold okDs
    rw [h w List.mem_cons_self, okDs_all fun u hu => h u (List.mem_cons_of_mem _ hu)]
    rfl
theorem okD_tup {ws : List W} {n : Nat} (h : ∀ w ∈ ws, okD w n = true) : okD (.tup ws) (n + 1) = true := by
  unfold okD
  rw [Nat.add_sub_cancel, okDs_all h]
  simp
theorem okD_lst {ws : List W} {n : Nat} (h : ∀ w ∈ ws, okD w n = true) : okD (.lst ws) (n + 1) = true := by
  unfold okD
  rw [Nat.add_sub_cancel, okDs_all h]
  simp
/-! ### arithmetic that walks -/
@[simp] theorem gAdd_int (i j : Int) : gAdd (.int i) (.int j) = some (.int (i + j)) := rfl
@[simp] theorem gAddI_int (i j : Int) : gAddI (.int i) (.int j) = some (.int (i + j)) := rfl
@[simp] theorem gSub_int (i j : Int) : Mp.gSub (.int i) (.int j) = some (.int (i - j)) := rfl
@[simp] theorem gLt_int (i j : Int) : gLt (.int i) (.int j) = some (.bl (decide (i < j))) := rfl
@[simp] theorem gLe_int (i j : Int) : gLe (.int i) (.int j) = some (.bl (decide (i ≤ j))) := rfl
@[simp] theorem gGt_int (i j : Int) : gGt (.int i) (.int j) = some (.bl (decide (j < i))) := rfl
@[simp] theorem gGe_int (i j : Int) : gGe (.int i) (.int j) = some (.bl (decide (j ≤ i))) := rfl
theorem gMul_int {i j : Int} (h : (-(2 ^ 64) < i ∧ i < 2 ^ 64) ∨ (-(2 ^ 64) < j ∧ j < 2 ^ 64)) : gMul (.int i) (.int j) = some (.int (i * j)) := by
  show (if _ then _ else _) = _
  rw [if_pos h]
theorem gDiv_int {i j : Int} (h : 0 < j) (h2 : j < 1073741824) : gDiv (.int i) (.int j) = some (.int (i / j)) := by
  show (if _ then _ else _) = _
  rw [if_pos ⟨by omega, by omega⟩, Int.fdiv_eq_ediv_of_nonneg _ (by omega)]
theorem gMod_int {i j : Int} (h : 0 < j) : gMod (.int i) (.int j) = some (.int (i % j)) := by
  show (if _ then _ else _) = _
  rw [if_pos (by omega), Int.fmod_eq_emod_of_nonneg _ (by omega)]
@[simp] theorem gInt_int (S : Store) (i : Int) : gInt S [.int i] = some (.int i) := rfl
@[simp] theorem gInt_bl (S : Store) (b : Bool) : gInt S [.bl b] = some (.int (if b then 1 else 0)) := rfl
@[simp] theorem gLen_tup (S : Store) (ws : List W) : gLen S [.tup ws] = some (.int ws.length) := rfl
@[simp] theorem gLen_lst (S : Store) (ws : List W) : gLen S [.lst ws] = some (.int ws.length) := rfl
@[simp] theorem gTuple_lst (S : Store) (ws : List W) : gTuple S [.lst ws] = some (.tup ws) := rfl
@[simp] theorem gTuple_tup (S : Store) (ws : List W) : gTuple S [.tup ws] = some (.tup ws) := rfl
@[simp] theorem gList_scr (S : Store) (ns : List Int) : gList S [.scr ns] = some (.lst (ns.map .int)) := rfl
@[simp] theorem gList_lst (S : Store) (ws : List W) : gList S [.lst ws] = some (.lst ws) := rfl
@[simp] theorem gList_tup (S : Store) (ws : List W) : gList S [.tup ws] = some (.lst ws) := rfl
@[simp] theorem gIx_tup (S : Store) (ws : List W) (i : Int) : gIx S (.tup ws) (.int i) = atI ws i := rfl
@[simp] theorem gIx_lst (S : Store) (ws : List W) (i : Int) : gIx S (.lst ws) (.int i) = atI ws i := rfl
theorem atI_of {A : Type} {xs : List A} {i : Int} (h : 0 ≤ i) : atI xs i = xs[i.toNat]? := by
  unfold atI ixN
  rw [if_pos h]
  split
  · rfl
  · rename_i h2
    rw [List.getElem?_eq_none (by omega)]
    rfl
@[simp] theorem atI_0 {A : Type} (x : A) (xs : List A) : atI (x :: xs) 0 = some x := by rw [atI_of (by omega)]; rfl
@[simp] theorem atI_1 {A : Type} (x y : A) (xs : List A) : atI (x :: y :: xs) 1 = some y := by rw [atI_of (by omega)]; rfl
@[simp] theorem atI_2 {A : Type} (x y z : A) (xs : List A) : atI (x :: y :: z :: xs) 2 = some z := by rw [atI_of (by omega)]; rfl
theorem size_ok {n : Nat} (h : n ≤ 10000000) : n ≤ sizeLine := by rw [sizeLine_eq]; omega
theorem size_lt {n : Nat} (h : n ≤ 10000000) : n < sizeLine := by rw [sizeLine_eq]; omega
end Mp
/-! what every law of this family begins with: the tape and its draws -/
namespace Mp
open PySem PySem.Spec PyProof.Rows L2
def cDrawA : CS := cSeq (cIfS (cB (cBin gLt (cVar 4) (cBi gLen (cCons (cVar 3) cNil)))) (cAsg (tName 5) (cIx (cVar 3) (cVar 4))) (cSkip))
  (cSeq (cIfS (cB (cBin gLt (cVar 5) (cLit (.int 0)))) (cAsg (tName 5) (cBin Mp.gSub (cBin gMul (cNeg (cLit (.int 2))) (cVar 5)) (cLit (.int 1)))) (cSkip))
  (cSeq (cIfS (cB (cBin gLt (cVar 5) (cBin gPow (cLit (.int 10)) (cLit (.int 9))))) (cSeq (cAsg (tName 5) (cBin gMod (cBi gInt (cCons (cBin gAdd (cBin gAdd (cBin gMul (cVar 5) (cLit (.int 48271))) (cBin gMul (cVar 4) (cLit (.int 69621)))) (cLit (.int 12345))) cNil)) (cLit (.int 2147483647))))
  (cAsg (tName 5) (cBin gMod (cBi gInt (cCons (cBin gAdd (cBin gAdd (cBin gMul (cVar 5) (cLit (.int 16807))) (cBin gMul (cVar 4) (cLit (.int 39373)))) (cLit (.int 6789))) cNil)) (cLit (.int 2147483629))))) (cSkip))
  (cSeq (cSetIx 0 (cLit (.int 1)) (cBin gAdd (cVar 4) (cLit (.int 1))))
  (cSetIx 0 (cLit (.int 2)) (cVar 5)))))
def cDraw : CS :=
  cSeq (cIfS (cB (cBin gLt (cIx (cVar 0) (cLit (.int 2))) (cVar 1))) (cSeq (cAsg (tName 3) (cIx (cVar 0) (cLit (.int 0))))
  (cSeq (cAsg (tName 4) (cIx (cVar 0) (cLit (.int 1))))
  (cSeq (cAsg (tName 5) (cLit (.int 0)))
  cDrawA))) (cSkip))
  (cSeq (cAsg (tName 2) (cBin gMod (cBi gInt (cCons (cIx (cVar 0) (cLit (.int 2))) cNil)) (cVar 1)))
  (cSeq (cSetIx 0 (cLit (.int 2)) (cBin gDiv (cIx (cVar 0) (cLit (.int 2))) (cVar 1)))
  (cRetV 2)))
def mDraw : FnSem := cFn 2 6 cDraw
/-- the tape stands in cell n -/
def TapeAt (n : Nat) (S : Store) : Prop := ∃ (cells : List Int) (k c : Int), S[n]? = some (.lst [.lst (cells.map .int), .int k, .int c]) ∧ 0 ≤ k ∧ 0 ≤ c
theorem drf_cel {S : Store} {n : Nat} {ws : List W} (h : S[n]? = some (.lst ws)) : drf S (.cel n) = some (.lst ws) := by unfold drf; dsimp only; rw [h]
@[simp] theorem gIx_cel (S : Store) (n : Nat) (i : Int) : gIx S (.cel n) (.int i) = match S[n]? with
    | some (.lck w) => gIx0 w (.int i)
    | some w => gIx0 w (.int i)
    | none => none := by
  unfold gIx drf
  dsimp only
  split
  · rename_i u h
    split at h
    · rename_i w hS; cases h; rw [hS]
    · rename_i hS
      rw [h]
      cases u <;> first | rfl | exact absurd h (hS _)
  · rename_i h
    split at h
    · cases h
    · rw [h]
@[simp] theorem gIx0_lst (ws : List W) (i : Int) : gIx0 (.lst ws) (.int i) = atI ws i := rfl
theorem set_cel {ρ : Env} {S : Store} {i n : Nat} {m : Md} {ws : List W} {j : Nat} {k : Int} (w : W) (hr : ρ[i]? = some (some (.cel n, m))) (hS : S[n]? = some (.lst ws)) (hk : k = (j : Int)) (hj : j < ws.length) : setAt ρ S i (.int k) w = some (.nx ρ (S.set n (.lst (ws.set j w)))) := by
  unfold setAt
  rw [hr]
  simp only [hS]
  unfold ixN
  rw [if_pos (by omega), if_pos (by omega)]
  subst hk
  rfl
/-- the store but for one cell is as it was -/
def SameBut (n : Nat) (S S' : Store) : Prop := S'.length = S.length ∧ ∀ j, j ≠ n → S'[j]? = S[j]?
theorem SameBut.refl {n : Nat} {S : Store} : SameBut n S S := ⟨rfl, fun _ _ => rfl⟩
theorem SameBut.trans {n : Nat} {S S1 S2 : Store} (a : SameBut n S S1) (b : SameBut n S1 S2) : SameBut n S S2 := ⟨b.1.trans a.1, fun j h => (b.2 j h).trans (a.2 j h)⟩
theorem SameBut.set {n : Nat} {S : Store} {ws : W} : SameBut n S (S.set n ws) := ⟨List.length_set, fun j h => List.getElem?_set_ne (Ne.symm h)⟩
theorem set_at {n : Nat} {S : Store} {ws us : W} (h : S[n]? = some us) : (S.set n ws)[n]? = some ws := List.getElem?_set_self (List.getElem?_eq_some_iff.mp h).1
theorem draw_a {n : Nat} {S : Store} {cells : List Int} {k c : Int} {a b : Option Wm} {mn : Md} (hS : S[n]? = some (.lst [.lst (cells.map .int), .int k, .int c])) (hk : 0 ≤ k) :
    ∃ c' x5, 0 ≤ c' ∧ cDrawA [some (.cel n, mn), a, b, some (.lst (cells.map .int), .frz), some (.int k, .frz), some (.int 0, .frz)] S =
      some (.nx [some (.cel n, mn), a, b, some (.lst (cells.map .int), .frz), some (.int k, .frz), x5] (S.set n (.lst [.lst (cells.map .int), .int (k + 1), .int c']))) := by
  obtain ⟨v, hv⟩ : ∃ v : Int, (cIfS (cB (cBin gLt (cVar 4) (cBi gLen (cCons (cVar 3) cNil)))) (cAsg (tName 5) (cIx (cVar 3) (cVar 4))) (cSkip)) [some (.cel n, mn), a, b, some (.lst (cells.map .int), .frz), some (.int k, .frz), some (.int 0, .frz)] S =
      some (.nx [some (.cel n, mn), a, b, some (.lst (cells.map .int), .frz), some (.int k, .frz), some (.int v, .frz)] S) := by
    simp only [q_ifS, q_B, q_bin, q_var, q_bi, q_cons, q_nil, q_asg, q_ix, q_skip, bnd_some, List.getElem?_cons_succ, List.getElem?_cons_zero, reduceCtorEq, if_false, List.map_cons, List.map_nil, gLen_lst, Option.map_some, gLt_int, List.length_map, decide_eq_true_eq]
    by_cases h : k < (cells.length : Int)
    · rw [if_pos h]
      have e : atI (cells.map W.int) k = some (.int (cells[k.toNat]'(by omega))) := by
        rw [atI_of hk, List.getElem?_map, List.getElem?_eq_getElem (by omega)]; rfl
      exact ⟨_, by simp only [gIx_lst, e, Option.map_some, bnd_some, q_tName, sto_frz, if_true, md_int]; rfl⟩
    · rw [if_neg h]
      exact ⟨0, rfl⟩
  obtain ⟨u, hu, h2⟩ : ∃ u : Int, 0 ≤ u ∧ (cIfS (cB (cBin gLt (cVar 5) (cLit (.int 0)))) (cAsg (tName 5) (cBin Mp.gSub (cBin gMul (cNeg (cLit (.int 2))) (cVar 5)) (cLit (.int 1)))) (cSkip)) [some (.cel n, mn), a, b, some (.lst (cells.map .int), .frz), some (.int k, .frz), some (.int v, .frz)] S =
      some (.nx [some (.cel n, mn), a, b, some (.lst (cells.map .int), .frz), some (.int k, .frz), some (.int u, .frz)] S) := by
    simp only [q_ifS, q_B, q_bin, q_var, q_lit, q_neg, q_asg, q_skip, bnd_some, List.getElem?_cons_succ, List.getElem?_cons_zero, reduceCtorEq, if_false, Option.map_some, gLt_int, decide_eq_true_eq]
    by_cases h : v < 0
    · rw [if_pos h]
      refine ⟨-2 * v - 1, by omega, ?_⟩
      rw [gMul_int (.inl (by decide))]
      rfl
    · rw [if_neg h]
      exact ⟨v, by omega, rfl⟩
  obtain ⟨u3, hu3, h3⟩ : ∃ u3 : Int, 0 ≤ u3 ∧ (cIfS (cB (cBin gLt (cVar 5) (cBin gPow (cLit (.int 10)) (cLit (.int 9))))) (cSeq (cAsg (tName 5) (cBin gMod (cBi gInt (cCons (cBin gAdd (cBin gAdd (cBin gMul (cVar 5) (cLit (.int 48271))) (cBin gMul (cVar 4) (cLit (.int 69621)))) (cLit (.int 12345))) cNil)) (cLit (.int 2147483647))))
  (cAsg (tName 5) (cBin gMod (cBi gInt (cCons (cBin gAdd (cBin gAdd (cBin gMul (cVar 5) (cLit (.int 16807))) (cBin gMul (cVar 4) (cLit (.int 39373)))) (cLit (.int 6789))) cNil)) (cLit (.int 2147483629))))) (cSkip)) [some (.cel n, mn), a, b, some (.lst (cells.map .int), .frz), some (.int k, .frz), some (.int u, .frz)] S =
      some (.nx [some (.cel n, mn), a, b, some (.lst (cells.map .int), .frz), some (.int k, .frz), some (.int u3, .frz)] S) := by
    have hp : gPow (.int 10) (.int 9) = some (.int 1000000000) := by
      unfold gPow
      dsimp only
      rw [if_pos (show (0 : Int) ≤ 9 ∧ (9 : Int) ≤ 1000000 ∧ (10 : Int).natAbs < 2 ^ 64 by decide)]
      rfl
    simp only [q_ifS, q_B, q_bin, q_var, q_lit, q_seq, q_cons, q_nil, q_bi, q_asg, q_skip, bnd_some, List.getElem?_cons_succ, List.getElem?_cons_zero, reduceCtorEq, if_false, Option.map_some, gLt_int, decide_eq_true_eq, hp]
    by_cases h : u < 1000000000
    · rw [if_pos h]
      rw [gMul_int (.inr (by decide)), gMul_int (.inr (by decide))]
      simp only [Option.map_some, bnd_some, gAdd_int, List.map_cons, List.map_nil, gInt_int, gMod_int (show (0 : Int) < 2147483647 by decide), q_tName, sto_own, if_true, md_int, List.set_cons_succ, List.set_cons_zero, List.getElem?_cons_succ, List.getElem?_cons_zero, reduceCtorEq, if_false]
      rw [gMul_int (.inr (by decide)), gMul_int (.inr (by decide))]
      simp only [Option.map_some, bnd_some, gAdd_int, List.map_cons, List.map_nil, gInt_int, gMod_int (show (0 : Int) < 2147483629 by decide), q_tName, sto_own, if_true, md_int, List.set_cons_succ, List.set_cons_zero, List.getElem?_cons_succ, List.getElem?_cons_zero]
      exact ⟨_, Int.emod_nonneg _ (by decide), rfl⟩
    · rw [if_neg h]
      exact ⟨u, by omega, rfl⟩
  refine ⟨u3, some (.int u3, .frz), hu3, ?_⟩
  unfold cDrawA
  rw [q_seq, hv]
  dsimp only
  rw [q_seq, h2]
  dsimp only
  rw [q_seq, h3]
  dsimp only
  simp only [q_seq, q_setIx, q_bin, q_var, q_lit, bnd_some, List.getElem?_cons_succ, List.getElem?_cons_zero, reduceCtorEq, if_false, Option.map_some, gAdd_int, sto_own, sto_frz, if_true]
  rw [set_cel (k := 1) (j := 1) (ws := [.lst (cells.map .int), .int k, .int c]) _ rfl hS rfl (by simp)]
  dsimp only
  simp only [List.set_cons_succ, List.set_cons_zero]
  simp only [bnd_some, sto_frz, if_true, List.getElem?_cons_succ, List.getElem?_cons_zero, reduceCtorEq, if_false]
  rw [set_cel (k := 2) (j := 2) (ws := [.lst (cells.map .int), .int (k + 1), .int c]) _ rfl (set_at hS) rfl (by simp)]
  rw [List.set_set]
  rfl
theorem draw_ok {n : Nat} {S : Store} {many : Int} (t : TapeAt n S) (h0 : 0 < many) (h1 : many < 1073741824) :
    ∃ d S', mDraw [.cel n, .int many] S = some ((.int d, .frz), S') ∧ 0 ≤ d ∧ d < many ∧ TapeAt n S' ∧ SameBut n S S' := by
  obtain ⟨cells, k, c, hS, hk, hc⟩ := t
  -- the refilled tape
  obtain ⟨k', c', x3, x4, x5, S1, hk', hc', hS1, hsb, hfill⟩ : ∃ k' c' x3 x4 x5 S1, 0 ≤ k' ∧ 0 ≤ c' ∧ S1[n]? = some (.lst [.lst (cells.map .int), .int k', .int c']) ∧ SameBut n S S1 ∧
      (cIfS (cB (cBin gLt (cIx (cVar 0) (cLit (.int 2))) (cVar 1))) (cSeq (cAsg (tName 3) (cIx (cVar 0) (cLit (.int 0)))) (cSeq (cAsg (tName 4) (cIx (cVar 0) (cLit (.int 1)))) (cSeq (cAsg (tName 5) (cLit (.int 0))) cDrawA))) (cSkip))
        [some (.cel n, .brw), some (.int many, .brw), none, none, none, none] S = some (.nx [some (.cel n, .brw), some (.int many, .brw), none, x3, x4, x5] S1) := by
    simp only [q_ifS, q_B, q_bin, q_ix, q_var, q_lit, q_seq, q_asg, q_skip, bnd_some, List.getElem?_cons_succ, List.getElem?_cons_zero, reduceCtorEq, if_false, Option.map_some, gIx_cel, hS, gIx0_lst, atI_2, atI_1, atI_0, gLt_int, decide_eq_true_eq]
    by_cases h : c < many
    · rw [if_pos h]
      simp only [q_tName, sto_frz, if_true, md_lst, md_int, Option.map_some, List.set_cons_succ, List.set_cons_zero, bnd_some, List.getElem?_cons_succ, List.getElem?_cons_zero, reduceCtorEq, if_false, gIx_cel, hS, gIx0_lst, atI_1]
      obtain ⟨c', x5, hc', e⟩ := draw_a (mn := .brw) (a := some (.int many, .brw)) (b := none) hS hk
      exact ⟨k + 1, c', _, _, x5, _, by omega, hc', set_at hS, SameBut.set, e⟩
    · rw [if_neg h]
      exact ⟨k, c, _, _, _, S, hk, hc, hS, SameBut.refl, rfl⟩
  refine ⟨c' % many, S1.set n (.lst [.lst (cells.map .int), .int k', .int (c' / many)]), ?_, Int.emod_nonneg _ (by omega), Int.emod_lt_of_pos _ h0, ⟨cells, k', c' / many, set_at hS1, hk', Int.ediv_nonneg hc' (by omega)⟩, hsb.trans SameBut.set⟩
  unfold mDraw
  rw [cFn_run (by rfl)]
  show fin (cDraw [some (.cel n, .brw), some (.int many, .brw), none, none, none, none] S) = _
  unfold cDraw
  rw [q_seq, hfill]
  dsimp only
  simp only [q_seq, q_asg, q_bin, q_bi, q_cons, q_nil, q_ix, q_var, q_lit, q_setIx, bnd_some, List.getElem?_cons_succ, List.getElem?_cons_zero, reduceCtorEq, if_false, Option.map_some, gIx_cel, hS1, gIx0_lst, atI_2, List.map_cons, List.map_nil, gInt_int, gMod_int h0, gDiv_int h0 h1, q_tName, sto_own, if_true, md_int, List.set_cons_succ, List.set_cons_zero]
  rw [set_cel (k := 2) (j := 2) (ws := [.lst (cells.map .int), .int k', .int c']) _ rfl hS1 rfl (by simp)]
  rfl
/-- the tape's making -/
def cTape : CS := cRet (cBox (cCons (cBi gList (cCons (cVar 0) cNil)) (cCons (cLit (.int 0)) (cCons (cLit (.int 0)) cNil))))
def mTape : FnSem := cFn 1 1 cTape
theorem tape_ok (ns : List Int) (S : Store) : ∃ S', mTape [.scr ns] S = some ((.cel S.length, .own), S') ∧ TapeAt S.length S' ∧ S' = S ++ [.lst [.lst (ns.map .int), .int 0, .int 0]] := by
  refine ⟨S ++ [.lst [.lst (ns.map .int), .int 0, .int 0]], ?_, ⟨ns, 0, 0, ?_, Int.le_refl _, Int.le_refl _⟩, rfl⟩
  · unfold mTape
    rw [cFn_run (by rfl)]
    show fin (cTape [some (.scr ns, .brw)] S) = _
    unfold cTape
    simp only [q_ret, q_box, q_cons, q_nil, q_bi, q_var, q_lit, bnd_some, List.getElem?_cons_zero, reduceCtorEq, if_false, List.map_cons, List.map_nil, gList_scr, Option.map_some]
    rw [if_pos ⟨rfl, by rw [sizeLine_eq]; simp⟩]
    rfl
  · rw [List.getElem?_append_right (Nat.le_refl _), Nat.sub_self]; rfl
end Mp
/-! more of the evaluator: in, chains, any, all, min, max, str -/
namespace Mp
open PySem PySem.Spec PyProof.Rows L2

/-! ### in -/
def anyEq (d : PyData) (ds : List PyData) : Bool := ds.any fun z => PyData.eqv z d
def gIn (neg : Bool) : W → W → Option W := fun a b => match toD a, toD b with
  | some d, some (.list ds) => if SeqAt.shaped d = true ∧ SeqAt.shaped (.list ds) = true then some (.bl (neg != anyEq d ds)) else none
  | some d, some (.tuple ds) => if SeqAt.shaped d = true ∧ SeqAt.shaped (.tuple ds) = true then some (.bl (neg != anyEq d ds)) else none
  | _, _ => none
def rMem (K : PySem.W.Frag) (neg : Bool) : R2 := fun x y H Q => ∃ d ds, Dp K H x d ∧ (Dp K H y (.list ds) ∧ SeqAt.shaped (.list ds) = true ∨ Dp K H y (.tuple ds) ∧ SeqAt.shaped (.tuple ds) = true) ∧ SeqAt.shaped d = true ∧ Q (.bl (neg != anyEq d ds)) H
section
variable {X : Cx}
theorem op_mem (hu : X.A.units + 65 < cLine) : OpR X (compareOp .In) (rMem X.K false) := fun pins s σ H x y v u Q I rx ry h => by
  obtain ⟨d, ds, hd, he, sd, q⟩ := h
  rw [Bool.false_bne] at q
  obtain ⟨as, r1⟩ := Dp.reads I d x v hd rx
  rcases he with ⟨he, se⟩ | ⟨he, se⟩
  · exact op_inD hu pins s σ H x y v u Q I rx ry ⟨d, ds, hd, he, sd, se, q⟩
  · obtain ⟨bs, r2⟩ := Dp.reads I (.tuple ds) y u he ry
    exact SeqAt.in_tuple_reads r2 r1 (SeqAt.canLay_of_shaped se) (SeqAt.canLay_of_shaped sd) (room_in_shaped sd hu) ⟨.bl _, H, I, rfl, q⟩
theorem op_nmem (hu : X.A.units + 65 < cLine) : OpR X (compareOp .NotIn) (rMem X.K true) := fun pins s σ H x y v u Q I rx ry h => by
  obtain ⟨d, ds, hd, he, sd, q⟩ := h
  rw [Bool.true_bne] at q
  obtain ⟨as, r1⟩ := Dp.reads I d x v hd rx
  rcases he with ⟨he, se⟩ | ⟨he, se⟩
  · exact op_notInD hu pins s σ H x y v u Q I rx ry ⟨d, ds, hd, he, sd, se, q⟩
  · obtain ⟨bs, r2⟩ := Dp.reads I (.tuple ds) y u he ry
    exact SeqAt.notIn_tuple_reads r2 r1 (SeqAt.canLay_of_shaped se) (SeqAt.canLay_of_shaped sd) (room_in_shaped sd hu) ⟨.bl _, H, I, rfl, q⟩
end
theorem os_mem {K : KW} {neg : Bool} : OS K (rMem K.K neg) (gIn neg) := by
  intro α Z H S x y a b c m1 m2 wo ra rb hg Q q
  unfold gIn at hg
  split at hg
  · rename_i d ds h1 h2
    split at hg
    · rename_i hs
      cases hg
      exact ⟨d, ds, ra.dp h1, .inl ⟨rb.dp h2, hs.2⟩, hs.1, q _ H Keep.refl wo (Got.im (.bl _) rfl)⟩
    · cases hg
  · rename_i d ds h1 h2
    split at hg
    · rename_i hs
      cases hg
      exact ⟨d, ds, ra.dp h1, .inr ⟨rb.dp h2, hs.2⟩, hs.1, q _ H Keep.refl wo (Got.im (.bl _) rfl)⟩
    · cases hg
  · cases hg
section
variable {X : Cx} {a b c : Expr} {fa fb fc : CE} {pos : Pos}
theorem Room.u65 {k : Nat} {A : Around} (r : Room k A) : A.units + 65 < cLine := by have := r.un; omega
theorem e_in {k : Nat} (hr : Room k X.A) (ha : EE X a fa) (hb : EE X b fb) (hm : behindInMarks .In b = false := by with_unfolding_all rfl) : EE X (.Compare a [.In] [b] pos) (cBin (gIn false) fa fb) := e_cmp (op_mem (Room.u65 hr)) os_mem ha hb hm
theorem e_nin {k : Nat} (hr : Room k X.A) (ha : EE X a fa) (hb : EE X b fb) (hm : behindInMarks .NotIn b = false := by with_unfolding_all rfl) : EE X (.Compare a [.NotIn] [b] pos) (cBin (gIn true) fa fb) := e_cmp (op_nmem (Room.u65 hr)) os_mem ha hb hm
theorem t_in {k : Nat} (hr : Room k X.A) (ha : EE X a fa) (hb : EE X b fb) (hm : behindInMarks .In b = false := by with_unfolding_all rfl) : ET X (.Compare a [.In] [b] pos) (cB (cBin (gIn false) fa fb)) := t_cmp (op_mem (Room.u65 hr)) os_mem ha hb hm
theorem t_nin {k : Nat} (hr : Room k X.A) (ha : EE X a fa) (hb : EE X b fb) (hm : behindInMarks .NotIn b = false := by with_unfolding_all rfl) : ET X (.Compare a [.NotIn] [b] pos) (cB (cBin (gIn true) fa fb)) := t_cmp (op_nmem (Room.u65 hr)) os_mem ha hb hm

/-! ### a op b op c -/
def cChain (g g' : W → W → Option W) (fa fb fc : CE) : CE := fun ρ S => bnd (fa ρ S) fun a S => bnd (fb ρ S) fun b S => match g a.1 b.1 with
  | some (.bl t) => if t = true then bnd (fc ρ S) fun c S => (g' b.1 c.1).map fun z => ((z, .own), S) else some ((.bl false, .own), S)
  | _ => none
theorem chain_ok {r r' : R2} {g g' : W → W → Option W} (hs : OS X.kw r g) (hs' : OS X.kw r' g') {σ : L2.St} {H : Hp} {Q : VK} (h : semE X.kw (cChain g g' fa fb fc) σ H Q) : tChain r r' (semE X.kw fa) (semE X.kw fb) (semE X.kw fc) σ H Q := by
  obtain ⟨ρ, S, α, Z, r0, S', wo, en, h, q⟩ := h
  obtain ⟨ra, S1, h1, h⟩ := of_bnd h
  obtain ⟨rb, S2, h2, h⟩ := of_bnd h
  refine ⟨ρ, S, α, Z, ra, S1, wo, en, h1, fun v1 H1 α1 Z1 k1 w1 g1 => ⟨ρ, S1, α1, Z1, rb, S2, w1, en.keep wo k1, h2, fun v2 H2 α2 Z2 k2 w2 g2 => ?_⟩⟩
  cases hc : g ra.1 rb.1 with
  | none => rw [hc] at h; cases h
  | some t =>
    refine hs w2 (g1.rep.keep w1 k2) g2.rep hc _ fun v H3 k3 w3 g3 => ?_
    rw [hc] at h
    cases t with
    | bl t =>
      have h : (if t = true then bnd (fc ρ S2) fun c S => (g' rb.1 c.1).map fun z => ((z, Md.own), S) else some ((.bl false, .own), S2)) = some (r0, S') := h
      refine ⟨t, g3.rep.ofBl, ?_⟩
      cases t with
      | true =>
        rw [if_pos rfl] at h ⊢
        obtain ⟨rc, S3, h3, h⟩ := of_bnd h
        obtain ⟨z, hz, e⟩ := Option.map_eq_some_iff.mp h
        cases e
        exact ⟨ρ, S2, α2, Z2, rc, _, w3, ((en.keep wo k1).keep w1 k2).keep w2 k3, h3, fun v4 H4 α4 Z4 k4 w4 g4 =>
          hs' w4 ((g2.rep.keep w2 k3).keep w3 k4) g4.rep hz _ fun v5 H5 k5 w5 g5 => q v5 H5 α4 Z4 ((((k1.trans k2).trans k3).trans k4).trans k5) w5 (g5.back (((k1.trans k2).trans k3).trans k4).d)⟩
      | false =>
        rw [if_neg Bool.false_ne_true] at h ⊢
        cases h
        exact q (.bl false) H3 α2 Z2 ((k1.trans k2).trans k3) w3 (Got.im (.bl _) rfl)
    | _ => cases h
theorem e_chain {op op' : CmpOp} {r r' : R2} {g g' : W → W → Option W} (ho : OpR X (compareOp op) r) (hs : OS X.kw r g) (ho' : OpR X (compareOp op') r') (hs' : OS X.kw r' g') (ha : EE X a fa) (hb : EE X b fb) (hc : EE X c fc)
    (hm : lastMarks [op, op'] [b, c] = false := by with_unfolding_all rfl) : EE X (.Compare a [op, op'] [b, c] pos) (cChain g g' fa fb fc) :=
  PE.cons (pe_chain ho ho' ha hb hc hm) fun _ _ _ h => chain_ok hs hs' h
theorem t_chain {op op' : CmpOp} {r r' : R2} {g g' : W → W → Option W} (ho : OpR X (compareOp op) r) (hs : OS X.kw r g) (ho' : OpR X (compareOp op') r') (hs' : OS X.kw r' g') (ha : EE X a fa) (hb : EE X b fb) (hc : EE X c fc)
    (hm : lastMarks [op, op'] [b, c] = false := by with_unfolding_all rfl) : ET X (.Compare a [op, op'] [b, c] pos) (cB (cChain g g' fa fb fc)) :=
  PT.cons (pt_chain ho ho' ha hb hc hm) fun _ _ _ h => chain_ok hs hs' (test_ok h)
end

/-! ### any, all -/
def blsOf : List W → Option (List Bool)
  | [] => some []
  | .bl b :: ws => (blsOf ws).map (b :: ·)
  | _ :: _ => none
def gAny : Store → List W → Option W := fun _ ws => match ws with
  | [.lst us] => (blsOf us).map fun bs => .bl (bs.any id)
  | _ => none
def gAll : Store → List W → Option W := fun _ ws => match ws with
  | [.lst us] => (blsOf us).map fun bs => .bl (bs.all id)
  | _ => none
def gStr : Store → List W → Option W := fun _ ws => match ws with
  | [.int i] => if i.natAbs < 1073741824 then some (.str (toString i)) else none
  | _ => none
section
variable {K : KW} {α : List Addr} {Z : Addr → Prop} {H : Hp}
theorem RepL.bls : ∀ {us : List W} {vs : List V} {bs : List Bool}, RepL K α Z H vs us → blsOf us = some bs → vs = bs.map V.bl
  | [], _, _, r, e => by
    cases e; cases r; rfl
  | .bl b :: us, _, _, r, e => by
    obtain ⟨cs, h, rfl⟩ := Option.map_eq_some_iff.mp e
    cases r with
    | cons r t => rw [(r.im (m := .frz) rfl).ofBl, RepL.bls t h]; rfl
theorem co_any : CO K (rAny K.K) gAny := by
  intro α Z H S vs ws c wo p hg Q q
  unfold gAny at hg
  split at hg
  · obtain ⟨v, rfl, r⟩ := one_of p
    obtain ⟨a, xs, rfl, h0, rl, _⟩ := r.ofLst
    obtain ⟨bs, h1, e⟩ := Option.map_eq_some_iff.mp hg
    subst e
    exact ⟨a, bs, rfl, by rw [← rl.bls h1]; exact .inl (.inl h0), q _ _ Keep.refl wo (Got.im (.bl _) rfl)⟩
  · cases hg
theorem co_all : CO K (rAll K.K) gAll := by
  intro α Z H S vs ws c wo p hg Q q
  unfold gAll at hg
  split at hg
  · obtain ⟨v, rfl, r⟩ := one_of p
    obtain ⟨a, xs, rfl, h0, rl, _⟩ := r.ofLst
    obtain ⟨bs, h1, e⟩ := Option.map_eq_some_iff.mp hg
    subst e
    exact ⟨a, bs, rfl, by rw [← rl.bls h1]; exact .inl (.inl h0), q _ _ Keep.refl wo (Got.im (.bl _) rfl)⟩
  · cases hg
theorem log_small {n : Nat} (h : n < 1073741824) : n.log2 < 1920 := by
  by_cases h0 : n = 0
  · subst h0; decide
  · have := (Nat.log2_lt h0 (k := 30)).mpr (by omega)
    omega
theorem co_str : CO K (fun xs H Q => ∃ i, xs = [V.int i] ∧ i.natAbs.log2 < 1920 ∧ Q (.str (toString i)) H) gStr := by
  intro α Z H S vs ws c wo p hg Q q
  unfold gStr at hg
  split at hg
  · obtain ⟨v, rfl, r⟩ := one_of p
    split at hg
    · rename_i hz
      cases hg
      rw [r.ofInt]
      exact ⟨_, rfl, log_small hz, q _ _ Keep.refl wo (Got.im (.str _) rfl)⟩
    · cases hg
  · cases hg
end
section
variable {X : Cx} {a b e : Expr} {fa fb fe : CE} {pos p : Pos}
theorem e_any (hc : X.calm = true) (hm : X.mg "any" = none) (h : EE X e fe) (hg : Gl X "any" := by rfl) (hs : starEach [e] X.env = (false, eval e X.env) :: starEach [] X.env := by rfl) : EE X (.Call (.Name "any" p) [e] [] pos) (cBi gAny (cCons fe cNil)) :=
  e_bi (cr_any hc) co_any hm (a_cons h a_nil hs) (by decide +kernel) hg (by decide) (by decide) hs
theorem e_all (hc : X.calm = true) (hm : X.mg "all" = none) (h : EE X e fe) (hg : Gl X "all" := by rfl) (hs : starEach [e] X.env = (false, eval e X.env) :: starEach [] X.env := by rfl) : EE X (.Call (.Name "all" p) [e] [] pos) (cBi gAll (cCons fe cNil)) :=
  e_bi (cr_all hc) co_all hm (a_cons h a_nil hs) (by decide +kernel) hg (by decide) (by decide) hs
theorem e_strI (hm : X.mg "str" = none) (h : EE X e fe) (hg : Gl X "str" := by rfl) (hs : starEach [e] X.env = (false, eval e X.env) :: starEach [] X.env := by rfl) : EE X (.Call (.Name "str" p) [e] [] pos) (cBi gStr (cCons fe cNil)) :=
  e_ty call_str_int co_str hm (a_cons h a_nil hs) (by decide +kernel) hg (by decide) (by decide) hs
theorem e_min2 (hc : X.calm = true) (hm : X.mg "min" = none) (ha : EE X a fa) (hb : EE X b fb) (hg : Gl X "min" := by rfl) (hs : starEach (a :: [b]) X.env = (false, eval a X.env) :: starEach [b] X.env := by rfl) (hs2 : starEach [b] X.env = (false, eval b X.env) :: starEach [] X.env := by rfl) (hpl : (backTo pos (starEach [b] X.env)).any (·.1) = false := by rfl) :
    EE X (.Call (.Name "min" p) [a, b] [] pos) (cBi gMin2 (cCons fa (cCons fb cNil))) :=
  e_bi (call_min2 hc) co_min2 hm (a_cons ha (a_cons hb a_nil hs2) hs) (by decide +kernel) hg (by decide) (by decide) hs hpl
theorem e_max2 (hc : X.calm = true) (hm : X.mg "max" = none) (ha : EE X a fa) (hb : EE X b fb) (hg : Gl X "max" := by rfl) (hs : starEach (a :: [b]) X.env = (false, eval a X.env) :: starEach [b] X.env := by rfl) (hs2 : starEach [b] X.env = (false, eval b X.env) :: starEach [] X.env := by rfl) (hpl : (backTo pos (starEach [b] X.env)).any (·.1) = false := by rfl) :
    EE X (.Call (.Name "max" p) [a, b] [] pos) (cBi gMax2 (cCons fa (cCons fb cNil))) :=
  e_bi (call_max2 hc) co_max2 hm (a_cons ha (a_cons hb a_nil hs2) hs) (by decide +kernel) hg (by decide) (by decide) hs hpl
end

/-! ### found.append(rest.pop(e)) -/
def cAppPop (i j : Nat) (f : CE) : CS := fun ρ S => bnd (f ρ S) fun r S => match r.1, ρ[j]?, ρ[i]? with
  | .int k, some (some (.lst us, .own)), some (some (.lst ws, .own)) => if i ≠ j ∧ 0 ≤ k ∧ k < 1000000 ∧ ws.length < sizeLine then (match us[k.toNat]? with
    | some u => some (.nx ((ρ.set j (some (.lst (us.eraseIdx k.toNat), .own))).set i (some (.lst (ws ++ [u]), .own))) S)
    | none => none) else none
  | _, _, _ => none
theorem RepL.erase {K : KW} {α : List Addr} {Z : Addr → Prop} {H : Hp} : ∀ {vs : List V} {ws : List W} (n : Nat), RepL K α Z H vs ws → RepL K α Z H (vs.eraseIdx n) (ws.eraseIdx n)
  | _, _, _, .nil => .nil
  | _, _, 0, .cons _ t => t
  | _, _, n + 1, .cons r t => .cons r (RepL.erase n t)
section
variable {X : Cx} {e : Expr} {fe : CE} {pos p : Pos} {x : Str}
theorem s_appPop {apos cpos apos2 cpos2 p2 : Pos} {y : Str} (i j : Nat) (he : EE X e fe) (hN : X.N[i]? = some x := by rfl) (hv : Vis X.env.scope x := by first | exact Or.inl rfl | exact Or.inr (Or.inl rfl) | exact Or.inr (Or.inr rfl)) (hd : (x == ("__debug__" : Str)) = false := by decide)
    (hcd : (x == ("__classdict__" : Str)) = false := by decide) (hN2 : X.N[j]? = some y := by rfl) (hv2 : Vis X.env.scope y := by first | exact Or.inl rfl | exact Or.inr (Or.inl rfl) | exact Or.inr (Or.inr rfl)) (hd2 : (y == ("__debug__" : Str)) = false := by decide)
    (hcd2 : (y == ("__classdict__" : Str)) = false := by decide)
    (hbase : attributeBase (.Name x p) "append" X.env (eval (.Name x p) X.env) = eval (.Name x p) X.env := by rfl) (hbase2 : attributeBase (.Name y p2) "pop" X.env (eval (.Name y p2) X.env) = eval (.Name y p2) X.env := by rfl)
    (hfew : ((backTo cpos (starEach [.Call (.Attribute (.Name y p2) "pop" apos2) [e] [] cpos2] X.env)).all (fun x => !x.1) && (backToKw cpos (keywordEach [] X.env)).all (fun x => x.1.isSome)
      && decide (([Expr.Call (.Attribute (.Name y p2) "pop" apos2) [e] [] cpos2] : List Expr).length + ([] : List Keyword).length + (if ([] : List Keyword).isEmpty then 0 else 1) < 30)) = true := by rfl)
    (hfew2 : ((backTo cpos2 (starEach [e] X.env)).all (fun x => !x.1) && (backToKw cpos2 (keywordEach [] X.env)).all (fun x => x.1.isSome)
      && decide (([e] : List Expr).length + ([] : List Keyword).length + (if ([] : List Keyword).isEmpty then 0 else 1) < 30)) = true := by rfl)
    (hline : (apos.endLine == cpos.line) = true := by rfl) (hline2 : (apos2.endLine == cpos2.line) = true := by rfl)
    (hs : starEach [.Call (.Attribute (.Name y p2) "pop" apos2) [e] [] cpos2] X.env = (false, eval (.Call (.Attribute (.Name y p2) "pop" apos2) [e] [] cpos2) X.env) :: starEach [] X.env := by rfl)
    (hs2 : starEach [e] X.env = (false, eval e X.env) :: starEach [] X.env := by rfl) (hplain : (backTo cpos (starEach [] X.env)).any (·.1) = false := by rfl) (hplain2 : (backTo cpos2 (starEach [] X.env)).any (·.1) = false := by rfl)
    (hsw : swapsWith (.Call (.Attribute (.Name x p) "append" apos) [.Call (.Attribute (.Name y p2) "pop" apos2) [e] [] cpos2] [] cpos) none pos.line X.env = pure false := by rfl) :
    ES X (.Expr (.Call (.Attribute (.Name x p) "append" apos) [.Call (.Attribute (.Name y p2) "pop" apos2) [e] [] cpos2] [] cpos) pos) (cAppPop i j fe) :=
  PS.cons (ps_expr (pe_bm PySem.F.plainAttrs_list PySem.F.slot_list_append PySem.F.type_list_append mt_append (pe_var hN hv hd hcd)
    (pa_cons (pe_bm PySem.F.plainAttrs_list PySem.F.slot_list_pop PySem.F.type_list_pop mt_popAt (pe_var hN2 hv2 hd2 hcd2) (a_cons he a_nil hs2) hbase2 hfew2 hline2 hs2 hplain2) pa_nil hs) hbase hfew hline hs hplain) hsw) fun D σ H ⟨B, ρ, S, o, ⟨α, Z, at_⟩, h, q⟩ => by
    obtain ⟨r, S1, h1, h⟩ := of_bnd h
    obtain ⟨w, m⟩ := r
    dsimp only at h
    split at h
    · rename_i k us ws hrj hri
      split at h
      · rename_i hk
        obtain ⟨hij, hk0, hk1, hwl⟩ := hk
        split at h
        · rename_i u hu
          cases h
          obtain ⟨v, e1, r1⟩ := at_.e.slot i _ _ hri
          obtain ⟨c, xs, rfl, h0, rl, nα, c1, _⟩ := r1.ofLst
          obtain ⟨v2, e2, r2⟩ := at_.e.slot j _ _ hrj
          obtain ⟨c2, ys, rfl, h02, rl2, nα2, c12, _⟩ := r2.ofLst
          have hne : c ≠ c2 := fun e => at_.e.sep i j _ _ _ hij hri rfl hrj rfl (by rw [e1, e2, e])
          refine ⟨_, e1, .inl ⟨rfl, xs, .of h0⟩, _, e2, .inl ⟨rfl, ys, .of h02⟩, ρ, S, α, Z, [(.int k, m)], S1, at_.w, at_.e, (by unfold cCons; rw [h1]; rfl), fun vs H1 α1 Z1 k1 w1 g1 => ?_⟩
          cases g1 with
          | cons g gt =>
            cases gt
            have h3 : H1 c = some (.lst xs) := k1.h _ _ h0 nα
            have h4 : H1 c2 = some (.lst ys) := k1.h _ _ h02 nα2
            have rlk : RepL X.kw α1 Z1 H1 xs ws := rl.keep at_.w k1
            have rlk2 : RepL X.kw α1 Z1 H1 ys us := rl2.keep at_.w k1
            obtain ⟨yv, hy, ry⟩ := rlk2.get hu
            have hlen : k.toNat < ys.length := (List.getElem?_eq_some_iff.mp hy).1
            have at1 := at_.go k1 w1
            have at2 := at1.write hrj rfl e2 (.lst (ys.eraseIdx k.toNat) (us.eraseIdx k.toNat)) (rlk2.erase k.toNat)
            obtain ⟨o2, w02, xs02, ws02, h02', s02, nα2', nz2⟩ := at1.e.root ⟨j, _, hrj, rfl, e2⟩
            have put2 : ∀ {vs : List V} {wl : List W}, RepL X.kw α1 Z1 H1 vs wl → RepL X.kw α1 Z1 (upd H1 c2 (.lst (ys.eraseIdx k.toNat))) vs wl := fun r => RepL.put (Wr.of nz2 h02' s02) r
            have hri2 : (ρ.set j (some (.lst (us.eraseIdx k.toNat), .own)))[i]? = some (some (.lst ws, .own)) := by rw [List.getElem?_set_ne (Ne.symm hij)]; exact hri
            refine ⟨c2, ys, k, k.toNat, yv, rfl, by rw [g.rep.ofInt], h4, by omega, by omega, ?_, hy, ?_⟩
            · unfold seqIndex?
              simp only [if_neg (show ¬ k < 0 by omega)]
              rw [if_pos (by simp; omega)]
            · refine ⟨c, xs, yv, rfl, rfl, by rw [upd_ne hne]; exact h3, by rw [rlk.length]; exact hwl, q _ _ ⟨α1, Z1, at2.write hri2 rfl e1 (.lst _ _) ((put2 rlk).append (put2 (.cons ry .nil)))⟩⟩
        · cases h
      · cases h
    · cases h
end
end Mp
/-! sorted(set(xs)) of a list of ints; code that no run reaches -/
namespace Mp
open PySem PySem.Spec PyProof.Rows L2

/-! ### set(xs) -/
section
variable {P : Program} {w : World} {A : Around} {E : Value → Shared → Prop} {s : Shared}
/-- an empty set -/
def eSet (w : World) : Obj := { cls := .type "set", dict := none, data := .set #[] 0 (.fresh 0 0 (!w.params.followText "set-order")) }
/-- what set(l) leaves -/
def SetGot (w : World) (s : Shared) (ns : List Int) (s' : Shared) : Prop := ∃ (h : Heap) (tk c : Nat), s' = { s with heap := h, toks := tk } ∧ SetR w h s.heap.objs.size (fun j => decide (j ∈ ns)) c ∧ c ≤ ns.length ∧ ∀ b o, s.heap.get? b = some o → h.get? b = some o
theorem new_get {h : Heap} {w : World} : (h.push (eSet w)).get? h.objs.size = some (eSet w) := Heap.get?_push_size _ rfl
theorem set_filled {l : Addr} {xs : Array Value} {ns : List Int} (hh : A.handled = none) (hl : s.heap.IsList l xs) (hi : IntsAre xs.toList ns) (hb : ns.length + 1 < scanBound) :
    codeAny (model P w) A (.call (.builtin "set.__init__") ⟨[.ref s.heap.objs.size, .ref l], []⟩) (wants (fun r s2 => r = .none ∧ SetGot w s ns s2) E) { s with heap := s.heap.push (eSet w) } := by
  have hn : xs.size = ns.length := (Array.length_toList (xs := xs)).symm.trans (IntsAre.length hi)
  have hT : Shared.TypeIs { s with heap := s.heap.push (eSet w) } (.ref s.heap.objs.size) "set" := ⟨_, new_get, rfl⟩
  have hl1 : (s.heap.push (eSet w)).IsList l xs := hl.push _
  have lS : l < s.heap.objs.size := by
    obtain ⟨_, e, _⟩ := hl
    exact Heap.lt_size e
  have zs : (s.heap.push (eSet w)).objs.size = s.heap.objs.size + 1 := Heap.size_push ..
  refine codeAny_call_builtin PySem.F.called_set.init.plain PySem.F.entry_set_init (check_set_init_1 hT ?_)
  obtain ⟨⟨cls, dd, data, sl⟩, hol, hc, n0, hd⟩ := id hl
  simp only at hc hd
  subst hc hd
  have hol1 : (s.heap.push (eSet w)).get? l = some ⟨_, dd, _, sl⟩ := Heap.get?_push_of_some _ hol
  have f1 := PySem.F.sub_list_set
  have f2 := PySem.F.sub_list_frozenset
  have f3 : (Value.type "list" == Value.type "dict") = false := by decide
  unfold Builtin.«set.__init__» noKeywords Builtin.Frozenset.updateFrom
  generalize hg : pyIter = pit
  wp_walk
  subst hg
  refine wpAny_pyIter_list hl1 (wpAny_bind (wpAny_runValue ?_))
  have dI : l ≠ (s.heap.push (eSet w)).objs.size := by
    rw [zs]
    exact Nat.ne_of_lt (Nat.lt_succ_of_lt lS)
  have aI : s.heap.objs.size ∉ [(s.heap.push (eSet w)).objs.size, l] := by
    intro h
    simp only [List.mem_cons, List.not_mem_nil, or_false] at h
    rcases h with h | h
    · rw [zs] at h
      exact Nat.ne_of_lt (Nat.lt_succ_self _) h
    · exact Nat.ne_of_gt lS h
  have vals : ∀ (i : Nat) (v : Value), xs[i]? = some v → ∃ k t, ns[i]? = some k ∧ v = .int k t := fun i v e => by
    obtain ⟨k, t, e1, e2⟩ := IntsAre.at hi i v (by rw [Array.getElem?_toList]; exact e)
    exact ⟨k, t, e2, e1⟩
  refine set_update_ints ((Walks.list (A := A.in1.in1) (by simp [hh]) _ l dI xs).toS) s.heap.objs.size aI ns hn hb vals (xs.size - 0) 0 _ (by omega) (Nat.zero_le _) ?st ?s0 fun s' c hm hc' hS' => ?_
  case st => exact ⟨⟨_, Heap.get?_push_size _ rfl, rfl, rfl⟩, hl1.push _⟩
  case s0 => exact ⟨0, Nat.le_refl 0, setR_new_at (Heap.get?_push_of_some _ new_get)⟩
  obtain ⟨h', g2, d', tk', os'⟩ := s'
  have eg : g2 = s.gens := hm.gens
  have ed : d' = s.drawn := hm.drawn
  have eo : os' = s.os := hm.os
  subst eg ed eo
  refine wpAny_pure (wpAny_pure ⟨rfl, h', tk', c, rfl, hS', by omega, fun b o e => ?_⟩)
  have hb0 : b < s.heap.objs.size := Heap.lt_size e
  refine hm.heap b o ?_ (Heap.get?_push_of_some _ (Heap.get?_push_of_some _ e))
  intro h
  simp only [List.mem_cons, List.not_mem_nil, or_false] at h
  rcases h with h | h
  · exact Nat.ne_of_lt hb0 h
  · rw [zs] at h
    exact Nat.ne_of_lt (Nat.lt_succ_of_lt hb0) h
theorem set_call {l : Addr} {xs : Array Value} {ns : List Int} {Q : Value → Shared → Prop} (hh : A.handled = none) (hl : s.heap.IsList l xs) (hi : IntsAre xs.toList ns) (hb : ns.length + 1 < scanBound)
    (h : ∀ s', SetGot w s ns s' → Q (.ref s.heap.objs.size) s') : wpAny (model P w) A (call (.type "set") [.ref l]) Q E s := by
  obtain ⟨c, tl, mro⟩ := PySem.F.called_set.mro
  have m1 := PySem.F.called_set.made
  have m2 := PySem.F.called_set.sub
  have m3 := PySem.F.called_set.notType
  have m4 := PySem.F.called_set.canCreate
  have m5 := PySem.F.typeCall_set_1 (.ref l)
  refine wpAny_call (codeAny_of_tree (show wpAny _ _ (callAny (.type "set") _) _ _ _ from wpAny_pure ⟨Code.quiet_builtin _ (by decide +kernel), codeAny_builtin PySem.F.entry_type_call ?_⟩))
  rw [Around.under_plain (weight_type_call_type "set" [Value.ref l] []) rfl]
  repeat (any_goals (first | assumption | wp_step))
  refine codeAny_mono (code_set_led1 (.ref l) (E := E) (Q₁ := fun z t => z = .ref s.heap.objs.size ∧ t = { s with heap := s.heap.push (eSet w) }) ⟨rfl, rfl⟩) fun r t ht => ?_
  match r, ht with
  | .error _, ht => exact ht
  | .ok (.ret z), ht =>
    obtain ⟨rfl, rfl⟩ := ht
    have i0 : Shared.TypeIs { s with heap := s.heap.push (eSet w) } (.ref s.heap.objs.size) "set" := ⟨_, new_get, rfl⟩
    have i1 := PySem.F.called_set.init.lookup
    have i2 := PySem.F.called_set.init.bind (.ref s.heap.objs.size)
    repeat (any_goals (first | assumption | wp_step))
    refine codeAny_mono (set_filled (P := P) (E := E) (by simp [hh]) hl hi hb) fun r t ht => ?_
    match r, ht with
    | .error _, ht => exact ht
    | .ok (.ret z), ht =>
      obtain ⟨rfl, ht⟩ := ht
      repeat (any_goals (first | assumption | wp_step))
      exact h _ ht
end

section
variable {X : Cx}
def rSetL (w : World) (K : PySem.W.Frag) : List V → Hp → VK → Prop := fun xs H Q => ∃ (a : Addr) (ns : List Int), xs = [V.ref a] ∧ SqL K H a (ns.map V.int) ∧ ns.length + 1 < scanBound ∧ ∀ p c, c ≤ ns.length → H p = none → Q (.ref p) (upd H p (SetO w p (fun j => decide (j ∈ ns)) c))
theorem cr_setL (hc : X.calm = true) : CallR X (.type "set") (rSetL X.w X.K) := fun pins s σ H xs us Q I r h => by
  obtain ⟨a, ns, rfl, hs, hb, q⟩ := h
  obtain ⟨its, rv, hl, _⟩ := I.list hs
  rw [Vals.ref1 r]
  refine set_call (I.ok.hd hc) hl.isList (by simpa using rv.ints) hb fun s' g => ?_
  obtain ⟨h', tk, c, rfl, R, hcn, hk⟩ := g
  exact ⟨.ref _, _, I.laid (t' := tk) (fun b u e => hk b u e) (Nat.le_refl _) (setO_new R), rfl, q _ _ hcn (I.hok.fresh (Nat.le_refl _))⟩
end
/-- the members, rising -/
def insU (x : Int) : List Int → List Int
  | [] => [x]
  | y :: ys => if x < y then x :: y :: ys else if x = y then y :: ys else y :: insU x ys
def sortU (ns : List Int) : List Int := ns.foldr insU []
theorem insU_mem (x z : Int) : ∀ ys : List Int, z ∈ insU x ys ↔ z = x ∨ z ∈ ys
  | [] => by simp [insU]
  | y :: ys => by
    unfold insU
    split
    · simp
    · split
      · rename_i e
        subst e
        simp
      · rw [List.mem_cons, insU_mem x z ys, List.mem_cons]
        constructor <;> (rintro (h | h | h) <;> simp [h])
theorem insU_rise (x : Int) : ∀ {ys : List Int}, ys.Pairwise (· < ·) → (insU x ys).Pairwise (· < ·)
  | [], _ => by simp [insU]
  | y :: ys, h => by
    obtain ⟨h1, h2⟩ := List.pairwise_cons.mp h
    unfold insU
    split
    · rename_i hx
      exact List.pairwise_cons.mpr ⟨fun z hz => by
        rcases List.mem_cons.mp hz with e | e
        · rw [e]; exact hx
        · have := h1 z e; omega, h⟩
    · split
      · exact h
      · refine List.pairwise_cons.mpr ⟨fun z hz => ?_, insU_rise x h2⟩
        rcases (insU_mem x z ys).mp hz with e | e
        · subst e; omega
        · exact h1 z e
theorem sortU_mem (z : Int) : ∀ ns : List Int, z ∈ sortU ns ↔ z ∈ ns
  | [] => by simp [sortU]
  | n :: ns => by
    show z ∈ insU n (sortU ns) ↔ _
    rw [insU_mem, sortU_mem z ns, List.mem_cons]
theorem sortU_rise : ∀ ns : List Int, (sortU ns).Pairwise (· < ·)
  | [] => .nil
  | n :: ns => insU_rise n (sortU_rise ns)
/-- strictly rising lists of the same members are the same -/
theorem rise_eq : ∀ {xs ys : List Int}, xs.Pairwise (· < ·) → ys.Pairwise (· < ·) → (∀ z, z ∈ xs ↔ z ∈ ys) → xs = ys
  | [], [], _, _, _ => rfl
  | [], y :: ys, _, _, h => absurd ((h y).mpr List.mem_cons_self) List.not_mem_nil
  | x :: xs, [], _, _, h => absurd ((h x).mp List.mem_cons_self) List.not_mem_nil
  | x :: xs, y :: ys, hx, hy, h => by
    obtain ⟨hx1, hx2⟩ := List.pairwise_cons.mp hx
    obtain ⟨hy1, hy2⟩ := List.pairwise_cons.mp hy
    have e : x = y := by
      rcases List.mem_cons.mp ((h x).mp List.mem_cons_self) with e | e
      · exact e
      · rcases List.mem_cons.mp ((h y).mpr List.mem_cons_self) with e2 | e2
        · exact e2.symm
        · have := hx1 y e2
          have := hy1 x e
          omega
    subst e
    congr 1
    refine rise_eq hx2 hy2 fun z => ⟨fun hz => ?_, fun hz => ?_⟩
    · rcases List.mem_cons.mp ((h z).mp (List.mem_cons_of_mem _ hz)) with e | e
      · have := hx1 z hz; omega
      · exact e
    · rcases List.mem_cons.mp ((h z).mpr (List.mem_cons_of_mem _ hz)) with e | e
      · have := hy1 z hz; omega
      · exact e
def intsOf : List W → Option (List Int)
  | [] => some []
  | .int i :: ws => (intsOf ws).map (i :: ·)
  | _ :: _ => none
theorem intsOf_map (ns : List Int) : intsOf (ns.map .int) = some ns := by
  induction ns with
  | nil => rfl
  | cons n ns ih =>
    rw [List.map_cons]
    unfold intsOf
    rw [ih]
    rfl
theorem RepL.ofInts {K : KW} {α : List Addr} {Z : Addr → Prop} {H : Hp} : ∀ {us : List W} {vs : List V} {ns : List Int}, RepL K α Z H vs us → intsOf us = some ns → vs = ns.map V.int
  | [], _, _, r, e => by
    cases e; cases r; rfl
  | .int b :: us, _, _, r, e => by
    obtain ⟨cs, h, rfl⟩ := Option.map_eq_some_iff.mp e
    cases r with
    | cons r t => rw [(r.im (m := .frz) rfl).ofInt, RepL.ofInts t h]; rfl
/-- sorted(set(xs)) -/
def gSortSet : Store → List W → Option W := fun _ ws => match ws with
  | [.lst us] => (match intsOf us with
    | some ns => if ns.length < 64 then some (.lst ((sortU ns).map .int)) else none
    | none => none)
  | _ => none
section
variable {X : Cx} {e : Expr} {fe : CE} {pos p pos2 p2 : Pos}
theorem scan64 {n : Nat} (h : n < 64) : n + 1 < scanBound := by
  have : 100 < scanBound := by decide +kernel
  omega
theorem e_sortSet (hc : X.calm = true) (hm : X.mg "sorted" = none) (hm2 : X.mg "set" = none) (h : EE X e fe) (hg : Gl X "sorted" := by rfl) (hg2 : Gl X "set" := by rfl)
    (hs2 : starEach [e] X.env = (false, eval e X.env) :: starEach [] X.env := by rfl) (hpl2 : (backTo pos2 (starEach [] X.env)).any (·.1) = false := by rfl)
    (hs : starEach [.Call (.Name "set" p2) [e] [] pos2] X.env = (false, eval (.Call (.Name "set" p2) [e] [] pos2) X.env) :: starEach [] X.env := by rfl) (hpl : (backTo pos (starEach [] X.env)).any (·.1) = false := by rfl) :
    EE X (.Call (.Name "sorted" p) [.Call (.Name "set" p2) [e] [] pos2] [] pos) (cBi gSortSet (cCons fe cNil)) :=
  PE.cons (pe_callB (cr_sortedSet hc) hg hm (by decide +kernel) (pa_cons (pe_callTy (cr_setL hc) hg2 hm2 (by decide +kernel) (a_cons h a_nil hs2) (by decide) (by decide) hs2 hpl2) pa_nil hs) (by decide) (by decide) hs hpl) fun σ H Q ⟨ρ, S, α, Z, r', S', wo, en, h, q⟩ => by
    obtain ⟨rs, S1, h1, h⟩ := of_bnd h
    obtain ⟨c, hg, e⟩ := Option.map_eq_some_iff.mp h
    cases e
    refine ⟨ρ, S, α, Z, rs, _, wo, en, h1, fun vs H1 α1 Z1 k1 w1 g1 => ?_⟩
    have gv := got_vals g1
    unfold gSortSet at hg
    split at hg
    · rename_i us hus
      rw [hus] at gv
      obtain ⟨v, rfl, r⟩ := one_of gv
      obtain ⟨a, xs, rfl, h0, rl, _⟩ := r.ofLst
      split at hg
      · rename_i ns hns
        split at hg
        · rename_i hl
          cases hg
          refine ⟨a, ns, rfl, by rw [← rl.ofInts hns]; exact .inl (.inl h0), scan64 hl, fun p c hcn hp => ?_⟩
          refine ⟨p, _, c, rfl, upd_same, by omega, fun ks l hr hm hkl hl2 => ?_⟩
          have ek : ks = sortU ns := rise_eq hr (sortU_rise ns) fun z => by
            rw [hm z, sortU_mem]
            simp
          subst ek
          have k2 : Keep H1 α1 Z1 (upd H1 p (SetO X.w p (fun j => decide (j ∈ ns)) c)) α1 Z1 := Keep.new hp
          have w2 := w1.new (u := SetO X.w p (fun j => decide (j ∈ ns)) c) hp
          exact new_list (m := .own) w2 (RepL.ints (ns := sortU ns)) (fun v H3 k3 w3 g3 => q v H3 α1 Z1 ((k1.trans k2).trans k3) w3 (g3.back (k1.trans k2).d)) l hl2
        · cases hg
      · cases hg
    · cases hg

/-! ### code that no run reaches -/
def cStopE : CE := fun _ _ => none
def cStopS : CS := fun _ _ => none
theorem e_stop {e : Expr} : EE X e cStopE := ⟨fun pins s σ H Q I ⟨_, _, _, _, _, _, _, _, h, _⟩ => by cases h⟩
theorem t_stop {e : Expr} : ET X e (fun _ _ => none) := ⟨fun pins s σ H Q I ⟨_, _, _, _, _, _, _, _, h, _⟩ => by cases h⟩
theorem s_stop {st : Stmt} : ES X st cStopS := ⟨fun pins s σ H D I h0 => by
  obtain ⟨_, _, _, _, _, h, _⟩ := h0
  cases h⟩
end
end Mp
/-! list(range(n)) -/
namespace Mp
open PySem PySem.Spec PyProof.Rows L2
section
variable {X : Cx}
theorem cr_rangeN : CallR X (.type "range") (fun vs H Q => ∃ j, vs = [V.int j] ∧ ∀ p, H p = none → Q (.ref p) (upd H p (.rng 0 j))) := fun pins s σ H vs us Q I r h => by
  obtain ⟨j, rfl, q⟩ := h
  obtain ⟨u1, rfl, t, rfl⟩ := vals1 r
  refine call_range_1 ⟨.ref s.heap.objs.size, _, I.laid (t' := s.toks + 1 + 1) (fun b o e => Heap.get?_push_of_some _ e) (Nat.le_refl _) (show ObjOk X.prog X.w _ _ _ (.rng 0 j) from ⟨_, _, _, Heap.get?_push_size _ rfl⟩), rfl, q _ (I.hok.fresh (Nat.le_refl _))⟩
theorem vals_ofItems : ∀ {xs : List Value} {n : Nat} (k : Nat), xs.length = n → (∀ i v, xs[i]? = some v → ∃ t, v = Value.int (((k + i : Nat)) : Int) t) → Vals ((List.range' k n).map fun i : Nat => V.int ((i : Nat) : Int)) xs
  | [], n, k, h, _ => by
    subst h; exact .nil
  | x :: xs, n, k, h, hv => by
    subst h
    rw [List.length_cons, List.range'_succ, List.map_cons]
    obtain ⟨t, e⟩ := hv 0 x rfl
    subst e
    refine .cons ⟨t, rfl⟩ (vals_ofItems (k + 1) rfl fun i v e => ?_)
    obtain ⟨t2, e2⟩ := hv (i + 1) v (by simpa using e)
    exact ⟨t2, by rw [e2]; congr 2; omega⟩
theorem rsz (n : Nat) : Builtin.Range.rangeSize 0 ((n : Nat) : Int) 1 = ((n : Nat) : Int) := by
  unfold Builtin.Range.rangeSize
  rw [if_pos (by omega)]
  split <;> omega
theorem fitL {n : Nat} (h : n ≤ 1000000) : Builtin.Range.rangeFitsLong ((n : Nat) : Int) = true := by
  unfold Builtin.Range.rangeFitsLong
  simp
  omega
theorem fitL0 : Builtin.Range.rangeFitsLong 0 = true := fitL (n := 0) (by omega)
theorem fitL1 : Builtin.Range.rangeFitsLong 1 = true := fitL (n := 1) (by omega)
theorem cr_listRng (hc : X.calm = true) : CallR X (.type "list") (fun vs H Q => ∃ (p : Addr) (n : Nat), vs = [V.ref p] ∧ H p = some (.rng 0 ((n : Nat) : Int)) ∧ n ≤ 1000000 ∧ ∀ l, H l = none → Q (.ref l) (upd H l (.lst ((List.range n).map fun i : Nat => V.int ((i : Nat) : Int))))) := fun pins s σ H vs us Q I r h => by
  obtain ⟨p, n, rfl, hp, hn, q⟩ := h
  rw [Vals.ref1 r]
  obtain ⟨t, u, v, e⟩ := I.hok p _ hp
  refine call_list_range (n := n) (I.ok.hd hc) e ?_ ?_ (by omega) fun h' tk acc c' hk hS hacc => ?_
  · unfold Builtin.Range.small
    simp only [rsz n, fitL0, fitL1, fitL (by omega), Bool.and_true, Bool.true_and, Bool.or_true]
    rw [if_pos (by decide), show ((n : Nat) : Int) + (1 - 1) = ((n : Nat) : Int) by omega, fitL (by omega), Bool.or_true]
  · exact rsz n
  · have hv : Vals ((List.range n).map fun i : Nat => V.int ((i : Nat) : Int)) acc.toList := by
      rw [List.range_eq_range']
      refine vals_ofItems 0 (by rw [Array.length_toList]; exact hacc.1) fun i v e => ?_
      obtain ⟨t, e2⟩ := hacc.2 i v (by simpa using e)
      exact ⟨t, by rw [e2]; congr 1; omega⟩
    have hz : ((List.range n).map fun i : Nat => V.int ((i : Nat) : Int)).length ≤ sizeLine := by rw [List.length_map, List.length_range]; exact size_ok (by omega)
    exact ⟨.ref _, _, I.laid (t' := tk) hk (Nat.le_refl _) (show ObjOk X.prog X.w _ _ _ (.lst _) from ⟨hz, acc.toList, c', hv, by simpa using hS⟩), rfl, q _ (I.hok.fresh (Nat.le_refl _))⟩
/-- list(range(e)) -/
def gListRange : Store → List W → Option W := fun _ ws => match ws with
  | [.int j] => if j.natAbs ≤ 1000000 ∧ 0 ≤ j then some (.lst ((List.range j.toNat).map fun i : Nat => W.int ((i : Nat) : Int))) else none
  | _ => none
variable {e : Expr} {fe : CE} {pos p pos2 p2 : Pos}
theorem RepL.rng {K : KW} {α : List Addr} {Z : Addr → Prop} {H : Hp} : ∀ l : List Nat, RepL K α Z H (l.map fun i : Nat => V.int ((i : Nat) : Int)) (l.map fun i : Nat => W.int ((i : Nat) : Int))
  | [] => .nil
  | x :: xs => .cons (.int _) (RepL.rng xs)
theorem e_listRange (hc : X.calm = true) (hm : X.mg "list" = none) (hm2 : X.mg "range" = none) (h : EE X e fe) (hg : Gl X "list" := by rfl) (hg2 : Gl X "range" := by rfl)
    (hs2 : starEach [e] X.env = (false, eval e X.env) :: starEach [] X.env := by rfl) (hpl2 : (backTo pos2 (starEach [] X.env)).any (·.1) = false := by rfl)
    (hs : starEach [.Call (.Name "range" p2) [e] [] pos2] X.env = (false, eval (.Call (.Name "range" p2) [e] [] pos2) X.env) :: starEach [] X.env := by rfl) (hpl : (backTo pos (starEach [] X.env)).any (·.1) = false := by rfl) :
    EE X (.Call (.Name "list" p) [.Call (.Name "range" p2) [e] [] pos2] [] pos) (cBi gListRange (cCons fe cNil)) :=
  PE.cons (pe_callTy (cr_listRng hc) hg hm (by decide +kernel) (pa_cons (pe_callTy cr_rangeN hg2 hm2 (by decide +kernel) (a_cons h a_nil hs2) (by decide) (by decide) hs2 hpl2) pa_nil hs) (by decide) (by decide) hs hpl) fun σ H Q ⟨ρ, S, α, Z, r', S', wo, en, h, q⟩ => by
    obtain ⟨rs, S1, h1, h⟩ := of_bnd h
    obtain ⟨c, hg, e⟩ := Option.map_eq_some_iff.mp h
    cases e
    refine ⟨ρ, S, α, Z, rs, _, wo, en, h1, fun vs H1 α1 Z1 k1 w1 g1 => ?_⟩
    have gv := got_vals g1
    unfold gListRange at hg
    split at hg
    · rename_i j hj
      rw [hj] at gv
      obtain ⟨v, rfl, r⟩ := one_of gv
      split at hg
      · rename_i hl
        cases hg
        rw [r.ofInt]
        refine ⟨j, rfl, fun p hp => ⟨p, j.toNat, rfl, by rw [upd_same, Int.toNat_of_nonneg hl.2], by omega, fun l hl2 => ?_⟩⟩
        have k2 : Keep H1 α1 Z1 (upd H1 p (.rng 0 j)) α1 Z1 := Keep.new hp
        have w2 := w1.new (u := .rng 0 j) hp
        exact new_list (m := .own) w2 (RepL.rng (List.range j.toNat)) (fun v H3 k3 w3 g3 => q v H3 α1 Z1 ((k1.trans k2).trans k3) w3 (g3.back (k1.trans k2).d)) l hl2
      · cases hg
    · cases hg
end
end Mp
/-! dicts with nested keys; gcd; is None; sorted ints -/
namespace Mp
open PySem PySem.Spec PyProof.Rows L2

/-! ### keys -/
mutual
def nkOf : W → Option NestedKey
  | .non => some .none
  | .int i => some (.num i)
  | .str x => some (.text x)
  | .tup ws => (nksOf ws).map .tup
  | _ => none
def nksOf : List W → Option (List NestedKey)
  | [] => some []
  | w :: ws => match nkOf w, nksOf ws with
    | some k, some ks => some (k :: ks)
    | _, _ => none
end
/-- a tuple as a key -/
def nkAt (w : W) : Option NestedKey := match w with
  | .tup ws => (match nksOf ws with
    | some ks => if (NestedKey.tup ks).depth ≤ 8 then some (.tup ks) else none
    | none => none)
  | _ => none
section
variable {K : KW} {α : List Addr} {Z : Addr → Prop} {H : Hp}
mutual
theorem Rep.isK : ∀ {w : W} {v : V} {k : NestedKey}, Rep K α Z H v w → nkOf w = some k → IsK H v k
  | .non, _, _, r, e => by cases e; rw [(r.im (m := .frz) rfl).ofNon]; exact .non
  | .int i, _, _, r, e => by cases e; rw [(r.im (m := .frz) rfl).ofInt]; exact .int i
  | .str x, _, _, r, e => by cases e; rw [(r.im (m := .frz) rfl).ofStr]; exact .str x
  | .tup ws, _, _, r, e => by
    obtain ⟨a, xs, rfl, h, rl⟩ := (r.im (m := .frz) rfl).ofTup
    unfold nkOf at e
    obtain ⟨ks, e1, e2⟩ := Option.map_eq_some_iff.mp e
    subst e2
    exact .tup h (RepL.isKs rl e1)
  | .bl _, _, _, _, e => by cases e
  | .lst _, _, _, _, e => by cases e
  | .dk _, _, _, _, e => by cases e
  | .dt _, _, _, _, e => by cases e
  | .scr _, _, _, _, e => by cases e
  | .cel _, _, _, _, e => by cases e
  | .ty _, _, _, _, e => by cases e
  | .dn _, _, _, _, e => by cases e
  | .ins _ _, _, _, _, e => by cases e
  | .lck _, _, _, _, e => by cases e
theorem RepL.isKs : ∀ {ws : List W} {vs : List V} {ks : List NestedKey}, RepL K α Z H vs ws → nksOf ws = some ks → IsKs H vs ks
  | [], _, _, r, e => by cases e; cases r; exact .nil
  | w :: ws, _, _, r, e => by
    unfold nksOf at e
    split at e
    · rename_i k ks h1 h2
      cases e
      cases r with
      | cons r t => exact .cons (Rep.isK r h1) (RepL.isKs t h2)
    · cases e
end
theorem nkAt_ok {m : Md} {v : V} {w : W} {k : NestedKey} (r : RepM K α Z H m v w) (h : nkAt w = some k) : ∃ b, v = .ref b ∧ IsK H (.ref b) k ∧ k.depth ≤ 8 := by
  unfold nkAt at h
  split at h
  · rename_i ws
    split at h
    · rename_i ks hk
      split at h
      · rename_i hd
        cases h
        obtain ⟨b, xs, rfl, hb, rl⟩ := r.ofTup
        exact ⟨b, rfl, .tup hb (rl.isKs hk), hd⟩
      · cases h
    · cases h
  · cases h
end
section
variable {P : Program} {w : World} {H : Hp} {h : Heap}
mutual
theorem IsK.nested (ok : HOk P w H h) : ∀ {v : V} {k : NestedKey} {u : Value}, IsK H v k → RelV v u → NestedIs h k u
  | _, _, _, .non, r => by cases (show _ = Value.none from r); exact .none
  | _, _, _, .int i, r => by obtain ⟨t, e⟩ := (show ∃ t, _ = Value.int i t from r); subst e; exact .int i t
  | _, _, _, .str x, r => by obtain ⟨t, e⟩ := (show ∃ t, _ = Value.str x t from r); subst e; exact .text x t
  | _, _, _, .tup (a := a) (xs := xs) (ks := ks) e rl, r => by
    cases (show _ = Value.ref a from r)
    obtain ⟨_, its, rv, ob, h1, h2, n, h3⟩ := (show ObjOk P w H h a (.tup xs) from ok a _ e)
    exact .tup h1 h2 h3 (by simpa using IsKs.nested ok rl rv)
theorem IsKs.nested (ok : HOk P w H h) : ∀ {vs : List V} {ks : List NestedKey} {us : List Value}, IsKs H vs ks → Vals vs us → NestedAll h ks us
  | _, _, _, .nil, r => by cases r; exact .nil
  | _, _, _, .cons q t, r => by
    cases r with
    | cons r1 r2 => exact .cons (IsK.nested ok q r1) (IsKs.nested ok t r2)
end
end

/-! ### the dict -/
abbrev NE := List (NestedKey × Addr × V)
def atN (es : NE) (k : NestedKey) : Option V := (es.find? fun e => decide (e.1 = k)).map (·.2.2)
def putN (es : NE) (k : NestedKey) (b : Addr) (v : V) : NE := if (es.any fun e => decide (e.1 = k)) = true then es.map (fun e => if e.1 = k then (e.1, e.2.1, v) else e) else es ++ [(k, b, v)]
def KeysN (H : Hp) (es : NE) : Prop := ∀ e ∈ es, IsK H (.ref e.2.1) e.1 ∧ e.1.depth ≤ 8
def NGet (w : World) (H : Hp) (a : Addr) (y : V) (o : Option V) : Prop := ∃ es k b, Rd H a (DnO w a es) ∧ KeysN H es ∧ y = .ref b ∧ IsK H (.ref b) k ∧ k.depth ≤ 8 ∧ o = atN es k
def NPut (w : World) (H : Hp) (a : Addr) (y v : V) (H' : Hp) : Prop := ∃ es k b, H a = some (DnO w a es) ∧ KeysN H es ∧ y = .ref b ∧ IsK H (.ref b) k ∧ k.depth ≤ 8 ∧ es.length < sizeLine ∧ H' = upd H a (DnO w a (putN es k b v))
abbrev NRel : NE → List (NestedKey × Addr × Value) → Prop := Paired fun p q => p.1 = q.1 ∧ p.2.1 = q.2.1 ∧ RelV p.2.2 q.2.2
theorem NRel.at : ∀ {es : NE} {vs : List (NestedKey × Addr × Value)} (k : NestedKey), NRel es vs → RelO (atN es k) ((atKey vs k).map (·.2))
  | [], _, k, r => by cases r; trivial
  | e :: es, _, k, r => by
    cases r with
    | @cons _ q _ vs r t =>
      have ih := NRel.at k t
      unfold atN atKey at *
      rw [List.find?_cons, List.find?_cons, r.1]
      by_cases hk : q.1 = k
      · simp only [hk, decide_true, Option.map_some]
        exact r.2.2
      · simp only [hk, decide_false]
        exact ih
theorem NRel.any (k : NestedKey) : ∀ {es : NE} {vs : List (NestedKey × Addr × Value)}, NRel es vs → (es.any fun e => decide (e.1 = k)) = (atKey vs k).isSome
  | [], _, r => by cases r; rfl
  | e :: es, _, r => by
    cases r with
    | @cons _ q _ vs r t =>
      have ih := NRel.any k t
      unfold atKey at *
      rw [List.any_cons, List.find?_cons, r.1]
      by_cases hk : q.1 = k
      · simp [hk]
      · simp only [hk, decide_false, Bool.false_or]
        exact ih
theorem NRel.put {k : NestedKey} {b : Addr} {v : V} {u : Value} (rv : RelV v u) {es : NE} {vs : List (NestedKey × Addr × Value)} (r : NRel es vs) : NRel (putN es k b v) (storedH vs k b u) := by
  unfold putN storedH
  rw [r.any k]
  split
  · rename_i hh
    clear hh
    induction r with
    | nil => exact .nil
    | @cons p q ps qs r t ih =>
      refine .cons ?_ ih
      unfold putAt
      dsimp only
      by_cases hk : q.1 = k
      · rw [if_pos (r.1.trans hk), if_pos hk]; exact ⟨r.1, r.2.1, rv⟩
      · rw [if_neg (fun e => hk (r.1.symm.trans e)), if_neg hk]; exact r
  · exact Paired.snoc r ⟨rfl, rfl, rv⟩
theorem putN_len (es : NE) (k : NestedKey) (b : Addr) (v : V) : (putN es k b v).length ≤ es.length + 1 := by
  unfold putN
  split
  · rw [List.length_map]; omega
  · rw [List.length_append]; simp
section
variable {P : Program} {w : World} {H : Hp} {h : Heap} {a : Addr} {es : NE}
theorem dn_rd (ok : HOk P w H h) (e : Rd H a (DnO w a es)) (hk : KeysN H es) : (a == sysModules) = false ∧ es.length ≤ sizeLine ∧ ∃ vs, NRel es vs ∧ h.DictOfH (nestedKind P w) a vs := by
  obtain ⟨⟨h1, h2, vs, r, o, ds, ep, g1, g2, g3, g4, g5⟩, _, _⟩ := (show ObjOk P w H h a (DnO w a es) from e.ok ok)
  refine ⟨h1, h2, vs, r, o, ds, ep, g1, g2, g3, g4, fun x hx => ?_, g5⟩
  have all : ∀ {l : NE} {m : List (NestedKey × Addr × Value)}, NRel l m → KeysN H l → ∀ x ∈ m, (nestedKind P w).is h x.1 x.2.1 := by
    intro l m q
    induction q with
    | nil => intro _ x hx; exact nomatch hx
    | @cons p q ps qs hq t ih =>
      intro hl x hx
      rcases List.mem_cons.mp hx with rfl | hx
      · obtain ⟨k1, k2⟩ := hl p List.mem_cons_self
        rw [hq.1, hq.2.1] at k1
        rw [hq.1] at k2
        exact ⟨k1.nested ok rfl, k2⟩
      · exact ih (fun e he => hl e (List.mem_cons_of_mem _ he)) x hx
  exact all r hk x hx
theorem dn_new {h' : Heap} {H' : Hp} {vs : List (NestedKey × Addr × Value)} (hd : (a == sysModules) = false) (hl : es.length ≤ sizeLine) (r : NRel es vs) (dd : h'.DictOfH (nestedKind P w) a vs) : ObjOk P w H' h' a (DnO w a es) := by
  obtain ⟨o, ds, ep, g1, g2, g3, g4, _, g5⟩ := dd
  refine ⟨⟨hd, hl, vs, r, o, ds, ep, g1, g2, g3, g4, g5⟩, ⟨o, g1⟩, fun h1 h2 ⟨q1, q2, us, q3, o', ds', ep', q4, q5⟩ st => ⟨q1, q2, us, q3, o', ds', ep', st _ q4, q5⟩⟩
end
section
variable {X : Cx} {pins : List (Addr × Obj)} {σ : L2.St} {H : Hp} {s : Shared} {a : Addr} {y v z : V} {u r f : Value} {A : Around} {E : Value → Shared → Prop} {o : Option V}
theorem room9 {k : Nat} (hr : Room k A) : (nestedKind X.prog X.w).room A.in1 := by
  have := hr.units
  show A.units + 1 + 8 < cLine
  omega
theorem n_getItem {Q : Value → Shared → Prop} (hu : (nestedKind X.prog X.w).room A.in1) (I : Inv X pins σ H s) (g : NGet X.w H a y (some v)) (ry : RelV y u) (h : ∀ w' s', Inv X pins σ H s' → RelV v w' → Q w' s') :
    wpAny (model X.prog X.w) A (getItem (.ref a) u) Q E s := by
  obtain ⟨es, k, b, e, hk, rfl, kb, kd, l⟩ := g
  cases (show u = Value.ref b from ry)
  obtain ⟨hd, hl, vs, rel, dd⟩ := dn_rd I.hok e hk
  obtain ⟨w', hw, rw'⟩ := RelO.some_of (v := v) (o := (atKey vs k).map (·.2)) (by rw [l]; exact rel.at k)
  obtain ⟨p, hp, hp2⟩ := Option.map_eq_some_iff.mp hw
  refine wpAny_getItem_heap hu ⟨kb.nested I.hok rfl, kd⟩ dd hp ?_
  rw [hp2]
  exact h w' _ (I.tok _) rw'
theorem n_get1 {Q : Value → Shared → Prop} (hu : (nestedKind X.prog X.w).room A.in1) (I : Inv X pins σ H s) (g : NGet X.w H a y o) (ry : RelV y u) (h : ∀ w' s', Inv X pins σ H s' → RelV (o.getD .non) w' → Q w' s') :
    wpAny (model X.prog X.w) A (call (.builtin "dict.get") [.ref a, u]) Q E s := by
  obtain ⟨es, k, b, e, hk, rfl, kb, kd, l⟩ := g
  cases (show u = Value.ref b from ry)
  obtain ⟨hd, hl, vs, rel, dd⟩ := dn_rd I.hok e hk
  refine call_meetsIn PySem.F.slot_dict_get dd.typeIs PySem.F.entry_dict_get (PySem.F.args_dict_get_2 _ _) (meetsH_dict_get (nestedKind X.prog X.w) a b hd) ⟨hu, k, vs, ⟨kb.nested I.hok rfl, kd⟩, dd, h _ _ (I.tok _) ?_⟩
  rw [l]
  exact (rel.at k).getD rfl
theorem n_get2 {Q : Value → Shared → Prop} (hu : (nestedKind X.prog X.w).room A.in1) (I : Inv X pins σ H s) (g : NGet X.w H a y o) (ry : RelV y u) (rz : RelV z f) (h : ∀ w' s', Inv X pins σ H s' → RelV (o.getD z) w' → Q w' s') :
    wpAny (model X.prog X.w) A (call (.builtin "dict.get") [.ref a, u, f]) Q E s := by
  obtain ⟨es, k, b, e, hk, rfl, kb, kd, l⟩ := g
  cases (show u = Value.ref b from ry)
  obtain ⟨hd, hl, vs, rel, dd⟩ := dn_rd I.hok e hk
  refine call_meetsIn PySem.F.slot_dict_get dd.typeIs PySem.F.entry_dict_get (PySem.F.args_dict_get_3 _ _ _) (meetsH_dict_get_default (nestedKind X.prog X.w) a b hd f) ⟨hu, k, vs, ⟨kb.nested I.hok rfl, kd⟩, dd, h _ _ (I.tok _) ?_⟩
  rw [l]
  exact (rel.at k).getD rz
theorem n_in {Q : Value → Shared → Prop} (hu : (nestedKind X.prog X.w).room A.in1) (I : Inv X pins σ H s) (g : NGet X.w H a y o) (ry : RelV y u) (h : ∀ s', Inv X pins σ H s' → Q (.bool o.isSome) s') :
    wpAny (model X.prog X.w) A (compareOp .In u (.ref a)) Q E s := by
  obtain ⟨es, k, b, e, hk, rfl, kb, kd, l⟩ := g
  cases (show u = Value.ref b from ry)
  obtain ⟨hd, hl, vs, rel, dd⟩ := dn_rd I.hok e hk
  refine in_keyed hu ⟨kb.nested I.hok rfl, kd⟩ hd ⟨vs, dd, rfl⟩ ?_
  have q : (valueAt (pairsH vs) k).isSome = o.isSome := by
    rw [valueAt_pairsH, l]
    exact ((rel.at k).isSome_eq).symm
  rw [q]
  exact h _ (I.tok _)
theorem n_notIn {Q : Value → Shared → Prop} (hu : (nestedKind X.prog X.w).room A.in1) (I : Inv X pins σ H s) (g : NGet X.w H a y o) (ry : RelV y u) (h : ∀ s', Inv X pins σ H s' → Q (.bool (!o.isSome)) s') :
    wpAny (model X.prog X.w) A (compareOp .NotIn u (.ref a)) Q E s := by
  obtain ⟨es, k, b, e, hk, rfl, kb, kd, l⟩ := g
  cases (show u = Value.ref b from ry)
  obtain ⟨hd, hl, vs, rel, dd⟩ := dn_rd I.hok e hk
  refine notIn_keyed hu ⟨kb.nested I.hok rfl, kd⟩ hd ⟨vs, dd, rfl⟩ ?_
  have q : (valueAt (pairsH vs) k).isSome = o.isSome := by
    rw [valueAt_pairsH, l]
    exact ((rel.at k).isSome_eq).symm
  rw [q]
  exact h _ (I.tok _)
theorem n_setItem {H' : Hp} {Q : Unit → Shared → Prop} (hu : (nestedKind X.prog X.w).room A.in1) (I : Inv X pins σ H s) (g : NPut X.w H a y v H') (ry : RelV y u) (rv : RelV v r) (h : ∀ s', Inv X pins σ H' s' → Q () s') :
    wpAny (model X.prog X.w) A (setItem (.ref a) u r) Q E s := by
  obtain ⟨es, k, b, e, hk, rfl, kb, kd, l, rfl⟩ := g
  cases (show u = Value.ref b from ry)
  obtain ⟨hd, hl, vs, rel, dd⟩ := dn_rd I.hok (.inl e) hk
  have hz : vs.length ≤ sizeLine := by rw [← Paired.length rel]; exact hl
  have hn : (putN es k b v).length ≤ sizeLine := by have := putN_len es k b v; omega
  refine wpAny_setItem_heap (hsz := hz) hu ⟨kb.nested I.hok rfl, kd⟩ dd fun h' dd' hs => h _ ?_
  have he : ∃ q, h'.get? a = some q := let ⟨q, _, _, hq, _⟩ := dd'; ⟨q, hq⟩
  exact d_write I (by rw [e]; exact True.intro) hs he (dn_new hd hn (rel.put rv) dd')
end
end Mp
/-! the evaluator's parts for them -/
namespace Mp
open PySem PySem.Spec PyProof.Rows L2
/-! ### reading -/
def atNW (kws : List (NestedKey × W)) (k : NestedKey) : Option W := dGet kws k
/-- what a nested-key dict, a cell's too, holds at a key -/
def dnS (S : Store) (d k : W) : Option (Option W) := match drf S d, nkAt k with
  | some (.dn kws), some κ => some (dGet kws κ)
  | _, _ => none
def isDn (S : Store) (d : W) : Bool := match drf S d with
  | some (.dn _) => true
  | _ => false
section
variable {K : KW} {α : List Addr} {Z : Addr → Prop} {H : Hp} {S : Store} {m m2 : Md} {v y : V} {d k : W}
theorem dn_at {κ : NestedKey} : ∀ {es : NE} {kws : List (NestedKey × W)}, es.map (·.1) = kws.map (·.1) → RepL K α Z H (es.map (·.2.2)) (kws.map (·.2)) →
    (dGet kws κ = none → atN es κ = none) ∧ ∀ w, dGet kws κ = some w → ∃ v, atN es κ = some v ∧ Rep K α Z H v w
  | [], [], _, _ => ⟨fun _ => rfl, fun w h => by cases h⟩
  | [], _ :: _, h, _ => by cases h
  | _ :: _, [], h, _ => by cases h
  | (k1, b1, v1) :: r, (k2, w2) :: q, h, rl => by
    have e1 : k1 = k2 := by injection h
    have e2 : r.map (·.1) = q.map (·.1) := by injection h
    subst e1
    cases rl with
    | cons ra rt =>
      have ih := dn_at (κ := κ) e2 rt
      unfold atN dGet at *
      rw [List.find?_cons, List.find?_cons]
      by_cases hk : k1 = κ
      · rw [decide_eq_true hk]
        exact ⟨fun h => (by cases h), fun w h => (by cases h; exact ⟨_, rfl, ra⟩)⟩
      · rw [decide_eq_false hk]
        exact ih
theorem dn_get {o : Option W} (wo : WOk K H S α Z) (rd : RepM K α Z H m v d) (ry : RepM K α Z H m2 y k) (h : dnS S d k = some o) :
    ∃ a, v = .ref a ∧ (o = none → NGet K.w H a y none) ∧ ∀ w, o = some w → ∃ u, NGet K.w H a y (some u) ∧ Rep K α Z H u w := by
  unfold dnS at h
  split at h
  · rename_i kws κ h1 h2
    cases h
    obtain ⟨b, rfl, kb, kd⟩ := nkAt_ok ry h2
    obtain ⟨a, oh, xs, ws, rfl, h0, s, rl⟩ := (rd.drf wo h1).muE rfl
    cases s with
    | @dn es kws e hk =>
      obtain ⟨g1, g2⟩ := dn_at (κ := κ) e rl
      refine ⟨a, rfl, fun hh => ?_, fun w hh => ?_⟩
      · exact ⟨es, κ, b, h0, hk, rfl, kb, kd, (g1 hh).symm⟩
      · obtain ⟨u, q1, q2⟩ := g2 w hh
        exact ⟨u, ⟨es, κ, b, h0, hk, rfl, kb, kd, q1.symm⟩, q2⟩
  · cases h
theorem isDn_of (wo : WOk K H S α Z) (rd : RepM K α Z H m v d) (h : isDn S d = true) : ∃ a es, v = .ref a ∧ Rd H a (DnO K.w a es) ∧ KeysN H es := by
  unfold isDn at h
  split at h
  · rename_i kws h1
    obtain ⟨a, oh, xs, ws, rfl, h0, s, rl⟩ := (rd.drf wo h1).muE rfl
    cases s with
    | @dn es kws e hk => exact ⟨a, es, rfl, h0, hk⟩
  · cases h
end
section
variable {X : Cx} {o e f : Expr} {apos cpos pos : Pos} {td ty tx : TE}
def tNGet1 (w : World) (td ty : TE) : TE := fun σ H Q => td σ H fun x H1 => ∃ a es, x = .ref a ∧ Rd H1 a (DnO w a es) ∧ KeysN H1 es ∧ ty σ H1 fun y H2 => ∃ o, NGet w H2 a y o ∧ Q (o.getD .non) H2
def tNGet2 (w : World) (td ty tx : TE) : TE := fun σ H Q => td σ H fun x H1 => ∃ a es, x = .ref a ∧ Rd H1 a (DnO w a es) ∧ KeysN H1 es ∧ ty σ H1 fun y H2 => tx σ H2 fun z H3 => ∃ o, NGet w H3 a y o ∧ Q (o.getD z) H3
theorem isN_at {pins : List (Addr × Obj)} {σ : L2.St} {H : Hp} {s : Shared} {a : Addr} {es : NE} (I : Inv X pins σ H s) (e : Rd H a (DnO X.w a es)) (hk : KeysN H es) :
    s.TypeIs (.ref a) "dict" ∧ ∀ b, Value.ref a = .ref b → ∃ ob, s.heap.get? b = some ob ∧ ob.dict = none := by
  obtain ⟨hd, hl, vs, rel, dd⟩ := dn_rd (P := X.prog) I.hok e hk
  refine ⟨dd.typeIs, fun b eb => ?_⟩
  cases eb
  obtain ⟨q, _, _, h1, h2, _⟩ := dd
  exact ⟨q, h1, h2.2.1⟩
theorem pe_nget1 {k : Nat} (hr : Room k X.A) (ho : PE X o td) (he : PE X e ty) (m : M1 X o "get" apos e cpos) : PE X (.Call (.Attribute o "get" apos) [e] [] cpos) (tNGet1 X.w td ty) := by
  refine ⟨fun pins s σ H Q I h => ?_⟩
  refine wpAny_Call_method m.base m.few m.line PySem.F.plainAttrs_dict PySem.F.slot_dict_get PySem.F.type_dict_get (thn (ho.run pins s σ H _ I h) fun u s1 ⟨x, H1, I1, rx, a, es, ex, d, hk, q1⟩ => ?_)
  subst ex
  obtain rfl : u = Value.ref a := rx
  obtain ⟨t1, t2⟩ := isN_at I1 d hk
  refine ⟨t1, t2, ?_⟩
  rw [m.trees]
  refine Calls.callWith_builtin rfl (Calls.evalArgs_plain (Calls.spliced_cons (thn (he.run pins s1 σ H1 _ I1 q1) fun iv s2 ⟨y, H2, I2, ry, ov, g, q2⟩ => Calls.spliced_nil ?_)))
  exact n_get1 (room9 hr) I2 g ry fun w' s3 I3 rw' => ⟨_, H2, I3, rw', q2⟩
end
section
variable {X : Cx} {a b e : Expr} {fa fb fe : CE} {pos : Pos}
theorem PE.or {X : Cx} {e : Expr} {t u : TE} (h1 : PE X e t) (h2 : PE X e u) : PE X e (fun σ H Q => t σ H Q ∨ u σ H Q) := ⟨fun pins s σ H Q I q => by
  rcases q with q | q
  · exact h1.run pins s σ H Q I q
  · exact h2.run pins s σ H Q I q⟩
/-- {} for nested keys -/
def cDn : CE := fun _ S => some ((.dn [], .own), S)
def tDNewN (w : World) : TE := fun _ H Q => ∀ a, H a = none → Q (.ref a) (upd H a (DnO w a []))
theorem pe_dnewN : PE X (.Dict [] [] pos) (tDNewN X.w) := ⟨fun pins s σ H Q I h =>
  wpAny_Dict_empty ⟨.ref s.heap.objs.size, _, I.laid (a := s.heap.objs.size) (o := DnO X.w s.heap.objs.size []) (t' := s.toks) (fun _ _ q => Heap.get?_push_of_some _ q) (Nat.le_refl _)
    (dn_new (P := X.prog) (by
      obtain ⟨z, y, _⟩ := dt_empty (P := X.prog) (w := X.w) (H := H) s.heap I.big
      exact y) (Nat.zero_le _) (.nil : NRel [] []) (Heap.DictOfH.new s.heap)), rfl, h _ (I.hok.fresh (Nat.le_refl _))⟩⟩
theorem e_dn : EE X (.Dict [] [] pos) cDn := by
  refine PE.cons pe_dnewN fun σ H Q ⟨ρ, S, α, Z, r', S', wo, en, h, q⟩ => ?_
  cases h
  intro p hp
  refine q _ _ α Z (Keep.new hp) (wo.new hp) ⟨.mu upd_same (.dn (K := X.kw) (es := []) (kws := []) rfl fun _ h => by cases h) .nil (wo.nα hp) (fun _ => wo.nZ hp) (fun e => by cases e), fun _ _ a e => ?_⟩
  cases e
  exact hp
def cGetN1 (fd fk : CE) : CE := fun ρ S => bnd (fd ρ S) fun d S => if isDn S d.1 = true then bnd (fk ρ S) fun k S => match dnS S d.1 k.1 with
  | some o => some ((o.getD .non, .frz), S)
  | none => none
  else none
theorem e_getN1 {k : Nat} {apos cpos : Pos} (hr : Room k X.A) (ha : EE X a fa) (hb : EE X b fb) (m : M1 X a "get" apos b cpos) : EE X (.Call (.Attribute a "get" apos) [b] [] cpos) (cGetN1 fa fb) := by
  refine PE.cons (pe_nget1 hr ha hb m) fun σ H Q ⟨ρ, S, α, Z, r', S', wo, en, h, q⟩ => ?_
  obtain ⟨ra, S1, h1, h⟩ := of_bnd h
  split at h
  rotate_left
  · cases h
  rename_i hdi
  obtain ⟨rb, S2, h2, h⟩ := of_bnd h
  split at h
  · rename_i o ho
    cases h
    refine ⟨ρ, S, α, Z, ra, S1, wo, en, h1, fun v1 H1 α1 Z1 k1 w1 g1 => ?_⟩
    obtain ⟨p, es, e1, hd, hk⟩ := isDn_of w1 g1.rep hdi
    refine ⟨p, es, e1, hd, hk, ρ, S1, α1, Z1, rb, _, w1, en.keep wo k1, h2, fun v2 H2 α2 Z2 k2 w2 g2 => ?_⟩
    obtain ⟨p', e1', d1, d2⟩ := dn_get w2 (g1.rep.keep w1 k2) g2.rep ho
    have ep : p' = p := by rw [e1] at e1'; cases e1'; rfl
    subst ep
    have fin : ∀ v w, Rep X.kw α2 Z2 H2 v w → w = o.getD .non → Q v H2 := fun v w r e => by
      subst e
      exact q v H2 α2 Z2 (k1.trans k2) w2 ⟨r.toM w2, fun e => by cases e⟩
    cases o with
    | none => exact ⟨none, d1 rfl, fin _ _ .non rfl⟩
    | some w =>
      obtain ⟨u, q1, q2⟩ := d2 w rfl
      exact ⟨some u, q1, fin _ _ q2 rfl⟩
  · cases h

/-! ### x is None -/
def isNon : W → Bool
  | .non => true
  | _ => false
def gIsN (neg : Bool) : W → W → Option W := fun a b => match b with
  | .non => some (.bl (neg != isNon a))
  | _ => none
theorem Rep.isNon {K : KW} {α : List Addr} {Z : Addr → Prop} {H : Hp} {m : Md} {v : V} {w : W} (r : RepM K α Z H m v w) : decide (v = .non) = Mp.isNon w := by
  cases r with
  | im e r =>
    cases r with
    | mu h z s r => rw [s.mut] at e; cases e
    | _ => rfl
  | mu h s _ _ _ _ => cases s <;> rfl
theorem os_isN {K : KW} : OS K (fun x y H Q => y = .non ∧ Q (.bl (decide (x = .non))) H) (gIsN false) := by
  intro α Z H S x y a b c m1 m2 wo ra rb hg Q q
  unfold gIsN at hg
  split at hg
  · cases hg
    refine ⟨rb.ofNon, ?_⟩
    rw [Rep.isNon ra]
    exact q _ H Keep.refl wo (Got.im (by rw [Bool.false_bne]; exact .bl _) rfl)
  · cases hg
theorem os_notN {K : KW} : OS K (fun x y H Q => y = .non ∧ Q (.bl (!decide (x = .non))) H) (gIsN true) := by
  intro α Z H S x y a b c m1 m2 wo ra rb hg Q q
  unfold gIsN at hg
  split at hg
  · cases hg
    refine ⟨rb.ofNon, ?_⟩
    rw [Rep.isNon ra]
    exact q _ H Keep.refl wo (Got.im (by rw [Bool.true_bne]; exact .bl _) rfl)
  · cases hg
theorem e_isN (ha : EE X a fa) (hb : EE X b fb) : EE X (.Compare a [.Is] [b] pos) (cBin (gIsN false) fa fb) := e_cmp op_isN os_isN ha hb (nomark _)
theorem e_notN (ha : EE X a fa) (hb : EE X b fb) : EE X (.Compare a [.IsNot] [b] pos) (cBin (gIsN true) fa fb) := e_cmp op_notN os_notN ha hb (nomark _)
theorem t_isN (ha : EE X a fa) (hb : EE X b fb) : ET X (.Compare a [.Is] [b] pos) (cB (cBin (gIsN false) fa fb)) := t_cmp op_isN os_isN ha hb (nomark _)
theorem t_notN (ha : EE X a fa) (hb : EE X b fb) : ET X (.Compare a [.IsNot] [b] pos) (cB (cBin (gIsN true) fa fb)) := t_cmp op_notN os_notN ha hb (nomark _)

/-! ### gcd -/
def gGcd : Store → List W → Option W := fun _ ws => match ws with
  | [.int i, .int j] => some (.int ((Nat.gcd i.natAbs j.natAbs : Nat) : Int))
  | _ => none
theorem co_gcd {K : KW} : CO K rGcd gGcd := by
  intro α Z H S vs ws c wo p hg Q q
  unfold gGcd at hg
  split at hg
  · obtain ⟨v, u, rfl, r1, r2⟩ := two_of p
    cases hg
    rw [r1.ofInt, r2.ofInt]
    exact ⟨_, _, rfl, q _ _ Keep.refl wo (Got.im (.int _) rfl)⟩
  · cases hg
theorem e_gcd {x : Str} {p : Pos} (hm : X.mg x = some (.builtin "math.gcd")) (ha : EE X a fa) (hb : EE X b fb) (hg : Gl X x := by rfl) (hdb : (x == ("__debug__" : Str)) = false := by decide)
    (hs : starEach (a :: [b]) X.env = (false, eval a X.env) :: starEach [b] X.env := by rfl) (hs2 : starEach [b] X.env = (false, eval b X.env) :: starEach [] X.env := by rfl) (hpl : (backTo pos (starEach [b] X.env)).any (·.1) = false := by rfl) :
    EE X (.Call (.Name x p) [a, b] [] pos) (cBi gGcd (cCons fa (cCons fb cNil))) :=
  PE.cons (pe_callBfun cr_gcd hg hm (a_cons ha (a_cons hb a_nil hs2) hs) hdb hs hpl) fun _ _ _ h => bi_ok co_gcd h

/-! ### sorted(xs), ints -/
def gSortI : Store → List W → Option W := fun S ws => match ws with
  | [w] => (match drf S w with
    | some (.lst us) => (intsOf us).map fun ns => .lst ((sortI ns).map .int)
    | _ => none)
  | _ => none
theorem co_sortI {K : KW} : CO K (rSortedI K.K) gSortI := by
  intro α Z H S vs ws c wo p hg Q q
  unfold gSortI at hg
  split at hg
  · obtain ⟨v, rfl, r⟩ := one_of p
    split at hg
    · rename_i us hd
      obtain ⟨ns, hns, e⟩ := Option.map_eq_some_iff.mp hg
      subst e
      obtain ⟨a, xs, rfl, h0, rl⟩ := (r.drf wo hd).ofLst
      have ex := RepL.ofInts rl hns
      subst ex
      refine ⟨a, ns, rfl, rd_sqL h0, fun ys p hp hs hn => ?_⟩
      have e2 : ys = sortI ns := PySem.W.ksm_same (hp.trans (sortI_perm ns).symm) hs (sortI_sorted ns)
      subst e2
      exact new_list (m := .own) wo RepL.ints q p hn
    · cases hg
  · cases hg
theorem e_sortI (hm : X.mg "sorted" = none) (h : EE X e fe) (hg : Gl X "sorted" := by rfl) (hs : starEach [e] X.env = (false, eval e X.env) :: starEach [] X.env := by rfl) {p : Pos} : EE X (.Call (.Name "sorted" p) [e] [] pos) (cBi gSortI (cCons fe cNil)) :=
  e_bi cr_sortedI co_sortI hm (a_cons h a_nil hs) (by decide +kernel) hg (by decide) (by decide) hs
end
end Mp
/-! d[k] = e, nested keys -/
namespace Mp
open PySem PySem.Spec PyProof.Rows L2
def dnPut (kws : List (NestedKey × W)) (k w : W) : Option W := match nkAt k with
  | some κ => if kws.length < sizeLine then some (.dn (dPut kws κ w)) else none
  | none => none
section
variable {K : KW} {α : List Addr} {Z : Addr → Prop} {H : Hp} {v : V} {w : W} {k : NestedKey} {b : Addr}
theorem dn_map (rv : Rep K α Z H v w) : ∀ {es : NE} {kws : List (NestedKey × W)}, es.map (·.1) = kws.map (·.1) → RepL K α Z H (es.map (·.2.2)) (kws.map (·.2)) →
    (es.map fun e => if e.1 = k then (e.1, e.2.1, v) else e).map (·.1) = (kws.map fun kv => if kv.1 = k then (kv.1, w) else kv).map (·.1) ∧
      RepL K α Z H ((es.map fun e => if e.1 = k then (e.1, e.2.1, v) else e).map (·.2.2)) ((kws.map fun kv => if kv.1 = k then (kv.1, w) else kv).map (·.2))
  | [], [], _, _ => ⟨rfl, .nil⟩
  | [], _ :: _, h, _ => by cases h
  | _ :: _, [], h, _ => by cases h
  | (k1, b1, v1) :: r, (k2, w2) :: q, h, rl => by
    have e1 : k1 = k2 := by injection h
    have e2 : r.map (·.1) = q.map (·.1) := by injection h
    subst e1
    cases rl with
    | cons ra rt =>
      obtain ⟨i1, i2⟩ := dn_map rv e2 rt
      by_cases e : k1 = k
      · simp only [List.map_cons, e, if_true]
        exact ⟨by rw [i1], .cons rv i2⟩
      · simp only [List.map_cons, e, if_false]
        exact ⟨by rw [i1], .cons ra i2⟩
theorem dn_any : ∀ {es : NE} {kws : List (NestedKey × W)}, es.map (·.1) = kws.map (·.1) → (es.any fun e => decide (e.1 = k)) = kws.any fun kv => decide (kv.1 = k)
  | [], [], _ => rfl
  | [], _ :: _, h => by cases h
  | _ :: _, [], h => by cases h
  | a :: r, b :: q, h => by
    have e1 : a.1 = b.1 := by injection h
    have e2 : r.map (·.1) = q.map (·.1) := by injection h
    rw [List.any_cons, List.any_cons, dn_any e2, e1]
theorem dn_put (rv : Rep K α Z H v w) {es : NE} {kws : List (NestedKey × W)} (h : es.map (·.1) = kws.map (·.1)) (rl : RepL K α Z H (es.map (·.2.2)) (kws.map (·.2))) :
    (putN es k b v).map (·.1) = (dPut kws k w).map (·.1) ∧ RepL K α Z H ((putN es k b v).map (·.2.2)) ((dPut kws k w).map (·.2)) := by
  unfold putN dPut
  rw [dn_any h]
  split
  · exact dn_map rv h rl
  · refine ⟨by simp [h], ?_⟩
    rw [List.map_append, List.map_append]
    exact rl.append (.cons rv .nil)
theorem keysN_put {es : NE} (h : KeysN H es) (kb : IsK H (.ref b) k) (kd : k.depth ≤ 8) : KeysN H (putN es k b v) := by
  unfold putN
  split
  · intro e he
    obtain ⟨x, hx, rfl⟩ := List.mem_map.mp he
    have := h x hx
    split <;> exact this
  · intro e he
    rcases List.mem_append.mp he with he | he
    · exact h e he
    · rw [List.mem_singleton.mp he]; exact ⟨kb, kd⟩
end
section
variable {X : Cx} {e : Expr} {fe : CE} {pos : Pos} {x : Str}
def rSetN (w : World) : V → V → V → Hp → (Hp → Prop) → Prop := fun o i v H Q => ∃ p H', o = .ref p ∧ NPut w H p i v H' ∧ Q H'
theorem set_dictN {k : Nat} (hr : Room k X.A) : PSet X (rSetN X.w) := by
  intro pins s σ H o i v ov iv u Q I ro ri rv h
  obtain ⟨p, H', rfl, g, q⟩ := h
  cases ro
  exact n_setItem (room9 hr) I g ri rv fun s4 I4 => ⟨H', I4, q⟩
def cSetN (i : Nat) (fk fe : CE) : CS := fun ρ S => bnd (fe ρ S) fun r S => bnd (fk ρ S) fun k S => if sto r = true then (match ρ[i]? with
  | some (some (.dn kws, .own)) => (dnPut kws k.1 r.1).map fun d => .nx (ρ.set i (some (d, .own))) S
  | _ => none) else none
theorem s_setN {k : Nat} {idx : Expr} {fk : CE} {p p2 : Pos} (i : Nat) (hr : Room k X.A) (hk : EE X idx fk) (he : EE X e fe) (hN : X.N[i]? = some x := by rfl) (hv : Vis X.env.scope x := by first | exact Or.inl rfl | exact Or.inr (Or.inl rfl) | exact Or.inr (Or.inr rfl)) (hd : (x == ("__debug__" : Str)) = false := by decide)
    (hcd : (x == ("__classdict__" : Str)) = false := by decide)
    (ha : ∀ v, assign (.Subscript (.Name x p) idx p2) X.env v = (do
      let ov ← holding [v] (eval (.Name x p) X.env)
      let iv ← holding [v, ov] (eval idx X.env)
      standAt p2
      holding [v, ov, iv] (setItem ov iv v)
      release [v, ov, iv] []) := by intro _; rfl)
    (hs : swapsWithSole [.Subscript (.Name x p) idx p2] e pos.line X.env = pure false := by rfl) (hw : swappedStores [.Subscript (.Name x p) idx p2] e X.env = pure none := by rfl)
    (h1 : (assignEach [.Subscript (.Name x p) idx p2] X.env).map (·.2) = [assign (.Subscript (.Name x p) idx p2) X.env] := by rfl) : ES X (.Assign [.Subscript (.Name x p) idx p2] e pos) (cSetN i fk fe) :=
  PS.cons (ps_asg he (pg_sub (pe_var hN hv hd hcd) hk (set_dictN hr) ha) hs hw h1) fun D σ H ⟨B, ρ, S, o, ⟨α, Z, at_⟩, h, q⟩ => by
    obtain ⟨r, S1, h1, h⟩ := of_bnd h
    obtain ⟨k, S2, h2, h⟩ := of_bnd h
    split at h
    · rename_i hst
      refine ⟨ρ, S, α, Z, r, S1, at_.w, at_.e, h1, fun v H1 α1 Z1 k1 w1 g1 => ?_⟩
      split at h
      · rename_i kws hr
        obtain ⟨u, e1, r1⟩ := at_.e.slot i _ _ hr
        obtain ⟨d, hd, e⟩ := Option.map_eq_some_iff.mp h
        subst e
        unfold dnPut at hd
        split at hd
        · rename_i κ hκ
          split at hd
          · rename_i hl
            cases hd
            refine ⟨u, e1, ρ, S1, α1, Z1, k, S2, w1, at_.e.keep at_.w k1, h2, fun y H2 α2 Z2 k2 w2 g2 => ?_⟩
            obtain ⟨Z3, zz, k3, w3, r3⟩ := freeze_all (rs := [r]) (vs := [v]) w2 (k1.trans k2) (.cons (g1.keep w1 k2) .nil) (by simp [hst])
            cases r3 with
            | cons r3 _ =>
              have a3 := at_.go k3 w3
              obtain ⟨v', e1', r1'⟩ := a3.e.slot i _ _ hr
              rw [e1] at e1'
              cases e1'
              obtain ⟨c', o2, xs', us', e', h0', s', rl', _⟩ := r1'.muE rfl
              subst e'
              cases s' with
              | @dn es _ ek hks =>
                have hlen := congrArg List.length ek
                rw [List.length_map, List.length_map] at hlen
                obtain ⟨b, eb, kb, kd⟩ := nkAt_ok g2.rep hκ
                obtain ⟨p1, p2⟩ := dn_put (k := κ) (b := b) r3 ek rl'
                exact ⟨_, _, rfl, ⟨es, κ, b, h0', hks, eb, kb, kd, by rw [hlen]; exact hl, rfl⟩, q _ _ ⟨α2, Z3, a3.write hr rfl e1 (.dn p1 (keysN_put hks kb kd)) p2⟩⟩
          · cases hd
        · cases hd
      · cases h
    · cases h
end
end Mp
/-! what many laws share: their drawing of literals, bodies, models (the combinators are printed by mkg.py out of g76.txt) -/
namespace Lg
open PySem PySem.Spec PyProof.Rows L2 Mp
def c_law_terms : CS :=
  cSeq (cAsg (tName 2) (cLst cNil))
  (cSeq (cFor (tName 3) (iRange1 (cVar 1)) (cSeq (cAsg (tName 4) (cBin Mp.gSub (cCall mDraw (cCons (cVar 0) (cCons (cLit (.int 7)) cNil))) (cLit (.int 3))))
  (cIfS (cB (cBin (gEq true) (cVar 4) (cLit (.int 0)))) (cApp 2 (cTup (cCons (cVar 3) (cCons (cVar 4) cNil)))) (cSkip))))
  (cRet (cBi gTuple (cCons (cVar 2) cNil))))
def m_law_terms : FnSem := cFn 2 5 c_law_terms
def c_law_literal : CS :=
  cSeq (cAsg (tName 2) (cIx (cLst (cCons (cLit (.str "<=")) (cCons (cLit (.str ">=")) (cCons (cLit (.str "=")) (cCons (cLit (.str "!=")) cNil))))) (cCall mDraw (cCons (cVar 0) (cCons (cLit (.int 4)) cNil)))))
  (cRet (cTup (cCons (cCall mDraw (cCons (cVar 0) (cCons (cVar 1) cNil))) (cCons (cVar 2) (cCons (cBin Mp.gSub (cCall mDraw (cCons (cVar 0) (cCons (cLit (.int 9)) cNil))) (cLit (.int 3))) cNil)))))
def m_law_literal : FnSem := cFn 2 3 c_law_literal
def c_law_some : CS :=
  cSeq (cAsg (tName 3) (cBi gListRange (cCons (cVar 1) cNil)))
  (cSeq (cAsg (tName 4) (cLst cNil))
  (cSeq (cFor (tName 5) (iRange1 (cBin gAdd (cVar 2) (cCall mDraw (cCons (cVar 0) (cCons (cBin gAdd (cBin Mp.gSub (cVar 1) (cVar 2)) (cLit (.int 1))) cNil))))) (cAppPop 4 3 (cCall mDraw (cCons (cVar 0) (cCons (cBi gLen (cCons (cVar 3) cNil)) cNil)))))
  (cRet (cBi gTuple (cCons (cVar 4) cNil)))))
def m_law_some : FnSem := cFn 3 6 c_law_some
def c_law_body : CS :=
  cSeq (cAsg (tName 2) (cCall mDraw (cCons (cVar 0) (cCons (cLit (.int 8)) cNil))))
  (cSeq (cAsg (tName 3) (cIx (cLst (cCons (cLit (.str "<=")) (cCons (cLit (.str ">=")) (cCons (cLit (.str "=")) cNil)))) (cCall mDraw (cCons (cVar 0) (cCons (cLit (.int 3)) cNil)))))
  (cSeq (cIfS (cB (cBin (gEq false) (cVar 2) (cLit (.int 2)))) (cSeq (cAsg (tName 4) (cLst cNil))
  (cSeq (cFor (tName 5) (iRange1 (cBin gAdd (cLit (.int 1)) (cCall mDraw (cCons (cVar 0) (cCons (cLit (.int 3)) cNil))))) (cSeq (cAsg (tName 6) (cCall m_law_literal (cCons (cVar 0) (cCons (cVar 1) cNil))))
  (cIfS (cB (cBin (gIn true) (cVar 6) (cVar 4))) (cApp 4 (cVar 6)) (cSkip))))
  (cRet (cTup (cCons (cLit (.str "any")) (cCons (cBi gTuple (cCons (cVar 4) cNil)) cNil)))))) (cSkip))
  (cSeq (cIfS (cB (cBin (gEq false) (cVar 2) (cLit (.int 3)))) (cSeq (cAsg (tName 6) (cCall m_law_literal (cCons (cVar 0) (cCons (cVar 1) cNil))))
  (cRet (cTup (cCons (cLit (.str "when")) (cCons (cVar 6) (cCons (cCall m_law_terms (cCons (cVar 0) (cCons (cVar 1) cNil))) (cCons (cVar 3) (cCons (cBin Mp.gSub (cCall mDraw (cCons (cVar 0) (cCons (cLit (.int 16)) cNil))) (cLit (.int 6))) cNil)))))))) (cSkip))
  (cSeq (cIfS ((cAndT (cB (cBin (gEq false) (cVar 2) (cLit (.int 4)))) (cB (cBin gGt (cVar 1) (cLit (.int 1)))))) (cRet (cTup (cCons (cLit (.str "different")) (cCons (cCall m_law_some (cCons (cVar 0) (cCons (cVar 1) (cCons (cLit (.int 2)) cNil)))) cNil)))) (cSkip))
  (cSeq (cIfS (cB (cBin (gEq false) (cVar 2) (cLit (.int 5)))) (cSeq (cAsg (tName 7) (cSl (cCall m_law_some (cCons (cVar 0) (cCons (cVar 1) (cCons (cLit (.int 1)) cNil)))) oNone (oSome (cLit (.int 3)))))
  (cSeq (cAsg (tName 8) (cLst cNil))
  (cSeq (cFor (tName 5) (iRange1 (cBin gAdd (cLit (.int 1)) (cCall mDraw (cCons (cVar 0) (cCons (cLit (.int 4)) cNil))))) (cApp 8 (cBi gTuple (cCons (cLc (tName 10) (iVar 7) tYesT (cBin Mp.gSub (cCall mDraw (cCons (cVar 0) (cCons (cLit (.int 7)) cNil))) (cLit (.int 2))) [10]) cNil))))
  (cRet (cTup (cCons (cLit (.str "table")) (cCons (cVar 7) (cCons (cBi gTuple (cCons (cVar 8) cNil)) cNil)))))))) (cSkip))
  (cSeq (cIfS (cB (cBin (gEq false) (cVar 2) (cLit (.int 6)))) (cSeq (cAsg (tName 9) (cLc (tName 5) (iRange1 (cBin gAdd (cLit (.int 1)) (cCall mDraw (cCons (cVar 0) (cCons (cLit (.int 4)) cNil))))) tYesT (cBin Mp.gSub (cCall mDraw (cCons (cVar 0) (cCons (cLit (.int 7)) cNil))) (cLit (.int 2))) [5]))
  (cRet (cTup (cCons (cLit (.str "element")) (cCons (cCall mDraw (cCons (cVar 0) (cCons (cVar 1) cNil))) (cCons (cBi gTuple (cCons (cVar 9) cNil)) (cCons (cCall mDraw (cCons (cVar 0) (cCons (cVar 1) cNil))) cNil))))))) (cSkip))
  (cSeq (cIfS (cB (cBin (gEq false) (cVar 2) (cLit (.int 7)))) (cRet (cTup (cCons (cLit (.str "times")) (cCons (cCall mDraw (cCons (cVar 0) (cCons (cVar 1) cNil))) (cCons (cCall mDraw (cCons (cVar 0) (cCons (cVar 1) cNil))) (cCons (cCall mDraw (cCons (cVar 0) (cCons (cVar 1) cNil))) cNil)))))) (cSkip))
  (cRet (cTup (cCons (cLit (.str "row")) (cCons (cCall m_law_terms (cCons (cVar 0) (cCons (cVar 1) cNil))) (cCons (cVar 3) (cCons (cBin Mp.gSub (cCall mDraw (cCons (cVar 0) (cCons (cLit (.int 16)) cNil))) (cLit (.int 6))) cNil)))))))))))))
def m_law_body : FnSem := cFn 2 11 c_law_body
def c_law_world : CS :=
  cSeq (cAsg (tName 4) (cLst cNil))
  (cSeq (cFor (tName 5) (iRange1 (cBin gAdd (cLit (.int 1)) (cCall mDraw (cCons (cVar 0) (cCons (cVar 1) cNil))))) (cSeq (cAsg (tName 9) (cBin Mp.gSub (cCall mDraw (cCons (cVar 0) (cCons (cLit (.int 5)) cNil))) (cLit (.int 2))))
  (cApp 4 (cTup (cCons (cIx (cLst (cCons (cLit (.str "x")) (cCons (cLit (.str "y")) (cCons (cLit (.str "z")) (cCons (cLit (.str "u")) (cCons (cLit (.str "w")) cNil)))))) (cVar 5)) (cCons (cVar 9) (cCons (cBin gAdd (cVar 9) (cCall mDraw (cCons (cVar 0) (cCons (cVar 2) cNil)))) cNil)))))))
  (cSeq (cAsg (tName 6) (cBi gLen (cCons (cVar 4) cNil)))
  (cSeq (cAsg (tName 7) (cLc (tName 10) (iRange1 (cCall mDraw (cCons (cVar 0) (cCons (cBin gAdd (cVar 3) (cLit (.int 1))) cNil)))) tYesT (cTup (cCons (cBin gAdd (cLit (.str "c")) (cBi gStr (cCons (cVar 10) cNil))) (cCons (cCall m_law_body (cCons (cVar 0) (cCons (cVar 6) cNil))) cNil))) [10]))
  (cSeq (cAsg (tName 8) (cTup (cCons (cIx (cLst (cCons (cLit (.str "max")) (cCons (cLit (.str "min")) cNil))) (cCall mDraw (cCons (cVar 0) (cCons (cLit (.int 2)) cNil)))) (cCons (cCall m_law_terms (cCons (cVar 0) (cCons (cVar 6) cNil))) (cCons (cBin Mp.gSub (cCall mDraw (cCons (cVar 0) (cCons (cLit (.int 5)) cNil))) (cLit (.int 2))) cNil)))))
  (cSeq (cIfS (cB (cBin (gEq false) (cCall mDraw (cCons (cVar 0) (cCons (cLit (.int 5)) cNil))) (cLit (.int 0)))) (cAsg (tName 8) (cTup (cCons (cLit (.str "max")) (cCons (cTup cNil) (cCons (cLit (.int 0)) cNil))))) (cSkip))
  (cFz [4, 7] (cRet (cLst (cCons (cVar 4) (cCons (cVar 7) (cCons (cVar 8) cNil)))))))))))
def m_law_world : FnSem := cFn 4 11 c_law_world
def c_law_rel : CS :=
  cSeq (cIfS (cB (cBin (gEq false) (cVar 0) (cLit (.str "<=")))) (cRet (cBin gLe (cVar 1) (cVar 2))) (cSkip))
  (cSeq (cIfS (cB (cBin (gEq false) (cVar 0) (cLit (.str ">=")))) (cRet (cBin gGe (cVar 1) (cVar 2))) (cSkip))
  (cRet (cBin (gEq false) (cBin (gEq false) (cVar 1) (cVar 2)) (cBin (gEq false) (cVar 0) (cLit (.str "="))))))
def m_law_rel : FnSem := cFn 3 3 c_law_rel
def c_law_sum : CS :=
  cSeq (cAsg (tName 2) (cLit (.int 0)))
  (cSeq (cFor (tTup 2 (tCons (tName 3) (tCons (tName 4) tNil))) (iVar 0) (cAsg (tName 2) (cBin gAdd (cVar 2) (cBin gMul (cVar 4) (cIx (cVar 1) (cVar 3))))))
  (cRetV 2))
def m_law_sum : FnSem := cFn 2 5 c_law_sum
def c_law_lit : CS :=
  cRet (cCall m_law_rel (cCons (cIx (cVar 0) (cLit (.int 1))) (cCons (cIx (cVar 1) (cIx (cVar 0) (cLit (.int 0)))) (cCons (cIx (cVar 0) (cLit (.int 2))) cNil))))
def m_law_lit : FnSem := cFn 2 2 c_law_lit
def c_law_holds : CS :=
  cSeq (cIfS (cB (cBin (gEq false) (cIx (cVar 0) (cLit (.int 0))) (cLit (.str "row")))) (cRet (cCall m_law_rel (cCons (cIx (cVar 0) (cLit (.int 2))) (cCons (cCall m_law_sum (cCons (cIx (cVar 0) (cLit (.int 1))) (cCons (cVar 1) cNil))) (cCons (cIx (cVar 0) (cLit (.int 3))) cNil))))) (cSkip))
  (cSeq (cIfS (cB (cBin (gEq false) (cIx (cVar 0) (cLit (.int 0))) (cLit (.str "any")))) (cRet (cBin (gIn false) (cLit (.bl true)) (cLc (tName 5) (iExp (cIx (cVar 0) (cLit (.int 1)))) tYesT (cCall m_law_lit (cCons (cVar 5) (cCons (cVar 1) cNil))) [5]))) (cSkip))
  (cSeq (cIfS (cB (cBin (gEq false) (cIx (cVar 0) (cLit (.int 0))) (cLit (.str "when")))) (cRet ((cOrV (cNotV (cCall m_law_lit (cCons (cIx (cVar 0) (cLit (.int 1))) (cCons (cVar 1) cNil)))) (cCall m_law_rel (cCons (cIx (cVar 0) (cLit (.int 3))) (cCons (cCall m_law_sum (cCons (cIx (cVar 0) (cLit (.int 2))) (cCons (cVar 1) cNil))) (cCons (cIx (cVar 0) (cLit (.int 4))) cNil))))))) (cSkip))
  (cSeq (cIfS (cB (cBin (gEq false) (cIx (cVar 0) (cLit (.int 0))) (cLit (.str "different")))) (cSeq (cAsg (tName 2) (cLst cNil))
  (cSeq (cFor (tName 3) (iExp (cIx (cVar 0) (cLit (.int 1)))) (cSeq (cIfS (cB (cBin (gIn false) (cIx (cVar 1) (cVar 3)) (cVar 2))) (cRet (cLit (.bl false))) (cSkip))
  (cApp 2 (cIx (cVar 1) (cVar 3)))))
  (cRet (cLit (.bl true))))) (cSkip))
  (cSeq (cIfS (cB (cBin (gEq false) (cIx (cVar 0) (cLit (.int 0))) (cLit (.str "table")))) (cRet (cBin (gIn false) (cBi gTuple (cCons (cLc (tName 3) (iExp (cIx (cVar 0) (cLit (.int 1)))) tYesT (cIx (cVar 1) (cVar 3)) [3]) cNil)) (cIx (cVar 0) (cLit (.int 2))))) (cSkip))
  (cSeq (cIfS (cB (cBin (gEq false) (cIx (cVar 0) (cLit (.int 0))) (cLit (.str "element")))) (cSeq (cAsg (tName 4) (cIx (cVar 1) (cIx (cVar 0) (cLit (.int 1)))))
  (cRet ((cAndV (cBin gGe (cVar 4) (cLit (.int 0))) (cAndV (cBin gLt (cVar 4) (cBi gLen (cCons (cIx (cVar 0) (cLit (.int 2))) cNil))) (cBin (gEq false) (cIx (cIx (cVar 0) (cLit (.int 2))) (cVar 4)) (cIx (cVar 1) (cIx (cVar 0) (cLit (.int 3)))))))))) (cSkip))
  (cRet (cBin (gEq false) (cBin gMul (cIx (cVar 1) (cIx (cVar 0) (cLit (.int 1)))) (cIx (cVar 1) (cIx (cVar 0) (cLit (.int 2))))) (cIx (cVar 1) (cIx (cVar 0) (cLit (.int 3)))))))))))
def m_law_holds : FnSem := cFn 2 6 c_law_holds
end Lg
/-! what the shared defs of the laws draw and compute -/
namespace Lg
open PySem PySem.Spec PyProof.Rows L2 Mp
theorem gIn_ok {neg : Bool} {a : W} {ws : List W} (ha : okD a 64 = true) (hb : okD (.lst ws) 64 = true) : gIn neg a (.lst ws) = some (.bl (neg != ws.any fun z => eqW z a)) := by
  obtain ⟨d, h1, h2, h3⟩ := okD_ok a 64 ha
  obtain ⟨e, h4, h5, h6⟩ := okD_ok (.lst ws) 64 hb
  obtain ⟨ds, h7, rfl⟩ : ∃ ds, toDs ws = some ds ∧ e = .list ds := by
    unfold toD at h4
    obtain ⟨ds, h, e2⟩ := Option.map_eq_some_iff.mp h4
    exact ⟨ds, h, e2.symm⟩
  unfold gIn
  rw [h1, h4]
  have s1 : SeqAt.shaped d = true := by unfold SeqAt.shaped; rw [h2, Bool.true_and, decide_eq_true_eq]; exact h3
  have s2 : SeqAt.shaped (.list ds) = true := by unfold SeqAt.shaped; rw [h5, Bool.true_and, decide_eq_true_eq]; exact h6
  simp only [s1, s2, and_self, if_true]
  have : anyEq d ds = ws.any fun z => eqW z a := by
    clear h4 h5 h6 s2
    induction ws generalizing ds with
    | nil => cases h7; rfl
    | cons w ws ih =>
      unfold toDs at h7
      split at h7
      · rename_i x xs hx hxs
        cases h7
        have hb2 : okD (.lst ws) 64 = true := by
          unfold okD at hb ⊢
          unfold okDs at hb
          simp only [Bool.and_eq_true] at hb ⊢
          exact ⟨hb.1, hb.2.2⟩
        rw [List.any_cons, ← ih hb2 xs hxs]
        show (PyData.eqv x d || anyEq d xs) = _
        unfold eqW
        rw [hx, h1]
      · cases h7
  rw [this]
theorem gIn_tup {neg : Bool} {a : W} {ws : List W} (ha : okD a 64 = true) (hb : okD (.tup ws) 64 = true) : gIn neg a (.tup ws) = some (.bl (neg != ws.any fun z => eqW z a)) := by
  obtain ⟨d, h1, h2, h3⟩ := okD_ok a 64 ha
  obtain ⟨e, h4, h5, h6⟩ := okD_ok (.tup ws) 64 hb
  obtain ⟨ds, h7, rfl⟩ : ∃ ds, toDs ws = some ds ∧ e = .tuple ds := by
    unfold toD at h4
    obtain ⟨ds, h, e2⟩ := Option.map_eq_some_iff.mp h4
    exact ⟨ds, h, e2.symm⟩
  have hl : okD (.lst ws) 64 = true := hb
  have h := gIn_ok (neg := neg) ha hl
  unfold gIn at h ⊢
  rw [h1, h4]
  have e2 : toD (.lst ws) = some (.list ds) := by unfold toD; rw [h7]; rfl
  rw [h1, e2] at h
  exact h
end Lg
/-! literals, terms, choices as the laws draw them -/
namespace Lg
open PySem PySem.Spec PyProof.Rows L2 Mp
theorem size_le {n : Nat} (h : n ≤ 10000000) : (n ≤ sizeLine) = True := eq_true (size_ok h)
theorem size_lt' {n : Nat} (h : n ≤ 10000000) : (n < sizeLine) = True := eq_true (size_lt h)
local macro_rules | `(tactic| walk_at "ev") => `(tactic| simp -implicitDefEqProofs only [q_lit, q_nil, q_cons, q_var, q_bin, q_tup, q_lst, q_box, q_neg, q_notT, q_andT, q_orT, q_notV, q_andV, q_orV, q_if, q_B, q_ix, q_call, q_bi, q_sl, q_oNone, q_oSome, q_dk, q_dt, q_yesT, q_get2,
  q_lc, q_iExp, q_iVar, q_iEnV, items_tup, items_lst, q_seq, q_skip, q_ret, q_retV, q_ifS, q_asg, q_drop, q_for, q_tName, q_tTup, q_tCons, q_tNil, q_fz, q_frzE, q_app, q_aug, q_setIx, q_wipe0, q_wipe, fin_rt, fin_nx,
  mut_non, mut_bl, mut_int, mut_str, mut_tup, mut_lst, mut_dk, mut_dt, mut_scr, mut_cel, sto_non, sto_bl, sto_int, sto_str, sto_tup, sto_scr, sto_cel, sto_own, sto_frz, md_non, md_bl, md_int, md_str, md_tup, md_lst, md_dk, md_dt, md_scr, md_cel,
  gAdd_int, gAddI_int, gSub_int, gLt_int, gLe_int, gGt_int, gGe_int, gInt_int, gInt_bl, gLen_tup, gLen_lst, gTuple_lst, gTuple_tup, gList_scr, gList_lst, gList_tup, gIx_tup, gIx_lst, gEq_int, gEq_bl, atI_0, atI_1, atI_2,
  bnd_some, Option.map_some, Option.bind_some, List.getElem?_cons_succ, List.getElem?_cons_zero, List.set_cons_succ, List.set_cons_zero, List.foldl_cons, List.foldl_nil, List.map_cons, List.map_nil, List.length_map, List.length_cons, List.length_nil, List.all_cons, List.all_nil, Bool.and_true, Bool.true_and, and_true, true_and, false_and, and_false,
  size_le, size_lt', Nat.reduceAdd, Nat.reduceLeDiff, Nat.zero_add, ne_eq, decide_eq_true_eq, reduceCtorEq, if_false, if_true, ite_true, ite_false, Bool.false_eq_true])
local macro_rules | `(tactic| walk_at "go") => `(tactic| simp -implicitDefEqProofs only [q_lit, q_nil, q_cons, q_var, q_bin, q_tup, q_lst, q_box, q_neg, q_notT, q_andT, q_orT, q_notV, q_andV, q_orV, q_if, q_B, q_ix, q_call, q_bi, q_sl, q_oNone, q_oSome, q_dk, q_dt, q_yesT, q_get2,
  q_lc, q_iExp, q_iVar, q_iEnV, items_tup, items_lst, q_seq, q_skip, q_ret, q_retV, q_ifS, q_asg, q_drop, q_for, q_tName, q_tTup, q_tCons, q_tNil, q_fz, q_frzE, q_app, q_aug, q_setIx, q_wipe0, q_wipe, fin_rt, fin_nx,
  mut_non, mut_bl, mut_int, mut_str, mut_tup, mut_lst, mut_dk, mut_dt, mut_scr, mut_cel, sto_non, sto_bl, sto_int, sto_str, sto_tup, sto_scr, sto_cel, sto_own, sto_frz, md_non, md_bl, md_int, md_str, md_tup, md_lst, md_dk, md_dt, md_scr, md_cel,
  gAdd_int, gAddI_int, gSub_int, gLt_int, gLe_int, gGt_int, gGe_int, gInt_int, gInt_bl, gLen_tup, gLen_lst, gTuple_lst, gTuple_tup, gList_scr, gList_lst, gList_tup, gIx_tup, gIx_lst, gEq_int, gEq_bl, atI_0, atI_1, atI_2,
  bnd_some, Option.map_some, Option.bind_some, List.getElem?_cons_succ, List.getElem?_cons_zero, List.set_cons_succ, List.set_cons_zero, List.foldl_cons, List.foldl_nil, List.map_cons, List.map_nil, List.length_map, List.length_cons, List.length_nil, List.all_cons, List.all_nil, Bool.and_true, Bool.true_and, and_true, true_and, false_and, and_false,
  size_le, size_lt', Nat.reduceAdd, Nat.reduceLeDiff, Nat.zero_add, ne_eq, decide_eq_true_eq, reduceCtorEq, if_false, if_true, ite_true, ite_false, Bool.false_eq_true, *])
/-! ### relations -/
inductive Rl where | le | ge | eq | ne
deriving DecidableEq
def rlS : Rl → Str
  | .le => "<=" | .ge => ">=" | .eq => "=" | .ne => "!="
def rlH : Rl → Int → Int → Bool
  | .le, a, b => decide (a ≤ b) | .ge, a, b => decide (b ≤ a) | .eq, a, b => decide (a = b) | .ne, a, b => !decide (a = b)
theorem rl_le (r : Rl) : gEq false (.str (rlS r)) (.str "<=") = some (.bl (decide (r = .le))) := by
  cases r <;> rw [gEq_str (by decide +kernel) (by decide +kernel)] <;> rfl
theorem rl_ge (r : Rl) : gEq false (.str (rlS r)) (.str ">=") = some (.bl (decide (r = .ge))) := by
  cases r <;> rw [gEq_str (by decide +kernel) (by decide +kernel)] <;> rfl
theorem rl_eq (r : Rl) : gEq false (.str (rlS r)) (.str "=") = some (.bl (decide (r = .eq))) := by
  cases r <;> rw [gEq_str (by decide +kernel) (by decide +kernel)] <;> rfl
theorem rel_ok (r : Rl) (a b : Int) (S : Store) : m_law_rel [.str (rlS r), .int a, .int b] S = some ((.bl (rlH r a b), .own), S) := by
  unfold m_law_rel
  rw [cFn_run (by rfl)]
  show fin (c_law_rel [some (.str (rlS r), .brw), some (.int a, .brw), some (.int b, .brw)] S) = _
  unfold c_law_rel
  walk_at "ev"
  rw [rl_le]
  walk_at "ev"
  cases r with
  | le => walk_at "ev"; rfl
  | ge => walk_at "ev"; rw [rl_ge]; walk_at "ev"; rfl
  | eq => walk_at "ev"; rw [rl_ge]; walk_at "ev"; rw [rl_eq]; walk_at "ev"; simp [rlH]
  | ne => walk_at "ev"; rw [rl_ge]; walk_at "ev"; rw [rl_eq]; walk_at "ev"; simp [rlH]
theorem rl_ix3 (d : Int) (h0 : 0 ≤ d) (h1 : d < 3) : ∃ r : Rl, r ≠ .ne ∧ atI [W.str "<=", W.str ">=", W.str "="] d = some (.str (rlS r)) := by
  have : d = 0 ∨ d = 1 ∨ d = 2 := by omega
  rcases this with rfl | rfl | rfl
  · exact ⟨.le, by decide, by rw [atI_0]; rfl⟩
  · exact ⟨.ge, by decide, by rw [atI_1]; rfl⟩
  · exact ⟨.eq, by decide, by rw [atI_2]; rfl⟩
theorem rl_ix4 (d : Int) (h0 : 0 ≤ d) (h1 : d < 4) : ∃ r : Rl, atI [W.str "<=", W.str ">=", W.str "=", W.str "!="] d = some (.str (rlS r)) := by
  have : d = 0 ∨ d = 1 ∨ d = 2 ∨ d = 3 := by omega
  rcases this with rfl | rfl | rfl | rfl
  · exact ⟨.le, by rw [atI_0]; rfl⟩
  · exact ⟨.ge, by rw [atI_1]; rfl⟩
  · exact ⟨.eq, by rw [atI_2]; rfl⟩
  · exact ⟨.ne, by rw [atI_of (by omega)]; rfl⟩
/-! ### literals -/
structure Ltl where
  v : Int
  r : Rl
  a : Int
deriving DecidableEq
def encL (l : Ltl) : W := .tup [.int l.v, .str (rlS l.r), .int l.a]
def LOk (n : Nat) (l : Ltl) : Prop := 0 ≤ l.v ∧ l.v < n
theorem literal_ok {n many : Nat} {S : Store} (tp : TapeAt n S) (h1 : 1 ≤ many) (hm : many ≤ 60) : ∃ l S2, m_law_literal [.cel n, .int ((many : Nat) : Int)] S = some ((encL l, .own), S2) ∧ LOk many l ∧ -3 ≤ l.a ∧ l.a ≤ 5 ∧ TapeAt n S2 ∧ SameBut n S S2 := by
  obtain ⟨d, S2, e, hd0, hd1, tp2, sb2⟩ := draw_ok (many := 4) tp (by decide) (by decide)
  obtain ⟨v, S3, e3, hv0, hv1, tp3, sb3⟩ := draw_ok (many := ((many : Nat) : Int)) tp2 (by omega) (by omega)
  obtain ⟨a, S4, e4, ha0, ha1, tp4, sb4⟩ := draw_ok (many := 9) tp3 (by decide) (by decide)
  obtain ⟨r, hr⟩ := rl_ix4 d hd0 hd1
  refine ⟨⟨v, r, a - 3⟩, S4, ?_, ⟨hv0, hv1⟩, by simp only; omega, by simp only; omega, tp4, (sb2.trans sb3).trans sb4⟩
  unfold m_law_literal
  rw [cFn_run (by rfl)]
  show fin (c_law_literal [some (.cel n, .brw), some (.int ((many : Nat) : Int), .brw), none] S) = _
  unfold c_law_literal
  walk_at "go"
  rfl
end Lg
/-! terms, choices and bodies as the laws draw them -/
namespace Lg
open PySem PySem.Spec PyProof.Rows L2 Mp
local macro_rules | `(tactic| walk_at "ev") => `(tactic| simp -implicitDefEqProofs only [q_lit, q_nil, q_cons, q_var, q_bin, q_tup, q_lst, q_box, q_neg, q_notT, q_andT, q_orT, q_notV, q_andV, q_orV, q_if, q_B, q_ix, q_call, q_bi, q_sl, q_oNone, q_oSome, q_dk, q_dt, q_yesT, q_get2,
  q_lc, q_iExp, q_iVar, q_iEnV, items_tup, items_lst, q_seq, q_skip, q_ret, q_retV, q_ifS, q_asg, q_drop, q_for, q_tName, q_tTup, q_tCons, q_tNil, q_fz, q_frzE, q_app, q_aug, q_setIx, q_wipe0, q_wipe, fin_rt, fin_nx,
  mut_non, mut_bl, mut_int, mut_str, mut_tup, mut_lst, mut_dk, mut_dt, mut_scr, mut_cel, sto_non, sto_bl, sto_int, sto_str, sto_tup, sto_scr, sto_cel, sto_own, sto_frz, md_non, md_bl, md_int, md_str, md_tup, md_lst, md_dk, md_dt, md_scr, md_cel,
  gAdd_int, gAddI_int, gSub_int, gLt_int, gLe_int, gGt_int, gGe_int, gInt_int, gInt_bl, gLen_tup, gLen_lst, gTuple_lst, gTuple_tup, gList_scr, gList_lst, gList_tup, gIx_tup, gIx_lst, gEq_int, gEq_bl, atI_0, atI_1, atI_2,
  bnd_some, Option.map_some, Option.bind_some, List.getElem?_cons_succ, List.getElem?_cons_zero, List.set_cons_succ, List.set_cons_zero, List.foldl_cons, List.foldl_nil, List.map_cons, List.map_nil, List.length_map, List.length_cons, List.length_nil, List.all_cons, List.all_nil, Bool.and_true, Bool.true_and, and_true, true_and, false_and, and_false,
  size_le, size_lt', Nat.reduceAdd, Nat.reduceLeDiff, Nat.zero_add, ne_eq, decide_eq_true_eq, reduceCtorEq, if_false, if_true, ite_true, ite_false, Bool.false_eq_true])
local macro_rules | `(tactic| walk_at "go") => `(tactic| simp -implicitDefEqProofs only [q_lit, q_nil, q_cons, q_var, q_bin, q_tup, q_lst, q_box, q_neg, q_notT, q_andT, q_orT, q_notV, q_andV, q_orV, q_if, q_B, q_ix, q_call, q_bi, q_sl, q_oNone, q_oSome, q_dk, q_dt, q_yesT, q_get2,
  q_lc, q_iExp, q_iVar, q_iEnV, items_tup, items_lst, q_seq, q_skip, q_ret, q_retV, q_ifS, q_asg, q_drop, q_for, q_tName, q_tTup, q_tCons, q_tNil, q_fz, q_frzE, q_app, q_aug, q_setIx, q_wipe0, q_wipe, fin_rt, fin_nx,
  mut_non, mut_bl, mut_int, mut_str, mut_tup, mut_lst, mut_dk, mut_dt, mut_scr, mut_cel, sto_non, sto_bl, sto_int, sto_str, sto_tup, sto_scr, sto_cel, sto_own, sto_frz, md_non, md_bl, md_int, md_str, md_tup, md_lst, md_dk, md_dt, md_scr, md_cel,
  gAdd_int, gAddI_int, gSub_int, gLt_int, gLe_int, gGt_int, gGe_int, gInt_int, gInt_bl, gLen_tup, gLen_lst, gTuple_lst, gTuple_tup, gList_scr, gList_lst, gList_tup, gIx_tup, gIx_lst, gEq_int, gEq_bl, atI_0, atI_1, atI_2,
  bnd_some, Option.map_some, Option.bind_some, List.getElem?_cons_succ, List.getElem?_cons_zero, List.set_cons_succ, List.set_cons_zero, List.foldl_cons, List.foldl_nil, List.map_cons, List.map_nil, List.length_map, List.length_cons, List.length_nil, List.all_cons, List.all_nil, Bool.and_true, Bool.true_and, and_true, true_and, false_and, and_false,
  size_le, size_lt', Nat.reduceAdd, Nat.reduceLeDiff, Nat.zero_add, ne_eq, decide_eq_true_eq, reduceCtorEq, if_false, if_true, ite_true, ite_false, Bool.false_eq_true, *])
abbrev Tm := List (Int × Int)
def encT (ts : Tm) : W := .tup (ts.map fun p => .tup [.int p.1, .int p.2])
def encP (p : List Int) : W := .tup (p.map .int)
theorem seq_ret {c : CT} {b : Bool} {w : W} {g : CS} {ρ : Mp.Env} {S S2 : Store} (h : c ρ S = some (b, S2)) (hw : sto (w, .frz) = true) : cSeq (cIfS c (cRet (cLit w)) cSkip) g ρ S = if b = true then some (.rt (w, .frz) S2) else g ρ S2 := by
  rw [q_seq, q_ifS, h]
  cases b with
  | true => simp only [bnd_some, if_true, q_ret, q_lit, hw]
  | false => simp only [bnd_some, Bool.false_eq_true, if_false, q_skip]
theorem if_ret {c : CT} {b : Bool} {w : W} {ρ : Mp.Env} {S S2 : Store} (h : c ρ S = some (b, S2)) (hw : sto (w, .frz) = true) : cIfS c (cRet (cLit w)) cSkip ρ S = if b = true then some (.rt (w, .frz) S2) else some (.nx ρ S2) := by
  rw [q_ifS, h]
  cases b with
  | true => simp only [bnd_some, if_true, q_ret, q_lit, hw]
  | false => simp only [bnd_some, Bool.false_eq_true, if_false, q_skip]
theorem rng_ok {f : CE} {ρ : Mp.Env} {S S2 : Store} {n : Nat} {m : Md} (h : f ρ S = some ((.int ((n : Nat) : Int), m), S2)) (hn : n ≤ 1000000) : iRange1 f ρ S = some ((List.range n).map fun k : Nat => W.int ((k : Nat) : Int), S2) := by
  rw [q_range1, h]
  dsimp only [bnd_some]
  rw [if_pos (by omega)]
  unfold rangeW
  simp only [Int.toNat_natCast, Int.zero_add]
theorem seq_nx {f g : CS} {ρ ρ2 : Mp.Env} {S S2 : Store} (h : f ρ S = some (.nx ρ2 S2)) : cSeq f g ρ S = g ρ2 S2 := by rw [q_seq, h]
theorem paired_pts {A : Type} {enc : A → W} {P : A → Prop} {ws gs : List W} (h : Paired (fun _ g => ∃ p, g = enc p ∧ P p) ws gs) : ∃ pts : List A, gs = pts.map enc ∧ pts.length = ws.length ∧ ∀ p ∈ pts, P p := by
  induction h with
  | nil => exact ⟨[], rfl, rfl, fun _ h => absurd h List.not_mem_nil⟩
  | cons h1 _ ih =>
    obtain ⟨p, rfl, hp⟩ := h1
    obtain ⟨pts, rfl, hl, ha⟩ := ih
    refine ⟨p :: pts, rfl, by rw [List.length_cons, List.length_cons, hl], fun q hq => ?_⟩
    rcases List.mem_cons.mp hq with rfl | hq
    · exact hp
    · exact ha q hq
/-- terms as the law draws them -/
def TOk3 (n : Nat) (ts : Tm) : Prop := ts.length ≤ n ∧ ∀ t ∈ ts, 0 ≤ t.1 ∧ t.1 < n ∧ -3 ≤ t.2 ∧ t.2 ≤ 3 ∧ t.2 ≠ 0
theorem law_terms_ok {n many : Nat} {S : Store} (tp : TapeAt n S) (hm : many ≤ 60) : ∃ ts S2, m_law_terms [.cel n, .int ((many : Nat) : Int)] S = some ((encT ts, .own), S2) ∧ TOk3 many ts ∧ TapeAt n S2 ∧ SameBut n S S2 := by
  unfold m_law_terms
  rw [cFn_run (by rfl)]
  show ∃ ts S2, fin (c_law_terms [some (.cel n, .brw), some (.int ((many : Nat) : Int), .brw), none, none, none] S) = _ ∧ _
  unfold c_law_terms
  walk_at "ev"
  rw [rng_ok (n := many) (S2 := S) (m := .brw) (by walk_at "ev") (by omega)]
  walk_at "ev"
  obtain ⟨ρ2, S2, e, ts, x3, x4, rfl, hl, hts, tp2, sb⟩ := for_inv (ws := (List.range many).map fun k : Nat => W.int ((k : Nat) : Int)) (t := tName 3) (b := cSeq (cAsg (tName 4) (cBin Mp.gSub (cCall mDraw (cCons (cVar 0) (cCons (cLit (.int 7)) cNil))) (cLit (.int 3))))
  (cIfS (cB (cBin (gEq true) (cVar 4) (cLit (.int 0)))) (cApp 2 (cTup (cCons (cVar 3) (cCons (cVar 4) cNil)))) (cSkip)))
    (fun i ρ S2 => ∃ (ts : Tm) (x3 x4 : Option (W × Md)), ρ = [some (.cel n, .brw), some (.int ((many : Nat) : Int), .brw), some (.lst (ts.map fun p => .tup [.int p.1, .int p.2]), .own), x3, x4] ∧ ts.length ≤ i ∧ (∀ t ∈ ts, 0 ≤ t.1 ∧ t.1 < many ∧ -3 ≤ t.2 ∧ t.2 ≤ 3 ∧ t.2 ≠ 0) ∧ TapeAt n S2 ∧ SameBut n S S2)
    (fun i w ρ S1 hw hI => by
      obtain ⟨ts, x3, x4, rfl, hl, hts, tp1, sb⟩ := hI
      have hi : i < many := by
        have := (List.getElem?_eq_some_iff.mp hw).1
        simpa using this
      rw [List.getElem?_map, List.getElem?_range hi] at hw
      injection hw with hw
      subst hw
      obtain ⟨d, S2, e, hd0, hd1, tp2, sb2⟩ := draw_ok (many := 7) tp1 (by decide) (by decide)
      by_cases hd : d - 3 = 0
      · refine ⟨_, _, S2, by walk_at "ev"; rfl, by
          walk_at "ev"
          rw [e]
          walk_at "ev"
          simp only [decide_eq_true hd, Bool.bne_true, Bool.not_true, Bool.false_eq_true, if_false], ts, some (.int ((i : Nat) : Int), .frz), some (.int (d - 3), .frz), rfl, by omega, hts, tp2, sb.trans sb2⟩
      · refine ⟨_, _, S2, by walk_at "ev"; rfl, by
          walk_at "ev"
          rw [e]
          walk_at "ev"
          simp only [decide_eq_false hd, Bool.bne_false, if_true]
          rw [if_pos (size_lt (by omega))], ts ++ [(((i : Nat) : Int), d - 3)], some (.int ((i : Nat) : Int), .frz), some (.int (d - 3), .frz), by rw [List.map_append]; rfl, by rw [List.length_append]; simp only [List.length_singleton]; omega, fun t ht => ?_, tp2, sb.trans sb2⟩
        rcases List.mem_append.mp ht with h | h
        · exact hts t h
        · rw [List.mem_singleton.mp h]
          simp only
          omega)
    (ρ := [some (.cel n, .brw), some (.int ((many : Nat) : Int), .brw), some (.lst [], .own), none, none]) (S := S) ⟨[], none, none, rfl, Nat.le_refl _, fun _ h => (by cases h), tp, .refl⟩
  rw [e]
  walk_at "ev"
  refine ⟨ts, S2, rfl, ⟨?_, hts⟩, tp2, sb⟩
  simpa using hl

theorem erase_map {A B : Type} (f : A → B) : ∀ (xs : List A) (i : Nat), (xs.map f).eraseIdx i = (xs.eraseIdx i).map f
  | [], _ => rfl
  | _ :: _, 0 => rfl
  | x :: xs, i + 1 => by simp [erase_map f xs i]
theorem erase_perm : ∀ (us : List Int) (k : Nat) (h : k < us.length), (us[k] :: us.eraseIdx k).Perm us
  | [], k, h => absurd h (Nat.not_lt_zero _)
  | u :: us, 0, _ => List.Perm.refl _
  | u :: us, k + 1, h => (List.Perm.swap _ _ _).trans ((erase_perm us k (by simpa using h)).cons u)
def idx (n : Nat) : List Int := (List.range n).map fun k : Nat => ((k : Nat) : Int)
theorem some_ok {n many : Nat} {least : Int} {S : Store} (tp : TapeAt n S) (hm : many ≤ 60) (h0 : 0 ≤ least) (h1 : least ≤ many) : ∃ (vs : List Int) (S2 : Store), m_law_some [.cel n, .int ((many : Nat) : Int), .int least] S = some ((encP vs, .own), S2) ∧
    (∃ us, (us ++ vs).Perm (idx many)) ∧ least ≤ vs.length ∧ TapeAt n S2 ∧ SameBut n S S2 := by
  obtain ⟨d, S1, e, hd0, hd1, tp1, sb1⟩ := draw_ok (many := ((many : Nat) : Int) - least + 1) tp (by omega) (by omega)
  obtain ⟨c, hc⟩ : ∃ c : Nat, least + d = ((c : Nat) : Int) := ⟨(least + d).toNat, by omega⟩
  have hr : iRange1 (cBin gAdd (cVar 2) (cCall mDraw (cCons (cVar 0) (cCons (cBin gAdd (cBin Mp.gSub (cVar 1) (cVar 2)) (cLit (.int 1))) cNil)))) [some (.cel n, .brw), some (.int ((many : Nat) : Int), .brw), some (.int least, .brw), some (.lst ((idx many).map .int), .own), some (.lst [], .own), none] S = some ((List.range c).map fun k : Nat => W.int ((k : Nat) : Int), S1) := by
    refine rng_ok (m := .own) ?_ (by omega)
    walk_at "go"
  unfold m_law_some
  rw [cFn_run (by rfl)]
  show ∃ vs S2, fin (c_law_some [some (.cel n, .brw), some (.int ((many : Nat) : Int), .brw), some (.int least, .brw), none, none, none] S) = _ ∧ _
  unfold c_law_some
  have e0 : gListRange S [.int ((many : Nat) : Int)] = some (.lst ((idx many).map .int)) := by
    unfold gListRange
    simp only
    rw [if_pos (by omega), Int.toNat_natCast]
    unfold idx
    rw [List.map_map]
    rfl
  rw [seq_nx (ρ2 := [some (.cel n, .brw), some (.int ((many : Nat) : Int), .brw), some (.int least, .brw), some (.lst ((idx many).map .int), .own), none, none]) (S2 := S) (by walk_at "go"),
    seq_nx (ρ2 := [some (.cel n, .brw), some (.int ((many : Nat) : Int), .brw), some (.int least, .brw), some (.lst ((idx many).map .int), .own), some (.lst [], .own), none]) (S2 := S) (by walk_at "go")]
  obtain ⟨ρ2, S2, e2, us, vs, x5, rfl, hl, hp, tp2, sb⟩ := for_inv (ws := (List.range c).map fun k : Nat => W.int ((k : Nat) : Int)) (t := tName 5) (b := (cAppPop 4 3 (cCall mDraw (cCons (cVar 0) (cCons (cBi gLen (cCons (cVar 3) cNil)) cNil)))))
    (fun i ρ S2 => ∃ (us vs : List Int) (x5 : Option (W × Md)), ρ = [some (.cel n, .brw), some (.int ((many : Nat) : Int), .brw), some (.int least, .brw), some (.lst (us.map .int), .own), some (.lst (vs.map .int), .own), x5] ∧ vs.length = i ∧ (us ++ vs).Perm (idx many) ∧ TapeAt n S2 ∧ SameBut n S S2)
    (fun i w ρ S3 hw hI => by
      obtain ⟨us, vs, x5, rfl, hl, hp, tp3, sb3⟩ := hI
      have hi : i < c := by
        have := (List.getElem?_eq_some_iff.mp hw).1
        simpa using this
      have hlen := hp.length_eq
      unfold idx at hlen
      rw [List.length_append, List.length_map, List.length_range] at hlen
      obtain ⟨k, S4, e4, hk0, hk1, tp4, sb4⟩ := draw_ok (many := ((us.length : Nat) : Int)) tp3 (by omega) (by omega)
      have hk2 : k.toNat < us.length := by omega
      rw [List.getElem?_map, List.getElem?_range hi] at hw
      injection hw with hw
      subst hw
      refine ⟨_, [some (.cel n, .brw), some (.int ((many : Nat) : Int), .brw), some (.int least, .brw), some (.lst ((us.eraseIdx k.toNat).map .int), .own), some (.lst ((vs ++ [us[k.toNat]]).map .int), .own), some (.int ((i : Nat) : Int), .frz)], S4, by walk_at "ev"; rfl, ?_, us.eraseIdx k.toNat, vs ++ [us[k.toNat]], _, rfl, by rw [List.length_append, hl]; rfl, ?_, tp4, sb3.trans sb4⟩
      · unfold cAppPop
        walk_at "go"
        rw [if_pos ⟨by decide, by omega, by rw [sizeLine_eq]; omega⟩]
        simp only [List.getElem?_map, List.getElem?_eq_getElem hk2, Option.map_some]
        rw [erase_map, List.map_append]
        rfl
      · refine List.Perm.trans ?_ hp
        refine List.Perm.trans ?_ ((erase_perm us k.toNat hk2).append_right vs)
        rw [← List.append_assoc]
        exact List.perm_append_singleton _ _)
    (ρ := [some (.cel n, .brw), some (.int ((many : Nat) : Int), .brw), some (.int least, .brw), some (.lst ((idx many).map .int), .own), some (.lst [], .own), none]) (S := S1) ⟨idx many, [], none, rfl, rfl, by rw [List.append_nil], tp1, sb1⟩
  rw [List.length_map, List.length_range] at hl
  refine ⟨vs, S2, ?_, ⟨us, hp⟩, by omega, tp2, sb⟩
  rw [seq_nx (ρ2 := [some (.cel n, .brw), some (.int ((many : Nat) : Int), .brw), some (.int least, .brw), some (.lst (us.map .int), .own), some (.lst (vs.map .int), .own), x5]) (S2 := S2) (by
    rw [q_for, hr]
    exact e2)]
  walk_at "go"
  rfl
end Lg
/-! bodies as the laws draw them (printed by mklk.py) -/
namespace Lg
open PySem PySem.Spec PyProof.Rows L2 Mp
local macro_rules | `(tactic| walk_at "ev") => `(tactic| simp -implicitDefEqProofs only [q_lit, q_nil, q_cons, q_var, q_bin, q_tup, q_lst, q_box, q_neg, q_notT, q_andT, q_orT, q_notV, q_andV, q_orV, q_if, q_B, q_ix, q_call, q_bi, q_sl, q_oNone, q_oSome, q_dk, q_dt, q_yesT, q_get2,
  q_lc, q_iExp, q_iVar, q_iEnV, items_tup, items_lst, q_seq, q_skip, q_ret, q_retV, q_ifS, q_asg, q_drop, q_for, q_tName, q_tTup, q_tCons, q_tNil, q_fz, q_frzE, q_app, q_aug, q_setIx, q_wipe0, q_wipe, fin_rt, fin_nx,
  mut_non, mut_bl, mut_int, mut_str, mut_tup, mut_lst, mut_dk, mut_dt, mut_scr, mut_cel, sto_non, sto_bl, sto_int, sto_str, sto_tup, sto_scr, sto_cel, sto_own, sto_frz, md_non, md_bl, md_int, md_str, md_tup, md_lst, md_dk, md_dt, md_scr, md_cel,
  gAdd_int, gAddI_int, gSub_int, gLt_int, gLe_int, gGt_int, gGe_int, gInt_int, gInt_bl, gLen_tup, gLen_lst, gTuple_lst, gTuple_tup, gList_scr, gList_lst, gList_tup, gIx_tup, gIx_lst, gEq_int, gEq_bl, atI_0, atI_1, atI_2,
  bnd_some, Option.map_some, Option.bind_some, List.getElem?_cons_succ, List.getElem?_cons_zero, List.set_cons_succ, List.set_cons_zero, List.foldl_cons, List.foldl_nil, List.map_cons, List.map_nil, List.length_map, List.length_cons, List.length_nil, List.all_cons, List.all_nil, Bool.and_true, Bool.true_and, and_true, true_and, false_and, and_false,
  size_le, size_lt', Nat.reduceAdd, Nat.reduceLeDiff, Nat.zero_add, ne_eq, decide_eq_true_eq, Int.reduceEq, Int.reduceLT, Int.reduceLE, Int.reduceNeg, decide_true, decide_false, Bool.false_bne, Bool.true_bne, Bool.not_true, Bool.not_false, reduceCtorEq, if_false, if_true, ite_true, ite_false, Bool.false_eq_true])
local macro_rules | `(tactic| walk_at "go") => `(tactic| simp -implicitDefEqProofs only [q_lit, q_nil, q_cons, q_var, q_bin, q_tup, q_lst, q_box, q_neg, q_notT, q_andT, q_orT, q_notV, q_andV, q_orV, q_if, q_B, q_ix, q_call, q_bi, q_sl, q_oNone, q_oSome, q_dk, q_dt, q_yesT, q_get2,
  q_lc, q_iExp, q_iVar, q_iEnV, items_tup, items_lst, q_seq, q_skip, q_ret, q_retV, q_ifS, q_asg, q_drop, q_for, q_tName, q_tTup, q_tCons, q_tNil, q_fz, q_frzE, q_app, q_aug, q_setIx, q_wipe0, q_wipe, fin_rt, fin_nx,
  mut_non, mut_bl, mut_int, mut_str, mut_tup, mut_lst, mut_dk, mut_dt, mut_scr, mut_cel, sto_non, sto_bl, sto_int, sto_str, sto_tup, sto_scr, sto_cel, sto_own, sto_frz, md_non, md_bl, md_int, md_str, md_tup, md_lst, md_dk, md_dt, md_scr, md_cel,
  gAdd_int, gAddI_int, gSub_int, gLt_int, gLe_int, gGt_int, gGe_int, gInt_int, gInt_bl, gLen_tup, gLen_lst, gTuple_lst, gTuple_tup, gList_scr, gList_lst, gList_tup, gIx_tup, gIx_lst, gEq_int, gEq_bl, atI_0, atI_1, atI_2,
  bnd_some, Option.map_some, Option.bind_some, List.getElem?_cons_succ, List.getElem?_cons_zero, List.set_cons_succ, List.set_cons_zero, List.foldl_cons, List.foldl_nil, List.map_cons, List.map_nil, List.length_map, List.length_cons, List.length_nil, List.all_cons, List.all_nil, Bool.and_true, Bool.true_and, and_true, true_and, false_and, and_false,
  size_le, size_lt', Nat.reduceAdd, Nat.reduceLeDiff, Nat.zero_add, ne_eq, decide_eq_true_eq, Int.reduceEq, Int.reduceLT, Int.reduceLE, Int.reduceNeg, decide_true, decide_false, Bool.false_bne, Bool.true_bne, Bool.not_true, Bool.not_false, reduceCtorEq, if_false, if_true, ite_true, ite_false, Bool.false_eq_true, *])

inductive Bd where
  | row (ts : Tm) (r : Rl) (rhs : Int)
  | any (ls : List Ltl)
  | whn (l : Ltl) (ts : Tm) (r : Rl) (rhs : Int)
  | dif (vs : List Int)
  | tab (vs : List Int) (rows : List (List Int))
  | ele (i : Int) (es : List Int) (j : Int)
  | tim (x y z : Int)
def encB : Bd → W
  | .row ts r b => .tup [.str "row", encT ts, .str (rlS r), .int b]
  | .any ls => .tup [.str "any", .tup (ls.map encL)]
  | .whn l ts r b => .tup [.str "when", encL l, encT ts, .str (rlS r), .int b]
  | .dif vs => .tup [.str "different", encP vs]
  | .tab vs rows => .tup [.str "table", encP vs, .tup (rows.map encP)]
  | .ele i es j => .tup [.str "element", .int i, encP es, .int j]
  | .tim x y z => .tup [.str "times", .int x, .int y, .int z]
/-- unknowns and coefficients that fit -/
def TmOk (n : Nat) (ts : Tm) : Prop := ts.length ≤ 60 ∧ ∀ t ∈ ts, 0 ≤ t.1 ∧ t.1 < n ∧ -1000000000 ≤ t.2 ∧ t.2 ≤ 1000000000
def VsOk (n : Nat) (vs : List Int) : Prop := vs.length ≤ 60 ∧ vs.Nodup ∧ ∀ v ∈ vs, 0 ≤ v ∧ v < n
def BOk (n : Nat) : Bd → Prop
  | .row ts r _ => TmOk n ts ∧ r ≠ .ne
  | .any ls => ls ≠ [] ∧ ls.length ≤ 60 ∧ ∀ l ∈ ls, LOk n l
  | .whn l ts r _ => LOk n l ∧ TmOk n ts ∧ r ≠ .ne
  | .dif vs => VsOk n vs
  | .tab vs rows => VsOk n vs ∧ rows.length ≤ 1000 ∧ ∀ row ∈ rows, row.length = vs.length
  | .ele i es j => (0 ≤ i ∧ i < n) ∧ (0 ≤ j ∧ j < n) ∧ es.length ≤ 60
  | .tim x y z => (0 ≤ x ∧ x < n) ∧ (0 ≤ y ∧ y < n) ∧ (0 ≤ z ∧ z < n)
/-- with the terms of a row as they are drawn -/
def BOk3 (n : Nat) (b : Bd) : Prop := BOk n b ∧ ∀ ts r c, b = .row ts r c → TOk3 n ts
theorem TOk3.ok {n : Nat} {ts : Tm} (h : TOk3 n ts) (hn : n ≤ 60) : TmOk n ts := ⟨by have := h.1; omega, fun t ht => by
  obtain ⟨h1, h2, h3, h4, _⟩ := h.2 t ht
  exact ⟨h1, h2, by omega, by omega⟩⟩
theorem idx_nodup (n : Nat) : (idx n).Nodup := by
  unfold idx
  exact List.Pairwise.map _ (fun a b h => by omega) (List.nodup_range (n := n))
theorem idx_mem {n : Nat} {v : Int} (h : v ∈ idx n) : 0 ≤ v ∧ v < n := by
  obtain ⟨k, hk, rfl⟩ := List.mem_map.mp h
  have := List.mem_range.mp hk
  omega
theorem VsOk.of {n : Nat} {us vs : List Int} (h : (us ++ vs).Perm (idx n)) (hn : n ≤ 60) : VsOk n vs := by
  have h1 := h.nodup_iff.mpr (idx_nodup n)
  have h2 := h.length_eq
  unfold idx at h2
  rw [List.length_append, List.length_map, List.length_range] at h2
  exact ⟨by omega, (List.nodup_append.mp h1).2.1, fun v hv => idx_mem (h.mem_iff.mp (List.mem_append.mpr (.inr hv)))⟩
theorem seq_if_f {t : CT} {A g : CS} {ρ : Mp.Env} {S : Store} (h : t ρ S = some (false, S)) : cSeq (cIfS t A cSkip) g ρ S = g ρ S := by
  rw [q_seq, q_ifS, h]
  simp only [bnd_some, Bool.false_eq_true, if_false, q_skip]
theorem seq_if_t {t : CT} {A g : CS} {ρ : Mp.Env} {S S2 : Store} {r : Wm} (h : t ρ S = some (true, S)) (h2 : A ρ S = some (.rt r S2)) : cSeq (cIfS t A cSkip) g ρ S = some (.rt r S2) := by
  rw [q_seq, q_ifS, h]
  simp only [bnd_some, if_true, h2]
def bb1 : CS :=
  cAsg (tName 2) (cCall mDraw (cCons (cVar 0) (cCons (cLit (.int 8)) cNil)))
def bb2 : CS :=
  cAsg (tName 3) (cIx (cLst (cCons (cLit (.str "<=")) (cCons (cLit (.str ">=")) (cCons (cLit (.str "=")) cNil)))) (cCall mDraw (cCons (cVar 0) (cCons (cLit (.int 3)) cNil))))
def bt3 : CT :=
  (cB (cBin (gEq false) (cVar 2) (cLit (.int 2))))
def bb3 : CS :=
  cSeq (cAsg (tName 4) (cLst cNil))
  (cSeq (cFor (tName 5) (iRange1 (cBin gAdd (cLit (.int 1)) (cCall mDraw (cCons (cVar 0) (cCons (cLit (.int 3)) cNil))))) (cSeq (cAsg (tName 6) (cCall m_law_literal (cCons (cVar 0) (cCons (cVar 1) cNil))))
  (cIfS (cB (cBin (gIn true) (cVar 6) (cVar 4))) (cApp 4 (cVar 6)) (cSkip))))
  (cRet (cTup (cCons (cLit (.str "any")) (cCons (cBi gTuple (cCons (cVar 4) cNil)) cNil)))))
def bt4 : CT :=
  (cB (cBin (gEq false) (cVar 2) (cLit (.int 3))))
def bb4 : CS :=
  cSeq (cAsg (tName 6) (cCall m_law_literal (cCons (cVar 0) (cCons (cVar 1) cNil))))
  (cRet (cTup (cCons (cLit (.str "when")) (cCons (cVar 6) (cCons (cCall m_law_terms (cCons (cVar 0) (cCons (cVar 1) cNil))) (cCons (cVar 3) (cCons (cBin Mp.gSub (cCall mDraw (cCons (cVar 0) (cCons (cLit (.int 16)) cNil))) (cLit (.int 6))) cNil)))))))
def bt5 : CT :=
  ((cAndT (cB (cBin (gEq false) (cVar 2) (cLit (.int 4)))) (cB (cBin gGt (cVar 1) (cLit (.int 1))))))
def bb5 : CS :=
  cRet (cTup (cCons (cLit (.str "different")) (cCons (cCall m_law_some (cCons (cVar 0) (cCons (cVar 1) (cCons (cLit (.int 2)) cNil)))) cNil)))
def bt6 : CT :=
  (cB (cBin (gEq false) (cVar 2) (cLit (.int 5))))
def bb6 : CS :=
  cSeq (cAsg (tName 7) (cSl (cCall m_law_some (cCons (cVar 0) (cCons (cVar 1) (cCons (cLit (.int 1)) cNil)))) oNone (oSome (cLit (.int 3)))))
  (cSeq (cAsg (tName 8) (cLst cNil))
  (cSeq (cFor (tName 5) (iRange1 (cBin gAdd (cLit (.int 1)) (cCall mDraw (cCons (cVar 0) (cCons (cLit (.int 4)) cNil))))) (cApp 8 (cBi gTuple (cCons (cLc (tName 10) (iVar 7) tYesT (cBin Mp.gSub (cCall mDraw (cCons (cVar 0) (cCons (cLit (.int 7)) cNil))) (cLit (.int 2))) [10]) cNil))))
  (cRet (cTup (cCons (cLit (.str "table")) (cCons (cVar 7) (cCons (cBi gTuple (cCons (cVar 8) cNil)) cNil)))))))
def bt7 : CT :=
  (cB (cBin (gEq false) (cVar 2) (cLit (.int 6))))
def bb7 : CS :=
  cSeq (cAsg (tName 9) (cLc (tName 5) (iRange1 (cBin gAdd (cLit (.int 1)) (cCall mDraw (cCons (cVar 0) (cCons (cLit (.int 4)) cNil))))) tYesT (cBin Mp.gSub (cCall mDraw (cCons (cVar 0) (cCons (cLit (.int 7)) cNil))) (cLit (.int 2))) [5]))
  (cRet (cTup (cCons (cLit (.str "element")) (cCons (cCall mDraw (cCons (cVar 0) (cCons (cVar 1) cNil))) (cCons (cBi gTuple (cCons (cVar 9) cNil)) (cCons (cCall mDraw (cCons (cVar 0) (cCons (cVar 1) cNil))) cNil))))))
def bt8 : CT :=
  (cB (cBin (gEq false) (cVar 2) (cLit (.int 7))))
def bb8 : CS :=
  cRet (cTup (cCons (cLit (.str "times")) (cCons (cCall mDraw (cCons (cVar 0) (cCons (cVar 1) cNil))) (cCons (cCall mDraw (cCons (cVar 0) (cCons (cVar 1) cNil))) (cCons (cCall mDraw (cCons (cVar 0) (cCons (cVar 1) cNil))) cNil)))))
def bb9 : CS :=
  cRet (cTup (cCons (cLit (.str "row")) (cCons (cCall m_law_terms (cCons (cVar 0) (cCons (cVar 1) cNil))) (cCons (cVar 3) (cCons (cBin Mp.gSub (cCall mDraw (cCons (cVar 0) (cCons (cLit (.int 16)) cNil))) (cLit (.int 6))) cNil)))))
theorem body_seq : c_law_body = cSeq bb1 (cSeq bb2 (cSeq (cIfS bt3 bb3 cSkip) (cSeq (cIfS bt4 bb4 cSkip) (cSeq (cIfS bt5 bb5 cSkip) (cSeq (cIfS bt6 bb6 cSkip) (cSeq (cIfS bt7 bb7 cSkip) (cSeq (cIfS bt8 bb8 cSkip) (bb9)))))))) := rfl
theorem row_ok {n many : Nat} {S : Store} (r : Rl) (hr : r ≠ .ne) (tp : TapeAt n S) (h1 : 1 ≤ many) (hm : many ≤ 60) (k : Int) : ∃ b S2, bb9 [some (.cel n, .brw), some (.int ((many : Nat) : Int), .brw), some (.int k, .frz), some (.str (rlS r), .frz), none, none, none, none, none, none, none] S = some (.rt (encB b, .own) S2) ∧ BOk3 many b ∧ TapeAt n S2 ∧ SameBut n S S2 := by
  obtain ⟨ts, S2, e, hts, tp2, sb2⟩ := law_terms_ok tp hm
  obtain ⟨d, S3, e3, hd0, hd1, tp3, sb3⟩ := draw_ok (many := 16) tp2 (by decide) (by decide)
  refine ⟨.row ts r (d - 6), S3, ?_, ⟨⟨hts.ok hm, hr⟩, fun _ _ _ e => by cases e; exact hts⟩, tp3, sb2.trans sb3⟩
  unfold bb9
  have hs : sto (encT ts, .own) = true := rfl
  walk_at "go"
  rfl
theorem tim_ok {n many : Nat} {S : Store} (r : Rl) (hr : r ≠ .ne) (tp : TapeAt n S) (h1 : 1 ≤ many) (hm : many ≤ 60) : ∃ b S2, bb8 [some (.cel n, .brw), some (.int ((many : Nat) : Int), .brw), some (.int 7, .frz), some (.str (rlS r), .frz), none, none, none, none, none, none, none] S = some (.rt (encB b, .own) S2) ∧ BOk3 many b ∧ TapeAt n S2 ∧ SameBut n S S2 := by
  obtain ⟨x, S2, e, hx0, hx1, tp2, sb2⟩ := draw_ok (many := ((many : Nat) : Int)) tp (by omega) (by omega)
  obtain ⟨y, S3, e3, hy0, hy1, tp3, sb3⟩ := draw_ok (many := ((many : Nat) : Int)) tp2 (by omega) (by omega)
  obtain ⟨z, S4, e4, hz0, hz1, tp4, sb4⟩ := draw_ok (many := ((many : Nat) : Int)) tp3 (by omega) (by omega)
  refine ⟨.tim x y z, S4, ?_, ⟨⟨⟨hx0, hx1⟩, ⟨hy0, hy1⟩, ⟨hz0, hz1⟩⟩, fun _ _ _ e => nomatch e⟩, tp4, (sb2.trans sb3).trans sb4⟩
  unfold bb8
  walk_at "go"
  rfl
theorem whn_ok {n many : Nat} {S : Store} (r : Rl) (hr : r ≠ .ne) (tp : TapeAt n S) (h1 : 1 ≤ many) (hm : many ≤ 60) : ∃ b S2, bb4 [some (.cel n, .brw), some (.int ((many : Nat) : Int), .brw), some (.int 3, .frz), some (.str (rlS r), .frz), none, none, none, none, none, none, none] S = some (.rt (encB b, .own) S2) ∧ BOk3 many b ∧ TapeAt n S2 ∧ SameBut n S S2 := by
  obtain ⟨l, S2, e, hl, _, _, tp2, sb2⟩ := literal_ok tp h1 hm
  obtain ⟨ts, S3, e3, hts, tp3, sb3⟩ := law_terms_ok tp2 hm
  obtain ⟨d, S4, e4, hd0, hd1, tp4, sb4⟩ := draw_ok (many := 16) tp3 (by decide) (by decide)
  refine ⟨.whn l ts r (d - 6), S4, ?_, ⟨⟨hl, hts.ok hm, hr⟩, fun _ _ _ e => nomatch e⟩, tp4, (sb2.trans sb3).trans sb4⟩
  have hs : ∀ ts m, sto (encT ts, m) = true := fun _ _ => rfl
  have hs2 : ∀ l m, sto (encL l, m) = true := fun _ _ => rfl
  have hs3 : ∀ l m, md (encL l, m) = (encL l, .frz) := fun _ _ => rfl
  unfold bb4
  walk_at "go"
  rfl
theorem dif_ok {n many : Nat} {S : Store} (r : Rl) (hr : r ≠ .ne) (tp : TapeAt n S) (h1 : 1 ≤ many) (hm : many ≤ 60) (h2 : 2 ≤ many) : ∃ b S2, bb5 [some (.cel n, .brw), some (.int ((many : Nat) : Int), .brw), some (.int 4, .frz), some (.str (rlS r), .frz), none, none, none, none, none, none, none] S = some (.rt (encB b, .own) S2) ∧ BOk3 many b ∧ TapeAt n S2 ∧ SameBut n S S2 := by
  obtain ⟨vs, S2, e, ⟨us, hp⟩, hl, tp2, sb2⟩ := some_ok (least := 2) tp hm (by omega) (by omega)
  refine ⟨.dif vs, S2, ?_, ⟨VsOk.of hp hm, fun _ _ _ e => nomatch e⟩, tp2, sb2⟩
  have hs : ∀ ts m, sto (encP ts, m) = true := fun _ _ => rfl
  unfold bb5
  walk_at "go"
  rfl
theorem lc_draws {n : Nat} {S : Store} {q o : Int} {j : Nat} {ρ : Mp.Env} {m0 : Md} (tp : TapeAt n S) (hq : 0 < q) (hq2 : q < 1073741824) (h0 : ρ[0]? = some (some (.cel n, m0))) (hj : j ≠ 0) (ws : List W) :
    ∃ (is : List Int) (S2 : Store), lcL (tName j) tYesT (cBin Mp.gSub (cCall mDraw (cCons (cVar 0) (cCons (cLit (.int q)) cNil))) (cLit (.int o))) ρ ws S = some (is.map .int, S2) ∧ is.length = ws.length ∧ TapeAt n S2 ∧ SameBut n S S2 := by
  obtain ⟨gs, S2, e, ⟨t2, sb⟩, hp⟩ := lc_ex (I := fun S' => TapeAt n S' ∧ SameBut n S S') (R := fun _ g => ∃ i : Int, g = .int i ∧ True) (ws := ws) (t := tName j) (c := tYesT) (f := cBin Mp.gSub (cCall mDraw (cCons (cVar 0) (cCons (cLit (.int q)) cNil))) (cLit (.int o))) (ρ := ρ) ⟨tp, .refl⟩ (fun w hw S1 ⟨t1, sb1⟩ => by
    obtain ⟨d, S2, e, _, _, t2, sb2⟩ := draw_ok t1 hq hq2
    refine ⟨ρ.set j (some (md (w, .frz))), .int (d - o), .own, S2, by rw [q_tName, sto_frz, if_pos rfl], rfl, ?_, rfl, ⟨t2, sb1.trans sb2⟩, _, rfl, trivial⟩
    have h2 : (ρ.set j (some (md (w, .frz))))[0]? = some (some (.cel n, m0)) := by rw [List.getElem?_set_ne hj]; exact h0
    walk_at "ev"
    rw [h2]
    walk_at "ev"
    rw [e]
    walk_at "ev")
  obtain ⟨is, rfl, hl, _⟩ := paired_pts hp
  exact ⟨is, S2, e, hl, t2, sb⟩
theorem ele_ok {n many : Nat} {S : Store} (r : Rl) (hr : r ≠ .ne) (tp : TapeAt n S) (h1 : 1 ≤ many) (hm : many ≤ 60) : ∃ b S2, bb7 [some (.cel n, .brw), some (.int ((many : Nat) : Int), .brw), some (.int 6, .frz), some (.str (rlS r), .frz), none, none, none, none, none, none, none] S = some (.rt (encB b, .own) S2) ∧ BOk3 many b ∧ TapeAt n S2 ∧ SameBut n S S2 := by
  obtain ⟨d, S2, e, hd0, hd1, tp2, sb2⟩ := draw_ok (many := 4) tp (by decide) (by decide)
  obtain ⟨c, hc⟩ : ∃ c : Nat, 1 + d = ((c : Nat) : Int) := ⟨(1 + d).toNat, by omega⟩
  have hr1 : iRange1 (cBin gAdd (cLit (.int 1)) (cCall mDraw (cCons (cVar 0) (cCons (cLit (.int 4)) cNil)))) [some (.cel n, .brw), some (.int ((many : Nat) : Int), .brw), some (.int 6, .frz), some (.str (rlS r), .frz), none, none, none, none, none, none, none] S = some ((List.range c).map fun k : Nat => W.int ((k : Nat) : Int), S2) := by
    refine rng_ok (m := .own) ?_ (by omega)
    walk_at "go"
  obtain ⟨es, S3, e3, hl, tp3, sb3⟩ := lc_draws (q := 7) (o := 2) (j := 5) (ρ := wipeE [some (.cel n, .brw), some (.int ((many : Nat) : Int), .brw), some (.int 6, .frz), some (.str (rlS r), .frz), none, none, none, none, none, none, none] [5]) (m0 := .brw) tp2 (by decide) (by decide) rfl (by decide) ((List.range c).map fun k : Nat => W.int ((k : Nat) : Int))
  rw [List.length_map, List.length_range] at hl
  obtain ⟨x, S4, e4, hx0, hx1, tp4, sb4⟩ := draw_ok (many := ((many : Nat) : Int)) tp3 (by omega) (by omega)
  obtain ⟨y, S5, e5, hy0, hy1, tp5, sb5⟩ := draw_ok (many := ((many : Nat) : Int)) tp4 (by omega) (by omega)
  refine ⟨.ele x es y, S5, ?_, ⟨⟨⟨hx0, hx1⟩, ⟨hy0, hy1⟩, by omega⟩, fun _ _ _ e => nomatch e⟩, tp5, ((sb2.trans sb3).trans sb4).trans sb5⟩
  unfold bb7
  rw [seq_nx (ρ2 := [some (.cel n, .brw), some (.int ((many : Nat) : Int), .brw), some (.int 6, .frz), some (.str (rlS r), .frz), none, none, none, none, none, some (.lst (es.map .int), .own), none]) (S2 := S3) (by
    rw [q_asg, q_lc, hr1]
    dsimp only [bnd_some]
    rw [if_pos (size_ok (by rw [List.length_map, List.length_range]; omega)), e3]
    walk_at "ev")]
  walk_at "go"
  rfl
theorem okL (l : Ltl) (n : Nat) : okD (encL l) (n + 1) = true := okD_tup fun w hw => by
  simp only [List.mem_cons, List.not_mem_nil, or_false] at hw
  rcases hw with rfl | rfl | rfl
  · rfl
  · unfold okD
    cases l.r <;> decide +kernel
  · rfl
theorem any_ok {n many : Nat} {S : Store} (r : Rl) (hr : r ≠ .ne) (tp : TapeAt n S) (h1 : 1 ≤ many) (hm : many ≤ 60) : ∃ b S2, bb3 [some (.cel n, .brw), some (.int ((many : Nat) : Int), .brw), some (.int 2, .frz), some (.str (rlS r), .frz), none, none, none, none, none, none, none] S = some (.rt (encB b, .own) S2) ∧ BOk3 many b ∧ TapeAt n S2 ∧ SameBut n S S2 := by
  obtain ⟨d, S2, e, hd0, hd1, tp2, sb2⟩ := draw_ok (many := 3) tp (by decide) (by decide)
  obtain ⟨c, hc⟩ : ∃ c : Nat, 1 + d = ((c : Nat) : Int) := ⟨(1 + d).toNat, by omega⟩
  have hr1 : iRange1 (cBin gAdd (cLit (.int 1)) (cCall mDraw (cCons (cVar 0) (cCons (cLit (.int 3)) cNil)))) ([some (.cel n, .brw), some (.int ((many : Nat) : Int), .brw), some (.int 2, .frz), some (.str (rlS r), .frz), some (.lst [], .own), none, none, none, none, none, none]) S = some ((List.range c).map fun k : Nat => W.int ((k : Nat) : Int), S2) := by
    refine rng_ok (m := .own) ?_ (by omega)
    walk_at "go"
  obtain ⟨ρ2, S3, e3, ls, x5, x6, rfl, hl0, hl1, hl2, tp3, sb3⟩ := for_inv (ws := (List.range c).map fun k : Nat => W.int ((k : Nat) : Int)) (t := (tName 5)) (b := (cSeq (cAsg (tName 6) (cCall m_law_literal (cCons (cVar 0) (cCons (cVar 1) cNil))))
  (cIfS (cB (cBin (gIn true) (cVar 6) (cVar 4))) (cApp 4 (cVar 6)) (cSkip))))
    (fun i ρ S3 => ∃ (ls : List Ltl) (x5 x6 : Option (W × Md)), ρ = [some (.cel n, .brw), some (.int ((many : Nat) : Int), .brw), some (.int 2, .frz), some (.str (rlS r), .frz), some (.lst (ls.map encL), .own), x5, x6, none, none, none, none] ∧ (0 < i → ls ≠ []) ∧ ls.length ≤ i ∧ (∀ l ∈ ls, LOk many l) ∧ TapeAt n S3 ∧ SameBut n S S3)
    (fun i w ρ S3 hw hI => by
      obtain ⟨ls, x5, x6, rfl, hl0, hl1, hl2, tp3, sb3⟩ := hI
      have hi : i < c := by
        have := (List.getElem?_eq_some_iff.mp hw).1
        simpa using this
      rw [List.getElem?_map, List.getElem?_range hi] at hw
      injection hw with hw
      subst hw
      obtain ⟨l, S4, e4, hl, _, _, tp4, sb4⟩ := literal_ok tp3 h1 hm
      have hs2 : ∀ l m, sto (encL l, m) = true := fun _ _ => rfl
      have hs3 : ∀ l m, md (encL l, m) = (encL l, .frz) := fun _ _ => rfl
      have hin := gIn_ok (neg := true) (okL l 63) (okD_lst (n := 63) (ws := ls.map encL) fun w hw => by
        obtain ⟨l, _, rfl⟩ := List.mem_map.mp hw
        exact okL l 62)
      by_cases hb : ((ls.map encL).any fun z => eqW z (encL l)) = true
      · refine ⟨_, [some (.cel n, .brw), some (.int ((many : Nat) : Int), .brw), some (.int 2, .frz), some (.str (rlS r), .frz), some (.lst (ls.map encL), .own), some (.int ((i : Nat) : Int), .frz), some (encL l, .frz), none, none, none, none], S4, by walk_at "ev"; rfl, ?_, ls, some (.int ((i : Nat) : Int), .frz), some (encL l, .frz), rfl, fun _ hn => ?_, by omega, hl2, tp4, sb3.trans sb4⟩
        · rw [hb] at hin
          walk_at "go"
        · subst hn
          cases hb
      · rw [Bool.not_eq_true] at hb
        refine ⟨_, [some (.cel n, .brw), some (.int ((many : Nat) : Int), .brw), some (.int 2, .frz), some (.str (rlS r), .frz), some (.lst ((ls ++ [l]).map encL), .own), some (.int ((i : Nat) : Int), .frz), some (encL l, .frz), none, none, none, none], S4, by walk_at "ev"; rfl, ?_, ls ++ [l], some (.int ((i : Nat) : Int), .frz), some (encL l, .frz), rfl, fun _ => by simp, by rw [List.length_append]; simp only [List.length_singleton]; omega, fun l' h' => ?_, tp4, sb3.trans sb4⟩
        · rw [hb] at hin
          walk_at "go"
          rw [if_pos (size_lt (by omega)), List.map_append]
          rfl
        · rcases List.mem_append.mp h' with h' | h'
          · exact hl2 l' h'
          · rw [List.mem_singleton.mp h']; exact hl)
    (ρ := [some (.cel n, .brw), some (.int ((many : Nat) : Int), .brw), some (.int 2, .frz), some (.str (rlS r), .frz), some (.lst [], .own), none, none, none, none, none, none]) (S := S2) ⟨[], none, none, rfl, fun h => absurd h (Nat.lt_irrefl _), Nat.le_refl _, fun _ h => (by cases h), tp2, sb2⟩
  rw [List.length_map, List.length_range] at hl0 hl1
  refine ⟨.any ls, S3, ?_, ⟨⟨hl0 (by omega), by omega, hl2⟩, fun _ _ _ e => nomatch e⟩, tp3, sb3⟩
  unfold bb3
  rw [seq_nx (ρ2 := [some (.cel n, .brw), some (.int ((many : Nat) : Int), .brw), some (.int 2, .frz), some (.str (rlS r), .frz), some (.lst [], .own), none, none, none, none, none, none]) (S2 := S) (by walk_at "go")]
  rw [seq_nx (ρ2 := [some (.cel n, .brw), some (.int ((many : Nat) : Int), .brw), some (.int 2, .frz), some (.str (rlS r), .frz), some (.lst (ls.map encL), .own), x5, x6, none, none, none, none]) (S2 := S3) (by rw [q_for, hr1]; exact e3)]
  walk_at "go"
  rfl
theorem cut_map {A B : Type} (f : A → B) (xs : List A) (lo hi : Option Int) : cutW (xs.map f) lo hi = (cutW xs lo hi).map f := by
  unfold cutW
  rw [List.length_map, List.map_take, List.map_drop]
theorem cut_take {A : Type} (xs : List A) (k : Nat) : cutW xs none (some ((k : Nat) : Int)) = xs.take k := by
  unfold cutW
  rw [HT.sIx_none, HT.sIx_nat, List.drop_zero, Nat.sub_zero]
  by_cases h : k ≤ xs.length
  · rw [Nat.min_eq_left h]
  · rw [Nat.min_eq_right (by omega), List.take_of_length_le (Nat.le_refl _), List.take_of_length_le (by omega)]
theorem sl_take (p : List Int) (k : Nat) : gSl (encP p) none (some ((k : Nat) : Int)) = some (encP (p.take k)) := by
  show some (W.tup _) = some (W.tup _)
  rw [cut_map, cut_take]
theorem VsOk.take {n : Nat} {vs : List Int} (h : VsOk n vs) (k : Nat) : VsOk n (vs.take k) :=
  ⟨by have := h.1; rw [List.length_take]; omega, (List.take_sublist k vs).nodup h.2.1, fun v hv => h.2.2 v (List.mem_of_mem_take hv)⟩
theorem tab_ok {n many : Nat} {S : Store} (r : Rl) (hr : r ≠ .ne) (tp : TapeAt n S) (h1 : 1 ≤ many) (hm : many ≤ 60) : ∃ b S2, bb6 [some (.cel n, .brw), some (.int ((many : Nat) : Int), .brw), some (.int 5, .frz), some (.str (rlS r), .frz), none, none, none, none, none, none, none] S = some (.rt (encB b, .own) S2) ∧ BOk3 many b ∧ TapeAt n S2 ∧ SameBut n S S2 := by
  obtain ⟨vs0, S2, e, ⟨us, hp⟩, hl0, tp2, sb2⟩ := some_ok (least := 1) tp hm (by omega) (by omega)
  have hvs := (VsOk.of hp hm).take 3
  have hsl : gSl (encP vs0) none (some 3) = some (encP (vs0.take 3)) := sl_take vs0 3
  generalize vs0.take 3 = vs at hvs hsl
  obtain ⟨d, S3, e3, hd0, hd1, tp3, sb3⟩ := draw_ok (many := 4) tp2 (by decide) (by decide)
  obtain ⟨c, hc⟩ : ∃ c : Nat, 1 + d = ((c : Nat) : Int) := ⟨(1 + d).toNat, by omega⟩
  have hr1 : iRange1 (cBin gAdd (cLit (.int 1)) (cCall mDraw (cCons (cVar 0) (cCons (cLit (.int 4)) cNil)))) ([some (.cel n, .brw), some (.int ((many : Nat) : Int), .brw), some (.int 5, .frz), some (.str (rlS r), .frz), none, none, none, some (encP vs, .frz), some (.lst [], .own), none, none]) S2 = some ((List.range c).map fun k : Nat => W.int ((k : Nat) : Int), S3) := by
    refine rng_ok (m := .own) ?_ (by omega)
    walk_at "go"
  obtain ⟨ρ2, S4, e4, rows, x5, rfl, hl1, hrows, tp4, sb4⟩ := for_inv (ws := (List.range c).map fun k : Nat => W.int ((k : Nat) : Int)) (t := (tName 5)) (b := (cApp 8 (cBi gTuple (cCons (cLc (tName 10) (iVar 7) tYesT (cBin Mp.gSub (cCall mDraw (cCons (cVar 0) (cCons (cLit (.int 7)) cNil))) (cLit (.int 2))) [10]) cNil))))
    (fun i ρ S4 => ∃ (rows : List (List Int)) (x5 : Option (W × Md)), ρ = [some (.cel n, .brw), some (.int ((many : Nat) : Int), .brw), some (.int 5, .frz), some (.str (rlS r), .frz), none, x5, none, some (encP vs, .frz), some (.lst (rows.map encP), .own), none, none] ∧ rows.length = i ∧ (∀ row ∈ rows, row.length = vs.length) ∧ TapeAt n S4 ∧ SameBut n S S4)
    (fun i w ρ S4 hw hI => by
      obtain ⟨rows, x5, rfl, hl1, hrows, tp4, sb4⟩ := hI
      have hi : i < c := by
        have := (List.getElem?_eq_some_iff.mp hw).1
        simpa using this
      rw [List.getElem?_map, List.getElem?_range hi] at hw
      injection hw with hw
      subst hw
      obtain ⟨is, S5, e5, hl5, tp5, sb5⟩ := lc_draws (q := 7) (o := 2) (j := 10) (ρ := wipeE [some (.cel n, .brw), some (.int ((many : Nat) : Int), .brw), some (.int 5, .frz), some (.str (rlS r), .frz), none, some (.int ((i : Nat) : Int), .frz), none, some (encP vs, .frz), some (.lst (rows.map encP), .own), none, none] [10]) (m0 := .brw) tp4 (by decide) (by decide) rfl (by decide) (vs.map .int)
      rw [List.length_map] at hl5
      have hit : itemsOf (encP vs) = some (vs.map .int) := rfl
      have him : (encP vs).mut = false := rfl
      refine ⟨[some (.cel n, .brw), some (.int ((many : Nat) : Int), .brw), some (.int 5, .frz), some (.str (rlS r), .frz), none, some (.int ((i : Nat) : Int), .frz), none, some (encP vs, .frz), some (.lst (rows.map encP), .own), none, none], [some (.cel n, .brw), some (.int ((many : Nat) : Int), .brw), some (.int 5, .frz), some (.str (rlS r), .frz), none, some (.int ((i : Nat) : Int), .frz), none, some (encP vs, .frz), some (.lst ((rows ++ [is]).map encP), .own), none, none], S5, by walk_at "ev", ?_, rows ++ [is], some (.int ((i : Nat) : Int), .frz), rfl, by rw [List.length_append, hl1]; rfl, fun row hrow => ?_, tp5, sb4.trans sb5⟩
      · have e6 : cLc (tName 10) (iVar 7) tYesT (cBin Mp.gSub (cCall mDraw (cCons (cVar 0) (cCons (cLit (.int 7)) cNil))) (cLit (.int 2))) [10] [some (.cel n, .brw), some (.int ((many : Nat) : Int), .brw), some (.int 5, .frz), some (.str (rlS r), .frz), none, some (.int ((i : Nat) : Int), .frz), none, some (encP vs, .frz), some (.lst (rows.map encP), .own), none, none] S4 = some ((.lst (is.map .int), .own), S5) := by
          rw [q_lc, q_iVar]
          simp only [List.getElem?_cons_succ, List.getElem?_cons_zero, him, Bool.false_eq_true, false_and, if_false, hit, Option.map_some, bnd_some]
          rw [if_pos (size_ok (by rw [List.length_map]; have := hvs.1; omega)), e5]
          rfl
        rw [q_app, q_bi, q_cons, e6]
        walk_at "go"
        rw [if_pos (size_lt (by omega)), List.map_append]
        rfl
      · rcases List.mem_append.mp hrow with h' | h'
        · exact hrows row h'
        · rw [List.mem_singleton.mp h']; exact hl5)
    (ρ := [some (.cel n, .brw), some (.int ((many : Nat) : Int), .brw), some (.int 5, .frz), some (.str (rlS r), .frz), none, none, none, some (encP vs, .frz), some (.lst [], .own), none, none]) (S := S3) ⟨[], none, rfl, rfl, fun _ h => (by cases h), tp3, sb2.trans sb3⟩
  rw [List.length_map, List.length_range] at hl1
  refine ⟨.tab vs rows, S4, ?_, ⟨⟨hvs, by omega, hrows⟩, fun _ _ _ e => nomatch e⟩, tp4, sb4⟩
  have hs : ∀ ts m, sto (encP ts, m) = true := fun _ _ => rfl
  have hs3 : ∀ l m, md (encP l, m) = (encP l, .frz) := fun _ _ => rfl
  unfold bb6
  rw [seq_nx (ρ2 := [some (.cel n, .brw), some (.int ((many : Nat) : Int), .brw), some (.int 5, .frz), some (.str (rlS r), .frz), none, none, none, some (encP vs, .frz), none, none, none]) (S2 := S2) (by walk_at "go")]
  rw [seq_nx (ρ2 := [some (.cel n, .brw), some (.int ((many : Nat) : Int), .brw), some (.int 5, .frz), some (.str (rlS r), .frz), none, none, none, some (encP vs, .frz), some (.lst [], .own), none, none]) (S2 := S2) (by walk_at "go")]
  rw [seq_nx (ρ2 := [some (.cel n, .brw), some (.int ((many : Nat) : Int), .brw), some (.int 5, .frz), some (.str (rlS r), .frz), none, x5, none, some (encP vs, .frz), some (.lst (rows.map encP), .own), none, none]) (S2 := S4) (by rw [q_for, hr1]; exact e4)]
  walk_at "go"
  rfl
theorem body_ok3 {n many : Nat} {S : Store} (tp : TapeAt n S) (h1 : 1 ≤ many) (hm : many ≤ 60) : ∃ b S2, m_law_body [.cel n, .int ((many : Nat) : Int)] S = some ((encB b, .own), S2) ∧ BOk3 many b ∧ TapeAt n S2 ∧ SameBut n S S2 := by
  suffices h : ∃ b S2, c_law_body [some (.cel n, .brw), some (.int ((many : Nat) : Int), .brw), none, none, none, none, none, none, none, none, none] S = some (.rt (encB b, .own) S2) ∧ BOk3 many b ∧ TapeAt n S2 ∧ SameBut n S S2 by
    obtain ⟨b, S2, e, hb, tp2, sb2⟩ := h
    refine ⟨b, S2, ?_, hb, tp2, sb2⟩
    unfold m_law_body
    rw [cFn_run (by rfl)]
    show fin (c_law_body [some (.cel n, .brw), some (.int ((many : Nat) : Int), .brw), none, none, none, none, none, none, none, none, none] S) = _
    rw [e, fin_rt, sto_own, if_pos rfl]
  obtain ⟨k, S2, e, hk0, hk1, tp2, sb2⟩ := draw_ok (many := 8) tp (by decide) (by decide)
  obtain ⟨d, S3, e3, hd0, hd1, tp3, sb3⟩ := draw_ok (many := 3) tp2 (by decide) (by decide)
  obtain ⟨r, hr, hrx⟩ := rl_ix3 d hd0 hd1
  rw [body_seq]
  rw [seq_nx (f := bb1) (ρ2 := [some (.cel n, .brw), some (.int ((many : Nat) : Int), .brw), some (.int k, .frz), none, none, none, none, none, none, none, none]) (S2 := S2) (by unfold bb1; walk_at "go")]
  rw [seq_nx (f := bb2) (ρ2 := [some (.cel n, .brw), some (.int ((many : Nat) : Int), .brw), some (.int k, .frz), some (.str (rlS r), .frz), none, none, none, none, none, none, none]) (S2 := S3) (by unfold bb2; walk_at "go")]
  have fin : ∀ (f : CS), (∃ b S2, f [some (.cel n, .brw), some (.int ((many : Nat) : Int), .brw), some (.int k, .frz), some (.str (rlS r), .frz), none, none, none, none, none, none, none] S3 = some (.rt (encB b, .own) S2) ∧ BOk3 many b ∧ TapeAt n S2 ∧ SameBut n S3 S2) → ∃ b S2, f [some (.cel n, .brw), some (.int ((many : Nat) : Int), .brw), some (.int k, .frz), some (.str (rlS r), .frz), none, none, none, none, none, none, none] S3 = some (.rt (encB b, .own) S2) ∧ BOk3 many b ∧ TapeAt n S2 ∧ SameBut n S S2 := fun f ⟨b, S4, e4, hb, tp4, sb4⟩ => ⟨b, S4, e4, hb, tp4, (sb2.trans sb3).trans sb4⟩
  refine fin _ ?_
  have hk : k = 0 ∨ k = 1 ∨ k = 2 ∨ k = 3 ∨ k = 4 ∨ k = 5 ∨ k = 6 ∨ k = 7 := by omega
  rcases hk with rfl | rfl | rfl | rfl | rfl | rfl | rfl | rfl
  · rw [seq_if_f (t := bt3) (by unfold bt3; walk_at "ev"), seq_if_f (t := bt4) (by unfold bt4; walk_at "ev"), seq_if_f (t := bt5) (by unfold bt5; walk_at "ev"), seq_if_f (t := bt6) (by unfold bt6; walk_at "ev"), seq_if_f (t := bt7) (by unfold bt7; walk_at "ev"), seq_if_f (t := bt8) (by unfold bt8; walk_at "ev")]
    exact row_ok r hr tp3 h1 hm _
  · rw [seq_if_f (t := bt3) (by unfold bt3; walk_at "ev"), seq_if_f (t := bt4) (by unfold bt4; walk_at "ev"), seq_if_f (t := bt5) (by unfold bt5; walk_at "ev"), seq_if_f (t := bt6) (by unfold bt6; walk_at "ev"), seq_if_f (t := bt7) (by unfold bt7; walk_at "ev"), seq_if_f (t := bt8) (by unfold bt8; walk_at "ev")]
    exact row_ok r hr tp3 h1 hm _
  · obtain ⟨b, S4, e4, h4⟩ := any_ok r hr tp3 h1 hm
    exact ⟨b, S4, seq_if_t (by unfold bt3; walk_at "ev") e4, h4⟩
  · rw [seq_if_f (t := bt3) (by unfold bt3; walk_at "ev")]
    obtain ⟨b, S4, e4, h4⟩ := whn_ok r hr tp3 h1 hm
    exact ⟨b, S4, seq_if_t (by unfold bt4; walk_at "ev") e4, h4⟩
  · rw [seq_if_f (t := bt3) (by unfold bt3; walk_at "ev"), seq_if_f (t := bt4) (by unfold bt4; walk_at "ev")]
    by_cases h2 : 2 ≤ many
    · obtain ⟨b, S4, e4, h4⟩ := dif_ok r hr tp3 h1 hm h2
      exact ⟨b, S4, seq_if_t (by unfold bt5; walk_at "ev"; rw [decide_eq_true (by omega)]) e4, h4⟩
    · rw [seq_if_f (t := bt5) (by unfold bt5; walk_at "ev"; rw [decide_eq_false (by omega)]), seq_if_f (t := bt6) (by unfold bt6; walk_at "ev"), seq_if_f (t := bt7) (by unfold bt7; walk_at "ev"), seq_if_f (t := bt8) (by unfold bt8; walk_at "ev")]
      exact row_ok r hr tp3 h1 hm _
  · rw [seq_if_f (t := bt3) (by unfold bt3; walk_at "ev"), seq_if_f (t := bt4) (by unfold bt4; walk_at "ev"), seq_if_f (t := bt5) (by unfold bt5; walk_at "ev")]
    obtain ⟨b, S4, e4, h4⟩ := tab_ok r hr tp3 h1 hm
    exact ⟨b, S4, seq_if_t (by unfold bt6; walk_at "ev") e4, h4⟩
  · rw [seq_if_f (t := bt3) (by unfold bt3; walk_at "ev"), seq_if_f (t := bt4) (by unfold bt4; walk_at "ev"), seq_if_f (t := bt5) (by unfold bt5; walk_at "ev"), seq_if_f (t := bt6) (by unfold bt6; walk_at "ev")]
    obtain ⟨b, S4, e4, h4⟩ := ele_ok r hr tp3 h1 hm
    exact ⟨b, S4, seq_if_t (by unfold bt7; walk_at "ev") e4, h4⟩
  · rw [seq_if_f (t := bt3) (by unfold bt3; walk_at "ev"), seq_if_f (t := bt4) (by unfold bt4; walk_at "ev"), seq_if_f (t := bt5) (by unfold bt5; walk_at "ev"), seq_if_f (t := bt6) (by unfold bt6; walk_at "ev"), seq_if_f (t := bt7) (by unfold bt7; walk_at "ev")]
    obtain ⟨b, S4, e4, h4⟩ := tim_ok r hr tp3 h1 hm
    exact ⟨b, S4, seq_if_t (by unfold bt8; walk_at "ev") e4, h4⟩
theorem body_ok {n many : Nat} {S : Store} (tp : TapeAt n S) (h1 : 1 ≤ many) (hm : many ≤ 60) : ∃ b S2, m_law_body [.cel n, .int ((many : Nat) : Int)] S = some ((encB b, .own), S2) ∧ BOk many b ∧ TapeAt n S2 ∧ SameBut n S S2 := by
  obtain ⟨b, S2, e, h, tp2, sb2⟩ := body_ok3 tp h1 hm
  exact ⟨b, S2, e, h.1, tp2, sb2⟩
end Lg
/-! where a body holds -/
namespace Lg
open PySem PySem.Spec PyProof.Rows L2 Mp
theorem atI_3 {A : Type} (x y z w : A) (xs : List A) : atI (x :: y :: z :: w :: xs) 3 = some w := by rw [atI_of (by omega)]; rfl
theorem atI_4 {A : Type} (x y z w v : A) (xs : List A) : atI (x :: y :: z :: w :: v :: xs) 4 = some v := by rw [atI_of (by omega)]; rfl
local macro_rules | `(tactic| walk_at "ev") => `(tactic| simp -implicitDefEqProofs only [q_lit, q_nil, q_cons, q_var, q_bin, q_tup, q_lst, q_box, q_neg, q_notT, q_andT, q_orT, q_notV, q_andV, q_orV, q_if, q_B, q_ix, q_call, q_bi, q_sl, q_oNone, q_oSome, q_dk, q_dt, q_yesT, q_get2,
  q_lc, q_iExp, q_iVar, q_iEnV, items_tup, items_lst, q_seq, q_skip, q_ret, q_retV, q_ifS, q_asg, q_drop, q_for, q_tName, q_tTup, q_tCons, q_tNil, q_fz, q_frzE, q_app, q_aug, q_setIx, q_wipe0, q_wipe, fin_rt, fin_nx,
  mut_non, mut_bl, mut_int, mut_str, mut_tup, mut_lst, mut_dk, mut_dt, mut_scr, mut_cel, sto_non, sto_bl, sto_int, sto_str, sto_tup, sto_scr, sto_cel, sto_own, sto_frz, md_non, md_bl, md_int, md_str, md_tup, md_lst, md_dk, md_dt, md_scr, md_cel,
  gAdd_int, gAddI_int, gSub_int, gLt_int, gLe_int, gGt_int, gGe_int, gInt_int, gInt_bl, gLen_tup, gLen_lst, gTuple_lst, gTuple_tup, gList_scr, gList_lst, gList_tup, gIx_tup, gIx_lst, gEq_int, gEq_bl, atI_0, atI_1, atI_2, atI_3, atI_4,
  bnd_some, Option.map_some, Option.bind_some, List.getElem?_cons_succ, List.getElem?_cons_zero, List.set_cons_succ, List.set_cons_zero, List.foldl_cons, List.foldl_nil, List.map_cons, List.map_nil, List.length_map, List.length_cons, List.length_nil, List.all_cons, List.all_nil, Bool.and_true, Bool.true_and, and_true, true_and, false_and, and_false,
  size_le, size_lt', Nat.reduceAdd, Nat.reduceLeDiff, Nat.zero_add, ne_eq, decide_eq_true_eq, Int.reduceEq, Int.reduceLT, Int.reduceLE, Int.reduceNeg, decide_true, decide_false, Bool.false_bne, Bool.true_bne, Bool.not_true, Bool.not_false, reduceCtorEq, if_false, if_true, ite_true, ite_false, Bool.false_eq_true])
local macro_rules | `(tactic| walk_at "go") => `(tactic| simp -implicitDefEqProofs only [q_lit, q_nil, q_cons, q_var, q_bin, q_tup, q_lst, q_box, q_neg, q_notT, q_andT, q_orT, q_notV, q_andV, q_orV, q_if, q_B, q_ix, q_call, q_bi, q_sl, q_oNone, q_oSome, q_dk, q_dt, q_yesT, q_get2,
  q_lc, q_iExp, q_iVar, q_iEnV, items_tup, items_lst, q_seq, q_skip, q_ret, q_retV, q_ifS, q_asg, q_drop, q_for, q_tName, q_tTup, q_tCons, q_tNil, q_fz, q_frzE, q_app, q_aug, q_setIx, q_wipe0, q_wipe, fin_rt, fin_nx,
  mut_non, mut_bl, mut_int, mut_str, mut_tup, mut_lst, mut_dk, mut_dt, mut_scr, mut_cel, sto_non, sto_bl, sto_int, sto_str, sto_tup, sto_scr, sto_cel, sto_own, sto_frz, md_non, md_bl, md_int, md_str, md_tup, md_lst, md_dk, md_dt, md_scr, md_cel,
  gAdd_int, gAddI_int, gSub_int, gLt_int, gLe_int, gGt_int, gGe_int, gInt_int, gInt_bl, gLen_tup, gLen_lst, gTuple_lst, gTuple_tup, gList_scr, gList_lst, gList_tup, gIx_tup, gIx_lst, gEq_int, gEq_bl, atI_0, atI_1, atI_2, atI_3, atI_4,
  bnd_some, Option.map_some, Option.bind_some, List.getElem?_cons_succ, List.getElem?_cons_zero, List.set_cons_succ, List.set_cons_zero, List.foldl_cons, List.foldl_nil, List.map_cons, List.map_nil, List.length_map, List.length_cons, List.length_nil, List.all_cons, List.all_nil, Bool.and_true, Bool.true_and, and_true, true_and, false_and, and_false,
  size_le, size_lt', Nat.reduceAdd, Nat.reduceLeDiff, Nat.zero_add, ne_eq, decide_eq_true_eq, Int.reduceEq, Int.reduceLT, Int.reduceLE, Int.reduceNeg, decide_true, decide_false, Bool.false_bne, Bool.true_bne, Bool.not_true, Bool.not_false, reduceCtorEq, if_false, if_true, ite_true, ite_false, Bool.false_eq_true, *])
def at' (p : List Int) (v : Int) : Int := p.getD v.toNat 0
def tsum (ts : Tm) (p : List Int) : Int := ts.foldl (fun s t => s + t.2 * p.getD t.1.toNat 0) 0
def litH (l : Ltl) (p : List Int) : Bool := rlH l.r (at' p l.v) l.a
theorem at_pt {p : List Int} {v : Int} (h0 : 0 ≤ v) (h1 : v < p.length) : atI (p.map W.int) v = some (.int (p.getD v.toNat 0)) := by
  rw [atI_of h0, List.getElem?_map]
  have h : v.toNat < p.length := by omega
  rw [List.getElem?_eq_getElem h, List.getD_eq_getElem?_getD, List.getElem?_eq_getElem h]
  rfl
theorem law_sum_ok {ts : Tm} {p : List Int} (S : Store) (h : TmOk p.length ts) : m_law_sum [encT ts, encP p] S = some ((.int (tsum ts p), .frz), S) := by
  unfold m_law_sum
  rw [cFn_run (by rfl)]
  show fin (c_law_sum [some (encT ts, .brw), some (encP p, .brw), none, none, none] S) = _
  unfold c_law_sum encT encP
  walk_at "ev"
  obtain ⟨ρ2, S2, e, hI⟩ := for_fold (enc := fun p : Int × Int => .tup [.int p.1, .int p.2]) (st := fun s (t : Int × Int) => s + t.2 * p.getD t.1.toNat 0)
    (t := tTup 2 (tCons (tName 3) (tCons (tName 4) tNil))) (b := cAsg (tName 2) (cBin gAdd (cVar 2) (cBin gMul (cVar 4) (cIx (cVar 1) (cVar 3)))))
    (fun s ρ S' => S' = S ∧ ∃ x3 x4, ρ = [some (encT ts, .brw), some (encP p, .brw), some (.int s, .frz), x3, x4]) (xs := ts) (s := 0) (fun t ht s ρ S' hi => by
      obtain ⟨rfl, x3, x4, rfl⟩ := hi
      obtain ⟨h0, h1, h2, h3⟩ := h.2 t ht
      refine ⟨_, _, _, by walk_at "ev"; rfl, ?_, rfl, some (.int t.1, .frz), some (.int t.2, .frz), rfl⟩
      unfold encP
      walk_at "ev"
      rw [at_pt h0 h1]
      walk_at "ev"
      rw [gMul_int (.inl (by omega))]
      walk_at "ev") ⟨rfl, none, none, rfl⟩
  obtain ⟨rfl, x3, x4, rfl⟩ := hI
  unfold encT encP at e
  rw [e]
  walk_at "ev"
  rfl


theorem ix_P {p : List Int} {v : Int} (S : Store) (h0 : 0 ≤ v) (h1 : v < p.length) : gIx S (encP p) (.int v) = some (.int (at' p v)) := at_pt h0 h1
theorem lit_ok {l : Ltl} {p : List Int} (S : Store) (h : LOk p.length l) : m_law_lit [encL l, encP p] S = some ((.bl (litH l p), .own), S) := by
  have e1 : gIx S (encL l) (.int 0) = some (.int l.v) := rfl
  have e2 : gIx S (encL l) (.int 1) = some (.str (rlS l.r)) := rfl
  have e3 : gIx S (encL l) (.int 2) = some (.int l.a) := rfl
  have e4 := ix_P S h.1 h.2
  have e5 := rel_ok l.r (at' p l.v) l.a S
  unfold m_law_lit
  rw [cFn_run (by rfl)]
  show fin (c_law_lit [some (encL l, .brw), some (encP p, .brw)] S) = _
  unfold c_law_lit
  walk_at "go"
  rfl
theorem toDs_ints : ∀ p : List Int, toDs (p.map .int) = some (p.map .int)
  | [] => rfl
  | x :: p => by
    rw [List.map_cons, List.map_cons]
    unfold toDs
    rw [toDs_ints p]
    rfl
theorem eqvAll_ints : ∀ a b : List Int, PyData.eqvAll (a.map .int) (b.map .int) = decide (a = b)
  | [], [] => rfl
  | [], _ :: _ => rfl
  | _ :: _, [] => rfl
  | x :: a, y :: b => by
    rw [List.map_cons, List.map_cons]
    show (PyData.eqv (.int x) (.int y) && PyData.eqvAll _ _) = _
    rw [eqvAll_ints a b]
    show ((x == y) && _) = _
    by_cases h1 : x = y <;> by_cases h2 : a = b <;> simp [h1, h2]
theorem eqW_P (a b : List Int) : eqW (encP a) (encP b) = decide (a = b) := by
  unfold eqW encP toD
  rw [toDs_ints, toDs_ints]
  exact eqvAll_ints a b
/-- a loop that carries a state and may leave -/
def leaves {A B : Type} (st : B → A → B) (lv : B → A → Bool) : B → List A → Bool
  | _, [] => false
  | s, x :: xs => lv s x || leaves st lv (st s x) xs
theorem for_until {A B : Type} {t : CG} {b : CS} {enc : A → W} {st : B → A → B} {lv : B → A → Bool} {r : Wm} (I : B → List A → Mp.Env → Store → Prop)
    (h : ∀ x xs s ρ S, I s (x :: xs) ρ S → ∃ ρ1, t (enc x, .frz) ρ = some ρ1 ∧ ((lv s x = true ∧ b ρ1 S = some (.rt r S)) ∨ (lv s x = false ∧ ∃ ρ2 S2, b ρ1 S = some (.nx ρ2 S2) ∧ I (st s x) xs ρ2 S2))) : ∀ {xs : List A} {s : B} {ρ : Mp.Env} {S : Store}, I s xs ρ S →
      (leaves st lv s xs = true ∧ ∃ s2 us ρ2 S2, I s2 us ρ2 S2 ∧ cForL t b (xs.map enc) ρ S = some (.rt r S2)) ∨ (leaves st lv s xs = false ∧ ∃ ρ2 S2, cForL t b (xs.map enc) ρ S = some (.nx ρ2 S2) ∧ I (xs.foldl st s) [] ρ2 S2)
  | [], s, ρ, S, h => .inr ⟨rfl, ρ, S, rfl, h⟩
  | x :: xs, s, ρ, S, hi => by
    obtain ⟨ρ1, h1, h2⟩ := h x xs s ρ S hi
    rw [List.map_cons, for_cons, h1]
    unfold leaves
    rcases h2 with ⟨hp, h2⟩ | ⟨hp, ρ2, S2, h2, h3⟩
    · exact .inl ⟨by rw [hp]; rfl, s, x :: xs, ρ, S, hi, by simp only [h2]⟩
    · simp only [h2, hp, Bool.false_or]
      exact for_until I h h3
end Lg
/-! where a body holds, by the law's own reading (printed by mklm.py) -/
namespace Lg
open PySem PySem.Spec PyProof.Rows L2 Mp
theorem md_encT (ts : Tm) (m : Md) : md (encT ts, m) = (encT ts, .frz) := rfl
theorem md_encP (p : List Int) (m : Md) : md (encP p, m) = (encP p, .frz) := rfl
theorem md_encL (l : Ltl) (m : Md) : md (encL l, m) = (encL l, .frz) := rfl
theorem md_encB (b : Bd) (m : Md) : md (encB b, m) = (encB b, .frz) := by cases b <;> rfl
theorem sto_encT (ts : Tm) (m : Md) : sto (encT ts, m) = true := rfl
theorem sto_encP (p : List Int) (m : Md) : sto (encP p, m) = true := rfl
theorem sto_encL (l : Ltl) (m : Md) : sto (encL l, m) = true := rfl
theorem sto_encB (b : Bd) (m : Md) : sto (encB b, m) = true := by cases b <;> rfl
local macro_rules | `(tactic| walk_at "ev") => `(tactic| simp -implicitDefEqProofs only [q_lit, q_nil, q_cons, q_var, q_bin, q_tup, q_lst, q_box, q_neg, q_notT, q_andT, q_orT, q_notV, q_andV, q_orV, q_if, q_B, q_ix, q_call, q_bi, q_sl, q_oNone, q_oSome, q_dk, q_dt, q_yesT, q_get2,
  q_lc, q_iExp, q_iVar, q_iEnV, items_tup, items_lst, q_seq, q_skip, q_ret, q_retV, q_ifS, q_asg, q_drop, q_for, q_tName, q_tTup, q_tCons, q_tNil, q_fz, q_frzE, q_app, q_aug, q_setIx, q_wipe0, q_wipe, fin_rt, fin_nx,
  mut_non, mut_bl, mut_int, mut_str, mut_tup, mut_lst, mut_dk, mut_dt, mut_scr, mut_cel, sto_non, sto_bl, sto_int, sto_str, sto_tup, sto_scr, sto_cel, sto_own, sto_frz, md_non, md_bl, md_int, md_str, md_tup, md_lst, md_dk, md_dt, md_scr, md_cel,
  gAdd_int, gAddI_int, gSub_int, gLt_int, gLe_int, gGt_int, gGe_int, gInt_int, gInt_bl, gLen_tup, gLen_lst, gTuple_lst, gTuple_tup, gList_scr, gList_lst, gList_tup, gIx_tup, gIx_lst, gEq_int, gEq_bl, atI_0, atI_1, atI_2, atI_3, atI_4,
  bnd_some, Option.map_some, Option.bind_some, List.getElem?_cons_succ, List.getElem?_cons_zero, List.set_cons_succ, List.set_cons_zero, List.foldl_cons, List.foldl_nil, List.map_cons, List.map_nil, List.length_map, List.length_cons, List.length_nil, List.all_cons, List.all_nil, Bool.and_true, Bool.true_and, and_true, true_and, false_and, and_false,
  size_le, size_lt', Nat.reduceAdd, Nat.reduceLeDiff, Nat.zero_add, ne_eq, decide_eq_true_eq, Int.reduceEq, Int.reduceLT, Int.reduceLE, Int.reduceNeg, decide_true, decide_false, Bool.false_bne, Bool.true_bne, Bool.not_true, Bool.not_false, md_encT, md_encP, md_encL, md_encB, sto_encT, sto_encP, sto_encL, sto_encB, reduceCtorEq, if_false, if_true, ite_true, ite_false, Bool.false_eq_true])
local macro_rules | `(tactic| walk_at "go") => `(tactic| simp -implicitDefEqProofs only [q_lit, q_nil, q_cons, q_var, q_bin, q_tup, q_lst, q_box, q_neg, q_notT, q_andT, q_orT, q_notV, q_andV, q_orV, q_if, q_B, q_ix, q_call, q_bi, q_sl, q_oNone, q_oSome, q_dk, q_dt, q_yesT, q_get2,
  q_lc, q_iExp, q_iVar, q_iEnV, items_tup, items_lst, q_seq, q_skip, q_ret, q_retV, q_ifS, q_asg, q_drop, q_for, q_tName, q_tTup, q_tCons, q_tNil, q_fz, q_frzE, q_app, q_aug, q_setIx, q_wipe0, q_wipe, fin_rt, fin_nx,
  mut_non, mut_bl, mut_int, mut_str, mut_tup, mut_lst, mut_dk, mut_dt, mut_scr, mut_cel, sto_non, sto_bl, sto_int, sto_str, sto_tup, sto_scr, sto_cel, sto_own, sto_frz, md_non, md_bl, md_int, md_str, md_tup, md_lst, md_dk, md_dt, md_scr, md_cel,
  gAdd_int, gAddI_int, gSub_int, gLt_int, gLe_int, gGt_int, gGe_int, gInt_int, gInt_bl, gLen_tup, gLen_lst, gTuple_lst, gTuple_tup, gList_scr, gList_lst, gList_tup, gIx_tup, gIx_lst, gEq_int, gEq_bl, atI_0, atI_1, atI_2, atI_3, atI_4,
  bnd_some, Option.map_some, Option.bind_some, List.getElem?_cons_succ, List.getElem?_cons_zero, List.set_cons_succ, List.set_cons_zero, List.foldl_cons, List.foldl_nil, List.map_cons, List.map_nil, List.length_map, List.length_cons, List.length_nil, List.all_cons, List.all_nil, Bool.and_true, Bool.true_and, and_true, true_and, false_and, and_false,
  size_le, size_lt', Nat.reduceAdd, Nat.reduceLeDiff, Nat.zero_add, ne_eq, decide_eq_true_eq, Int.reduceEq, Int.reduceLT, Int.reduceLE, Int.reduceNeg, decide_true, decide_false, Bool.false_bne, Bool.true_bne, Bool.not_true, Bool.not_false, md_encT, md_encP, md_encL, md_encB, sto_encT, sto_encP, sto_encL, sto_encB, reduceCtorEq, if_false, if_true, ite_true, ite_false, Bool.false_eq_true, *])

inductive Kd where | row | any | whn | dif | tab | ele | tim
deriving DecidableEq
def kdS : Kd → Str
  | .row => "row" | .any => "any" | .whn => "when" | .dif => "different" | .tab => "table" | .ele => "element" | .tim => "times"
def kdOf : Bd → Kd
  | .row .. => .row | .any .. => .any | .whn .. => .whn | .dif .. => .dif | .tab .. => .tab | .ele .. => .ele | .tim .. => .tim
theorem kd_ok (k : Kd) : PyData.strOk (kdS k) = true := by cases k <;> decide +kernel
theorem kd_eq (k k' : Kd) : gEq false (.str (kdS k)) (.str (kdS k')) = some (.bl (decide (k = k'))) := by
  rw [gEq_str (kd_ok k) (kd_ok k')]
  have : decide (kdS k = kdS k') = decide (k = k') := by cases k <;> cases k' <;> decide +kernel
  rw [this, Bool.false_bne]
theorem g0 (S : Store) (b : Bd) : gIx S (encB b) (.int 0) = some (.str (kdS (kdOf b))) := by cases b <;> rfl
def bdH : Bd → List Int → Bool
  | .row ts r b, p => rlH r (tsum ts p) b
  | .any ls, p => ls.any fun l => litH l p
  | .whn l ts r b, p => !litH l p || rlH r (tsum ts p) b
  | .dif vs, p => !leaves (fun s v => s ++ [at' p v]) (fun s v => decide (at' p v ∈ s)) ([] : List Int) vs
  | .tab vs rows, p => decide (vs.map (at' p) ∈ rows)
  | .ele i es j, p => decide (0 ≤ at' p i) && (decide (at' p i < es.length) && decide (at' es (at' p i) = at' p j))
  | .tim x y z, p => decide (at' p x * at' p y = at' p z)
def POk (p : List Int) : Prop := ∀ v ∈ p, -1000000 ≤ v ∧ v ≤ 1000000
theorem at_small {p : List Int} (h : POk p) (v : Int) : -1000000 ≤ at' p v ∧ at' p v ≤ 1000000 := by
  unfold at'
  rw [List.getD_eq_getElem?_getD]
  by_cases hv : v.toNat < p.length
  · rw [List.getElem?_eq_getElem hv]
    exact h _ (List.getElem_mem hv)
  · rw [List.getElem?_eq_none (by omega)]
    simp
theorem lc_at {p : List Int} {vs : List Int} {ρ : Mp.Env} {S : Store} {i j : Nat} {m : Md} (h : ∀ v ∈ vs, 0 ≤ v ∧ v < p.length) (hi : ρ[i]? = some (some (encP p, m))) (hj : j ≠ i) (hl : j < ρ.length) :
    lcL (tName j) tYesT (cIx (cVar i) (cVar j)) ρ (vs.map .int) S = some ((vs.map (at' p)).map .int, S) := by
  rw [lc_map (enc := W.int) (g := fun v => W.int (at' p v)) fun v hv => ⟨ρ.set j (some (.int v, .frz)), .frz, by walk_at "ev", rfl, by
    have a1 : (ρ.set j (some (W.int v, Md.frz)))[i]? = some (some (encP p, m)) := by rw [List.getElem?_set_ne hj]; exact hi
    have a2 : (ρ.set j (some (W.int v, Md.frz)))[j]? = some (some (.int v, .frz)) := List.getElem?_set_self hl
    have a3 := ix_P S (h v hv).1 (h v hv).2
    rw [q_ix, q_var, a1]
    simp only [bnd_some, q_var, a2, a3, Option.map_some], rfl⟩]
  rw [List.map_map]
  rfl
def ht1 : CT :=
  (cB (cBin (gEq false) (cIx (cVar 0) (cLit (.int 0))) (cLit (.str "row"))))
def hb1 : CS :=
  cRet (cCall m_law_rel (cCons (cIx (cVar 0) (cLit (.int 2))) (cCons (cCall m_law_sum (cCons (cIx (cVar 0) (cLit (.int 1))) (cCons (cVar 1) cNil))) (cCons (cIx (cVar 0) (cLit (.int 3))) cNil))))
def ht2 : CT :=
  (cB (cBin (gEq false) (cIx (cVar 0) (cLit (.int 0))) (cLit (.str "any"))))
def hb2 : CS :=
  cRet (cBin (gIn false) (cLit (.bl true)) (cLc (tName 5) (iExp (cIx (cVar 0) (cLit (.int 1)))) tYesT (cCall m_law_lit (cCons (cVar 5) (cCons (cVar 1) cNil))) [5]))
def ht3 : CT :=
  (cB (cBin (gEq false) (cIx (cVar 0) (cLit (.int 0))) (cLit (.str "when"))))
def hb3 : CS :=
  cRet ((cOrV (cNotV (cCall m_law_lit (cCons (cIx (cVar 0) (cLit (.int 1))) (cCons (cVar 1) cNil)))) (cCall m_law_rel (cCons (cIx (cVar 0) (cLit (.int 3))) (cCons (cCall m_law_sum (cCons (cIx (cVar 0) (cLit (.int 2))) (cCons (cVar 1) cNil))) (cCons (cIx (cVar 0) (cLit (.int 4))) cNil))))))
def ht4 : CT :=
  (cB (cBin (gEq false) (cIx (cVar 0) (cLit (.int 0))) (cLit (.str "different"))))
def hb4 : CS :=
  cSeq (cAsg (tName 2) (cLst cNil))
  (cSeq (cFor (tName 3) (iExp (cIx (cVar 0) (cLit (.int 1)))) (cSeq (cIfS (cB (cBin (gIn false) (cIx (cVar 1) (cVar 3)) (cVar 2))) (cRet (cLit (.bl false))) (cSkip))
  (cApp 2 (cIx (cVar 1) (cVar 3)))))
  (cRet (cLit (.bl true))))
def ht5 : CT :=
  (cB (cBin (gEq false) (cIx (cVar 0) (cLit (.int 0))) (cLit (.str "table"))))
def hb5 : CS :=
  cRet (cBin (gIn false) (cBi gTuple (cCons (cLc (tName 3) (iExp (cIx (cVar 0) (cLit (.int 1)))) tYesT (cIx (cVar 1) (cVar 3)) [3]) cNil)) (cIx (cVar 0) (cLit (.int 2))))
def ht6 : CT :=
  (cB (cBin (gEq false) (cIx (cVar 0) (cLit (.int 0))) (cLit (.str "element"))))
def hb6 : CS :=
  cSeq (cAsg (tName 4) (cIx (cVar 1) (cIx (cVar 0) (cLit (.int 1)))))
  (cRet ((cAndV (cBin gGe (cVar 4) (cLit (.int 0))) (cAndV (cBin gLt (cVar 4) (cBi gLen (cCons (cIx (cVar 0) (cLit (.int 2))) cNil))) (cBin (gEq false) (cIx (cIx (cVar 0) (cLit (.int 2))) (cVar 4)) (cIx (cVar 1) (cIx (cVar 0) (cLit (.int 3)))))))))
def hb7 : CS :=
  cRet (cBin (gEq false) (cBin gMul (cIx (cVar 1) (cIx (cVar 0) (cLit (.int 1)))) (cIx (cVar 1) (cIx (cVar 0) (cLit (.int 2))))) (cIx (cVar 1) (cIx (cVar 0) (cLit (.int 3)))))
theorem holds_seq : c_law_holds = cSeq (cIfS ht1 hb1 cSkip) (cSeq (cIfS ht2 hb2 cSkip) (cSeq (cIfS ht3 hb3 cSkip) (cSeq (cIfS ht4 hb4 cSkip) (cSeq (cIfS ht5 hb5 cSkip) (cSeq (cIfS ht6 hb6 cSkip) (hb7)))))) := rfl
theorem ht1_ok (b : Bd) (p : List Int) (S : Store) : ht1 [some (encB b, .brw), some (encP p, .brw), none, none, none, none] S = some (decide (kdOf b = .row), S) := by
  have h := kd_eq (kdOf b) .row
  have h : gEq false (.str (kdS (kdOf b))) (.str "row") = _ := h
  have h0 := g0 S b
  unfold ht1
  walk_at "go"
theorem ht2_ok (b : Bd) (p : List Int) (S : Store) : ht2 [some (encB b, .brw), some (encP p, .brw), none, none, none, none] S = some (decide (kdOf b = .any), S) := by
  have h := kd_eq (kdOf b) .any
  have h : gEq false (.str (kdS (kdOf b))) (.str "any") = _ := h
  have h0 := g0 S b
  unfold ht2
  walk_at "go"
theorem ht3_ok (b : Bd) (p : List Int) (S : Store) : ht3 [some (encB b, .brw), some (encP p, .brw), none, none, none, none] S = some (decide (kdOf b = .whn), S) := by
  have h := kd_eq (kdOf b) .whn
  have h : gEq false (.str (kdS (kdOf b))) (.str "when") = _ := h
  have h0 := g0 S b
  unfold ht3
  walk_at "go"
theorem ht4_ok (b : Bd) (p : List Int) (S : Store) : ht4 [some (encB b, .brw), some (encP p, .brw), none, none, none, none] S = some (decide (kdOf b = .dif), S) := by
  have h := kd_eq (kdOf b) .dif
  have h : gEq false (.str (kdS (kdOf b))) (.str "different") = _ := h
  have h0 := g0 S b
  unfold ht4
  walk_at "go"
theorem ht5_ok (b : Bd) (p : List Int) (S : Store) : ht5 [some (encB b, .brw), some (encP p, .brw), none, none, none, none] S = some (decide (kdOf b = .tab), S) := by
  have h := kd_eq (kdOf b) .tab
  have h : gEq false (.str (kdS (kdOf b))) (.str "table") = _ := h
  have h0 := g0 S b
  unfold ht5
  walk_at "go"
theorem ht6_ok (b : Bd) (p : List Int) (S : Store) : ht6 [some (encB b, .brw), some (encP p, .brw), none, none, none, none] S = some (decide (kdOf b = .ele), S) := by
  have h := kd_eq (kdOf b) .ele
  have h : gEq false (.str (kdS (kdOf b))) (.str "element") = _ := h
  have h0 := g0 S b
  unfold ht6
  walk_at "go"
theorem hb1_ok {ts : Tm} {r : Rl} {c : Int} {p : List Int} (S : Store) (h : TmOk p.length ts) : hb1 [some (encB (.row ts r c), .brw), some (encP p, .brw), none, none, none, none] S = some (.rt (.bl (rlH r (tsum ts p) c), .own) S) := by
  have e1 := law_sum_ok S h
  have e2 := rel_ok r (tsum ts p) c S
  unfold hb1 encB
  walk_at "go"
theorem hb3_ok {l : Ltl} {ts : Tm} {r : Rl} {c : Int} {p : List Int} (S : Store) (h : TmOk p.length ts) (hl : LOk p.length l) : hb3 [some (encB (.whn l ts r c), .brw), some (encP p, .brw), none, none, none, none] S = some (.rt (.bl (!litH l p || rlH r (tsum ts p) c), .own) S) := by
  have e1 := law_sum_ok S h
  have e2 := rel_ok r (tsum ts p) c S
  have e3 := lit_ok S hl
  unfold hb3 encB
  cases hb : litH l p <;> walk_at "go"
  · rfl
  · rfl
theorem hb2_ok {ls : List Ltl} {p : List Int} (S : Store) (h : ∀ l ∈ ls, LOk p.length l) (hlen : ls.length ≤ 60) : hb2 [some (encB (.any ls), .brw), some (encP p, .brw), none, none, none, none] S = some (.rt (.bl (ls.any fun l => litH l p), .own) S) := by
  have e1 : ∀ ρ : Mp.Env, ρ[1]? = some (some (encP p, .brw)) → 5 < ρ.length → lcL (tName 5) tYesT (cCall m_law_lit (cCons (cVar 5) (cCons (cVar 1) cNil))) ρ (ls.map encL) S = some (ls.map fun l => W.bl (litH l p), S) := fun ρ h1 h2 =>
    lc_map (enc := encL) (g := fun l => W.bl (litH l p)) fun l hl => ⟨ρ.set 5 (some (encL l, .frz)), .own, by walk_at "ev", rfl, by
      have a1 : (ρ.set 5 (some (encL l, Md.frz)))[1]? = some (some (encP p, .brw)) := by rw [List.getElem?_set_ne (by decide)]; exact h1
      have a2 : (ρ.set 5 (some (encL l, Md.frz)))[5]? = some (some (encL l, .frz)) := List.getElem?_set_self h2
      have a3 := lit_ok S (h l hl)
      rw [q_call, q_cons, q_var, a2]
      simp only [bnd_some, q_cons, q_nil, q_var, a1, reduceCtorEq, if_false, List.map_cons, List.map_nil, a3], rfl⟩
  have e2 := gIn_ok (neg := false) (a := .bl true) (ws := ls.map fun l => W.bl (litH l p)) rfl (okD_lst (n := 63) fun w hw => by
    obtain ⟨l, _, rfl⟩ := List.mem_map.mp hw
    rfl)
  have e3 : ((ls.map fun l => W.bl (litH l p)).any fun z => eqW z (.bl true)) = ls.any fun l => litH l p := by
    rw [List.any_map]
    congr 1
    funext l
    show (litH l p == true) = litH l p
    cases litH l p <;> rfl
  rw [e3] at e2
  unfold hb2 encB
  walk_at "ev"
  rw [if_pos (size_ok (by omega)), e1 _ rfl (by simp)]
  walk_at "ev"
  rw [e2]
  walk_at "ev"
theorem hb7_ok {x y z : Int} {p : List Int} (S : Store) (hp : POk p) (hx : 0 ≤ x ∧ x < p.length) (hy : 0 ≤ y ∧ y < p.length) (hz : 0 ≤ z ∧ z < p.length) : hb7 [some (encB (.tim x y z), .brw), some (encP p, .brw), none, none, none, none] S = some (.rt (.bl (decide (at' p x * at' p y = at' p z)), .own) S) := by
  have e1 := ix_P S hx.1 hx.2
  have e2 := ix_P S hy.1 hy.2
  have e3 := ix_P S hz.1 hz.2
  have := at_small hp x
  have e4 := gMul_int (i := at' p x) (j := at' p y) (.inl (by omega))
  unfold hb7 encB
  clear this
  walk_at "go"
theorem hb5_ok {vs : List Int} {rows : List (List Int)} {p : List Int} (S : Store) (h : ∀ v ∈ vs, 0 ≤ v ∧ v < p.length) (hlen : vs.length ≤ 60) : hb5 [some (encB (.tab vs rows), .brw), some (encP p, .brw), none, none, none, none] S = some (.rt (.bl (decide (vs.map (at' p) ∈ rows)), .own) S) := by
  have e2 := gIn_tup (neg := false) (a := encP (vs.map (at' p))) (ws := rows.map encP) (okD_tup (n := 63) fun w hw => by
    obtain ⟨l, _, rfl⟩ := List.mem_map.mp hw
    rfl) (okD_tup (n := 63) fun w hw => by
    obtain ⟨l, _, rfl⟩ := List.mem_map.mp hw
    exact okD_tup (n := 62) fun w hw => by
      obtain ⟨l, _, rfl⟩ := List.mem_map.mp hw
      rfl)
  have e3 : ((rows.map encP).any fun z => eqW z (encP (vs.map (at' p)))) = decide (vs.map (at' p) ∈ rows) := by
    rw [List.any_map, Bool.eq_iff_iff, List.any_eq_true, decide_eq_true_eq]
    constructor
    · rintro ⟨x, hx, h⟩
      have h : eqW (encP x) (encP (vs.map (at' p))) = true := h
      rw [eqW_P, decide_eq_true_eq] at h
      rw [← h]; exact hx
    · intro hx
      exact ⟨_, hx, by show eqW (encP _) (encP _) = true; rw [eqW_P, decide_eq_true_eq]⟩
  rw [e3] at e2
  have e5 : itemsOf (encP vs) = some (vs.map .int) := rfl
  unfold hb5 encB
  walk_at "ev"
  rw [e5]
  walk_at "ev"
  rw [if_pos (size_ok (by omega)), lc_at (m := .brw) h rfl (by decide) (by simp)]
  walk_at "ev"
  have e6 : W.tup ((vs.map (at' p)).map .int) = encP (vs.map (at' p)) := rfl
  rw [e6, e2]
  walk_at "ev"
theorem okPs (s : List Int) : okD (.lst (s.map .int)) 64 = true := okD_lst (n := 63) fun w hw => by
  obtain ⟨l, _, rfl⟩ := List.mem_map.mp hw
  rfl
theorem in_ints (neg : Bool) (v : Int) (s : List Int) : gIn neg (.int v) (.lst (s.map .int)) = some (.bl (neg != decide (v ∈ s))) := by
  rw [gIn_ok rfl (okPs s)]
  have : ((s.map W.int).any fun z => eqW z (.int v)) = decide (v ∈ s) := by
    rw [List.any_map, Bool.eq_iff_iff, List.any_eq_true, decide_eq_true_eq]
    constructor
    · rintro ⟨x, hx, h⟩
      have h : eqW (.int x) (.int v) = true := h
      rw [eqW_int, decide_eq_true_eq] at h
      rw [← h]; exact hx
    · intro hx
      exact ⟨_, hx, by show eqW (.int _) (.int _) = true; rw [eqW_int, decide_eq_true_eq]⟩
  rw [this]
theorem hb4_ok {vs : List Int} {p : List Int} (S : Store) (h : ∀ v ∈ vs, 0 ≤ v ∧ v < p.length) (hlen : vs.length ≤ 60) : hb4 [some (encB (.dif vs), .brw), some (encP p, .brw), none, none, none, none] S = some (.rt (.bl (bdH (.dif vs) p), .frz) S) := by
  unfold hb4
  rw [seq_nx (ρ2 := [some (encB (.dif vs), .brw), some (encP p, .brw), some (.lst [], .own), none, none, none]) (S2 := S) (by walk_at "ev")]
  have hit : itemsOf (encP vs) = some (vs.map .int) := rfl
  have key := for_until (xs := vs) (enc := W.int) (st := fun (s : List Int) v => s ++ [at' p v]) (lv := fun s v => decide (at' p v ∈ s)) (s := []) (r := (.bl false, .frz)) (S := S) (ρ := [some (encB (.dif vs), .brw), some (encP p, .brw), some (.lst [], .own), none, none, none])
    (t := (tName 3)) (b := (cSeq (cIfS (cB (cBin (gIn false) (cIx (cVar 1) (cVar 3)) (cVar 2))) (cRet (cLit (.bl false))) (cSkip))
  (cApp 2 (cIx (cVar 1) (cVar 3)))))
    (fun s us ρ S2 => S2 = S ∧ s.length + us.length ≤ 60 ∧ (∀ v ∈ us, 0 ≤ v ∧ v < p.length) ∧ ∃ x3, ρ = [some (encB (.dif vs), .brw), some (encP p, .brw), some (.lst (s.map .int), .own), x3, none, none]) (fun v us s ρ S2 hI => by
      obtain ⟨rfl, hs, hus, x3, rfl⟩ := hI
      rw [List.length_cons] at hs
      obtain ⟨hv0, hv1⟩ := hus v List.mem_cons_self
      have e1 := ix_P S2 hv0 hv1
      have e2 := in_ints false (at' p v) s
      rw [Bool.false_bne] at e2
      refine ⟨[some (encB (.dif vs), .brw), some (encP p, .brw), some (.lst (s.map .int), .own), some (.int v, .frz), none, none], by walk_at "ev", ?_⟩
      by_cases hm : at' p v ∈ s
      · rw [decide_eq_true hm] at e2 ⊢
        refine .inl ⟨rfl, ?_⟩
        walk_at "go"
      · rw [decide_eq_false hm] at e2 ⊢
        refine .inr ⟨rfl, [some (encB (.dif vs), .brw), some (encP p, .brw), some (.lst ((s ++ [at' p v]).map .int), .own), some (.int v, .frz), none, none], S2, ?_, rfl, by rw [List.length_append]; simp only [List.length_singleton]; omega, fun w hw => hus w (List.mem_cons_of_mem _ hw), some (.int v, .frz), rfl⟩
        have hz : s.length < sizeLine := size_lt (by omega)
        clear hus hs
        walk_at "go"
        rw [List.map_append]
        rfl) ⟨rfl, by simpa using hlen, h, none, rfl⟩
  have hx : iExp (cIx (cVar 0) (cLit (.int 1))) [some (encB (.dif vs), .brw), some (encP p, .brw), some (.lst [], .own), none, none, none] S = some (vs.map .int, S) := by
    unfold encB
    walk_at "go"
  have hd : bdH (.dif vs) p = !leaves (fun s v => s ++ [at' p v]) (fun s v => decide (at' p v ∈ s)) ([] : List Int) vs := rfl
  rcases key with ⟨k1, s2, us, ρ2, S2, ⟨rfl, _⟩, k2⟩ | ⟨k1, ρ2, S2, k2, rfl, _, _, x3, rfl⟩
  · rw [hd, k1, q_seq, q_for, hx]
    dsimp only [bnd_some]
    rw [k2]
    rfl
  · rw [hd, k1, q_seq, q_for, hx]
    dsimp only [bnd_some]
    rw [k2]
    walk_at "ev"
theorem hb6_ok {i j : Int} {es : List Int} {p : List Int} (S : Store) (hi : 0 ≤ i ∧ i < p.length) (hj : 0 ≤ j ∧ j < p.length) : ∃ m, hb6 [some (encB (.ele i es j), .brw), some (encP p, .brw), none, none, none, none] S = some (.rt (.bl (bdH (.ele i es j) p), m) S) := by
  have e1 := ix_P S hi.1 hi.2
  have e2 := ix_P S hj.1 hj.2
  have e4 : gLen S [encP es] = some (.int es.length) := by
    unfold encP
    rw [gLen_tup, List.length_map]
  unfold hb6 encB
  by_cases h0 : 0 ≤ at' p i
  · by_cases h1 : at' p i < es.length
    · have e3 := ix_P (p := es) S h0 h1
      refine ⟨.own, ?_⟩
      walk_at "go"
      simp only [decide_eq_true h0, decide_eq_true h1, if_true, bdH, Bool.true_and]
    · refine ⟨.own, ?_⟩
      walk_at "go"
      simp only [decide_eq_true h0, decide_eq_false h1, if_true, Bool.false_eq_true, if_false, bdH, Bool.true_and, Bool.false_and]
  · refine ⟨.own, ?_⟩
    walk_at "go"
    simp only [decide_eq_false h0, Bool.false_eq_true, if_false, bdH, Bool.false_and]
theorem VsOk.in {n : Nat} {vs : List Int} (h : VsOk n vs) : ∀ v ∈ vs, 0 ≤ v ∧ v < n := h.2.2
theorem holds_ok {b : Bd} {p : List Int} (S : Store) (hb : BOk p.length b) (hp : POk p) : ∃ m, m_law_holds [encB b, encP p] S = some ((.bl (bdH b p), m), S) := by
  suffices h : ∃ m, c_law_holds [some (encB b, .brw), some (encP p, .brw), none, none, none, none] S = some (.rt (.bl (bdH b p), m) S) by
    obtain ⟨m, h⟩ := h
    refine ⟨m, ?_⟩
    unfold m_law_holds
    rw [cFn_run (by rfl)]
    show fin (c_law_holds [some (encB b, .brw), some (encP p, .brw), none, none, none, none] S) = _
    rw [h, fin_rt, sto_bl, if_pos rfl]
  rw [holds_seq]
  cases b with
  | row ts r c =>
    exact ⟨_, seq_if_t (t := ht1) (by rw [ht1_ok]; rfl) (hb1_ok S hb.1)⟩
  | any ls =>
    rw [seq_if_f (t := ht1) (by rw [ht1_ok]; rfl)]
    exact ⟨_, seq_if_t (t := ht2) (by rw [ht2_ok]; rfl) (hb2_ok S hb.2.2 hb.2.1)⟩
  | whn l ts r c =>
    rw [seq_if_f (t := ht1) (by rw [ht1_ok]; rfl), seq_if_f (t := ht2) (by rw [ht2_ok]; rfl)]
    exact ⟨_, seq_if_t (t := ht3) (by rw [ht3_ok]; rfl) (hb3_ok S hb.2.1 hb.1)⟩
  | dif vs =>
    rw [seq_if_f (t := ht1) (by rw [ht1_ok]; rfl), seq_if_f (t := ht2) (by rw [ht2_ok]; rfl), seq_if_f (t := ht3) (by rw [ht3_ok]; rfl)]
    exact ⟨_, seq_if_t (t := ht4) (by rw [ht4_ok]; rfl) (hb4_ok S hb.in hb.1)⟩
  | tab vs rows =>
    rw [seq_if_f (t := ht1) (by rw [ht1_ok]; rfl), seq_if_f (t := ht2) (by rw [ht2_ok]; rfl), seq_if_f (t := ht3) (by rw [ht3_ok]; rfl), seq_if_f (t := ht4) (by rw [ht4_ok]; rfl)]
    exact ⟨_, seq_if_t (t := ht5) (by rw [ht5_ok]; rfl) (hb5_ok S hb.1.in hb.1.1)⟩
  | ele i es j =>
    rw [seq_if_f (t := ht1) (by rw [ht1_ok]; rfl), seq_if_f (t := ht2) (by rw [ht2_ok]; rfl), seq_if_f (t := ht3) (by rw [ht3_ok]; rfl), seq_if_f (t := ht4) (by rw [ht4_ok]; rfl), seq_if_f (t := ht5) (by rw [ht5_ok]; rfl)]
    obtain ⟨m, e⟩ := hb6_ok (es := es) S hb.1 hb.2.1
    exact ⟨m, seq_if_t (t := ht6) (by rw [ht6_ok]; rfl) e⟩
  | tim x y z =>
    rw [seq_if_f (t := ht1) (by rw [ht1_ok]; rfl), seq_if_f (t := ht2) (by rw [ht2_ok]; rfl), seq_if_f (t := ht3) (by rw [ht3_ok]; rfl), seq_if_f (t := ht4) (by rw [ht4_ok]; rfl), seq_if_f (t := ht5) (by rw [ht5_ok]; rfl), seq_if_f (t := ht6) (by rw [ht6_ok]; rfl)]
    exact ⟨_, hb7_ok S hp hb.1 hb.2.1 hb.2.2⟩
end Lg
/-! models as the laws draw them (printed by mkln.py) -/
namespace Lg
open PySem PySem.Spec PyProof.Rows L2 Mp
structure Un where
  nm : Str
  lo : Int
  hi : Int
def encU (u : Un) : W := .tup [.str u.nm, .int u.lo, .int u.hi]
structure Con where
  lab : Str
  b : Bd
def encC (c : Con) : W := .tup [.str c.lab, encB c.b]
structure Gl where
  mx : Bool
  ts : Tm
  c : Int
def snse (b : Bool) : Str := if b then "max" else "min"
def encG (g : Gl) : W := .tup [.str (snse g.mx), encT g.ts, .int g.c]
theorem md_encU (u : Un) (m : Md) : md (encU u, m) = (encU u, .frz) := rfl
theorem md_encC (u : Con) (m : Md) : md (encC u, m) = (encC u, .frz) := rfl
theorem md_encG (u : Gl) (m : Md) : md (encG u, m) = (encG u, .frz) := rfl
theorem sto_encU (u : Un) (m : Md) : sto (encU u, m) = true := rfl
theorem sto_encC (u : Con) (m : Md) : sto (encC u, m) = true := rfl
theorem sto_encG (u : Gl) (m : Md) : sto (encG u, m) = true := rfl
local macro_rules | `(tactic| walk_at "ev") => `(tactic| simp -implicitDefEqProofs only [q_lit, q_nil, q_cons, q_var, q_bin, q_tup, q_lst, q_box, q_neg, q_notT, q_andT, q_orT, q_notV, q_andV, q_orV, q_if, q_B, q_ix, q_call, q_bi, q_sl, q_oNone, q_oSome, q_dk, q_dt, q_yesT, q_get2,
  q_lc, q_iExp, q_iVar, q_iEnV, items_tup, items_lst, q_seq, q_skip, q_ret, q_retV, q_ifS, q_asg, q_drop, q_for, q_tName, q_tTup, q_tCons, q_tNil, q_fz, q_frzE, q_app, q_aug, q_setIx, q_wipe0, q_wipe, fin_rt, fin_nx,
  mut_non, mut_bl, mut_int, mut_str, mut_tup, mut_lst, mut_dk, mut_dt, mut_scr, mut_cel, sto_non, sto_bl, sto_int, sto_str, sto_tup, sto_scr, sto_cel, sto_own, sto_frz, md_non, md_bl, md_int, md_str, md_tup, md_lst, md_dk, md_dt, md_scr, md_cel,
  gAdd_int, gAddI_int, gSub_int, gLt_int, gLe_int, gGt_int, gGe_int, gInt_int, gInt_bl, gLen_tup, gLen_lst, gTuple_lst, gTuple_tup, gList_scr, gList_lst, gList_tup, gIx_tup, gIx_lst, gEq_int, gEq_bl, atI_0, atI_1, atI_2, atI_3, atI_4,
  bnd_some, Option.map_some, Option.bind_some, List.getElem?_cons_succ, List.getElem?_cons_zero, List.set_cons_succ, List.set_cons_zero, List.foldl_cons, List.foldl_nil, List.map_cons, List.map_nil, List.length_map, List.length_cons, List.length_nil, List.all_cons, List.all_nil, Bool.and_true, Bool.true_and, and_true, true_and, false_and, and_false,
  size_le, size_lt', Nat.reduceAdd, Nat.reduceLeDiff, Nat.zero_add, ne_eq, decide_eq_true_eq, Int.reduceEq, Int.reduceLT, Int.reduceLE, Int.reduceNeg, decide_true, decide_false, Bool.false_bne, Bool.true_bne, Bool.not_true, Bool.not_false, md_encT, md_encP, md_encL, md_encB, sto_encT, sto_encP, sto_encL, sto_encB, md_encG, md_encU, md_encC, sto_encG, sto_encU, sto_encC, reduceCtorEq, if_false, if_true, ite_true, ite_false, Bool.false_eq_true])
local macro_rules | `(tactic| walk_at "go") => `(tactic| simp -implicitDefEqProofs only [q_lit, q_nil, q_cons, q_var, q_bin, q_tup, q_lst, q_box, q_neg, q_notT, q_andT, q_orT, q_notV, q_andV, q_orV, q_if, q_B, q_ix, q_call, q_bi, q_sl, q_oNone, q_oSome, q_dk, q_dt, q_yesT, q_get2,
  q_lc, q_iExp, q_iVar, q_iEnV, items_tup, items_lst, q_seq, q_skip, q_ret, q_retV, q_ifS, q_asg, q_drop, q_for, q_tName, q_tTup, q_tCons, q_tNil, q_fz, q_frzE, q_app, q_aug, q_setIx, q_wipe0, q_wipe, fin_rt, fin_nx,
  mut_non, mut_bl, mut_int, mut_str, mut_tup, mut_lst, mut_dk, mut_dt, mut_scr, mut_cel, sto_non, sto_bl, sto_int, sto_str, sto_tup, sto_scr, sto_cel, sto_own, sto_frz, md_non, md_bl, md_int, md_str, md_tup, md_lst, md_dk, md_dt, md_scr, md_cel,
  gAdd_int, gAddI_int, gSub_int, gLt_int, gLe_int, gGt_int, gGe_int, gInt_int, gInt_bl, gLen_tup, gLen_lst, gTuple_lst, gTuple_tup, gList_scr, gList_lst, gList_tup, gIx_tup, gIx_lst, gEq_int, gEq_bl, atI_0, atI_1, atI_2, atI_3, atI_4,
  bnd_some, Option.map_some, Option.bind_some, List.getElem?_cons_succ, List.getElem?_cons_zero, List.set_cons_succ, List.set_cons_zero, List.foldl_cons, List.foldl_nil, List.map_cons, List.map_nil, List.length_map, List.length_cons, List.length_nil, List.all_cons, List.all_nil, Bool.and_true, Bool.true_and, and_true, true_and, false_and, and_false,
  size_le, size_lt', Nat.reduceAdd, Nat.reduceLeDiff, Nat.zero_add, ne_eq, decide_eq_true_eq, Int.reduceEq, Int.reduceLT, Int.reduceLE, Int.reduceNeg, decide_true, decide_false, Bool.false_bne, Bool.true_bne, Bool.not_true, Bool.not_false, md_encT, md_encP, md_encL, md_encB, sto_encT, sto_encP, sto_encL, sto_encB, md_encG, md_encU, md_encC, sto_encG, sto_encU, sto_encC, reduceCtorEq, if_false, if_true, ite_true, ite_false, Bool.false_eq_true, *])
def w1 : CS :=
  cAsg (tName 4) (cLst cNil)
def w2 : CS :=
  cFor (tName 5) (iRange1 (cBin gAdd (cLit (.int 1)) (cCall mDraw (cCons (cVar 0) (cCons (cVar 1) cNil))))) (cSeq (cAsg (tName 9) (cBin Mp.gSub (cCall mDraw (cCons (cVar 0) (cCons (cLit (.int 5)) cNil))) (cLit (.int 2))))
  (cApp 4 (cTup (cCons (cIx (cLst (cCons (cLit (.str "x")) (cCons (cLit (.str "y")) (cCons (cLit (.str "z")) (cCons (cLit (.str "u")) (cCons (cLit (.str "w")) cNil)))))) (cVar 5)) (cCons (cVar 9) (cCons (cBin gAdd (cVar 9) (cCall mDraw (cCons (cVar 0) (cCons (cVar 2) cNil)))) cNil))))))
def w3 : CS :=
  cAsg (tName 6) (cBi gLen (cCons (cVar 4) cNil))
def w4 : CS :=
  cAsg (tName 7) (cLc (tName 10) (iRange1 (cCall mDraw (cCons (cVar 0) (cCons (cBin gAdd (cVar 3) (cLit (.int 1))) cNil)))) tYesT (cTup (cCons (cBin gAdd (cLit (.str "c")) (cBi gStr (cCons (cVar 10) cNil))) (cCons (cCall m_law_body (cCons (cVar 0) (cCons (cVar 6) cNil))) cNil))) [10])
def w5 : CS :=
  cAsg (tName 8) (cTup (cCons (cIx (cLst (cCons (cLit (.str "max")) (cCons (cLit (.str "min")) cNil))) (cCall mDraw (cCons (cVar 0) (cCons (cLit (.int 2)) cNil)))) (cCons (cCall m_law_terms (cCons (cVar 0) (cCons (cVar 6) cNil))) (cCons (cBin Mp.gSub (cCall mDraw (cCons (cVar 0) (cCons (cLit (.int 5)) cNil))) (cLit (.int 2))) cNil))))
def w6 : CS :=
  cIfS (cB (cBin (gEq false) (cCall mDraw (cCons (cVar 0) (cCons (cLit (.int 5)) cNil))) (cLit (.int 0)))) (cAsg (tName 8) (cTup (cCons (cLit (.str "max")) (cCons (cTup cNil) (cCons (cLit (.int 0)) cNil))))) (cSkip)
def w7 : CS :=
  cFz [4, 7] (cRet (cLst (cCons (cVar 4) (cCons (cVar 7) (cCons (cVar 8) cNil)))))
theorem world_seq : c_law_world = cSeq w1 (cSeq w2 (cSeq w3 (cSeq w4 (cSeq w5 (cSeq w6 (w7)))))) := rfl
def nms : List Str := ["x", "y", "z", "u", "w"]
theorem nm_ix {i : Nat} (h : i < 5) : atI [W.str "x", W.str "y", W.str "z", W.str "u", W.str "w"] ((i : Nat) : Int) = some (.str (nms.getD i "")) := by
  have : i = 0 ∨ i = 1 ∨ i = 2 ∨ i = 3 ∨ i = 4 := by omega
  rcases this with rfl | rfl | rfl | rfl | rfl <;> rw [atI_of (by omega)] <;> rfl
theorem snse_ix (d : Int) (h0 : 0 ≤ d) (h1 : d < 2) : atI [W.str "max", W.str "min"] d = some (.str (snse (decide (d = 0)))) := by
  have : d = 0 ∨ d = 1 := by omega
  rcases this with rfl | rfl
  · rw [atI_0]; rfl
  · rw [atI_1]; rfl
def UOk (width : Int) (u : Un) : Prop := -2 ≤ u.lo ∧ u.lo ≤ 2 ∧ u.lo ≤ u.hi ∧ u.hi < u.lo + width
theorem w2_ok {n : Nat} {most width bodies : Int} {S : Store} (tp : TapeAt n S) (hm : 1 ≤ most ∧ most ≤ 5) (hw : 1 ≤ width ∧ width ≤ 1000) :
    ∃ (us : List Un) (x5 x9 : Option (W × Md)) (S2 : Store), w2 [some (.cel n, .brw), some (.int most, .brw), some (.int width, .brw), some (.int bodies, .brw), some (.lst [], .own), none, none, none, none, none, none] S = some (.nx [some (.cel n, .brw), some (.int most, .brw), some (.int width, .brw), some (.int bodies, .brw), some (.lst (us.map encU), .own), x5, none, none, none, x9, none] S2) ∧ 1 ≤ us.length ∧ us.length ≤ most ∧ (∀ u ∈ us, UOk width u) ∧ (us.map (·.nm)) = nms.take us.length ∧ TapeAt n S2 ∧ SameBut n S S2 := by
  obtain ⟨d, S2, e, hd0, hd1, tp2, sb2⟩ := draw_ok (many := most) tp (by omega) (by omega)
  obtain ⟨c, hc⟩ : ∃ c : Nat, 1 + d = ((c : Nat) : Int) := ⟨(1 + d).toNat, by omega⟩
  have hr1 : iRange1 (cBin gAdd (cLit (.int 1)) (cCall mDraw (cCons (cVar 0) (cCons (cVar 1) cNil)))) [some (.cel n, .brw), some (.int most, .brw), some (.int width, .brw), some (.int bodies, .brw), some (.lst [], .own), none, none, none, none, none, none] S = some ((List.range c).map fun k : Nat => W.int ((k : Nat) : Int), S2) := by
    refine rng_ok (m := .own) ?_ (by omega)
    walk_at "go"
  obtain ⟨ρ2, S3, e3, us, x5, x9, rfl, hl, hus, hnm, tp3, sb3⟩ := for_inv (ws := (List.range c).map fun k : Nat => W.int ((k : Nat) : Int)) (t := (tName 5)) (b := (cSeq (cAsg (tName 9) (cBin Mp.gSub (cCall mDraw (cCons (cVar 0) (cCons (cLit (.int 5)) cNil))) (cLit (.int 2))))
  (cApp 4 (cTup (cCons (cIx (cLst (cCons (cLit (.str "x")) (cCons (cLit (.str "y")) (cCons (cLit (.str "z")) (cCons (cLit (.str "u")) (cCons (cLit (.str "w")) cNil)))))) (cVar 5)) (cCons (cVar 9) (cCons (cBin gAdd (cVar 9) (cCall mDraw (cCons (cVar 0) (cCons (cVar 2) cNil)))) cNil)))))))
    (fun i ρ S3 => ∃ (us : List Un) (x5 x9 : Option (W × Md)), ρ = [some (.cel n, .brw), some (.int most, .brw), some (.int width, .brw), some (.int bodies, .brw), some (.lst (us.map encU), .own), x5, none, none, none, x9, none] ∧ us.length = i ∧ (∀ u ∈ us, UOk width u) ∧ (us.map (·.nm)) = nms.take us.length ∧ TapeAt n S3 ∧ SameBut n S S3)
    (fun i w ρ S3 hw' hI => by
      obtain ⟨us, x5, x9, rfl, hl, hus, hnm, tp3, sb3⟩ := hI
      have hi : i < c := by
        have := (List.getElem?_eq_some_iff.mp hw').1
        simpa using this
      rw [List.getElem?_map, List.getElem?_range hi] at hw'
      injection hw' with hw'
      subst hw'
      obtain ⟨lo, S4, e4, hl0, hl1, tp4, sb4⟩ := draw_ok (many := 5) tp3 (by decide) (by decide)
      obtain ⟨wd, S5, e5, hw0, hw1, tp5, sb5⟩ := draw_ok (many := width) tp4 (by omega) (by omega)
      have hi5 : i < 5 := by omega
      have hnx := nm_ix hi5
      have hsz : us.length < sizeLine := size_lt (by omega)
      refine ⟨[some (.cel n, .brw), some (.int most, .brw), some (.int width, .brw), some (.int bodies, .brw), some (.lst (us.map encU), .own), some (.int ((i : Nat) : Int), .frz), none, none, none, x9, none], [some (.cel n, .brw), some (.int most, .brw), some (.int width, .brw), some (.int bodies, .brw), some (.lst ((us ++ [(⟨nms.getD i "", lo - 2, lo - 2 + wd⟩ : Un)]).map encU), .own), some (.int ((i : Nat) : Int), .frz), none, none, none, some (.int (lo - 2), .frz), none], S5, by walk_at "ev", ?_, us ++ [⟨nms.getD i "", lo - 2, lo - 2 + wd⟩], some (.int ((i : Nat) : Int), .frz), some (.int (lo - 2), .frz), rfl, by rw [List.length_append, hl]; rfl, fun u hu => ?_, ?_, tp5, (sb3.trans sb4).trans sb5⟩
      · clear hus hnm hl
        walk_at "go"
        rw [List.map_append]
        rfl
      · rcases List.mem_append.mp hu with h' | h'
        · exact hus u h'
        · rw [List.mem_singleton.mp h']
          exact ⟨by simp only; omega, by simp only; omega, by simp only; omega, by simp only; omega⟩
      · rw [List.map_append, hnm, List.length_append, hl]
        have : i = 0 ∨ i = 1 ∨ i = 2 ∨ i = 3 ∨ i = 4 := by omega
        rcases this with rfl | rfl | rfl | rfl | rfl <;> rfl)
    (ρ := [some (.cel n, .brw), some (.int most, .brw), some (.int width, .brw), some (.int bodies, .brw), some (.lst [], .own), none, none, none, none, none, none]) (S := S2) ⟨[], none, none, rfl, rfl, fun _ h => (by cases h), rfl, tp2, sb2⟩
  rw [List.length_map, List.length_range] at hl
  refine ⟨us, x5, x9, S3, ?_, by omega, by omega, hus, hnm, tp3, sb3⟩
  unfold w2
  rw [q_for, hr1]
  exact e3
theorem str_len : ∀ k < 61, (toString ((k : Nat) : Int) : Str).length ≤ 100 := by decide +kernel
def cLab (k : Nat) : Str := ("c" : Str) ++ (toString ((k : Nat) : Int) : Str)
theorem c_lab {k : Nat} (h : k < 61) : gAdd (.str "c") (.str (toString ((k : Nat) : Int))) = some (.str (cLab k)) := by
  have := str_len k h
  show (if ("c" : Str).length + (toString ((k : Nat) : Int) : Str).length ≤ sizeLine then some (W.str _) else none) = _
  have h1 : ("c" : Str).length = 1 := by decide +kernel
  rw [if_pos (size_ok (by omega))]
  rfl
theorem w4_ok {n : Nat} {most width bodies : Int} {us : List Un} {x5 x9 : Option (W × Md)} {S : Store} (tp : TapeAt n S) (h1 : 1 ≤ us.length) (h5 : us.length ≤ 60) (hb : 0 ≤ bodies ∧ bodies ≤ 60) :
    ∃ (cs : List Con) (S2 : Store), w4 [some (.cel n, .brw), some (.int most, .brw), some (.int width, .brw), some (.int bodies, .brw), some (.lst (us.map encU), .own), x5, some (.int ((us.length : Nat) : Int), .frz), none, none, x9, none] S = some (.nx [some (.cel n, .brw), some (.int most, .brw), some (.int width, .brw), some (.int bodies, .brw), some (.lst (us.map encU), .own), x5, some (.int ((us.length : Nat) : Int), .frz), some (.lst (cs.map encC), .own), none, x9, none] S2) ∧ cs.length ≤ bodies ∧ (∀ c ∈ cs, BOk us.length c.b) ∧ cs.map (·.lab) = (List.range cs.length).map cLab ∧ TapeAt n S2 ∧ SameBut n S S2 := by
  obtain ⟨d, S2, e, hd0, hd1, tp2, sb2⟩ := draw_ok (many := bodies + 1) tp (by omega) (by omega)
  obtain ⟨c, rfl⟩ : ∃ c : Nat, d = ((c : Nat) : Int) := ⟨d.toNat, by omega⟩
  have hr1 : iRange1 (cCall mDraw (cCons (cVar 0) (cCons (cBin gAdd (cVar 3) (cLit (.int 1))) cNil))) [some (.cel n, .brw), some (.int most, .brw), some (.int width, .brw), some (.int bodies, .brw), some (.lst (us.map encU), .own), x5, some (.int ((us.length : Nat) : Int), .frz), none, none, x9, none] S = some ((List.range c).map fun k : Nat => W.int ((k : Nat) : Int), S2) := by
    refine rng_ok (m := .frz) ?_ (by omega)
    walk_at "go"
  obtain ⟨gs, S3, e3, ⟨tp3, sb3⟩, hp⟩ := lc_ex (I := fun S' => TapeAt n S' ∧ SameBut n S S') (R := fun w g => ∃ k : Nat, w = .int ((k : Nat) : Int) ∧ ∃ b, g = encC ⟨cLab k, b⟩ ∧ BOk us.length b) (ws := (List.range c).map fun k : Nat => W.int ((k : Nat) : Int)) (t := (tName 10)) (c := tYesT) (f := (cTup (cCons (cBin gAdd (cLit (.str "c")) (cBi gStr (cCons (cVar 10) cNil))) (cCons (cCall m_law_body (cCons (cVar 0) (cCons (cVar 6) cNil))) cNil))))
    (ρ := wipeE [some (.cel n, .brw), some (.int most, .brw), some (.int width, .brw), some (.int bodies, .brw), some (.lst (us.map encU), .own), x5, some (.int ((us.length : Nat) : Int), .frz), none, none, x9, none] [10]) ⟨tp2, sb2⟩ (fun w hw S3 ⟨tp3, sb3⟩ => by
      obtain ⟨k, hk, rfl⟩ := List.mem_map.mp hw
      have hk := List.mem_range.mp hk
      obtain ⟨b, S4, e4, hb4, tp4, sb4⟩ := body_ok tp3 h1 h5
      have hl := c_lab (k := k) (by omega)
      have hs : gStr S3 [.int ((k : Nat) : Int)] = some (.str (toString ((k : Nat) : Int))) := by
        show (if _ then _ else none) = _
        rw [if_pos (by omega)]
      refine ⟨_, encC ⟨cLab k, b⟩, .own, S4, by walk_at "ev"; rfl, rfl, ?_, rfl, ⟨tp4, sb3.trans sb4⟩, k, rfl, b, rfl, hb4⟩
      clear hb4 hw hk
      walk_at "go"
      rfl)
  have hcs : ∀ (ks : List Nat) (gs : List W), Paired (fun w g => ∃ k : Nat, w = .int ((k : Nat) : Int) ∧ ∃ b, g = encC ⟨cLab k, b⟩ ∧ BOk us.length b) (ks.map fun k : Nat => W.int ((k : Nat) : Int)) gs → ∃ cs : List Con, gs = cs.map encC ∧ cs.map (·.lab) = ks.map cLab ∧ ∀ c ∈ cs, BOk us.length c.b := by
    intro ks
    induction ks with
    | nil => intro gs h; cases h; exact ⟨[], rfl, rfl, fun _ h => absurd h List.not_mem_nil⟩
    | cons k ks ih =>
      intro gs h
      cases h with
      | cons h1 h2 =>
        obtain ⟨k', ek, b, rfl, hb⟩ := h1
        obtain ⟨cs, rfl, e2, e3⟩ := ih _ h2
        have ek : k = k' := by
          injection ek with ek
          omega
        subst ek
        exact ⟨⟨cLab k, b⟩ :: cs, rfl, by rw [List.map_cons, List.map_cons, e2], fun c hc => by
          rcases List.mem_cons.mp hc with h | h
          · rw [h]; exact hb
          · exact e3 c h⟩
  obtain ⟨cs, rfl, hlab, hok⟩ := hcs _ _ hp
  have hcl : cs.length = c := by
    have := congrArg List.length hlab
    simpa using this
  refine ⟨cs, S3, ?_, by omega, hok, by rw [hcl]; exact hlab, tp3, sb3⟩
  unfold w4
  rw [q_asg, q_lc, hr1]
  dsimp only [bnd_some]
  rw [if_pos (size_ok (by rw [List.length_map, List.length_range]; omega)), e3]
  walk_at "ev"
theorem world_ok {n : Nat} {most width bodies : Int} {S : Store} (tp : TapeAt n S) (hm : 1 ≤ most ∧ most ≤ 5) (hw : 1 ≤ width ∧ width ≤ 1000) (hb : 0 ≤ bodies ∧ bodies ≤ 60) :
    ∃ (us : List Un) (cs : List Con) (g : Gl) (S2 : Store), m_law_world [.cel n, .int most, .int width, .int bodies] S = some ((.lst [.lst (us.map encU), .lst (cs.map encC), encG g], .own), S2) ∧ 1 ≤ us.length ∧ us.length ≤ most ∧ (∀ u ∈ us, UOk width u) ∧ (us.map (·.nm)) = nms.take us.length ∧
      cs.length ≤ bodies ∧ (∀ c ∈ cs, BOk us.length c.b) ∧ cs.map (·.lab) = (List.range cs.length).map cLab ∧ TmOk us.length g.ts ∧ -2 ≤ g.c ∧ g.c ≤ 2 ∧ TapeAt n S2 ∧ SameBut n S S2 := by
  obtain ⟨us, x5, x9, S2, e2, hu1, hu2, hus, hnm, tp2, sb2⟩ := w2_ok (bodies := bodies) tp hm hw
  obtain ⟨cs, S3, e3, hc1, hc2, hc3, tp3, sb3⟩ := w4_ok (most := most) (width := width) (x5 := x5) (x9 := x9) tp2 hu1 (by omega) hb
  obtain ⟨d, S4, e4, hd0, hd1, tp4, sb4⟩ := draw_ok (many := 2) tp3 (by decide) (by decide)
  obtain ⟨ts, S5, e5, hts, tp5, sb5⟩ := law_terms_ok (many := us.length) tp4 (by omega)
  obtain ⟨c, S6, e6, hcc0, hcc1, tp6, sb6⟩ := draw_ok (many := 5) tp5 (by decide) (by decide)
  obtain ⟨z, S7, e7, hz0, hz1, tp7, sb7⟩ := draw_ok (many := 5) tp6 (by decide) (by decide)
  have hx := snse_ix d hd0 hd1
  have hsb := ((((sb2.trans sb3).trans sb4).trans sb5).trans sb6).trans sb7
  obtain ⟨g, hg, hgc0, hgc1, e8⟩ : ∃ g : Gl, TmOk us.length g.ts ∧ -2 ≤ g.c ∧ g.c ≤ 2 ∧ w6 [some (.cel n, .brw), some (.int most, .brw), some (.int width, .brw), some (.int bodies, .brw), some (.lst (us.map encU), .own), x5, some (.int ((us.length : Nat) : Int), .frz), some (.lst (cs.map encC), .own), some (encG ⟨decide (d = 0), ts, c - 2⟩, .frz), x9, none] S6 = some (.nx [some (.cel n, .brw), some (.int most, .brw), some (.int width, .brw), some (.int bodies, .brw), some (.lst (us.map encU), .own), x5, some (.int ((us.length : Nat) : Int), .frz), some (.lst (cs.map encC), .own), some (encG g, .frz), x9, none] S7) := by
    by_cases h0 : z = 0
    · refine ⟨⟨true, [], 0⟩, ⟨by simp, fun _ h => absurd h List.not_mem_nil⟩, by simp, by simp, ?_⟩
      subst h0
      unfold w6
      clear hus hnm hc2 hc3 hsb
      walk_at "go"
      rfl
    · refine ⟨⟨decide (d = 0), ts, c - 2⟩, hts.ok (by omega), by simp only; omega, by simp only; omega, ?_⟩
      unfold w6
      clear hus hnm hc2 hc3 hsb
      have h0' : decide (z = 0) = false := decide_eq_false h0
      clear h0
      walk_at "go"
  refine ⟨us, cs, g, S7, ?_, hu1, hu2, hus, hnm, hc1, hc2, hc3, hg, hgc0, hgc1, tp7, hsb⟩
  unfold m_law_world
  rw [cFn_run (by rfl)]
  show fin (c_law_world [some (.cel n, .brw), some (.int most, .brw), some (.int width, .brw), some (.int bodies, .brw), none, none, none, none, none, none, none] S) = _
  rw [world_seq]
  rw [seq_nx (f := w1) (ρ2 := [some (.cel n, .brw), some (.int most, .brw), some (.int width, .brw), some (.int bodies, .brw), some (.lst [], .own), none, none, none, none, none, none]) (S2 := S) (by unfold w1; walk_at "ev"), seq_nx e2]
  rw [seq_nx (f := w3) (ρ2 := [some (.cel n, .brw), some (.int most, .brw), some (.int width, .brw), some (.int bodies, .brw), some (.lst (us.map encU), .own), x5, some (.int ((us.length : Nat) : Int), .frz), none, none, x9, none]) (S2 := S2) (by unfold w3; walk_at "ev"), seq_nx e3]
  rw [seq_nx (f := w5) (ρ2 := [some (.cel n, .brw), some (.int most, .brw), some (.int width, .brw), some (.int bodies, .brw), some (.lst (us.map encU), .own), x5, some (.int ((us.length : Nat) : Int), .frz), some (.lst (cs.map encC), .own), some (encG ⟨decide (d = 0), ts, c - 2⟩, .frz), x9, none]) (S2 := S6) (by unfold w5; clear hus hnm hc2 hc3 hsb e8; walk_at "go"; rfl), seq_nx e8]
  unfold w7
  rw [q_fz, show [4, 7].foldl frzE [some (.cel n, .brw), some (.int most, .brw), some (.int width, .brw), some (.int bodies, .brw), some (.lst (us.map encU), .own), x5, some (.int ((us.length : Nat) : Int), .frz), some (.lst (cs.map encC), .own), some (encG g, .frz), x9, none] = [some (.cel n, .brw), some (.int most, .brw), some (.int width, .brw), some (.int bodies, .brw), some (.lst (us.map encU), .frz), x5, some (.int ((us.length : Nat) : Int), .frz), some (.lst (cs.map encC), .frz), some (encG g, .frz), x9, none] from rfl]
  walk_at "ev"
end Lg
/-! big models as the laws draw them (printed by mklo.py) -/
namespace Lg
open PySem PySem.Spec PyProof.Rows L2 Mp
local macro_rules | `(tactic| walk_at "ev") => `(tactic| simp -implicitDefEqProofs only [q_lit, q_nil, q_cons, q_var, q_bin, q_tup, q_lst, q_box, q_neg, q_notT, q_andT, q_orT, q_notV, q_andV, q_orV, q_if, q_B, q_ix, q_call, q_bi, q_sl, q_oNone, q_oSome, q_dk, q_dt, q_yesT, q_get2,
  q_lc, q_iExp, q_iVar, q_iEnV, items_tup, items_lst, q_seq, q_skip, q_ret, q_retV, q_ifS, q_asg, q_drop, q_for, q_tName, q_tTup, q_tCons, q_tNil, q_fz, q_frzE, q_app, q_aug, q_setIx, q_wipe0, q_wipe, fin_rt, fin_nx,
  mut_non, mut_bl, mut_int, mut_str, mut_tup, mut_lst, mut_dk, mut_dt, mut_scr, mut_cel, sto_non, sto_bl, sto_int, sto_str, sto_tup, sto_scr, sto_cel, sto_own, sto_frz, md_non, md_bl, md_int, md_str, md_tup, md_lst, md_dk, md_dt, md_scr, md_cel,
  gAdd_int, gAddI_int, gSub_int, gLt_int, gLe_int, gGt_int, gGe_int, gInt_int, gInt_bl, gLen_tup, gLen_lst, gTuple_lst, gTuple_tup, gList_scr, gList_lst, gList_tup, gIx_tup, gIx_lst, gEq_int, gEq_bl, atI_0, atI_1, atI_2, atI_3, atI_4,
  bnd_some, Option.map_some, Option.bind_some, List.getElem?_cons_succ, List.getElem?_cons_zero, List.set_cons_succ, List.set_cons_zero, List.foldl_cons, List.foldl_nil, List.map_cons, List.map_nil, List.length_map, List.length_cons, List.length_nil, List.all_cons, List.all_nil, Bool.and_true, Bool.true_and, and_true, true_and, false_and, and_false,
  size_le, size_lt', Nat.reduceAdd, Nat.reduceLeDiff, Nat.zero_add, ne_eq, decide_eq_true_eq, Int.reduceEq, Int.reduceLT, Int.reduceLE, Int.reduceNeg, decide_true, decide_false, Bool.false_bne, Bool.true_bne, Bool.not_true, Bool.not_false, md_encT, md_encP, md_encL, md_encB, sto_encT, sto_encP, sto_encL, sto_encB, md_encG, md_encU, md_encC, sto_encG, sto_encU, sto_encC, reduceCtorEq, if_false, if_true, ite_true, ite_false, Bool.false_eq_true])
local macro_rules | `(tactic| walk_at "go") => `(tactic| simp -implicitDefEqProofs only [q_lit, q_nil, q_cons, q_var, q_bin, q_tup, q_lst, q_box, q_neg, q_notT, q_andT, q_orT, q_notV, q_andV, q_orV, q_if, q_B, q_ix, q_call, q_bi, q_sl, q_oNone, q_oSome, q_dk, q_dt, q_yesT, q_get2,
  q_lc, q_iExp, q_iVar, q_iEnV, items_tup, items_lst, q_seq, q_skip, q_ret, q_retV, q_ifS, q_asg, q_drop, q_for, q_tName, q_tTup, q_tCons, q_tNil, q_fz, q_frzE, q_app, q_aug, q_setIx, q_wipe0, q_wipe, fin_rt, fin_nx,
  mut_non, mut_bl, mut_int, mut_str, mut_tup, mut_lst, mut_dk, mut_dt, mut_scr, mut_cel, sto_non, sto_bl, sto_int, sto_str, sto_tup, sto_scr, sto_cel, sto_own, sto_frz, md_non, md_bl, md_int, md_str, md_tup, md_lst, md_dk, md_dt, md_scr, md_cel,
  gAdd_int, gAddI_int, gSub_int, gLt_int, gLe_int, gGt_int, gGe_int, gInt_int, gInt_bl, gLen_tup, gLen_lst, gTuple_lst, gTuple_tup, gList_scr, gList_lst, gList_tup, gIx_tup, gIx_lst, gEq_int, gEq_bl, atI_0, atI_1, atI_2, atI_3, atI_4,
  bnd_some, Option.map_some, Option.bind_some, List.getElem?_cons_succ, List.getElem?_cons_zero, List.set_cons_succ, List.set_cons_zero, List.foldl_cons, List.foldl_nil, List.map_cons, List.map_nil, List.length_map, List.length_cons, List.length_nil, List.all_cons, List.all_nil, Bool.and_true, Bool.true_and, and_true, true_and, false_and, and_false,
  size_le, size_lt', Nat.reduceAdd, Nat.reduceLeDiff, Nat.zero_add, ne_eq, decide_eq_true_eq, Int.reduceEq, Int.reduceLT, Int.reduceLE, Int.reduceNeg, decide_true, decide_false, Bool.false_bne, Bool.true_bne, Bool.not_true, Bool.not_false, md_encT, md_encP, md_encL, md_encB, sto_encT, sto_encP, sto_encL, sto_encB, md_encG, md_encU, md_encC, sto_encG, sto_encU, sto_encC, reduceCtorEq, if_false, if_true, ite_true, ite_false, Bool.false_eq_true, *])
def c_law_big_unknowns : CS :=
  cSeq (cAsg (tName 3) (cLst (cCons (cCall mDraw (cCons (cVar 0) (cCons (cLit (.int 58)) cNil))) (cCons (cCall mDraw (cCons (cVar 0) (cCons (cLit (.int 31)) cNil))) (cCons (cBin Mp.gSub (cCall mDraw (cCons (cVar 0) (cCons (cLit (.int 61)) cNil))) (cLit (.int 30))) (cCons (cLit (.int 0)) (cCons (cLit (.int 0)) cNil)))))))
  (cSeq (cSetIx 3 (cLit (.int 3)) (cBin gMul (cIx (cVar 3) (cLit (.int 1))) (cIx (cVar 3) (cLit (.int 2)))))
  (cSeq (cSetIx 3 (cLit (.int 4)) (cBin gMod (cBi gInt (cCons (cBin gMul (cIx (cVar 3) (cLit (.int 0))) (cLit (.int 7))) cNil)) (cLit (.int 11))))
  (cSeq (cFor (tName 4) (iRange2 (cLit (.int 5)) (cVar 1)) (cApp 3 (cBin Mp.gSub (cCall mDraw (cCons (cVar 0) (cCons (cLit (.int 1901)) cNil))) (cLit (.int 950)))))
  (cSeq (cAsg (tName 5) (cLc (tName 4) (iRange1 (cVar 1)) tYesT (cTup (cCons (cBin gAdd (cLit (.str "v")) (cBi gStr (cCons (cVar 4) cNil))) (cCons (cIx (cVar 3) (cVar 4)) (cCons (cIx (cVar 3) (cVar 4)) cNil)))) [4]))
  (cSeq (cFor (tName 6) (iRange1 (cBin gAdd (cLit (.int 1)) (cCall mDraw (cCons (cVar 0) (cCons (cVar 2) cNil))))) (cSeq (cAsg (tName 4) (cCall mDraw (cCons (cVar 0) (cCons (cIx (cLst (cCons (cLit (.int 5)) (cCons (cVar 1) cNil))) (cCall mDraw (cCons (cVar 0) (cCons (cLit (.int 2)) cNil)))) cNil))))
  (cSetIx 5 (cVar 4) (cTup (cCons (cIx (cIx (cVar 5) (cVar 4)) (cLit (.int 0))) (cCons (cIx (cVar 3) (cVar 4)) (cCons (cBin gAdd (cBin gAdd (cIx (cVar 3) (cVar 4)) (cLit (.int 1))) (cCall mDraw (cCons (cVar 0) (cCons (cLit (.int 2)) cNil)))) cNil)))))))
  (cSeq (cIfS (cB (cBin (gEq false) (cCall mDraw (cCons (cVar 0) (cCons (cLit (.int 2)) cNil))) (cLit (.int 0)))) (cSeq (cAsg (tName 7) (cBin Mp.gSub (cBin gAdd (cIx (cVar 3) (cCall mDraw (cCons (cVar 0) (cCons (cBin Mp.gSub (cVar 1) (cLit (.int 1))) cNil)))) (cCall mDraw (cCons (cVar 0) (cCons (cLit (.int 3)) cNil)))) (cLit (.int 1))))
  (cSetIx 5 (cBin Mp.gSub (cVar 1) (cLit (.int 1))) (cTup (cCons (cIx (cIx (cVar 5) (cBin Mp.gSub (cVar 1) (cLit (.int 1)))) (cLit (.int 0))) (cCons (cVar 7) (cCons (cVar 7) cNil)))))) (cSkip))
  (cRetV 5)))))))
def m_law_big_unknowns : FnSem := cFn 3 8 c_law_big_unknowns
def c_law_big_linear : CS :=
  cSeq (cAsg (tName 2) (cLst cNil))
  (cSeq (cAsg (tName 3) (cLit (.int 0)))
  (cSeq (cFor (tName 4) (iRange1 (cBi gLen (cCons (cVar 1) cNil))) (cSeq (cAsg (tName 6) (cIx (cLst (cCons (cLit (.int 1)) (cCons (cBin Mp.gSub (cLit (.int 0)) (cLit (.int 1))) (cCons (cLit (.int 3)) (cCons (cBin Mp.gSub (cLit (.int 0)) (cLit (.int 400))) (cCons (cLit (.int 0)) cNil)))))) (cCall mDraw (cCons (cVar 0) (cCons (cLit (.int 5)) cNil)))))
  (cIfS (cB (cBin (gEq true) (cVar 6) (cLit (.int 0)))) (cSeq (cApp 2 (cTup (cCons (cVar 4) (cCons (cVar 6) cNil))))
  (cAsg (tName 3) (cBin gAdd (cVar 3) (cBin gMul (cVar 6) (cIx (cIx (cVar 1) (cVar 4)) (cLit (.int 1))))))) (cSkip))))
  (cSeq (cAsg (tName 5) (cIx (cLst (cCons (cLit (.str "<=")) (cCons (cLit (.str ">=")) (cCons (cLit (.str "=")) cNil)))) (cCall mDraw (cCons (cVar 0) (cCons (cLit (.int 3)) cNil)))))
  (cRet (cTup (cCons (cBi gTuple (cCons (cVar 2) cNil)) (cCons (cVar 5) (cCons (cBin gAdd (cVar 3) (cIx (cLst (cCons (cLit (.int 0)) (cCons (cLit (.int 0)) (cCons (cLit (.int 1)) (cCons (cBin Mp.gSub (cLit (.int 0)) (cLit (.int 1))) (cCons (cLit (.int 400)) cNil)))))) (cCall mDraw (cCons (cVar 0) (cCons (cLit (.int 5)) cNil))))) cNil))))))))
def m_law_big_linear : FnSem := cFn 2 7 c_law_big_linear
def c_law_big_any : CS :=
  cSeq (cAsg (tName 2) (cLst cNil))
  (cSeq (cFor (tName 3) (iRange1 (cBin gAdd (cLit (.int 20)) (cCall mDraw (cCons (cVar 0) (cCons (cLit (.int 21)) cNil))))) (cSeq (cAsg (tName 4) (cCall mDraw (cCons (cVar 0) (cCons (cBi gLen (cCons (cVar 1) cNil)) cNil))))
  (cSeq (cAsg (tName 5) (cIx (cIx (cVar 1) (cVar 4)) (cLit (.int 1))))
  (cSeq (cAsg (tName 6) (cIx (cLst (cCons (cTup (cCons (cVar 4) (cCons (cLit (.str "=")) (cCons (cBin gAdd (cVar 5) (cLit (.int 1))) cNil)))) (cCons (cTup (cCons (cVar 4) (cCons (cLit (.str ">=")) (cCons (cBin gAdd (cVar 5) (cLit (.int 1))) cNil)))) (cCons (cTup (cCons (cVar 4) (cCons (cLit (.str "<=")) (cCons (cBin Mp.gSub (cVar 5) (cLit (.int 1))) cNil)))) (cCons (cTup (cCons (cVar 4) (cCons (cLit (.str "!=")) (cCons (cVar 5) cNil)))) cNil))))) (cCall mDraw (cCons (cVar 0) (cCons (cLit (.int 4)) cNil)))))
  (cIfS (cB (cBin (gIn true) (cVar 6) (cVar 2))) (cApp 2 (cVar 6)) (cSkip))))))
  (cSeq (cIfS (cB (cBin (gEq false) (cCall mDraw (cCons (cVar 0) (cCons (cLit (.int 3)) cNil))) (cLit (.int 0)))) (cSetIx 2 (cCall mDraw (cCons (cVar 0) (cCons (cBi gLen (cCons (cVar 2) cNil)) cNil))) (cTup (cCons (cLit (.int 0)) (cCons (cLit (.str ">=")) (cCons (cIx (cIx (cVar 1) (cLit (.int 0))) (cLit (.int 1))) cNil))))) (cSkip))
  (cRet (cTup (cCons (cLit (.str "any")) (cCons (cBi gTuple (cCons (cVar 2) cNil)) cNil))))))
def m_law_big_any : FnSem := cFn 2 7 c_law_big_any
def c_law_big_table : CS :=
  cSeq (cAsg (tName 2) (cCall mDraw (cCons (cVar 0) (cCons (cIx (cLst (cCons (cLit (.int 1)) (cCons (cBin Mp.gSub (cBi gLen (cCons (cVar 1) cNil)) (cLit (.int 5))) cNil))) (cCall mDraw (cCons (cVar 0) (cCons (cLit (.int 2)) cNil)))) cNil))))
  (cSeq (cAsg (tName 3) (cCall mDraw (cCons (cVar 0) (cCons (cLit (.int 6)) cNil))))
  (cSeq (cAsg (tName 4) (cLc (tName 8) (iRange1 (cLit (.int 6))) tYesT (cBin gAdd (cVar 2) (cBin gMod (cBi gInt (cCons (cBin gAdd (cBin gMul (cVar 8) (cLit (.int 5))) (cVar 3)) cNil)) (cLit (.int 6)))) [8]))
  (cSeq (cFz [4] (cAsg (tName 5) (cLc (tName 10) (iVar 4) tYesT (cIx (cIx (cVar 1) (cVar 10)) (cLit (.int 1))) [10])))
  (cSeq (cAsg (tName 6) (cBin gAdd (cLit (.int 14)) (cCall mDraw (cCons (cVar 0) (cCons (cLit (.int 3)) cNil)))))
  (cSeq (cAsg (tName 7) (cLst cNil))
  (cSeq (cFor (tName 8) (iRange1 (cBin Mp.gSub (cLit (.int 200)) (cCall mDraw (cCons (cVar 0) (cCons (cLit (.int 100)) cNil))))) (cSeq (cAsg (tName 9) (cBin gMod (cBi gInt (cCons (cVar 8) cNil)) (cLit (.int 6))))
  (cApp 7 (cBi gTuple (cCons (cBin gAdd (cBin gAdd (cSl (cVar 5) oNone (oSome (cVar 9))) (cLst (cCons (cBin Mp.gSub (cBin gAdd (cIx (cVar 5) (cVar 9)) (cBin gDiv (cVar 8) (cLit (.int 6)))) (cVar 6)) cNil))) (cSl (cVar 5) (oSome (cBin gAdd (cVar 9) (cLit (.int 1)))) oNone)) cNil)))))
  (cSeq (cIfS (cB (cBin (gEq false) (cCall mDraw (cCons (cVar 0) (cCons (cLit (.int 3)) cNil))) (cLit (.int 0)))) (cFz [7] (cAsg (tName 7) (cLc (tName 11) (iVar 7) (cB (cBin (gEq true) (cBi gList (cCons (cVar 11) cNil)) (cVar 5))) (cVar 11) [11]))) (cSkip))
  (cRet (cTup (cCons (cLit (.str "table")) (cCons (cBi gTuple (cCons (cVar 4) cNil)) (cCons (cBi gTuple (cCons (cVar 7) cNil)) cNil))))))))))))
def m_law_big_table : FnSem := cFn 2 12 c_law_big_table
def c_law_big_body : CS :=
  cSeq (cAsg (tName 2) (cBi gLen (cCons (cVar 1) cNil)))
  (cSeq (cAsg (tName 3) (cCall mDraw (cCons (cVar 0) (cCons (cLit (.int 8)) cNil))))
  (cSeq (cIfS (cB (cBin (gEq false) (cVar 3) (cLit (.int 0)))) (cRet (cCall m_law_big_any (cCons (cVar 0) (cCons (cVar 1) cNil)))) (cSkip))
  (cSeq (cIfS (cB (cBin (gEq false) (cVar 3) (cLit (.int 1)))) (cRet (cCall m_law_big_table (cCons (cVar 0) (cCons (cVar 1) cNil)))) (cSkip))
  (cSeq (cIfS (cB (cBin (gEq false) (cVar 3) (cLit (.int 2)))) (cRet (cTup (cCons (cLit (.str "different")) (cCons (cSl (cCall m_law_some (cCons (cVar 0) (cCons (cVar 2) (cCons (cBi gMin2 (cCons (cLit (.int 20)) (cCons (cVar 2) cNil))) cNil)))) oNone (oSome (cLit (.int 20)))) cNil)))) (cSkip))
  (cSeq (cIfS (cB (cBin (gEq false) (cVar 3) (cLit (.int 3)))) (cSeq (cAsg (tName 6) (cBi gTuple (cCons (cLc (tName 10) (iRange1 (cLit (.int 60))) tYesT (cBin gMod (cBi gInt (cCons (cBin gMul (cVar 10) (cLit (.int 7))) cNil)) (cLit (.int 11))) [10]) cNil)))
  (cRet (cTup (cCons (cLit (.str "element")) (cCons (cLit (.int 0)) (cCons (cVar 6) (cCons (cIx (cLst (cCons (cLit (.int 4)) (cCons (cLit (.int 4)) (cCons (cCall mDraw (cCons (cVar 0) (cCons (cVar 2) cNil))) cNil)))) (cCall mDraw (cCons (cVar 0) (cCons (cLit (.int 3)) cNil)))) cNil))))))) (cSkip))
  (cSeq (cIfS (cB (cBin (gEq false) (cVar 3) (cLit (.int 4)))) (cRet (cTup (cCons (cLit (.str "times")) (cCons (cLit (.int 1)) (cCons (cLit (.int 2)) (cCons (cIx (cLst (cCons (cLit (.int 3)) (cCons (cLit (.int 3)) (cCons (cCall mDraw (cCons (cVar 0) (cCons (cVar 2) cNil))) cNil)))) (cCall mDraw (cCons (cVar 0) (cCons (cLit (.int 3)) cNil)))) cNil)))))) (cSkip))
  (cSeq (cAsg (tTup 3 (tCons (tName 7) (tCons (tName 8) (tCons (tName 9) tNil)))) (cCall m_law_big_linear (cCons (cVar 0) (cCons (cVar 1) cNil))))
  (cSeq (cIfS (cB (cBin gGt (cVar 3) (cLit (.int 5)))) (cRet (cTup (cCons (cLit (.str "row")) (cCons (cVar 7) (cCons (cVar 8) (cCons (cVar 9) cNil)))))) (cSkip))
  (cSeq (cAsg (tName 4) (cCall mDraw (cCons (cVar 0) (cCons (cVar 2) cNil))))
  (cSeq (cAsg (tName 5) (cBin Mp.gSub (cBin gAdd (cIx (cIx (cVar 1) (cVar 4)) (cLit (.int 1))) (cCall mDraw (cCons (cVar 0) (cCons (cLit (.int 3)) cNil)))) (cLit (.int 1))))
  (cRet (cTup (cCons (cLit (.str "when")) (cCons (cTup (cCons (cVar 4) (cCons (cIx (cLst (cCons (cLit (.str "<=")) (cCons (cLit (.str ">=")) (cCons (cLit (.str "=")) (cCons (cLit (.str "!=")) cNil))))) (cCall mDraw (cCons (cVar 0) (cCons (cLit (.int 4)) cNil)))) (cCons (cVar 5) cNil)))) (cCons (cVar 7) (cCons (cVar 8) (cCons (cVar 9) cNil)))))))))))))))))
def m_law_big_body : FnSem := cFn 2 11 c_law_big_body

theorem set_lst {ρ : Mp.Env} {S : Store} {i : Nat} {ws : List W} {v : Int} {w : W} (hr : ρ[i]? = some (some (.lst ws, .own))) (h0 : 0 ≤ v) (h1 : v < ws.length) : setAt ρ S i (.int v) w = some (.nx (ρ.set i (some (.lst (ws.set v.toNat w), .own))) S) := by
  unfold setAt
  rw [hr]
  simp only
  unfold ixN
  rw [if_pos h0, if_pos h1]
  rfl
def u1 : CS :=
  cAsg (tName 3) (cLst (cCons (cCall mDraw (cCons (cVar 0) (cCons (cLit (.int 58)) cNil))) (cCons (cCall mDraw (cCons (cVar 0) (cCons (cLit (.int 31)) cNil))) (cCons (cBin Mp.gSub (cCall mDraw (cCons (cVar 0) (cCons (cLit (.int 61)) cNil))) (cLit (.int 30))) (cCons (cLit (.int 0)) (cCons (cLit (.int 0)) cNil))))))
def u2 : CS :=
  cSetIx 3 (cLit (.int 3)) (cBin gMul (cIx (cVar 3) (cLit (.int 1))) (cIx (cVar 3) (cLit (.int 2))))
def u3 : CS :=
  cSetIx 3 (cLit (.int 4)) (cBin gMod (cBi gInt (cCons (cBin gMul (cIx (cVar 3) (cLit (.int 0))) (cLit (.int 7))) cNil)) (cLit (.int 11)))
def u4 : CS :=
  cFor (tName 4) (iRange2 (cLit (.int 5)) (cVar 1)) (cApp 3 (cBin Mp.gSub (cCall mDraw (cCons (cVar 0) (cCons (cLit (.int 1901)) cNil))) (cLit (.int 950))))
def u5 : CS :=
  cAsg (tName 5) (cLc (tName 4) (iRange1 (cVar 1)) tYesT (cTup (cCons (cBin gAdd (cLit (.str "v")) (cBi gStr (cCons (cVar 4) cNil))) (cCons (cIx (cVar 3) (cVar 4)) (cCons (cIx (cVar 3) (cVar 4)) cNil)))) [4])
def u6 : CS :=
  cFor (tName 6) (iRange1 (cBin gAdd (cLit (.int 1)) (cCall mDraw (cCons (cVar 0) (cCons (cVar 2) cNil))))) (cSeq (cAsg (tName 4) (cCall mDraw (cCons (cVar 0) (cCons (cIx (cLst (cCons (cLit (.int 5)) (cCons (cVar 1) cNil))) (cCall mDraw (cCons (cVar 0) (cCons (cLit (.int 2)) cNil)))) cNil))))
  (cSetIx 5 (cVar 4) (cTup (cCons (cIx (cIx (cVar 5) (cVar 4)) (cLit (.int 0))) (cCons (cIx (cVar 3) (cVar 4)) (cCons (cBin gAdd (cBin gAdd (cIx (cVar 3) (cVar 4)) (cLit (.int 1))) (cCall mDraw (cCons (cVar 0) (cCons (cLit (.int 2)) cNil)))) cNil))))))
def u7 : CS :=
  cIfS (cB (cBin (gEq false) (cCall mDraw (cCons (cVar 0) (cCons (cLit (.int 2)) cNil))) (cLit (.int 0)))) (cSeq (cAsg (tName 7) (cBin Mp.gSub (cBin gAdd (cIx (cVar 3) (cCall mDraw (cCons (cVar 0) (cCons (cBin Mp.gSub (cVar 1) (cLit (.int 1))) cNil)))) (cCall mDraw (cCons (cVar 0) (cCons (cLit (.int 3)) cNil)))) (cLit (.int 1))))
  (cSetIx 5 (cBin Mp.gSub (cVar 1) (cLit (.int 1))) (cTup (cCons (cIx (cIx (cVar 5) (cBin Mp.gSub (cVar 1) (cLit (.int 1)))) (cLit (.int 0))) (cCons (cVar 7) (cCons (cVar 7) cNil)))))) (cSkip)
def u8 : CS :=
  cRetV 5
theorem bigu_seq : c_law_big_unknowns = cSeq u1 (cSeq u2 (cSeq u3 (cSeq u4 (cSeq u5 (cSeq u6 (cSeq u7 (u8))))))) := rfl
def Vok (vs : List Int) : Prop := ∀ v ∈ vs, -1000 ≤ v ∧ v ≤ 1000
theorem u14_ok {n many : Nat} {frees : Int} {S : Store} (tp : TapeAt n S) (h20 : 20 ≤ many) (h60 : many ≤ 60) (g : CS) :
    ∃ (vs : List Int) (x4 : Option (W × Md)) (S2 : Store), cSeq u1 (cSeq u2 (cSeq u3 (cSeq u4 g))) [some (.cel n, .brw), some (.int ((many : Nat) : Int), .brw), some (.int frees, .brw), none, none, none, none, none] S = g [some (.cel n, .brw), some (.int ((many : Nat) : Int), .brw), some (.int frees, .brw), some (.lst (vs.map .int), .own), x4, none, none, none] S2 ∧ vs.length = many ∧ Vok vs ∧ TapeAt n S2 ∧ SameBut n S S2 := by
  obtain ⟨a, S1, ea, ha0, ha1, t1, b1⟩ := draw_ok (many := 58) tp (by decide) (by decide)
  obtain ⟨b, S2, eb, hb0, hb1, t2, b2⟩ := draw_ok (many := 31) t1 (by decide) (by decide)
  obtain ⟨c, S3, ec, hc0, hc1, t3, b3⟩ := draw_ok (many := 61) t2 (by decide) (by decide)
  rw [seq_nx (f := u1) (ρ2 := [some (.cel n, .brw), some (.int ((many : Nat) : Int), .brw), some (.int frees, .brw), some (.lst [.int a, .int b, .int (c - 30), .int 0, .int 0], .own), none, none, none, none]) (S2 := S3) (by unfold u1; walk_at "go")]
  rw [seq_nx (f := u2) (ρ2 := [some (.cel n, .brw), some (.int ((many : Nat) : Int), .brw), some (.int frees, .brw), some (.lst [.int a, .int b, .int (c - 30), .int (b * (c - 30)), .int 0], .own), none, none, none, none]) (S2 := S3) (by
    unfold u2
    have hg : gMul (.int b) (.int (c - 30)) = some (.int (b * (c - 30))) := gMul_int (.inl (by omega))
    rw [q_setIx]
    walk_at "go"
    rw [set_lst rfl (by omega) (by simp)]
    rfl)]
  rw [seq_nx (f := u3) (ρ2 := [some (.cel n, .brw), some (.int ((many : Nat) : Int), .brw), some (.int frees, .brw), some (.lst [.int a, .int b, .int (c - 30), .int (b * (c - 30)), .int (a * 7 % 11)], .own), none, none, none, none]) (S2 := S3) (by
    unfold u3
    have hg : gMul (.int a) (.int 7) = some (.int (a * 7)) := gMul_int (.inl (by omega))
    have hg2 : gMod (.int (a * 7)) (.int 11) = some (.int (a * 7 % 11)) := gMod_int (by omega)
    rw [q_setIx]
    walk_at "go"
    rw [set_lst rfl (by omega) (by simp)]
    rfl)]
  have hbc : -1000 ≤ b * (c - 30) ∧ b * (c - 30) ≤ 1000 := by
    have h1 : b * (c - 30) ≤ b * 30 := Int.mul_le_mul_of_nonneg_left (by omega) hb0
    have h2 : b * (-30) ≤ b * (c - 30) := Int.mul_le_mul_of_nonneg_left (by omega) hb0
    omega
  have hr2 : iRange2 (cLit (.int 5)) (cVar 1) [some (.cel n, .brw), some (.int ((many : Nat) : Int), .brw), some (.int frees, .brw), some (.lst [.int a, .int b, .int (c - 30), .int (b * (c - 30)), .int (a * 7 % 11)], .own), none, none, none, none] S3 = some (rangeW 5 (many - 5), S3) := by
    rw [q_range2, q_lit]
    simp only [bnd_some, q_var, List.getElem?_cons_succ, List.getElem?_cons_zero, reduceCtorEq, if_false]
    rw [if_pos ⟨by decide, by omega⟩, show (((many : Nat) : Int) - 5).toNat = many - 5 by omega]
  obtain ⟨ρ2, S4, e4, vs, x4, rfl, hl, hv, tp4, sb4⟩ := for_inv (ws := rangeW 5 (many - 5)) (t := (tName 4)) (b := (cApp 3 (cBin Mp.gSub (cCall mDraw (cCons (cVar 0) (cCons (cLit (.int 1901)) cNil))) (cLit (.int 950)))))
    (fun i ρ S4 => ∃ (vs : List Int) (x4 : Option (W × Md)), ρ = [some (.cel n, .brw), some (.int ((many : Nat) : Int), .brw), some (.int frees, .brw), some (.lst (vs.map .int), .own), x4, none, none, none] ∧ vs.length = 5 + i ∧ Vok vs ∧ TapeAt n S4 ∧ SameBut n S3 S4)
    (fun i w ρ S4 hw hI => by
      obtain ⟨vs, x4, rfl, hl, hv, tp4, sb4⟩ := hI
      rw [rangeW_get] at hw
      split at hw
      · rename_i hi
        injection hw with hw
        subst hw
        obtain ⟨d, S5, e5, hd0, hd1, tp5, sb5⟩ := draw_ok (many := 1901) tp4 (by decide) (by decide)
        have hsz : vs.length < sizeLine := size_lt (by omega)
        refine ⟨_, [some (.cel n, .brw), some (.int ((many : Nat) : Int), .brw), some (.int frees, .brw), some (.lst ((vs ++ [d - 950]).map .int), .own), some (.int (5 + ((i : Nat) : Int)), .frz), none, none, none], S5, by walk_at "ev"; rfl, ?_, vs ++ [d - 950], some (.int (5 + ((i : Nat) : Int)), .frz), rfl, by rw [List.length_append, hl]; rfl, fun v h' => ?_, tp5, sb4.trans sb5⟩
        · clear hv hl
          walk_at "go"
          rw [List.map_append]
          rfl
        · rcases List.mem_append.mp h' with h' | h'
          · exact hv v h'
          · rw [List.mem_singleton.mp h']; omega
      · cases hw)
    (ρ := [some (.cel n, .brw), some (.int ((many : Nat) : Int), .brw), some (.int frees, .brw), some (.lst [.int a, .int b, .int (c - 30), .int (b * (c - 30)), .int (a * 7 % 11)], .own), none, none, none, none]) (S := S3) ⟨[a, b, c - 30, b * (c - 30), a * 7 % 11], none, rfl, rfl, fun v h => by
      simp only [List.mem_cons, List.not_mem_nil, or_false] at h
      rcases h with rfl | rfl | rfl | rfl | rfl <;> omega, t3, .refl⟩
  have hlw : (rangeW 5 (many - 5)).length = many - 5 := by unfold rangeW; rw [List.length_map, List.length_range]
  rw [hlw] at hl
  refine ⟨vs, x4, S4, ?_, by omega, hv, tp4, ((b1.trans b2).trans b3).trans sb4⟩
  rw [seq_nx (f := u4) (ρ2 := [some (.cel n, .brw), some (.int ((many : Nat) : Int), .brw), some (.int frees, .brw), some (.lst (vs.map .int), .own), x4, none, none, none]) (S2 := S4) (by
    unfold u4
    rw [q_for, hr2]
    exact e4)]
theorem vstr_len : ∀ k < 61, ("v" : Str).length + (toString ((k : Nat) : Int) : Str).length ≤ 100 := by decide +kernel
def vLab (k : Nat) : Str := ("v" : Str) ++ (toString ((k : Nat) : Int) : Str)
theorem v_lab {k : Nat} (h : k < 61) : gAdd (.str "v") (.str (toString ((k : Nat) : Int))) = some (.str (vLab k)) := by
  have := vstr_len k h
  show (if ("v" : Str).length + (toString ((k : Nat) : Int) : Str).length ≤ sizeLine then some (W.str _) else none) = _
  rw [if_pos (size_ok (by omega))]
  rfl
theorem at_vs {vs : List Int} {k : Nat} (S : Store) (h : k < vs.length) : gIx S (.lst (vs.map .int)) (.int ((k : Nat) : Int)) = some (.int (vs.getD k 0)) := by
  show atI _ _ = _
  rw [at_pt (by omega) (by omega), Int.toNat_natCast]
def mkU (vs : List Int) (k : Nat) : Un := ⟨vLab k, vs.getD k 0, vs.getD k 0⟩
theorem u5_ok {n many : Nat} {frees : Int} {vs : List Int} {x4 : Option (W × Md)} {S : Store} (hl : vs.length = many) (h60 : many ≤ 60) : u5 [some (.cel n, .brw), some (.int ((many : Nat) : Int), .brw), some (.int frees, .brw), some (.lst (vs.map .int), .own), x4, none, none, none] S = some (.nx [some (.cel n, .brw), some (.int ((many : Nat) : Int), .brw), some (.int frees, .brw), some (.lst (vs.map .int), .own), x4, some (.lst (((List.range many).map (mkU vs)).map encU), .own), none, none] S) := by
  have hr1 : iRange1 (cVar 1) [some (.cel n, .brw), some (.int ((many : Nat) : Int), .brw), some (.int frees, .brw), some (.lst (vs.map .int), .own), x4, none, none, none] S = some ((List.range many).map fun k : Nat => W.int ((k : Nat) : Int), S) := by
    refine rng_ok (m := .brw) ?_ (by omega)
    walk_at "go"
  unfold u5
  rw [q_asg, q_lc, hr1]
  dsimp only [bnd_some]
  rw [if_pos (size_ok (by rw [List.length_map, List.length_range]; omega))]
  rw [lc_map (enc := fun k : Nat => W.int ((k : Nat) : Int)) (g := fun k : Nat => encU (mkU vs k)) fun k hk => ⟨_, .own, by walk_at "ev"; rfl, rfl, by
    have hk := List.mem_range.mp hk
    have h1 := v_lab (k := k) (by omega)
    have h2 : atI (vs.map W.int) ((k : Nat) : Int) = some (.int (vs.getD k 0)) := at_vs S (show k < vs.length by omega)
    have h3 : gStr S [.int ((k : Nat) : Int)] = some (.str (toString ((k : Nat) : Int))) := by
      show (if _ then _ else none) = _
      rw [if_pos (by omega)]
    clear hk hr1
    walk_at "go"
    rfl, rfl⟩]
  walk_at "ev"
  rw [List.map_map]
  rfl
/-- big unknowns: every value within 1000 -/
def UbOk (u : Un) : Prop := -2000 ≤ u.lo ∧ u.hi ≤ 2000 ∧ u.lo ≤ u.hi ∧ u.hi ≤ u.lo + 2
theorem at_us {us : List Un} {k : Nat} (h : k < us.length) : atI (us.map encU) ((k : Nat) : Int) = some (encU us[k]) := by
  rw [atI_of (by omega), List.getElem?_map, Int.toNat_natCast, List.getElem?_eq_getElem h]
  rfl
theorem u_0 (S : Store) (u : Un) : gIx S (encU u) (.int 0) = some (.str u.nm) := rfl
theorem u_1 (S : Store) (u : Un) : gIx S (encU u) (.int 1) = some (.int u.lo) := rfl
theorem u_2 (S : Store) (u : Un) : gIx S (encU u) (.int 2) = some (.int u.hi) := rfl
theorem ub_at {vs : List Int} (h : Vok vs) (k : Nat) : -1000 ≤ vs.getD k 0 ∧ vs.getD k 0 ≤ 1000 := by
  rw [List.getD_eq_getElem?_getD]
  by_cases hv : k < vs.length
  · rw [List.getElem?_eq_getElem hv]
    exact h _ (List.getElem_mem hv)
  · rw [List.getElem?_eq_none (by omega)]
    simp
def BigOk (many : Nat) (us : List Un) : Prop := us.length = many ∧ (∀ u ∈ us, UbOk u) ∧ us.map (·.nm) = (List.range many).map vLab
theorem BigOk.set {many : Nat} {us : List Un} (h : BigOk many us) {k : Nat} (hk : k < us.length) {lo hi : Int} (hu : UbOk ⟨us[k].nm, lo, hi⟩) : BigOk many (us.set k ⟨us[k].nm, lo, hi⟩) := by
  refine ⟨by rw [List.length_set]; exact h.1, fun u hu' => ?_, ?_⟩
  · rcases List.mem_or_eq_of_mem_set hu' with e | e
    · exact h.2.1 u e
    · rw [e]; exact hu
  · rw [← h.2.2, List.map_set]
    refine List.ext_getElem? fun i => ?_
    rw [List.getElem?_set]
    by_cases e : k = i
    · subst e
      rw [if_pos rfl, if_pos (by rw [List.length_map]; exact hk), List.getElem?_map, List.getElem?_eq_getElem hk]
      rfl
    · rw [if_neg e]
theorem u6_step {n many : Nat} {frees : Int} {vs : List Int} {us : List Un} {x4 x6 x7 : Option (W × Md)} {S : Store} (tp : TapeAt n S) (hl : vs.length = many) (h20 : 20 ≤ many) (h60 : many ≤ 60) (hv : Vok vs) (hus : BigOk many us) :
    ∃ (us2 : List Un) (y4 : Option (W × Md)) (S2 : Store), (cSeq (cAsg (tName 4) (cCall mDraw (cCons (cVar 0) (cCons (cIx (cLst (cCons (cLit (.int 5)) (cCons (cVar 1) cNil))) (cCall mDraw (cCons (cVar 0) (cCons (cLit (.int 2)) cNil)))) cNil))))
  (cSetIx 5 (cVar 4) (cTup (cCons (cIx (cIx (cVar 5) (cVar 4)) (cLit (.int 0))) (cCons (cIx (cVar 3) (cVar 4)) (cCons (cBin gAdd (cBin gAdd (cIx (cVar 3) (cVar 4)) (cLit (.int 1))) (cCall mDraw (cCons (cVar 0) (cCons (cLit (.int 2)) cNil)))) cNil)))))) [some (.cel n, .brw), some (.int ((many : Nat) : Int), .brw), some (.int frees, .brw), some (.lst (vs.map .int), .own), x4, some (.lst (us.map encU), .own), x6, x7] S = some (.nx [some (.cel n, .brw), some (.int ((many : Nat) : Int), .brw), some (.int frees, .brw), some (.lst (vs.map .int), .own), y4, some (.lst (us2.map encU), .own), x6, x7] S2) ∧ BigOk many us2 ∧ TapeAt n S2 ∧ SameBut n S S2 := by
  obtain ⟨d, S2, e, hd0, hd1, t2, b2⟩ := draw_ok (many := 2) tp (by decide) (by decide)
  obtain ⟨m5, hm5, hm1, hm2⟩ : ∃ m5 : Int, atI [W.int 5, W.int ((many : Nat) : Int)] d = some (.int m5) ∧ 0 < m5 ∧ m5 ≤ many := by
    have : d = 0 ∨ d = 1 := by omega
    rcases this with rfl | rfl
    · exact ⟨5, by rw [atI_0], by omega, by omega⟩
    · exact ⟨many, by rw [atI_1], by omega, by omega⟩
  obtain ⟨v, S3, e3, hv0, hv1, t3, b3⟩ := draw_ok (many := m5) t2 hm1 (by omega)
  obtain ⟨k, rfl⟩ : ∃ k : Nat, v = ((k : Nat) : Int) := ⟨v.toNat, by omega⟩
  obtain ⟨z, S4, e4, hz0, hz1, t4, b4⟩ := draw_ok (many := 2) t3 (by decide) (by decide)
  have hk : k < us.length := by rw [hus.1]; omega
  have h1 := at_us hk
  have h2 : atI (vs.map W.int) ((k : Nat) : Int) = some (.int (vs.getD k 0)) := at_vs S3 (show k < vs.length by omega)
  have h3 := u_0 S3 us[k]
  have h4 := ub_at hv k
  refine ⟨us.set k ⟨us[k].nm, vs.getD k 0, vs.getD k 0 + 1 + z⟩, some (.int ((k : Nat) : Int), .frz), S4, ?_, hus.set hk ⟨by simp only; omega, by simp only; omega, by simp only; omega, by simp only; omega⟩, t4, (b2.trans b3).trans b4⟩
  have hb : (0 : Int) ≤ ((k : Nat) : Int) := by omega
  have hb2 : ((k : Nat) : Int) < ((us.map encU).length : Nat) := by rw [List.length_map]; omega
  have hset := fun (ρ : Mp.Env) (S : Store) (w : W) (hr : ρ[5]? = some (some (.lst (us.map encU), .own))) => set_lst (S := S) (w := w) hr hb hb2
  generalize vs.getD k 0 = vk at *
  rw [seq_nx (ρ2 := [some (.cel n, .brw), some (.int ((many : Nat) : Int), .brw), some (.int frees, .brw), some (.lst (vs.map .int), .own), some (.int ((k : Nat) : Int), .frz), some (.lst (us.map encU), .own), x6, x7]) (S2 := S3) (by clear hus hv hset hb2 hb h4; walk_at "go")]
  rw [q_setIx]
  clear hus hv hb2 hb h4
  walk_at "go"
  have hm : (us.map encU).set k (.tup [.str us[k].nm, .int vk, .int (vk + 1 + z)]) = (us.set k ⟨us[k].nm, vk, vk + 1 + z⟩).map encU := by
    rw [List.map_set]
    rfl
  rw [Int.toNat_natCast, hm]
theorem bigu_ok {n many : Nat} {frees : Int} {S : Store} (tp : TapeAt n S) (h20 : 20 ≤ many) (h60 : many ≤ 60) (hf : 1 ≤ frees ∧ frees ≤ 100) :
    ∃ (us : List Un) (S2 : Store), m_law_big_unknowns [.cel n, .int ((many : Nat) : Int), .int frees] S = some ((.lst (us.map encU), .own), S2) ∧ BigOk many us ∧ TapeAt n S2 ∧ SameBut n S S2 := by
  unfold m_law_big_unknowns
  rw [cFn_run (by rfl)]
  show ∃ us S2, fin (c_law_big_unknowns [some (.cel n, .brw), some (.int ((many : Nat) : Int), .brw), some (.int frees, .brw), none, none, none, none, none] S) = _ ∧ _
  rw [bigu_seq]
  obtain ⟨vs, x4, S2, e2, hl, hv, tp2, sb2⟩ := u14_ok (frees := frees) tp h20 h60 (cSeq u5 (cSeq u6 (cSeq u7 u8)))
  rw [e2, seq_nx (u5_ok hl h60)]
  have hbig : BigOk many ((List.range many).map (mkU vs)) := by
    refine ⟨by rw [List.length_map, List.length_range], fun u hu => ?_, by rw [List.map_map]; rfl⟩
    obtain ⟨k, _, rfl⟩ := List.mem_map.mp hu
    have := ub_at hv k
    exact ⟨by show _ ≤ vs.getD k 0; omega, by show vs.getD k 0 ≤ _; omega, Int.le_refl _, by show vs.getD k 0 ≤ vs.getD k 0 + 2; omega⟩
  generalize (List.range many).map (mkU vs) = us0 at hbig
  obtain ⟨d, S3, e3, hd0, hd1, tp3, sb3⟩ := draw_ok (many := frees) tp2 (by omega) (by omega)
  obtain ⟨c, hc⟩ : ∃ c : Nat, 1 + d = ((c : Nat) : Int) := ⟨(1 + d).toNat, by omega⟩
  have hr1 : iRange1 (cBin gAdd (cLit (.int 1)) (cCall mDraw (cCons (cVar 0) (cCons (cVar 2) cNil)))) [some (.cel n, .brw), some (.int ((many : Nat) : Int), .brw), some (.int frees, .brw), some (.lst (vs.map .int), .own), x4, some (.lst (us0.map encU), .own), none, none] S2 = some ((List.range c).map fun k : Nat => W.int ((k : Nat) : Int), S3) := by
    refine rng_ok (m := .own) ?_ (by omega)
    clear hv hbig e2 hl
    walk_at "go"
  obtain ⟨ρ4, S4, e4, us, y4, x6, rfl, hus, tp4, sb4⟩ := for_inv (ws := (List.range c).map fun k : Nat => W.int ((k : Nat) : Int)) (t := (tName 6)) (b := (cSeq (cAsg (tName 4) (cCall mDraw (cCons (cVar 0) (cCons (cIx (cLst (cCons (cLit (.int 5)) (cCons (cVar 1) cNil))) (cCall mDraw (cCons (cVar 0) (cCons (cLit (.int 2)) cNil)))) cNil))))
  (cSetIx 5 (cVar 4) (cTup (cCons (cIx (cIx (cVar 5) (cVar 4)) (cLit (.int 0))) (cCons (cIx (cVar 3) (cVar 4)) (cCons (cBin gAdd (cBin gAdd (cIx (cVar 3) (cVar 4)) (cLit (.int 1))) (cCall mDraw (cCons (cVar 0) (cCons (cLit (.int 2)) cNil)))) cNil)))))))
    (fun i ρ S4 => ∃ (us : List Un) (x4 x6 : Option (W × Md)), ρ = [some (.cel n, .brw), some (.int ((many : Nat) : Int), .brw), some (.int frees, .brw), some (.lst (vs.map .int), .own), x4, some (.lst (us.map encU), .own), x6, none] ∧ BigOk many us ∧ TapeAt n S4 ∧ SameBut n S S4)
    (fun i w ρ S4 hw hI => by
      obtain ⟨us, x4, x6, rfl, hus, tp4, sb4⟩ := hI
      have hi : i < c := by
        have := (List.getElem?_eq_some_iff.mp hw).1
        simpa using this
      rw [List.getElem?_map, List.getElem?_range hi] at hw
      injection hw with hw
      subst hw
      obtain ⟨us2, z4, S5, e5, hus2, tp5, sb5⟩ := u6_step (frees := frees) (x4 := x4) (x6 := some (.int ((i : Nat) : Int), .frz)) (x7 := none) tp4 hl h20 h60 hv hus
      exact ⟨_, _, S5, by walk_at "ev", e5, us2, z4, _, rfl, hus2, tp5, sb4.trans sb5⟩)
    (ρ := [some (.cel n, .brw), some (.int ((many : Nat) : Int), .brw), some (.int frees, .brw), some (.lst (vs.map .int), .own), x4, some (.lst (us0.map encU), .own), none, none]) (S := S3) ⟨us0, x4, none, rfl, hbig, tp3, sb2.trans sb3⟩
  rw [seq_nx (f := u6) (ρ2 := [some (.cel n, .brw), some (.int ((many : Nat) : Int), .brw), some (.int frees, .brw), some (.lst (vs.map .int), .own), y4, some (.lst (us.map encU), .own), x6, none]) (S2 := S4) (by unfold u6; rw [q_for, hr1]; exact e4)]
  obtain ⟨z, S5, e5, hz0, hz1, tp5, sb5⟩ := draw_ok (many := 2) tp4 (by decide) (by decide)
  have fin8 : ∀ (us : List Un) (x4 x7 : Option (W × Md)) (S : Store), fin (u8 [some (.cel n, .brw), some (.int ((many : Nat) : Int), .brw), some (.int frees, .brw), some (.lst (vs.map .int), .own), x4, some (.lst (us.map encU), .own), x6, x7] S) = some ((.lst (us.map encU), .own), S) := fun us x4 x7 S => by
    unfold u8
    rw [q_retV]
    rfl
  by_cases h0 : z = 0
  · obtain ⟨q, S6, e6, hq0, hq1, tp6, sb6⟩ := draw_ok (many := ((many : Nat) : Int) - 1) tp5 (by omega) (by omega)
    obtain ⟨r, S7, e7, hr0, hr1', tp7, sb7⟩ := draw_ok (many := 3) tp6 (by decide) (by decide)
    obtain ⟨k, rfl⟩ : ∃ k : Nat, q = ((k : Nat) : Int) := ⟨q.toNat, by omega⟩
    have h2 : atI (vs.map W.int) ((k : Nat) : Int) = some (.int (vs.getD k 0)) := at_vs S6 (show k < vs.length by omega)
    have h4 := ub_at hv k
    have hk : many - 1 < us.length := by rw [hus.1]; omega
    have hmm : ((many : Nat) : Int) - 1 = ((many - 1 : Nat) : Int) := by omega
    have h1 := at_us hk
    rw [← hmm] at h1
    have h3 := u_0 S7 us[many - 1]
    have hset : ∀ (ρ : Mp.Env) (S : Store) (w : W), ρ[5]? = some (some (.lst (us.map encU), .own)) → setAt ρ S 5 (.int (((many : Nat) : Int) - 1)) w = some (.nx (ρ.set 5 (some (.lst ((us.map encU).set (many - 1) w), .own))) S) := fun ρ S w hr => by
      rw [set_lst hr (by omega) (by rw [List.length_map]; omega), hmm, Int.toNat_natCast]
    generalize hav : vs.getD k 0 + r - 1 = a
    generalize vs.getD k 0 = vk at *
    refine ⟨us.set (many - 1) ⟨us[many - 1].nm, a, a⟩, S7, ?_, hus.set hk ⟨by simp only; omega, by simp only; omega, by simp only; omega, by simp only; omega⟩, tp7, ((sb4.trans sb5).trans sb6).trans sb7⟩
    have hm : (us.map encU).set (many - 1) (.tup [.str us[many - 1].nm, .int a, .int a]) = (us.set (many - 1) ⟨us[many - 1].nm, a, a⟩).map encU := by
      rw [List.map_set]
      rfl
    rw [seq_nx (f := u7) (ρ2 := [some (.cel n, .brw), some (.int ((many : Nat) : Int), .brw), some (.int frees, .brw), some (.lst (vs.map .int), .own), y4, some (.lst ((us.set (many - 1) ⟨us[many - 1].nm, a, a⟩).map encU), .own), x6, some (.int a, .frz)]) (S2 := S7) (by
      unfold u7
      have h0' : decide (z = 0) = true := decide_eq_true h0
      clear h0 hv hus hbig e4 e2 fin8 hmm h4
      walk_at "go")]
    exact fin8 _ _ _ _
  · refine ⟨us, S5, ?_, hus, tp5, sb4.trans sb5⟩
    rw [seq_nx (f := u7) (ρ2 := [some (.cel n, .brw), some (.int ((many : Nat) : Int), .brw), some (.int frees, .brw), some (.lst (vs.map .int), .own), y4, some (.lst (us.map encU), .own), x6, none]) (S2 := S5) (by
      unfold u7
      have h0' : decide (z = 0) = false := decide_eq_false h0
      clear h0 hv hus hbig e4 e2 fin8
      walk_at "go")]
    exact fin8 _ _ _ _
end Lg
/-! big bodies as the laws draw them (printed by mklp.py) -/
namespace Lg
open PySem PySem.Spec PyProof.Rows L2 Mp
local macro_rules | `(tactic| walk_at "ev") => `(tactic| simp -implicitDefEqProofs only [q_lit, q_nil, q_cons, q_var, q_bin, q_tup, q_lst, q_box, q_neg, q_notT, q_andT, q_orT, q_notV, q_andV, q_orV, q_if, q_B, q_ix, q_call, q_bi, q_sl, q_oNone, q_oSome, q_dk, q_dt, q_yesT, q_get2,
  q_lc, q_iExp, q_iVar, q_iEnV, items_tup, items_lst, q_seq, q_skip, q_ret, q_retV, q_ifS, q_asg, q_drop, q_for, q_tName, q_tTup, q_tCons, q_tNil, q_fz, q_frzE, q_app, q_aug, q_setIx, q_wipe0, q_wipe, fin_rt, fin_nx,
  mut_non, mut_bl, mut_int, mut_str, mut_tup, mut_lst, mut_dk, mut_dt, mut_scr, mut_cel, sto_non, sto_bl, sto_int, sto_str, sto_tup, sto_scr, sto_cel, sto_own, sto_frz, md_non, md_bl, md_int, md_str, md_tup, md_lst, md_dk, md_dt, md_scr, md_cel,
  gAdd_int, gAddI_int, gSub_int, gLt_int, gLe_int, gGt_int, gGe_int, gInt_int, gInt_bl, gLen_tup, gLen_lst, gTuple_lst, gTuple_tup, gList_scr, gList_lst, gList_tup, gIx_tup, gIx_lst, gEq_int, gEq_bl, atI_0, atI_1, atI_2, atI_3, atI_4,
  bnd_some, Option.map_some, Option.bind_some, List.getElem?_cons_succ, List.getElem?_cons_zero, List.set_cons_succ, List.set_cons_zero, List.foldl_cons, List.foldl_nil, List.map_cons, List.map_nil, List.length_map, List.length_cons, List.length_nil, List.all_cons, List.all_nil, Bool.and_true, Bool.true_and, and_true, true_and, false_and, and_false,
  size_le, size_lt', Nat.reduceAdd, Nat.reduceLeDiff, Nat.zero_add, ne_eq, decide_eq_true_eq, Int.reduceEq, Int.reduceLT, Int.reduceLE, Int.reduceNeg, decide_true, decide_false, Bool.false_bne, Bool.true_bne, Bool.not_true, Bool.not_false, md_encT, md_encP, md_encL, md_encB, sto_encT, sto_encP, sto_encL, sto_encB, md_encG, md_encU, md_encC, sto_encG, sto_encU, sto_encC, reduceCtorEq, if_false, if_true, ite_true, ite_false, Bool.false_eq_true])
local macro_rules | `(tactic| walk_at "go") => `(tactic| simp -implicitDefEqProofs only [q_lit, q_nil, q_cons, q_var, q_bin, q_tup, q_lst, q_box, q_neg, q_notT, q_andT, q_orT, q_notV, q_andV, q_orV, q_if, q_B, q_ix, q_call, q_bi, q_sl, q_oNone, q_oSome, q_dk, q_dt, q_yesT, q_get2,
  q_lc, q_iExp, q_iVar, q_iEnV, items_tup, items_lst, q_seq, q_skip, q_ret, q_retV, q_ifS, q_asg, q_drop, q_for, q_tName, q_tTup, q_tCons, q_tNil, q_fz, q_frzE, q_app, q_aug, q_setIx, q_wipe0, q_wipe, fin_rt, fin_nx,
  mut_non, mut_bl, mut_int, mut_str, mut_tup, mut_lst, mut_dk, mut_dt, mut_scr, mut_cel, sto_non, sto_bl, sto_int, sto_str, sto_tup, sto_scr, sto_cel, sto_own, sto_frz, md_non, md_bl, md_int, md_str, md_tup, md_lst, md_dk, md_dt, md_scr, md_cel,
  gAdd_int, gAddI_int, gSub_int, gLt_int, gLe_int, gGt_int, gGe_int, gInt_int, gInt_bl, gLen_tup, gLen_lst, gTuple_lst, gTuple_tup, gList_scr, gList_lst, gList_tup, gIx_tup, gIx_lst, gEq_int, gEq_bl, atI_0, atI_1, atI_2, atI_3, atI_4,
  bnd_some, Option.map_some, Option.bind_some, List.getElem?_cons_succ, List.getElem?_cons_zero, List.set_cons_succ, List.set_cons_zero, List.foldl_cons, List.foldl_nil, List.map_cons, List.map_nil, List.length_map, List.length_cons, List.length_nil, List.all_cons, List.all_nil, Bool.and_true, Bool.true_and, and_true, true_and, false_and, and_false,
  size_le, size_lt', Nat.reduceAdd, Nat.reduceLeDiff, Nat.zero_add, ne_eq, decide_eq_true_eq, Int.reduceEq, Int.reduceLT, Int.reduceLE, Int.reduceNeg, decide_true, decide_false, Bool.false_bne, Bool.true_bne, Bool.not_true, Bool.not_false, md_encT, md_encP, md_encL, md_encB, sto_encT, sto_encP, sto_encL, sto_encB, md_encG, md_encU, md_encC, sto_encG, sto_encU, sto_encC, reduceCtorEq, if_false, if_true, ite_true, ite_false, Bool.false_eq_true, *])
def bl1 : CS :=
  cAsg (tName 2) (cLst cNil)
def bl2 : CS :=
  cAsg (tName 3) (cLit (.int 0))
def bl3 : CS :=
  cFor (tName 4) (iRange1 (cBi gLen (cCons (cVar 1) cNil))) (cSeq (cAsg (tName 6) (cIx (cLst (cCons (cLit (.int 1)) (cCons (cBin Mp.gSub (cLit (.int 0)) (cLit (.int 1))) (cCons (cLit (.int 3)) (cCons (cBin Mp.gSub (cLit (.int 0)) (cLit (.int 400))) (cCons (cLit (.int 0)) cNil)))))) (cCall mDraw (cCons (cVar 0) (cCons (cLit (.int 5)) cNil)))))
  (cIfS (cB (cBin (gEq true) (cVar 6) (cLit (.int 0)))) (cSeq (cApp 2 (cTup (cCons (cVar 4) (cCons (cVar 6) cNil))))
  (cAsg (tName 3) (cBin gAdd (cVar 3) (cBin gMul (cVar 6) (cIx (cIx (cVar 1) (cVar 4)) (cLit (.int 1))))))) (cSkip)))
def bl4 : CS :=
  cAsg (tName 5) (cIx (cLst (cCons (cLit (.str "<=")) (cCons (cLit (.str ">=")) (cCons (cLit (.str "=")) cNil)))) (cCall mDraw (cCons (cVar 0) (cCons (cLit (.int 3)) cNil))))
def bl5 : CS :=
  cRet (cTup (cCons (cBi gTuple (cCons (cVar 2) cNil)) (cCons (cVar 5) (cCons (cBin gAdd (cVar 3) (cIx (cLst (cCons (cLit (.int 0)) (cCons (cLit (.int 0)) (cCons (cLit (.int 1)) (cCons (cBin Mp.gSub (cLit (.int 0)) (cLit (.int 1))) (cCons (cLit (.int 400)) cNil)))))) (cCall mDraw (cCons (cVar 0) (cCons (cLit (.int 5)) cNil))))) cNil))))
theorem bl_seq : c_law_big_linear = cSeq bl1 (cSeq bl2 (cSeq bl3 (cSeq bl4 (bl5)))) := rfl
theorem ix5 {a b c d e k : Int} (h0 : 0 ≤ k) (h1 : k < 5) : ∃ z : Int, atI [W.int a, W.int b, W.int c, W.int d, W.int e] k = some (.int z) ∧ (z = a ∨ z = b ∨ z = c ∨ z = d ∨ z = e) := by
  have : k = 0 ∨ k = 1 ∨ k = 2 ∨ k = 3 ∨ k = 4 := by omega
  rcases this with rfl | rfl | rfl | rfl | rfl
  · exact ⟨a, by rw [atI_0], by simp⟩
  · exact ⟨b, by rw [atI_1], by simp⟩
  · exact ⟨c, by rw [atI_2], by simp⟩
  · exact ⟨d, by rw [atI_3], by simp⟩
  · exact ⟨e, by rw [atI_4], by simp⟩
theorem linear_ok {n : Nat} {us : List Un} {S : Store} (tp : TapeAt n S) (h60 : us.length ≤ 60) : ∃ (ts : Tm) (r : Rl) (c : Int) (S2 : Store), m_law_big_linear [.cel n, .lst (us.map encU)] S = some ((.tup [encT ts, .str (rlS r), .int c], .own), S2) ∧ TmOk us.length ts ∧ r ≠ .ne ∧ TapeAt n S2 ∧ SameBut n S S2 := by
  unfold m_law_big_linear
  rw [cFn_run (by rfl)]
  show ∃ ts r c S2, fin (c_law_big_linear [some (.cel n, .brw), some (.lst (us.map encU), .brw), none, none, none, none, none] S) = _ ∧ _
  rw [bl_seq]
  rw [seq_nx (f := bl1) (ρ2 := [some (.cel n, .brw), some (.lst (us.map encU), .brw), some (.lst [], .own), none, none, none, none]) (S2 := S) (by unfold bl1; walk_at "ev")]
  rw [seq_nx (f := bl2) (ρ2 := [some (.cel n, .brw), some (.lst (us.map encU), .brw), some (.lst [], .own), some (.int 0, .frz), none, none, none]) (S2 := S) (by unfold bl2; walk_at "ev")]
  have hr1 : iRange1 (cBi gLen (cCons (cVar 1) cNil)) [some (.cel n, .brw), some (.lst (us.map encU), .brw), some (.lst [], .own), some (.int 0, .frz), none, none, none] S = some ((List.range us.length).map fun k : Nat => W.int ((k : Nat) : Int), S) := by
    refine rng_ok (m := .own) ?_ (by omega)
    walk_at "ev"
  obtain ⟨ρ2, S2, e2, ts, tt, x4, x6, rfl, hl, hts, tp2, sb2⟩ := for_inv (ws := (List.range us.length).map fun k : Nat => W.int ((k : Nat) : Int)) (t := (tName 4)) (b := (cSeq (cAsg (tName 6) (cIx (cLst (cCons (cLit (.int 1)) (cCons (cBin Mp.gSub (cLit (.int 0)) (cLit (.int 1))) (cCons (cLit (.int 3)) (cCons (cBin Mp.gSub (cLit (.int 0)) (cLit (.int 400))) (cCons (cLit (.int 0)) cNil)))))) (cCall mDraw (cCons (cVar 0) (cCons (cLit (.int 5)) cNil)))))
  (cIfS (cB (cBin (gEq true) (cVar 6) (cLit (.int 0)))) (cSeq (cApp 2 (cTup (cCons (cVar 4) (cCons (cVar 6) cNil))))
  (cAsg (tName 3) (cBin gAdd (cVar 3) (cBin gMul (cVar 6) (cIx (cIx (cVar 1) (cVar 4)) (cLit (.int 1))))))) (cSkip))))
    (fun i ρ S2 => ∃ (ts : Tm) (tt : Int) (x4 x6 : Option (W × Md)), ρ = [some (.cel n, .brw), some (.lst (us.map encU), .brw), some (.lst (ts.map fun p => .tup [.int p.1, .int p.2]), .own), some (.int tt, .frz), x4, none, x6] ∧ ts.length ≤ i ∧ (∀ t ∈ ts, 0 ≤ t.1 ∧ t.1 < us.length ∧ -1000 ≤ t.2 ∧ t.2 ≤ 1000) ∧ TapeAt n S2 ∧ SameBut n S S2)
    (fun i w ρ S2 hw hI => by
      obtain ⟨ts, tt, x4, x6, rfl, hl, hts, tp2, sb2⟩ := hI
      have hi : i < us.length := by
        have := (List.getElem?_eq_some_iff.mp hw).1
        simpa using this
      rw [List.getElem?_map, List.getElem?_range hi] at hw
      injection hw with hw
      subst hw
      obtain ⟨d, S3, e3, hd0, hd1, tp3, sb3⟩ := draw_ok (many := 5) tp2 (by decide) (by decide)
      obtain ⟨z, hz, hzc⟩ := ix5 (a := 1) (b := 0 - 1) (c := 3) (d := 0 - 400) (e := 0) hd0 hd1
      have hz1 : -1000 ≤ z ∧ z ≤ 1000 := by omega
      have hu := at_us hi
      have hu1 := u_1 S3 us[i]
      have hm : gMul (.int z) (.int us[i].lo) = some (.int (z * us[i].lo)) := gMul_int (.inl (by omega))
      have hsz : ts.length < sizeLine := size_lt (by omega)
      by_cases h0 : z = 0
      · refine ⟨_, [some (.cel n, .brw), some (.lst (us.map encU), .brw), some (.lst (ts.map fun p => .tup [.int p.1, .int p.2]), .own), some (.int tt, .frz), some (.int ((i : Nat) : Int), .frz), none, some (.int z, .frz)], S3, by walk_at "ev"; rfl, ?_, ts, tt, some (.int ((i : Nat) : Int), .frz), some (.int z, .frz), rfl, by omega, hts, tp3, sb2.trans sb3⟩
        have h0' : decide (z = 0) = true := decide_eq_true h0
        clear h0 hts hzc hl
        walk_at "go"
      · refine ⟨_, [some (.cel n, .brw), some (.lst (us.map encU), .brw), some (.lst ((ts ++ [(((i : Nat) : Int), z)]).map fun p => .tup [.int p.1, .int p.2]), .own), some (.int (tt + z * us[i].lo), .frz), some (.int ((i : Nat) : Int), .frz), none, some (.int z, .frz)], S3, by walk_at "ev"; rfl, ?_, ts ++ [(((i : Nat) : Int), z)], tt + z * us[i].lo, some (.int ((i : Nat) : Int), .frz), some (.int z, .frz), rfl, by rw [List.length_append]; simp only [List.length_singleton]; omega, fun t ht => ?_, tp3, sb2.trans sb3⟩
        · have h0' : decide (z = 0) = false := decide_eq_false h0
          clear h0 hts hzc hl
          walk_at "go"
          rw [List.map_append]
          rfl
        · rcases List.mem_append.mp ht with h | h
          · exact hts t h
          · rw [List.mem_singleton.mp h]
            exact ⟨by simp only; omega, by simp only; omega, hz1.1, hz1.2⟩)
    (ρ := [some (.cel n, .brw), some (.lst (us.map encU), .brw), some (.lst [], .own), some (.int 0, .frz), none, none, none]) (S := S) ⟨[], 0, none, none, rfl, Nat.le_refl _, fun _ h => absurd h List.not_mem_nil, tp, .refl⟩
  rw [List.length_map, List.length_range] at hl
  rw [seq_nx (f := bl3) (ρ2 := [some (.cel n, .brw), some (.lst (us.map encU), .brw), some (.lst (ts.map fun p => .tup [.int p.1, .int p.2]), .own), some (.int tt, .frz), x4, none, x6]) (S2 := S2) (by unfold bl3; rw [q_for, hr1]; exact e2)]
  obtain ⟨d, S3, e3, hd0, hd1, tp3, sb3⟩ := draw_ok (many := 3) tp2 (by decide) (by decide)
  obtain ⟨r, hr, hrx⟩ := rl_ix3 d hd0 hd1
  obtain ⟨k, S4, e4, hk0, hk1, tp4, sb4⟩ := draw_ok (many := 5) tp3 (by decide) (by decide)
  obtain ⟨z, hz, _⟩ := ix5 (a := 0) (b := 0) (c := 1) (d := 0 - 1) (e := 400) hk0 hk1
  rw [seq_nx (f := bl4) (ρ2 := [some (.cel n, .brw), some (.lst (us.map encU), .brw), some (.lst (ts.map fun p => .tup [.int p.1, .int p.2]), .own), some (.int tt, .frz), x4, some (.str (rlS r), .frz), x6]) (S2 := S3) (by unfold bl4; clear hts e2 hr1; walk_at "go")]
  refine ⟨ts, r, tt + z, S4, ?_, ⟨by omega, fun t ht => by have := hts t ht; omega⟩, hr, tp4, (sb2.trans sb3).trans sb4⟩
  unfold bl5
  clear hts e2 hr1 hr
  walk_at "go"
  rfl
def ba1 : CS :=
  cAsg (tName 2) (cLst cNil)
def ba2 : CS :=
  cFor (tName 3) (iRange1 (cBin gAdd (cLit (.int 20)) (cCall mDraw (cCons (cVar 0) (cCons (cLit (.int 21)) cNil))))) (cSeq (cAsg (tName 4) (cCall mDraw (cCons (cVar 0) (cCons (cBi gLen (cCons (cVar 1) cNil)) cNil))))
  (cSeq (cAsg (tName 5) (cIx (cIx (cVar 1) (cVar 4)) (cLit (.int 1))))
  (cSeq (cAsg (tName 6) (cIx (cLst (cCons (cTup (cCons (cVar 4) (cCons (cLit (.str "=")) (cCons (cBin gAdd (cVar 5) (cLit (.int 1))) cNil)))) (cCons (cTup (cCons (cVar 4) (cCons (cLit (.str ">=")) (cCons (cBin gAdd (cVar 5) (cLit (.int 1))) cNil)))) (cCons (cTup (cCons (cVar 4) (cCons (cLit (.str "<=")) (cCons (cBin Mp.gSub (cVar 5) (cLit (.int 1))) cNil)))) (cCons (cTup (cCons (cVar 4) (cCons (cLit (.str "!=")) (cCons (cVar 5) cNil)))) cNil))))) (cCall mDraw (cCons (cVar 0) (cCons (cLit (.int 4)) cNil)))))
  (cIfS (cB (cBin (gIn true) (cVar 6) (cVar 2))) (cApp 2 (cVar 6)) (cSkip)))))
def ba3 : CS :=
  cIfS (cB (cBin (gEq false) (cCall mDraw (cCons (cVar 0) (cCons (cLit (.int 3)) cNil))) (cLit (.int 0)))) (cSetIx 2 (cCall mDraw (cCons (cVar 0) (cCons (cBi gLen (cCons (cVar 2) cNil)) cNil))) (cTup (cCons (cLit (.int 0)) (cCons (cLit (.str ">=")) (cCons (cIx (cIx (cVar 1) (cLit (.int 0))) (cLit (.int 1))) cNil))))) (cSkip)
def ba4 : CS :=
  cRet (cTup (cCons (cLit (.str "any")) (cCons (cBi gTuple (cCons (cVar 2) cNil)) cNil)))
theorem ba_seq : c_law_big_any = cSeq ba1 (cSeq ba2 (cSeq ba3 (ba4))) := rfl
theorem lit4 {v a d : Int} (h0 : 0 ≤ d) (h1 : d < 4) : ∃ l : Ltl, atI [W.tup [.int v, .str "=", .int (a + 1)], W.tup [.int v, .str ">=", .int (a + 1)], W.tup [.int v, .str "<=", .int (a - 1)], W.tup [.int v, .str "!=", .int a]] d = some (encL l) ∧ l.v = v := by
  have : d = 0 ∨ d = 1 ∨ d = 2 ∨ d = 3 := by omega
  rcases this with rfl | rfl | rfl | rfl
  · exact ⟨⟨v, .eq, a + 1⟩, by rw [atI_0]; rfl, rfl⟩
  · exact ⟨⟨v, .ge, a + 1⟩, by rw [atI_1]; rfl, rfl⟩
  · exact ⟨⟨v, .le, a - 1⟩, by rw [atI_2]; rfl, rfl⟩
  · exact ⟨⟨v, .ne, a⟩, by rw [atI_3]; rfl, rfl⟩
theorem bany_ok {n : Nat} {us : List Un} {S : Store} (tp : TapeAt n S) (h1 : 1 ≤ us.length) (h60 : us.length ≤ 60) : ∃ (ls : List Ltl) (S2 : Store), m_law_big_any [.cel n, .lst (us.map encU)] S = some ((encB (.any ls), .own), S2) ∧ BOk us.length (.any ls) ∧ TapeAt n S2 ∧ SameBut n S S2 := by
  unfold m_law_big_any
  rw [cFn_run (by rfl)]
  show ∃ ls S2, fin (c_law_big_any [some (.cel n, .brw), some (.lst (us.map encU), .brw), none, none, none, none, none] S) = _ ∧ _
  rw [ba_seq]
  rw [seq_nx (f := ba1) (ρ2 := [some (.cel n, .brw), some (.lst (us.map encU), .brw), some (.lst [], .own), none, none, none, none]) (S2 := S) (by unfold ba1; walk_at "ev")]
  obtain ⟨d, S1, e1, hd0, hd1, tp1, sb1⟩ := draw_ok (many := 21) tp (by decide) (by decide)
  obtain ⟨c, hc⟩ : ∃ c : Nat, 20 + d = ((c : Nat) : Int) := ⟨(20 + d).toNat, by omega⟩
  have hr1 : iRange1 (cBin gAdd (cLit (.int 20)) (cCall mDraw (cCons (cVar 0) (cCons (cLit (.int 21)) cNil)))) ([some (.cel n, .brw), some (.lst (us.map encU), .brw), some (.lst [], .own), none, none, none, none]) S = some ((List.range c).map fun k : Nat => W.int ((k : Nat) : Int), S1) := by
    refine rng_ok (m := .own) ?_ (by omega)
    walk_at "go"
  obtain ⟨ρ2, S2, e2, ls, x3, x4, x5, x6, rfl, hl0, hl1, hl2, tp2, sb2⟩ := for_inv (ws := (List.range c).map fun k : Nat => W.int ((k : Nat) : Int)) (t := (tName 3)) (b := (cSeq (cAsg (tName 4) (cCall mDraw (cCons (cVar 0) (cCons (cBi gLen (cCons (cVar 1) cNil)) cNil))))
  (cSeq (cAsg (tName 5) (cIx (cIx (cVar 1) (cVar 4)) (cLit (.int 1))))
  (cSeq (cAsg (tName 6) (cIx (cLst (cCons (cTup (cCons (cVar 4) (cCons (cLit (.str "=")) (cCons (cBin gAdd (cVar 5) (cLit (.int 1))) cNil)))) (cCons (cTup (cCons (cVar 4) (cCons (cLit (.str ">=")) (cCons (cBin gAdd (cVar 5) (cLit (.int 1))) cNil)))) (cCons (cTup (cCons (cVar 4) (cCons (cLit (.str "<=")) (cCons (cBin Mp.gSub (cVar 5) (cLit (.int 1))) cNil)))) (cCons (cTup (cCons (cVar 4) (cCons (cLit (.str "!=")) (cCons (cVar 5) cNil)))) cNil))))) (cCall mDraw (cCons (cVar 0) (cCons (cLit (.int 4)) cNil)))))
  (cIfS (cB (cBin (gIn true) (cVar 6) (cVar 2))) (cApp 2 (cVar 6)) (cSkip))))))
    (fun i ρ S3 => ∃ (ls : List Ltl) (x3 x4 x5 x6 : Option (W × Md)), ρ = [some (.cel n, .brw), some (.lst (us.map encU), .brw), some (.lst (ls.map encL), .own), x3, x4, x5, x6] ∧ (0 < i → ls ≠ []) ∧ ls.length ≤ i ∧ (∀ l ∈ ls, LOk us.length l) ∧ TapeAt n S3 ∧ SameBut n S S3)
    (fun i w ρ S3 hw hI => by
      obtain ⟨ls, x3, x4, x5, x6, rfl, hl0, hl1, hl2, tp3, sb3⟩ := hI
      have hi : i < c := by
        have := (List.getElem?_eq_some_iff.mp hw).1
        simpa using this
      rw [List.getElem?_map, List.getElem?_range hi] at hw
      injection hw with hw
      subst hw
      obtain ⟨v, S4, e4, hv0, hv1, tp4, sb4⟩ := draw_ok (many := ((us.length : Nat) : Int)) tp3 (by omega) (by omega)
      obtain ⟨v, rfl⟩ : ∃ k : Nat, v = ((k : Nat) : Int) := ⟨v.toNat, by omega⟩
      have hv : v < us.length := by omega
      have hu := at_us hv
      have hu1 := u_1 S4 us[v]
      obtain ⟨d, S5, e5, hd0, hd1, tp5, sb5⟩ := draw_ok (many := 4) tp4 (by decide) (by decide)
      obtain ⟨l, hl, hlv⟩ := lit4 (v := ((v : Nat) : Int)) (a := us[v].lo) hd0 hd1
      have hin := gIn_ok (neg := true) (okL l 63) (okD_lst (n := 63) (ws := ls.map encL) fun w hw => by
        obtain ⟨l, _, rfl⟩ := List.mem_map.mp hw
        exact okL l 62)
      have hsz : ls.length < sizeLine := size_lt (by omega)
      have hlk : LOk us.length l := ⟨by omega, by omega⟩
      have step : ∀ (ls2 : List Ltl), (cIfS (cB (cBin (gIn true) (cVar 6) (cVar 2))) (cApp 2 (cVar 6)) (cSkip)) [some (.cel n, .brw), some (.lst (us.map encU), .brw), some (.lst (ls.map encL), .own), some (.int ((i : Nat) : Int), .frz), some (.int ((v : Nat) : Int), .frz), some (.int us[v].lo, .frz), some (encL l, .frz)] S5 = some (.nx [some (.cel n, .brw), some (.lst (us.map encU), .brw), some (.lst (ls2.map encL), .own), some (.int ((i : Nat) : Int), .frz), some (.int ((v : Nat) : Int), .frz), some (.int us[v].lo, .frz), some (encL l, .frz)] S5) → (cSeq (cAsg (tName 4) (cCall mDraw (cCons (cVar 0) (cCons (cBi gLen (cCons (cVar 1) cNil)) cNil))))
  (cSeq (cAsg (tName 5) (cIx (cIx (cVar 1) (cVar 4)) (cLit (.int 1))))
  (cSeq (cAsg (tName 6) (cIx (cLst (cCons (cTup (cCons (cVar 4) (cCons (cLit (.str "=")) (cCons (cBin gAdd (cVar 5) (cLit (.int 1))) cNil)))) (cCons (cTup (cCons (cVar 4) (cCons (cLit (.str ">=")) (cCons (cBin gAdd (cVar 5) (cLit (.int 1))) cNil)))) (cCons (cTup (cCons (cVar 4) (cCons (cLit (.str "<=")) (cCons (cBin Mp.gSub (cVar 5) (cLit (.int 1))) cNil)))) (cCons (cTup (cCons (cVar 4) (cCons (cLit (.str "!=")) (cCons (cVar 5) cNil)))) cNil))))) (cCall mDraw (cCons (cVar 0) (cCons (cLit (.int 4)) cNil)))))
  (cIfS (cB (cBin (gIn true) (cVar 6) (cVar 2))) (cApp 2 (cVar 6)) (cSkip))))) [some (.cel n, .brw), some (.lst (us.map encU), .brw), some (.lst (ls.map encL), .own), some (.int ((i : Nat) : Int), .frz), x4, x5, x6] S3 = some (.nx [some (.cel n, .brw), some (.lst (us.map encU), .brw), some (.lst (ls2.map encL), .own), some (.int ((i : Nat) : Int), .frz), some (.int ((v : Nat) : Int), .frz), some (.int us[v].lo, .frz), some (encL l, .frz)] S5) := fun ls2 h4 => by
        rw [seq_nx (ρ2 := [some (.cel n, .brw), some (.lst (us.map encU), .brw), some (.lst (ls.map encL), .own), some (.int ((i : Nat) : Int), .frz), some (.int ((v : Nat) : Int), .frz), x5, x6]) (S2 := S4) (by clear hl2 h4; walk_at "go")]
        rw [seq_nx (ρ2 := [some (.cel n, .brw), some (.lst (us.map encU), .brw), some (.lst (ls.map encL), .own), some (.int ((i : Nat) : Int), .frz), some (.int ((v : Nat) : Int), .frz), some (.int us[v].lo, .frz), x6]) (S2 := S4) (by clear hl2 h4; walk_at "go")]
        rw [seq_nx (ρ2 := [some (.cel n, .brw), some (.lst (us.map encU), .brw), some (.lst (ls.map encL), .own), some (.int ((i : Nat) : Int), .frz), some (.int ((v : Nat) : Int), .frz), some (.int us[v].lo, .frz), some (encL l, .frz)]) (S2 := S5) (by clear hl2 h4; walk_at "go")]
        exact h4
      by_cases hb : ((ls.map encL).any fun z => eqW z (encL l)) = true
      · refine ⟨_, _, S5, by walk_at "ev", step ls ?_, ls, _, _, _, _, rfl, fun _ hn => ?_, by omega, hl2, tp5, (sb3.trans sb4).trans sb5⟩
        · rw [hb] at hin
          clear step hl2
          walk_at "go"
        · subst hn
          cases hb
      · rw [Bool.not_eq_true] at hb
        refine ⟨_, _, S5, by walk_at "ev", step (ls ++ [l]) ?_, ls ++ [l], _, _, _, _, rfl, fun _ => by simp, by rw [List.length_append]; simp only [List.length_singleton]; omega, fun l' h' => ?_, tp5, (sb3.trans sb4).trans sb5⟩
        · rw [hb] at hin
          clear step hl2
          walk_at "go"
          rw [List.map_append]
          rfl
        · rcases List.mem_append.mp h' with h' | h'
          · exact hl2 l' h'
          · rw [List.mem_singleton.mp h']; exact hlk)
    (ρ := [some (.cel n, .brw), some (.lst (us.map encU), .brw), some (.lst [], .own), none, none, none, none]) (S := S1) ⟨[], none, none, none, none, rfl, fun h => absurd h (Nat.lt_irrefl _), Nat.le_refl _, fun _ h => (by cases h), tp1, sb1⟩
  rw [List.length_map, List.length_range] at hl0 hl1
  rw [seq_nx (f := ba2) (ρ2 := [some (.cel n, .brw), some (.lst (us.map encU), .brw), some (.lst (ls.map encL), .own), x3, x4, x5, x6]) (S2 := S2) (by unfold ba2; rw [q_for, hr1]; exact e2)]
  have hne := hl0 (by omega)
  obtain ⟨z, S3, e3, hz0, hz1, tp3, sb3⟩ := draw_ok (many := 3) tp2 (by decide) (by decide)
  obtain ⟨ls2, S4, h4, hls, tp4, sb4⟩ : ∃ (ls2 : List Ltl) (S4 : Store), ba3 [some (.cel n, .brw), some (.lst (us.map encU), .brw), some (.lst (ls.map encL), .own), x3, x4, x5, x6] S2 = some (.nx [some (.cel n, .brw), some (.lst (us.map encU), .brw), some (.lst (ls2.map encL), .own), x3, x4, x5, x6] S4) ∧ BOk us.length (.any ls2) ∧ TapeAt n S4 ∧ SameBut n S S4 := by
    by_cases h0 : z = 0
    · have hpos : 0 < ls.length := List.length_pos_iff.mpr hne
      obtain ⟨q, S4, e4, hq0, hq1, tp4, sb4⟩ := draw_ok (many := ((ls.length : Nat) : Int)) tp3 (by omega) (by omega)
      have hu : atI (us.map encU) 0 = some (encU us[0]) := at_us (k := 0) h1
      have hu1 := u_1 S3 us[0]
      have hset : ∀ (ρ : Mp.Env) (S : Store) (w : W), ρ[2]? = some (some (.lst (ls.map encL), .own)) → setAt ρ S 2 (.int q) w = some (.nx (ρ.set 2 (some (.lst ((ls.map encL).set q.toNat w), .own))) S) := fun ρ S w hr => set_lst hr hq0 (by rw [List.length_map]; exact hq1)
      have hm : (ls.map encL).set q.toNat (.tup [.int 0, .str ">=", .int us[0].lo]) = (ls.set q.toNat ⟨0, .ge, us[0].lo⟩).map encL := by
        rw [List.map_set]
        rfl
      refine ⟨ls.set q.toNat ⟨0, .ge, us[0].lo⟩, S4, ?_, ⟨?_, by rw [List.length_set]; omega, fun l hl => ?_⟩, tp4, (sb2.trans sb3).trans sb4⟩
      · unfold ba3
        have h0' : decide (z = 0) = true := decide_eq_true h0
        clear h0 hl2 hne hl0 e2 hr1
        walk_at "go"
      · intro h
        have := congrArg List.length h
        rw [List.length_set, List.length_nil] at this
        omega
      · rcases List.mem_or_eq_of_mem_set hl with e | e
        · exact hl2 l e
        · rw [e]; exact ⟨Int.le_refl _, by show (0 : Int) < _; omega⟩
    · refine ⟨ls, S3, ?_, ⟨hne, by omega, hl2⟩, tp3, sb2.trans sb3⟩
      unfold ba3
      have h0' : decide (z = 0) = false := decide_eq_false h0
      clear h0 hl2 hne hl0 e2 hr1
      walk_at "go"
  rw [seq_nx h4]
  refine ⟨ls2, S4, ?_, hls, tp4, sb4⟩
  unfold ba4
  clear h4 e2 hr1 hls hl2 hl0 hne
  walk_at "ev"
  rfl
def bt_1 : CS :=
  cAsg (tName 2) (cCall mDraw (cCons (cVar 0) (cCons (cIx (cLst (cCons (cLit (.int 1)) (cCons (cBin Mp.gSub (cBi gLen (cCons (cVar 1) cNil)) (cLit (.int 5))) cNil))) (cCall mDraw (cCons (cVar 0) (cCons (cLit (.int 2)) cNil)))) cNil)))
def bt_2 : CS :=
  cAsg (tName 3) (cCall mDraw (cCons (cVar 0) (cCons (cLit (.int 6)) cNil)))
def bt_3 : CS :=
  cAsg (tName 4) (cLc (tName 8) (iRange1 (cLit (.int 6))) tYesT (cBin gAdd (cVar 2) (cBin gMod (cBi gInt (cCons (cBin gAdd (cBin gMul (cVar 8) (cLit (.int 5))) (cVar 3)) cNil)) (cLit (.int 6)))) [8])
def bt_4 : CS :=
  cFz [4] (cAsg (tName 5) (cLc (tName 10) (iVar 4) tYesT (cIx (cIx (cVar 1) (cVar 10)) (cLit (.int 1))) [10]))
def bt_5 : CS :=
  cAsg (tName 6) (cBin gAdd (cLit (.int 14)) (cCall mDraw (cCons (cVar 0) (cCons (cLit (.int 3)) cNil))))
def bt_6 : CS :=
  cAsg (tName 7) (cLst cNil)
def bt_7 : CS :=
  cFor (tName 8) (iRange1 (cBin Mp.gSub (cLit (.int 200)) (cCall mDraw (cCons (cVar 0) (cCons (cLit (.int 100)) cNil))))) (cSeq (cAsg (tName 9) (cBin gMod (cBi gInt (cCons (cVar 8) cNil)) (cLit (.int 6))))
  (cApp 7 (cBi gTuple (cCons (cBin gAdd (cBin gAdd (cSl (cVar 5) oNone (oSome (cVar 9))) (cLst (cCons (cBin Mp.gSub (cBin gAdd (cIx (cVar 5) (cVar 9)) (cBin gDiv (cVar 8) (cLit (.int 6)))) (cVar 6)) cNil))) (cSl (cVar 5) (oSome (cBin gAdd (cVar 9) (cLit (.int 1)))) oNone)) cNil))))
def bt_8 : CS :=
  cIfS (cB (cBin (gEq false) (cCall mDraw (cCons (cVar 0) (cCons (cLit (.int 3)) cNil))) (cLit (.int 0)))) (cFz [7] (cAsg (tName 7) (cLc (tName 11) (iVar 7) (cB (cBin (gEq true) (cBi gList (cCons (cVar 11) cNil)) (cVar 5))) (cVar 11) [11]))) (cSkip)
def bt_9 : CS :=
  cRet (cTup (cCons (cLit (.str "table")) (cCons (cBi gTuple (cCons (cVar 4) cNil)) (cCons (cBi gTuple (cCons (cVar 7) cNil)) cNil))))
theorem bt__seq : c_law_big_table = cSeq bt_1 (cSeq bt_2 (cSeq bt_3 (cSeq bt_4 (cSeq bt_5 (cSeq bt_6 (cSeq bt_7 (cSeq bt_8 (bt_9)))))))) := rfl
def nums (first turn : Int) : List Int := (List.range 6).map fun k : Nat => first + (((k : Nat) : Int) * 5 + turn) % 6
theorem nums_ok {n : Nat} {first turn : Int} (h0 : 0 ≤ first) (h1 : first + 5 < n) : VsOk n (nums first turn) := by
  refine ⟨by unfold nums; simp, ?_, fun v hv => ?_⟩
  · unfold nums
    rw [List.Nodup, List.pairwise_map]
    refine List.Pairwise.imp_of_mem (fun {a b} ha hb h => ?_) (List.nodup_range (n := 6))
    have := List.mem_range.mp ha
    have := List.mem_range.mp hb
    omega
  · obtain ⟨k, _, rfl⟩ := List.mem_map.mp hv
    omega
theorem t14_ok {n : Nat} {us : List Un} {S : Store} (tp : TapeAt n S) (h20 : 20 ≤ us.length) (h60 : us.length ≤ 60) (g : CS) : ∃ (first turn : Int) (pt : List Int) (S2 : Store), cSeq bt_1 (cSeq bt_2 (cSeq bt_3 (cSeq bt_4 g))) [some (.cel n, .brw), some (.lst (us.map encU), .brw), none, none, none, none, none, none, none, none, none, none] S = g [some (.cel n, .brw), some (.lst (us.map encU), .brw), some (.int first, .frz), some (.int turn, .frz), some (.lst ((nums first turn).map .int), .frz), some (.lst (pt.map .int), .own), none, none, none, none, none, none] S2 ∧
    VsOk us.length (nums first turn) ∧ pt.length = 6 ∧ TapeAt n S2 ∧ SameBut n S S2 := by
  obtain ⟨d, S1, e1, hd0, hd1, tp1, sb1⟩ := draw_ok (many := 2) tp (by decide) (by decide)
  obtain ⟨m5, hm5, hm1, hm2⟩ : ∃ m5 : Int, atI [W.int 1, W.int (((us.length : Nat) : Int) - 5)] d = some (.int m5) ∧ 0 < m5 ∧ m5 ≤ ((us.length : Nat) : Int) - 5 := by
    have : d = 0 ∨ d = 1 := by omega
    rcases this with rfl | rfl
    · exact ⟨1, by rw [atI_0], by omega, by omega⟩
    · exact ⟨_, by rw [atI_1], by omega, by omega⟩
  obtain ⟨first, S2, e2, hf0, hf1, tp2, sb2⟩ := draw_ok (many := m5) tp1 hm1 (by omega)
  obtain ⟨turn, S3, e3, ht0, ht1, tp3, sb3⟩ := draw_ok (many := 6) tp2 (by decide) (by decide)
  have hno := nums_ok (n := us.length) (turn := turn) hf0 (by omega)
  refine ⟨first, turn, (nums first turn).map (fun v => (us.getD v.toNat ⟨"", 0, 0⟩).lo), S3, ?_, hno, by unfold nums; simp, tp3, (sb1.trans sb2).trans sb3⟩
  rw [seq_nx (f := bt_1) (ρ2 := [some (.cel n, .brw), some (.lst (us.map encU), .brw), some (.int first, .frz), none, none, none, none, none, none, none, none, none]) (S2 := S2) (by unfold bt_1; clear hno; walk_at "go")]
  rw [seq_nx (f := bt_2) (ρ2 := [some (.cel n, .brw), some (.lst (us.map encU), .brw), some (.int first, .frz), some (.int turn, .frz), none, none, none, none, none, none, none, none]) (S2 := S3) (by unfold bt_2; clear hno; walk_at "go")]
  have hr1 : iRange1 (cLit (.int 6)) [some (.cel n, .brw), some (.lst (us.map encU), .brw), some (.int first, .frz), some (.int turn, .frz), none, none, none, none, none, none, none, none] S3 = some ((List.range 6).map fun k : Nat => W.int ((k : Nat) : Int), S3) := by
    refine rng_ok (n := 6) (m := .frz) rfl (by decide)
  rw [seq_nx (f := bt_3) (ρ2 := [some (.cel n, .brw), some (.lst (us.map encU), .brw), some (.int first, .frz), some (.int turn, .frz), some (.lst ((nums first turn).map .int), .own), none, none, none, none, none, none, none]) (S2 := S3) (by
    unfold bt_3
    rw [q_asg, q_lc, hr1]
    dsimp only [bnd_some]
    rw [if_pos (size_ok (by simp))]
    rw [lc_map (enc := fun k : Nat => W.int ((k : Nat) : Int)) (g := fun k : Nat => W.int (first + (((k : Nat) : Int) * 5 + turn) % 6)) fun k hk => ⟨_, .own, by walk_at "ev"; rfl, rfl, by
      have hm : gMul (.int ((k : Nat) : Int)) (.int 5) = some (.int (((k : Nat) : Int) * 5)) := gMul_int (.inr (by omega))
      have hm2 : gMod (.int (((k : Nat) : Int) * 5 + turn)) (.int 6) = some (.int ((((k : Nat) : Int) * 5 + turn) % 6)) := gMod_int (by omega)
      clear hno hr1 hk
      walk_at "go", rfl⟩]
    walk_at "ev"
    unfold nums
    rw [List.map_map]
    rfl)]
  rw [seq_nx (f := bt_4) (ρ2 := [some (.cel n, .brw), some (.lst (us.map encU), .brw), some (.int first, .frz), some (.int turn, .frz), some (.lst ((nums first turn).map .int), .frz), some (.lst (((nums first turn).map (fun v => (us.getD v.toNat ⟨"", 0, 0⟩).lo)).map .int), .own), none, none, none, none, none, none]) (S2 := S3) (by
    unfold bt_4
    rw [q_fz, show [4].foldl frzE [some (.cel n, .brw), some (.lst (us.map encU), .brw), some (.int first, .frz), some (.int turn, .frz), some (.lst ((nums first turn).map .int), .own), none, none, none, none, none, none, none] = [some (.cel n, .brw), some (.lst (us.map encU), .brw), some (.int first, .frz), some (.int turn, .frz), some (.lst ((nums first turn).map .int), .frz), none, none, none, none, none, none, none] from rfl]
    walk_at "ev"
    rw [if_pos (size_ok (by have := hno.1; omega))]
    rw [lc_map (enc := W.int) (g := fun v : Int => W.int (us.getD v.toNat ⟨"", 0, 0⟩).lo) fun v hv => ⟨_, .frz, by walk_at "ev"; rfl, rfl, by
      obtain ⟨hv0, hv1⟩ := hno.2.2 v hv
      have hu : atI (us.map encU) v = some (encU (us.getD v.toNat ⟨"", 0, 0⟩)) := by
        rw [atI_of hv0, List.getElem?_map, List.getElem?_eq_getElem (by omega), List.getD_eq_getElem?_getD, List.getElem?_eq_getElem (by omega)]
        rfl
      have hu1 := u_1 S3 (us.getD v.toNat ⟨"", 0, 0⟩)
      generalize us.getD v.toNat ⟨"", 0, 0⟩ = u at *
      clear hno hv
      walk_at "go", rfl⟩]
    walk_at "ev"
    rw [List.map_map]
    rfl)]
theorem sl_L (p : List Int) (lo hi : Option Int) : gSl (.lst (p.map .int)) lo hi = some (.lst ((cutW p lo hi).map .int)) := by
  show some (W.lst _) = some (W.lst _)
  rw [cut_map]
theorem add_L (p q : List Int) (h : p.length + q.length ≤ 1000) : gAdd (.lst (p.map .int)) (.lst (q.map .int)) = some (.lst ((p ++ q).map .int)) := by
  show (if _ ≤ sizeLine then some (W.lst _) else none) = some (W.lst _)
  rw [if_pos (size_ok (by rw [List.length_map, List.length_map]; omega)), List.map_append]
theorem cut_lo {A : Type} (xs : List A) (w : Nat) (h : w < xs.length) : (cutW xs none (some ((w : Nat) : Int))).length = w := by
  unfold cutW
  rw [HT.sIx_none, HT.sIx_nat, List.length_take, List.length_drop]
  omega
theorem cut_hi {A : Type} (xs : List A) (w : Nat) (h : w < xs.length) : (cutW xs (some (((w : Nat) : Int) + 1)) none).length = xs.length - (w + 1) := by
  unfold cutW
  have e : ((w : Nat) : Int) + 1 = ((w + 1 : Nat) : Int) := by omega
  rw [e, HT.sIx_nat, List.length_take, List.length_drop, HT.sIx_none]
  omega
theorem btab_ok {n : Nat} {us : List Un} {S : Store} (tp : TapeAt n S) (h20 : 20 ≤ us.length) (h60 : us.length ≤ 60) : ∃ (vs : List Int) (rows : List (List Int)) (S2 : Store), m_law_big_table [.cel n, .lst (us.map encU)] S = some ((encB (.tab vs rows), .own), S2) ∧ BOk us.length (.tab vs rows) ∧ TapeAt n S2 ∧ SameBut n S S2 := by
  unfold m_law_big_table
  rw [cFn_run (by rfl)]
  show ∃ vs rows S2, fin (c_law_big_table [some (.cel n, .brw), some (.lst (us.map encU), .brw), none, none, none, none, none, none, none, none, none, none] S) = _ ∧ _
  rw [bt__seq]
  obtain ⟨first, turn, pt, S2, e2, hno, hpt, tp2, sb2⟩ := t14_ok tp h20 h60 (cSeq bt_5 (cSeq bt_6 (cSeq bt_7 (cSeq bt_8 bt_9))))
  rw [e2]
  clear e2
  obtain ⟨d, S3, e3, hd0, hd1, tp3, sb3⟩ := draw_ok (many := 3) tp2 (by decide) (by decide)
  obtain ⟨sh, hsh⟩ : ∃ sh : Int, 14 + d = sh := ⟨_, rfl⟩
  rw [seq_nx (f := bt_5) (ρ2 := [some (.cel n, .brw), some (.lst (us.map encU), .brw), some (.int first, .frz), some (.int turn, .frz), some (.lst ((nums first turn).map .int), .frz), some (.lst (pt.map .int), .own), some (.int sh, .frz), none, none, none, none, none]) (S2 := S3) (by unfold bt_5; clear hno; walk_at "go")]
  rw [seq_nx (f := bt_6) (ρ2 := [some (.cel n, .brw), some (.lst (us.map encU), .brw), some (.int first, .frz), some (.int turn, .frz), some (.lst ((nums first turn).map .int), .frz), some (.lst (pt.map .int), .own), some (.int sh, .frz), some (.lst [], .own), none, none, none, none]) (S2 := S3) (by unfold bt_6; clear hno; walk_at "ev")]
  obtain ⟨q, S4, e4, hq0, hq1, tp4, sb4⟩ := draw_ok (many := 100) tp3 (by decide) (by decide)
  obtain ⟨c, hc⟩ : ∃ c : Nat, 200 - q = ((c : Nat) : Int) := ⟨(200 - q).toNat, by omega⟩
  have hr1 : iRange1 (cBin Mp.gSub (cLit (.int 200)) (cCall mDraw (cCons (cVar 0) (cCons (cLit (.int 100)) cNil)))) [some (.cel n, .brw), some (.lst (us.map encU), .brw), some (.int first, .frz), some (.int turn, .frz), some (.lst ((nums first turn).map .int), .frz), some (.lst (pt.map .int), .own), some (.int sh, .frz), some (.lst [], .own), none, none, none, none] S3 = some ((List.range c).map fun k : Nat => W.int ((k : Nat) : Int), S4) := by
    refine rng_ok (m := .own) ?_ (by omega)
    clear hno
    walk_at "go"
  obtain ⟨ρ2, S5, e5, rows, x8, x9, rfl, hl, hrows, rfl⟩ := for_inv (ws := (List.range c).map fun k : Nat => W.int ((k : Nat) : Int)) (t := (tName 8)) (b := (cSeq (cAsg (tName 9) (cBin gMod (cBi gInt (cCons (cVar 8) cNil)) (cLit (.int 6))))
  (cApp 7 (cBi gTuple (cCons (cBin gAdd (cBin gAdd (cSl (cVar 5) oNone (oSome (cVar 9))) (cLst (cCons (cBin Mp.gSub (cBin gAdd (cIx (cVar 5) (cVar 9)) (cBin gDiv (cVar 8) (cLit (.int 6)))) (cVar 6)) cNil))) (cSl (cVar 5) (oSome (cBin gAdd (cVar 9) (cLit (.int 1)))) oNone)) cNil)))))
    (fun i ρ S5 => ∃ (rows : List (List Int)) (x8 x9 : Option (W × Md)), ρ = [some (.cel n, .brw), some (.lst (us.map encU), .brw), some (.int first, .frz), some (.int turn, .frz), some (.lst ((nums first turn).map .int), .frz), some (.lst (pt.map .int), .own), some (.int sh, .frz), some (.lst (rows.map encP), .own), x8, x9, none, none] ∧ rows.length = i ∧ (∀ row ∈ rows, row.length = 6) ∧ S5 = S4)
    (fun i w ρ S5 hw hI => by
      obtain ⟨rows, x8, x9, rfl, hl, hrows, rfl⟩ := hI
      have hi : i < c := by
        have := (List.getElem?_eq_some_iff.mp hw).1
        simpa using this
      rw [List.getElem?_map, List.getElem?_range hi] at hw
      injection hw with hw
      subst hw
      have hat : ((i : Nat) : Int) % 6 = ((i % 6 : Nat) : Int) := by omega
      have hm2 : gMod (.int ((i : Nat) : Int)) (.int 6) = some (.int ((i % 6 : Nat) : Int)) := by rw [gMod_int (by omega), hat]
      have hlt : i % 6 < pt.length := by omega
      generalize i % 6 = a at hm2 hlt
      have h1 := sl_L pt none (some ((a : Nat) : Int))
      have h2 := sl_L pt (some (((a : Nat) : Int) + 1)) none
      have l1 := cut_lo pt a hlt
      have l2 := cut_hi pt a hlt
      generalize cutW pt none (some ((a : Nat) : Int)) = p1 at *
      generalize cutW pt (some (((a : Nat) : Int) + 1)) none = p2 at *
      have h3 : atI (pt.map W.int) ((a : Nat) : Int) = some (.int (pt.getD a 0)) := at_vs S5 hlt
      have h4 : gDiv (.int ((i : Nat) : Int)) (.int 6) = some (.int (((i : Nat) : Int) / 6)) := gDiv_int (by omega) (by omega)
      obtain ⟨x, hx⟩ : ∃ x, pt.getD a 0 + ((i : Nat) : Int) / 6 - sh = x := ⟨_, rfl⟩
      have h5 : gAdd (.lst (p1.map W.int)) (.lst [.int x]) = some (.lst ((p1 ++ [x]).map .int)) := add_L p1 [x] (by simp only [List.length_singleton]; omega)
      have h6 : gAdd (.lst ((p1 ++ [x]).map W.int)) (.lst (p2.map .int)) = some (.lst (((p1 ++ [x]) ++ p2).map .int)) := add_L (p1 ++ [x]) p2 (by rw [List.length_append]; simp only [List.length_singleton]; omega)
      have hsz : rows.length < sizeLine := size_lt (by omega)
      refine ⟨_, [some (.cel n, .brw), some (.lst (us.map encU), .brw), some (.int first, .frz), some (.int turn, .frz), some (.lst ((nums first turn).map .int), .frz), some (.lst (pt.map .int), .own), some (.int sh, .frz), some (.lst ((rows ++ [(p1 ++ [x]) ++ p2]).map encP), .own), some (.int ((i : Nat) : Int), .frz), some (.int ((a : Nat) : Int), .frz), none, none], S5, by walk_at "ev"; rfl, ?_, rows ++ [(p1 ++ [x]) ++ p2], _, _, rfl, by rw [List.length_append, hl]; rfl, fun row hrow => ?_, rfl⟩
      · rw [seq_nx (ρ2 := [some (.cel n, .brw), some (.lst (us.map encU), .brw), some (.int first, .frz), some (.int turn, .frz), some (.lst ((nums first turn).map .int), .frz), some (.lst (pt.map .int), .own), some (.int sh, .frz), some (.lst (rows.map encP), .own), some (.int ((i : Nat) : Int), .frz), some (.int ((a : Nat) : Int), .frz), none, none]) (S2 := S5) (by clear hno hrows hl hr1 hat; walk_at "go")]
        clear hno hrows hl hr1 hat l1 l2 hlt
        walk_at "go"
        rw [List.map_append (f := encP)]
        rfl
      · rcases List.mem_append.mp hrow with h | h
        · exact hrows row h
        · rw [List.mem_singleton.mp h, List.length_append, List.length_append, l1, l2]
          simp only [List.length_singleton]
          omega)
    (ρ := [some (.cel n, .brw), some (.lst (us.map encU), .brw), some (.int first, .frz), some (.int turn, .frz), some (.lst ((nums first turn).map .int), .frz), some (.lst (pt.map .int), .own), some (.int sh, .frz), some (.lst [], .own), none, none, none, none]) (S := S4) ⟨[], none, none, rfl, rfl, fun _ h => absurd h List.not_mem_nil, rfl⟩
  rw [List.length_map, List.length_range] at hl
  rw [seq_nx (f := bt_7) (ρ2 := [some (.cel n, .brw), some (.lst (us.map encU), .brw), some (.int first, .frz), some (.int turn, .frz), some (.lst ((nums first turn).map .int), .frz), some (.lst (pt.map .int), .own), some (.int sh, .frz), some (.lst (rows.map encP), .own), x8, x9, none, none]) (S2 := S5) (by unfold bt_7; rw [q_for, hr1]; exact e5)]
  obtain ⟨z, S6, e6, hz0, hz1, tp6, sb6⟩ := draw_ok (many := 3) tp4 (by decide) (by decide)
  have fin9 : ∀ (rows : List (List Int)) (m : Md) (x11 : Option (W × Md)), fin (bt_9 [some (.cel n, .brw), some (.lst (us.map encU), .brw), some (.int first, .frz), some (.int turn, .frz), some (.lst ((nums first turn).map .int), .frz), some (.lst (pt.map .int), .own), some (.int sh, .frz), some (.lst (rows.map encP), m), x8, x9, none, x11] S6) = some ((encB (.tab (nums first turn) rows), .own), S6) := fun rows m x11 => by
    unfold bt_9
    cases m <;> walk_at "ev" <;> rfl
  by_cases h0 : z = 0
  · refine ⟨nums first turn, rows.filter fun row => true != eqW (.lst (row.map .int)) (.lst (pt.map .int)), S6, ?_, ⟨hno, by have := List.length_filter_le (fun row => true != eqW (.lst (row.map .int)) (.lst (pt.map .int))) rows; omega, fun row h => ?_⟩, tp6, ((sb2.trans sb3).trans sb4).trans sb6⟩
    · rw [seq_nx (f := bt_8) (ρ2 := [some (.cel n, .brw), some (.lst (us.map encU), .brw), some (.int first, .frz), some (.int turn, .frz), some (.lst ((nums first turn).map .int), .frz), some (.lst (pt.map .int), .own), some (.int sh, .frz), some (.lst ((rows.filter fun row => true != eqW (.lst (row.map .int)) (.lst (pt.map .int))).map encP), .own), x8, x9, none, none]) (S2 := S6) (by
        unfold bt_8
        have h0' : decide (z = 0) = true := decide_eq_true h0
        clear h0 hno hrows hr1 e5 fin9
        rw [q_ifS]
        have e7 : (cB (cBin (gEq false) (cCall mDraw (cCons (cVar 0) (cCons (cLit (.int 3)) cNil))) (cLit (.int 0)))) [some (.cel n, .brw), some (.lst (us.map encU), .brw), some (.int first, .frz), some (.int turn, .frz), some (.lst ((nums first turn).map .int), .frz), some (.lst (pt.map .int), .own), some (.int sh, .frz), some (.lst (rows.map encP), .own), x8, x9, none, none] S5 = some (true, S6) := by walk_at "go"
        rw [e7]
        simp only [bnd_some, if_true]
        rw [q_fz, show [7].foldl frzE [some (.cel n, .brw), some (.lst (us.map encU), .brw), some (.int first, .frz), some (.int turn, .frz), some (.lst ((nums first turn).map .int), .frz), some (.lst (pt.map .int), .own), some (.int sh, .frz), some (.lst (rows.map encP), .own), x8, x9, none, none] = [some (.cel n, .brw), some (.lst (us.map encU), .brw), some (.int first, .frz), some (.int turn, .frz), some (.lst ((nums first turn).map .int), .frz), some (.lst (pt.map .int), .own), some (.int sh, .frz), some (.lst (rows.map encP), .frz), x8, x9, none, none] from rfl]
        rw [q_asg, q_lc]
        walk_at "ev"
        rw [if_pos (size_ok (by omega))]
        rw [lc_filter (enc := encP) (g := encP) (p := fun row => true != eqW (.lst (row.map .int)) (.lst (pt.map .int))) fun row h => ⟨_, .frz, by walk_at "ev"; rfl, by
          have g1 : gList S6 [encP row] = some (.lst (row.map .int)) := rfl
          have g2 := gEq_ok (neg := true) (okPs row) (okPs pt)
          clear h
          walk_at "go", fun _ => ⟨by walk_at "ev", rfl⟩⟩]
        walk_at "ev")]
      exact fin9 _ .own _
    · have := hno
      rw [hrows row (List.mem_filter.mp h).1]
      unfold nums
      simp
  · refine ⟨nums first turn, rows, S6, ?_, ⟨hno, by omega, fun row h => by rw [hrows row h]; unfold nums; simp⟩, tp6, ((sb2.trans sb3).trans sb4).trans sb6⟩
    rw [seq_nx (f := bt_8) (ρ2 := [some (.cel n, .brw), some (.lst (us.map encU), .brw), some (.int first, .frz), some (.int turn, .frz), some (.lst ((nums first turn).map .int), .frz), some (.lst (pt.map .int), .own), some (.int sh, .frz), some (.lst (rows.map encP), .own), x8, x9, none, none]) (S2 := S6) (by
      unfold bt_8
      have h0' : decide (z = 0) = false := decide_eq_false h0
      clear h0 hno hrows hr1 e5 fin9
      walk_at "go")]
    exact fin9 _ .own _
end Lg
/-! big bodies as the laws draw them (printed by mklp.py) -/
namespace Lg
open PySem PySem.Spec PyProof.Rows L2 Mp
local macro_rules | `(tactic| walk_at "ev") => `(tactic| simp -implicitDefEqProofs only [q_lit, q_nil, q_cons, q_var, q_bin, q_tup, q_lst, q_box, q_neg, q_notT, q_andT, q_orT, q_notV, q_andV, q_orV, q_if, q_B, q_ix, q_call, q_bi, q_sl, q_oNone, q_oSome, q_dk, q_dt, q_yesT, q_get2,
  q_lc, q_iExp, q_iVar, q_iEnV, items_tup, items_lst, q_seq, q_skip, q_ret, q_retV, q_ifS, q_asg, q_drop, q_for, q_tName, q_tTup, q_tCons, q_tNil, q_fz, q_frzE, q_app, q_aug, q_setIx, q_wipe0, q_wipe, fin_rt, fin_nx,
  mut_non, mut_bl, mut_int, mut_str, mut_tup, mut_lst, mut_dk, mut_dt, mut_scr, mut_cel, sto_non, sto_bl, sto_int, sto_str, sto_tup, sto_scr, sto_cel, sto_own, sto_frz, md_non, md_bl, md_int, md_str, md_tup, md_lst, md_dk, md_dt, md_scr, md_cel,
  gAdd_int, gAddI_int, gSub_int, gLt_int, gLe_int, gGt_int, gGe_int, gInt_int, gInt_bl, gLen_tup, gLen_lst, gTuple_lst, gTuple_tup, gList_scr, gList_lst, gList_tup, gIx_tup, gIx_lst, gEq_int, gEq_bl, atI_0, atI_1, atI_2, atI_3, atI_4,
  bnd_some, Option.map_some, Option.bind_some, List.getElem?_cons_succ, List.getElem?_cons_zero, List.set_cons_succ, List.set_cons_zero, List.foldl_cons, List.foldl_nil, List.map_cons, List.map_nil, List.length_map, List.length_cons, List.length_nil, List.all_cons, List.all_nil, Bool.and_true, Bool.true_and, and_true, true_and, false_and, and_false,
  size_le, size_lt', Nat.reduceAdd, Nat.reduceLeDiff, Nat.zero_add, ne_eq, decide_eq_true_eq, Int.reduceEq, Int.reduceLT, Int.reduceLE, Int.reduceNeg, decide_true, decide_false, Bool.false_bne, Bool.true_bne, Bool.not_true, Bool.not_false, md_encT, md_encP, md_encL, md_encB, sto_encT, sto_encP, sto_encL, sto_encB, md_encG, md_encU, md_encC, sto_encG, sto_encU, sto_encC, reduceCtorEq, if_false, if_true, ite_true, ite_false, Bool.false_eq_true])
local macro_rules | `(tactic| walk_at "go") => `(tactic| simp -implicitDefEqProofs only [q_lit, q_nil, q_cons, q_var, q_bin, q_tup, q_lst, q_box, q_neg, q_notT, q_andT, q_orT, q_notV, q_andV, q_orV, q_if, q_B, q_ix, q_call, q_bi, q_sl, q_oNone, q_oSome, q_dk, q_dt, q_yesT, q_get2,
  q_lc, q_iExp, q_iVar, q_iEnV, items_tup, items_lst, q_seq, q_skip, q_ret, q_retV, q_ifS, q_asg, q_drop, q_for, q_tName, q_tTup, q_tCons, q_tNil, q_fz, q_frzE, q_app, q_aug, q_setIx, q_wipe0, q_wipe, fin_rt, fin_nx,
  mut_non, mut_bl, mut_int, mut_str, mut_tup, mut_lst, mut_dk, mut_dt, mut_scr, mut_cel, sto_non, sto_bl, sto_int, sto_str, sto_tup, sto_scr, sto_cel, sto_own, sto_frz, md_non, md_bl, md_int, md_str, md_tup, md_lst, md_dk, md_dt, md_scr, md_cel,
  gAdd_int, gAddI_int, gSub_int, gLt_int, gLe_int, gGt_int, gGe_int, gInt_int, gInt_bl, gLen_tup, gLen_lst, gTuple_lst, gTuple_tup, gList_scr, gList_lst, gList_tup, gIx_tup, gIx_lst, gEq_int, gEq_bl, atI_0, atI_1, atI_2, atI_3, atI_4,
  bnd_some, Option.map_some, Option.bind_some, List.getElem?_cons_succ, List.getElem?_cons_zero, List.set_cons_succ, List.set_cons_zero, List.foldl_cons, List.foldl_nil, List.map_cons, List.map_nil, List.length_map, List.length_cons, List.length_nil, List.all_cons, List.all_nil, Bool.and_true, Bool.true_and, and_true, true_and, false_and, and_false,
  size_le, size_lt', Nat.reduceAdd, Nat.reduceLeDiff, Nat.zero_add, ne_eq, decide_eq_true_eq, Int.reduceEq, Int.reduceLT, Int.reduceLE, Int.reduceNeg, decide_true, decide_false, Bool.false_bne, Bool.true_bne, Bool.not_true, Bool.not_false, md_encT, md_encP, md_encL, md_encB, sto_encT, sto_encP, sto_encL, sto_encB, md_encG, md_encU, md_encC, sto_encG, sto_encU, sto_encC, reduceCtorEq, if_false, if_true, ite_true, ite_false, Bool.false_eq_true, *])
def gb1 : CS :=
  cAsg (tName 2) (cBi gLen (cCons (cVar 1) cNil))
def gb2 : CS :=
  cAsg (tName 3) (cCall mDraw (cCons (cVar 0) (cCons (cLit (.int 8)) cNil)))
def gt3 : CT :=
  (cB (cBin (gEq false) (cVar 3) (cLit (.int 0))))
def gb3 : CS :=
  cRet (cCall m_law_big_any (cCons (cVar 0) (cCons (cVar 1) cNil)))
def gt4 : CT :=
  (cB (cBin (gEq false) (cVar 3) (cLit (.int 1))))
def gb4 : CS :=
  cRet (cCall m_law_big_table (cCons (cVar 0) (cCons (cVar 1) cNil)))
def gt5 : CT :=
  (cB (cBin (gEq false) (cVar 3) (cLit (.int 2))))
def gb5 : CS :=
  cRet (cTup (cCons (cLit (.str "different")) (cCons (cSl (cCall m_law_some (cCons (cVar 0) (cCons (cVar 2) (cCons (cBi gMin2 (cCons (cLit (.int 20)) (cCons (cVar 2) cNil))) cNil)))) oNone (oSome (cLit (.int 20)))) cNil)))
def gt6 : CT :=
  (cB (cBin (gEq false) (cVar 3) (cLit (.int 3))))
def gb6 : CS :=
  cSeq (cAsg (tName 6) (cBi gTuple (cCons (cLc (tName 10) (iRange1 (cLit (.int 60))) tYesT (cBin gMod (cBi gInt (cCons (cBin gMul (cVar 10) (cLit (.int 7))) cNil)) (cLit (.int 11))) [10]) cNil)))
  (cRet (cTup (cCons (cLit (.str "element")) (cCons (cLit (.int 0)) (cCons (cVar 6) (cCons (cIx (cLst (cCons (cLit (.int 4)) (cCons (cLit (.int 4)) (cCons (cCall mDraw (cCons (cVar 0) (cCons (cVar 2) cNil))) cNil)))) (cCall mDraw (cCons (cVar 0) (cCons (cLit (.int 3)) cNil)))) cNil))))))
def gt7 : CT :=
  (cB (cBin (gEq false) (cVar 3) (cLit (.int 4))))
def gb7 : CS :=
  cRet (cTup (cCons (cLit (.str "times")) (cCons (cLit (.int 1)) (cCons (cLit (.int 2)) (cCons (cIx (cLst (cCons (cLit (.int 3)) (cCons (cLit (.int 3)) (cCons (cCall mDraw (cCons (cVar 0) (cCons (cVar 2) cNil))) cNil)))) (cCall mDraw (cCons (cVar 0) (cCons (cLit (.int 3)) cNil)))) cNil)))))
def gb8 : CS :=
  cAsg (tTup 3 (tCons (tName 7) (tCons (tName 8) (tCons (tName 9) tNil)))) (cCall m_law_big_linear (cCons (cVar 0) (cCons (cVar 1) cNil)))
def gt9 : CT :=
  (cB (cBin gGt (cVar 3) (cLit (.int 5))))
def gb9 : CS :=
  cRet (cTup (cCons (cLit (.str "row")) (cCons (cVar 7) (cCons (cVar 8) (cCons (cVar 9) cNil)))))
def gb10 : CS :=
  cAsg (tName 4) (cCall mDraw (cCons (cVar 0) (cCons (cVar 2) cNil)))
def gb11 : CS :=
  cAsg (tName 5) (cBin Mp.gSub (cBin gAdd (cIx (cIx (cVar 1) (cVar 4)) (cLit (.int 1))) (cCall mDraw (cCons (cVar 0) (cCons (cLit (.int 3)) cNil)))) (cLit (.int 1)))
def gb12 : CS :=
  cRet (cTup (cCons (cLit (.str "when")) (cCons (cTup (cCons (cVar 4) (cCons (cIx (cLst (cCons (cLit (.str "<=")) (cCons (cLit (.str ">=")) (cCons (cLit (.str "=")) (cCons (cLit (.str "!=")) cNil))))) (cCall mDraw (cCons (cVar 0) (cCons (cLit (.int 4)) cNil)))) (cCons (cVar 5) cNil)))) (cCons (cVar 7) (cCons (cVar 8) (cCons (cVar 9) cNil))))))
theorem bbody_seq : c_law_big_body = cSeq gb1 (cSeq gb2 (cSeq (cIfS gt3 gb3 cSkip) (cSeq (cIfS gt4 gb4 cSkip) (cSeq (cIfS gt5 gb5 cSkip) (cSeq (cIfS gt6 gb6 cSkip) (cSeq (cIfS gt7 gb7 cSkip) (cSeq gb8 (cSeq (cIfS gt9 gb9 cSkip) (cSeq gb10 (cSeq gb11 (gb12))))))))))) := rfl
theorem pick3 {v d : Int} {n : Nat} {k : Int} (hv0 : 0 ≤ v) (hv1 : v < n) (hk0 : 0 ≤ k) (hk1 : k < n) (h0 : 0 ≤ d) (h1 : d < 3) : ∃ z : Int, atI [W.int k, W.int k, W.int v] d = some (.int z) ∧ 0 ≤ z ∧ z < n := by
  have : d = 0 ∨ d = 1 ∨ d = 2 := by omega
  rcases this with rfl | rfl | rfl
  · exact ⟨k, by rw [atI_0], hk0, hk1⟩
  · exact ⟨k, by rw [atI_1], hk0, hk1⟩
  · exact ⟨v, by rw [atI_2], hv0, hv1⟩
theorem gb3_ok {n : Nat} {us : List Un} {S : Store} (tp : TapeAt n S) (h20 : 20 ≤ us.length) (h60 : us.length ≤ 60) : ∃ b S2, gb3 [some (.cel n, .brw), some (.lst (us.map encU), .brw), some (.int ((us.length : Nat) : Int), .frz), some (.int 0, .frz), none, none, none, none, none, none, none] S = some (.rt (encB b, .own) S2) ∧ BOk us.length b ∧ TapeAt n S2 ∧ SameBut n S S2 := by
  obtain ⟨ls, S2, e, hb, tp2, sb2⟩ := bany_ok tp (by omega) h60
  refine ⟨.any ls, S2, ?_, hb, tp2, sb2⟩
  unfold gb3
  clear hb
  walk_at "go"
theorem gb4_ok {n : Nat} {us : List Un} {S : Store} (tp : TapeAt n S) (h20 : 20 ≤ us.length) (h60 : us.length ≤ 60) : ∃ b S2, gb4 [some (.cel n, .brw), some (.lst (us.map encU), .brw), some (.int ((us.length : Nat) : Int), .frz), some (.int 1, .frz), none, none, none, none, none, none, none] S = some (.rt (encB b, .own) S2) ∧ BOk us.length b ∧ TapeAt n S2 ∧ SameBut n S S2 := by
  obtain ⟨vs, rows, S2, e, hb, tp2, sb2⟩ := btab_ok tp h20 h60
  refine ⟨.tab vs rows, S2, ?_, hb, tp2, sb2⟩
  unfold gb4
  clear hb
  walk_at "go"
theorem gb5_ok {n : Nat} {us : List Un} {S : Store} (tp : TapeAt n S) (h20 : 20 ≤ us.length) (h60 : us.length ≤ 60) : ∃ b S2, gb5 [some (.cel n, .brw), some (.lst (us.map encU), .brw), some (.int ((us.length : Nat) : Int), .frz), some (.int 2, .frz), none, none, none, none, none, none, none] S = some (.rt (encB b, .own) S2) ∧ BOk us.length b ∧ TapeAt n S2 ∧ SameBut n S S2 := by
  obtain ⟨vs, S2, e, ⟨ws, hp⟩, hl, tp2, sb2⟩ := some_ok (least := 20) tp h60 (by omega) (by omega)
  refine ⟨.dif (vs.take 20), S2, ?_, (VsOk.of hp h60).take 20, tp2, sb2⟩
  have hm : ∀ S, gMin2 S [.int 20, .int ((us.length : Nat) : Int)] = some (.int 20) := fun S => by
    show some (W.int _) = _
    rw [if_neg (by omega)]
  have hsl : gSl (encP vs) none (some 20) = some (encP (vs.take 20)) := sl_take vs 20
  unfold gb5
  clear hp hl
  walk_at "go"
  rfl
theorem gb7_ok {n : Nat} {us : List Un} {S : Store} (tp : TapeAt n S) (h20 : 20 ≤ us.length) (h60 : us.length ≤ 60) : ∃ b S2, gb7 [some (.cel n, .brw), some (.lst (us.map encU), .brw), some (.int ((us.length : Nat) : Int), .frz), some (.int 4, .frz), none, none, none, none, none, none, none] S = some (.rt (encB b, .own) S2) ∧ BOk us.length b ∧ TapeAt n S2 ∧ SameBut n S S2 := by
  obtain ⟨v, S2, e, hv0, hv1, tp2, sb2⟩ := draw_ok (many := ((us.length : Nat) : Int)) tp (by omega) (by omega)
  obtain ⟨d, S3, e3, hd0, hd1, tp3, sb3⟩ := draw_ok (many := 3) tp2 (by decide) (by decide)
  obtain ⟨z, hz, hz0, hz1⟩ := pick3 (k := 3) hv0 hv1 (by omega) (by omega) hd0 hd1
  refine ⟨.tim 1 2 z, S3, ?_, ⟨by omega, by omega, by omega⟩, tp3, sb2.trans sb3⟩
  unfold gb7
  walk_at "go"
  rfl
theorem gb6_ok {n : Nat} {us : List Un} {S : Store} (tp : TapeAt n S) (h20 : 20 ≤ us.length) (h60 : us.length ≤ 60) : ∃ b S2, gb6 [some (.cel n, .brw), some (.lst (us.map encU), .brw), some (.int ((us.length : Nat) : Int), .frz), some (.int 3, .frz), none, none, none, none, none, none, none] S = some (.rt (encB b, .own) S2) ∧ BOk us.length b ∧ TapeAt n S2 ∧ SameBut n S S2 := by
  obtain ⟨v, S2, e, hv0, hv1, tp2, sb2⟩ := draw_ok (many := ((us.length : Nat) : Int)) tp (by omega) (by omega)
  obtain ⟨d, S3, e3, hd0, hd1, tp3, sb3⟩ := draw_ok (many := 3) tp2 (by decide) (by decide)
  obtain ⟨z, hz, hz0, hz1⟩ := pick3 (k := 4) hv0 hv1 (by omega) (by omega) hd0 hd1
  obtain ⟨es, hes⟩ : ∃ es : List Int, es = (List.range 60).map fun k : Nat => ((k : Nat) : Int) * 7 % 11 := ⟨_, rfl⟩
  have hel : es.length = 60 := by rw [hes]; simp
  refine ⟨.ele 0 es z, S3, ?_, ⟨by omega, ⟨hz0, hz1⟩, by omega⟩, tp3, sb2.trans sb3⟩
  unfold gb6
  have hr1 : iRange1 (cLit (.int 60)) [some (.cel n, .brw), some (.lst (us.map encU), .brw), some (.int ((us.length : Nat) : Int), .frz), some (.int 3, .frz), none, none, none, none, none, none, none] S = some ((List.range 60).map fun k : Nat => W.int ((k : Nat) : Int), S) := rng_ok (n := 60) (m := .frz) rfl (by decide)
  have hc : cLc (tName 10) (iRange1 (cLit (.int 60))) tYesT (cBin gMod (cBi gInt (cCons (cBin gMul (cVar 10) (cLit (.int 7))) cNil)) (cLit (.int 11))) [10] [some (.cel n, .brw), some (.lst (us.map encU), .brw), some (.int ((us.length : Nat) : Int), .frz), some (.int 3, .frz), none, none, none, none, none, none, none] S = some ((.lst (es.map .int), .own), S) := by
    rw [q_lc, hr1]
    dsimp only [bnd_some]
    rw [if_pos (size_ok (by simp))]
    rw [lc_map (enc := fun k : Nat => W.int ((k : Nat) : Int)) (g := fun k : Nat => W.int (((k : Nat) : Int) * 7 % 11)) fun k hk => ⟨_, .own, by walk_at "ev"; rfl, rfl, by
      have hm : gMul (.int ((k : Nat) : Int)) (.int 7) = some (.int (((k : Nat) : Int) * 7)) := gMul_int (.inr (by omega))
      have hm2 : gMod (.int (((k : Nat) : Int) * 7)) (.int 11) = some (.int ((((k : Nat) : Int) * 7) % 11)) := gMod_int (by omega)
      clear hr1 hk hes
      walk_at "go", rfl⟩]
    walk_at "ev"
    rw [hes, List.map_map]
    rfl
  rw [seq_nx (ρ2 := [some (.cel n, .brw), some (.lst (us.map encU), .brw), some (.int ((us.length : Nat) : Int), .frz), some (.int 3, .frz), none, none, some (encP es, .frz), none, none, none, none]) (S2 := S) (by
    rw [q_asg, q_bi, q_cons, hc]
    walk_at "ev"
    rfl)]
  clear hes hc hr1 hel
  walk_at "go"
  rfl
theorem bbody_ok {n : Nat} {us : List Un} {S : Store} (tp : TapeAt n S) (h20 : 20 ≤ us.length) (h60 : us.length ≤ 60) : ∃ b S2, m_law_big_body [.cel n, .lst (us.map encU)] S = some ((encB b, .own), S2) ∧ BOk us.length b ∧ TapeAt n S2 ∧ SameBut n S S2 := by
  suffices h : ∃ b S2, c_law_big_body [some (.cel n, .brw), some (.lst (us.map encU), .brw), none, none, none, none, none, none, none, none, none] S = some (.rt (encB b, .own) S2) ∧ BOk us.length b ∧ TapeAt n S2 ∧ SameBut n S S2 by
    obtain ⟨b, S2, e, hb, tp2, sb2⟩ := h
    refine ⟨b, S2, ?_, hb, tp2, sb2⟩
    unfold m_law_big_body
    rw [cFn_run (by rfl)]
    show fin (c_law_big_body [some (.cel n, .brw), some (.lst (us.map encU), .brw), none, none, none, none, none, none, none, none, none] S) = _
    rw [e, fin_rt, sto_own, if_pos rfl]
  obtain ⟨k, S2, e, hk0, hk1, tp2, sb2⟩ := draw_ok (many := 8) tp (by decide) (by decide)
  rw [bbody_seq]
  rw [seq_nx (f := gb1) (ρ2 := [some (.cel n, .brw), some (.lst (us.map encU), .brw), some (.int ((us.length : Nat) : Int), .frz), none, none, none, none, none, none, none, none]) (S2 := S) (by unfold gb1; walk_at "ev")]
  rw [seq_nx (f := gb2) (ρ2 := [some (.cel n, .brw), some (.lst (us.map encU), .brw), some (.int ((us.length : Nat) : Int), .frz), some (.int k, .frz), none, none, none, none, none, none, none]) (S2 := S2) (by unfold gb2; walk_at "go")]
  have fin : ∀ (f : CS), (∃ b S3, f [some (.cel n, .brw), some (.lst (us.map encU), .brw), some (.int ((us.length : Nat) : Int), .frz), some (.int k, .frz), none, none, none, none, none, none, none] S2 = some (.rt (encB b, .own) S3) ∧ BOk us.length b ∧ TapeAt n S3 ∧ SameBut n S2 S3) → ∃ b S3, f [some (.cel n, .brw), some (.lst (us.map encU), .brw), some (.int ((us.length : Nat) : Int), .frz), some (.int k, .frz), none, none, none, none, none, none, none] S2 = some (.rt (encB b, .own) S3) ∧ BOk us.length b ∧ TapeAt n S3 ∧ SameBut n S S3 := fun f ⟨b, S4, e4, hb, tp4, sb4⟩ => ⟨b, S4, e4, hb, tp4, sb2.trans sb4⟩
  refine fin _ ?_
  have hk : k = 0 ∨ k = 1 ∨ k = 2 ∨ k = 3 ∨ k = 4 ∨ (k = 5 ∨ k = 6 ∨ k = 7) := by omega
  rcases hk with rfl | rfl | rfl | rfl | rfl | hk
  · obtain ⟨b, S4, e4, h4⟩ := gb3_ok tp2 h20 h60
    exact ⟨b, S4, seq_if_t (t := gt3) (by unfold gt3; walk_at "ev") e4, h4⟩
  · obtain ⟨b, S4, e4, h4⟩ := gb4_ok tp2 h20 h60
    rw [seq_if_f (t := gt3) (by unfold gt3; walk_at "ev")]
    exact ⟨b, S4, seq_if_t (t := gt4) (by unfold gt4; walk_at "ev") e4, h4⟩
  · obtain ⟨b, S4, e4, h4⟩ := gb5_ok tp2 h20 h60
    rw [seq_if_f (t := gt3) (by unfold gt3; walk_at "ev"), seq_if_f (t := gt4) (by unfold gt4; walk_at "ev")]
    exact ⟨b, S4, seq_if_t (t := gt5) (by unfold gt5; walk_at "ev") e4, h4⟩
  · obtain ⟨b, S4, e4, h4⟩ := gb6_ok tp2 h20 h60
    rw [seq_if_f (t := gt3) (by unfold gt3; walk_at "ev"), seq_if_f (t := gt4) (by unfold gt4; walk_at "ev"), seq_if_f (t := gt5) (by unfold gt5; walk_at "ev")]
    exact ⟨b, S4, seq_if_t (t := gt6) (by unfold gt6; walk_at "ev") e4, h4⟩
  · obtain ⟨b, S4, e4, h4⟩ := gb7_ok tp2 h20 h60
    rw [seq_if_f (t := gt3) (by unfold gt3; walk_at "ev"), seq_if_f (t := gt4) (by unfold gt4; walk_at "ev"), seq_if_f (t := gt5) (by unfold gt5; walk_at "ev"), seq_if_f (t := gt6) (by unfold gt6; walk_at "ev")]
    exact ⟨b, S4, seq_if_t (t := gt7) (by unfold gt7; walk_at "ev") e4, h4⟩
  · rw [seq_if_f (t := gt3) (by unfold gt3; rcases hk with rfl | rfl | rfl <;> walk_at "ev"), seq_if_f (t := gt4) (by unfold gt4; rcases hk with rfl | rfl | rfl <;> walk_at "ev"), seq_if_f (t := gt5) (by unfold gt5; rcases hk with rfl | rfl | rfl <;> walk_at "ev"), seq_if_f (t := gt6) (by unfold gt6; rcases hk with rfl | rfl | rfl <;> walk_at "ev"), seq_if_f (t := gt7) (by unfold gt7; rcases hk with rfl | rfl | rfl <;> walk_at "ev")]
    obtain ⟨ts, r, c, S3, e3, hts, hr, tp3, sb3⟩ := linear_ok tp2 h60
    rw [seq_nx (f := gb8) (ρ2 := [some (.cel n, .brw), some (.lst (us.map encU), .brw), some (.int ((us.length : Nat) : Int), .frz), some (.int k, .frz), none, none, none, some (encT ts, .frz), some (.str (rlS r), .frz), some (.int c, .frz), none]) (S2 := S3) (by unfold gb8; clear hts hr hk fin; walk_at "go")]
    by_cases h5 : k = 5
    · subst h5
      rw [seq_if_f (t := gt9) (by unfold gt9; walk_at "ev")]
      obtain ⟨v, S4, e4, hv0, hv1, tp4, sb4⟩ := draw_ok (many := ((us.length : Nat) : Int)) tp3 (by omega) (by omega)
      obtain ⟨v, rfl⟩ : ∃ k : Nat, v = ((k : Nat) : Int) := ⟨v.toNat, by omega⟩
      have hv : v < us.length := by omega
      have hu := at_us hv
      have hu1 := u_1 S4 us[v]
      obtain ⟨d, S5, e5, hd0, hd1, tp5, sb5⟩ := draw_ok (many := 3) tp4 (by decide) (by decide)
      obtain ⟨q, S6, e6, hq0, hq1, tp6, sb6⟩ := draw_ok (many := 4) tp5 (by decide) (by decide)
      obtain ⟨r2, hr2⟩ := rl_ix4 q hq0 hq1
      rw [seq_nx (f := gb10) (ρ2 := [some (.cel n, .brw), some (.lst (us.map encU), .brw), some (.int ((us.length : Nat) : Int), .frz), some (.int 5, .frz), some (.int ((v : Nat) : Int), .frz), none, none, some (encT ts, .frz), some (.str (rlS r), .frz), some (.int c, .frz), none]) (S2 := S4) (by unfold gb10; clear hts hr fin; walk_at "go")]
      rw [seq_nx (f := gb11) (ρ2 := [some (.cel n, .brw), some (.lst (us.map encU), .brw), some (.int ((us.length : Nat) : Int), .frz), some (.int 5, .frz), some (.int ((v : Nat) : Int), .frz), some (.int (us[v].lo + d - 1), .frz), none, some (encT ts, .frz), some (.str (rlS r), .frz), some (.int c, .frz), none]) (S2 := S5) (by unfold gb11; clear hts hr fin; walk_at "go")]
      refine ⟨.whn ⟨((v : Nat) : Int), r2, us[v].lo + d - 1⟩ ts r c, S6, ?_, ⟨⟨by simp only; omega, by simp only; omega⟩, hts, hr⟩, tp6, ((sb3.trans sb4).trans sb5).trans sb6⟩
      unfold gb12
      clear hts hr fin
      walk_at "go"
      rfl
    · refine ⟨.row ts r c, S3, seq_if_t (t := gt9) (by unfold gt9; rcases hk with rfl | rfl | rfl; exact absurd rfl h5; walk_at "ev"; walk_at "ev") ?_, ⟨hts, hr⟩, tp3, sb3⟩
      unfold gb9
      clear hts hr fin hk h5
      walk_at "ev"
      rfl
end Lg
/-! what many laws share (printed by mkpr.py) -/
namespace Mp
open PySem PySem.Spec PyProof.Rows L2
section
variable (ρ : Env) (S : Store)
theorem qn_chain (g g' : W → W → Option W) (fa fb fc : CE) : cChain g g' fa fb fc ρ S = bnd (fa ρ S) fun a S => bnd (fb ρ S) fun b S => match g a.1 b.1 with
  | some (.bl t) => if t = true then bnd (fc ρ S) fun c S => (g' b.1 c.1).map fun z => ((z, Md.own), S) else some ((.bl false, .own), S)
  | _ => none := rfl
theorem q_getN1 (fd fk : CE) : cGetN1 fd fk ρ S = bnd (fd ρ S) fun d S => if isDn S d.1 = true then bnd (fk ρ S) fun k S => match dnS S d.1 k.1 with
  | some o => some ((o.getD .non, .frz), S)
  | none => none
  else none := rfl
theorem q_setN (i : Nat) (fk fe : CE) : cSetN i fk fe ρ S = bnd (fe ρ S) fun r S => bnd (fk ρ S) fun k S => if sto r = true then (match ρ[i]? with
  | some (some (.dn kws, .own)) => (dnPut kws k.1 r.1).map fun d => .nx (ρ.set i (some (d, .own))) S
  | _ => none) else none := rfl
end
theorem gGcd_int (S : Store) (i j : Int) : gGcd S [.int i, .int j] = some (.int ((Nat.gcd i.natAbs j.natAbs : Nat) : Int)) := rfl
theorem gIsN_non (neg : Bool) (a : W) : gIsN neg a .non = some (.bl (neg != isNon a)) := rfl
theorem gIsN_int (neg : Bool) (i : Int) : gIsN neg (.int i) .non = some (.bl (neg != false)) := rfl
theorem isNon_non : isNon .non = true := rfl
theorem isNon_int (i : Int) : isNon (.int i) = false := rfl
end Mp
namespace Lg
open PySem PySem.Spec PyProof.Rows L2 Mp
theorem kq_row_row : gEq false (.str "row") (.str "row") = some (.bl true) := kd_eq .row .row
theorem kq_row_any : gEq false (.str "row") (.str "any") = some (.bl false) := kd_eq .row .any
theorem kq_row_whn : gEq false (.str "row") (.str "when") = some (.bl false) := kd_eq .row .whn
theorem kq_row_dif : gEq false (.str "row") (.str "different") = some (.bl false) := kd_eq .row .dif
theorem kq_row_tab : gEq false (.str "row") (.str "table") = some (.bl false) := kd_eq .row .tab
theorem kq_row_ele : gEq false (.str "row") (.str "element") = some (.bl false) := kd_eq .row .ele
theorem kq_row_tim : gEq false (.str "row") (.str "times") = some (.bl false) := kd_eq .row .tim
theorem kq_any_row : gEq false (.str "any") (.str "row") = some (.bl false) := kd_eq .any .row
theorem kq_any_any : gEq false (.str "any") (.str "any") = some (.bl true) := kd_eq .any .any
theorem kq_any_whn : gEq false (.str "any") (.str "when") = some (.bl false) := kd_eq .any .whn
theorem kq_any_dif : gEq false (.str "any") (.str "different") = some (.bl false) := kd_eq .any .dif
theorem kq_any_tab : gEq false (.str "any") (.str "table") = some (.bl false) := kd_eq .any .tab
theorem kq_any_ele : gEq false (.str "any") (.str "element") = some (.bl false) := kd_eq .any .ele
theorem kq_any_tim : gEq false (.str "any") (.str "times") = some (.bl false) := kd_eq .any .tim
theorem kq_whn_row : gEq false (.str "when") (.str "row") = some (.bl false) := kd_eq .whn .row
theorem kq_whn_any : gEq false (.str "when") (.str "any") = some (.bl false) := kd_eq .whn .any
theorem kq_whn_whn : gEq false (.str "when") (.str "when") = some (.bl true) := kd_eq .whn .whn
theorem kq_whn_dif : gEq false (.str "when") (.str "different") = some (.bl false) := kd_eq .whn .dif
theorem kq_whn_tab : gEq false (.str "when") (.str "table") = some (.bl false) := kd_eq .whn .tab
theorem kq_whn_ele : gEq false (.str "when") (.str "element") = some (.bl false) := kd_eq .whn .ele
theorem kq_whn_tim : gEq false (.str "when") (.str "times") = some (.bl false) := kd_eq .whn .tim
theorem kq_dif_row : gEq false (.str "different") (.str "row") = some (.bl false) := kd_eq .dif .row
theorem kq_dif_any : gEq false (.str "different") (.str "any") = some (.bl false) := kd_eq .dif .any
theorem kq_dif_whn : gEq false (.str "different") (.str "when") = some (.bl false) := kd_eq .dif .whn
theorem kq_dif_dif : gEq false (.str "different") (.str "different") = some (.bl true) := kd_eq .dif .dif
theorem kq_dif_tab : gEq false (.str "different") (.str "table") = some (.bl false) := kd_eq .dif .tab
theorem kq_dif_ele : gEq false (.str "different") (.str "element") = some (.bl false) := kd_eq .dif .ele
theorem kq_dif_tim : gEq false (.str "different") (.str "times") = some (.bl false) := kd_eq .dif .tim
theorem kq_tab_row : gEq false (.str "table") (.str "row") = some (.bl false) := kd_eq .tab .row
theorem kq_tab_any : gEq false (.str "table") (.str "any") = some (.bl false) := kd_eq .tab .any
theorem kq_tab_whn : gEq false (.str "table") (.str "when") = some (.bl false) := kd_eq .tab .whn
theorem kq_tab_dif : gEq false (.str "table") (.str "different") = some (.bl false) := kd_eq .tab .dif
theorem kq_tab_tab : gEq false (.str "table") (.str "table") = some (.bl true) := kd_eq .tab .tab
theorem kq_tab_ele : gEq false (.str "table") (.str "element") = some (.bl false) := kd_eq .tab .ele
theorem kq_tab_tim : gEq false (.str "table") (.str "times") = some (.bl false) := kd_eq .tab .tim
theorem kq_ele_row : gEq false (.str "element") (.str "row") = some (.bl false) := kd_eq .ele .row
theorem kq_ele_any : gEq false (.str "element") (.str "any") = some (.bl false) := kd_eq .ele .any
theorem kq_ele_whn : gEq false (.str "element") (.str "when") = some (.bl false) := kd_eq .ele .whn
theorem kq_ele_dif : gEq false (.str "element") (.str "different") = some (.bl false) := kd_eq .ele .dif
theorem kq_ele_tab : gEq false (.str "element") (.str "table") = some (.bl false) := kd_eq .ele .tab
theorem kq_ele_ele : gEq false (.str "element") (.str "element") = some (.bl true) := kd_eq .ele .ele
theorem kq_ele_tim : gEq false (.str "element") (.str "times") = some (.bl false) := kd_eq .ele .tim
theorem kq_tim_row : gEq false (.str "times") (.str "row") = some (.bl false) := kd_eq .tim .row
theorem kq_tim_any : gEq false (.str "times") (.str "any") = some (.bl false) := kd_eq .tim .any
theorem kq_tim_whn : gEq false (.str "times") (.str "when") = some (.bl false) := kd_eq .tim .whn
theorem kq_tim_dif : gEq false (.str "times") (.str "different") = some (.bl false) := kd_eq .tim .dif
theorem kq_tim_tab : gEq false (.str "times") (.str "table") = some (.bl false) := kd_eq .tim .tab
theorem kq_tim_ele : gEq false (.str "times") (.str "element") = some (.bl false) := kd_eq .tim .ele
theorem kq_tim_tim : gEq false (.str "times") (.str "times") = some (.bl true) := kd_eq .tim .tim
theorem b_row (ts : Lg.Tm) (r : Rl) (c : Int) : encB (.row ts r c) = .tup [.str "row", encT ts, .str (rlS r), .int c] := rfl
theorem b_any (ls : List Ltl) : encB (.any ls) = .tup [.str "any", .tup (ls.map encL)] := rfl
theorem b_whn (l : Ltl) (ts : Lg.Tm) (r : Rl) (c : Int) : encB (.whn l ts r c) = .tup [.str "when", encL l, encT ts, .str (rlS r), .int c] := rfl
theorem b_dif (vs : List Int) : encB (.dif vs) = .tup [.str "different", encP vs] := rfl
theorem b_tab (vs : List Int) (rows : List (List Int)) : encB (.tab vs rows) = .tup [.str "table", encP vs, .tup (rows.map encP)] := rfl
theorem b_ele (i : Int) (es : List Int) (j : Int) : encB (.ele i es j) = .tup [.str "element", .int i, encP es, .int j] := rfl
theorem b_tim (x y z : Int) : encB (.tim x y z) = .tup [.str "times", .int x, .int y, .int z] := rfl
theorem l_0 (S : Store) (l : Ltl) : gIx S (encL l) (.int 0) = some (.int l.v) := rfl
theorem gLen_T (S : Store) (ts : Lg.Tm) : gLen S [encT ts] = some (.int ((ts.length : Nat) : Int)) := by show some (W.int _) = _; rw [List.length_map]
theorem items_T (ts : Lg.Tm) : itemsOf (encT ts) = some (ts.map fun p => .tup [.int p.1, .int p.2]) := rfl
theorem items_P (p : List Int) : itemsOf (encP p) = some (p.map W.int) := rfl
theorem rl_ge' (r : Rl) : gEq true (.str (rlS r)) (.str ">=") = some (.bl (!decide (r = .ge))) := by
  cases r <;> rw [gEq_str (by decide +kernel) (by decide +kernel)] <;> rfl
theorem rl_le' (r : Rl) : gEq true (.str (rlS r)) (.str "<=") = some (.bl (!decide (r = .le))) := by
  cases r <;> rw [gEq_str (by decide +kernel) (by decide +kernel)] <;> rfl
theorem rl_eq' (r : Rl) : gEq true (.str (rlS r)) (.str "=") = some (.bl (!decide (r = .eq))) := by
  cases r <;> rw [gEq_str (by decide +kernel) (by decide +kernel)] <;> rfl
theorem g0n (S : Store) (b : Bd) : gIx S (encB b) (.int 0) = some (.str (kdS (kdOf b))) := g0 S b
theorem kd_ne (k k' : Kd) : gEq true (.str (kdS k)) (.str (kdS k')) = some (.bl (!decide (k = k'))) := by
  rw [gEq_str (kd_ok k) (kd_ok k')]
  cases k <;> cases k' <;> rfl
theorem kd_ne_row (k : Kd) : gEq true (.str (kdS k)) (.str "row") = some (.bl (!decide (k = .row))) := kd_ne k .row
theorem kd_eq_row (k : Kd) : gEq false (.str (kdS k)) (.str "row") = some (.bl (decide (k = .row))) := kd_eq k .row
/-- a comprehension that draws, over encoded items -/
theorem lc_enc {A B : Type} {t : CG} {c : CT} {f : CE} {ρ : Mp.Env} {I : Store → Prop} {R : A → B → Prop} {ex : A → W} {ey : B → W} : ∀ {xs : List A} {S : Store}, I S →
    (∀ x ∈ xs, ∀ S, I S → ∃ ρ1 y m S2, t (ex x, .frz) ρ = some ρ1 ∧ c ρ1 S = some (true, S) ∧ f ρ1 S = some ((ey y, m), S2) ∧ sto (ey y, m) = true ∧ I S2 ∧ R x y) → ∃ ys S2, lcL t c f ρ (xs.map ex) S = some (ys.map ey, S2) ∧ I S2 ∧ Paired R xs ys
  | [], S, hI, _ => ⟨[], S, rfl, hI, .nil⟩
  | x :: xs, S, hI, h => by
    obtain ⟨ρ1, y, m, S2, h1, h2, h3, h4, h5, h6⟩ := h x List.mem_cons_self S hI
    obtain ⟨ys, S3, h7, h8, h9⟩ := lc_enc h5 fun y hy => h y (List.mem_cons_of_mem _ hy)
    refine ⟨y :: ys, S3, ?_, h8, .cons h6 h9⟩
    rw [List.map_cons, lc_cons, h1]
    simp only [h2, bnd_some, if_true, h3, h4]
    rw [h7]; rfl
theorem pair_all {A B : Type} {R : A → B → Prop} {P : B → Prop} {xs : List A} {ys : List B} (h : Paired R xs ys) (f : ∀ x ∈ xs, ∀ y, R x y → P y) : ys.length = xs.length ∧ ∀ y ∈ ys, P y := by
  induction h with
  | nil => exact ⟨rfl, fun y hy => by cases hy⟩
  | @cons x y xs ys r t ih =>
    obtain ⟨h1, h2⟩ := ih fun x hx => f x (List.mem_cons_of_mem _ hx)
    refine ⟨by simp [h1], fun z hz => ?_⟩
    rcases List.mem_cons.mp hz with rfl | hz
    · exact f _ List.mem_cons_self _ r
    · exact h2 z hz
theorem pair_at {A B : Type} {R : A → B → Prop} {xs : List A} {ys : List B} (h : Paired R xs ys) (i : Nat) (hi : i < xs.length) (hj : i < ys.length) : R xs[i] ys[i] := by
  induction h generalizing i with
  | nil => simp at hi
  | cons r t ih =>
    cases i with
    | zero => exact r
    | succ i => exact ih i _ _
theorem fold_add (f : Int × Int → Int) : ∀ (ts : Lg.Tm) (a : Int), ts.foldl (fun s t => s + f t) a = a + ts.foldl (fun s t => s + f t) 0
  | [], a => by simp
  | t :: ts, a => by
    rw [List.foldl_cons, List.foldl_cons, fold_add f ts, fold_add f ts (0 + f t)]
    omega
theorem tsum_cons (t : Int × Int) (ts : Lg.Tm) (p : List Int) : tsum (t :: ts) p = t.2 * at' p t.1 + tsum ts p := by
  show List.foldl _ _ (_ :: ts) = _
  rw [List.foldl_cons, fold_add (fun t => t.2 * p.getD t.1.toNat 0)]
  show 0 + t.2 * p.getD t.1.toNat 0 + tsum ts p = t.2 * p.getD t.1.toNat 0 + tsum ts p
  omega
theorem enum_range {A : Type} (f : A → W) (d : A) (gs : List A) : enumW (gs.map f) = (List.range gs.length).map fun k => .tup [.int ((k : Nat) : Int), f (gs.getD k d)] := by
  refine List.ext_getElem? fun i => ?_
  rw [enumW_get, List.getElem?_map, List.getElem?_map]
  by_cases h : i < gs.length
  · have e : gs.getD i d = gs[i] := by rw [List.getD_eq_getElem?_getD, List.getElem?_eq_getElem h]; rfl
    rw [List.getElem?_range h, List.getElem?_eq_getElem h, Option.map_some, Option.map_some, Option.map_some, e]
  · rw [List.getElem?_eq_none (by omega), List.getElem?_eq_none (by rw [List.length_range]; omega)]
    rfl
theorem draw3 {n : Nat} {S : Store} {many : Int} (t : TapeAt n S) (h0 : 0 < many) (h1 : many < 1073741824) : ∃ d S', mDraw [.cel n, .int many] S = some ((.int d, .frz), S') ∧ 0 ≤ d ∧ d < many ∧ TapeAt n S' := by
  obtain ⟨d, S2, e, hd0, hd1, tp2, sb2⟩ := draw_ok (many := many) t h0 h1
  exact ⟨d, S2, e, hd0, hd1, tp2⟩
end Lg
/-! == of encoded things; dicts; shared by many laws -/
namespace Mp
open PySem PySem.Spec PyProof.Rows L2
theorem eqW_tup (a b : List W) : eqW (.tup a) (.tup b) = eqWs a b := by
  unfold eqW eqWs toD
  cases h1 : toDs a with
  | none => rfl
  | some ds =>
    cases h2 : toDs b with
    | none => rfl
    | some es => rfl
theorem eqW_lst (a b : List W) : eqW (.lst a) (.lst b) = eqWs a b := by
  unfold eqW eqWs toD
  cases h1 : toDs a with
  | none => rfl
  | some ds =>
    cases h2 : toDs b with
    | none => rfl
    | some es => rfl
theorem eqWs_nil : eqWs [] [] = true := rfl
theorem eqWs_nc (b : W) (bs : List W) : eqWs [] (b :: bs) = false := by
  unfold eqWs
  rw [show toDs [] = some [] from rfl]
  cases h : toDs (b :: bs) with
  | none => rfl
  | some ds =>
    unfold toDs at h
    split at h
    · cases h; rfl
    · cases h
theorem eqWs_cn (a : W) (as : List W) : eqWs (a :: as) [] = false := by
  unfold eqWs
  rw [show toDs [] = some [] from rfl]
  cases h : toDs (a :: as) with
  | none => rfl
  | some ds =>
    unfold toDs at h
    split at h
    · cases h; rfl
    · cases h
theorem toDs_cons (w : W) (ws : List W) : toDs (w :: ws) = (match toD w, toDs ws with | some d, some ds => some (d :: ds) | _, _ => none) := by rw [toDs] <;> rfl
theorem eqWs_cons (a b : W) (as bs : List W) : eqWs (a :: as) (b :: bs) = (eqW a b && eqWs as bs) := by
  unfold eqWs eqW
  rw [toDs_cons, toDs_cons]
  cases toD a <;> cases toDs as <;> cases toD b <;> cases toDs bs <;> simp [PyData.eqvAll]
theorem eqWs_map {A : Type} [DecidableEq A] (f : A → W) (h : ∀ a b, eqW (f a) (f b) = decide (a = b)) : ∀ xs ys : List A, eqWs (xs.map f) (ys.map f) = decide (xs = ys)
  | [], [] => rfl
  | [], y :: ys => by rw [List.map_nil, List.map_cons, eqWs_nc]; rfl
  | x :: xs, [] => by rw [List.map_nil, List.map_cons, eqWs_cn]; rfl
  | x :: xs, y :: ys => by
    rw [List.map_cons, List.map_cons, eqWs_cons, h, eqWs_map f h xs ys, Bool.eq_iff_iff]
    simp
theorem eqW_ne_str (x y : Str) (as bs : List W) (h : x ≠ y) : eqWs (.str x :: as) (.str y :: bs) = false := by
  rw [eqWs_cons, eqW_str, decide_eq_false h]; rfl
/-! ### dicts -/
section
variable {κ β : Type} [DecidableEq κ]
theorem dGet_put (kvs : List (κ × β)) (k k' : κ) (v : β) : dGet (dPut kvs k v) k' = if k' = k then some v else dGet kvs k' := by
  unfold dPut
  split
  · rename_i ha
    induction kvs with
    | nil => cases ha
    | cons a r ih =>
      unfold dGet at ih ⊢
      rw [List.map_cons, List.find?_cons, List.find?_cons]
      by_cases h1 : a.1 = k
      · rw [if_pos h1]
        dsimp only
        by_cases h2 : k' = k
        · rw [if_pos h2, show decide (a.1 = k') = true from decide_eq_true (h1.trans h2.symm)]; rfl
        · rw [if_neg h2, show decide (a.1 = k') = false from decide_eq_false fun e => h2 (e.symm.trans h1)]
          by_cases h3 : (r.any fun kv => decide (kv.1 = k)) = true
          · rw [if_neg h2] at ih
            exact ih h3
          · have e : (r.map fun kv => if kv.1 = k then (kv.1, v) else kv) = r := by
              rw [← List.map_id r, List.map_map]
              refine List.map_congr_left fun kv hkv => ?_
              have : ¬ kv.1 = k := fun e => h3 (List.any_eq_true.mpr ⟨kv, hkv, decide_eq_true e⟩)
              simp [this]
            rw [e]
      · rw [if_neg h1]
        have ha' : (r.any fun kv => decide (kv.1 = k)) = true := by
          rw [List.any_cons, decide_eq_false h1, Bool.false_or] at ha
          exact ha
        by_cases h2 : a.1 = k'
        · rw [decide_eq_true h2, if_neg fun e => h1 (h2.trans e)]
        · rw [decide_eq_false h2]
          exact ih ha'
  · rename_i ha
    unfold dGet
    rw [List.find?_append]
    by_cases h2 : k' = k
    · rw [if_pos h2]
      have : kvs.find? (fun kv => decide (kv.1 = k')) = none := by
        rw [List.find?_eq_none]
        intro kv hkv e
        exact ha (List.any_eq_true.mpr ⟨kv, hkv, by rw [← h2]; exact e⟩)
      rw [this]
      simp [h2]
    · rw [if_neg h2]
      have e : [(k, v)].find? (fun kv => decide (kv.1 = k')) = none := by
        rw [List.find?_cons, show decide ((k, v).1 = k') = false from decide_eq_false fun e => h2 e.symm]; rfl
      rw [e, Option.or_none]
theorem dPut_len (kvs : List (κ × β)) (k : κ) (v : β) : (dPut kvs k v).length ≤ kvs.length + 1 := by
  unfold dPut
  split
  · rw [List.length_map]; omega
  · rw [List.length_append]; simp
end
end Mp
namespace Lg
open PySem PySem.Spec PyProof.Rows L2 Mp
theorem eqW_pr (a b : Int × Int) : eqW (.tup [.int a.1, .int a.2]) (.tup [.int b.1, .int b.2]) = decide (a = b) := by
  rw [eqW_tup, eqWs_cons, eqWs_cons, eqWs_nil, eqW_int, eqW_int, Bool.and_true, Bool.eq_iff_iff]
  obtain ⟨a1, a2⟩ := a
  obtain ⟨b1, b2⟩ := b
  simp
theorem eqW_T (a b : Tm) : eqW (encT a) (encT b) = decide (a = b) := by
  show eqW (.tup _) (.tup _) = _
  rw [eqW_tup]
  exact eqWs_map _ eqW_pr a b
theorem rlS_inj {a b : Rl} (h : rlS a = rlS b) : a = b := by
  cases a <;> cases b <;> first | rfl | exact absurd h (by decide)
theorem eqW_R (a b : Rl) : eqW (.str (rlS a)) (.str (rlS b)) = decide (a = b) := by
  rw [eqW_str, Bool.eq_iff_iff, decide_eq_true_eq, decide_eq_true_eq]
  exact ⟨rlS_inj, fun h => by rw [h]⟩
theorem eqW_L (a b : Ltl) : eqW (encL a) (encL b) = decide (a = b) := by
  show eqW (.tup _) (.tup _) = _
  rw [eqW_tup, eqWs_cons, eqWs_cons, eqWs_cons, eqWs_nil, eqW_int, eqW_R, eqW_int, Bool.and_true, Bool.eq_iff_iff]
  obtain ⟨a1, a2, a3⟩ := a
  obtain ⟨b1, b2, b3⟩ := b
  simp
theorem okR (r : Rl) (n : Nat) : okD (.str (rlS r)) n = true := by cases r <;> (unfold okD; decide +kernel)
theorem okI (i : Int) (n : Nat) : okD (.int i) n = true := rfl
theorem okT' (ts : Tm) (n : Nat) : okD (encT ts) (n + 2) = true := okD_tup (n := n + 1) fun w hw => by
  obtain ⟨t, _, rfl⟩ := List.mem_map.mp hw
  exact okD_tup fun w hw => by
    simp only [List.mem_cons, List.not_mem_nil, or_false] at hw
    rcases hw with rfl | rfl <;> rfl
theorem okP' (p : List Int) (n : Nat) : okD (encP p) (n + 1) = true := okD_tup fun w hw => by
  obtain ⟨t, _, rfl⟩ := List.mem_map.mp hw
  rfl
theorem okK (k : Kd) (n : Nat) : okD (.str (kdS k)) n = true := by unfold okD; exact kd_ok k
theorem okB (b : Bd) (n : Nat) : okD (encB b) (n + 4) = true := by
  cases b with
  | row ts r c =>
    refine okD_tup (n := n + 3) fun w hw => ?_
    simp only [List.mem_cons, List.not_mem_nil, or_false] at hw
    rcases hw with rfl | rfl | rfl | rfl
    · exact okK .row _
    · exact okT' ts (n + 1)
    · exact okR r _
    · rfl
  | any ls =>
    refine okD_tup (n := n + 3) fun w hw => ?_
    simp only [List.mem_cons, List.not_mem_nil, or_false] at hw
    rcases hw with rfl | rfl
    · exact okK .any _
    · exact okD_tup (n := n + 2) fun w hw => by
        obtain ⟨l, _, rfl⟩ := List.mem_map.mp hw
        exact okL l _
  | whn l ts r c =>
    refine okD_tup (n := n + 3) fun w hw => ?_
    simp only [List.mem_cons, List.not_mem_nil, or_false] at hw
    rcases hw with rfl | rfl | rfl | rfl | rfl
    · exact okK .whn _
    · exact okL l _
    · exact okT' ts (n + 1)
    · exact okR r _
    · rfl
  | dif vs =>
    refine okD_tup (n := n + 3) fun w hw => ?_
    simp only [List.mem_cons, List.not_mem_nil, or_false] at hw
    rcases hw with rfl | rfl
    · exact okK .dif _
    · exact okP' vs (n + 2)
  | tab vs rows =>
    refine okD_tup (n := n + 3) fun w hw => ?_
    simp only [List.mem_cons, List.not_mem_nil, or_false] at hw
    rcases hw with rfl | rfl | rfl
    · exact okK .tab _
    · exact okP' vs (n + 2)
    · exact okD_tup (n := n + 2) fun w hw => by
        obtain ⟨l, _, rfl⟩ := List.mem_map.mp hw
        exact okP' l (n + 1)
  | ele i es j =>
    refine okD_tup (n := n + 3) fun w hw => ?_
    simp only [List.mem_cons, List.not_mem_nil, or_false] at hw
    rcases hw with rfl | rfl | rfl | rfl
    · exact okK .ele _
    · rfl
    · exact okP' es (n + 2)
    · rfl
  | tim x y z =>
    refine okD_tup (n := n + 3) fun w hw => ?_
    simp only [List.mem_cons, List.not_mem_nil, or_false] at hw
    rcases hw with rfl | rfl | rfl | rfl
    · exact okK .tim _
    · rfl
    · rfl
    · rfl
theorem gEqB_same (neg : Bool) (b : Bd) : gEq neg (encB b) (encB b) = some (.bl (neg != true)) := gEq_same (okB b 60)
end Lg
namespace K77
open PySem PySem.Spec PyProof.Rows L2 Mp
/-! ### the text -/
def topS (i : Nat) : Stmt := PySem.Challenge.pw_commonfront_k77_rows_made_thinner.main.body.getD i (.Pass ⟨0, 0, 0, 0⟩)
abbrev s_thinner : Stmt := topS 2
abbrev N_thinner : List Str := ["body", "common", "relation", "terms", "v", "c"]
theorem sc_thinner : FnScope N_thinner ["body"] (defScope s_thinner) := ⟨rfl, rfl, rfl, by decide +kernel, rfl, by decide +kernel, by decide +kernel⟩
def c_thinner : CS :=
  cSeq (cIfS ((cOrT (cB (cBin (gEq true) (cIx (cVar 0) (cLit (.int 0))) (cLit (.str "row")))) (cB (cBin (gEq false) (cBi gLen (cCons (cIx (cVar 0) (cLit (.int 1))) cNil)) (cLit (.int 0)))))) (cRetV 0) (cSkip))
  (cSeq (cAsg (tName 1) (cLit (.int 0)))
  (cSeq (cFor (tTup 2 (tCons (tName 4) (tCons (tName 5) tNil))) (iExp (cIx (cVar 0) (cLit (.int 1)))) (cAsg (tName 1) (cBi gGcd (cCons (cVar 1) (cCons (cVar 5) cNil)))))
  (cSeq (cAsg (tName 2) (cIx (cVar 0) (cLit (.int 2))))
  (cSeq (cIfS ((cAndT (cB (cBin (gEq false) (cVar 2) (cLit (.str "=")))) (cB (cBin (gEq true) (cBin gMod (cIx (cVar 0) (cLit (.int 3))) (cVar 1)) (cLit (.int 0)))))) (cRetV 0) (cSkip))
  (cSeq (cAsg (tName 3) (cBi gTuple (cCons (cLc (tTup 2 (tCons (tName 4) (tCons (tName 5) tNil))) (iExp (cIx (cVar 0) (cLit (.int 1)))) tYesT (cTup (cCons (cVar 4) (cCons (cBin gDiv (cVar 5) (cVar 1)) cNil))) [4, 5]) cNil)))
  (cSeq (cIfS (cB (cBin (gEq false) (cVar 2) (cLit (.str ">=")))) (cRet (cTup (cCons (cLit (.str "row")) (cCons (cVar 3) (cCons (cVar 2) (cCons (cNeg (cBin gDiv (cNeg (cIx (cVar 0) (cLit (.int 3)))) (cVar 1))) cNil)))))) (cSkip))
  (cRet (cTup (cCons (cLit (.str "row")) (cCons (cVar 3) (cCons (cVar 2) (cCons (cBin gDiv (cIx (cVar 0) (cLit (.int 3))) (cVar 1)) cNil))))))))))))
def m_thinner : FnSem := cFn 1 6 c_thinner
abbrev s_tighter : Stmt := topS 3
abbrev N_tighter : List Str := ["body", "other"]
theorem sc_tighter : FnScope N_tighter ["body", "other"] (defScope s_tighter) := ⟨rfl, rfl, rfl, by decide +kernel, rfl, by decide +kernel, by decide +kernel⟩
def c_tighter : CS :=
  cSeq (cIfS (cB (cBin (gEq false) (cIx (cVar 0) (cLit (.int 2))) (cLit (.str "<=")))) (cRet (cBin gLt (cIx (cVar 0) (cLit (.int 3))) (cIx (cVar 1) (cLit (.int 3))))) (cSkip))
  (cRet (cBin gGt (cIx (cVar 0) (cLit (.int 3))) (cIx (cVar 1) (cLit (.int 3)))))
def m_tighter : FnSem := cFn 2 2 c_tighter
abbrev s_doubled : Stmt := topS 4
abbrev N_doubled : List Str := ["bodies", "strongest", "needless", "place", "body", "key", "other"]
theorem sc_doubled : FnScope N_doubled ["bodies"] (defScope s_doubled) := ⟨rfl, rfl, rfl, by decide +kernel, rfl, by decide +kernel, by decide +kernel⟩
def c_doubled : CS :=
  cSeq (cAsg (tName 1) (cDn))
  (cSeq (cAsg (tName 2) (cLst cNil))
  (cSeq (cFor (tTup 2 (tCons (tName 3) (tCons (tName 4) tNil))) (iEnV 0) (cIfS ((cAndT (cB (cBin (gEq false) (cIx (cVar 4) (cLit (.int 0))) (cLit (.str "row")))) (cB (cBin (gEq true) (cIx (cVar 4) (cLit (.int 2))) (cLit (.str "=")))))) (cSeq (cAsg (tName 5) (cTup (cCons (cIx (cVar 4) (cLit (.int 1))) (cCons (cIx (cVar 4) (cLit (.int 2))) cNil))))
  (cSeq (cAsg (tName 6) (cGetN1 (cVar 1) (cVar 5)))
  (cIfS ((cAndT (cB (cBin (gIsN true) (cVar 6) (cLit .non))) (cNotT (cB (cCall m_tighter (cCons (cVar 4) (cCons (cIx (cVar 0) (cVar 6)) cNil))))))) (cApp 2 (cVar 3)) (cSeq (cIfS (cB (cBin (gIsN true) (cVar 6) (cLit .non))) (cApp 2 (cVar 6)) (cSkip))
  (cSetN 1 (cVar 5) (cVar 3)))))) (cSkip)))
  (cRet (cBi gSortI (cCons (cVar 2) cNil)))))
def m_doubled : FnSem := cFn 1 7 c_doubled
abbrev s_law_draw : Stmt := topS 6
abbrev N_law_draw : List Str := ["tape", "many", "digit", "cells", "k", "cell"]
theorem sc_law_draw : FnScope N_law_draw ["tape", "many"] (defScope s_law_draw) := ⟨rfl, rfl, rfl, by decide +kernel, rfl, by decide +kernel, by decide +kernel⟩
def c_law_draw : CS :=
  cSeq (cIfS (cB (cBin gLt (cIx (cVar 0) (cLit (.int 2))) (cVar 1))) (cSeq (cAsg (tName 3) (cIx (cVar 0) (cLit (.int 0))))
  (cSeq (cAsg (tName 4) (cIx (cVar 0) (cLit (.int 1))))
  (cSeq (cAsg (tName 5) (cLit (.int 0)))
  (cSeq (cIfS (cB (cBin gLt (cVar 4) (cBi gLen (cCons (cVar 3) cNil)))) (cAsg (tName 5) (cIx (cVar 3) (cVar 4))) (cSkip))
  (cSeq (cIfS (cB (cBin gLt (cVar 5) (cLit (.int 0)))) (cAsg (tName 5) (cBin Mp.gSub (cBin gMul (cNeg (cLit (.int 2))) (cVar 5)) (cLit (.int 1)))) (cSkip))
  (cSeq (cIfS (cB (cBin gLt (cVar 5) (cBin gPow (cLit (.int 10)) (cLit (.int 9))))) (cSeq (cAsg (tName 5) (cBin gMod (cBi gInt (cCons (cBin gAdd (cBin gAdd (cBin gMul (cVar 5) (cLit (.int 48271))) (cBin gMul (cVar 4) (cLit (.int 69621)))) (cLit (.int 12345))) cNil)) (cLit (.int 2147483647))))
  (cAsg (tName 5) (cBin gMod (cBi gInt (cCons (cBin gAdd (cBin gAdd (cBin gMul (cVar 5) (cLit (.int 16807))) (cBin gMul (cVar 4) (cLit (.int 39373)))) (cLit (.int 6789))) cNil)) (cLit (.int 2147483629))))) (cSkip))
  (cSeq (cSetIx 0 (cLit (.int 1)) (cBin gAdd (cVar 4) (cLit (.int 1))))
  (cSetIx 0 (cLit (.int 2)) (cVar 5))))))))) (cSkip))
  (cSeq (cAsg (tName 2) (cBin gMod (cBi gInt (cCons (cIx (cVar 0) (cLit (.int 2))) cNil)) (cVar 1)))
  (cSeq (cSetIx 0 (cLit (.int 2)) (cBin gDiv (cIx (cVar 0) (cLit (.int 2))) (cVar 1)))
  (cRetV 2)))
def m_law_draw : FnSem := cFn 2 6 c_law_draw
abbrev s_law_tape : Stmt := topS 7
abbrev N_law_tape : List Str := ["script"]
theorem sc_law_tape : FnScope N_law_tape ["script"] (defScope s_law_tape) := ⟨rfl, rfl, rfl, by decide +kernel, rfl, by decide +kernel, by decide +kernel⟩
def c_law_tape : CS :=
  cRet (cBox (cCons (cBi gList (cCons (cVar 0) cNil)) (cCons (cLit (.int 0)) (cCons (cLit (.int 0)) cNil))))
def m_law_tape : FnSem := cFn 1 1 c_law_tape
abbrev s_law_terms : Stmt := topS 8
abbrev N_law_terms : List Str := ["tape", "many", "terms", "v", "c"]
theorem sc_law_terms : FnScope N_law_terms ["tape", "many"] (defScope s_law_terms) := ⟨rfl, rfl, rfl, by decide +kernel, rfl, by decide +kernel, by decide +kernel⟩
def c_law_terms : CS :=
  cSeq (cAsg (tName 2) (cLst cNil))
  (cSeq (cFor (tName 3) (iRange1 (cVar 1)) (cSeq (cAsg (tName 4) (cBin Mp.gSub (cCall m_law_draw (cCons (cVar 0) (cCons (cLit (.int 7)) cNil))) (cLit (.int 3))))
  (cIfS (cB (cBin (gEq true) (cVar 4) (cLit (.int 0)))) (cApp 2 (cTup (cCons (cVar 3) (cCons (cVar 4) cNil)))) (cSkip))))
  (cRet (cBi gTuple (cCons (cVar 2) cNil))))
def m_law_terms : FnSem := cFn 2 5 c_law_terms
abbrev s_law_literal : Stmt := topS 9
abbrev N_law_literal : List Str := ["tape", "many", "relation"]
theorem sc_law_literal : FnScope N_law_literal ["tape", "many"] (defScope s_law_literal) := ⟨rfl, rfl, rfl, by decide +kernel, rfl, by decide +kernel, by decide +kernel⟩
def c_law_literal : CS :=
  cSeq (cAsg (tName 2) (cIx (cLst (cCons (cLit (.str "<=")) (cCons (cLit (.str ">=")) (cCons (cLit (.str "=")) (cCons (cLit (.str "!=")) cNil))))) (cCall m_law_draw (cCons (cVar 0) (cCons (cLit (.int 4)) cNil)))))
  (cRet (cTup (cCons (cCall m_law_draw (cCons (cVar 0) (cCons (cVar 1) cNil))) (cCons (cVar 2) (cCons (cBin Mp.gSub (cCall m_law_draw (cCons (cVar 0) (cCons (cLit (.int 9)) cNil))) (cLit (.int 3))) cNil)))))
def m_law_literal : FnSem := cFn 2 3 c_law_literal
abbrev s_law_some : Stmt := topS 10
abbrev N_law_some : List Str := ["tape", "many", "least", "rest", "found", "k"]
theorem sc_law_some : FnScope N_law_some ["tape", "many", "least"] (defScope s_law_some) := ⟨rfl, rfl, rfl, by decide +kernel, rfl, by decide +kernel, by decide +kernel⟩
def c_law_some : CS :=
  cSeq (cAsg (tName 3) (cBi gListRange (cCons (cVar 1) cNil)))
  (cSeq (cAsg (tName 4) (cLst cNil))
  (cSeq (cFor (tName 5) (iRange1 (cBin gAdd (cVar 2) (cCall m_law_draw (cCons (cVar 0) (cCons (cBin gAdd (cBin Mp.gSub (cVar 1) (cVar 2)) (cLit (.int 1))) cNil))))) (cAppPop 4 3 (cCall m_law_draw (cCons (cVar 0) (cCons (cBi gLen (cCons (cVar 3) cNil)) cNil)))))
  (cRet (cBi gTuple (cCons (cVar 4) cNil)))))
def m_law_some : FnSem := cFn 3 6 c_law_some
abbrev s_law_body : Stmt := topS 11
abbrev N_law_body : List Str := ["tape", "many", "kind", "relation", "literals", "k", "literal", "numbers", "rows", "entries", "v"]
theorem sc_law_body : FnScope N_law_body ["tape", "many"] (defScope s_law_body) := ⟨rfl, rfl, rfl, by decide +kernel, rfl, by decide +kernel, by decide +kernel⟩
def c_law_body : CS :=
  cSeq (cAsg (tName 2) (cCall m_law_draw (cCons (cVar 0) (cCons (cLit (.int 8)) cNil))))
  (cSeq (cAsg (tName 3) (cIx (cLst (cCons (cLit (.str "<=")) (cCons (cLit (.str ">=")) (cCons (cLit (.str "=")) cNil)))) (cCall m_law_draw (cCons (cVar 0) (cCons (cLit (.int 3)) cNil)))))
  (cSeq (cIfS (cB (cBin (gEq false) (cVar 2) (cLit (.int 2)))) (cSeq (cAsg (tName 4) (cLst cNil))
  (cSeq (cFor (tName 5) (iRange1 (cBin gAdd (cLit (.int 1)) (cCall m_law_draw (cCons (cVar 0) (cCons (cLit (.int 3)) cNil))))) (cSeq (cAsg (tName 6) (cCall m_law_literal (cCons (cVar 0) (cCons (cVar 1) cNil))))
  (cIfS (cB (cBin (gIn true) (cVar 6) (cVar 4))) (cApp 4 (cVar 6)) (cSkip))))
  (cRet (cTup (cCons (cLit (.str "any")) (cCons (cBi gTuple (cCons (cVar 4) cNil)) cNil)))))) (cSkip))
  (cSeq (cIfS (cB (cBin (gEq false) (cVar 2) (cLit (.int 3)))) (cSeq (cAsg (tName 6) (cCall m_law_literal (cCons (cVar 0) (cCons (cVar 1) cNil))))
  (cRet (cTup (cCons (cLit (.str "when")) (cCons (cVar 6) (cCons (cCall m_law_terms (cCons (cVar 0) (cCons (cVar 1) cNil))) (cCons (cVar 3) (cCons (cBin Mp.gSub (cCall m_law_draw (cCons (cVar 0) (cCons (cLit (.int 16)) cNil))) (cLit (.int 6))) cNil)))))))) (cSkip))
  (cSeq (cIfS ((cAndT (cB (cBin (gEq false) (cVar 2) (cLit (.int 4)))) (cB (cBin gGt (cVar 1) (cLit (.int 1)))))) (cRet (cTup (cCons (cLit (.str "different")) (cCons (cCall m_law_some (cCons (cVar 0) (cCons (cVar 1) (cCons (cLit (.int 2)) cNil)))) cNil)))) (cSkip))
  (cSeq (cIfS (cB (cBin (gEq false) (cVar 2) (cLit (.int 5)))) (cSeq (cAsg (tName 7) (cSl (cCall m_law_some (cCons (cVar 0) (cCons (cVar 1) (cCons (cLit (.int 1)) cNil)))) oNone (oSome (cLit (.int 3)))))
  (cSeq (cAsg (tName 8) (cLst cNil))
  (cSeq (cFor (tName 5) (iRange1 (cBin gAdd (cLit (.int 1)) (cCall m_law_draw (cCons (cVar 0) (cCons (cLit (.int 4)) cNil))))) (cApp 8 (cBi gTuple (cCons (cLc (tName 10) (iVar 7) tYesT (cBin Mp.gSub (cCall m_law_draw (cCons (cVar 0) (cCons (cLit (.int 7)) cNil))) (cLit (.int 2))) [10]) cNil))))
  (cRet (cTup (cCons (cLit (.str "table")) (cCons (cVar 7) (cCons (cBi gTuple (cCons (cVar 8) cNil)) cNil)))))))) (cSkip))
  (cSeq (cIfS (cB (cBin (gEq false) (cVar 2) (cLit (.int 6)))) (cSeq (cAsg (tName 9) (cLc (tName 5) (iRange1 (cBin gAdd (cLit (.int 1)) (cCall m_law_draw (cCons (cVar 0) (cCons (cLit (.int 4)) cNil))))) tYesT (cBin Mp.gSub (cCall m_law_draw (cCons (cVar 0) (cCons (cLit (.int 7)) cNil))) (cLit (.int 2))) [5]))
  (cRet (cTup (cCons (cLit (.str "element")) (cCons (cCall m_law_draw (cCons (cVar 0) (cCons (cVar 1) cNil))) (cCons (cBi gTuple (cCons (cVar 9) cNil)) (cCons (cCall m_law_draw (cCons (cVar 0) (cCons (cVar 1) cNil))) cNil))))))) (cSkip))
  (cSeq (cIfS (cB (cBin (gEq false) (cVar 2) (cLit (.int 7)))) (cRet (cTup (cCons (cLit (.str "times")) (cCons (cCall m_law_draw (cCons (cVar 0) (cCons (cVar 1) cNil))) (cCons (cCall m_law_draw (cCons (cVar 0) (cCons (cVar 1) cNil))) (cCons (cCall m_law_draw (cCons (cVar 0) (cCons (cVar 1) cNil))) cNil)))))) (cSkip))
  (cRet (cTup (cCons (cLit (.str "row")) (cCons (cCall m_law_terms (cCons (cVar 0) (cCons (cVar 1) cNil))) (cCons (cVar 3) (cCons (cBin Mp.gSub (cCall m_law_draw (cCons (cVar 0) (cCons (cLit (.int 16)) cNil))) (cLit (.int 6))) cNil)))))))))))))
def m_law_body : FnSem := cFn 2 11 c_law_body
abbrev s_law_rel : Stmt := topS 12
abbrev N_law_rel : List Str := ["relation", "left", "right"]
theorem sc_law_rel : FnScope N_law_rel ["relation", "left", "right"] (defScope s_law_rel) := ⟨rfl, rfl, rfl, by decide +kernel, rfl, by decide +kernel, by decide +kernel⟩
def c_law_rel : CS :=
  cSeq (cIfS (cB (cBin (gEq false) (cVar 0) (cLit (.str "<=")))) (cRet (cBin gLe (cVar 1) (cVar 2))) (cSkip))
  (cSeq (cIfS (cB (cBin (gEq false) (cVar 0) (cLit (.str ">=")))) (cRet (cBin gGe (cVar 1) (cVar 2))) (cSkip))
  (cRet (cBin (gEq false) (cBin (gEq false) (cVar 1) (cVar 2)) (cBin (gEq false) (cVar 0) (cLit (.str "="))))))
def m_law_rel : FnSem := cFn 3 3 c_law_rel
abbrev s_law_sum : Stmt := topS 13
abbrev N_law_sum : List Str := ["terms", "point", "total", "v", "c"]
theorem sc_law_sum : FnScope N_law_sum ["terms", "point"] (defScope s_law_sum) := ⟨rfl, rfl, rfl, by decide +kernel, rfl, by decide +kernel, by decide +kernel⟩
def c_law_sum : CS :=
  cSeq (cAsg (tName 2) (cLit (.int 0)))
  (cSeq (cFor (tTup 2 (tCons (tName 3) (tCons (tName 4) tNil))) (iVar 0) (cAsg (tName 2) (cBin gAdd (cVar 2) (cBin gMul (cVar 4) (cIx (cVar 1) (cVar 3))))))
  (cRetV 2))
def m_law_sum : FnSem := cFn 2 5 c_law_sum
abbrev s_law_lit : Stmt := topS 14
abbrev N_law_lit : List Str := ["literal", "point"]
theorem sc_law_lit : FnScope N_law_lit ["literal", "point"] (defScope s_law_lit) := ⟨rfl, rfl, rfl, by decide +kernel, rfl, by decide +kernel, by decide +kernel⟩
def c_law_lit : CS :=
  cRet (cCall m_law_rel (cCons (cIx (cVar 0) (cLit (.int 1))) (cCons (cIx (cVar 1) (cIx (cVar 0) (cLit (.int 0)))) (cCons (cIx (cVar 0) (cLit (.int 2))) cNil))))
def m_law_lit : FnSem := cFn 2 2 c_law_lit
abbrev s_law_holds : Stmt := topS 15
abbrev N_law_holds : List Str := ["body", "point", "seen", "v", "at", "literal"]
theorem sc_law_holds : FnScope N_law_holds ["body", "point"] (defScope s_law_holds) := ⟨rfl, rfl, rfl, by decide +kernel, rfl, by decide +kernel, by decide +kernel⟩
def c_law_holds : CS :=
  cSeq (cIfS (cB (cBin (gEq false) (cIx (cVar 0) (cLit (.int 0))) (cLit (.str "row")))) (cRet (cCall m_law_rel (cCons (cIx (cVar 0) (cLit (.int 2))) (cCons (cCall m_law_sum (cCons (cIx (cVar 0) (cLit (.int 1))) (cCons (cVar 1) cNil))) (cCons (cIx (cVar 0) (cLit (.int 3))) cNil))))) (cSkip))
  (cSeq (cIfS (cB (cBin (gEq false) (cIx (cVar 0) (cLit (.int 0))) (cLit (.str "any")))) (cRet (cBin (gIn false) (cLit (.bl true)) (cLc (tName 5) (iExp (cIx (cVar 0) (cLit (.int 1)))) tYesT (cCall m_law_lit (cCons (cVar 5) (cCons (cVar 1) cNil))) [5]))) (cSkip))
  (cSeq (cIfS (cB (cBin (gEq false) (cIx (cVar 0) (cLit (.int 0))) (cLit (.str "when")))) (cRet ((cOrV (cNotV (cCall m_law_lit (cCons (cIx (cVar 0) (cLit (.int 1))) (cCons (cVar 1) cNil)))) (cCall m_law_rel (cCons (cIx (cVar 0) (cLit (.int 3))) (cCons (cCall m_law_sum (cCons (cIx (cVar 0) (cLit (.int 2))) (cCons (cVar 1) cNil))) (cCons (cIx (cVar 0) (cLit (.int 4))) cNil))))))) (cSkip))
  (cSeq (cIfS (cB (cBin (gEq false) (cIx (cVar 0) (cLit (.int 0))) (cLit (.str "different")))) (cSeq (cAsg (tName 2) (cLst cNil))
  (cSeq (cFor (tName 3) (iExp (cIx (cVar 0) (cLit (.int 1)))) (cSeq (cIfS (cB (cBin (gIn false) (cIx (cVar 1) (cVar 3)) (cVar 2))) (cRet (cLit (.bl false))) (cSkip))
  (cApp 2 (cIx (cVar 1) (cVar 3)))))
  (cRet (cLit (.bl true))))) (cSkip))
  (cSeq (cIfS (cB (cBin (gEq false) (cIx (cVar 0) (cLit (.int 0))) (cLit (.str "table")))) (cRet (cBin (gIn false) (cBi gTuple (cCons (cLc (tName 3) (iExp (cIx (cVar 0) (cLit (.int 1)))) tYesT (cIx (cVar 1) (cVar 3)) [3]) cNil)) (cIx (cVar 0) (cLit (.int 2))))) (cSkip))
  (cSeq (cIfS (cB (cBin (gEq false) (cIx (cVar 0) (cLit (.int 0))) (cLit (.str "element")))) (cSeq (cAsg (tName 4) (cIx (cVar 1) (cIx (cVar 0) (cLit (.int 1)))))
  (cRet ((cAndV (cBin gGe (cVar 4) (cLit (.int 0))) (cAndV (cBin gLt (cVar 4) (cBi gLen (cCons (cIx (cVar 0) (cLit (.int 2))) cNil))) (cBin (gEq false) (cIx (cIx (cVar 0) (cLit (.int 2))) (cVar 4)) (cIx (cVar 1) (cIx (cVar 0) (cLit (.int 3)))))))))) (cSkip))
  (cRet (cBin (gEq false) (cBin gMul (cIx (cVar 1) (cIx (cVar 0) (cLit (.int 1)))) (cIx (cVar 1) (cIx (cVar 0) (cLit (.int 2))))) (cIx (cVar 1) (cIx (cVar 0) (cLit (.int 3)))))))))))
def m_law_holds : FnSem := cFn 2 6 c_law_holds
abbrev s_law_common : Stmt := topS 16
abbrev N_law_common : List Str := ["terms", "most", "best", "d", "v", "c"]
theorem sc_law_common : FnScope N_law_common ["terms", "most"] (defScope s_law_common) := ⟨rfl, rfl, rfl, by decide +kernel, rfl, by decide +kernel, by decide +kernel⟩
def c_law_common : CS :=
  cSeq (cAsg (tName 2) (cLit (.int 1)))
  (cSeq (cFor (tName 3) (iRange2 (cLit (.int 1)) (cBin gAdd (cVar 1) (cLit (.int 1)))) (cIfS (cB (cBin (gIn true) (cLit (.bl false)) (cLc (tTup 2 (tCons (tName 4) (tCons (tName 5) tNil))) (iVar 0) tYesT (cBin (gEq false) (cBin Mp.gSub (cVar 5) (cBin gMul (cBin gDiv (cVar 5) (cVar 3)) (cVar 3))) (cLit (.int 0))) [4, 5]))) (cAsg (tName 2) (cVar 3)) (cSkip)))
  (cRetV 2))
def m_law_common : FnSem := cFn 2 6 c_law_common
abbrev s_law_thin : Stmt := topS 17
abbrev N_law_thin : List Str := ["body", "common", "rhs", "v", "c"]
theorem sc_law_thin : FnScope N_law_thin ["body", "common"] (defScope s_law_thin) := ⟨rfl, rfl, rfl, by decide +kernel, rfl, by decide +kernel, by decide +kernel⟩
def c_law_thin : CS :=
  cSeq (cIfS ((cOrT (cB (cBin (gEq true) (cIx (cVar 0) (cLit (.int 0))) (cLit (.str "row")))) (cB (cBin (gEq false) (cBi gLen (cCons (cIx (cVar 0) (cLit (.int 1))) cNil)) (cLit (.int 0)))))) (cRetV 0) (cSkip))
  (cSeq (cIfS ((cAndT (cB (cBin (gEq false) (cIx (cVar 0) (cLit (.int 2))) (cLit (.str "=")))) (cB (cBin (gEq true) (cBin Mp.gSub (cIx (cVar 0) (cLit (.int 3))) (cBin gMul (cBin gDiv (cIx (cVar 0) (cLit (.int 3))) (cVar 1)) (cVar 1))) (cLit (.int 0)))))) (cRetV 0) (cSkip))
  (cSeq (cAsg (tName 2) (cBin gDiv (cIx (cVar 0) (cLit (.int 3))) (cVar 1)))
  (cSeq (cIfS (cB (cBin (gEq false) (cIx (cVar 0) (cLit (.int 2))) (cLit (.str ">=")))) (cAsg (tName 2) (cBin Mp.gSub (cLit (.int 0)) (cBin gDiv (cBin Mp.gSub (cLit (.int 0)) (cIx (cVar 0) (cLit (.int 3)))) (cVar 1)))) (cSkip))
  (cRet (cTup (cCons (cLit (.str "row")) (cCons (cBi gTuple (cCons (cLc (tTup 2 (tCons (tName 3) (tCons (tName 4) tNil))) (iExp (cIx (cVar 0) (cLit (.int 1)))) tYesT (cTup (cCons (cVar 3) (cCons (cBin gDiv (cVar 4) (cVar 1)) cNil))) [3, 4]) cNil)) (cCons (cIx (cVar 0) (cLit (.int 2))) (cCons (cVar 2) cNil)))))))))
def m_law_thin : FnSem := cFn 2 5 c_law_thin
abbrev s_law_needless : Stmt := topS 18
abbrev N_law_needless : List Str := ["bodies", "k", "body", "n", "other", "ahead"]
theorem sc_law_needless : FnScope N_law_needless ["bodies", "k"] (defScope s_law_needless) := ⟨rfl, rfl, rfl, by decide +kernel, rfl, by decide +kernel, by decide +kernel⟩
def c_law_needless : CS :=
  cSeq (cAsg (tName 2) (cIx (cVar 0) (cVar 1)))
  (cSeq (cIfS ((cOrT (cB (cBin (gEq true) (cIx (cVar 2) (cLit (.int 0))) (cLit (.str "row")))) (cB (cBin (gEq false) (cIx (cVar 2) (cLit (.int 2))) (cLit (.str "=")))))) (cRet (cLit (.bl false))) (cSkip))
  (cSeq (cFor (tName 3) (iRange1 (cBi gLen (cCons (cVar 0) cNil))) (cSeq (cAsg (tName 4) (cIx (cVar 0) (cVar 3)))
  (cIfS ((cAndT (cB (cBin (gEq true) (cVar 3) (cVar 1))) (cB (cBin (gEq false) (cSl (cVar 4) oNone (oSome (cLit (.int 3)))) (cSl (cVar 2) oNone (oSome (cLit (.int 3)))))))) (cSeq (cAsg (tName 5) (cIx (cLst (cCons (cBin Mp.gSub (cIx (cVar 4) (cLit (.int 3))) (cIx (cVar 2) (cLit (.int 3)))) (cCons (cBin Mp.gSub (cIx (cVar 2) (cLit (.int 3))) (cIx (cVar 4) (cLit (.int 3)))) cNil))) (cBi gInt (cCons (cBin (gEq false) (cIx (cVar 2) (cLit (.int 2))) (cLit (.str "<="))) cNil))))
  (cIfS ((cOrT (cB (cBin gGt (cVar 5) (cLit (.int 0)))) ((cAndT (cB (cBin (gEq false) (cVar 5) (cLit (.int 0)))) (cB (cBin gLt (cVar 3) (cVar 1))))))) (cRet (cLit (.bl true))) (cSkip))) (cSkip))))
  (cRet (cLit (.bl false)))))
def m_law_needless : FnSem := cFn 2 6 c_law_needless
abbrev s_law : Stmt := topS 19
abbrev N_law : List Str := ["script", "tape", "many", "factor", "wide", "body", "common", "thin", "k", "menu", "bodies", "due", "rhs", "point", "terms", "v", "c"]
theorem sc_law : FnScope N_law ["script"] (defScope s_law) := ⟨rfl, rfl, rfl, by decide +kernel, rfl, by decide +kernel, by decide +kernel⟩
def c_law : CS :=
  cSeq (cAsg (tName 1) (cCall m_law_tape (cCons (cVar 0) cNil)))
  (cSeq (cAsg (tName 2) (cBin gAdd (cLit (.int 1)) (cCall m_law_draw (cCons (cVar 1) (cCons (cLit (.int 4)) cNil)))))
  (cSeq (cAsg (tName 3) (cBin gAdd (cLit (.int 1)) (cCall m_law_draw (cCons (cVar 1) (cCons (cLit (.int 9)) cNil)))))
  (cSeq (cAsg (tName 4) (cBin (gEq false) (cCall m_law_draw (cCons (cVar 1) (cCons (cLit (.int 8)) cNil))) (cLit (.int 0))))
  (cSeq (cAsg (tName 5) (cCall m_law_body (cCons (cVar 1) (cCons (cVar 2) cNil))))
  (cSeq (cIfS (cB (cVar 4)) (cSeq (cAsg (tName 2) (cLit (.int 60)))
  (cSeq (cAsg (tName 3) (cBin gAdd (cLit (.int 1)) (cCall m_law_draw (cCons (cVar 1) (cCons (cBin gPow (cLit (.int 10)) (cLit (.int 5))) cNil)))))
  (cAsg (tName 5) (cTup (cCons (cLit (.str "row")) (cCons (cCall m_law_terms (cCons (cVar 1) (cCons (cVar 2) cNil))) (cCons (cIx (cLst (cCons (cLit (.str "<=")) (cCons (cLit (.str ">=")) (cCons (cLit (.str "=")) cNil)))) (cCall m_law_draw (cCons (cVar 1) (cCons (cLit (.int 3)) cNil)))) (cCons (cBin Mp.gSub (cCall m_law_draw (cCons (cVar 1) (cCons (cLit (.int 400)) cNil))) (cLit (.int 200))) cNil)))))))) (cSkip))
  (cSeq (cIfS (cB (cBin (gEq false) (cIx (cVar 5) (cLit (.int 0))) (cLit (.str "row")))) (cSeq (cAsg (tName 12) (cBin Mp.gSub (cBin gAdd (cBin gMul (cIx (cVar 5) (cLit (.int 3))) (cIx (cLst (cCons (cLit (.int 1)) (cCons (cVar 3) cNil))) (cCall m_law_draw (cCons (cVar 1) (cCons (cLit (.int 2)) cNil))))) (cCall m_law_draw (cCons (cVar 1) (cCons (cLit (.int 3)) cNil)))) (cLit (.int 1))))
  (cAsg (tName 5) (cTup (cCons (cLit (.str "row")) (cCons (cBi gTuple (cCons (cLc (tTup 2 (tCons (tName 15) (tCons (tName 16) tNil))) (iExp (cIx (cVar 5) (cLit (.int 1)))) tYesT (cTup (cCons (cVar 15) (cCons (cBin gMul (cVar 16) (cVar 3)) cNil))) [15, 16]) cNil)) (cCons (cIx (cVar 5) (cLit (.int 2))) (cCons (cVar 12) cNil))))))) (cSkip))
  (cSeq (cAsg (tName 6) (cLit (.int 1)))
  (cSeq (cIfS (cB (cBin (gEq false) (cIx (cVar 5) (cLit (.int 0))) (cLit (.str "row")))) (cAsg (tName 6) (cBin gMul (cVar 3) (cCall m_law_common (cCons (cLc (tTup 2 (tCons (tName 15) (tCons (tName 16) tNil))) (iExp (cIx (cVar 5) (cLit (.int 1)))) tYesT (cTup (cCons (cVar 15) (cCons (cBin gDiv (cVar 16) (cVar 3)) cNil))) [15, 16]) (cCons (cLit (.int 3)) cNil))))) (cSkip))
  (cSeq (cAsg (tName 7) (cCall m_thinner (cCons (cVar 5) cNil)))
  (cSeq (cIfS (cB (cBin (gEq true) (cVar 7) (cCall m_law_thin (cCons (cVar 5) (cCons (cVar 6) cNil))))) (cRet (cLit (.bl false))) (cSkip))
  (cSeq (cFor (tName 8) (iRange1 (cLit (.int 4))) (cSeq (cAsg (tName 13) (cBi gTuple (cCons (cLc (tName 15) (iRange1 (cVar 2)) tYesT (cBin Mp.gSub (cCall m_law_draw (cCons (cVar 1) (cCons (cLit (.int 9)) cNil))) (cLit (.int 4))) [15]) cNil)))
  (cIfS (cB (cBin (gEq true) (cCall m_law_holds (cCons (cVar 7) (cCons (cVar 13) cNil))) (cCall m_law_holds (cCons (cVar 5) (cCons (cVar 13) cNil))))) (cRet (cLit (.bl false))) (cSkip))))
  (cSeq (cAsg (tName 9) (cLst (cCons (cTup (cCons (cTup (cCons (cLit (.int 0)) (cCons (cLit (.int 1)) cNil))) cNil)) (cCons (cTup (cCons (cTup (cCons (cLit (.int 0)) (cCons (cLit (.int 1)) cNil))) (cCons (cTup (cCons (cLit (.int 1)) (cCons (cBin Mp.gSub (cLit (.int 0)) (cLit (.int 2))) cNil))) cNil))) (cCons (cTup (cCons (cTup (cCons (cLit (.int 1)) (cCons (cLit (.int 3)) cNil))) cNil)) (cCons (cTup cNil) cNil))))))
  (cSeq (cAsg (tName 10) (cLst cNil))
  (cSeq (cFor (tName 8) (iRange1 (cCall m_law_draw (cCons (cVar 1) (cCons (cLit (.int 10)) cNil)))) (cSeq (cAsg (tName 14) (cIx (cVar 9) (cCall m_law_draw (cCons (cVar 1) (cCons (cLit (.int 4)) cNil)))))
  (cSeq (cApp 10 (cTup (cCons (cLit (.str "row")) (cCons (cVar 14) (cCons (cIx (cLst (cCons (cLit (.str "<=")) (cCons (cLit (.str ">=")) (cCons (cLit (.str "=")) cNil)))) (cCall m_law_draw (cCons (cVar 1) (cCons (cLit (.int 3)) cNil)))) (cCons (cCall m_law_draw (cCons (cVar 1) (cCons (cLit (.int 3)) cNil))) cNil))))))
  (cIfS (cB (cBin (gEq false) (cCall m_law_draw (cCons (cVar 1) (cCons (cLit (.int 6)) cNil))) (cLit (.int 0)))) (cSetIx 10 (cVar 8) (cTup (cCons (cLit (.str "any")) (cCons (cTup (cCons (cTup (cCons (cLit (.int 0)) (cCons (cLit (.str "<=")) (cCons (cCall m_law_draw (cCons (cVar 1) (cCons (cLit (.int 2)) cNil))) cNil)))) cNil)) cNil)))) (cSkip)))))
  (cSeq (cAsg (tName 11) (cLc (tName 8) (iRange1 (cBi gLen (cCons (cVar 10) cNil))) (cB (cCall m_law_needless (cCons (cVar 10) (cCons (cVar 8) cNil)))) (cVar 8) [8]))
  (cRet (cBin (gEq false) (cCall m_doubled (cCons (cVar 10) cNil)) (cVar 11))))))))))))))))))
def m_law : FnSem := cFn 1 17 c_law
structure Txt (K : PySem.W.Frag) (mg : Str → Option Value) where
  a_thinner : Addr
  d_thinner : FuncData
  F_thinner : Fun K "thinner" "thinner" s_thinner a_thinner d_thinner
  g_thinner : mg "thinner" = some (.ref a_thinner)
  b_thinner : L2.Binds K d_thinner ["body"] []
  a_tighter : Addr
  d_tighter : FuncData
  F_tighter : Fun K "tighter" "tighter" s_tighter a_tighter d_tighter
  g_tighter : mg "tighter" = some (.ref a_tighter)
  b_tighter : L2.Binds K d_tighter ["body", "other"] []
  a_doubled : Addr
  d_doubled : FuncData
  F_doubled : Fun K "doubled" "doubled" s_doubled a_doubled d_doubled
  g_doubled : mg "doubled" = some (.ref a_doubled)
  b_doubled : L2.Binds K d_doubled ["bodies"] []
  a_law_draw : Addr
  d_law_draw : FuncData
  F_law_draw : Fun K "_law_draw" "_law_draw" s_law_draw a_law_draw d_law_draw
  g_law_draw : mg "_law_draw" = some (.ref a_law_draw)
  b_law_draw : L2.Binds K d_law_draw ["tape", "many"] []
  a_law_tape : Addr
  d_law_tape : FuncData
  F_law_tape : Fun K "_law_tape" "_law_tape" s_law_tape a_law_tape d_law_tape
  g_law_tape : mg "_law_tape" = some (.ref a_law_tape)
  b_law_tape : L2.Binds K d_law_tape ["script"] []
  a_law_terms : Addr
  d_law_terms : FuncData
  F_law_terms : Fun K "_law_terms" "_law_terms" s_law_terms a_law_terms d_law_terms
  g_law_terms : mg "_law_terms" = some (.ref a_law_terms)
  b_law_terms : L2.Binds K d_law_terms ["tape", "many"] []
  a_law_literal : Addr
  d_law_literal : FuncData
  F_law_literal : Fun K "_law_literal" "_law_literal" s_law_literal a_law_literal d_law_literal
  g_law_literal : mg "_law_literal" = some (.ref a_law_literal)
  b_law_literal : L2.Binds K d_law_literal ["tape", "many"] []
  a_law_some : Addr
  d_law_some : FuncData
  F_law_some : Fun K "_law_some" "_law_some" s_law_some a_law_some d_law_some
  g_law_some : mg "_law_some" = some (.ref a_law_some)
  b_law_some : L2.Binds K d_law_some ["tape", "many", "least"] []
  a_law_body : Addr
  d_law_body : FuncData
  F_law_body : Fun K "_law_body" "_law_body" s_law_body a_law_body d_law_body
  g_law_body : mg "_law_body" = some (.ref a_law_body)
  b_law_body : L2.Binds K d_law_body ["tape", "many"] []
  a_law_rel : Addr
  d_law_rel : FuncData
  F_law_rel : Fun K "_law_rel" "_law_rel" s_law_rel a_law_rel d_law_rel
  g_law_rel : mg "_law_rel" = some (.ref a_law_rel)
  b_law_rel : L2.Binds K d_law_rel ["relation", "left", "right"] []
  a_law_sum : Addr
  d_law_sum : FuncData
  F_law_sum : Fun K "_law_sum" "_law_sum" s_law_sum a_law_sum d_law_sum
  g_law_sum : mg "_law_sum" = some (.ref a_law_sum)
  b_law_sum : L2.Binds K d_law_sum ["terms", "point"] []
  a_law_lit : Addr
  d_law_lit : FuncData
  F_law_lit : Fun K "_law_lit" "_law_lit" s_law_lit a_law_lit d_law_lit
  g_law_lit : mg "_law_lit" = some (.ref a_law_lit)
  b_law_lit : L2.Binds K d_law_lit ["literal", "point"] []
  a_law_holds : Addr
  d_law_holds : FuncData
  F_law_holds : Fun K "_law_holds" "_law_holds" s_law_holds a_law_holds d_law_holds
  g_law_holds : mg "_law_holds" = some (.ref a_law_holds)
  b_law_holds : L2.Binds K d_law_holds ["body", "point"] []
  a_law_common : Addr
  d_law_common : FuncData
  F_law_common : Fun K "_law_common" "_law_common" s_law_common a_law_common d_law_common
  g_law_common : mg "_law_common" = some (.ref a_law_common)
  b_law_common : L2.Binds K d_law_common ["terms", "most"] []
  a_law_thin : Addr
  d_law_thin : FuncData
  F_law_thin : Fun K "_law_thin" "_law_thin" s_law_thin a_law_thin d_law_thin
  g_law_thin : mg "_law_thin" = some (.ref a_law_thin)
  b_law_thin : L2.Binds K d_law_thin ["body", "common"] []
  a_law_needless : Addr
  d_law_needless : FuncData
  F_law_needless : Fun K "_law_needless" "_law_needless" s_law_needless a_law_needless d_law_needless
  g_law_needless : mg "_law_needless" = some (.ref a_law_needless)
  b_law_needless : L2.Binds K d_law_needless ["bodies", "k"] []
  a_law : Addr
  d_law : FuncData
  F_law : Fun K "law" "law" s_law a_law d_law
  g_law : mg "law" = some (.ref a_law)
  b_law : L2.Binds K d_law ["script"] []
  n_enumerate : mg "enumerate" = none
  n_int : mg "int" = none
  n_len : mg "len" = none
  n_list : mg "list" = none
  n_range : mg "range" = none
  n_sorted : mg "sorted" = none
  n_tuple : mg "tuple" = none
  v_gcd : mg "gcd" = some (.builtin "math.gcd")
section
variable {P : Program} {w : World} {K : PySem.W.Frag} {mg : Str → Option Value} {base : Heap}
theorem ok_thinner (T : Txt K mg) : FnOk P w K mg base CX0 1 T.a_thinner T.d_thinner ["body"] (spF ⟨K, w⟩ 1 m_thinner) :=
  fn_ok T.F_thinner sc_thinner (by decide) fun cdv A outer s H E hr => (s_cons (s_if (t_w (w_or (t_ne hr (e_ix hr (e_var 0) (e_int)) (e_str)) (w_or1 (t_eq hr (e_len T.n_len (e_ix hr (e_var 0) (e_int))) (e_int))))) (s_one (s_retV 0)) s_nil)
    (s_cons (s_asg (g_name 1 sc_thinner.nd) (e_int))
    (s_cons (s_for rfl (g_tup rfl (gs_cons (g_name 4 sc_thinner.nd) (gs_cons (g_name 5 sc_thinner.nd) gs_nil))) (i_exp (e_ix hr (e_var 0) (e_int))) (s_one (s_asg (g_name 1 sc_thinner.nd) (e_gcd T.v_gcd (e_var 1) (e_var 5)))))
    (s_cons (s_asg (g_name 2 sc_thinner.nd) (e_ix hr (e_var 0) (e_int)))
    (s_cons (s_if (t_w (w_and (t_eq hr (e_var 2) (e_str)) (w_and1 (t_ne hr (e_mod (e_ix hr (e_var 0) (e_int)) (e_var 1)) (e_int))))) (s_one (s_retV 0)) s_nil)
    (s_cons (s_asg (g_name 3 sc_thinner.nd) (e_tuple T.n_tuple (e_lc (own := [("v", 4), ("c", 5)]) rfl sc_thinner.nd (i_exp (e_ix hr (e_var 0) (e_int))) (blkOk_by (N := N_thinner) (sc := (defScope s_thinner)) (by decide +kernel)) (by decide) (fun _ _ _ _ _ => (g_tup rfl (gs_cons (g_name 4 sc_thinner.nd) (gs_cons (g_name 5 sc_thinner.nd) gs_nil)))) (fun _ _ _ _ _ => ts_nil) (fun _ _ _ _ _ => (e_tup (a_cons (e_var 4) (a_cons (e_div (e_var 5) (e_var 1)) a_nil)))))))
    (s_cons (s_if (t_eq hr (e_var 2) (e_str)) (s_one (s_ret (e_tup (a_cons (e_str) (a_cons (e_var 3) (a_cons (e_var 2) (a_cons (e_neg (e_div (e_neg (e_ix hr (e_var 0) (e_int))) (e_var 1))) a_nil))))))) s_nil)
    (s_one (s_ret (e_tup (a_cons (e_str) (a_cons (e_var 3) (a_cons (e_var 2) (a_cons (e_div (e_ix hr (e_var 0) (e_int)) (e_var 1)) a_nil))))))))))))))
theorem ok_tighter (T : Txt K mg) : FnOk P w K mg base CX0 1 T.a_tighter T.d_tighter ["body", "other"] (spF ⟨K, w⟩ 2 m_tighter) :=
  fn_ok T.F_tighter sc_tighter (by decide) fun cdv A outer s H E hr => (s_cons (s_if (t_eq hr (e_ix hr (e_var 0) (e_int)) (e_str)) (s_one (s_ret (e_lt (e_ix hr (e_var 0) (e_int)) (e_ix hr (e_var 1) (e_int))))) s_nil)
    (s_one (s_ret (e_gt (e_ix hr (e_var 0) (e_int)) (e_ix hr (e_var 1) (e_int))))))
theorem ok_doubled (T : Txt K mg) : FnOk P w K mg base CX0 2 T.a_doubled T.d_doubled ["bodies"] (spF ⟨K, w⟩ 1 m_doubled) :=
  fn_ok T.F_doubled sc_doubled (by decide) fun cdv A outer s H E hr => (s_cons (s_asg (g_name 1 sc_doubled.nd) (e_dn))
    (s_cons (s_asg (g_name 2 sc_doubled.nd) (e_lst a_nil))
    (s_cons (s_for rfl (g_tup rfl (gs_cons (g_name 3 sc_doubled.nd) (gs_cons (g_name 4 sc_doubled.nd) gs_nil))) (i_enumV 0 T.n_enumerate) (s_one (s_if (t_w (w_and (t_eq hr (e_ix hr (e_var 4) (e_int)) (e_str)) (w_and1 (t_ne hr (e_ix hr (e_var 4) (e_int)) (e_str))))) (s_cons (s_asg (g_name 5 sc_doubled.nd) (e_tup (a_cons (e_ix hr (e_var 4) (e_int)) (a_cons (e_ix hr (e_var 4) (e_int)) a_nil))))
    (s_cons (s_asg (g_name 6 sc_doubled.nd) (e_getN1 hr (e_var 1) (e_var 5) ⟨rfl, rfl, rfl, rfl⟩))
    (s_one (s_if (t_w (w_and (t_notN (e_var 6) (e_non)) (w_and1 (t_not (t_val (e_call (ok_tighter T) hr (by decide) T.g_tighter T.F_tighter.kp T.b_tighter (fun _ _ _ => cFn_len) (a_cons (e_var 4) (a_cons (e_ix hr (e_var 0) (e_var 6)) a_nil)))))))) (s_one (s_app 2 (e_var 3))) (s_cons (s_if (t_notN (e_var 6) (e_non)) (s_one (s_app 2 (e_var 6))) s_nil)
    (s_one (s_setN 1 hr (e_var 5) (e_var 3)))))))) s_nil)))
    (s_one (s_ret (e_sortI T.n_sorted (e_var 2)))))))
theorem ok_law_draw (T : Txt K mg) : FnOk P w K mg base CX0 1 T.a_law_draw T.d_law_draw ["tape", "many"] (spF ⟨K, w⟩ 2 m_law_draw) :=
  fn_ok T.F_law_draw sc_law_draw (by decide) fun cdv A outer s H E hr => (s_cons (s_if (t_lt (e_ix hr (e_var 0) (e_int)) (e_var 1)) (s_cons (s_asg (g_name 3 sc_law_draw.nd) (e_ix hr (e_var 0) (e_int)))
    (s_cons (s_asg (g_name 4 sc_law_draw.nd) (e_ix hr (e_var 0) (e_int)))
    (s_cons (s_asg (g_name 5 sc_law_draw.nd) (e_int))
    (s_cons (s_if (t_lt (e_var 4) (e_len T.n_len (e_var 3))) (s_one (s_asg (g_name 5 sc_law_draw.nd) (e_ix hr (e_var 3) (e_var 4)))) s_nil)
    (s_cons (s_if (t_lt (e_var 5) (e_int)) (s_one (s_asg (g_name 5 sc_law_draw.nd) (e_sub (e_mul (e_neg (e_int)) (e_var 5)) (e_int)))) s_nil)
    (s_cons (s_if (t_lt (e_var 5) (e_pow (e_int) (e_int))) (s_cons (s_asg (g_name 5 sc_law_draw.nd) (e_mod (e_intf T.n_int (e_add (e_add (e_mul (e_var 5) (e_int)) (e_mul (e_var 4) (e_int))) (e_int))) (e_int)))
    (s_one (s_asg (g_name 5 sc_law_draw.nd) (e_mod (e_intf T.n_int (e_add (e_add (e_mul (e_var 5) (e_int)) (e_mul (e_var 4) (e_int))) (e_int))) (e_int))))) s_nil)
    (s_cons (s_setIx 0 hr (e_int) (e_add (e_var 4) (e_int)))
    (s_one (s_setIx 0 hr (e_int) (e_var 5)))))))))) s_nil)
    (s_cons (s_asg (g_name 2 sc_law_draw.nd) (e_mod (e_intf T.n_int (e_ix hr (e_var 0) (e_int))) (e_var 1)))
    (s_cons (s_setIx 0 hr (e_int) (e_div (e_ix hr (e_var 0) (e_int)) (e_var 1)))
    (s_one (s_retV 2)))))
theorem ok_law_tape (T : Txt K mg) : FnOk P w K mg base CX0 1 T.a_law_tape T.d_law_tape ["script"] (spF ⟨K, w⟩ 1 m_law_tape) :=
  fn_ok T.F_law_tape sc_law_tape (by decide) fun cdv A outer s H E hr => (s_one (s_ret (e_box (a_cons (e_list T.n_list (e_var 0)) (a_cons (e_int) (a_cons (e_int) a_nil))))))
theorem ok_law_terms (T : Txt K mg) : FnOk P w K mg base CX0 2 T.a_law_terms T.d_law_terms ["tape", "many"] (spF ⟨K, w⟩ 2 m_law_terms) :=
  fn_ok T.F_law_terms sc_law_terms (by decide) fun cdv A outer s H E hr => (s_cons (s_asg (g_name 2 sc_law_terms.nd) (e_lst a_nil))
    (s_cons (s_for rfl (g_name 3 sc_law_terms.nd) (i_range1 T.n_range (e_var 1)) (s_cons (s_asg (g_name 4 sc_law_terms.nd) (e_sub (e_call (ok_law_draw T) hr (by decide) T.g_law_draw T.F_law_draw.kp T.b_law_draw (fun _ _ _ => cFn_len) (a_cons (e_var 0) (a_cons (e_int) a_nil))) (e_int)))
    (s_one (s_if (t_ne hr (e_var 4) (e_int)) (s_one (s_app 2 (e_tup (a_cons (e_var 3) (a_cons (e_var 4) a_nil))))) s_nil))))
    (s_one (s_ret (e_tuple T.n_tuple (e_var 2))))))
theorem ok_law_literal (T : Txt K mg) : FnOk P w K mg base CX0 2 T.a_law_literal T.d_law_literal ["tape", "many"] (spF ⟨K, w⟩ 2 m_law_literal) :=
  fn_ok T.F_law_literal sc_law_literal (by decide) fun cdv A outer s H E hr => (s_cons (s_asg (g_name 2 sc_law_literal.nd) (e_ix hr (e_lst (a_cons (e_str) (a_cons (e_str) (a_cons (e_str) (a_cons (e_str) a_nil))))) (e_call (ok_law_draw T) hr (by decide) T.g_law_draw T.F_law_draw.kp T.b_law_draw (fun _ _ _ => cFn_len) (a_cons (e_var 0) (a_cons (e_int) a_nil)))))
    (s_one (s_ret (e_tup (a_cons (e_call (ok_law_draw T) hr (by decide) T.g_law_draw T.F_law_draw.kp T.b_law_draw (fun _ _ _ => cFn_len) (a_cons (e_var 0) (a_cons (e_var 1) a_nil))) (a_cons (e_var 2) (a_cons (e_sub (e_call (ok_law_draw T) hr (by decide) T.g_law_draw T.F_law_draw.kp T.b_law_draw (fun _ _ _ => cFn_len) (a_cons (e_var 0) (a_cons (e_int) a_nil))) (e_int)) a_nil)))))))
theorem ok_law_some (T : Txt K mg) : FnOk P w K mg base CX0 2 T.a_law_some T.d_law_some ["tape", "many", "least"] (spF ⟨K, w⟩ 3 m_law_some) :=
  fn_ok T.F_law_some sc_law_some (by decide) fun cdv A outer s H E hr => (s_cons (s_asg (g_name 3 sc_law_some.nd) (e_listRange rfl T.n_list T.n_range (e_var 1)))
    (s_cons (s_asg (g_name 4 sc_law_some.nd) (e_lst a_nil))
    (s_cons (s_for rfl (g_name 5 sc_law_some.nd) (i_range1 T.n_range (e_add (e_var 2) (e_call (ok_law_draw T) hr (by decide) T.g_law_draw T.F_law_draw.kp T.b_law_draw (fun _ _ _ => cFn_len) (a_cons (e_var 0) (a_cons (e_add (e_sub (e_var 1) (e_var 2)) (e_int)) a_nil))))) (s_one (s_appPop 4 3 (e_call (ok_law_draw T) hr (by decide) T.g_law_draw T.F_law_draw.kp T.b_law_draw (fun _ _ _ => cFn_len) (a_cons (e_var 0) (a_cons (e_len T.n_len (e_var 3)) a_nil))))))
    (s_one (s_ret (e_tuple T.n_tuple (e_var 4)))))))
theorem ok_law_body (T : Txt K mg) : FnOk P w K mg base CX0 3 T.a_law_body T.d_law_body ["tape", "many"] (spF ⟨K, w⟩ 2 m_law_body) :=
  fn_ok T.F_law_body sc_law_body (by decide) fun cdv A outer s H E hr => (s_cons (s_asg (g_name 2 sc_law_body.nd) (e_call (ok_law_draw T) hr (by decide) T.g_law_draw T.F_law_draw.kp T.b_law_draw (fun _ _ _ => cFn_len) (a_cons (e_var 0) (a_cons (e_int) a_nil))))
    (s_cons (s_asg (g_name 3 sc_law_body.nd) (e_ix hr (e_lst (a_cons (e_str) (a_cons (e_str) (a_cons (e_str) a_nil)))) (e_call (ok_law_draw T) hr (by decide) T.g_law_draw T.F_law_draw.kp T.b_law_draw (fun _ _ _ => cFn_len) (a_cons (e_var 0) (a_cons (e_int) a_nil)))))
    (s_cons (s_if (t_eq hr (e_var 2) (e_int)) (s_cons (s_asg (g_name 4 sc_law_body.nd) (e_lst a_nil))
    (s_cons (s_for rfl (g_name 5 sc_law_body.nd) (i_range1 T.n_range (e_add (e_int) (e_call (ok_law_draw T) hr (by decide) T.g_law_draw T.F_law_draw.kp T.b_law_draw (fun _ _ _ => cFn_len) (a_cons (e_var 0) (a_cons (e_int) a_nil))))) (s_cons (s_asg (g_name 6 sc_law_body.nd) (e_call (ok_law_literal T) hr (by decide) T.g_law_literal T.F_law_literal.kp T.b_law_literal (fun _ _ _ => cFn_len) (a_cons (e_var 0) (a_cons (e_var 1) a_nil))))
    (s_one (s_if (t_nin hr (e_var 6) (e_var 4)) (s_one (s_app 4 (e_var 6))) s_nil))))
    (s_one (s_ret (e_tup (a_cons (e_str) (a_cons (e_tuple T.n_tuple (e_var 4)) a_nil))))))) s_nil)
    (s_cons (s_if (t_eq hr (e_var 2) (e_int)) (s_cons (s_asg (g_name 6 sc_law_body.nd) (e_call (ok_law_literal T) hr (by decide) T.g_law_literal T.F_law_literal.kp T.b_law_literal (fun _ _ _ => cFn_len) (a_cons (e_var 0) (a_cons (e_var 1) a_nil))))
    (s_one (s_ret (e_tup (a_cons (e_str) (a_cons (e_var 6) (a_cons (e_call (ok_law_terms T) hr (by decide) T.g_law_terms T.F_law_terms.kp T.b_law_terms (fun _ _ _ => cFn_len) (a_cons (e_var 0) (a_cons (e_var 1) a_nil))) (a_cons (e_var 3) (a_cons (e_sub (e_call (ok_law_draw T) hr (by decide) T.g_law_draw T.F_law_draw.kp T.b_law_draw (fun _ _ _ => cFn_len) (a_cons (e_var 0) (a_cons (e_int) a_nil))) (e_int)) a_nil))))))))) s_nil)
    (s_cons (s_if (t_w (w_and (t_eq hr (e_var 2) (e_int)) (w_and1 (t_gt (e_var 1) (e_int))))) (s_one (s_ret (e_tup (a_cons (e_str) (a_cons (e_call (ok_law_some T) hr (by decide) T.g_law_some T.F_law_some.kp T.b_law_some (fun _ _ _ => cFn_len) (a_cons (e_var 0) (a_cons (e_var 1) (a_cons (e_int) a_nil)))) a_nil))))) s_nil)
    (s_cons (s_if (t_eq hr (e_var 2) (e_int)) (s_cons (s_asg (g_name 7 sc_law_body.nd) (e_sl (e_call (ok_law_some T) hr (by decide) T.g_law_some T.F_law_some.kp T.b_law_some (fun _ _ _ => cFn_len) (a_cons (e_var 0) (a_cons (e_var 1) (a_cons (e_int) a_nil)))) o_none (o_some (e_int))))
    (s_cons (s_asg (g_name 8 sc_law_body.nd) (e_lst a_nil))
    (s_cons (s_for rfl (g_name 5 sc_law_body.nd) (i_range1 T.n_range (e_add (e_int) (e_call (ok_law_draw T) hr (by decide) T.g_law_draw T.F_law_draw.kp T.b_law_draw (fun _ _ _ => cFn_len) (a_cons (e_var 0) (a_cons (e_int) a_nil))))) (s_one (s_app 8 (e_tuple T.n_tuple (e_lc (own := [("v", 10)]) rfl sc_law_body.nd (i_var 7) (blkOk_by (N := N_law_body) (sc := (defScope s_law_body)) (by decide +kernel)) (by decide) (fun _ _ _ _ _ => (g_name 10 sc_law_body.nd)) (fun _ _ _ _ _ => ts_nil) (fun _ _ _ _ _ => (e_sub (e_call (ok_law_draw T) hr (by decide) T.g_law_draw T.F_law_draw.kp T.b_law_draw (fun _ _ _ => cFn_len) (a_cons (e_var 0) (a_cons (e_int) a_nil))) (e_int))))))))
    (s_one (s_ret (e_tup (a_cons (e_str) (a_cons (e_var 7) (a_cons (e_tuple T.n_tuple (e_var 8)) a_nil))))))))) s_nil)
    (s_cons (s_if (t_eq hr (e_var 2) (e_int)) (s_cons (s_setLc (i := 9) (own := [("k", 5)]) rfl sc_law_body.nd (i_range1 T.n_range (e_add (e_int) (e_call (ok_law_draw T) hr (by decide) T.g_law_draw T.F_law_draw.kp T.b_law_draw (fun _ _ _ => cFn_len) (a_cons (e_var 0) (a_cons (e_int) a_nil))))) (blkOk_by (N := N_law_body) (sc := (defScope s_law_body)) (by decide +kernel)) (by decide) (fun _ _ _ _ _ => (g_name 5 sc_law_body.nd)) (fun _ _ _ _ _ => ts_nil) (fun _ _ _ _ _ => (e_sub (e_call (ok_law_draw T) hr (by decide) T.g_law_draw T.F_law_draw.kp T.b_law_draw (fun _ _ _ => cFn_len) (a_cons (e_var 0) (a_cons (e_int) a_nil))) (e_int))))
    (s_one (s_ret (e_tup (a_cons (e_str) (a_cons (e_call (ok_law_draw T) hr (by decide) T.g_law_draw T.F_law_draw.kp T.b_law_draw (fun _ _ _ => cFn_len) (a_cons (e_var 0) (a_cons (e_var 1) a_nil))) (a_cons (e_tuple T.n_tuple (e_var 9)) (a_cons (e_call (ok_law_draw T) hr (by decide) T.g_law_draw T.F_law_draw.kp T.b_law_draw (fun _ _ _ => cFn_len) (a_cons (e_var 0) (a_cons (e_var 1) a_nil))) a_nil)))))))) s_nil)
    (s_cons (s_if (t_eq hr (e_var 2) (e_int)) (s_one (s_ret (e_tup (a_cons (e_str) (a_cons (e_call (ok_law_draw T) hr (by decide) T.g_law_draw T.F_law_draw.kp T.b_law_draw (fun _ _ _ => cFn_len) (a_cons (e_var 0) (a_cons (e_var 1) a_nil))) (a_cons (e_call (ok_law_draw T) hr (by decide) T.g_law_draw T.F_law_draw.kp T.b_law_draw (fun _ _ _ => cFn_len) (a_cons (e_var 0) (a_cons (e_var 1) a_nil))) (a_cons (e_call (ok_law_draw T) hr (by decide) T.g_law_draw T.F_law_draw.kp T.b_law_draw (fun _ _ _ => cFn_len) (a_cons (e_var 0) (a_cons (e_var 1) a_nil))) a_nil))))))) s_nil)
    (s_one (s_ret (e_tup (a_cons (e_str) (a_cons (e_call (ok_law_terms T) hr (by decide) T.g_law_terms T.F_law_terms.kp T.b_law_terms (fun _ _ _ => cFn_len) (a_cons (e_var 0) (a_cons (e_var 1) a_nil))) (a_cons (e_var 3) (a_cons (e_sub (e_call (ok_law_draw T) hr (by decide) T.g_law_draw T.F_law_draw.kp T.b_law_draw (fun _ _ _ => cFn_len) (a_cons (e_var 0) (a_cons (e_int) a_nil))) (e_int)) a_nil)))))))))))))))
theorem ok_law_rel (T : Txt K mg) : FnOk P w K mg base CX0 1 T.a_law_rel T.d_law_rel ["relation", "left", "right"] (spF ⟨K, w⟩ 3 m_law_rel) :=
  fn_ok T.F_law_rel sc_law_rel (by decide) fun cdv A outer s H E hr => (s_cons (s_if (t_eq hr (e_var 0) (e_str)) (s_one (s_ret (e_le (e_var 1) (e_var 2)))) s_nil)
    (s_cons (s_if (t_eq hr (e_var 0) (e_str)) (s_one (s_ret (e_ge (e_var 1) (e_var 2)))) s_nil)
    (s_one (s_ret (e_eq hr (e_eq hr (e_var 1) (e_var 2)) (e_eq hr (e_var 0) (e_str)))))))
theorem ok_law_sum (T : Txt K mg) : FnOk P w K mg base CX0 1 T.a_law_sum T.d_law_sum ["terms", "point"] (spF ⟨K, w⟩ 2 m_law_sum) :=
  fn_ok T.F_law_sum sc_law_sum (by decide) fun cdv A outer s H E hr => (s_cons (s_asg (g_name 2 sc_law_sum.nd) (e_int))
    (s_cons (s_for rfl (g_tup rfl (gs_cons (g_name 3 sc_law_sum.nd) (gs_cons (g_name 4 sc_law_sum.nd) gs_nil))) (i_var 0) (s_one (s_asg (g_name 2 sc_law_sum.nd) (e_add (e_var 2) (e_mul (e_var 4) (e_ix hr (e_var 1) (e_var 3)))))))
    (s_one (s_retV 2))))
theorem ok_law_lit (T : Txt K mg) : FnOk P w K mg base CX0 2 T.a_law_lit T.d_law_lit ["literal", "point"] (spF ⟨K, w⟩ 2 m_law_lit) :=
  fn_ok T.F_law_lit sc_law_lit (by decide) fun cdv A outer s H E hr => (s_one (s_ret (e_call (ok_law_rel T) hr (by decide) T.g_law_rel T.F_law_rel.kp T.b_law_rel (fun _ _ _ => cFn_len) (a_cons (e_ix hr (e_var 0) (e_int)) (a_cons (e_ix hr (e_var 1) (e_ix hr (e_var 0) (e_int))) (a_cons (e_ix hr (e_var 0) (e_int)) a_nil))))))
theorem ok_law_holds (T : Txt K mg) : FnOk P w K mg base CX0 3 T.a_law_holds T.d_law_holds ["body", "point"] (spF ⟨K, w⟩ 2 m_law_holds) :=
  fn_ok T.F_law_holds sc_law_holds (by decide) fun cdv A outer s H E hr => (s_cons (s_if (t_eq hr (e_ix hr (e_var 0) (e_int)) (e_str)) (s_one (s_ret (e_call (ok_law_rel T) hr (by decide) T.g_law_rel T.F_law_rel.kp T.b_law_rel (fun _ _ _ => cFn_len) (a_cons (e_ix hr (e_var 0) (e_int)) (a_cons (e_call (ok_law_sum T) hr (by decide) T.g_law_sum T.F_law_sum.kp T.b_law_sum (fun _ _ _ => cFn_len) (a_cons (e_ix hr (e_var 0) (e_int)) (a_cons (e_var 1) a_nil))) (a_cons (e_ix hr (e_var 0) (e_int)) a_nil)))))) s_nil)
    (s_cons (s_if (t_eq hr (e_ix hr (e_var 0) (e_int)) (e_str)) (s_one (s_ret (e_in hr (e_bl) (e_lc (own := [("literal", 5)]) rfl sc_law_holds.nd (i_exp (e_ix hr (e_var 0) (e_int))) (blkOk_by (N := N_law_holds) (sc := (defScope s_law_holds)) (by decide +kernel)) (by decide) (fun _ _ _ _ _ => (g_name 5 sc_law_holds.nd)) (fun _ _ _ _ _ => ts_nil) (fun _ _ _ _ _ => (e_call (ok_law_lit T) hr (by decide) T.g_law_lit T.F_law_lit.kp T.b_law_lit (fun _ _ _ => cFn_len) (a_cons (e_var 5) (a_cons (e_var 1) a_nil)))))))) s_nil)
    (s_cons (s_if (t_eq hr (e_ix hr (e_var 0) (e_int)) (e_str)) (s_one (s_ret (e_or (e_not (e_call (ok_law_lit T) hr (by decide) T.g_law_lit T.F_law_lit.kp T.b_law_lit (fun _ _ _ => cFn_len) (a_cons (e_ix hr (e_var 0) (e_int)) (a_cons (e_var 1) a_nil)))) (e_one (e_call (ok_law_rel T) hr (by decide) T.g_law_rel T.F_law_rel.kp T.b_law_rel (fun _ _ _ => cFn_len) (a_cons (e_ix hr (e_var 0) (e_int)) (a_cons (e_call (ok_law_sum T) hr (by decide) T.g_law_sum T.F_law_sum.kp T.b_law_sum (fun _ _ _ => cFn_len) (a_cons (e_ix hr (e_var 0) (e_int)) (a_cons (e_var 1) a_nil))) (a_cons (e_ix hr (e_var 0) (e_int)) a_nil)))))))) s_nil)
    (s_cons (s_if (t_eq hr (e_ix hr (e_var 0) (e_int)) (e_str)) (s_cons (s_asg (g_name 2 sc_law_holds.nd) (e_lst a_nil))
    (s_cons (s_for rfl (g_name 3 sc_law_holds.nd) (i_exp (e_ix hr (e_var 0) (e_int))) (s_cons (s_if (t_in hr (e_ix hr (e_var 1) (e_var 3)) (e_var 2)) (s_one (s_ret (e_bl))) s_nil)
    (s_one (s_app 2 (e_ix hr (e_var 1) (e_var 3))))))
    (s_one (s_ret (e_bl))))) s_nil)
    (s_cons (s_if (t_eq hr (e_ix hr (e_var 0) (e_int)) (e_str)) (s_one (s_ret (e_in hr (e_tuple T.n_tuple (e_lc (own := [("v", 3)]) rfl sc_law_holds.nd (i_exp (e_ix hr (e_var 0) (e_int))) (blkOk_by (N := N_law_holds) (sc := (defScope s_law_holds)) (by decide +kernel)) (by decide) (fun _ _ _ _ _ => (g_name 3 sc_law_holds.nd)) (fun _ _ _ _ _ => ts_nil) (fun _ _ _ _ _ => (e_ix hr (e_var 1) (e_var 3))))) (e_ix hr (e_var 0) (e_int))))) s_nil)
    (s_cons (s_if (t_eq hr (e_ix hr (e_var 0) (e_int)) (e_str)) (s_cons (s_asg (g_name 4 sc_law_holds.nd) (e_ix hr (e_var 1) (e_ix hr (e_var 0) (e_int))))
    (s_one (s_ret (e_and (e_ge (e_var 4) (e_int)) (e_and (e_lt (e_var 4) (e_len T.n_len (e_ix hr (e_var 0) (e_int)))) (e_one (e_eq hr (e_ix hr (e_ix hr (e_var 0) (e_int)) (e_var 4)) (e_ix hr (e_var 1) (e_ix hr (e_var 0) (e_int)))))))))) s_nil)
    (s_one (s_ret (e_eq hr (e_mul (e_ix hr (e_var 1) (e_ix hr (e_var 0) (e_int))) (e_ix hr (e_var 1) (e_ix hr (e_var 0) (e_int)))) (e_ix hr (e_var 1) (e_ix hr (e_var 0) (e_int))))))))))))
theorem ok_law_common (T : Txt K mg) : FnOk P w K mg base CX0 1 T.a_law_common T.d_law_common ["terms", "most"] (spF ⟨K, w⟩ 2 m_law_common) :=
  fn_ok T.F_law_common sc_law_common (by decide) fun cdv A outer s H E hr => (s_cons (s_asg (g_name 2 sc_law_common.nd) (e_int))
    (s_cons (s_for rfl (g_name 3 sc_law_common.nd) (i_range2 T.n_range (e_int) (e_add (e_var 1) (e_int))) (s_one (s_if (t_nin hr (e_bl) (e_lc (own := [("v", 4), ("c", 5)]) rfl sc_law_common.nd (i_var 0) (blkOk_by (N := N_law_common) (sc := (defScope s_law_common)) (by decide +kernel)) (by decide) (fun _ _ _ _ _ => (g_tup rfl (gs_cons (g_name 4 sc_law_common.nd) (gs_cons (g_name 5 sc_law_common.nd) gs_nil)))) (fun _ _ _ _ _ => ts_nil) (fun _ _ _ _ _ => (e_eq hr (e_sub (e_var 5) (e_mul (e_div (e_var 5) (e_var 3)) (e_var 3))) (e_int))))) (s_one (s_asg (g_name 2 sc_law_common.nd) (e_var 3))) s_nil)))
    (s_one (s_retV 2))))
theorem ok_law_thin (T : Txt K mg) : FnOk P w K mg base CX0 1 T.a_law_thin T.d_law_thin ["body", "common"] (spF ⟨K, w⟩ 2 m_law_thin) :=
  fn_ok T.F_law_thin sc_law_thin (by decide) fun cdv A outer s H E hr => (s_cons (s_if (t_w (w_or (t_ne hr (e_ix hr (e_var 0) (e_int)) (e_str)) (w_or1 (t_eq hr (e_len T.n_len (e_ix hr (e_var 0) (e_int))) (e_int))))) (s_one (s_retV 0)) s_nil)
    (s_cons (s_if (t_w (w_and (t_eq hr (e_ix hr (e_var 0) (e_int)) (e_str)) (w_and1 (t_ne hr (e_sub (e_ix hr (e_var 0) (e_int)) (e_mul (e_div (e_ix hr (e_var 0) (e_int)) (e_var 1)) (e_var 1))) (e_int))))) (s_one (s_retV 0)) s_nil)
    (s_cons (s_asg (g_name 2 sc_law_thin.nd) (e_div (e_ix hr (e_var 0) (e_int)) (e_var 1)))
    (s_cons (s_if (t_eq hr (e_ix hr (e_var 0) (e_int)) (e_str)) (s_one (s_asg (g_name 2 sc_law_thin.nd) (e_sub (e_int) (e_div (e_sub (e_int) (e_ix hr (e_var 0) (e_int))) (e_var 1))))) s_nil)
    (s_one (s_ret (e_tup (a_cons (e_str) (a_cons (e_tuple T.n_tuple (e_lc (own := [("v", 3), ("c", 4)]) rfl sc_law_thin.nd (i_exp (e_ix hr (e_var 0) (e_int))) (blkOk_by (N := N_law_thin) (sc := (defScope s_law_thin)) (by decide +kernel)) (by decide) (fun _ _ _ _ _ => (g_tup rfl (gs_cons (g_name 3 sc_law_thin.nd) (gs_cons (g_name 4 sc_law_thin.nd) gs_nil)))) (fun _ _ _ _ _ => ts_nil) (fun _ _ _ _ _ => (e_tup (a_cons (e_var 3) (a_cons (e_div (e_var 4) (e_var 1)) a_nil)))))) (a_cons (e_ix hr (e_var 0) (e_int)) (a_cons (e_var 2) a_nil)))))))))))
theorem ok_law_needless (T : Txt K mg) : FnOk P w K mg base CX0 1 T.a_law_needless T.d_law_needless ["bodies", "k"] (spF ⟨K, w⟩ 2 m_law_needless) :=
  fn_ok T.F_law_needless sc_law_needless (by decide) fun cdv A outer s H E hr => (s_cons (s_asg (g_name 2 sc_law_needless.nd) (e_ix hr (e_var 0) (e_var 1)))
    (s_cons (s_if (t_w (w_or (t_ne hr (e_ix hr (e_var 2) (e_int)) (e_str)) (w_or1 (t_eq hr (e_ix hr (e_var 2) (e_int)) (e_str))))) (s_one (s_ret (e_bl))) s_nil)
    (s_cons (s_for rfl (g_name 3 sc_law_needless.nd) (i_range1 T.n_range (e_len T.n_len (e_var 0))) (s_cons (s_asg (g_name 4 sc_law_needless.nd) (e_ix hr (e_var 0) (e_var 3)))
    (s_one (s_if (t_w (w_and (t_ne hr (e_var 3) (e_var 1)) (w_and1 (t_eq hr (e_sl (e_var 4) o_none (o_some (e_int))) (e_sl (e_var 2) o_none (o_some (e_int))))))) (s_cons (s_asg (g_name 5 sc_law_needless.nd) (e_ix hr (e_lst (a_cons (e_sub (e_ix hr (e_var 4) (e_int)) (e_ix hr (e_var 2) (e_int))) (a_cons (e_sub (e_ix hr (e_var 2) (e_int)) (e_ix hr (e_var 4) (e_int))) a_nil))) (e_intf T.n_int (e_eq hr (e_ix hr (e_var 2) (e_int)) (e_str)))))
    (s_one (s_if (t_w (w_or (t_gt (e_var 5) (e_int)) (w_or1 (t_w (w_and (t_eq hr (e_var 5) (e_int)) (w_and1 (t_lt (e_var 3) (e_var 1)))))))) (s_one (s_ret (e_bl))) s_nil))) s_nil))))
    (s_one (s_ret (e_bl))))))
theorem ok_law (T : Txt K mg) : FnOk P w K mg base CX0 4 T.a_law T.d_law ["script"] (spF ⟨K, w⟩ 1 m_law) :=
  fn_ok T.F_law sc_law (by decide) fun cdv A outer s H E hr => (s_cons (s_asg (g_name 1 sc_law.nd) (e_call (ok_law_tape T) hr (by decide) T.g_law_tape T.F_law_tape.kp T.b_law_tape (fun _ _ _ => cFn_len) (a_cons (e_var 0) a_nil)))
    (s_cons (s_asg (g_name 2 sc_law.nd) (e_add (e_int) (e_call (ok_law_draw T) hr (by decide) T.g_law_draw T.F_law_draw.kp T.b_law_draw (fun _ _ _ => cFn_len) (a_cons (e_var 1) (a_cons (e_int) a_nil)))))
    (s_cons (s_asg (g_name 3 sc_law.nd) (e_add (e_int) (e_call (ok_law_draw T) hr (by decide) T.g_law_draw T.F_law_draw.kp T.b_law_draw (fun _ _ _ => cFn_len) (a_cons (e_var 1) (a_cons (e_int) a_nil)))))
    (s_cons (s_asg (g_name 4 sc_law.nd) (e_eq hr (e_call (ok_law_draw T) hr (by decide) T.g_law_draw T.F_law_draw.kp T.b_law_draw (fun _ _ _ => cFn_len) (a_cons (e_var 1) (a_cons (e_int) a_nil))) (e_int)))
    (s_cons (s_asg (g_name 5 sc_law.nd) (e_call (ok_law_body T) hr (by decide) T.g_law_body T.F_law_body.kp T.b_law_body (fun _ _ _ => cFn_len) (a_cons (e_var 1) (a_cons (e_var 2) a_nil))))
    (s_cons (s_if (t_val (e_var 4)) (s_cons (s_asg (g_name 2 sc_law.nd) (e_int))
    (s_cons (s_asg (g_name 3 sc_law.nd) (e_add (e_int) (e_call (ok_law_draw T) hr (by decide) T.g_law_draw T.F_law_draw.kp T.b_law_draw (fun _ _ _ => cFn_len) (a_cons (e_var 1) (a_cons (e_pow (e_int) (e_int)) a_nil)))))
    (s_one (s_asg (g_name 5 sc_law.nd) (e_tup (a_cons (e_str) (a_cons (e_call (ok_law_terms T) hr (by decide) T.g_law_terms T.F_law_terms.kp T.b_law_terms (fun _ _ _ => cFn_len) (a_cons (e_var 1) (a_cons (e_var 2) a_nil))) (a_cons (e_ix hr (e_lst (a_cons (e_str) (a_cons (e_str) (a_cons (e_str) a_nil)))) (e_call (ok_law_draw T) hr (by decide) T.g_law_draw T.F_law_draw.kp T.b_law_draw (fun _ _ _ => cFn_len) (a_cons (e_var 1) (a_cons (e_int) a_nil)))) (a_cons (e_sub (e_call (ok_law_draw T) hr (by decide) T.g_law_draw T.F_law_draw.kp T.b_law_draw (fun _ _ _ => cFn_len) (a_cons (e_var 1) (a_cons (e_int) a_nil))) (e_int)) a_nil))))))))) s_nil)
    (s_cons (s_if (t_eq hr (e_ix hr (e_var 5) (e_int)) (e_str)) (s_cons (s_asg (g_name 12 sc_law.nd) (e_sub (e_add (e_mul (e_ix hr (e_var 5) (e_int)) (e_ix hr (e_lst (a_cons (e_int) (a_cons (e_var 3) a_nil))) (e_call (ok_law_draw T) hr (by decide) T.g_law_draw T.F_law_draw.kp T.b_law_draw (fun _ _ _ => cFn_len) (a_cons (e_var 1) (a_cons (e_int) a_nil))))) (e_call (ok_law_draw T) hr (by decide) T.g_law_draw T.F_law_draw.kp T.b_law_draw (fun _ _ _ => cFn_len) (a_cons (e_var 1) (a_cons (e_int) a_nil)))) (e_int)))
    (s_one (s_asg (g_name 5 sc_law.nd) (e_tup (a_cons (e_str) (a_cons (e_tuple T.n_tuple (e_lc (own := [("v", 15), ("c", 16)]) rfl sc_law.nd (i_exp (e_ix hr (e_var 5) (e_int))) (blkOk_by (N := N_law) (sc := (defScope s_law)) (by decide +kernel)) (by decide) (fun _ _ _ _ _ => (g_tup rfl (gs_cons (g_name 15 sc_law.nd) (gs_cons (g_name 16 sc_law.nd) gs_nil)))) (fun _ _ _ _ _ => ts_nil) (fun _ _ _ _ _ => (e_tup (a_cons (e_var 15) (a_cons (e_mul (e_var 16) (e_var 3)) a_nil)))))) (a_cons (e_ix hr (e_var 5) (e_int)) (a_cons (e_var 12) a_nil)))))))) s_nil)
    (s_cons (s_asg (g_name 6 sc_law.nd) (e_int))
    (s_cons (s_if (t_eq hr (e_ix hr (e_var 5) (e_int)) (e_str)) (s_one (s_asg (g_name 6 sc_law.nd) (e_mul (e_var 3) (e_call (ok_law_common T) hr (by decide) T.g_law_common T.F_law_common.kp T.b_law_common (fun _ _ _ => cFn_len) (a_cons (e_lc (own := [("v", 15), ("c", 16)]) rfl sc_law.nd (i_exp (e_ix hr (e_var 5) (e_int))) (blkOk_by (N := N_law) (sc := (defScope s_law)) (by decide +kernel)) (by decide) (fun _ _ _ _ _ => (g_tup rfl (gs_cons (g_name 15 sc_law.nd) (gs_cons (g_name 16 sc_law.nd) gs_nil)))) (fun _ _ _ _ _ => ts_nil) (fun _ _ _ _ _ => (e_tup (a_cons (e_var 15) (a_cons (e_div (e_var 16) (e_var 3)) a_nil))))) (a_cons (e_int) a_nil)))))) s_nil)
    (s_cons (s_asg (g_name 7 sc_law.nd) (e_call (ok_thinner T) hr (by decide) T.g_thinner T.F_thinner.kp T.b_thinner (fun _ _ _ => cFn_len) (a_cons (e_var 5) a_nil)))
    (s_cons (s_if (t_ne hr (e_var 7) (e_call (ok_law_thin T) hr (by decide) T.g_law_thin T.F_law_thin.kp T.b_law_thin (fun _ _ _ => cFn_len) (a_cons (e_var 5) (a_cons (e_var 6) a_nil)))) (s_one (s_ret (e_bl))) s_nil)
    (s_cons (s_for rfl (g_name 8 sc_law.nd) (i_range1 T.n_range (e_int)) (s_cons (s_asg (g_name 13 sc_law.nd) (e_tuple T.n_tuple (e_lc (own := [("v", 15)]) rfl sc_law.nd (i_range1 T.n_range (e_var 2)) (blkOk_by (N := N_law) (sc := (defScope s_law)) (by decide +kernel)) (by decide) (fun _ _ _ _ _ => (g_name 15 sc_law.nd)) (fun _ _ _ _ _ => ts_nil) (fun _ _ _ _ _ => (e_sub (e_call (ok_law_draw T) hr (by decide) T.g_law_draw T.F_law_draw.kp T.b_law_draw (fun _ _ _ => cFn_len) (a_cons (e_var 1) (a_cons (e_int) a_nil))) (e_int))))))
    (s_one (s_if (t_ne hr (e_call (ok_law_holds T) hr (by decide) T.g_law_holds T.F_law_holds.kp T.b_law_holds (fun _ _ _ => cFn_len) (a_cons (e_var 7) (a_cons (e_var 13) a_nil))) (e_call (ok_law_holds T) hr (by decide) T.g_law_holds T.F_law_holds.kp T.b_law_holds (fun _ _ _ => cFn_len) (a_cons (e_var 5) (a_cons (e_var 13) a_nil)))) (s_one (s_ret (e_bl))) s_nil))))
    (s_cons (s_asg (g_name 9 sc_law.nd) (e_lst (a_cons (e_tup (a_cons (e_tup (a_cons (e_int) (a_cons (e_int) a_nil))) a_nil)) (a_cons (e_tup (a_cons (e_tup (a_cons (e_int) (a_cons (e_int) a_nil))) (a_cons (e_tup (a_cons (e_int) (a_cons (e_sub (e_int) (e_int)) a_nil))) a_nil))) (a_cons (e_tup (a_cons (e_tup (a_cons (e_int) (a_cons (e_int) a_nil))) a_nil)) (a_cons (e_tup a_nil) a_nil))))))
    (s_cons (s_asg (g_name 10 sc_law.nd) (e_lst a_nil))
    (s_cons (s_for rfl (g_name 8 sc_law.nd) (i_range1 T.n_range (e_call (ok_law_draw T) hr (by decide) T.g_law_draw T.F_law_draw.kp T.b_law_draw (fun _ _ _ => cFn_len) (a_cons (e_var 1) (a_cons (e_int) a_nil)))) (s_cons (s_asg (g_name 14 sc_law.nd) (e_ix hr (e_var 9) (e_call (ok_law_draw T) hr (by decide) T.g_law_draw T.F_law_draw.kp T.b_law_draw (fun _ _ _ => cFn_len) (a_cons (e_var 1) (a_cons (e_int) a_nil)))))
    (s_cons (s_app 10 (e_tup (a_cons (e_str) (a_cons (e_var 14) (a_cons (e_ix hr (e_lst (a_cons (e_str) (a_cons (e_str) (a_cons (e_str) a_nil)))) (e_call (ok_law_draw T) hr (by decide) T.g_law_draw T.F_law_draw.kp T.b_law_draw (fun _ _ _ => cFn_len) (a_cons (e_var 1) (a_cons (e_int) a_nil)))) (a_cons (e_call (ok_law_draw T) hr (by decide) T.g_law_draw T.F_law_draw.kp T.b_law_draw (fun _ _ _ => cFn_len) (a_cons (e_var 1) (a_cons (e_int) a_nil))) a_nil))))))
    (s_one (s_if (t_eq hr (e_call (ok_law_draw T) hr (by decide) T.g_law_draw T.F_law_draw.kp T.b_law_draw (fun _ _ _ => cFn_len) (a_cons (e_var 1) (a_cons (e_int) a_nil))) (e_int)) (s_one (s_setIx 10 hr (e_var 8) (e_tup (a_cons (e_str) (a_cons (e_tup (a_cons (e_tup (a_cons (e_int) (a_cons (e_str) (a_cons (e_call (ok_law_draw T) hr (by decide) T.g_law_draw T.F_law_draw.kp T.b_law_draw (fun _ _ _ => cFn_len) (a_cons (e_var 1) (a_cons (e_int) a_nil))) a_nil)))) a_nil)) a_nil))))) s_nil)))))
    (s_cons (s_setLc (i := 11) (own := [("k", 8)]) rfl sc_law.nd (i_range1 T.n_range (e_len T.n_len (e_var 10))) (blkOk_by (N := N_law) (sc := (defScope s_law)) (by decide +kernel)) (by decide) (fun _ _ _ _ _ => (g_name 8 sc_law.nd)) (fun _ _ _ _ _ => (ts_one (t_val (e_call (ok_law_needless T) hr (by decide) T.g_law_needless T.F_law_needless.kp T.b_law_needless (fun _ _ _ => cFn_len) (a_cons (e_var 10) (a_cons (e_var 8) a_nil)))))) (fun _ _ _ _ _ => (e_var 8)))
    (s_one (s_ret (e_eq hr (e_call (ok_doubled T) hr (by decide) T.g_doubled T.F_doubled.kp T.b_doubled (fun _ _ _ => cFn_len) (a_cons (e_var 10) a_nil)) (e_var 11))))))))))))))))))))
end
/-! ### what the top has left -/
theorem all_mk {l : PySem.W.OpenLaw} {w : World} {K : PySem.W.Frag} {h : Heap} {mg : Str → Option Value} {fa : Addr} (X : K.In h) (G : h.Ns mainGlobals mg) (hfa : mg "law" = some (.ref fa))
    {f0 : Addr} {od0 an0 : Option Addr} {sl0 : Array (Option Value)} {oc0 kV0 dc0 pm0 cd0 ct0 : Value}
    (a0 : PySem.W.nsIn K mainGlobals "thinner" = some (some (.ref f0))) (l0 : K.lookup f0 = some ⟨oc0, od0, .func (PySem.W.fnOf "thinner" "thinner" (defArgs s_thinner) (defBody s_thinner) (defScope s_thinner) .none kV0 dc0 pm0 an0 cd0 ct0), sl0⟩) (c0 : PySem.W.codeIn K cd0 "thinner" = true) (k0 : PySem.W.keepIn K (.ref f0) = true)
    {f1 : Addr} {od1 an1 : Option Addr} {sl1 : Array (Option Value)} {oc1 kV1 dc1 pm1 cd1 ct1 : Value}
    (a1 : PySem.W.nsIn K mainGlobals "tighter" = some (some (.ref f1))) (l1 : K.lookup f1 = some ⟨oc1, od1, .func (PySem.W.fnOf "tighter" "tighter" (defArgs s_tighter) (defBody s_tighter) (defScope s_tighter) .none kV1 dc1 pm1 an1 cd1 ct1), sl1⟩) (c1 : PySem.W.codeIn K cd1 "tighter" = true) (k1 : PySem.W.keepIn K (.ref f1) = true)
    {f2 : Addr} {od2 an2 : Option Addr} {sl2 : Array (Option Value)} {oc2 kV2 dc2 pm2 cd2 ct2 : Value}
    (a2 : PySem.W.nsIn K mainGlobals "doubled" = some (some (.ref f2))) (l2 : K.lookup f2 = some ⟨oc2, od2, .func (PySem.W.fnOf "doubled" "doubled" (defArgs s_doubled) (defBody s_doubled) (defScope s_doubled) .none kV2 dc2 pm2 an2 cd2 ct2), sl2⟩) (c2 : PySem.W.codeIn K cd2 "doubled" = true) (k2 : PySem.W.keepIn K (.ref f2) = true)
    {f3 : Addr} {od3 an3 : Option Addr} {sl3 : Array (Option Value)} {oc3 kV3 dc3 pm3 cd3 ct3 : Value}
    (a3 : PySem.W.nsIn K mainGlobals "_law_draw" = some (some (.ref f3))) (l3 : K.lookup f3 = some ⟨oc3, od3, .func (PySem.W.fnOf "_law_draw" "_law_draw" (defArgs s_law_draw) (defBody s_law_draw) (defScope s_law_draw) .none kV3 dc3 pm3 an3 cd3 ct3), sl3⟩) (c3 : PySem.W.codeIn K cd3 "_law_draw" = true) (k3 : PySem.W.keepIn K (.ref f3) = true)
    {f4 : Addr} {od4 an4 : Option Addr} {sl4 : Array (Option Value)} {oc4 kV4 dc4 pm4 cd4 ct4 : Value}
    (a4 : PySem.W.nsIn K mainGlobals "_law_tape" = some (some (.ref f4))) (l4 : K.lookup f4 = some ⟨oc4, od4, .func (PySem.W.fnOf "_law_tape" "_law_tape" (defArgs s_law_tape) (defBody s_law_tape) (defScope s_law_tape) .none kV4 dc4 pm4 an4 cd4 ct4), sl4⟩) (c4 : PySem.W.codeIn K cd4 "_law_tape" = true) (k4 : PySem.W.keepIn K (.ref f4) = true)
    {f5 : Addr} {od5 an5 : Option Addr} {sl5 : Array (Option Value)} {oc5 kV5 dc5 pm5 cd5 ct5 : Value}
    (a5 : PySem.W.nsIn K mainGlobals "_law_terms" = some (some (.ref f5))) (l5 : K.lookup f5 = some ⟨oc5, od5, .func (PySem.W.fnOf "_law_terms" "_law_terms" (defArgs s_law_terms) (defBody s_law_terms) (defScope s_law_terms) .none kV5 dc5 pm5 an5 cd5 ct5), sl5⟩) (c5 : PySem.W.codeIn K cd5 "_law_terms" = true) (k5 : PySem.W.keepIn K (.ref f5) = true)
    {f6 : Addr} {od6 an6 : Option Addr} {sl6 : Array (Option Value)} {oc6 kV6 dc6 pm6 cd6 ct6 : Value}
    (a6 : PySem.W.nsIn K mainGlobals "_law_literal" = some (some (.ref f6))) (l6 : K.lookup f6 = some ⟨oc6, od6, .func (PySem.W.fnOf "_law_literal" "_law_literal" (defArgs s_law_literal) (defBody s_law_literal) (defScope s_law_literal) .none kV6 dc6 pm6 an6 cd6 ct6), sl6⟩) (c6 : PySem.W.codeIn K cd6 "_law_literal" = true) (k6 : PySem.W.keepIn K (.ref f6) = true)
    {f7 : Addr} {od7 an7 : Option Addr} {sl7 : Array (Option Value)} {oc7 kV7 dc7 pm7 cd7 ct7 : Value}
    (a7 : PySem.W.nsIn K mainGlobals "_law_some" = some (some (.ref f7))) (l7 : K.lookup f7 = some ⟨oc7, od7, .func (PySem.W.fnOf "_law_some" "_law_some" (defArgs s_law_some) (defBody s_law_some) (defScope s_law_some) .none kV7 dc7 pm7 an7 cd7 ct7), sl7⟩) (c7 : PySem.W.codeIn K cd7 "_law_some" = true) (k7 : PySem.W.keepIn K (.ref f7) = true)
    {f8 : Addr} {od8 an8 : Option Addr} {sl8 : Array (Option Value)} {oc8 kV8 dc8 pm8 cd8 ct8 : Value}
    (a8 : PySem.W.nsIn K mainGlobals "_law_body" = some (some (.ref f8))) (l8 : K.lookup f8 = some ⟨oc8, od8, .func (PySem.W.fnOf "_law_body" "_law_body" (defArgs s_law_body) (defBody s_law_body) (defScope s_law_body) .none kV8 dc8 pm8 an8 cd8 ct8), sl8⟩) (c8 : PySem.W.codeIn K cd8 "_law_body" = true) (k8 : PySem.W.keepIn K (.ref f8) = true)
    {f9 : Addr} {od9 an9 : Option Addr} {sl9 : Array (Option Value)} {oc9 kV9 dc9 pm9 cd9 ct9 : Value}
    (a9 : PySem.W.nsIn K mainGlobals "_law_rel" = some (some (.ref f9))) (l9 : K.lookup f9 = some ⟨oc9, od9, .func (PySem.W.fnOf "_law_rel" "_law_rel" (defArgs s_law_rel) (defBody s_law_rel) (defScope s_law_rel) .none kV9 dc9 pm9 an9 cd9 ct9), sl9⟩) (c9 : PySem.W.codeIn K cd9 "_law_rel" = true) (k9 : PySem.W.keepIn K (.ref f9) = true)
    {f10 : Addr} {od10 an10 : Option Addr} {sl10 : Array (Option Value)} {oc10 kV10 dc10 pm10 cd10 ct10 : Value}
    (a10 : PySem.W.nsIn K mainGlobals "_law_sum" = some (some (.ref f10))) (l10 : K.lookup f10 = some ⟨oc10, od10, .func (PySem.W.fnOf "_law_sum" "_law_sum" (defArgs s_law_sum) (defBody s_law_sum) (defScope s_law_sum) .none kV10 dc10 pm10 an10 cd10 ct10), sl10⟩) (c10 : PySem.W.codeIn K cd10 "_law_sum" = true) (k10 : PySem.W.keepIn K (.ref f10) = true)
    {f11 : Addr} {od11 an11 : Option Addr} {sl11 : Array (Option Value)} {oc11 kV11 dc11 pm11 cd11 ct11 : Value}
    (a11 : PySem.W.nsIn K mainGlobals "_law_lit" = some (some (.ref f11))) (l11 : K.lookup f11 = some ⟨oc11, od11, .func (PySem.W.fnOf "_law_lit" "_law_lit" (defArgs s_law_lit) (defBody s_law_lit) (defScope s_law_lit) .none kV11 dc11 pm11 an11 cd11 ct11), sl11⟩) (c11 : PySem.W.codeIn K cd11 "_law_lit" = true) (k11 : PySem.W.keepIn K (.ref f11) = true)
    {f12 : Addr} {od12 an12 : Option Addr} {sl12 : Array (Option Value)} {oc12 kV12 dc12 pm12 cd12 ct12 : Value}
    (a12 : PySem.W.nsIn K mainGlobals "_law_holds" = some (some (.ref f12))) (l12 : K.lookup f12 = some ⟨oc12, od12, .func (PySem.W.fnOf "_law_holds" "_law_holds" (defArgs s_law_holds) (defBody s_law_holds) (defScope s_law_holds) .none kV12 dc12 pm12 an12 cd12 ct12), sl12⟩) (c12 : PySem.W.codeIn K cd12 "_law_holds" = true) (k12 : PySem.W.keepIn K (.ref f12) = true)
    {f13 : Addr} {od13 an13 : Option Addr} {sl13 : Array (Option Value)} {oc13 kV13 dc13 pm13 cd13 ct13 : Value}
    (a13 : PySem.W.nsIn K mainGlobals "_law_common" = some (some (.ref f13))) (l13 : K.lookup f13 = some ⟨oc13, od13, .func (PySem.W.fnOf "_law_common" "_law_common" (defArgs s_law_common) (defBody s_law_common) (defScope s_law_common) .none kV13 dc13 pm13 an13 cd13 ct13), sl13⟩) (c13 : PySem.W.codeIn K cd13 "_law_common" = true) (k13 : PySem.W.keepIn K (.ref f13) = true)
    {f14 : Addr} {od14 an14 : Option Addr} {sl14 : Array (Option Value)} {oc14 kV14 dc14 pm14 cd14 ct14 : Value}
    (a14 : PySem.W.nsIn K mainGlobals "_law_thin" = some (some (.ref f14))) (l14 : K.lookup f14 = some ⟨oc14, od14, .func (PySem.W.fnOf "_law_thin" "_law_thin" (defArgs s_law_thin) (defBody s_law_thin) (defScope s_law_thin) .none kV14 dc14 pm14 an14 cd14 ct14), sl14⟩) (c14 : PySem.W.codeIn K cd14 "_law_thin" = true) (k14 : PySem.W.keepIn K (.ref f14) = true)
    {f15 : Addr} {od15 an15 : Option Addr} {sl15 : Array (Option Value)} {oc15 kV15 dc15 pm15 cd15 ct15 : Value}
    (a15 : PySem.W.nsIn K mainGlobals "_law_needless" = some (some (.ref f15))) (l15 : K.lookup f15 = some ⟨oc15, od15, .func (PySem.W.fnOf "_law_needless" "_law_needless" (defArgs s_law_needless) (defBody s_law_needless) (defScope s_law_needless) .none kV15 dc15 pm15 an15 cd15 ct15), sl15⟩) (c15 : PySem.W.codeIn K cd15 "_law_needless" = true) (k15 : PySem.W.keepIn K (.ref f15) = true)
    {f16 : Addr} {od16 an16 : Option Addr} {sl16 : Array (Option Value)} {oc16 kV16 dc16 pm16 cd16 ct16 : Value}
    (a16 : PySem.W.nsIn K mainGlobals "law" = some (some (.ref f16))) (l16 : K.lookup f16 = some ⟨oc16, od16, .func (PySem.W.fnOf "law" "law" (defArgs s_law) (defBody s_law) (defScope s_law) .none kV16 dc16 pm16 an16 cd16 ct16), sl16⟩) (c16 : PySem.W.codeIn K cd16 "law" = true) (k16 : PySem.W.keepIn K (.ref f16) = true)
    (z_enumerate : PySem.W.nsIn K mainGlobals "enumerate" = some none)
    (z_int : PySem.W.nsIn K mainGlobals "int" = some none)
    (z_len : PySem.W.nsIn K mainGlobals "len" = some none)
    (z_list : PySem.W.nsIn K mainGlobals "list" = some none)
    (z_range : PySem.W.nsIn K mainGlobals "range" = some none)
    (z_sorted : PySem.W.nsIn K mainGlobals "sorted" = some none)
    (z_tuple : PySem.W.nsIn K mainGlobals "tuple" = some none)
    (y_gcd : PySem.W.nsIn K mainGlobals "gcd" = some (some (.builtin "math.gcd")))
    : ∃ fd : FuncData, (∀ (s : Shared) (v : Value), BindsTo s fd ⟨[v], []⟩ [("script", v)]) ∧ ∀ base : Heap, K.In base → base.Ns mainGlobals mg → FnOk l.prog w K mg base CX0 4 fa fd ["script"] (spF ⟨K, w⟩ 1 m_law) := by
  have e := hfa.symm.trans (PySem.W.mg_of X G a16)
  cases e
  exact ⟨_, fun s v => .of_eq rfl, fun base _ _ => ok_law { a_thinner := _, d_thinner := _, F_thinner := fun_mk (st := s_thinner) l0 c0 k0, g_thinner := PySem.W.mg_of X G a0, b_thinner := (fun_mk (st := s_thinner) l0 c0 k0).binds (ps := ["body"]) (fun _ _ _ _ _ _ us hl => (match us, hl with | [_], _ => rfl)), a_tighter := _, d_tighter := _, F_tighter := fun_mk (st := s_tighter) l1 c1 k1, g_tighter := PySem.W.mg_of X G a1, b_tighter := (fun_mk (st := s_tighter) l1 c1 k1).binds (ps := ["body", "other"]) (fun _ _ _ _ _ _ us hl => (match us, hl with | [_, _], _ => rfl)), a_doubled := _, d_doubled := _, F_doubled := fun_mk (st := s_doubled) l2 c2 k2, g_doubled := PySem.W.mg_of X G a2, b_doubled := (fun_mk (st := s_doubled) l2 c2 k2).binds (ps := ["bodies"]) (fun _ _ _ _ _ _ us hl => (match us, hl with | [_], _ => rfl)), a_law_draw := _, d_law_draw := _, F_law_draw := fun_mk (st := s_law_draw) l3 c3 k3, g_law_draw := PySem.W.mg_of X G a3, b_law_draw := (fun_mk (st := s_law_draw) l3 c3 k3).binds (ps := ["tape", "many"]) (fun _ _ _ _ _ _ us hl => (match us, hl with | [_, _], _ => rfl)), a_law_tape := _, d_law_tape := _, F_law_tape := fun_mk (st := s_law_tape) l4 c4 k4, g_law_tape := PySem.W.mg_of X G a4, b_law_tape := (fun_mk (st := s_law_tape) l4 c4 k4).binds (ps := ["script"]) (fun _ _ _ _ _ _ us hl => (match us, hl with | [_], _ => rfl)), a_law_terms := _, d_law_terms := _, F_law_terms := fun_mk (st := s_law_terms) l5 c5 k5, g_law_terms := PySem.W.mg_of X G a5, b_law_terms := (fun_mk (st := s_law_terms) l5 c5 k5).binds (ps := ["tape", "many"]) (fun _ _ _ _ _ _ us hl => (match us, hl with | [_, _], _ => rfl)), a_law_literal := _, d_law_literal := _, F_law_literal := fun_mk (st := s_law_literal) l6 c6 k6, g_law_literal := PySem.W.mg_of X G a6, b_law_literal := (fun_mk (st := s_law_literal) l6 c6 k6).binds (ps := ["tape", "many"]) (fun _ _ _ _ _ _ us hl => (match us, hl with | [_, _], _ => rfl)), a_law_some := _, d_law_some := _, F_law_some := fun_mk (st := s_law_some) l7 c7 k7, g_law_some := PySem.W.mg_of X G a7, b_law_some := (fun_mk (st := s_law_some) l7 c7 k7).binds (ps := ["tape", "many", "least"]) (fun _ _ _ _ _ _ us hl => (match us, hl with | [_, _, _], _ => rfl)), a_law_body := _, d_law_body := _, F_law_body := fun_mk (st := s_law_body) l8 c8 k8, g_law_body := PySem.W.mg_of X G a8, b_law_body := (fun_mk (st := s_law_body) l8 c8 k8).binds (ps := ["tape", "many"]) (fun _ _ _ _ _ _ us hl => (match us, hl with | [_, _], _ => rfl)), a_law_rel := _, d_law_rel := _, F_law_rel := fun_mk (st := s_law_rel) l9 c9 k9, g_law_rel := PySem.W.mg_of X G a9, b_law_rel := (fun_mk (st := s_law_rel) l9 c9 k9).binds (ps := ["relation", "left", "right"]) (fun _ _ _ _ _ _ us hl => (match us, hl with | [_, _, _], _ => rfl)), a_law_sum := _, d_law_sum := _, F_law_sum := fun_mk (st := s_law_sum) l10 c10 k10, g_law_sum := PySem.W.mg_of X G a10, b_law_sum := (fun_mk (st := s_law_sum) l10 c10 k10).binds (ps := ["terms", "point"]) (fun _ _ _ _ _ _ us hl => (match us, hl with | [_, _], _ => rfl)), a_law_lit := _, d_law_lit := _, F_law_lit := fun_mk (st := s_law_lit) l11 c11 k11, g_law_lit := PySem.W.mg_of X G a11, b_law_lit := (fun_mk (st := s_law_lit) l11 c11 k11).binds (ps := ["literal", "point"]) (fun _ _ _ _ _ _ us hl => (match us, hl with | [_, _], _ => rfl)), a_law_holds := _, d_law_holds := _, F_law_holds := fun_mk (st := s_law_holds) l12 c12 k12, g_law_holds := PySem.W.mg_of X G a12, b_law_holds := (fun_mk (st := s_law_holds) l12 c12 k12).binds (ps := ["body", "point"]) (fun _ _ _ _ _ _ us hl => (match us, hl with | [_, _], _ => rfl)), a_law_common := _, d_law_common := _, F_law_common := fun_mk (st := s_law_common) l13 c13 k13, g_law_common := PySem.W.mg_of X G a13, b_law_common := (fun_mk (st := s_law_common) l13 c13 k13).binds (ps := ["terms", "most"]) (fun _ _ _ _ _ _ us hl => (match us, hl with | [_, _], _ => rfl)), a_law_thin := _, d_law_thin := _, F_law_thin := fun_mk (st := s_law_thin) l14 c14 k14, g_law_thin := PySem.W.mg_of X G a14, b_law_thin := (fun_mk (st := s_law_thin) l14 c14 k14).binds (ps := ["body", "common"]) (fun _ _ _ _ _ _ us hl => (match us, hl with | [_, _], _ => rfl)), a_law_needless := _, d_law_needless := _, F_law_needless := fun_mk (st := s_law_needless) l15 c15 k15, g_law_needless := PySem.W.mg_of X G a15, b_law_needless := (fun_mk (st := s_law_needless) l15 c15 k15).binds (ps := ["bodies", "k"]) (fun _ _ _ _ _ _ us hl => (match us, hl with | [_, _], _ => rfl)), a_law := _, d_law := _, F_law := fun_mk (st := s_law) l16 c16 k16, g_law := PySem.W.mg_of X G a16, b_law := (fun_mk (st := s_law) l16 c16 k16).binds (ps := ["script"]) (fun _ _ _ _ _ _ us hl => (match us, hl with | [_], _ => rfl)), n_enumerate := PySem.W.mg_none_of X G z_enumerate, n_int := PySem.W.mg_none_of X G z_int, n_len := PySem.W.mg_none_of X G z_len, n_list := PySem.W.mg_none_of X G z_list, n_range := PySem.W.mg_none_of X G z_range, n_sorted := PySem.W.mg_none_of X G z_sorted, n_tuple := PySem.W.mg_none_of X G z_tuple, v_gcd := PySem.W.mg_of X G y_gcd }⟩
end K77
/-! rows made thinner (printed by mk77b.py) -/
namespace K77
open PySem PySem.Spec PyProof.Rows L2 Mp Lg
local macro_rules | `(tactic| walk_at "ev") => `(tactic| simp -implicitDefEqProofs only [q_lit, q_nil, q_cons, q_var, q_bin, q_tup, q_lst, q_box, q_neg, q_notT, q_andT, q_orT, q_notV, q_andV, q_orV, q_if, q_B, q_ix, q_call, q_bi, q_sl, q_oNone, q_oSome, q_dk, q_dt, q_yesT, q_get2,
  q_lc, q_iExp, q_iVar, q_iEnV, items_tup, items_lst, q_seq, q_skip, q_ret, q_retV, q_ifS, q_asg, q_drop, q_for, q_tName, q_tTup, q_tCons, q_tNil, q_fz, q_frzE, q_app, q_aug, q_setIx, q_wipe0, q_wipe, fin_rt, fin_nx,
  mut_non, mut_bl, mut_int, mut_str, mut_tup, mut_lst, mut_dk, mut_dt, mut_scr, mut_cel, sto_non, sto_bl, sto_int, sto_str, sto_tup, sto_scr, sto_cel, sto_own, sto_frz, md_non, md_bl, md_int, md_str, md_tup, md_lst, md_dk, md_dt, md_scr, md_cel,
  gAdd_int, gAddI_int, gSub_int, gLt_int, gLe_int, gGt_int, gGe_int, gInt_int, gInt_bl, gLen_tup, gLen_lst, gTuple_lst, gTuple_tup, gList_scr, gList_lst, gList_tup, gIx_tup, gIx_lst, gEq_int, gEq_bl, atI_0, atI_1, atI_2, atI_3, atI_4,
  bnd_some, Option.map_some, Option.bind_some, List.getElem?_cons_succ, List.getElem?_cons_zero, List.set_cons_succ, List.set_cons_zero, List.foldl_cons, List.foldl_nil, List.map_cons, List.map_nil, List.length_map, List.length_cons, List.length_nil, List.all_cons, List.all_nil, Bool.and_true, Bool.true_and, and_true, true_and, false_and, and_false,
  size_le, size_lt', Nat.reduceAdd, Nat.reduceLeDiff, Nat.zero_add, ne_eq, decide_eq_true_eq, Int.reduceEq, Int.reduceLT, Int.reduceLE, Int.reduceNeg, decide_true, decide_false, Bool.false_bne, Bool.true_bne, Bool.not_true, Bool.not_false, md_encT, md_encP, md_encL, md_encB, sto_encT, sto_encP, sto_encL, sto_encB, md_encG, md_encU, md_encC, sto_encG, sto_encU, sto_encC, reduceCtorEq, if_false, if_true, ite_true, ite_false, Bool.false_eq_true, kq_row_row, kq_row_any, kq_row_whn, kq_row_dif, kq_row_tab, kq_row_ele, kq_row_tim, kq_any_row, kq_any_any, kq_any_whn, kq_any_dif, kq_any_tab, kq_any_ele, kq_any_tim, kq_whn_row, kq_whn_any, kq_whn_whn, kq_whn_dif, kq_whn_tab, kq_whn_ele, kq_whn_tim, kq_dif_row, kq_dif_any, kq_dif_whn, kq_dif_dif, kq_dif_tab, kq_dif_ele, kq_dif_tim, kq_tab_row, kq_tab_any, kq_tab_whn, kq_tab_dif, kq_tab_tab, kq_tab_ele, kq_tab_tim, kq_ele_row, kq_ele_any, kq_ele_whn, kq_ele_dif, kq_ele_tab, kq_ele_ele, kq_ele_tim, kq_tim_row, kq_tim_any, kq_tim_whn, kq_tim_dif, kq_tim_tab, kq_tim_ele, kq_tim_tim, qn_chain, q_getN1, q_setN, gIsN_non, gIsN_int, isNon_non, isNon_int, gGcd_int, gLen_T, items_T, items_P, kd_ne_row, g0n])
local macro_rules | `(tactic| walk_at "go") => `(tactic| simp -implicitDefEqProofs only [q_lit, q_nil, q_cons, q_var, q_bin, q_tup, q_lst, q_box, q_neg, q_notT, q_andT, q_orT, q_notV, q_andV, q_orV, q_if, q_B, q_ix, q_call, q_bi, q_sl, q_oNone, q_oSome, q_dk, q_dt, q_yesT, q_get2,
  q_lc, q_iExp, q_iVar, q_iEnV, items_tup, items_lst, q_seq, q_skip, q_ret, q_retV, q_ifS, q_asg, q_drop, q_for, q_tName, q_tTup, q_tCons, q_tNil, q_fz, q_frzE, q_app, q_aug, q_setIx, q_wipe0, q_wipe, fin_rt, fin_nx,
  mut_non, mut_bl, mut_int, mut_str, mut_tup, mut_lst, mut_dk, mut_dt, mut_scr, mut_cel, sto_non, sto_bl, sto_int, sto_str, sto_tup, sto_scr, sto_cel, sto_own, sto_frz, md_non, md_bl, md_int, md_str, md_tup, md_lst, md_dk, md_dt, md_scr, md_cel,
  gAdd_int, gAddI_int, gSub_int, gLt_int, gLe_int, gGt_int, gGe_int, gInt_int, gInt_bl, gLen_tup, gLen_lst, gTuple_lst, gTuple_tup, gList_scr, gList_lst, gList_tup, gIx_tup, gIx_lst, gEq_int, gEq_bl, atI_0, atI_1, atI_2, atI_3, atI_4,
  bnd_some, Option.map_some, Option.bind_some, List.getElem?_cons_succ, List.getElem?_cons_zero, List.set_cons_succ, List.set_cons_zero, List.foldl_cons, List.foldl_nil, List.map_cons, List.map_nil, List.length_map, List.length_cons, List.length_nil, List.all_cons, List.all_nil, Bool.and_true, Bool.true_and, and_true, true_and, false_and, and_false,
  size_le, size_lt', Nat.reduceAdd, Nat.reduceLeDiff, Nat.zero_add, ne_eq, decide_eq_true_eq, Int.reduceEq, Int.reduceLT, Int.reduceLE, Int.reduceNeg, decide_true, decide_false, Bool.false_bne, Bool.true_bne, Bool.not_true, Bool.not_false, md_encT, md_encP, md_encL, md_encB, sto_encT, sto_encP, sto_encL, sto_encB, md_encG, md_encU, md_encC, sto_encG, sto_encU, sto_encC, reduceCtorEq, if_false, if_true, ite_true, ite_false, Bool.false_eq_true, kq_row_row, kq_row_any, kq_row_whn, kq_row_dif, kq_row_tab, kq_row_ele, kq_row_tim, kq_any_row, kq_any_any, kq_any_whn, kq_any_dif, kq_any_tab, kq_any_ele, kq_any_tim, kq_whn_row, kq_whn_any, kq_whn_whn, kq_whn_dif, kq_whn_tab, kq_whn_ele, kq_whn_tim, kq_dif_row, kq_dif_any, kq_dif_whn, kq_dif_dif, kq_dif_tab, kq_dif_ele, kq_dif_tim, kq_tab_row, kq_tab_any, kq_tab_whn, kq_tab_dif, kq_tab_tab, kq_tab_ele, kq_tab_tim, kq_ele_row, kq_ele_any, kq_ele_whn, kq_ele_dif, kq_ele_tab, kq_ele_ele, kq_ele_tim, kq_tim_row, kq_tim_any, kq_tim_whn, kq_tim_dif, kq_tim_tab, kq_tim_ele, kq_tim_tim, qn_chain, q_getN1, q_setN, gIsN_non, gIsN_int, isNon_non, isNon_int, gGcd_int, gLen_T, items_T, items_P, kd_ne_row, g0n, *])

theorem draw_eq : m_law_draw = mDraw := rfl
theorem tape_eq : m_law_tape = mTape := rfl
theorem terms_eq : m_law_terms = Lg.m_law_terms := rfl
theorem body_eq : m_law_body = Lg.m_law_body := rfl
theorem rel_eq : m_law_rel = Lg.m_law_rel := rfl
theorem sum_eq : m_law_sum = Lg.m_law_sum := rfl
theorem holds_eq : m_law_holds = Lg.m_law_holds := rfl
/-! ### what thinner computes -/
def gcdT (ts : Lg.Tm) : Nat := ts.foldl (fun g t => Nat.gcd g t.2.natAbs) 0
def divT (g : Int) (ts : Lg.Tm) : Lg.Tm := ts.map fun t => (t.1, t.2 / g)
def thinR (g : Int) (ts : Lg.Tm) (r : Rl) (b : Int) : Bd :=
  if r = .eq ∧ b % g ≠ 0 then .row ts r b else if r = .ge then .row (divT g ts) r (-(-b / g)) else .row (divT g ts) r (b / g)
theorem lc_div {ts : Lg.Tm} {g : Int} {ρ : Mp.Env} {S : Store} {i j k : Nat} {m : Md} (hg : 0 < g) (hg2 : g < 1073741824) (hij : i ≠ j) (hki : k ≠ i) (hkj : k ≠ j) (hi : i < ρ.length) (hj : j < ρ.length) (hk : ρ[k]? = some (some (.int g, m))) :
    lcL (tTup 2 (tCons (tName i) (tCons (tName j) tNil))) tYesT (cTup (cCons (cVar i) (cCons (cBin gDiv (cVar j) (cVar k)) cNil))) ρ (ts.map fun p => .tup [.int p.1, .int p.2]) S = some ((divT g ts).map fun p => .tup [.int p.1, .int p.2], S) := by
  rw [lc_map (g := fun t : Int × Int => .tup [.int t.1, .int (t.2 / g)]) (enc := fun t : Int × Int => .tup [.int t.1, .int t.2]) fun t ht => ⟨(ρ.set i (some (.int t.1, .frz))).set j (some (.int t.2, .frz)), .own, rfl, rfl, by
    have e1 : ((ρ.set i (some (.int t.1, .frz))).set j (some (.int t.2, .frz)))[i]? = some (some (.int t.1, .frz)) := by rw [List.getElem?_set_ne (Ne.symm hij), List.getElem?_set_self hi]
    have e2 : ((ρ.set i (some (.int t.1, .frz))).set j (some (.int t.2, .frz)))[j]? = some (some (.int t.2, .frz)) := by rw [List.getElem?_set_self (by rw [List.length_set]; exact hj)]
    have e3 : ((ρ.set i (some (.int t.1, .frz))).set j (some (.int t.2, .frz)))[k]? = some (some (.int g, m)) := by rw [List.getElem?_set_ne (Ne.symm hkj), List.getElem?_set_ne (Ne.symm hki)]; exact hk
    have e4 : gDiv (.int t.2) (.int g) = some (.int (t.2 / g)) := gDiv_int hg hg2
    simp -implicitDefEqProofs only [q_tup, q_cons, q_nil, q_var, q_bin, e1, e2, e3, e4, bnd_some, reduceCtorEq, if_false, Option.map_some, List.map_cons, List.map_nil]
    rw [if_pos ⟨by simp, size_ok (by simp)⟩], rfl⟩]
  unfold divT
  rw [List.map_map]
  rfl
theorem gcd_loop (ts : Lg.Tm) (S : Store) {x0 x2 x3 x4 x5 : Option Wm} : ∃ y4 y5, cForL (tTup 2 (tCons (tName 4) (tCons (tName 5) tNil))) (cAsg (tName 1) (cBi gGcd (cCons (cVar 1) (cCons (cVar 5) cNil)))) (ts.map fun p => .tup [.int p.1, .int p.2]) [x0, some (.int 0, .frz), x2, x3, x4, x5] S = some (.nx [x0, some (.int ((gcdT ts : Nat) : Int), .frz), x2, x3, y4, y5] S) := by
  obtain ⟨ρ2, S2, e, rfl, y4, y5, rfl⟩ := for_fold (enc := fun p : Int × Int => .tup [.int p.1, .int p.2]) (st := fun (g : Nat) (t : Int × Int) => Nat.gcd g t.2.natAbs) (t := (tTup 2 (tCons (tName 4) (tCons (tName 5) tNil)))) (b := (cAsg (tName 1) (cBi gGcd (cCons (cVar 1) (cCons (cVar 5) cNil)))))
    (fun g ρ S' => S' = S ∧ ∃ x4 x5, ρ = [x0, some (.int ((g : Nat) : Int), .frz), x2, x3, x4, x5]) (xs := ts) (s := 0) (ρ := [x0, some (.int 0, .frz), x2, x3, x4, x5]) (fun t ht g ρ S' hi => by
      obtain ⟨rfl, y4, y5, rfl⟩ := hi
      refine ⟨[x0, some (.int ((g : Nat) : Int), .frz), x2, x3, some (.int t.1, .frz), some (.int t.2, .frz)], [x0, some (.int ((Nat.gcd g t.2.natAbs : Nat) : Int), .frz), x2, x3, some (.int t.1, .frz), some (.int t.2, .frz)], S', by walk_at "ev", ?_, rfl, _, _, rfl⟩
      have e : gGcd S' [.int ((g : Nat) : Int), .int t.2] = some (.int ((Nat.gcd g t.2.natAbs : Nat) : Int)) := rfl
      walk_at "go") ⟨rfl, _, _, rfl⟩
  exact ⟨y4, y5, e⟩
theorem gMod_ne {b g : Int} : (true != decide (b % g = 0)) = decide (b % g ≠ 0) := by
  by_cases h : b % g = 0 <;> simp [h]
theorem thin_row {ts : Lg.Tm} {r : Rl} {b : Int} (S : Store) (hr : r ≠ .ne) (hl : ts.length ≤ 60) (hg : 0 < gcdT ts) (hg2 : gcdT ts < 1073741824) (ht : ts ≠ []) : ∃ m, m_thinner [encB (.row ts r b)] S = some ((encB (thinR ((gcdT ts : Nat) : Int) ts r b), m), S) := by
  have hz : ((ts.length : Nat) : Int) ≠ 0 := by
    intro e
    exact ht (List.length_eq_zero_iff.mp (by omega))
  have hz : decide (((ts.length : Nat) : Int) = 0) = false := decide_eq_false hz
  have eB := b_row ts r b
  unfold m_thinner
  rw [cFn_run (by rfl)]
  show ∃ m, fin (c_thinner [some (encB (.row ts r b), .brw), none, none, none, none, none] S) = _
  unfold c_thinner
  rw [q_seq]
  have e1 : (cIfS ((cOrT (cB (cBin (gEq true) (cIx (cVar 0) (cLit (.int 0))) (cLit (.str "row")))) (cB (cBin (gEq false) (cBi gLen (cCons (cIx (cVar 0) (cLit (.int 1))) cNil)) (cLit (.int 0)))))) (cRetV 0) (cSkip)) [some (encB (.row ts r b), .brw), none, none, none, none, none] S = some (.nx [some (encB (.row ts r b), .brw), none, none, none, none, none] S) := by
    rw [eB]
    have k1 : gEq true (.str "row") (.str "row") = some (.bl false) := kd_ne .row .row
    clear eB hg hg2
    walk_at "go"
  rw [e1]
  dsimp only
  rw [seq_nx (ρ2 := [some (encB (.row ts r b), .brw), some (.int 0, .frz), none, none, none, none]) (S2 := S) (by walk_at "ev")]
  obtain ⟨y4, y5, e2⟩ := gcd_loop ts S (x0 := some (encB (.row ts r b), .brw)) (x2 := none) (x3 := none) (x4 := none) (x5 := none)
  have g1 : gIx S (encB (.row ts r b)) (.int 1) = some (encT ts) := rfl
  have g2 : gIx S (encB (.row ts r b)) (.int 2) = some (.str (rlS r)) := rfl
  have g3 : gIx S (encB (.row ts r b)) (.int 3) = some (.int b) := rfl
  rw [seq_nx (ρ2 := [some (encB (.row ts r b), .brw), some (.int ((gcdT ts : Nat) : Int), .frz), none, none, y4, y5]) (S2 := S) (by
    rw [q_for]
    have e3 : iExp (cIx (cVar 0) (cLit (.int 1))) [some (encB (.row ts r b), .brw), some (.int 0, .frz), none, none, none, none] S = some (ts.map fun p => .tup [.int p.1, .int p.2], S) := by
      clear e1 e2 eB
      walk_at "go"
    rw [e3]
    exact e2)]
  rw [seq_nx (ρ2 := [some (encB (.row ts r b), .brw), some (.int ((gcdT ts : Nat) : Int), .frz), some (.str (rlS r), .frz), none, y4, y5]) (S2 := S) (by clear e1 e2 eB; walk_at "go")]
  generalize hgg : ((gcdT ts : Nat) : Int) = g
  have hg0 : 0 < g := by omega
  have hg1 : g < 1073741824 := by omega
  have m1 : gMod (.int b) (.int g) = some (.int (b % g)) := gMod_int hg0
  have m2 := rl_eq r
  have m3 := rl_ge r
  have m4 : gDiv (.int b) (.int g) = some (.int (b / g)) := gDiv_int hg0 hg1
  have m5 : gDiv (.int (-b)) (.int g) = some (.int (-b / g)) := gDiv_int hg0 hg1
  have d1 := fun x3 => lc_div (ts := ts) (ρ := [some (encB (.row ts r b), .brw), some (.int g, .frz), some (.str (rlS r), .frz), x3, none, none]) (S := S) (i := 4) (j := 5) (k := 1) (m := .frz) hg0 hg1 (by decide) (by decide) (by decide) (by simp) (by simp) rfl
  have ev_ : cAsg (tName 3) (cBi gTuple (cCons (cLc (tTup 2 (tCons (tName 4) (tCons (tName 5) tNil))) (iExp (cIx (cVar 0) (cLit (.int 1)))) tYesT (cTup (cCons (cVar 4) (cCons (cBin gDiv (cVar 5) (cVar 1)) cNil))) [4, 5]) cNil)) [some (encB (.row ts r b), .brw), some (.int g, .frz), some (.str (rlS r), .frz), none, y4, y5] S
      = some (.nx [some (encB (.row ts r b), .brw), some (.int g, .frz), some (.str (rlS r), .frz), some (encT (divT g ts), .frz), y4, y5] S) := by
    have d1 := d1 none
    clear e1 e2 eB m1 m2 m3 m4 m5
    walk_at "go"
    rw [if_pos (size_ok (by omega))]
    walk_at "go"
    rfl
  unfold thinR
  by_cases hc : r = .eq ∧ b % g ≠ 0
  · rw [if_pos hc]
    obtain ⟨hc1, hc2⟩ := hc
    refine ⟨.brw, ?_⟩
    have d2 : decide (r = Rl.eq) = true := decide_eq_true hc1
    have d3 : decide (b % g = 0) = false := decide_eq_false hc2
    clear e1 e2 eB d1 ev_ hg0 hg1 hgg hg hg2 hz hl hc1 hc2
    walk_at "go"
  · rw [if_neg hc]
    have e4 : (cIfS ((cAndT (cB (cBin (gEq false) (cVar 2) (cLit (.str "=")))) (cB (cBin (gEq true) (cBin gMod (cIx (cVar 0) (cLit (.int 3))) (cVar 1)) (cLit (.int 0)))))) (cRetV 0) (cSkip)) [some (encB (.row ts r b), .brw), some (.int g, .frz), some (.str (rlS r), .frz), none, y4, y5] S = some (.nx [some (encB (.row ts r b), .brw), some (.int g, .frz), some (.str (rlS r), .frz), none, y4, y5] S) := by
      by_cases h1 : r = .eq
      · have h2 : b % g = 0 := Decidable.byContradiction fun h => hc ⟨h1, h⟩
        have d2 : decide (r = Rl.eq) = true := decide_eq_true h1
        have d3 : decide (b % g = 0) = true := decide_eq_true h2
        clear e1 e2 eB d1 ev_ hg0 hg1 hgg hg hg2 hz hl hc h1 h2
        walk_at "go"
      · have d2 : decide (r = Rl.eq) = false := decide_eq_false h1
        clear e1 e2 eB d1 ev_ hg0 hg1 hgg hg hg2 hz hl hc h1
        walk_at "go"
    rw [seq_nx e4, seq_nx ev_]
    by_cases h1 : r = .ge
    · rw [if_pos h1]
      have d2 : decide (r = Rl.ge) = true := decide_eq_true h1
      refine ⟨.own, ?_⟩
      rw [b_row]
      clear e1 e2 e4 eB d1 ev_ hg0 hg1 hgg hg hg2 hz hl hc h1
      walk_at "go"
      rfl
    · rw [if_neg h1]
      have d2 : decide (r = Rl.ge) = false := decide_eq_false h1
      refine ⟨.own, ?_⟩
      rw [b_row]
      clear e1 e2 e4 eB d1 ev_ hg0 hg1 hgg hg hg2 hz hl hc h1
      walk_at "go"
      rfl
end K77
/-! the law's own dividing (printed by mk77c.py) -/
namespace K77
open PySem PySem.Spec PyProof.Rows L2 Mp Lg
local macro_rules | `(tactic| walk_at "ev") => `(tactic| simp -implicitDefEqProofs only [q_lit, q_nil, q_cons, q_var, q_bin, q_tup, q_lst, q_box, q_neg, q_notT, q_andT, q_orT, q_notV, q_andV, q_orV, q_if, q_B, q_ix, q_call, q_bi, q_sl, q_oNone, q_oSome, q_dk, q_dt, q_yesT, q_get2,
  q_lc, q_iExp, q_iVar, q_iEnV, items_tup, items_lst, q_seq, q_skip, q_ret, q_retV, q_ifS, q_asg, q_drop, q_for, q_tName, q_tTup, q_tCons, q_tNil, q_fz, q_frzE, q_app, q_aug, q_setIx, q_wipe0, q_wipe, fin_rt, fin_nx,
  mut_non, mut_bl, mut_int, mut_str, mut_tup, mut_lst, mut_dk, mut_dt, mut_scr, mut_cel, sto_non, sto_bl, sto_int, sto_str, sto_tup, sto_scr, sto_cel, sto_own, sto_frz, md_non, md_bl, md_int, md_str, md_tup, md_lst, md_dk, md_dt, md_scr, md_cel,
  gAdd_int, gAddI_int, gSub_int, gLt_int, gLe_int, gGt_int, gGe_int, gInt_int, gInt_bl, gLen_tup, gLen_lst, gTuple_lst, gTuple_tup, gList_scr, gList_lst, gList_tup, gIx_tup, gIx_lst, gEq_int, gEq_bl, atI_0, atI_1, atI_2, atI_3, atI_4,
  bnd_some, Option.map_some, Option.bind_some, List.getElem?_cons_succ, List.getElem?_cons_zero, List.set_cons_succ, List.set_cons_zero, List.foldl_cons, List.foldl_nil, List.map_cons, List.map_nil, List.length_map, List.length_cons, List.length_nil, List.all_cons, List.all_nil, Bool.and_true, Bool.true_and, and_true, true_and, false_and, and_false,
  size_le, size_lt', Nat.reduceAdd, Nat.reduceLeDiff, Nat.zero_add, ne_eq, decide_eq_true_eq, Int.reduceEq, Int.reduceLT, Int.reduceLE, Int.reduceNeg, decide_true, decide_false, Bool.false_bne, Bool.true_bne, Bool.not_true, Bool.not_false, md_encT, md_encP, md_encL, md_encB, sto_encT, sto_encP, sto_encL, sto_encB, md_encG, md_encU, md_encC, sto_encG, sto_encU, sto_encC, reduceCtorEq, if_false, if_true, ite_true, ite_false, Bool.false_eq_true, kq_row_row, kq_row_any, kq_row_whn, kq_row_dif, kq_row_tab, kq_row_ele, kq_row_tim, kq_any_row, kq_any_any, kq_any_whn, kq_any_dif, kq_any_tab, kq_any_ele, kq_any_tim, kq_whn_row, kq_whn_any, kq_whn_whn, kq_whn_dif, kq_whn_tab, kq_whn_ele, kq_whn_tim, kq_dif_row, kq_dif_any, kq_dif_whn, kq_dif_dif, kq_dif_tab, kq_dif_ele, kq_dif_tim, kq_tab_row, kq_tab_any, kq_tab_whn, kq_tab_dif, kq_tab_tab, kq_tab_ele, kq_tab_tim, kq_ele_row, kq_ele_any, kq_ele_whn, kq_ele_dif, kq_ele_tab, kq_ele_ele, kq_ele_tim, kq_tim_row, kq_tim_any, kq_tim_whn, kq_tim_dif, kq_tim_tab, kq_tim_ele, kq_tim_tim, qn_chain, q_getN1, q_setN, gIsN_non, gIsN_int, isNon_non, isNon_int, gGcd_int, gLen_T, items_T, items_P, kd_ne_row, g0n])
local macro_rules | `(tactic| walk_at "go") => `(tactic| simp -implicitDefEqProofs only [q_lit, q_nil, q_cons, q_var, q_bin, q_tup, q_lst, q_box, q_neg, q_notT, q_andT, q_orT, q_notV, q_andV, q_orV, q_if, q_B, q_ix, q_call, q_bi, q_sl, q_oNone, q_oSome, q_dk, q_dt, q_yesT, q_get2,
  q_lc, q_iExp, q_iVar, q_iEnV, items_tup, items_lst, q_seq, q_skip, q_ret, q_retV, q_ifS, q_asg, q_drop, q_for, q_tName, q_tTup, q_tCons, q_tNil, q_fz, q_frzE, q_app, q_aug, q_setIx, q_wipe0, q_wipe, fin_rt, fin_nx,
  mut_non, mut_bl, mut_int, mut_str, mut_tup, mut_lst, mut_dk, mut_dt, mut_scr, mut_cel, sto_non, sto_bl, sto_int, sto_str, sto_tup, sto_scr, sto_cel, sto_own, sto_frz, md_non, md_bl, md_int, md_str, md_tup, md_lst, md_dk, md_dt, md_scr, md_cel,
  gAdd_int, gAddI_int, gSub_int, gLt_int, gLe_int, gGt_int, gGe_int, gInt_int, gInt_bl, gLen_tup, gLen_lst, gTuple_lst, gTuple_tup, gList_scr, gList_lst, gList_tup, gIx_tup, gIx_lst, gEq_int, gEq_bl, atI_0, atI_1, atI_2, atI_3, atI_4,
  bnd_some, Option.map_some, Option.bind_some, List.getElem?_cons_succ, List.getElem?_cons_zero, List.set_cons_succ, List.set_cons_zero, List.foldl_cons, List.foldl_nil, List.map_cons, List.map_nil, List.length_map, List.length_cons, List.length_nil, List.all_cons, List.all_nil, Bool.and_true, Bool.true_and, and_true, true_and, false_and, and_false,
  size_le, size_lt', Nat.reduceAdd, Nat.reduceLeDiff, Nat.zero_add, ne_eq, decide_eq_true_eq, Int.reduceEq, Int.reduceLT, Int.reduceLE, Int.reduceNeg, decide_true, decide_false, Bool.false_bne, Bool.true_bne, Bool.not_true, Bool.not_false, md_encT, md_encP, md_encL, md_encB, sto_encT, sto_encP, sto_encL, sto_encB, md_encG, md_encU, md_encC, sto_encG, sto_encU, sto_encC, reduceCtorEq, if_false, if_true, ite_true, ite_false, Bool.false_eq_true, kq_row_row, kq_row_any, kq_row_whn, kq_row_dif, kq_row_tab, kq_row_ele, kq_row_tim, kq_any_row, kq_any_any, kq_any_whn, kq_any_dif, kq_any_tab, kq_any_ele, kq_any_tim, kq_whn_row, kq_whn_any, kq_whn_whn, kq_whn_dif, kq_whn_tab, kq_whn_ele, kq_whn_tim, kq_dif_row, kq_dif_any, kq_dif_whn, kq_dif_dif, kq_dif_tab, kq_dif_ele, kq_dif_tim, kq_tab_row, kq_tab_any, kq_tab_whn, kq_tab_dif, kq_tab_tab, kq_tab_ele, kq_tab_tim, kq_ele_row, kq_ele_any, kq_ele_whn, kq_ele_dif, kq_ele_tab, kq_ele_ele, kq_ele_tim, kq_tim_row, kq_tim_any, kq_tim_whn, kq_tim_dif, kq_tim_tab, kq_tim_ele, kq_tim_tim, qn_chain, q_getN1, q_setN, gIsN_non, gIsN_int, isNon_non, isNon_int, gGcd_int, gLen_T, items_T, items_P, kd_ne_row, g0n, *])

theorem thin_id {b : Bd} (S : Store) (h : ∀ ts r c, b = .row ts r c → ts = []) : ∃ m, m_thinner [encB b] S = some ((encB b, m), S) := by
  unfold m_thinner
  rw [cFn_run (by rfl)]
  show ∃ m, fin (c_thinner [some (encB b, .brw), none, none, none, none, none] S) = _
  unfold c_thinner
  refine ⟨.brw, ?_⟩
  have k1 := g0n S b
  by_cases hk : kdOf b = .row
  · cases b with
    | row ts r c =>
      have e := h ts r c rfl
      subst e
      rw [b_row]
      have k2 : gEq true (.str "row") (.str "row") = some (.bl false) := kd_ne .row .row
      have k3 : gLen S [encT []] = some (.int 0) := rfl
      clear k1 hk h
      walk_at "go"
      rw [if_pos (by rfl)]
      walk_at "ev"
    | _ => cases hk
  · have k2 : decide (kdOf b = .row) = false := decide_eq_false hk
    clear hk h
    walk_at "go"
theorem law_thin_id {b : Bd} {g : Int} (S : Store) (h : ∀ ts r c, b = .row ts r c → ts = []) : ∃ m, m_law_thin [encB b, .int g] S = some ((encB b, m), S) := by
  unfold m_law_thin
  rw [cFn_run (by rfl)]
  show ∃ m, fin (c_law_thin [some (encB b, .brw), some (.int g, .brw), none, none, none] S) = _
  unfold c_law_thin
  refine ⟨.brw, ?_⟩
  have k1 := g0n S b
  by_cases hk : kdOf b = .row
  · cases b with
    | row ts r c =>
      have e := h ts r c rfl
      subst e
      rw [b_row]
      have k2 : gEq true (.str "row") (.str "row") = some (.bl false) := kd_ne .row .row
      have k3 : gLen S [encT []] = some (.int 0) := rfl
      clear k1 hk h
      walk_at "go"
      rw [if_pos (by rfl)]
      walk_at "ev"
    | _ => cases hk
  · have k2 : decide (kdOf b = .row) = false := decide_eq_false hk
    clear hk h
    walk_at "go"
theorem mod_sub (b g : Int) : b - b / g * g = b % g := by
  have := Int.mul_ediv_add_emod b g
  rw [Int.mul_comm] at this
  omega
theorem law_thin_row {ts : Lg.Tm} {r : Rl} {b g : Int} (S : Store) (hr : r ≠ .ne) (hl : ts.length ≤ 60) (hg0 : 0 < g) (hg1 : g < 1073741824) (ht : ts ≠ []) : ∃ m, m_law_thin [encB (.row ts r b), .int g] S = some ((encB (thinR g ts r b), m), S) := by
  have hz : ((ts.length : Nat) : Int) ≠ 0 := by
    intro e
    exact ht (List.length_eq_zero_iff.mp (by omega))
  have hz : decide (((ts.length : Nat) : Int) = 0) = false := decide_eq_false hz
  unfold m_law_thin
  rw [cFn_run (by rfl)]
  show ∃ m, fin (c_law_thin [some (.tup [.str "row", encT ts, .str (rlS r), .int b], .brw), some (.int g, .brw), none, none, none] S) = _
  unfold c_law_thin
  have k1 : gEq true (.str "row") (.str "row") = some (.bl false) := kd_ne .row .row
  have m1 : gMul (.int (b / g)) (.int g) = some (.int (b / g * g)) := gMul_int (.inr (by omega))
  have m2 := rl_eq r
  have m3 := rl_ge r
  have m4 : gDiv (.int b) (.int g) = some (.int (b / g)) := gDiv_int hg0 hg1
  have m5 : gDiv (.int (-b)) (.int g) = some (.int (-b / g)) := gDiv_int hg0 hg1
  have m6 := mod_sub b g
  have m7 : ∀ z : Int, 0 - z = -z := Int.zero_sub
  have d1 := fun x2 => lc_div (ts := ts) (ρ := [some (.tup [.str "row", encT ts, .str (rlS r), .int b], .brw), some (.int g, .brw), x2, none, none]) (S := S) (i := 3) (j := 4) (k := 1) (m := .brw) hg0 hg1 (by decide) (by decide) (by decide) (by simp) (by simp) rfl
  unfold thinR
  have fin_ : ∀ z : Int, fin ((cRet (cTup (cCons (cLit (.str "row")) (cCons (cBi gTuple (cCons (cLc (tTup 2 (tCons (tName 3) (tCons (tName 4) tNil))) (iExp (cIx (cVar 0) (cLit (.int 1)))) tYesT (cTup (cCons (cVar 3) (cCons (cBin gDiv (cVar 4) (cVar 1)) cNil))) [3, 4]) cNil)) (cCons (cIx (cVar 0) (cLit (.int 2))) (cCons (cVar 2) cNil)))))) [some (.tup [.str "row", encT ts, .str (rlS r), .int b], .brw), some (.int g, .brw), some (.int z, .frz), none, none] S) = some ((encB (.row (divT g ts) r z), .own), S) := fun z => by
    have d1 := d1 (some (.int z, .frz))
    clear m1 m2 m3 m4 m5 m6 m7
    walk_at "go"
    rw [if_pos (size_ok (by omega))]
    walk_at "go"
    rfl
  have e0 : (cIfS ((cOrT (cB (cBin (gEq true) (cIx (cVar 0) (cLit (.int 0))) (cLit (.str "row")))) (cB (cBin (gEq false) (cBi gLen (cCons (cIx (cVar 0) (cLit (.int 1))) cNil)) (cLit (.int 0)))))) (cRetV 0) (cSkip)) [some (.tup [.str "row", encT ts, .str (rlS r), .int b], .brw), some (.int g, .brw), none, none, none] S = some (.nx [some (.tup [.str "row", encT ts, .str (rlS r), .int b], .brw), some (.int g, .brw), none, none, none] S) := by
    clear d1 fin_ m1 m2 m3 m4 m5 m6 m7
    walk_at "go"
  rw [seq_nx e0]
  by_cases hc : r = .eq ∧ b % g ≠ 0
  · rw [if_pos hc]
    obtain ⟨hc1, hc2⟩ := hc
    refine ⟨.brw, ?_⟩
    have d2 : decide (r = Rl.eq) = true := decide_eq_true hc1
    have d3 : decide (b % g = 0) = false := decide_eq_false hc2
    rw [b_row]
    clear d1 e0 fin_ hg0 hg1 hz hl hc1 hc2
    walk_at "go"
  · rw [if_neg hc]
    have e1 : (cIfS ((cAndT (cB (cBin (gEq false) (cIx (cVar 0) (cLit (.int 2))) (cLit (.str "=")))) (cB (cBin (gEq true) (cBin Mp.gSub (cIx (cVar 0) (cLit (.int 3))) (cBin gMul (cBin gDiv (cIx (cVar 0) (cLit (.int 3))) (cVar 1)) (cVar 1))) (cLit (.int 0)))))) (cRetV 0) (cSkip)) [some (.tup [.str "row", encT ts, .str (rlS r), .int b], .brw), some (.int g, .brw), none, none, none] S = some (.nx [some (.tup [.str "row", encT ts, .str (rlS r), .int b], .brw), some (.int g, .brw), none, none, none] S) := by
      by_cases h1 : r = .eq
      · have h2 : b % g = 0 := Decidable.byContradiction fun h => hc ⟨h1, h⟩
        have d2 : decide (r = Rl.eq) = true := decide_eq_true h1
        have d3 : decide (b % g = 0) = true := decide_eq_true h2
        clear d1 e0 fin_ hg0 hg1 hz hl hc h1 h2
        walk_at "go"
      · have d2 : decide (r = Rl.eq) = false := decide_eq_false h1
        clear d1 e0 fin_ hg0 hg1 hz hl hc h1
        walk_at "go"
    rw [seq_nx e1]
    rw [seq_nx (ρ2 := [some (.tup [.str "row", encT ts, .str (rlS r), .int b], .brw), some (.int g, .brw), some (.int (b / g), .frz), none, none]) (S2 := S) (by clear d1 e0 e1 fin_ hg0 hg1 hz hl hc; walk_at "go")]
    by_cases h1 : r = .ge
    · rw [if_pos h1]
      have d2 : decide (r = Rl.ge) = true := decide_eq_true h1
      refine ⟨.own, ?_⟩
      rw [seq_nx (ρ2 := [some (.tup [.str "row", encT ts, .str (rlS r), .int b], .brw), some (.int g, .brw), some (.int (-(-b / g)), .frz), none, none]) (S2 := S) (by clear d1 e0 e1 fin_ hg0 hg1 hz hl hc h1; walk_at "go")]
      exact fin_ _
    · rw [if_neg h1]
      have d2 : decide (r = Rl.ge) = false := decide_eq_false h1
      refine ⟨.own, ?_⟩
      rw [seq_nx (ρ2 := [some (.tup [.str "row", encT ts, .str (rlS r), .int b], .brw), some (.int g, .brw), some (.int (b / g), .frz), none, none]) (S2 := S) (by clear d1 e0 e1 fin_ hg0 hg1 hz hl hc h1; walk_at "go")]
      exact fin_ _
/-! ### the common divisor -/
def divs (ts : Lg.Tm) (d : Int) : Bool := ts.all fun t => decide (t.2 - t.2 / d * d = 0)
def com3 (ts : Lg.Tm) : Int := [1, 2, 3].foldl (fun s d => if divs ts d = true then d else s) (1 : Int)
theorem common_ok {ts : Lg.Tm} (S : Store) (hl : ts.length ≤ 60) : m_law_common [.lst (ts.map fun p => .tup [.int p.1, .int p.2]), .int 3] S = some ((.int (com3 ts), .frz), S) := by
  unfold m_law_common
  rw [cFn_run (by rfl)]
  show fin (c_law_common [some (.lst (ts.map fun p => .tup [.int p.1, .int p.2]), .brw), some (.int 3, .brw), none, none, none, none] S) = _
  unfold c_law_common
  rw [seq_nx (ρ2 := [some (.lst (ts.map fun p => .tup [.int p.1, .int p.2]), .brw), some (.int 3, .brw), some (.int 1, .frz), none, none, none]) (S2 := S) (by walk_at "ev")]
  obtain ⟨ρ2, S2, e, rfl, y3, y4, y5, rfl⟩ := for_fold (enc := W.int) (st := fun (s d : Int) => if divs ts d = true then d else s) (t := (tName 3)) (b := (cIfS (cB (cBin (gIn true) (cLit (.bl false)) (cLc (tTup 2 (tCons (tName 4) (tCons (tName 5) tNil))) (iVar 0) tYesT (cBin (gEq false) (cBin Mp.gSub (cVar 5) (cBin gMul (cBin gDiv (cVar 5) (cVar 3)) (cVar 3))) (cLit (.int 0))) [4, 5]))) (cAsg (tName 2) (cVar 3)) (cSkip)))
    (fun s ρ S' => S' = S ∧ ∃ x3 x4 x5, ρ = [some (.lst (ts.map fun p => .tup [.int p.1, .int p.2]), .brw), some (.int 3, .brw), some (.int s, .frz), x3, x4, x5]) (xs := [1, 2, 3]) (s := (1 : Int)) (ρ := [some (.lst (ts.map fun p => .tup [.int p.1, .int p.2]), .brw), some (.int 3, .brw), some (.int 1, .frz), none, none, none]) (fun d hd s ρ S' hi => by
      obtain ⟨rfl, x3, x4, x5, rfl⟩ := hi
      have hd0 : 0 < d ∧ d < 1073741824 := by
        simp only [List.mem_cons, List.not_mem_nil, or_false] at hd
        omega
      have e1 := lc_map (xs := ts) (t := tTup 2 (tCons (tName 4) (tCons (tName 5) tNil))) (c := tYesT) (f := cBin (gEq false) (cBin Mp.gSub (cVar 5) (cBin gMul (cBin gDiv (cVar 5) (cVar 3)) (cVar 3))) (cLit (.int 0))) (ρ := [some (.lst (ts.map fun p => .tup [.int p.1, .int p.2]), .brw), some (.int 3, .brw), some (.int s, .frz), some (.int d, .frz), none, none]) (S := S')
        (g := fun t : Int × Int => W.bl (decide (t.2 - t.2 / d * d = 0))) (enc := fun t : Int × Int => .tup [.int t.1, .int t.2]) fun t ht => ⟨[some (.lst (ts.map fun p => .tup [.int p.1, .int p.2]), .brw), some (.int 3, .brw), some (.int s, .frz), some (.int d, .frz), some (.int t.1, .frz), some (.int t.2, .frz)], .own, by walk_at "ev", rfl, by
          have e2 : gDiv (.int t.2) (.int d) = some (.int (t.2 / d)) := gDiv_int hd0.1 hd0.2
          have e3 : gMul (.int (t.2 / d)) (.int d) = some (.int (t.2 / d * d)) := gMul_int (.inr (by omega))
          clear hd0 hd ht
          walk_at "go", rfl⟩
      have e2 := gIn_ok (neg := true) (a := .bl false) (ws := ts.map fun t : Int × Int => W.bl (decide (t.2 - t.2 / d * d = 0))) rfl (okD_lst (n := 63) fun w hw => by
        obtain ⟨l, _, rfl⟩ := List.mem_map.mp hw
        rfl)
      have e3 : (true != (ts.map fun t : Int × Int => W.bl (decide (t.2 - t.2 / d * d = 0))).any fun z => eqW z (.bl false)) = divs ts d := by
        unfold divs
        rw [List.any_map, Bool.true_bne, List.not_any_eq_all_not]
        congr 1
        funext t
        show (!((decide (t.2 - t.2 / d * d = 0)) == false)) = _
        cases (decide (t.2 - t.2 / d * d = 0)) <;> rfl
      rw [e3] at e2
      refine ⟨[some (.lst (ts.map fun p => .tup [.int p.1, .int p.2]), .brw), some (.int 3, .brw), some (.int s, .frz), some (.int d, .frz), x4, x5], [some (.lst (ts.map fun p => .tup [.int p.1, .int p.2]), .brw), some (.int 3, .brw), some (.int (if divs ts d = true then d else s), .frz), some (.int d, .frz), x4, x5], S', by walk_at "ev", ?_, rfl, _, _, _, rfl⟩
      have e4 : cLc (tTup 2 (tCons (tName 4) (tCons (tName 5) tNil))) (iVar 0) tYesT (cBin (gEq false) (cBin Mp.gSub (cVar 5) (cBin gMul (cBin gDiv (cVar 5) (cVar 3)) (cVar 3))) (cLit (.int 0))) [4, 5] [some (.lst (ts.map fun p => .tup [.int p.1, .int p.2]), .brw), some (.int 3, .brw), some (.int s, .frz), some (.int d, .frz), x4, x5] S'
          = some ((.lst (ts.map fun t : Int × Int => W.bl (decide (t.2 - t.2 / d * d = 0))), .own), S') := by
        clear e2 e3
        walk_at "ev"
        rw [if_pos (size_ok (by omega)), e1]
        walk_at "ev"
      clear e1 e3 hd0 hd
      cases hv : divs ts d with
      | true =>
        rw [hv] at e2
        simp -implicitDefEqProofs only [q_ifS, q_B, q_bin, q_lit, e4, e2, bnd_some, Option.map_some, if_true, q_asg, q_var, q_tName, sto_frz, md_int, List.getElem?_cons_succ, List.getElem?_cons_zero, List.set_cons_succ, List.set_cons_zero, reduceCtorEq, if_false]
      | false =>
        rw [hv] at e2
        simp -implicitDefEqProofs only [q_ifS, q_B, q_bin, q_lit, e4, e2, bnd_some, Option.map_some, Bool.false_eq_true, if_false, q_skip]) ⟨rfl, none, none, none, rfl⟩
  have hit : iRange2 (cLit (.int 1)) (cBin gAdd (cVar 1) (cLit (.int 1))) [some (.lst (ts.map fun p => .tup [.int p.1, .int p.2]), .brw), some (.int 3, .brw), some (.int 1, .frz), none, none, none] S2 = some ([1, 2, 3].map W.int, S2) := rfl
  rw [seq_nx (ρ2 := [some (.lst (ts.map fun p => .tup [.int p.1, .int p.2]), .brw), some (.int 3, .brw), some (.int (com3 ts), .frz), y3, y4, y5]) (S2 := S2) (by rw [q_for, hit]; exact e)]
  walk_at "ev"
end K77
/-! doubled rows: the plain law -/
namespace K77
open PySem PySem.Spec PyProof.Rows L2 Mp Lg
def elig : Bd → Bool
  | .row _ r _ => !decide (r = .eq)
  | _ => false
def NKt (ts : Lg.Tm) (r : Rl) : NestedKey := .tup [.tup (ts.map fun t => .tup [.num t.1, .num t.2]), .text (rlS r)]
def NK : Bd → NestedKey
  | .row ts r _ => NKt ts r
  | _ => .none
def sv : Bd → Int
  | .row _ r b => if r = .le then b else -b
  | _ => 0
def bd0 : Bd := .tim 0 0 0
def bAt (bs : List Bd) (i : Nat) : Bd := bs.getD i bd0
def bestN (bs : List Bd) : Nat → NestedKey → Option Nat
  | 0, _ => none
  | i + 1, κ => if elig (bAt bs i) = true ∧ NK (bAt bs i) = κ then (match bestN bs i κ with
    | some j => if sv (bAt bs i) < sv (bAt bs j) then some i else some j
    | none => some i) else bestN bs i κ
def lstN (bs : List Bd) : Nat → List Nat
  | 0 => []
  | i + 1 => if elig (bAt bs i) = true then (match bestN bs i (NK (bAt bs i)) with
    | some j => if sv (bAt bs i) < sv (bAt bs j) then lstN bs i ++ [j] else lstN bs i ++ [i]
    | none => lstN bs i) else lstN bs i
/-- of that key -/
def Of (bs : List Bd) (κ : NestedKey) (m : Nat) : Prop := elig (bAt bs m) = true ∧ NK (bAt bs m) = κ
def Beats (bs : List Bd) (j m : Nat) : Prop := sv (bAt bs j) < sv (bAt bs m) ∨ (sv (bAt bs j) = sv (bAt bs m) ∧ j < m)
theorem best_none {bs : List Bd} : ∀ {i : Nat} {κ : NestedKey}, bestN bs i κ = none → ∀ m < i, ¬ Of bs κ m
  | 0, κ, _, m, hm => absurd hm (Nat.not_lt_zero m)
  | i + 1, κ, h, m, hm => fun ho => by
    unfold bestN at h
    by_cases hc : elig (bAt bs i) = true ∧ NK (bAt bs i) = κ
    · rw [if_pos hc] at h
      cases hb : bestN bs i κ with
      | none => rw [hb] at h; cases h
      | some j => rw [hb] at h; dsimp only at h; split at h <;> cases h
    · rw [if_neg hc] at h
      by_cases e : m = i
      · subst e; exact hc ho
      · exact best_none h m (by omega) ho
theorem best_some {bs : List Bd} : ∀ {i : Nat} {κ : NestedKey} {j : Nat}, bestN bs i κ = some j → j < i ∧ Of bs κ j ∧ ∀ m < i, Of bs κ m → m ≠ j → Beats bs j m
  | 0, κ, j, h => by cases h
  | i + 1, κ, j, h => by
    unfold bestN at h
    by_cases hc : elig (bAt bs i) = true ∧ NK (bAt bs i) = κ
    · rw [if_pos hc] at h
      cases hb : bestN bs i κ with
      | none =>
        rw [hb] at h
        cases h
        refine ⟨Nat.lt_succ_self i, hc, fun m hm ho hne => ?_⟩
        exact absurd ho (best_none hb m (by omega))
      | some j0 =>
        rw [hb] at h
        dsimp only at h
        obtain ⟨h1, h2, h3⟩ := best_some hb
        split at h
        · rename_i hlt
          cases h
          refine ⟨Nat.lt_succ_self i, hc, fun m hm ho hne => ?_⟩
          by_cases e : m = j0
          · subst e; exact .inl hlt
          · rcases h3 m (by omega) ho e with h | h
            · exact .inl (by omega)
            · exact .inl (by omega)
        · rename_i hlt
          cases h
          refine ⟨by omega, h2, fun m hm ho hne => ?_⟩
          by_cases e : m = i
          · subst e
            by_cases e2 : sv (bAt bs j) = sv (bAt bs m)
            · exact .inr ⟨e2, h1⟩
            · exact .inl (by omega)
          · exact h3 m (by omega) ho hne
    · rw [if_neg hc] at h
      obtain ⟨h1, h2, h3⟩ := best_some h
      refine ⟨by omega, h2, fun m hm ho hne => ?_⟩
      by_cases e : m = i
      · subst e; exact absurd ho hc
      · exact h3 m (by omega) ho hne
theorem best_other {bs : List Bd} {i : Nat} {κ : NestedKey} (h : ¬ (elig (bAt bs i) = true ∧ NK (bAt bs i) = κ)) : bestN bs (i + 1) κ = bestN bs i κ := by
  show (if _ then _ else _) = _
  rw [if_neg h]
theorem best_here {bs : List Bd} {i : Nat} (h : elig (bAt bs i) = true) : bestN bs (i + 1) (NK (bAt bs i)) = (match bestN bs i (NK (bAt bs i)) with
    | some j => if sv (bAt bs i) < sv (bAt bs j) then some i else some j
    | none => some i) := by
  show (if _ then _ else _) = _
  rw [if_pos ⟨h, rfl⟩]
theorem lst_spec {bs : List Bd} : ∀ i : Nat, (lstN bs i).Nodup ∧ ∀ x, x ∈ lstN bs i ↔ x < i ∧ elig (bAt bs x) = true ∧ bestN bs i (NK (bAt bs x)) ≠ some x
  | 0 => ⟨List.nodup_nil, fun x => ⟨fun h => (by cases h), fun h => absurd h.1 (Nat.not_lt_zero x)⟩⟩
  | i + 1 => by
    obtain ⟨nd, sp⟩ := lst_spec (bs := bs) i
    unfold lstN
    by_cases he : elig (bAt bs i) = true
    · rw [if_pos he]
      cases hb : bestN bs i (NK (bAt bs i)) with
      | none =>
        dsimp only
        refine ⟨nd, fun x => ?_⟩
        rw [sp]
        have hnew : bestN bs (i + 1) (NK (bAt bs i)) = some i := by rw [best_here he, hb]
        by_cases hk : NK (bAt bs x) = NK (bAt bs i)
        · constructor
          · rintro ⟨h1, h2, _⟩
            exact absurd ⟨h2, hk⟩ (best_none hb x h1)
          · rintro ⟨h1, h2, h3⟩
            by_cases e : x = i
            · subst e; exact absurd hnew h3
            · exact absurd ⟨h2, hk⟩ (best_none hb x (by omega))
        · have e : bestN bs (i + 1) (NK (bAt bs x)) = bestN bs i (NK (bAt bs x)) := best_other fun h => hk h.2.symm
          rw [e]
          constructor
          · rintro ⟨h1, h2, h3⟩; exact ⟨by omega, h2, h3⟩
          · rintro ⟨h1, h2, h3⟩
            refine ⟨?_, h2, h3⟩
            by_cases e : x = i
            · subst e; exact absurd rfl hk
            · omega
      | some j =>
        obtain ⟨b1, b2, b3⟩ := best_some hb
        dsimp only
        by_cases hlt : sv (bAt bs i) < sv (bAt bs j)
        · rw [if_pos hlt]
          have hnew : bestN bs (i + 1) (NK (bAt bs i)) = some i := by rw [best_here he, hb]; exact if_pos hlt
          have hj : j ∉ lstN bs i := fun h => ((sp j).mp h).2.2 (by rw [b2.2]; exact hb)
          refine ⟨List.nodup_append.mpr ⟨nd, by simp, fun a ha b hb' e => by rw [List.mem_singleton.mp hb'] at e; subst e; exact hj ha⟩, fun x => ?_⟩
          rw [List.mem_append, List.mem_singleton, sp]
          by_cases hk : NK (bAt bs x) = NK (bAt bs i)
          · rw [hk, hnew, hb]
            constructor
            · rintro (⟨h1, h2, _⟩ | rfl)
              · exact ⟨by omega, h2, fun e => by cases e; omega⟩
              · exact ⟨by omega, b2.1, fun e => by cases e; omega⟩
            · rintro ⟨h1, h2, h3⟩
              by_cases e : x = j
              · exact .inr e
              · refine .inl ⟨?_, h2, fun e2 => by cases e2; exact e rfl⟩
                by_cases e : x = i
                · subst e; exact absurd rfl h3
                · omega
          · have e : bestN bs (i + 1) (NK (bAt bs x)) = bestN bs i (NK (bAt bs x)) := best_other fun h => hk h.2.symm
            rw [e]
            constructor
            · rintro (⟨h1, h2, h3⟩ | rfl)
              · exact ⟨by omega, h2, h3⟩
              · exact absurd b2.2 hk
            · rintro ⟨h1, h2, h3⟩
              refine .inl ⟨?_, h2, h3⟩
              by_cases e : x = i
              · subst e; exact absurd rfl hk
              · omega
        · rw [if_neg hlt]
          have hnew : bestN bs (i + 1) (NK (bAt bs i)) = some j := by rw [best_here he, hb]; exact if_neg hlt
          have hi : i ∉ lstN bs i := fun h => absurd ((sp i).mp h).1 (Nat.lt_irrefl i)
          refine ⟨List.nodup_append.mpr ⟨nd, by simp, fun a ha b hb' e => by rw [List.mem_singleton.mp hb'] at e; subst e; exact hi ha⟩, fun x => ?_⟩
          rw [List.mem_append, List.mem_singleton, sp]
          by_cases hk : NK (bAt bs x) = NK (bAt bs i)
          · rw [hk, hnew, hb]
            constructor
            · rintro (⟨h1, h2, h3⟩ | rfl)
              · exact ⟨by omega, h2, h3⟩
              · exact ⟨by omega, he, fun e => by cases e; omega⟩
            · rintro ⟨h1, h2, h3⟩
              by_cases e : x = i
              · exact .inr e
              · exact .inl ⟨by omega, h2, h3⟩
          · have e : bestN bs (i + 1) (NK (bAt bs x)) = bestN bs i (NK (bAt bs x)) := best_other fun h => hk h.2.symm
            rw [e]
            constructor
            · rintro (⟨h1, h2, h3⟩ | rfl)
              · exact ⟨by omega, h2, h3⟩
              · exact absurd rfl hk
            · rintro ⟨h1, h2, h3⟩
              refine .inl ⟨?_, h2, h3⟩
              by_cases e : x = i
              · subst e; exact absurd rfl hk
              · omega
    · rw [if_neg he]
      refine ⟨nd, fun x => ?_⟩
      rw [sp]
      have e : bestN bs (i + 1) (NK (bAt bs x)) = bestN bs i (NK (bAt bs x)) := best_other fun h => he h.1
      rw [e]
      constructor
      · rintro ⟨h1, h2, h3⟩; exact ⟨by omega, h2, h3⟩
      · rintro ⟨h1, h2, h3⟩
        refine ⟨?_, h2, h3⟩
        by_cases e : x = i
        · subst e; exact absurd h2 he
        · omega
instance (bs : List Bd) (κ : NestedKey) (m : Nat) : Decidable (Of bs κ m) := inferInstanceAs (Decidable (_ ∧ _))
/-- the law's own saying -/
def ndl (bs : List Bd) (k : Nat) : Bool := elig (bAt bs k) && (List.range bs.length).any fun n => decide (n ≠ k ∧ Of bs (NK (bAt bs k)) n) && (decide (sv (bAt bs n) < sv (bAt bs k)) || (decide (sv (bAt bs n) = sv (bAt bs k)) && decide (n < k)))
theorem ndl_spec {bs : List Bd} {k : Nat} (hk : k < bs.length) : ndl bs k = true ↔ k ∈ lstN bs bs.length := by
  rw [(lst_spec bs.length).2]
  unfold ndl
  rw [Bool.and_eq_true, List.any_eq_true]
  constructor
  · rintro ⟨h1, n, hn, h2⟩
    refine ⟨hk, h1, fun hb => ?_⟩
    obtain ⟨b1, b2, b3⟩ := best_some hb
    rw [Bool.and_eq_true, decide_eq_true_eq] at h2
    obtain ⟨⟨hne, ho⟩, h3⟩ := h2
    have := b3 n (List.mem_range.mp hn) ho hne
    unfold Beats at this
    simp only [Bool.or_eq_true, Bool.and_eq_true, decide_eq_true_eq] at h3
    omega
  · rintro ⟨_, h1, h2⟩
    refine ⟨h1, ?_⟩
    cases hb : bestN bs bs.length (NK (bAt bs k)) with
    | none => exact absurd ⟨h1, rfl⟩ (best_none hb k hk)
    | some j =>
      obtain ⟨b1, b2, b3⟩ := best_some hb
      have hne : j ≠ k := fun e => by subst e; exact h2 hb
      refine ⟨j, List.mem_range.mpr b1, ?_⟩
      rw [Bool.and_eq_true, decide_eq_true_eq]
      refine ⟨⟨hne, b2⟩, ?_⟩
      have := b3 k hk ⟨h1, rfl⟩ (Ne.symm hne)
      unfold Beats at this
      simp only [Bool.or_eq_true, Bool.and_eq_true, decide_eq_true_eq]
      exact this
theorem doubled_eq (bs : List Bd) : sortI ((lstN bs bs.length).map fun n => ((n : Nat) : Int)) = ((List.range bs.length).filter (ndl bs)).map fun n => ((n : Nat) : Int) := by
  obtain ⟨nd, sp⟩ := lst_spec (bs := bs) bs.length
  refine rise_eq ?_ ?_ fun z => ?_
  · have h1 := sortI_sorted ((lstN bs bs.length).map fun n => ((n : Nat) : Int))
    have h2 : (sortI ((lstN bs bs.length).map fun n => ((n : Nat) : Int))).Nodup := (sortI_perm _).nodup_iff.mpr (List.Pairwise.map _ (fun a b h => by omega) nd)
    exact (h1.and h2).imp fun ⟨a, b⟩ => by omega
  · exact List.Pairwise.map _ (fun a b h => by omega) ((List.pairwise_lt_range (n := bs.length)).filter _)
  · rw [(sortI_perm _).mem_iff, List.mem_map, List.mem_map]
    constructor
    · rintro ⟨x, hx, rfl⟩
      have hl := ((sp x).mp hx).1
      exact ⟨x, List.mem_filter.mpr ⟨List.mem_range.mpr hl, (ndl_spec hl).mpr hx⟩, rfl⟩
    · rintro ⟨x, hx, rfl⟩
      obtain ⟨h1, h2⟩ := List.mem_filter.mp hx
      exact ⟨x, (ndl_spec (List.mem_range.mp h1)).mp h2, rfl⟩
end K77
/-! doubled rows: the walk (printed by mk77e.py) -/
namespace K77
open PySem PySem.Spec PyProof.Rows L2 Mp Lg
local macro_rules | `(tactic| walk_at "ev") => `(tactic| simp -implicitDefEqProofs only [q_lit, q_nil, q_cons, q_var, q_bin, q_tup, q_lst, q_box, q_neg, q_notT, q_andT, q_orT, q_notV, q_andV, q_orV, q_if, q_B, q_ix, q_call, q_bi, q_sl, q_oNone, q_oSome, q_dk, q_dt, q_yesT, q_get2,
  q_lc, q_iExp, q_iVar, q_iEnV, items_tup, items_lst, q_seq, q_skip, q_ret, q_retV, q_ifS, q_asg, q_drop, q_for, q_tName, q_tTup, q_tCons, q_tNil, q_fz, q_frzE, q_app, q_aug, q_setIx, q_wipe0, q_wipe, fin_rt, fin_nx,
  mut_non, mut_bl, mut_int, mut_str, mut_tup, mut_lst, mut_dk, mut_dt, mut_scr, mut_cel, sto_non, sto_bl, sto_int, sto_str, sto_tup, sto_scr, sto_cel, sto_own, sto_frz, md_non, md_bl, md_int, md_str, md_tup, md_lst, md_dk, md_dt, md_scr, md_cel,
  gAdd_int, gAddI_int, gSub_int, gLt_int, gLe_int, gGt_int, gGe_int, gInt_int, gInt_bl, gLen_tup, gLen_lst, gTuple_lst, gTuple_tup, gList_scr, gList_lst, gList_tup, gIx_tup, gIx_lst, gEq_int, gEq_bl, atI_0, atI_1, atI_2, atI_3, atI_4,
  bnd_some, Option.map_some, Option.bind_some, List.getElem?_cons_succ, List.getElem?_cons_zero, List.set_cons_succ, List.set_cons_zero, List.foldl_cons, List.foldl_nil, List.map_cons, List.map_nil, List.length_map, List.length_cons, List.length_nil, List.all_cons, List.all_nil, Bool.and_true, Bool.true_and, and_true, true_and, false_and, and_false,
  size_le, size_lt', Nat.reduceAdd, Nat.reduceLeDiff, Nat.zero_add, ne_eq, decide_eq_true_eq, Int.reduceEq, Int.reduceLT, Int.reduceLE, Int.reduceNeg, decide_true, decide_false, Bool.false_bne, Bool.true_bne, Bool.not_true, Bool.not_false, md_encT, md_encP, md_encL, md_encB, sto_encT, sto_encP, sto_encL, sto_encB, md_encG, md_encU, md_encC, sto_encG, sto_encU, sto_encC, reduceCtorEq, if_false, if_true, ite_true, ite_false, Bool.false_eq_true, kq_row_row, kq_row_any, kq_row_whn, kq_row_dif, kq_row_tab, kq_row_ele, kq_row_tim, kq_any_row, kq_any_any, kq_any_whn, kq_any_dif, kq_any_tab, kq_any_ele, kq_any_tim, kq_whn_row, kq_whn_any, kq_whn_whn, kq_whn_dif, kq_whn_tab, kq_whn_ele, kq_whn_tim, kq_dif_row, kq_dif_any, kq_dif_whn, kq_dif_dif, kq_dif_tab, kq_dif_ele, kq_dif_tim, kq_tab_row, kq_tab_any, kq_tab_whn, kq_tab_dif, kq_tab_tab, kq_tab_ele, kq_tab_tim, kq_ele_row, kq_ele_any, kq_ele_whn, kq_ele_dif, kq_ele_tab, kq_ele_ele, kq_ele_tim, kq_tim_row, kq_tim_any, kq_tim_whn, kq_tim_dif, kq_tim_tab, kq_tim_ele, kq_tim_tim, qn_chain, q_getN1, q_setN, gIsN_non, gIsN_int, isNon_non, isNon_int, gGcd_int, gLen_T, items_T, items_P, kd_ne_row, g0n])
local macro_rules | `(tactic| walk_at "go") => `(tactic| simp -implicitDefEqProofs only [q_lit, q_nil, q_cons, q_var, q_bin, q_tup, q_lst, q_box, q_neg, q_notT, q_andT, q_orT, q_notV, q_andV, q_orV, q_if, q_B, q_ix, q_call, q_bi, q_sl, q_oNone, q_oSome, q_dk, q_dt, q_yesT, q_get2,
  q_lc, q_iExp, q_iVar, q_iEnV, items_tup, items_lst, q_seq, q_skip, q_ret, q_retV, q_ifS, q_asg, q_drop, q_for, q_tName, q_tTup, q_tCons, q_tNil, q_fz, q_frzE, q_app, q_aug, q_setIx, q_wipe0, q_wipe, fin_rt, fin_nx,
  mut_non, mut_bl, mut_int, mut_str, mut_tup, mut_lst, mut_dk, mut_dt, mut_scr, mut_cel, sto_non, sto_bl, sto_int, sto_str, sto_tup, sto_scr, sto_cel, sto_own, sto_frz, md_non, md_bl, md_int, md_str, md_tup, md_lst, md_dk, md_dt, md_scr, md_cel,
  gAdd_int, gAddI_int, gSub_int, gLt_int, gLe_int, gGt_int, gGe_int, gInt_int, gInt_bl, gLen_tup, gLen_lst, gTuple_lst, gTuple_tup, gList_scr, gList_lst, gList_tup, gIx_tup, gIx_lst, gEq_int, gEq_bl, atI_0, atI_1, atI_2, atI_3, atI_4,
  bnd_some, Option.map_some, Option.bind_some, List.getElem?_cons_succ, List.getElem?_cons_zero, List.set_cons_succ, List.set_cons_zero, List.foldl_cons, List.foldl_nil, List.map_cons, List.map_nil, List.length_map, List.length_cons, List.length_nil, List.all_cons, List.all_nil, Bool.and_true, Bool.true_and, and_true, true_and, false_and, and_false,
  size_le, size_lt', Nat.reduceAdd, Nat.reduceLeDiff, Nat.zero_add, ne_eq, decide_eq_true_eq, Int.reduceEq, Int.reduceLT, Int.reduceLE, Int.reduceNeg, decide_true, decide_false, Bool.false_bne, Bool.true_bne, Bool.not_true, Bool.not_false, md_encT, md_encP, md_encL, md_encB, sto_encT, sto_encP, sto_encL, sto_encB, md_encG, md_encU, md_encC, sto_encG, sto_encU, sto_encC, reduceCtorEq, if_false, if_true, ite_true, ite_false, Bool.false_eq_true, kq_row_row, kq_row_any, kq_row_whn, kq_row_dif, kq_row_tab, kq_row_ele, kq_row_tim, kq_any_row, kq_any_any, kq_any_whn, kq_any_dif, kq_any_tab, kq_any_ele, kq_any_tim, kq_whn_row, kq_whn_any, kq_whn_whn, kq_whn_dif, kq_whn_tab, kq_whn_ele, kq_whn_tim, kq_dif_row, kq_dif_any, kq_dif_whn, kq_dif_dif, kq_dif_tab, kq_dif_ele, kq_dif_tim, kq_tab_row, kq_tab_any, kq_tab_whn, kq_tab_dif, kq_tab_tab, kq_tab_ele, kq_tab_tim, kq_ele_row, kq_ele_any, kq_ele_whn, kq_ele_dif, kq_ele_tab, kq_ele_ele, kq_ele_tim, kq_tim_row, kq_tim_any, kq_tim_whn, kq_tim_dif, kq_tim_tab, kq_tim_ele, kq_tim_tim, qn_chain, q_getN1, q_setN, gIsN_non, gIsN_int, isNon_non, isNon_int, gGcd_int, gLen_T, items_T, items_P, kd_ne_row, g0n, *])
local macro_rules | `(tactic| walk_at "nl") => `(tactic| simp -implicitDefEqProofs only [q_lit, q_nil, q_cons, q_var, q_bin, q_tup, q_lst, q_box, q_neg, q_notT, q_andT, q_orT, q_notV, q_andV, q_orV, q_if, q_B, q_ix, q_call, q_bi, q_sl, q_oNone, q_oSome, q_dk, q_dt, q_yesT, q_get2,
  items_tup, items_lst, q_seq, q_skip, q_ret, q_retV, q_ifS, q_asg, q_drop, q_for, q_tName, q_tTup, q_tCons, q_tNil, q_fz, q_frzE, q_app, q_aug, q_setIx, q_wipe0, q_wipe, fin_rt, fin_nx,
  mut_non, mut_bl, mut_int, mut_str, mut_tup, mut_lst, mut_dk, mut_dt, mut_scr, mut_cel, sto_non, sto_bl, sto_int, sto_str, sto_tup, sto_scr, sto_cel, sto_own, sto_frz, md_non, md_bl, md_int, md_str, md_tup, md_lst, md_dk, md_dt, md_scr, md_cel,
  gAdd_int, gAddI_int, gSub_int, gLt_int, gLe_int, gGt_int, gGe_int, gInt_int, gInt_bl, gLen_tup, gLen_lst, gTuple_lst, gTuple_tup, gList_scr, gList_lst, gList_tup, gIx_tup, gIx_lst, gEq_int, gEq_bl, atI_0, atI_1, atI_2, atI_3, atI_4,
  bnd_some, Option.map_some, Option.bind_some, List.getElem?_cons_succ, List.getElem?_cons_zero, List.set_cons_succ, List.set_cons_zero, List.foldl_cons, List.foldl_nil, List.map_cons, List.map_nil, List.length_map, List.length_cons, List.length_nil, List.all_cons, List.all_nil, Bool.and_true, Bool.true_and, and_true, true_and, false_and, and_false,
  size_le, size_lt', Nat.reduceAdd, Nat.reduceLeDiff, Nat.zero_add, ne_eq, decide_eq_true_eq, Int.reduceEq, Int.reduceLT, Int.reduceLE, Int.reduceNeg, decide_true, decide_false, Bool.false_bne, Bool.true_bne, Bool.not_true, Bool.not_false, md_encT, md_encP, md_encL, md_encB, sto_encT, sto_encP, sto_encL, sto_encB, md_encG, md_encU, md_encC, sto_encG, sto_encU, sto_encC, reduceCtorEq, if_false, if_true, ite_true, ite_false, Bool.false_eq_true, kq_row_row, kq_row_any, kq_row_whn, kq_row_dif, kq_row_tab, kq_row_ele, kq_row_tim, kq_any_row, kq_any_any, kq_any_whn, kq_any_dif, kq_any_tab, kq_any_ele, kq_any_tim, kq_whn_row, kq_whn_any, kq_whn_whn, kq_whn_dif, kq_whn_tab, kq_whn_ele, kq_whn_tim, kq_dif_row, kq_dif_any, kq_dif_whn, kq_dif_dif, kq_dif_tab, kq_dif_ele, kq_dif_tim, kq_tab_row, kq_tab_any, kq_tab_whn, kq_tab_dif, kq_tab_tab, kq_tab_ele, kq_tab_tim, kq_ele_row, kq_ele_any, kq_ele_whn, kq_ele_dif, kq_ele_tab, kq_ele_ele, kq_ele_tim, kq_tim_row, kq_tim_any, kq_tim_whn, kq_tim_dif, kq_tim_tab, kq_tim_ele, kq_tim_tim, qn_chain, q_getN1, q_setN, gIsN_non, gIsN_int, isNon_non, isNon_int, gGcd_int, gLen_T, items_T, items_P, kd_ne_row, g0n, *])

theorem nks_pairs : ∀ ts : Lg.Tm, nksOf (ts.map fun p => .tup [.int p.1, .int p.2]) = some (ts.map fun t => .tup [.num t.1, .num t.2])
  | [] => rfl
  | t :: ts => by
    rw [List.map_cons, List.map_cons, nksOf, nks_pairs ts]
    rfl
theorem depth_pairs : ∀ ts : Lg.Tm, NestedKey.depthAll (ts.map fun t => .tup [.num t.1, .num t.2]) ≤ 1
  | [] => Nat.zero_le _
  | t :: ts => by
    rw [List.map_cons, NestedKey.depthAll]
    have := depth_pairs ts
    have h : NestedKey.depth (.tup [.num t.1, .num t.2]) = 1 := rfl
    omega
theorem nk_key (ts : Lg.Tm) (r : Rl) : nkAt (.tup [encT ts, .str (rlS r)]) = some (NKt ts r) := by
  unfold nkAt
  have e : nksOf [encT ts, .str (rlS r)] = some [.tup (ts.map fun t => .tup [.num t.1, .num t.2]), .text (rlS r)] := by
    unfold encT
    rw [nksOf, nkOf, nks_pairs]
    rfl
  dsimp only
  rw [e]
  dsimp only
  rw [if_pos]
  · rfl
  · have := depth_pairs ts
    have h : (NestedKey.tup [.tup (ts.map fun t => .tup [.num t.1, .num t.2]), .text (rlS r)]).depth = max (NestedKey.depthAll (ts.map fun t => .tup [.num t.1, .num t.2]) + 1) 0 + 1 := rfl
    rw [h]
    omega
theorem NKt_inj {a b : Lg.Tm} {r s : Rl} (h : NKt a r = NKt b s) : a = b ∧ r = s := by
  unfold NKt at h
  injection h with h
  injection h with h1 h2
  injection h1 with h1
  injection h2 with h2 _
  injection h2 with h2
  refine ⟨?_, rlS_inj h2⟩
  clear h2
  induction a generalizing b with
  | nil => cases b with
    | nil => rfl
    | cons => cases h1
  | cons x a ih =>
    cases b with
    | nil => cases h1
    | cons y b =>
      injection h1 with h1 h3
      injection h1 with h1
      injection h1 with h1 h4
      injection h1 with h1
      injection h4 with h4 _
      injection h4 with h4
      rw [ih h3, Prod.ext h1 h4]
theorem of_row {bs : List Bd} {ts : Lg.Tm} {r : Rl} {j : Nat} (h : Of bs (NKt ts r) j) : ∃ c, bAt bs j = .row ts r c := by
  obtain ⟨h1, h2⟩ := h
  cases hb : bAt bs j with
  | row ts' r' c =>
    rw [hb] at h2
    obtain ⟨rfl, rfl⟩ := NKt_inj (show NKt ts' r' = NKt ts r from h2)
    exact ⟨c, rfl⟩
  | _ => rw [hb] at h1; cases h1
def BsOk (bs : List Bd) : Prop := bs.length ≤ 60 ∧ ∀ b ∈ bs, (∃ ts r c, b = .row ts r c ∧ r ≠ .ne) ∨ ∃ ls, b = .any ls
theorem tight_ok {ts : Lg.Tm} {r : Rl} {b c : Int} (S : Store) (hr : r = .le ∨ r = .ge) : m_tighter [encB (.row ts r b), encB (.row ts r c)] S = some ((.bl (decide (sv (.row ts r b) < sv (.row ts r c))), .own), S) := by
  unfold m_tighter
  rw [cFn_run (by rfl)]
  show fin (c_tighter [some (encB (.row ts r b), .brw), some (encB (.row ts r c), .brw)] S) = _
  unfold c_tighter
  have m2 := rl_le r
  rw [b_row, b_row]
  rcases hr with rfl | rfl
  · have m3 : decide (Rl.le = Rl.le) = true := rfl
    rw [m3] at m2
    walk_at "go"
    rfl
  · have m3 : decide (Rl.ge = Rl.le) = false := rfl
    rw [m3] at m2
    walk_at "go"
    have e : sv (.row ts .ge b) = -b := rfl
    have e2 : sv (.row ts .ge c) = -c := rfl
    rw [e, e2]
    have e3 : decide (c < b) = decide (-b < -c) := by rw [Bool.eq_iff_iff, decide_eq_true_eq, decide_eq_true_eq]; omega
    rw [e3]
theorem at_B {bs : List Bd} {k : Nat} (S : Store) (h : k < bs.length) : gIx S (.lst (bs.map encB)) (.int ((k : Nat) : Int)) = some (encB (bAt bs k)) := by
  show atI _ _ = _
  rw [atI_of (by omega), Int.toNat_natCast, List.getElem?_map, List.getElem?_eq_getElem h]
  unfold bAt
  rw [List.getD_eq_getElem?_getD, List.getElem?_eq_getElem h]
  rfl
theorem lst_len (bs : List Bd) : ∀ i : Nat, (lstN bs i).length ≤ i
  | 0 => Nat.le_refl _
  | i + 1 => by
    have := lst_len bs i
    unfold lstN
    split
    · split
      · split
        · rw [List.length_append, List.length_singleton]; omega
        · rw [List.length_append, List.length_singleton]; omega
      · omega
    · omega
theorem intsN (ns : List Nat) : intsOf (ns.map fun n : Nat => W.int ((n : Nat) : Int)) = some (ns.map fun n : Nat => ((n : Nat) : Int)) := by
  induction ns with
  | nil => rfl
  | cons n ns ih => rw [List.map_cons, List.map_cons, intsOf, ih]; rfl
theorem doubled_ok {bs : List Bd} (S : Store) (hb : BsOk bs) : m_doubled [.lst (bs.map encB)] S = some ((.lst (((List.range bs.length).filter (ndl bs)).map fun n : Nat => W.int ((n : Nat) : Int)), .own), S) := by
  unfold m_doubled
  rw [cFn_run (by rfl)]
  show fin (c_doubled [some (.lst (bs.map encB), .brw), none, none, none, none, none, none] S) = _
  unfold c_doubled
  rw [seq_nx (ρ2 := [some (.lst (bs.map encB), .brw), some (.dn [], .own), none, none, none, none, none]) (S2 := S) (by
    have e : cDn [some (.lst (bs.map encB), .brw), none, none, none, none, none, none] S = some ((.dn [], .own), S) := rfl
    have e2 : md (.dn [], .own) = (.dn [], .own) := rfl
    walk_at "go")]
  rw [seq_nx (ρ2 := [some (.lst (bs.map encB), .brw), some (.dn [], .own), some (.lst [], .own), none, none, none, none]) (S2 := S) (by walk_at "ev")]
  obtain ⟨ρ2, S2, e, rfl, kws, x3, x4, x5, x6, hk, hkl, rfl⟩ := for_inv (t := (tTup 2 (tCons (tName 3) (tCons (tName 4) tNil)))) (b := (cIfS ((cAndT (cB (cBin (gEq false) (cIx (cVar 4) (cLit (.int 0))) (cLit (.str "row")))) (cB (cBin (gEq true) (cIx (cVar 4) (cLit (.int 2))) (cLit (.str "=")))))) (cSeq (cAsg (tName 5) (cTup (cCons (cIx (cVar 4) (cLit (.int 1))) (cCons (cIx (cVar 4) (cLit (.int 2))) cNil))))
  (cSeq (cAsg (tName 6) (cGetN1 (cVar 1) (cVar 5)))
  (cIfS ((cAndT (cB (cBin (gIsN true) (cVar 6) (cLit .non))) (cNotT (cB (cCall m_tighter (cCons (cVar 4) (cCons (cIx (cVar 0) (cVar 6)) cNil))))))) (cApp 2 (cVar 3)) (cSeq (cIfS (cB (cBin (gIsN true) (cVar 6) (cLit .non))) (cApp 2 (cVar 6)) (cSkip))
  (cSetN 1 (cVar 5) (cVar 3)))))) (cSkip))) (ws := enumW (bs.map encB))
    (fun i ρ S' => S' = S ∧ ∃ kws x3 x4 x5 x6, (∀ κ, dGet kws κ = (bestN bs i κ).map fun j => W.int ((j : Nat) : Int)) ∧ kws.length ≤ i ∧ ρ = [some (.lst (bs.map encB), .brw), some (.dn kws, .own), some (.lst ((lstN bs i).map fun n : Nat => W.int ((n : Nat) : Int)), .own), x3, x4, x5, x6]) (fun i w ρ S' hw hi => by
      obtain ⟨rfl, kws, x3, x4, x5, x6, hk, hkl, rfl⟩ := hi
      rw [enumW_get, List.getElem?_map] at hw
      by_cases hi : i < bs.length
      rotate_left
      · rw [List.getElem?_eq_none (by omega)] at hw; cases hw
      rw [List.getElem?_eq_getElem hi] at hw
      cases hw
      have hbi : bAt bs i = bs[i] := by unfold bAt; rw [List.getD_eq_getElem?_getD, List.getElem?_eq_getElem hi]; rfl
      have h60 := hb.1
      have hlen := lst_len bs i
      rw [← hbi]
      have keep : elig (bAt bs i) = false → (∀ κ, dGet kws κ = (bestN bs (i + 1) κ).map fun j => W.int ((j : Nat) : Int)) ∧ lstN bs (i + 1) = lstN bs i := fun he => by
        refine ⟨fun κ => ?_, ?_⟩
        · rw [hk κ, best_other fun h => by rw [he] at h; exact Bool.noConfusion h.1]
        · show (if _ then _ else _) = _
          rw [he]; rfl
      refine ⟨[some (.lst (bs.map encB), .brw), some (.dn kws, .own), some (.lst ((lstN bs i).map fun n : Nat => W.int ((n : Nat) : Int)), .own), some (.int ((i : Nat) : Int), .frz), some (encB (bAt bs i), .frz), x5, x6], ?_⟩
      have goal : ∃ ρ2, (cIfS ((cAndT (cB (cBin (gEq false) (cIx (cVar 4) (cLit (.int 0))) (cLit (.str "row")))) (cB (cBin (gEq true) (cIx (cVar 4) (cLit (.int 2))) (cLit (.str "=")))))) (cSeq (cAsg (tName 5) (cTup (cCons (cIx (cVar 4) (cLit (.int 1))) (cCons (cIx (cVar 4) (cLit (.int 2))) cNil))))
  (cSeq (cAsg (tName 6) (cGetN1 (cVar 1) (cVar 5)))
  (cIfS ((cAndT (cB (cBin (gIsN true) (cVar 6) (cLit .non))) (cNotT (cB (cCall m_tighter (cCons (cVar 4) (cCons (cIx (cVar 0) (cVar 6)) cNil))))))) (cApp 2 (cVar 3)) (cSeq (cIfS (cB (cBin (gIsN true) (cVar 6) (cLit .non))) (cApp 2 (cVar 6)) (cSkip))
  (cSetN 1 (cVar 5) (cVar 3)))))) (cSkip)) [some (.lst (bs.map encB), .brw), some (.dn kws, .own), some (.lst ((lstN bs i).map fun n : Nat => W.int ((n : Nat) : Int)), .own), some (.int ((i : Nat) : Int), .frz), some (encB (bAt bs i), .frz), x5, x6] S' = some (.nx ρ2 S') ∧ ∃ kws x3 x4 x5 x6, (∀ κ, dGet kws κ = (bestN bs (i + 1) κ).map fun j => W.int ((j : Nat) : Int)) ∧ kws.length ≤ i + 1 ∧ ρ2 = [some (.lst (bs.map encB), .brw), some (.dn kws, .own), some (.lst ((lstN bs (i + 1)).map fun n : Nat => W.int ((n : Nat) : Int)), .own), x3, x4, x5, x6] := by
        rcases hb.2 bs[i] (List.getElem_mem hi) with ⟨ts, r, c, hrow, hr⟩ | ⟨ls, hany⟩
        · rw [hrow] at hbi
          by_cases hreq : r = .eq
          · have he : elig (bAt bs i) = false := by rw [hbi]; subst hreq; rfl
            obtain ⟨k1, k2⟩ := keep he
            refine ⟨_, ?_, kws, some (.int ((i : Nat) : Int), .frz), some (encB (bAt bs i), .frz), x5, x6, k1, by omega, rfl⟩
            rw [k2, hbi, b_row]
            have m2 := rl_eq' r
            have m3 : decide (r = Rl.eq) = true := decide_eq_true hreq
            have m1 : gEq false (.str "row") (.str "row") = some (.bl true) := kd_eq .row .row
            clear keep he hk hkl hrow hr hbi hreq k1 k2
            walk_at "go"
          · have he : elig (bAt bs i) = true := by rw [hbi]; show (!decide (r = Rl.eq)) = true; rw [decide_eq_false hreq]; rfl
            have hle : r = .le ∨ r = .ge := by cases r <;> simp_all
            have hnk : NK (bAt bs i) = NKt ts r := by rw [hbi]; rfl
            have hkey := nk_key ts r
            have hlN : lstN bs (i + 1) = (match bestN bs i (NKt ts r) with
              | some j => if sv (bAt bs i) < sv (bAt bs j) then lstN bs i ++ [j] else lstN bs i ++ [i]
              | none => lstN bs i) := by
              show (if _ then _ else _) = _
              rw [if_pos he, hnk] <;> cases bestN bs i (NKt ts r) <;> rfl
            have hbH := best_here he
            rw [hnk] at hbH
            have hget := hk (NKt ts r)
            have hput : ∀ j : Option Nat, bestN bs (i + 1) (NKt ts r) = some i → ∀ κ, dGet (dPut kws (NKt ts r) (W.int ((i : Nat) : Int))) κ = (bestN bs (i + 1) κ).map fun j => W.int ((j : Nat) : Int) := fun _ h κ => by
              rw [dGet_put]
              by_cases hκ : κ = NKt ts r
              · rw [if_pos hκ, hκ, h]; rfl
              · rw [if_neg hκ, hk κ, best_other fun h => hκ (by rw [← h.2, hnk])]
            have d1 : isDn S' (.dn kws) = true := rfl
            have d2 : dnS S' (.dn kws) (.tup [encT ts, .str (rlS r)]) = some (dGet kws (NKt ts r)) := by
              unfold dnS
              rw [hkey]
              rfl
            have d3 : dnPut kws (.tup [encT ts, .str (rlS r)]) (.int ((i : Nat) : Int)) = some (.dn (dPut kws (NKt ts r) (.int ((i : Nat) : Int)))) := by
              unfold dnPut
              rw [hkey]
              dsimp only
              rw [if_pos (size_lt (by omega))]
            have m2 := rl_eq' r
            have m3 : decide (r = Rl.eq) = false := decide_eq_false hreq
            have m1 : gEq false (.str "row") (.str "row") = some (.bl true) := kd_eq .row .row
            have hsz : ∀ ns : List Nat, ns.length ≤ i → ns.length < sizeLine := fun ns h => size_lt (by omega)
            have hsz1 := hsz _ hlen
            cases hbest : bestN bs i (NKt ts r) with
            | none =>
              rw [hbest] at hlN hbH hget
              dsimp only at hlN hbH
              rw [Option.map_none] at hget
              refine ⟨_, ?_, dPut kws (NKt ts r) (.int ((i : Nat) : Int)), some (.int ((i : Nat) : Int), .frz), some (encB (bAt bs i), .frz), some (.tup [encT ts, .str (rlS r)], .frz), some (.non, .frz), hput none hbH, by have := dPut_len kws (NKt ts r) (W.int ((i : Nat) : Int)); omega, rfl⟩
              rw [hlN, hbi, b_row]
              have d4 : (none : Option W).getD .non = .non := rfl
              clear keep he hk hkl hrow hr hbi hreq hput hbH hlN hbest hnk hle hkey hsz hsz1
              walk_at "go"
            | some j =>
              rw [hbest] at hlN hbH hget
              dsimp only at hlN hbH
              rw [Option.map_some] at hget
              obtain ⟨hj, hof, _⟩ := best_some hbest
              obtain ⟨c', hc'⟩ := of_row hof
              have hat : atI (bs.map encB) ((j : Nat) : Int) = some (encB (bAt bs j)) := at_B S' (show j < bs.length by omega)
              rw [hc'] at hat
              have htg := tight_ok (ts := ts) (b := c) (c := c') S' hle
              have d4 : (some (W.int ((j : Nat) : Int))).getD .non = .int ((j : Nat) : Int) := rfl
              by_cases hlt : sv (bAt bs i) < sv (bAt bs j)
              · rw [if_pos hlt] at hlN hbH
                refine ⟨_, ?_, dPut kws (NKt ts r) (.int ((i : Nat) : Int)), some (.int ((i : Nat) : Int), .frz), some (encB (bAt bs i), .frz), some (.tup [encT ts, .str (rlS r)], .frz), some (.int ((j : Nat) : Int), .frz), hput none hbH, by have := dPut_len kws (NKt ts r) (W.int ((i : Nat) : Int)); omega, rfl⟩
                rw [hbi, hc'] at hlt
                rw [decide_eq_true hlt] at htg
                rw [hlN, hbi, List.map_append]
                rw [b_row] at htg ⊢
                clear keep he hk hkl hrow hr hbi hreq hput hbH hlN hbest hnk hle hkey hsz hlt hc' hof
                walk_at "go"
              · rw [if_neg hlt] at hlN hbH
                refine ⟨_, ?_, kws, some (.int ((i : Nat) : Int), .frz), some (encB (bAt bs i), .frz), some (.tup [encT ts, .str (rlS r)], .frz), some (.int ((j : Nat) : Int), .frz), fun κ => ?_, by omega, rfl⟩
                · rw [hbi, hc'] at hlt
                  rw [decide_eq_false hlt] at htg
                  rw [hlN, hbi, List.map_append]
                  rw [b_row] at htg ⊢
                  clear keep he hk hkl hrow hr hbi hreq hput hbH hlN hbest hnk hle hkey hsz hlt hc' hof
                  walk_at "go"
                · rw [hk κ]
                  by_cases hκ : κ = NKt ts r
                  · rw [hκ, hbH, hbest]
                  · rw [best_other fun h => hκ (by rw [← h.2, hnk])]
        · rw [hany] at hbi
          have he : elig (bAt bs i) = false := by rw [hbi]; rfl
          obtain ⟨k1, k2⟩ := keep he
          refine ⟨_, ?_, kws, some (.int ((i : Nat) : Int), .frz), some (encB (bAt bs i), .frz), x5, x6, k1, by omega, rfl⟩
          rw [k2, hbi, b_any]
          have m1 : gEq false (.str "any") (.str "row") = some (.bl false) := kd_eq .any .row
          clear keep he hk hkl hany hbi k1 k2
          walk_at "go"
      obtain ⟨ρ2, e1, kws, x3, x4, x5, x6, h1, h2, rfl⟩ := goal
      exact ⟨_, S', by walk_at "ev", e1, rfl, kws, x3, x4, x5, x6, h1, h2, rfl⟩) ⟨rfl, [], none, none, none, none, fun κ => rfl, Nat.le_refl _, rfl⟩
  rw [enumW_len, List.length_map] at *
  have hit : iEnV 0 [some (.lst (bs.map encB), .brw), some (.dn [], .own), some (.lst [], .own), none, none, none, none] S2 = some (enumW (bs.map encB), S2) := rfl
  rw [q_seq, q_for, hit]
  dsimp only [bnd_some]
  have e0 : (fun n : Nat => W.int ((n : Nat) : Int)) = (fun n : Nat => W.int ((n : Nat) : Int)) := rfl
  rw [show (some (W.lst [], Md.own) : Option Wm) = some (.lst ((lstN bs 0).map fun n : Nat => W.int ((n : Nat) : Int)), .own) from rfl, e]
  have hs : ∀ S, gSortI S [.lst ((lstN bs bs.length).map fun n : Nat => W.int ((n : Nat) : Int))] = some (.lst (((List.range bs.length).filter (ndl bs)).map fun n : Nat => W.int ((n : Nat) : Int))) := fun S => by
    have h := doubled_eq bs
    show (intsOf _).map _ = _
    rw [intsN, Option.map_some, h, List.map_map]
    rfl
  have hs := hs S2
  dsimp only
  clear hk hkl hb e
  walk_at "go"
end K77
/-! needless (printed by mk77f.py) -/
namespace K77
open PySem PySem.Spec PyProof.Rows L2 Mp Lg
local macro_rules | `(tactic| walk_at "ev") => `(tactic| simp -implicitDefEqProofs only [q_lit, q_nil, q_cons, q_var, q_bin, q_tup, q_lst, q_box, q_neg, q_notT, q_andT, q_orT, q_notV, q_andV, q_orV, q_if, q_B, q_ix, q_call, q_bi, q_sl, q_oNone, q_oSome, q_dk, q_dt, q_yesT, q_get2,
  q_lc, q_iExp, q_iVar, q_iEnV, items_tup, items_lst, q_seq, q_skip, q_ret, q_retV, q_ifS, q_asg, q_drop, q_for, q_tName, q_tTup, q_tCons, q_tNil, q_fz, q_frzE, q_app, q_aug, q_setIx, q_wipe0, q_wipe, fin_rt, fin_nx,
  mut_non, mut_bl, mut_int, mut_str, mut_tup, mut_lst, mut_dk, mut_dt, mut_scr, mut_cel, sto_non, sto_bl, sto_int, sto_str, sto_tup, sto_scr, sto_cel, sto_own, sto_frz, md_non, md_bl, md_int, md_str, md_tup, md_lst, md_dk, md_dt, md_scr, md_cel,
  gAdd_int, gAddI_int, gSub_int, gLt_int, gLe_int, gGt_int, gGe_int, gInt_int, gInt_bl, gLen_tup, gLen_lst, gTuple_lst, gTuple_tup, gList_scr, gList_lst, gList_tup, gIx_tup, gIx_lst, gEq_int, gEq_bl, atI_0, atI_1, atI_2, atI_3, atI_4,
  bnd_some, Option.map_some, Option.bind_some, List.getElem?_cons_succ, List.getElem?_cons_zero, List.set_cons_succ, List.set_cons_zero, List.foldl_cons, List.foldl_nil, List.map_cons, List.map_nil, List.length_map, List.length_cons, List.length_nil, List.all_cons, List.all_nil, Bool.and_true, Bool.true_and, and_true, true_and, false_and, and_false,
  size_le, size_lt', Nat.reduceAdd, Nat.reduceLeDiff, Nat.zero_add, ne_eq, decide_eq_true_eq, Int.reduceEq, Int.reduceLT, Int.reduceLE, Int.reduceNeg, decide_true, decide_false, Bool.false_bne, Bool.true_bne, Bool.not_true, Bool.not_false, md_encT, md_encP, md_encL, md_encB, sto_encT, sto_encP, sto_encL, sto_encB, md_encG, md_encU, md_encC, sto_encG, sto_encU, sto_encC, reduceCtorEq, if_false, if_true, ite_true, ite_false, Bool.false_eq_true, kq_row_row, kq_row_any, kq_row_whn, kq_row_dif, kq_row_tab, kq_row_ele, kq_row_tim, kq_any_row, kq_any_any, kq_any_whn, kq_any_dif, kq_any_tab, kq_any_ele, kq_any_tim, kq_whn_row, kq_whn_any, kq_whn_whn, kq_whn_dif, kq_whn_tab, kq_whn_ele, kq_whn_tim, kq_dif_row, kq_dif_any, kq_dif_whn, kq_dif_dif, kq_dif_tab, kq_dif_ele, kq_dif_tim, kq_tab_row, kq_tab_any, kq_tab_whn, kq_tab_dif, kq_tab_tab, kq_tab_ele, kq_tab_tim, kq_ele_row, kq_ele_any, kq_ele_whn, kq_ele_dif, kq_ele_tab, kq_ele_ele, kq_ele_tim, kq_tim_row, kq_tim_any, kq_tim_whn, kq_tim_dif, kq_tim_tab, kq_tim_ele, kq_tim_tim, qn_chain, q_getN1, q_setN, gIsN_non, gIsN_int, isNon_non, isNon_int, gGcd_int, gLen_T, items_T, items_P, kd_ne_row, g0n])
local macro_rules | `(tactic| walk_at "go") => `(tactic| simp -implicitDefEqProofs only [q_lit, q_nil, q_cons, q_var, q_bin, q_tup, q_lst, q_box, q_neg, q_notT, q_andT, q_orT, q_notV, q_andV, q_orV, q_if, q_B, q_ix, q_call, q_bi, q_sl, q_oNone, q_oSome, q_dk, q_dt, q_yesT, q_get2,
  q_lc, q_iExp, q_iVar, q_iEnV, items_tup, items_lst, q_seq, q_skip, q_ret, q_retV, q_ifS, q_asg, q_drop, q_for, q_tName, q_tTup, q_tCons, q_tNil, q_fz, q_frzE, q_app, q_aug, q_setIx, q_wipe0, q_wipe, fin_rt, fin_nx,
  mut_non, mut_bl, mut_int, mut_str, mut_tup, mut_lst, mut_dk, mut_dt, mut_scr, mut_cel, sto_non, sto_bl, sto_int, sto_str, sto_tup, sto_scr, sto_cel, sto_own, sto_frz, md_non, md_bl, md_int, md_str, md_tup, md_lst, md_dk, md_dt, md_scr, md_cel,
  gAdd_int, gAddI_int, gSub_int, gLt_int, gLe_int, gGt_int, gGe_int, gInt_int, gInt_bl, gLen_tup, gLen_lst, gTuple_lst, gTuple_tup, gList_scr, gList_lst, gList_tup, gIx_tup, gIx_lst, gEq_int, gEq_bl, atI_0, atI_1, atI_2, atI_3, atI_4,
  bnd_some, Option.map_some, Option.bind_some, List.getElem?_cons_succ, List.getElem?_cons_zero, List.set_cons_succ, List.set_cons_zero, List.foldl_cons, List.foldl_nil, List.map_cons, List.map_nil, List.length_map, List.length_cons, List.length_nil, List.all_cons, List.all_nil, Bool.and_true, Bool.true_and, and_true, true_and, false_and, and_false,
  size_le, size_lt', Nat.reduceAdd, Nat.reduceLeDiff, Nat.zero_add, ne_eq, decide_eq_true_eq, Int.reduceEq, Int.reduceLT, Int.reduceLE, Int.reduceNeg, decide_true, decide_false, Bool.false_bne, Bool.true_bne, Bool.not_true, Bool.not_false, md_encT, md_encP, md_encL, md_encB, sto_encT, sto_encP, sto_encL, sto_encB, md_encG, md_encU, md_encC, sto_encG, sto_encU, sto_encC, reduceCtorEq, if_false, if_true, ite_true, ite_false, Bool.false_eq_true, kq_row_row, kq_row_any, kq_row_whn, kq_row_dif, kq_row_tab, kq_row_ele, kq_row_tim, kq_any_row, kq_any_any, kq_any_whn, kq_any_dif, kq_any_tab, kq_any_ele, kq_any_tim, kq_whn_row, kq_whn_any, kq_whn_whn, kq_whn_dif, kq_whn_tab, kq_whn_ele, kq_whn_tim, kq_dif_row, kq_dif_any, kq_dif_whn, kq_dif_dif, kq_dif_tab, kq_dif_ele, kq_dif_tim, kq_tab_row, kq_tab_any, kq_tab_whn, kq_tab_dif, kq_tab_tab, kq_tab_ele, kq_tab_tim, kq_ele_row, kq_ele_any, kq_ele_whn, kq_ele_dif, kq_ele_tab, kq_ele_ele, kq_ele_tim, kq_tim_row, kq_tim_any, kq_tim_whn, kq_tim_dif, kq_tim_tab, kq_tim_ele, kq_tim_tim, qn_chain, q_getN1, q_setN, gIsN_non, gIsN_int, isNon_non, isNon_int, gGcd_int, gLen_T, items_T, items_P, kd_ne_row, g0n, *])

theorem sl_row (ts : Lg.Tm) (r : Rl) (c : Int) : gSl (.tup [.str "row", encT ts, .str (rlS r), .int c]) none (some 3) = some (.tup [.str "row", encT ts, .str (rlS r)]) := by
  show some (W.tup (cutW _ none (some ((3 : Nat) : Int)))) = _
  rw [cut_take]; rfl
theorem sl_any (w : W) : gSl (.tup [.str "any", w]) none (some 3) = some (.tup [.str "any", w]) := by
  show some (W.tup (cutW _ none (some ((3 : Nat) : Int)))) = _
  rw [cut_take]; rfl
theorem ok_row3 (ts : Lg.Tm) (r : Rl) : okD (.tup [.str "row", encT ts, .str (rlS r)]) 64 = true := okD_tup (n := 63) fun w hw => by
  simp only [List.mem_cons, List.not_mem_nil, or_false] at hw
  rcases hw with rfl | rfl | rfl
  · exact okK .row _
  · exact okT' ts _
  · exact okR r _
theorem ok_any2 (ls : List Ltl) : okD (.tup [.str "any", .tup (ls.map encL)]) 64 = true := okB (.any ls) 60
theorem eq_row3 (ts ts' : Lg.Tm) (r r' : Rl) : gEq false (.tup [.str "row", encT ts', .str (rlS r')]) (.tup [.str "row", encT ts, .str (rlS r)]) = some (.bl (decide (ts' = ts) && decide (r' = r))) := by
  rw [gEq_ok (ok_row3 _ _) (ok_row3 _ _), eqW_tup, eqWs_cons, eqWs_cons, eqWs_cons, eqWs_nil, eqW_str, eqW_T, eqW_R, Bool.and_true]
  rw [show decide (("row" : Str) = "row") = true from rfl, Bool.true_and, Bool.false_bne]
theorem eq_any3 (ls : List Ltl) (ts : Lg.Tm) (r : Rl) : gEq false (.tup [.str "any", .tup (ls.map encL)]) (.tup [.str "row", encT ts, .str (rlS r)]) = some (.bl false) := by
  rw [gEq_ok (ok_any2 _) (ok_row3 _ _), eqW_tup, eqW_ne_str _ _ _ _ (by decide)]
  rfl
def ndP (bs : List Bd) (k n : Nat) : Bool := decide (n ≠ k ∧ Of bs (NK (bAt bs k)) n) && (decide (sv (bAt bs n) < sv (bAt bs k)) || (decide (sv (bAt bs n) = sv (bAt bs k)) && decide (n < k)))
theorem nd_step {bs : List Bd} {k n : Nat} {ts : Lg.Tm} {r : Rl} {c : Int} {x4 x5 : Option Wm} (S : Store) (hb : BsOk bs) (hn : n < bs.length) (hk : bAt bs k = .row ts r c) (hr : r = .le ∨ r = .ge) :
    (ndP bs k n = true ∧ (cSeq (cAsg (tName 4) (cIx (cVar 0) (cVar 3)))
  (cIfS ((cAndT (cB (cBin (gEq true) (cVar 3) (cVar 1))) (cB (cBin (gEq false) (cSl (cVar 4) oNone (oSome (cLit (.int 3)))) (cSl (cVar 2) oNone (oSome (cLit (.int 3)))))))) (cSeq (cAsg (tName 5) (cIx (cLst (cCons (cBin Mp.gSub (cIx (cVar 4) (cLit (.int 3))) (cIx (cVar 2) (cLit (.int 3)))) (cCons (cBin Mp.gSub (cIx (cVar 2) (cLit (.int 3))) (cIx (cVar 4) (cLit (.int 3)))) cNil))) (cBi gInt (cCons (cBin (gEq false) (cIx (cVar 2) (cLit (.int 2))) (cLit (.str "<="))) cNil))))
  (cIfS ((cOrT (cB (cBin gGt (cVar 5) (cLit (.int 0)))) ((cAndT (cB (cBin (gEq false) (cVar 5) (cLit (.int 0)))) (cB (cBin gLt (cVar 3) (cVar 1))))))) (cRet (cLit (.bl true))) (cSkip))) (cSkip))) [some (.lst (bs.map encB), .brw), some (.int ((k : Nat) : Int), .brw), some (encB (bAt bs k), .frz), some (.int ((n : Nat) : Int), .frz), x4, x5] S = some (.rt (.bl true, .frz) S)) ∨ (ndP bs k n = false ∧ ∃ ρ2, (cSeq (cAsg (tName 4) (cIx (cVar 0) (cVar 3)))
  (cIfS ((cAndT (cB (cBin (gEq true) (cVar 3) (cVar 1))) (cB (cBin (gEq false) (cSl (cVar 4) oNone (oSome (cLit (.int 3)))) (cSl (cVar 2) oNone (oSome (cLit (.int 3)))))))) (cSeq (cAsg (tName 5) (cIx (cLst (cCons (cBin Mp.gSub (cIx (cVar 4) (cLit (.int 3))) (cIx (cVar 2) (cLit (.int 3)))) (cCons (cBin Mp.gSub (cIx (cVar 2) (cLit (.int 3))) (cIx (cVar 4) (cLit (.int 3)))) cNil))) (cBi gInt (cCons (cBin (gEq false) (cIx (cVar 2) (cLit (.int 2))) (cLit (.str "<="))) cNil))))
  (cIfS ((cOrT (cB (cBin gGt (cVar 5) (cLit (.int 0)))) ((cAndT (cB (cBin (gEq false) (cVar 5) (cLit (.int 0)))) (cB (cBin gLt (cVar 3) (cVar 1))))))) (cRet (cLit (.bl true))) (cSkip))) (cSkip))) [some (.lst (bs.map encB), .brw), some (.int ((k : Nat) : Int), .brw), some (encB (bAt bs k), .frz), some (.int ((n : Nat) : Int), .frz), x4, x5] S = some (.nx ρ2 S) ∧ ∃ x3 x4 x5, ρ2 = [some (.lst (bs.map encB), .brw), some (.int ((k : Nat) : Int), .brw), some (encB (bAt bs k), .frz), x3, x4, x5]) := by
  have hat : atI (bs.map encB) ((n : Nat) : Int) = some (encB (bAt bs n)) := at_B S hn
  have hbn : bAt bs n = bs[n] := by unfold bAt; rw [List.getD_eq_getElem?_getD, List.getElem?_eq_getElem hn]; rfl
  have hin : bAt bs n ∈ bs := hbn ▸ List.getElem_mem hn
  by_cases hnk : n = k
  · refine .inr ⟨by unfold ndP; rw [decide_eq_false (fun h => h.1 hnk)]; rfl, _, ?_, some (.int ((n : Nat) : Int), .frz), some (encB (bAt bs n), .frz), x5, rfl⟩
    have hd : decide (((n : Nat) : Int) = ((k : Nat) : Int)) = true := decide_eq_true (by omega)
    clear hk hr hb hin hbn hnk
    walk_at "go"
  have hd : decide (((n : Nat) : Int) = ((k : Nat) : Int)) = false := decide_eq_false (by omega)
  have hNK : NK (bAt bs k) = NKt ts r := by rw [hk]; rfl
  rcases hb.2 _ hin with ⟨ts', r', c', hrow, _⟩ | ⟨ls, hany⟩
  · rw [hrow] at hat
    have hNn : NK (bAt bs n) = NKt ts' r' := by rw [hrow]; rfl
    have q1 := sl_row ts' r' c'
    have q2 := sl_row ts r c
    have q3 := eq_row3 ts ts' r r'
    by_cases hs : ts' = ts ∧ r' = r
    · obtain ⟨rfl, rfl⟩ := hs
      have hne : r' ≠ .eq := by rcases hr with rfl | rfl <;> exact Rl.noConfusion
      have hof : Of bs (NK (bAt bs k)) n := ⟨by rw [hrow]; show (!decide (r' = .eq)) = true; rw [decide_eq_false hne]; rfl, by rw [hNn, hNK]⟩
      have hP : ndP bs k n = (decide (sv (bAt bs n) < sv (bAt bs k)) || (decide (sv (bAt bs n) = sv (bAt bs k)) && decide (n < k))) := by
        unfold ndP
        rw [decide_eq_true ⟨hnk, hof⟩, Bool.true_and]
      rw [decide_eq_true rfl, decide_eq_true rfl, Bool.true_and] at q3
      have hlt : decide (((n : Nat) : Int) < ((k : Nat) : Int)) = decide (n < k) := by rw [Bool.eq_iff_iff, decide_eq_true_eq, decide_eq_true_eq]; omega
      have m2 := rl_le r'
      have hX : ∃ a : Int, a = sv (bAt bs k) - sv (bAt bs n) ∧ cIx (cLst (cCons (cBin Mp.gSub (cIx (cVar 4) (cLit (.int 3))) (cIx (cVar 2) (cLit (.int 3)))) (cCons (cBin Mp.gSub (cIx (cVar 2) (cLit (.int 3))) (cIx (cVar 4) (cLit (.int 3)))) cNil))) (cBi gInt (cCons (cBin (gEq false) (cIx (cVar 2) (cLit (.int 2))) (cLit (.str "<="))) cNil)) [some (.lst (bs.map encB), .brw), some (.int ((k : Nat) : Int), .brw), some (encB (bAt bs k), .frz), some (.int ((n : Nat) : Int), .frz), some (encB (bAt bs n), .frz), x5] S = some ((.int a, .frz), S) := by
        rw [hrow, hk]
        rcases hr with rfl | rfl
        · refine ⟨c - c', rfl, ?_⟩
          rw [b_row, b_row]
          have m3 : decide (Rl.le = Rl.le) = true := rfl
          rw [m3] at m2
          clear hat hnk hd hNK hNn hrow hk q1 q2 q3 hne hof hP hlt hb hbn hin
          walk_at "go"
        · refine ⟨c' - c, by show c' - c = -c - -c'; omega, ?_⟩
          rw [b_row, b_row]
          have m3 : decide (Rl.ge = Rl.le) = false := rfl
          rw [m3] at m2
          clear hat hnk hd hNK hNn hrow hk q1 q2 q3 hne hof hP hlt hb hbn hin
          walk_at "go"
      obtain ⟨a, ha, hx⟩ := hX
      have hA : ∀ ρ : Mp.Env, (cAndT (cB (cBin (gEq true) (cVar 3) (cVar 1))) (cB (cBin (gEq false) (cSl (cVar 4) oNone (oSome (cLit (.int 3)))) (cSl (cVar 2) oNone (oSome (cLit (.int 3))))))) [some (.lst (bs.map encB), .brw), some (.int ((k : Nat) : Int), .brw), some (encB (bAt bs k), .frz), some (.int ((n : Nat) : Int), .frz), some (encB (bAt bs n), .frz), x5] S = some (true, S) := fun _ => by
        rw [hrow, hk, b_row, b_row]
        clear hat hNK hNn hrow hk hne hof hP hlt hb hbn hin hx ha m2 hr
        walk_at "go"
      have hA := hA []
      have hF : cAsg (tName 4) (cIx (cVar 0) (cVar 3)) [some (.lst (bs.map encB), .brw), some (.int ((k : Nat) : Int), .brw), some (encB (bAt bs k), .frz), some (.int ((n : Nat) : Int), .frz), x4, x5] S = some (.nx [some (.lst (bs.map encB), .brw), some (.int ((k : Nat) : Int), .brw), some (encB (bAt bs k), .frz), some (.int ((n : Nat) : Int), .frz), some (encB (bAt bs n), .frz), x5] S) := by
        rw [← hrow] at hat
        clear hnk hd hNK hNn hrow hk q1 q2 q3 hne hof hP hlt hb hbn hin hx ha m2 hr hA
        walk_at "go"
      rw [hP]
      have hc : ∀ b : Bool, cOrT (cB (cBin gGt (cVar 5) (cLit (.int 0)))) (cAndT (cB (cBin (gEq false) (cVar 5) (cLit (.int 0)))) (cB (cBin gLt (cVar 3) (cVar 1)))) [some (.lst (bs.map encB), .brw), some (.int ((k : Nat) : Int), .brw), some (encB (bAt bs k), .frz), some (.int ((n : Nat) : Int), .frz), some (encB (bAt bs n), .frz), some (.int a, .frz)] S = some (decide (0 < a) || (decide (a = 0) && decide (n < k)), S) := fun _ => by
        clear hnk hd hNK hNn hrow hk q1 q2 q3 hne hof hP hb hbn hin hx ha m2 hr hA hF hat
        walk_at "go"
        by_cases h1 : 0 < a
        · rw [if_pos h1, decide_eq_true h1]; rfl
        · rw [if_neg h1, decide_eq_false h1]
          by_cases h2 : a = 0
          · rw [if_pos h2, decide_eq_true h2]; rfl
          · rw [if_neg h2, decide_eq_false h2]; rfl
      have hc := hc true
      have e1 : decide (0 < a) = decide (sv (bAt bs n) < sv (bAt bs k)) := by rw [Bool.eq_iff_iff, decide_eq_true_eq, decide_eq_true_eq]; omega
      have e2 : decide (a = 0) = decide (sv (bAt bs n) = sv (bAt bs k)) := by rw [Bool.eq_iff_iff, decide_eq_true_eq, decide_eq_true_eq]; omega
      rw [e1, e2] at hc
      generalize (decide (sv (bAt bs n) < sv (bAt bs k)) || (decide (sv (bAt bs n) = sv (bAt bs k)) && decide (n < k))) = q at hc ⊢
      cases q with
      | true =>
        refine .inl ⟨rfl, ?_⟩
        rw [q_seq, hF]
        dsimp only
        rw [q_ifS, hA]
        simp -implicitDefEqProofs only [bnd_some, Option.map_some, if_true, q_seq, q_asg, hx, q_tName, sto_frz, md_int, List.set_cons_succ, List.set_cons_zero, q_ifS, hc, q_ret, q_lit, sto_bl]
      | false =>
        refine .inr ⟨rfl, [some (.lst (bs.map encB), .brw), some (.int ((k : Nat) : Int), .brw), some (encB (bAt bs k), .frz), some (.int ((n : Nat) : Int), .frz), some (encB (bAt bs n), .frz), some (.int a, .frz)], ?_, _, _, _, rfl⟩
        rw [q_seq, hF]
        dsimp only
        rw [q_ifS, hA]
        simp -implicitDefEqProofs only [bnd_some, Option.map_some, if_true, q_seq, q_asg, hx, q_tName, sto_frz, md_int, List.set_cons_succ, List.set_cons_zero, q_ifS, hc, Bool.false_eq_true, if_false, q_skip]
    · refine .inr ⟨by unfold ndP; rw [decide_eq_false (fun h => hs (NKt_inj (hNn ▸ hNK ▸ h.2.2)))]; rfl, _, ?_, some (.int ((n : Nat) : Int), .frz), some (encB (.row ts' r' c'), .frz), x5, rfl⟩
      have q4 : (decide (ts' = ts) && decide (r' = r)) = false := by
        rw [Bool.and_eq_false_iff, decide_eq_false_iff_not, decide_eq_false_iff_not]
        by_cases h : ts' = ts
        · exact .inr fun h2 => hs ⟨h, h2⟩
        · exact .inl h
      rw [q4] at q3
      rw [b_row] at hat ⊢
      rw [hk, b_row]
      clear hk hr hb hin hbn hNK hNn hs hnk q4 hrow
      walk_at "go"
  · rw [hany] at hat
    refine .inr ⟨by unfold ndP; rw [decide_eq_false (fun h => by have := h.2.1; rw [hany] at this; cases this)]; rfl, _, ?_, some (.int ((n : Nat) : Int), .frz), some (encB (.any ls), .frz), x5, rfl⟩
    have q1 := sl_any (.tup (ls.map encL))
    have q2 := sl_row ts r c
    have q3 := eq_any3 ls ts r
    rw [b_any] at hat ⊢
    rw [hk, b_row]
    clear hk hr hb hin hbn hNK hnk hany
    walk_at "go"
theorem needless_ok {bs : List Bd} {k : Nat} (S : Store) (hb : BsOk bs) (hk : k < bs.length) : m_law_needless [.lst (bs.map encB), .int ((k : Nat) : Int)] S = some ((.bl (ndl bs k), .frz), S) := by
  have hat : atI (bs.map encB) ((k : Nat) : Int) = some (encB (bAt bs k)) := at_B S hk
  have hbn : bAt bs k = bs[k] := by unfold bAt; rw [List.getD_eq_getElem?_getD, List.getElem?_eq_getElem hk]; rfl
  have hin : bAt bs k ∈ bs := hbn ▸ List.getElem_mem hk
  unfold m_law_needless
  rw [cFn_run (by rfl)]
  show fin (c_law_needless [some (.lst (bs.map encB), .brw), some (.int ((k : Nat) : Int), .brw), none, none, none, none] S) = _
  unfold c_law_needless
  rw [seq_nx (ρ2 := [some (.lst (bs.map encB), .brw), some (.int ((k : Nat) : Int), .brw), some (encB (bAt bs k), .frz), none, none, none]) (S2 := S) (by clear hbn hin; walk_at "go")]
  have h0 : elig (bAt bs k) = false → ndl bs k = false := fun h => by unfold ndl; rw [h]; rfl
  rcases hb.2 _ hin with ⟨ts, r, c, hrow, hrn⟩ | ⟨ls, hany⟩
  · have m1 : gEq true (.str "row") (.str "row") = some (.bl false) := kd_ne .row .row
    have m2 := rl_eq r
    by_cases hr : r = .eq
    · rw [h0 (by rw [hrow]; subst hr; rfl)]
      have m3 : decide (r = Rl.eq) = true := decide_eq_true hr
      rw [hrow, b_row]
      clear hat hbn hin hrow hrn hb h0 hr
      walk_at "go"
    · have hle : r = .le ∨ r = .ge := by cases r <;> simp_all
      have m3 : decide (r = Rl.eq) = false := decide_eq_false hr
      have he : elig (bAt bs k) = true := by rw [hrow]; show (!decide (r = Rl.eq)) = true; rw [m3]; rfl
      rw [seq_nx (ρ2 := [some (.lst (bs.map encB), .brw), some (.int ((k : Nat) : Int), .brw), some (encB (bAt bs k), .frz), none, none, none]) (S2 := S) (by rw [hrow, b_row]; clear hat hbn hin hrow hrn hb h0 he; walk_at "go")]
      have hnd : ndl bs k = (List.range bs.length).any (ndP bs k) := by unfold ndl; rw [he, Bool.true_and]; rfl
      have hit : iRange1 (cBi gLen (cCons (cVar 0) cNil)) [some (.lst (bs.map encB), .brw), some (.int ((k : Nat) : Int), .brw), some (encB (bAt bs k), .frz), none, none, none] S = some ((List.range bs.length).map fun n : Nat => W.int ((n : Nat) : Int), S) := rng_ok (m := .own) (by walk_at "ev") (by have := hb.1; omega)
      rw [hnd]
      rcases for_search (t := (tName 3)) (b := (cSeq (cAsg (tName 4) (cIx (cVar 0) (cVar 3)))
  (cIfS ((cAndT (cB (cBin (gEq true) (cVar 3) (cVar 1))) (cB (cBin (gEq false) (cSl (cVar 4) oNone (oSome (cLit (.int 3)))) (cSl (cVar 2) oNone (oSome (cLit (.int 3)))))))) (cSeq (cAsg (tName 5) (cIx (cLst (cCons (cBin Mp.gSub (cIx (cVar 4) (cLit (.int 3))) (cIx (cVar 2) (cLit (.int 3)))) (cCons (cBin Mp.gSub (cIx (cVar 2) (cLit (.int 3))) (cIx (cVar 4) (cLit (.int 3)))) cNil))) (cBi gInt (cCons (cBin (gEq false) (cIx (cVar 2) (cLit (.int 2))) (cLit (.str "<="))) cNil))))
  (cIfS ((cOrT (cB (cBin gGt (cVar 5) (cLit (.int 0)))) ((cAndT (cB (cBin (gEq false) (cVar 5) (cLit (.int 0)))) (cB (cBin gLt (cVar 3) (cVar 1))))))) (cRet (cLit (.bl true))) (cSkip))) (cSkip)))) (enc := fun n : Nat => W.int ((n : Nat) : Int)) (p := ndP bs k) (r := (.bl true, .frz)) (S := S) (fun ρ => ∃ x3 x4 x5, ρ = [some (.lst (bs.map encB), .brw), some (.int ((k : Nat) : Int), .brw), some (encB (bAt bs k), .frz), x3, x4, x5]) (xs := List.range bs.length) (ρ := [some (.lst (bs.map encB), .brw), some (.int ((k : Nat) : Int), .brw), some (encB (bAt bs k), .frz), none, none, none]) (fun n hn ρ hi => by
        obtain ⟨x3, x4, x5, rfl⟩ := hi
        refine ⟨[some (.lst (bs.map encB), .brw), some (.int ((k : Nat) : Int), .brw), some (encB (bAt bs k), .frz), some (.int ((n : Nat) : Int), .frz), x4, x5], by walk_at "ev", ?_⟩
        exact nd_step S hb (List.mem_range.mp hn) hrow hle) ⟨_, _, _, rfl⟩ with ⟨e1, e2⟩ | ⟨e1, ρ2, e2, x3, x4, x5, rfl⟩
      · rw [e1, q_seq, q_for, hit]
        dsimp only [bnd_some]
        rw [e2]
        rfl
      · rw [e1, q_seq, q_for, hit]
        dsimp only [bnd_some]
        rw [e2]
        rfl
  · rw [h0 (by rw [hany]; rfl)]
    have m1 : gEq true (.str "any") (.str "row") = some (.bl true) := kd_ne .any .row
    rw [hany, b_any]
    clear hat hbn hin hany hb h0
    walk_at "go"
end K77
/-! divisors: the plain law -/
namespace K77
open PySem PySem.Spec PyProof.Rows L2 Mp Lg
def sclT (f : Int) (ts : Lg.Tm) : Lg.Tm := ts.map fun t => (t.1, t.2 * f)
def gcdA (a : Nat) (ts : Lg.Tm) : Nat := ts.foldl (fun g t => Nat.gcd g t.2.natAbs) a
theorem gcdA_scl (f : Nat) : ∀ (ts : Lg.Tm) (a : Nat), gcdA (f * a) (sclT (f : Int) ts) = f * gcdA a ts
  | [], a => rfl
  | t :: ts, a => by
    show gcdA (Nat.gcd (f * a) (t.2 * (f : Int)).natAbs) (sclT (f : Int) ts) = f * gcdA (Nat.gcd a t.2.natAbs) ts
    rw [Int.natAbs_mul, Int.natAbs_natCast, Nat.mul_comm t.2.natAbs f, Nat.gcd_mul_left]
    exact gcdA_scl f ts _
theorem gcdT_scl (f : Nat) (ts : Lg.Tm) : gcdT (sclT (f : Int) ts) = f * gcdT ts := gcdA_scl f ts 0
theorem dvd_gcdA {d : Nat} : ∀ (ts : Lg.Tm) (a : Nat), d ∣ gcdA a ts ↔ d ∣ a ∧ ∀ t ∈ ts, d ∣ t.2.natAbs
  | [], a => ⟨fun h => ⟨h, fun t ht => by cases ht⟩, fun h => h.1⟩
  | t :: ts, a => by
    show d ∣ gcdA (Nat.gcd a t.2.natAbs) ts ↔ _
    rw [dvd_gcdA ts, Nat.dvd_gcd_iff]
    constructor
    · rintro ⟨⟨h1, h2⟩, h3⟩
      refine ⟨h1, fun u hu => ?_⟩
      rcases List.mem_cons.mp hu with rfl | hu
      · exact h2
      · exact h3 u hu
    · rintro ⟨h1, h2⟩
      exact ⟨⟨h1, h2 t List.mem_cons_self⟩, fun u hu => h2 u (List.mem_cons_of_mem _ hu)⟩
theorem dvd_gcdT {d : Nat} {ts : Lg.Tm} : d ∣ gcdT ts ↔ ∀ t ∈ ts, d ∣ t.2.natAbs := ⟨fun h => ((dvd_gcdA ts 0).mp h).2, fun h => (dvd_gcdA ts 0).mpr ⟨Nat.dvd_zero d, h⟩⟩
theorem divs_iff {ts : Lg.Tm} {d : Nat} : divs ts (d : Int) = true ↔ d ∣ gcdT ts := by
  unfold divs
  rw [List.all_eq_true, dvd_gcdT]
  refine forall_congr' fun t => imp_congr_right fun _ => ?_
  rw [decide_eq_true_eq, mod_sub, ← Int.ofNat_dvd_left, Int.dvd_iff_emod_eq_zero]
theorem com3_eq (ts : Lg.Tm) : com3 ts = if divs ts 3 = true then 3 else if divs ts 2 = true then 2 else if divs ts 1 = true then 1 else 1 := rfl
theorem gcd_range {n : Nat} {ts : Lg.Tm} (h : TOk3 n ts) (hne : ts ≠ []) : 0 < gcdT ts ∧ gcdT ts ≤ 3 := by
  cases ts with
  | nil => exact absurd rfl hne
  | cons t ts =>
    have hd : gcdT (t :: ts) ∣ t.2.natAbs := dvd_gcdT.mp (Nat.dvd_refl _) t List.mem_cons_self
    obtain ⟨_, _, h3, h4, h5⟩ := h.2 t List.mem_cons_self
    have hpos : 0 < t.2.natAbs := by omega
    have h1 := Nat.le_of_dvd hpos hd
    have h2 := Nat.pos_of_dvd_of_pos hd hpos
    omega
theorem com3_gcd {n : Nat} {ts : Lg.Tm} (h : TOk3 n ts) (hne : ts ≠ []) : com3 ts = ((gcdT ts : Nat) : Int) := by
  obtain ⟨h1, h2⟩ := gcd_range h hne
  have d3 := divs_iff (ts := ts) (d := 3)
  have d2 := divs_iff (ts := ts) (d := 2)
  have d3 : divs ts 3 = true ↔ 3 ∣ gcdT ts := d3
  have d2 : divs ts 2 = true ↔ 2 ∣ gcdT ts := d2
  rw [com3_eq]
  by_cases c3 : divs ts 3 = true
  · rw [if_pos c3]
    have := d3.mp c3
    omega
  · rw [if_neg c3]
    have n3 : ¬ 3 ∣ gcdT ts := fun h => c3 (d3.mpr h)
    by_cases c2 : divs ts 2 = true
    · rw [if_pos c2]
      have := d2.mp c2
      omega
    · rw [if_neg c2]
      have n2 : ¬ 2 ∣ gcdT ts := fun h => c2 (d2.mpr h)
      split <;> omega
/-! ### a row and its thinner form hold at the same points -/
theorem tsum_div {g : Int} : ∀ {ts : Lg.Tm} {p : List Int}, (∀ t ∈ ts, t.2 / g * g = t.2) → tsum (divT g ts) p * g = tsum ts p
  | [], p, _ => by show (0 : Int) * g = 0; omega
  | t :: ts, p, h => by
    show tsum ((t.1, t.2 / g) :: divT g ts) p * g = _
    rw [tsum_cons, tsum_cons, Int.add_mul, tsum_div fun u hu => h u (List.mem_cons_of_mem _ hu), Int.mul_assoc, Int.mul_comm (at' p t.1) g, ← Int.mul_assoc, h t List.mem_cons_self]
theorem div_back {ts : Lg.Tm} : ∀ t ∈ ts, t.2 / ((gcdT ts : Nat) : Int) * ((gcdT ts : Nat) : Int) = t.2 := fun t ht => by
  refine Int.ediv_mul_cancel ?_
  rw [Int.ofNat_dvd_left]
  exact dvd_gcdT.mp (Nat.dvd_refl _) t ht
theorem thin_holds {g : Int} {ts : Lg.Tm} {r : Rl} {b : Int} {p : List Int} (hg : 0 < g) (hr : r ≠ .ne) (h : ∀ t ∈ ts, t.2 / g * g = t.2) : bdH (thinR g ts r b) p = bdH (.row ts r b) p := by
  have e := tsum_div (p := p) h
  unfold thinR
  split
  · rfl
  · rename_i hc
    split
    · rename_i hge
      subst hge
      show decide (-(-b / g) ≤ tsum (divT g ts) p) = decide (b ≤ tsum ts p)
      rw [← e, Bool.eq_iff_iff, decide_eq_true_eq, decide_eq_true_eq]
      generalize tsum (divT g ts) p = s
      have h1 : -s ≤ -b / g ↔ -s * g ≤ -b := Int.le_ediv_iff_mul_le hg
      rw [Int.neg_mul] at h1
      omega
    · rename_i hge
      cases r with
      | le =>
        show decide (tsum (divT g ts) p ≤ b / g) = decide (tsum ts p ≤ b)
        rw [← e, Bool.eq_iff_iff, decide_eq_true_eq, decide_eq_true_eq]
        exact Int.le_ediv_iff_mul_le hg
      | ge => exact absurd rfl hge
      | eq =>
        have hb : b % g = 0 := Classical.byContradiction fun hn => hc ⟨rfl, hn⟩
        have hb2 : b / g * g = b := Int.ediv_mul_cancel (Int.dvd_of_emod_eq_zero hb)
        show decide (tsum (divT g ts) p = b / g) = decide (tsum ts p = b)
        rw [← e, Bool.eq_iff_iff, decide_eq_true_eq, decide_eq_true_eq]
        generalize tsum (divT g ts) p = s
        constructor
        · intro h; rw [h]; exact hb2
        · intro h
          rw [← hb2] at h
          exact Int.eq_of_mul_eq_mul_right (by omega) h
      | ne => exact absurd rfl hr
theorem thin_BOk {n : Nat} {g : Int} {ts : Lg.Tm} {r : Rl} {b : Int} (hg : 0 < g) (h : BOk n (.row ts r b)) : BOk n (thinR g ts r b) := by
  have hd : TmOk n (divT g ts) := by
    refine ⟨by unfold divT; rw [List.length_map]; exact h.1.1, fun t ht => ?_⟩
    obtain ⟨u, hu, rfl⟩ := List.mem_map.mp ht
    obtain ⟨h1, h2, h3, h4⟩ := h.1.2 u hu
    refine ⟨h1, h2, ?_, ?_⟩
    · refine (Int.le_ediv_iff_mul_le hg).mpr ?_
      have : -1000000000 * g ≤ -1000000000 := by omega
      omega
    · refine Int.ediv_le_of_le_mul hg ?_
      have : 1000000000 ≤ 1000000000 * g := by omega
      omega
  unfold thinR
  split
  · exact h
  · split
    · exact ⟨hd, h.2⟩
    · exact ⟨hd, h.2⟩
end K77
/-! the law (printed by mk77h.py) -/
namespace K77
open PySem PySem.Spec PyProof.Rows L2 Mp Lg
local macro_rules | `(tactic| walk_at "ev") => `(tactic| simp -implicitDefEqProofs only [q_lit, q_nil, q_cons, q_var, q_bin, q_tup, q_lst, q_box, q_neg, q_notT, q_andT, q_orT, q_notV, q_andV, q_orV, q_if, q_B, q_ix, q_call, q_bi, q_sl, q_oNone, q_oSome, q_dk, q_dt, q_yesT, q_get2,
  q_lc, q_iExp, q_iVar, q_iEnV, items_tup, items_lst, q_seq, q_skip, q_ret, q_retV, q_ifS, q_asg, q_drop, q_for, q_tName, q_tTup, q_tCons, q_tNil, q_fz, q_frzE, q_app, q_aug, q_setIx, q_wipe0, q_wipe, fin_rt, fin_nx,
  mut_non, mut_bl, mut_int, mut_str, mut_tup, mut_lst, mut_dk, mut_dt, mut_scr, mut_cel, sto_non, sto_bl, sto_int, sto_str, sto_tup, sto_scr, sto_cel, sto_own, sto_frz, md_non, md_bl, md_int, md_str, md_tup, md_lst, md_dk, md_dt, md_scr, md_cel,
  gAdd_int, gAddI_int, gSub_int, gLt_int, gLe_int, gGt_int, gGe_int, gInt_int, gInt_bl, gLen_tup, gLen_lst, gTuple_lst, gTuple_tup, gList_scr, gList_lst, gList_tup, gIx_tup, gIx_lst, gEq_int, gEq_bl, atI_0, atI_1, atI_2, atI_3, atI_4,
  bnd_some, Option.map_some, Option.bind_some, List.getElem?_cons_succ, List.getElem?_cons_zero, List.set_cons_succ, List.set_cons_zero, List.foldl_cons, List.foldl_nil, List.map_cons, List.map_nil, List.length_map, List.length_cons, List.length_nil, List.all_cons, List.all_nil, Bool.and_true, Bool.true_and, and_true, true_and, false_and, and_false,
  size_le, size_lt', Nat.reduceAdd, Nat.reduceLeDiff, Nat.zero_add, ne_eq, decide_eq_true_eq, Int.reduceEq, Int.reduceLT, Int.reduceLE, Int.reduceNeg, decide_true, decide_false, Bool.false_bne, Bool.true_bne, Bool.not_true, Bool.not_false, md_encT, md_encP, md_encL, md_encB, sto_encT, sto_encP, sto_encL, sto_encB, md_encG, md_encU, md_encC, sto_encG, sto_encU, sto_encC, reduceCtorEq, if_false, if_true, ite_true, ite_false, Bool.false_eq_true, kq_row_row, kq_row_any, kq_row_whn, kq_row_dif, kq_row_tab, kq_row_ele, kq_row_tim, kq_any_row, kq_any_any, kq_any_whn, kq_any_dif, kq_any_tab, kq_any_ele, kq_any_tim, kq_whn_row, kq_whn_any, kq_whn_whn, kq_whn_dif, kq_whn_tab, kq_whn_ele, kq_whn_tim, kq_dif_row, kq_dif_any, kq_dif_whn, kq_dif_dif, kq_dif_tab, kq_dif_ele, kq_dif_tim, kq_tab_row, kq_tab_any, kq_tab_whn, kq_tab_dif, kq_tab_tab, kq_tab_ele, kq_tab_tim, kq_ele_row, kq_ele_any, kq_ele_whn, kq_ele_dif, kq_ele_tab, kq_ele_ele, kq_ele_tim, kq_tim_row, kq_tim_any, kq_tim_whn, kq_tim_dif, kq_tim_tab, kq_tim_ele, kq_tim_tim, qn_chain, q_getN1, q_setN, gIsN_non, gIsN_int, isNon_non, isNon_int, gGcd_int, gLen_T, items_T, items_P, items_lst])
local macro_rules | `(tactic| walk_at "go") => `(tactic| simp -implicitDefEqProofs only [q_lit, q_nil, q_cons, q_var, q_bin, q_tup, q_lst, q_box, q_neg, q_notT, q_andT, q_orT, q_notV, q_andV, q_orV, q_if, q_B, q_ix, q_call, q_bi, q_sl, q_oNone, q_oSome, q_dk, q_dt, q_yesT, q_get2,
  q_lc, q_iExp, q_iVar, q_iEnV, items_tup, items_lst, q_seq, q_skip, q_ret, q_retV, q_ifS, q_asg, q_drop, q_for, q_tName, q_tTup, q_tCons, q_tNil, q_fz, q_frzE, q_app, q_aug, q_setIx, q_wipe0, q_wipe, fin_rt, fin_nx,
  mut_non, mut_bl, mut_int, mut_str, mut_tup, mut_lst, mut_dk, mut_dt, mut_scr, mut_cel, sto_non, sto_bl, sto_int, sto_str, sto_tup, sto_scr, sto_cel, sto_own, sto_frz, md_non, md_bl, md_int, md_str, md_tup, md_lst, md_dk, md_dt, md_scr, md_cel,
  gAdd_int, gAddI_int, gSub_int, gLt_int, gLe_int, gGt_int, gGe_int, gInt_int, gInt_bl, gLen_tup, gLen_lst, gTuple_lst, gTuple_tup, gList_scr, gList_lst, gList_tup, gIx_tup, gIx_lst, gEq_int, gEq_bl, atI_0, atI_1, atI_2, atI_3, atI_4,
  bnd_some, Option.map_some, Option.bind_some, List.getElem?_cons_succ, List.getElem?_cons_zero, List.set_cons_succ, List.set_cons_zero, List.foldl_cons, List.foldl_nil, List.map_cons, List.map_nil, List.length_map, List.length_cons, List.length_nil, List.all_cons, List.all_nil, Bool.and_true, Bool.true_and, and_true, true_and, false_and, and_false,
  size_le, size_lt', Nat.reduceAdd, Nat.reduceLeDiff, Nat.zero_add, ne_eq, decide_eq_true_eq, Int.reduceEq, Int.reduceLT, Int.reduceLE, Int.reduceNeg, decide_true, decide_false, Bool.false_bne, Bool.true_bne, Bool.not_true, Bool.not_false, md_encT, md_encP, md_encL, md_encB, sto_encT, sto_encP, sto_encL, sto_encB, md_encG, md_encU, md_encC, sto_encG, sto_encU, sto_encC, reduceCtorEq, if_false, if_true, ite_true, ite_false, Bool.false_eq_true, kq_row_row, kq_row_any, kq_row_whn, kq_row_dif, kq_row_tab, kq_row_ele, kq_row_tim, kq_any_row, kq_any_any, kq_any_whn, kq_any_dif, kq_any_tab, kq_any_ele, kq_any_tim, kq_whn_row, kq_whn_any, kq_whn_whn, kq_whn_dif, kq_whn_tab, kq_whn_ele, kq_whn_tim, kq_dif_row, kq_dif_any, kq_dif_whn, kq_dif_dif, kq_dif_tab, kq_dif_ele, kq_dif_tim, kq_tab_row, kq_tab_any, kq_tab_whn, kq_tab_dif, kq_tab_tab, kq_tab_ele, kq_tab_tim, kq_ele_row, kq_ele_any, kq_ele_whn, kq_ele_dif, kq_ele_tab, kq_ele_ele, kq_ele_tim, kq_tim_row, kq_tim_any, kq_tim_whn, kq_tim_dif, kq_tim_tab, kq_tim_ele, kq_tim_tim, qn_chain, q_getN1, q_setN, gIsN_non, gIsN_int, isNon_non, isNon_int, gGcd_int, gLen_T, items_T, items_P, items_lst, *])
def w1 : CS := (cAsg (tName 1) (cCall m_law_tape (cCons (cVar 0) cNil)))
def w2 : CS := (cAsg (tName 2) (cBin gAdd (cLit (.int 1)) (cCall m_law_draw (cCons (cVar 1) (cCons (cLit (.int 4)) cNil)))))
def w3 : CS := (cAsg (tName 3) (cBin gAdd (cLit (.int 1)) (cCall m_law_draw (cCons (cVar 1) (cCons (cLit (.int 9)) cNil)))))
def w4 : CS := (cAsg (tName 4) (cBin (gEq false) (cCall m_law_draw (cCons (cVar 1) (cCons (cLit (.int 8)) cNil))) (cLit (.int 0))))
def w5 : CS := (cAsg (tName 5) (cCall m_law_body (cCons (cVar 1) (cCons (cVar 2) cNil))))
def w6 : CS := (cIfS (cB (cVar 4)) (cSeq (cAsg (tName 2) (cLit (.int 60)))
  (cSeq (cAsg (tName 3) (cBin gAdd (cLit (.int 1)) (cCall m_law_draw (cCons (cVar 1) (cCons (cBin gPow (cLit (.int 10)) (cLit (.int 5))) cNil)))))
  (cAsg (tName 5) (cTup (cCons (cLit (.str "row")) (cCons (cCall m_law_terms (cCons (cVar 1) (cCons (cVar 2) cNil))) (cCons (cIx (cLst (cCons (cLit (.str "<=")) (cCons (cLit (.str ">=")) (cCons (cLit (.str "=")) cNil)))) (cCall m_law_draw (cCons (cVar 1) (cCons (cLit (.int 3)) cNil)))) (cCons (cBin Mp.gSub (cCall m_law_draw (cCons (cVar 1) (cCons (cLit (.int 400)) cNil))) (cLit (.int 200))) cNil)))))))) (cSkip))
def w7 : CS := (cIfS (cB (cBin (gEq false) (cIx (cVar 5) (cLit (.int 0))) (cLit (.str "row")))) (cSeq (cAsg (tName 12) (cBin Mp.gSub (cBin gAdd (cBin gMul (cIx (cVar 5) (cLit (.int 3))) (cIx (cLst (cCons (cLit (.int 1)) (cCons (cVar 3) cNil))) (cCall m_law_draw (cCons (cVar 1) (cCons (cLit (.int 2)) cNil))))) (cCall m_law_draw (cCons (cVar 1) (cCons (cLit (.int 3)) cNil)))) (cLit (.int 1))))
  (cAsg (tName 5) (cTup (cCons (cLit (.str "row")) (cCons (cBi gTuple (cCons (cLc (tTup 2 (tCons (tName 15) (tCons (tName 16) tNil))) (iExp (cIx (cVar 5) (cLit (.int 1)))) tYesT (cTup (cCons (cVar 15) (cCons (cBin gMul (cVar 16) (cVar 3)) cNil))) [15, 16]) cNil)) (cCons (cIx (cVar 5) (cLit (.int 2))) (cCons (cVar 12) cNil))))))) (cSkip))
def w8 : CS := (cAsg (tName 6) (cLit (.int 1)))
def w9 : CS := (cIfS (cB (cBin (gEq false) (cIx (cVar 5) (cLit (.int 0))) (cLit (.str "row")))) (cAsg (tName 6) (cBin gMul (cVar 3) (cCall m_law_common (cCons (cLc (tTup 2 (tCons (tName 15) (tCons (tName 16) tNil))) (iExp (cIx (cVar 5) (cLit (.int 1)))) tYesT (cTup (cCons (cVar 15) (cCons (cBin gDiv (cVar 16) (cVar 3)) cNil))) [15, 16]) (cCons (cLit (.int 3)) cNil))))) (cSkip))
def w10 : CS := (cAsg (tName 7) (cCall m_thinner (cCons (cVar 5) cNil)))
def w11 : CS := (cIfS (cB (cBin (gEq true) (cVar 7) (cCall m_law_thin (cCons (cVar 5) (cCons (cVar 6) cNil))))) (cRet (cLit (.bl false))) (cSkip))
def w12 : CS := (cFor (tName 8) (iRange1 (cLit (.int 4))) (cSeq (cAsg (tName 13) (cBi gTuple (cCons (cLc (tName 15) (iRange1 (cVar 2)) tYesT (cBin Mp.gSub (cCall m_law_draw (cCons (cVar 1) (cCons (cLit (.int 9)) cNil))) (cLit (.int 4))) [15]) cNil)))
  (cIfS (cB (cBin (gEq true) (cCall m_law_holds (cCons (cVar 7) (cCons (cVar 13) cNil))) (cCall m_law_holds (cCons (cVar 5) (cCons (cVar 13) cNil))))) (cRet (cLit (.bl false))) (cSkip))))
def w13 : CS := (cAsg (tName 9) (cLst (cCons (cTup (cCons (cTup (cCons (cLit (.int 0)) (cCons (cLit (.int 1)) cNil))) cNil)) (cCons (cTup (cCons (cTup (cCons (cLit (.int 0)) (cCons (cLit (.int 1)) cNil))) (cCons (cTup (cCons (cLit (.int 1)) (cCons (cBin Mp.gSub (cLit (.int 0)) (cLit (.int 2))) cNil))) cNil))) (cCons (cTup (cCons (cTup (cCons (cLit (.int 1)) (cCons (cLit (.int 3)) cNil))) cNil)) (cCons (cTup cNil) cNil))))))
def w14 : CS := (cAsg (tName 10) (cLst cNil))
def w15 : CS := (cFor (tName 8) (iRange1 (cCall m_law_draw (cCons (cVar 1) (cCons (cLit (.int 10)) cNil)))) (cSeq (cAsg (tName 14) (cIx (cVar 9) (cCall m_law_draw (cCons (cVar 1) (cCons (cLit (.int 4)) cNil)))))
  (cSeq (cApp 10 (cTup (cCons (cLit (.str "row")) (cCons (cVar 14) (cCons (cIx (cLst (cCons (cLit (.str "<=")) (cCons (cLit (.str ">=")) (cCons (cLit (.str "=")) cNil)))) (cCall m_law_draw (cCons (cVar 1) (cCons (cLit (.int 3)) cNil)))) (cCons (cCall m_law_draw (cCons (cVar 1) (cCons (cLit (.int 3)) cNil))) cNil))))))
  (cIfS (cB (cBin (gEq false) (cCall m_law_draw (cCons (cVar 1) (cCons (cLit (.int 6)) cNil))) (cLit (.int 0)))) (cSetIx 10 (cVar 8) (cTup (cCons (cLit (.str "any")) (cCons (cTup (cCons (cTup (cCons (cLit (.int 0)) (cCons (cLit (.str "<=")) (cCons (cCall m_law_draw (cCons (cVar 1) (cCons (cLit (.int 2)) cNil))) cNil)))) cNil)) cNil)))) (cSkip)))))
def w16 : CS := (cAsg (tName 11) (cLc (tName 8) (iRange1 (cBi gLen (cCons (cVar 10) cNil))) (cB (cCall m_law_needless (cCons (cVar 10) (cCons (cVar 8) cNil)))) (cVar 8) [8]))
def w17 : CS := (cRet (cBin (gEq false) (cCall m_doubled (cCons (cVar 10) cNil)) (cVar 11)))

theorem law_seq : c_law = (cSeq w1 (cSeq w2 (cSeq w3 (cSeq w4 (cSeq w5 (cSeq w6 (cSeq w7 (cSeq w8 (cSeq w9 (cSeq w10 (cSeq w11 (cSeq w12 (cSeq w13 (cSeq w14 (cSeq w15 (cSeq w16 w17)))))))))))))))) := rfl
theorem draw_ {S : Store} {many : Int} (t : TapeAt 0 S) (h0 : 0 < many) (h1 : many < 1073741824) : ∃ d S', m_law_draw [.cel 0, .int many] S = some ((.int d, .frz), S') ∧ 0 ≤ d ∧ d < many ∧ TapeAt 0 S' := draw3 t h0 h1
theorem f1_ok (ns : List Int) : ∃ n f w b S2, (∀ k, ((cSeq w1 (cSeq w2 (cSeq w3 (cSeq w4 (cSeq w5 k)))))) [some (.scr ns, .brw), none, none, none, none, none, none, none, none, none, none, none, none, none, none, none, none] [] = k [some (.scr ns, .brw), some (.cel 0, .frz), some (.int ((n : Nat) : Int), .frz), some (.int ((f : Nat) : Int), .frz), some (.bl w, .frz), some (encB b, .frz), none, none, none, none, none, none, none, none, none, none, none] S2) ∧ 1 ≤ n ∧ n ≤ 60 ∧ 1 ≤ f ∧ f ≤ 9 ∧ BOk3 n b ∧ TapeAt 0 S2 := by
  obtain ⟨S1, e1, tp, -⟩ := tape_ok ns []
  have e1 : m_law_tape [.scr ns] [] = some ((.cel 0, .own), S1) := e1
  obtain ⟨d, S2, e2, hd0, hd1, tp2⟩ := draw_ (many := 4) tp (by decide) (by decide)
  obtain ⟨k, S3, e3, hk0, hk1, tp3⟩ := draw_ (many := 9) tp2 (by decide) (by decide)
  obtain ⟨v, S4, e4, hv0, hv1, tp4⟩ := draw_ (many := 8) tp3 (by decide) (by decide)
  obtain ⟨n, hn⟩ : ∃ n : Nat, 1 + d = ((n : Nat) : Int) := ⟨(1 + d).toNat, by omega⟩
  obtain ⟨f, hf⟩ : ∃ f : Nat, 1 + k = ((f : Nat) : Int) := ⟨(1 + k).toNat, by omega⟩
  obtain ⟨b, S5, e5, hb, tp5, _⟩ := Lg.body_ok3 (n := 0) (many := n) tp4 (by omega) (by omega)
  rw [← body_eq] at e5
  refine ⟨n, f, decide (v = 0), b, S5, fun kk => ?_, by omega, by omega, by omega, by omega, hb, tp5⟩
  unfold w1 w2 w3 w4 w5
  clear hb tp tp2 tp3 tp4 tp5 hd0 hd1 hk0 hk1 hv0 hv1
  rw [seq_nx (ρ2 := [some (.scr ns, .brw), some (.cel 0, .frz), none, none, none, none, none, none, none, none, none, none, none, none, none, none, none]) (S2 := S1) (by walk_at "go")]
  rw [seq_nx (ρ2 := [some (.scr ns, .brw), some (.cel 0, .frz), some (.int ((n : Nat) : Int), .frz), none, none, none, none, none, none, none, none, none, none, none, none, none, none]) (S2 := S2) (by walk_at "go")]
  rw [seq_nx (ρ2 := [some (.scr ns, .brw), some (.cel 0, .frz), some (.int ((n : Nat) : Int), .frz), some (.int ((f : Nat) : Int), .frz), none, none, none, none, none, none, none, none, none, none, none, none, none]) (S2 := S3) (by walk_at "go")]
  rw [seq_nx (ρ2 := [some (.scr ns, .brw), some (.cel 0, .frz), some (.int ((n : Nat) : Int), .frz), some (.int ((f : Nat) : Int), .frz), some (.bl (decide (v = 0)), .frz), none, none, none, none, none, none, none, none, none, none, none, none]) (S2 := S4) (by walk_at "go")]
  rw [seq_nx (ρ2 := [some (.scr ns, .brw), some (.cel 0, .frz), some (.int ((n : Nat) : Int), .frz), some (.int ((f : Nat) : Int), .frz), some (.bl (decide (v = 0)), .frz), some (encB b, .frz), none, none, none, none, none, none, none, none, none, none, none]) (S2 := S5) (by walk_at "go")]
theorem f6_ok {ns : List Int} {n f : Nat} {w : Bool} {b : Bd} {S : Store} (hn : 1 ≤ n) (hn2 : n ≤ 60) (hf : 1 ≤ f) (hf2 : f ≤ 9) (hb : BOk3 n b) (tp : TapeAt 0 S) : ∃ n2 f2 b2 S2, w6 [some (.scr ns, .brw), some (.cel 0, .frz), some (.int ((n : Nat) : Int), .frz), some (.int ((f : Nat) : Int), .frz), some (.bl w, .frz), some (encB b, .frz), none, none, none, none, none, none, none, none, none, none, none] S = some (.nx [some (.scr ns, .brw), some (.cel 0, .frz), some (.int ((n2 : Nat) : Int), .frz), some (.int ((f2 : Nat) : Int), .frz), some (.bl w, .frz), some (encB b2, .frz), none, none, none, none, none, none, none, none, none, none, none] S2) ∧ 1 ≤ n2 ∧ n2 ≤ 60 ∧ 1 ≤ f2 ∧ f2 ≤ 100000 ∧ BOk3 n2 b2 ∧ TapeAt 0 S2 := by
  unfold w6
  cases w with
  | false =>
    refine ⟨n, f, b, S, ?_, hn, hn2, hf, by omega, hb, tp⟩
    clear hb tp
    walk_at "go"
  | true =>
    obtain ⟨k, S2, e2, hk0, hk1, tp2⟩ := draw_ (many := 100000) tp (by decide) (by decide)
    obtain ⟨ts, S3, e3, hts, tp3, _⟩ := Lg.law_terms_ok (n := 0) (many := 60) tp2 (by decide)
    rw [← terms_eq] at e3
    obtain ⟨d, S4, e4, hd0, hd1, tp4⟩ := draw_ (many := 3) tp3 (by decide) (by decide)
    obtain ⟨r, hr, hrx⟩ := rl_ix3 d hd0 hd1
    obtain ⟨q, S5, e5, _, _, tp5⟩ := draw_ (many := 400) tp4 (by decide) (by decide)
    obtain ⟨f2, hf2⟩ : ∃ f : Nat, 1 + k = ((f : Nat) : Int) := ⟨(1 + k).toNat, by omega⟩
    refine ⟨60, f2, .row ts r (q - 200), S5, ?_, by decide, by decide, by omega, by omega, ⟨⟨hts.ok (by decide), hr⟩, fun _ _ _ e => by cases e; exact hts⟩, tp5⟩
    have hp : gPow (.int 10) (.int 5) = some (.int 100000) := by
      unfold gPow
      dsimp only
      rw [if_pos (show (0 : Int) ≤ 5 ∧ (5 : Int) ≤ 1000000 ∧ (10 : Int).natAbs < 2 ^ 64 by decide)]
      rfl
    rw [b_row]
    have e3 : m_law_terms [.cel 0, .int 60] S2 = some ((encT ts, .own), S3) := e3
    clear hb tp tp2 tp3 tp4 tp5 hd0 hd1 hk0 hk1 hts hr hf hn hn2
    walk_at "go"
    rfl
theorem lc_scl {ts : Lg.Tm} {g : Int} {ρ : Mp.Env} {S : Store} {m : Md} (hg2 : g < 1073741824) (hg0 : 0 < g) (hl : ρ.length = 17) (hk : ρ[3]? = some (some (.int g, m))) :
    lcL (tTup 2 (tCons (tName 15) (tCons (tName 16) tNil))) tYesT (cTup (cCons (cVar 15) (cCons (cBin gMul (cVar 16) (cVar 3)) cNil))) ρ (ts.map fun p => .tup [.int p.1, .int p.2]) S = some ((sclT g ts).map fun p => .tup [.int p.1, .int p.2], S) := by
  rw [lc_map (g := fun t : Int × Int => .tup [.int t.1, .int (t.2 * g)]) (enc := fun t : Int × Int => .tup [.int t.1, .int t.2]) fun t ht => ⟨(ρ.set 15 (some (.int t.1, .frz))).set 16 (some (.int t.2, .frz)), .own, rfl, rfl, by
    have e1 : ((ρ.set 15 (some (.int t.1, .frz))).set 16 (some (.int t.2, .frz)))[15]? = some (some (.int t.1, .frz)) := by rw [List.getElem?_set_ne (by decide), List.getElem?_set_self (by omega)]
    have e2 : ((ρ.set 15 (some (.int t.1, .frz))).set 16 (some (.int t.2, .frz)))[16]? = some (some (.int t.2, .frz)) := by rw [List.getElem?_set_self (by rw [List.length_set]; omega)]
    have e3 : ((ρ.set 15 (some (.int t.1, .frz))).set 16 (some (.int t.2, .frz)))[3]? = some (some (.int g, m)) := by rw [List.getElem?_set_ne (by decide), List.getElem?_set_ne (by decide)]; exact hk
    have e4 : gMul (.int t.2) (.int g) = some (.int (t.2 * g)) := gMul_int (.inr (by omega))
    simp -implicitDefEqProofs only [q_tup, q_cons, q_nil, q_var, q_bin, e1, e2, e3, e4, bnd_some, reduceCtorEq, if_false, Option.map_some, List.map_cons, List.map_nil]
    rw [if_pos ⟨by simp, size_ok (by simp)⟩], rfl⟩]
  unfold sclT
  rw [List.map_map]
  rfl
theorem div_scl {f : Int} (hf : f ≠ 0) (ts : Lg.Tm) : divT f (sclT f ts) = ts := by
  unfold divT sclT
  rw [List.map_map]
  conv => rhs; rw [← List.map_id ts]
  refine List.map_congr_left fun t ht => ?_
  show (t.1, t.2 * f / f) = t
  rw [Int.mul_ediv_cancel _ hf]
def Fits (n : Nat) (b : Bd) (com : Int) : Prop := BOk n b ∧ ((∀ ts r c, b = .row ts r c → ts = []) ∨ (∃ ts r c, b = .row ts r c ∧ r ≠ .ne ∧ ts.length ≤ 60 ∧ ts ≠ [] ∧ com = ((gcdT ts : Nat) : Int) ∧ 0 < gcdT ts ∧ gcdT ts < 1073741824))
theorem f9_ok {ns : List Int} {n f : Nat} {w : Bool} {b : Bd} {S : Store} (hn2 : n ≤ 60) (hf : 1 ≤ f) (hf2 : f ≤ 100000) (hb : BOk3 n b) (tp : TapeAt 0 S) : ∃ b2 com x12 S2, (∀ k, ((cSeq w7 (cSeq w8 (cSeq w9 k)))) [some (.scr ns, .brw), some (.cel 0, .frz), some (.int ((n : Nat) : Int), .frz), some (.int ((f : Nat) : Int), .frz), some (.bl w, .frz), some (encB b, .frz), none, none, none, none, none, none, none, none, none, none, none] S = k [some (.scr ns, .brw), some (.cel 0, .frz), some (.int ((n : Nat) : Int), .frz), some (.int ((f : Nat) : Int), .frz), some (.bl w, .frz), some (encB b2, .frz), some (.int com, .frz), none, none, none, none, none, x12, none, none, none, none] S2) ∧ Fits n b2 com ∧ TapeAt 0 S2 := by
  unfold w7 w8 w9
  have k1 := g0n S b
  by_cases hk : kdOf b = .row
  · cases b with
    | row ts r c =>
      have hts := hb.2 ts r c rfl
      have hr := hb.1.2
      have hl := hb.1.1.1
      obtain ⟨d, S2, e2, hd0, hd1, tp2⟩ := draw_ (many := 2) tp (by decide) (by decide)
      obtain ⟨q, S3, e3, hq0, hq1, tp3⟩ := draw_ (many := 3) tp2 (by decide) (by decide)
      obtain ⟨s, hs, hs1, hs2⟩ : ∃ s : Int, atI [W.int 1, W.int ((f : Nat) : Int)] d = some (.int s) ∧ 0 < s ∧ s < 1073741824 := by
        rcases (show d = 0 ∨ d = 1 by omega) with rfl | rfl
        · exact ⟨1, rfl, by decide, by decide⟩
        · exact ⟨((f : Nat) : Int), rfl, by omega, by omega⟩
      have hm : gMul (.int c) (.int s) = some (.int (c * s)) := gMul_int (.inr (by omega))
      have e5 := lc_scl (ts := ts) (g := ((f : Nat) : Int)) (ρ := [some (.scr ns, .brw), some (.cel 0, .frz), some (.int ((n : Nat) : Int), .frz), some (.int ((f : Nat) : Int), .frz), some (.bl w, .frz), some (encB (.row ts r c), .frz), none, none, none, none, none, none, some (.int (c * s + q - 1), .frz), none, none, none, none]) (S := S3) (m := .frz) (by omega) (by omega) rfl rfl
      have e6 := lc_div (ts := sclT ((f : Nat) : Int) ts) (g := ((f : Nat) : Int)) (ρ := [some (.scr ns, .brw), some (.cel 0, .frz), some (.int ((n : Nat) : Int), .frz), some (.int ((f : Nat) : Int), .frz), some (.bl w, .frz), some (encB (.row (sclT ((f : Nat) : Int) ts) r (c * s + q - 1)), .frz), some (.int 1, .frz), none, none, none, none, none, some (.int (c * s + q - 1), .frz), none, none, none, none]) (S := S3) (i := 15) (j := 16) (k := 3) (m := .frz) (by omega) (by omega) (by decide) (by decide) (by decide) (by simp) (by simp) rfl
      rw [div_scl (by omega)] at e6
      have e7 := common_ok (ts := ts) S3 hl
      have hm2 : gMul (.int ((f : Nat) : Int)) (.int (com3 ts)) = some (.int (((f : Nat) : Int) * com3 ts)) := gMul_int (.inl (by omega))
      have hlen : (sclT ((f : Nat) : Int) ts).length = ts.length := by unfold sclT; rw [List.length_map]
      refine ⟨.row (sclT ((f : Nat) : Int) ts) r (c * s + q - 1), ((f : Nat) : Int) * com3 ts, some (.int (c * s + q - 1), .frz), S3, fun kk => ?_, ⟨⟨⟨by omega, fun t ht => ?_⟩, hr⟩, ?_⟩, tp3⟩
      · have m1 : gEq false (.str "row") (.str "row") = some (.bl true) := kd_eq .row .row
        rw [seq_nx (ρ2 := [some (.scr ns, .brw), some (.cel 0, .frz), some (.int ((n : Nat) : Int), .frz), some (.int ((f : Nat) : Int), .frz), some (.bl w, .frz), some (encB (.row (sclT ((f : Nat) : Int) ts) r (c * s + q - 1)), .frz), none, none, none, none, none, none, some (.int (c * s + q - 1), .frz), none, none, none, none]) (S2 := S3) (by
          rw [b_row] at e5 ⊢
          rw [b_row]
          clear e6 e7 hm2 hb hts hr tp tp2 tp3 hd0 hd1 hq0 hq1 hs1 hs2 k1 hk hn2 hf hf2
          walk_at "go"
          rw [if_pos (size_ok (by omega))]
          walk_at "go"
          rfl)]
        rw [seq_nx (ρ2 := [some (.scr ns, .brw), some (.cel 0, .frz), some (.int ((n : Nat) : Int), .frz), some (.int ((f : Nat) : Int), .frz), some (.bl w, .frz), some (encB (.row (sclT ((f : Nat) : Int) ts) r (c * s + q - 1)), .frz), some (.int 1, .frz), none, none, none, none, none, some (.int (c * s + q - 1), .frz), none, none, none, none]) (S2 := S3) (by walk_at "ev")]
        rw [seq_nx (ρ2 := [some (.scr ns, .brw), some (.cel 0, .frz), some (.int ((n : Nat) : Int), .frz), some (.int ((f : Nat) : Int), .frz), some (.bl w, .frz), some (encB (.row (sclT ((f : Nat) : Int) ts) r (c * s + q - 1)), .frz), some (.int (((f : Nat) : Int) * com3 ts), .frz), none, none, none, none, none, some (.int (c * s + q - 1), .frz), none, none, none, none]) (S2 := S3) (by
          rw [b_row] at e6 ⊢
          clear e5 hb hts hr tp tp2 tp3 hd0 hd1 hq0 hq1 hs1 hs2 k1 hk hn2 hf hf2 hm
          walk_at "go"
          rw [if_pos (size_ok (by omega))]
          walk_at "go")]
      · obtain ⟨u, hu, rfl⟩ := List.mem_map.mp ht
        obtain ⟨h1, h2, h3, h4, _⟩ := hts.2 u hu
        refine ⟨h1, h2, ?_, ?_⟩
        · rcases (show u.2 = -3 ∨ u.2 = -2 ∨ u.2 = -1 ∨ u.2 = 0 ∨ u.2 = 1 ∨ u.2 = 2 ∨ u.2 = 3 by omega) with e | e | e | e | e | e | e <;> (dsimp only; rw [e]; omega)
        · rcases (show u.2 = -3 ∨ u.2 = -2 ∨ u.2 = -1 ∨ u.2 = 0 ∨ u.2 = 1 ∨ u.2 = 2 ∨ u.2 = 3 by omega) with e | e | e | e | e | e | e <;> (dsimp only; rw [e]; omega)
      · by_cases hne : ts = []
        · subst hne
          exact .inl fun ts' r' c' e => by cases e; rfl
        · refine .inr ⟨_, _, _, rfl, hr, by omega, fun e => hne (List.map_eq_nil_iff.mp e), ?_, ?_, ?_⟩
          · rw [gcdT_scl, com3_gcd hts hne]; exact (Int.natCast_mul _ _).symm
          · rw [gcdT_scl]; exact Nat.mul_pos hf (gcd_range hts hne).1
          · rw [gcdT_scl]
            have := (gcd_range hts hne).2
            have h3 : f * gcdT ts ≤ 100000 * 3 := Nat.mul_le_mul hf2 this
            omega
    | _ => cases hk
  · have k2 : decide (kdOf b = .row) = false := decide_eq_false hk
    have k3 := kd_eq_row (kdOf b)
    rw [k2] at k3
    refine ⟨b, 1, none, S, fun kk => ?_, ⟨hb.1, .inl fun ts r c e => absurd (by rw [e]; rfl) hk⟩, tp⟩
    clear hk hb tp k2
    rw [seq_nx (ρ2 := [some (.scr ns, .brw), some (.cel 0, .frz), some (.int ((n : Nat) : Int), .frz), some (.int ((f : Nat) : Int), .frz), some (.bl w, .frz), some (encB b, .frz), none, none, none, none, none, none, none, none, none, none, none]) (S2 := S) (by walk_at "go")]
    rw [seq_nx (ρ2 := [some (.scr ns, .brw), some (.cel 0, .frz), some (.int ((n : Nat) : Int), .frz), some (.int ((f : Nat) : Int), .frz), some (.bl w, .frz), some (encB b, .frz), some (.int 1, .frz), none, none, none, none, none, none, none, none, none, none]) (S2 := S) (by walk_at "go")]
    rw [seq_nx (ρ2 := [some (.scr ns, .brw), some (.cel 0, .frz), some (.int ((n : Nat) : Int), .frz), some (.int ((f : Nat) : Int), .frz), some (.bl w, .frz), some (encB b, .frz), some (.int 1, .frz), none, none, none, none, none, none, none, none, none, none]) (S2 := S) (by walk_at "go")]
theorem f11_ok {ns : List Int} {n f : Nat} {w : Bool} {b : Bd} {com : Int} {x12 : Option Wm} (S : Store) (h : Fits n b com) : ∃ th, (∀ k, ((cSeq w10 (cSeq w11 k))) [some (.scr ns, .brw), some (.cel 0, .frz), some (.int ((n : Nat) : Int), .frz), some (.int ((f : Nat) : Int), .frz), some (.bl w, .frz), some (encB b, .frz), some (.int com, .frz), none, none, none, none, none, x12, none, none, none, none] S = k [some (.scr ns, .brw), some (.cel 0, .frz), some (.int ((n : Nat) : Int), .frz), some (.int ((f : Nat) : Int), .frz), some (.bl w, .frz), some (encB b, .frz), some (.int com, .frz), some (encB th, .frz), none, none, none, none, x12, none, none, none, none] S) ∧ BOk n th ∧ ∀ p, bdH th p = bdH b p := by
  unfold w10 w11
  obtain ⟨th, m1, m2, e1, e2, h3, h4⟩ : ∃ th m1 m2, m_thinner [encB b] S = some ((encB th, m1), S) ∧ m_law_thin [encB b, .int com] S = some ((encB th, m2), S) ∧ BOk n th ∧ ∀ p, bdH th p = bdH b p := by
    rcases h.2 with h2 | ⟨ts, r, c, rfl, hr, hl, hne, rfl, hg, hg2⟩
    · obtain ⟨m1, e1⟩ := thin_id S h2
      obtain ⟨m2, e2⟩ := law_thin_id (g := com) S h2
      exact ⟨b, m1, m2, e1, e2, h.1, fun p => rfl⟩
    · obtain ⟨m1, e1⟩ := thin_row (b := c) S hr hl hg hg2 hne
      obtain ⟨m2, e2⟩ := law_thin_row (b := c) S hr hl (show 0 < ((gcdT ts : Nat) : Int) by omega) (by omega) hne
      exact ⟨_, m1, m2, e1, e2, thin_BOk (by omega) h.1, fun p => thin_holds (by omega) hr div_back⟩
  refine ⟨th, fun k => ?_, h3, h4⟩
  have e3 := gEqB_same true th
  clear h h3 h4
  rw [seq_nx (ρ2 := [some (.scr ns, .brw), some (.cel 0, .frz), some (.int ((n : Nat) : Int), .frz), some (.int ((f : Nat) : Int), .frz), some (.bl w, .frz), some (encB b, .frz), some (.int com, .frz), some (encB th, .frz), none, none, none, none, x12, none, none, none, none]) (S2 := S) (by walk_at "go")]
  rw [seq_nx (ρ2 := [some (.scr ns, .brw), some (.cel 0, .frz), some (.int ((n : Nat) : Int), .frz), some (.int ((f : Nat) : Int), .frz), some (.bl w, .frz), some (encB b, .frz), some (.int com, .frz), some (encB th, .frz), none, none, none, none, x12, none, none, none, none]) (S2 := S) (by walk_at "go")]
end K77
/-! the law, its loops (printed by mk77i.py) -/
namespace K77
open PySem PySem.Spec PyProof.Rows L2 Mp Lg
local macro_rules | `(tactic| walk_at "ev") => `(tactic| simp -implicitDefEqProofs only [q_lit, q_nil, q_cons, q_var, q_bin, q_tup, q_lst, q_box, q_neg, q_notT, q_andT, q_orT, q_notV, q_andV, q_orV, q_if, q_B, q_ix, q_call, q_bi, q_sl, q_oNone, q_oSome, q_dk, q_dt, q_yesT, q_get2,
  q_lc, q_iExp, q_iVar, q_iEnV, items_tup, items_lst, q_seq, q_skip, q_ret, q_retV, q_ifS, q_asg, q_drop, q_for, q_tName, q_tTup, q_tCons, q_tNil, q_fz, q_frzE, q_app, q_aug, q_setIx, q_wipe0, q_wipe, fin_rt, fin_nx,
  mut_non, mut_bl, mut_int, mut_str, mut_tup, mut_lst, mut_dk, mut_dt, mut_scr, mut_cel, sto_non, sto_bl, sto_int, sto_str, sto_tup, sto_scr, sto_cel, sto_own, sto_frz, md_non, md_bl, md_int, md_str, md_tup, md_lst, md_dk, md_dt, md_scr, md_cel,
  gAdd_int, gAddI_int, gSub_int, gLt_int, gLe_int, gGt_int, gGe_int, gInt_int, gInt_bl, gLen_tup, gLen_lst, gTuple_lst, gTuple_tup, gList_scr, gList_lst, gList_tup, gIx_tup, gIx_lst, gEq_int, gEq_bl, atI_0, atI_1, atI_2, atI_3, atI_4,
  bnd_some, Option.map_some, Option.bind_some, List.getElem?_cons_succ, List.getElem?_cons_zero, List.set_cons_succ, List.set_cons_zero, List.foldl_cons, List.foldl_nil, List.map_cons, List.map_nil, List.length_map, List.length_cons, List.length_nil, List.all_cons, List.all_nil, Bool.and_true, Bool.true_and, and_true, true_and, false_and, and_false,
  size_le, size_lt', Nat.reduceAdd, Nat.reduceLeDiff, Nat.zero_add, ne_eq, decide_eq_true_eq, Int.reduceEq, Int.reduceLT, Int.reduceLE, Int.reduceNeg, decide_true, decide_false, Bool.false_bne, Bool.true_bne, Bool.not_true, Bool.not_false, md_encT, md_encP, md_encL, md_encB, sto_encT, sto_encP, sto_encL, sto_encB, md_encG, md_encU, md_encC, sto_encG, sto_encU, sto_encC, reduceCtorEq, if_false, if_true, ite_true, ite_false, Bool.false_eq_true, kq_row_row, kq_row_any, kq_row_whn, kq_row_dif, kq_row_tab, kq_row_ele, kq_row_tim, kq_any_row, kq_any_any, kq_any_whn, kq_any_dif, kq_any_tab, kq_any_ele, kq_any_tim, kq_whn_row, kq_whn_any, kq_whn_whn, kq_whn_dif, kq_whn_tab, kq_whn_ele, kq_whn_tim, kq_dif_row, kq_dif_any, kq_dif_whn, kq_dif_dif, kq_dif_tab, kq_dif_ele, kq_dif_tim, kq_tab_row, kq_tab_any, kq_tab_whn, kq_tab_dif, kq_tab_tab, kq_tab_ele, kq_tab_tim, kq_ele_row, kq_ele_any, kq_ele_whn, kq_ele_dif, kq_ele_tab, kq_ele_ele, kq_ele_tim, kq_tim_row, kq_tim_any, kq_tim_whn, kq_tim_dif, kq_tim_tab, kq_tim_ele, kq_tim_tim, qn_chain, q_getN1, q_setN, gIsN_non, gIsN_int, isNon_non, isNon_int, gGcd_int, gLen_T, items_T, items_P, items_lst])
local macro_rules | `(tactic| walk_at "go") => `(tactic| simp -implicitDefEqProofs only [q_lit, q_nil, q_cons, q_var, q_bin, q_tup, q_lst, q_box, q_neg, q_notT, q_andT, q_orT, q_notV, q_andV, q_orV, q_if, q_B, q_ix, q_call, q_bi, q_sl, q_oNone, q_oSome, q_dk, q_dt, q_yesT, q_get2,
  q_lc, q_iExp, q_iVar, q_iEnV, items_tup, items_lst, q_seq, q_skip, q_ret, q_retV, q_ifS, q_asg, q_drop, q_for, q_tName, q_tTup, q_tCons, q_tNil, q_fz, q_frzE, q_app, q_aug, q_setIx, q_wipe0, q_wipe, fin_rt, fin_nx,
  mut_non, mut_bl, mut_int, mut_str, mut_tup, mut_lst, mut_dk, mut_dt, mut_scr, mut_cel, sto_non, sto_bl, sto_int, sto_str, sto_tup, sto_scr, sto_cel, sto_own, sto_frz, md_non, md_bl, md_int, md_str, md_tup, md_lst, md_dk, md_dt, md_scr, md_cel,
  gAdd_int, gAddI_int, gSub_int, gLt_int, gLe_int, gGt_int, gGe_int, gInt_int, gInt_bl, gLen_tup, gLen_lst, gTuple_lst, gTuple_tup, gList_scr, gList_lst, gList_tup, gIx_tup, gIx_lst, gEq_int, gEq_bl, atI_0, atI_1, atI_2, atI_3, atI_4,
  bnd_some, Option.map_some, Option.bind_some, List.getElem?_cons_succ, List.getElem?_cons_zero, List.set_cons_succ, List.set_cons_zero, List.foldl_cons, List.foldl_nil, List.map_cons, List.map_nil, List.length_map, List.length_cons, List.length_nil, List.all_cons, List.all_nil, Bool.and_true, Bool.true_and, and_true, true_and, false_and, and_false,
  size_le, size_lt', Nat.reduceAdd, Nat.reduceLeDiff, Nat.zero_add, ne_eq, decide_eq_true_eq, Int.reduceEq, Int.reduceLT, Int.reduceLE, Int.reduceNeg, decide_true, decide_false, Bool.false_bne, Bool.true_bne, Bool.not_true, Bool.not_false, md_encT, md_encP, md_encL, md_encB, sto_encT, sto_encP, sto_encL, sto_encB, md_encG, md_encU, md_encC, sto_encG, sto_encU, sto_encC, reduceCtorEq, if_false, if_true, ite_true, ite_false, Bool.false_eq_true, kq_row_row, kq_row_any, kq_row_whn, kq_row_dif, kq_row_tab, kq_row_ele, kq_row_tim, kq_any_row, kq_any_any, kq_any_whn, kq_any_dif, kq_any_tab, kq_any_ele, kq_any_tim, kq_whn_row, kq_whn_any, kq_whn_whn, kq_whn_dif, kq_whn_tab, kq_whn_ele, kq_whn_tim, kq_dif_row, kq_dif_any, kq_dif_whn, kq_dif_dif, kq_dif_tab, kq_dif_ele, kq_dif_tim, kq_tab_row, kq_tab_any, kq_tab_whn, kq_tab_dif, kq_tab_tab, kq_tab_ele, kq_tab_tim, kq_ele_row, kq_ele_any, kq_ele_whn, kq_ele_dif, kq_ele_tab, kq_ele_ele, kq_ele_tim, kq_tim_row, kq_tim_any, kq_tim_whn, kq_tim_dif, kq_tim_tab, kq_tim_ele, kq_tim_tim, qn_chain, q_getN1, q_setN, gIsN_non, gIsN_int, isNon_non, isNon_int, gGcd_int, gLen_T, items_T, items_P, items_lst, *])
local macro_rules | `(tactic| walk_at "nl") => `(tactic| simp -implicitDefEqProofs only [q_lit, q_nil, q_cons, q_var, q_bin, q_tup, q_lst, q_box, q_neg, q_notT, q_andT, q_orT, q_notV, q_andV, q_orV, q_if, q_B, q_ix, q_call, q_bi, q_sl, q_oNone, q_oSome, q_dk, q_dt, q_yesT, q_get2,
  items_tup, items_lst, q_seq, q_skip, q_ret, q_retV, q_ifS, q_asg, q_drop, q_for, q_tName, q_tTup, q_tCons, q_tNil, q_fz, q_frzE, q_app, q_aug, q_setIx, q_wipe0, q_wipe, fin_rt, fin_nx,
  mut_non, mut_bl, mut_int, mut_str, mut_tup, mut_lst, mut_dk, mut_dt, mut_scr, mut_cel, sto_non, sto_bl, sto_int, sto_str, sto_tup, sto_scr, sto_cel, sto_own, sto_frz, md_non, md_bl, md_int, md_str, md_tup, md_lst, md_dk, md_dt, md_scr, md_cel,
  gAdd_int, gAddI_int, gSub_int, gLt_int, gLe_int, gGt_int, gGe_int, gInt_int, gInt_bl, gLen_tup, gLen_lst, gTuple_lst, gTuple_tup, gList_scr, gList_lst, gList_tup, gIx_tup, gIx_lst, gEq_int, gEq_bl, atI_0, atI_1, atI_2, atI_3, atI_4,
  bnd_some, Option.map_some, Option.bind_some, List.getElem?_cons_succ, List.getElem?_cons_zero, List.set_cons_succ, List.set_cons_zero, List.foldl_cons, List.foldl_nil, List.map_cons, List.map_nil, List.length_map, List.length_cons, List.length_nil, List.all_cons, List.all_nil, Bool.and_true, Bool.true_and, and_true, true_and, false_and, and_false,
  size_le, size_lt', Nat.reduceAdd, Nat.reduceLeDiff, Nat.zero_add, ne_eq, decide_eq_true_eq, Int.reduceEq, Int.reduceLT, Int.reduceLE, Int.reduceNeg, decide_true, decide_false, Bool.false_bne, Bool.true_bne, Bool.not_true, Bool.not_false, md_encT, md_encP, md_encL, md_encB, sto_encT, sto_encP, sto_encL, sto_encB, md_encG, md_encU, md_encC, sto_encG, sto_encU, sto_encC, reduceCtorEq, if_false, if_true, ite_true, ite_false, Bool.false_eq_true, kq_row_row, kq_row_any, kq_row_whn, kq_row_dif, kq_row_tab, kq_row_ele, kq_row_tim, kq_any_row, kq_any_any, kq_any_whn, kq_any_dif, kq_any_tab, kq_any_ele, kq_any_tim, kq_whn_row, kq_whn_any, kq_whn_whn, kq_whn_dif, kq_whn_tab, kq_whn_ele, kq_whn_tim, kq_dif_row, kq_dif_any, kq_dif_whn, kq_dif_dif, kq_dif_tab, kq_dif_ele, kq_dif_tim, kq_tab_row, kq_tab_any, kq_tab_whn, kq_tab_dif, kq_tab_tab, kq_tab_ele, kq_tab_tim, kq_ele_row, kq_ele_any, kq_ele_whn, kq_ele_dif, kq_ele_tab, kq_ele_ele, kq_ele_tim, kq_tim_row, kq_tim_any, kq_tim_whn, kq_tim_dif, kq_tim_tab, kq_tim_ele, kq_tim_tim, qn_chain, q_getN1, q_setN, gIsN_non, gIsN_int, isNon_non, isNon_int, gGcd_int, gLen_T, items_T, items_P, items_lst, *])

theorem t12_ok {ns : List Int} {n f : Nat} {w : Bool} {b th : Bd} {com : Int} {x8 x12 x13 : Option Wm} {S : Store} (tp : TapeAt 0 S) (hn : n ≤ 60) (hb : BOk n b) (ht : BOk n th) (hh : ∀ p, bdH th p = bdH b p) :
    ∃ y13 S2, ((cSeq (cAsg (tName 13) (cBi gTuple (cCons (cLc (tName 15) (iRange1 (cVar 2)) tYesT (cBin Mp.gSub (cCall m_law_draw (cCons (cVar 1) (cCons (cLit (.int 9)) cNil))) (cLit (.int 4))) [15]) cNil)))
  (cIfS (cB (cBin (gEq true) (cCall m_law_holds (cCons (cVar 7) (cCons (cVar 13) cNil))) (cCall m_law_holds (cCons (cVar 5) (cCons (cVar 13) cNil))))) (cRet (cLit (.bl false))) (cSkip)))) [some (.scr ns, .brw), some (.cel 0, .frz), some (.int ((n : Nat) : Int), .frz), some (.int ((f : Nat) : Int), .frz), some (.bl w, .frz), some (encB b, .frz), some (.int com, .frz), some (encB th, .frz), x8, none, none, none, x12, x13, none, none, none] S = some (.nx [some (.scr ns, .brw), some (.cel 0, .frz), some (.int ((n : Nat) : Int), .frz), some (.int ((f : Nat) : Int), .frz), some (.bl w, .frz), some (encB b, .frz), some (.int com, .frz), some (encB th, .frz), x8, none, none, none, x12, y13, none, none, none] S2) ∧ TapeAt 0 S2 := by
  have hr : iRange1 (cVar 2) [some (.scr ns, .brw), some (.cel 0, .frz), some (.int ((n : Nat) : Int), .frz), some (.int ((f : Nat) : Int), .frz), some (.bl w, .frz), some (encB b, .frz), some (.int com, .frz), some (encB th, .frz), x8, none, none, none, x12, x13, none, none, none] S = some ((List.range n).map fun k : Nat => W.int ((k : Nat) : Int), S) := rng_ok (m := .frz) (by walk_at "ev") (by omega)
  obtain ⟨p, S2, e, tp2, hp⟩ := lc_enc (t := tName 15) (c := tYesT) (f := cBin Mp.gSub (cCall m_law_draw (cCons (cVar 1) (cCons (cLit (.int 9)) cNil))) (cLit (.int 4))) (ρ := [some (.scr ns, .brw), some (.cel 0, .frz), some (.int ((n : Nat) : Int), .frz), some (.int ((f : Nat) : Int), .frz), some (.bl w, .frz), some (encB b, .frz), some (.int com, .frz), some (encB th, .frz), x8, none, none, none, x12, x13, none, none, none]) (I := TapeAt 0) (R := fun (_ : Nat) (v : Int) => -1000000 ≤ v ∧ v ≤ 1000000) (ex := fun k : Nat => W.int ((k : Nat) : Int)) (ey := W.int) (xs := List.range n) tp (fun k hk S tp => by
    obtain ⟨d, S2, e, hd0, hd1, tp2⟩ := draw_ (many := 9) tp (by decide) (by decide)
    refine ⟨[some (.scr ns, .brw), some (.cel 0, .frz), some (.int ((n : Nat) : Int), .frz), some (.int ((f : Nat) : Int), .frz), some (.bl w, .frz), some (encB b, .frz), some (.int com, .frz), some (encB th, .frz), x8, none, none, none, x12, x13, none, some (.int ((k : Nat) : Int), .frz), none], d - 4, .own, S2, by walk_at "ev", rfl, ?_, rfl, tp2, by omega, by omega⟩
    clear hd0 hd1 tp tp2 hb ht hh hr hk hn
    walk_at "go")
  obtain ⟨hl, hall⟩ := pair_all (P := fun v : Int => -1000000 ≤ v ∧ v ≤ 1000000) hp fun u hu v r => r
  rw [List.length_range] at hl
  subst hl
  obtain ⟨m1, e1⟩ := Lg.holds_ok (b := b) (p := p) S2 hb hall
  obtain ⟨m2, e2⟩ := Lg.holds_ok (b := th) (p := p) S2 ht hall
  rw [← holds_eq] at e1 e2
  rw [hh] at e2
  have e3 : cLc (tName 15) (iRange1 (cVar 2)) tYesT (cBin Mp.gSub (cCall m_law_draw (cCons (cVar 1) (cCons (cLit (.int 9)) cNil))) (cLit (.int 4))) [15] [some (.scr ns, .brw), some (.cel 0, .frz), some (.int ((p.length : Nat) : Int), .frz), some (.int ((f : Nat) : Int), .frz), some (.bl w, .frz), some (encB b, .frz), some (.int com, .frz), some (encB th, .frz), x8, none, none, none, x12, x13, none, none, none] S = some ((.lst (p.map .int), .own), S2) := by
    clear hp hall hb ht hh e1 e2 tp tp2
    walk_at "ev"
    rw [hr]
    walk_at "ev"
    rw [if_pos (size_ok (by rw [List.length_range]; omega)), e]
    walk_at "ev"
  refine ⟨some (encP p, .frz), S2, ?_, tp2⟩
  rw [seq_nx (ρ2 := [some (.scr ns, .brw), some (.cel 0, .frz), some (.int ((p.length : Nat) : Int), .frz), some (.int ((f : Nat) : Int), .frz), some (.bl w, .frz), some (encB b, .frz), some (.int com, .frz), some (encB th, .frz), x8, none, none, none, x12, some (encP p, .frz), none, none, none]) (S2 := S2) (by
    have e4 : gTuple S2 [.lst (p.map .int)] = some (encP p) := rfl
    clear hr e hp hall hb ht hh e1 e2 tp tp2
    walk_at "nl")]
  clear hr e hp hall hb ht hh e3 tp tp2
  cases hv : bdH b p with
  | true => rw [hv] at e1 e2; walk_at "go"; rfl
  | false => rw [hv] at e1 e2; walk_at "go"; rfl
theorem f12_ok {ns : List Int} {n f : Nat} {w : Bool} {b th : Bd} {com : Int} {x12 : Option Wm} {S : Store} (tp : TapeAt 0 S) (hn : n ≤ 60) (hb : BOk n b) (ht : BOk n th) (hh : ∀ p, bdH th p = bdH b p) :
    ∃ x8 x13 S2, w12 [some (.scr ns, .brw), some (.cel 0, .frz), some (.int ((n : Nat) : Int), .frz), some (.int ((f : Nat) : Int), .frz), some (.bl w, .frz), some (encB b, .frz), some (.int com, .frz), some (encB th, .frz), none, none, none, none, x12, none, none, none, none] S = some (.nx [some (.scr ns, .brw), some (.cel 0, .frz), some (.int ((n : Nat) : Int), .frz), some (.int ((f : Nat) : Int), .frz), some (.bl w, .frz), some (encB b, .frz), some (.int com, .frz), some (encB th, .frz), x8, none, none, none, x12, x13, none, none, none] S2) ∧ TapeAt 0 S2 := by
  unfold w12
  obtain ⟨ρ2, S2, e, x8, x13, rfl, tp2⟩ := for_inv (t := (tName 8)) (b := (cSeq (cAsg (tName 13) (cBi gTuple (cCons (cLc (tName 15) (iRange1 (cVar 2)) tYesT (cBin Mp.gSub (cCall m_law_draw (cCons (cVar 1) (cCons (cLit (.int 9)) cNil))) (cLit (.int 4))) [15]) cNil)))
  (cIfS (cB (cBin (gEq true) (cCall m_law_holds (cCons (cVar 7) (cCons (cVar 13) cNil))) (cCall m_law_holds (cCons (cVar 5) (cCons (cVar 13) cNil))))) (cRet (cLit (.bl false))) (cSkip)))) (ws := (List.range 4).map fun k : Nat => W.int ((k : Nat) : Int))
    (fun i ρ S => ∃ x8 x13, ρ = [some (.scr ns, .brw), some (.cel 0, .frz), some (.int ((n : Nat) : Int), .frz), some (.int ((f : Nat) : Int), .frz), some (.bl w, .frz), some (encB b, .frz), some (.int com, .frz), some (encB th, .frz), x8, none, none, none, x12, x13, none, none, none] ∧ TapeAt 0 S) (fun i w' ρ S hw hi => by
      obtain ⟨x8, x13, rfl, tp⟩ := hi
      rw [List.getElem?_map] at hw
      obtain ⟨k, hk, rfl⟩ := Option.map_eq_some_iff.mp hw
      obtain ⟨y13, S2, e2, tp2⟩ := t12_ok (ns := ns) (n := n) (f := f) (w := w) (b := b) (th := th) (com := com) (x8 := some (.int ((k : Nat) : Int), .frz)) (x12 := x12) (x13 := x13) tp hn hb ht hh
      exact ⟨_, _, S2, by walk_at "ev", e2, _, _, rfl, tp2⟩) (ρ := [some (.scr ns, .brw), some (.cel 0, .frz), some (.int ((n : Nat) : Int), .frz), some (.int ((f : Nat) : Int), .frz), some (.bl w, .frz), some (encB b, .frz), some (.int com, .frz), some (encB th, .frz), none, none, none, none, x12, none, none, none, none]) (S := S) ⟨none, none, rfl, tp⟩
  refine ⟨x8, x13, S2, ?_, tp2⟩
  have hr : iRange1 (cLit (.int 4)) [some (.scr ns, .brw), some (.cel 0, .frz), some (.int ((n : Nat) : Int), .frz), some (.int ((f : Nat) : Int), .frz), some (.bl w, .frz), some (encB b, .frz), some (.int com, .frz), some (encB th, .frz), none, none, none, none, x12, none, none, none, none] S = some ((List.range 4).map fun k : Nat => W.int ((k : Nat) : Int), S) := rng_ok (n := 4) (m := .frz) rfl (by decide)
  rw [q_for, hr]
  exact e
def menuW : W := W.lst [encT [(0, 1)], encT [(0, 1), (1, -2)], encT [(1, 3)], encT []]
theorem f14_ok {ns : List Int} {n f : Nat} {w : Bool} {b th : Bd} {com : Int} {x8 x12 x13 : Option Wm} {S : Store} (k : CS) : ((cSeq w13 (cSeq w14 k))) [some (.scr ns, .brw), some (.cel 0, .frz), some (.int ((n : Nat) : Int), .frz), some (.int ((f : Nat) : Int), .frz), some (.bl w, .frz), some (encB b, .frz), some (.int com, .frz), some (encB th, .frz), x8, none, none, none, x12, x13, none, none, none] S = k [some (.scr ns, .brw), some (.cel 0, .frz), some (.int ((n : Nat) : Int), .frz), some (.int ((f : Nat) : Int), .frz), some (.bl w, .frz), some (encB b, .frz), some (.int com, .frz), some (encB th, .frz), x8, some (menuW, .own), some (.lst (([] : List Bd).map encB), .own), none, x12, x13, none, none, none] S := by
  unfold w13 w14
  have h : ∀ ws : List W, ws.length ≤ 4 → (ws.length ≤ sizeLine) = True := fun ws h => eq_true (size_ok (by omega))
  rw [seq_nx (ρ2 := [some (.scr ns, .brw), some (.cel 0, .frz), some (.int ((n : Nat) : Int), .frz), some (.int ((f : Nat) : Int), .frz), some (.bl w, .frz), some (encB b, .frz), some (.int com, .frz), some (encB th, .frz), x8, some (menuW, .own), none, none, x12, x13, none, none, none]) (S2 := S) (by walk_at "ev"; rfl)]
  rw [seq_nx (ρ2 := [some (.scr ns, .brw), some (.cel 0, .frz), some (.int ((n : Nat) : Int), .frz), some (.int ((f : Nat) : Int), .frz), some (.bl w, .frz), some (encB b, .frz), some (.int com, .frz), some (encB th, .frz), x8, some (menuW, .own), some (.lst (([] : List Bd).map encB), .own), none, x12, x13, none, none, none]) (S2 := S) (by walk_at "ev")]
theorem set_end {bs : List Bd} {x y : Bd} {ρ : Mp.Env} (S : Store) (h : ρ[10]? = some (some (.lst (bs.map encB ++ [encB x]), .own))) : setAt ρ S 10 (.int ((bs.length : Nat) : Int)) (encB y) = some (.nx (ρ.set 10 (some (.lst ((bs ++ [y]).map encB), .own))) S) := by
  unfold setAt
  rw [h]
  have e : ixN (bs.map encB ++ [encB x]).length ((bs.length : Nat) : Int) = some bs.length := by
    unfold ixN
    rw [List.length_append, List.length_map, List.length_singleton]
    simp
    omega
  show (ixN (bs.map encB ++ [encB x]).length ((bs.length : Nat) : Int)).map _ = _
  rw [e, Option.map_some]
  have e2 : (bs.map encB ++ [encB x]).set bs.length (encB y) = (bs ++ [y]).map encB := by
    rw [List.set_append_right _ _ (by rw [List.length_map]; exact Nat.le_refl _), List.length_map, Nat.sub_self, List.map_append]
    rfl
  rw [e2]
def RowAny (b : Bd) : Prop := (∃ ts r c, b = .row ts r c ∧ r ≠ .ne) ∨ ∃ ls, b = .any ls
theorem t15_ok {ns : List Int} {n f i : Nat} {w : Bool} {b th : Bd} {com : Int} {bs : List Bd} {x12 x13 x14 : Option Wm} {S : Store} (tp : TapeAt 0 S) (hi : bs.length = i) (h60 : i < 60) :
    ∃ one y14 S2, ((cSeq (cAsg (tName 14) (cIx (cVar 9) (cCall m_law_draw (cCons (cVar 1) (cCons (cLit (.int 4)) cNil)))))
  (cSeq (cApp 10 (cTup (cCons (cLit (.str "row")) (cCons (cVar 14) (cCons (cIx (cLst (cCons (cLit (.str "<=")) (cCons (cLit (.str ">=")) (cCons (cLit (.str "=")) cNil)))) (cCall m_law_draw (cCons (cVar 1) (cCons (cLit (.int 3)) cNil)))) (cCons (cCall m_law_draw (cCons (cVar 1) (cCons (cLit (.int 3)) cNil))) cNil))))))
  (cIfS (cB (cBin (gEq false) (cCall m_law_draw (cCons (cVar 1) (cCons (cLit (.int 6)) cNil))) (cLit (.int 0)))) (cSetIx 10 (cVar 8) (cTup (cCons (cLit (.str "any")) (cCons (cTup (cCons (cTup (cCons (cLit (.int 0)) (cCons (cLit (.str "<=")) (cCons (cCall m_law_draw (cCons (cVar 1) (cCons (cLit (.int 2)) cNil))) cNil)))) cNil)) cNil)))) (cSkip))))) [some (.scr ns, .brw), some (.cel 0, .frz), some (.int ((n : Nat) : Int), .frz), some (.int ((f : Nat) : Int), .frz), some (.bl w, .frz), some (encB b, .frz), some (.int com, .frz), some (encB th, .frz), some (.int ((i : Nat) : Int), .frz), some (menuW, .own), some (.lst (bs.map encB), .own), none, x12, x13, x14, none, none] S = some (.nx [some (.scr ns, .brw), some (.cel 0, .frz), some (.int ((n : Nat) : Int), .frz), some (.int ((f : Nat) : Int), .frz), some (.bl w, .frz), some (encB b, .frz), some (.int com, .frz), some (encB th, .frz), some (.int ((i : Nat) : Int), .frz), some (menuW, .own), some (.lst ((bs ++ [one]).map encB), .own), none, x12, x13, y14, none, none] S2) ∧ RowAny one ∧ TapeAt 0 S2 := by
  obtain ⟨d, S2, e2, hd0, hd1, tp2⟩ := draw_ (many := 4) tp (by decide) (by decide)
  obtain ⟨ts, hts⟩ : ∃ ts : Lg.Tm, gIx S2 menuW (.int d) = some (encT ts) := by
    rcases (show d = 0 ∨ d = 1 ∨ d = 2 ∨ d = 3 by omega) with rfl | rfl | rfl | rfl
    · exact ⟨_, rfl⟩
    · exact ⟨_, rfl⟩
    · exact ⟨_, rfl⟩
    · exact ⟨_, rfl⟩
  obtain ⟨v, S3, e3, hv0, hv1, tp3⟩ := draw_ (many := 3) tp2 (by decide) (by decide)
  obtain ⟨r, hr, hrx⟩ := rl_ix3 v hv0 hv1
  obtain ⟨q, S4, e4, _, _, tp4⟩ := draw_ (many := 3) tp3 (by decide) (by decide)
  obtain ⟨z, S5, e5, hz0, hz1, tp5⟩ := draw_ (many := 6) tp4 (by decide) (by decide)
  have k1 : ((cAsg (tName 14) (cIx (cVar 9) (cCall m_law_draw (cCons (cVar 1) (cCons (cLit (.int 4)) cNil)))))) [some (.scr ns, .brw), some (.cel 0, .frz), some (.int ((n : Nat) : Int), .frz), some (.int ((f : Nat) : Int), .frz), some (.bl w, .frz), some (encB b, .frz), some (.int com, .frz), some (encB th, .frz), some (.int ((i : Nat) : Int), .frz), some (menuW, .own), some (.lst (bs.map encB), .own), none, x12, x13, x14, none, none] S = some (.nx [some (.scr ns, .brw), some (.cel 0, .frz), some (.int ((n : Nat) : Int), .frz), some (.int ((f : Nat) : Int), .frz), some (.bl w, .frz), some (encB b, .frz), some (.int com, .frz), some (encB th, .frz), some (.int ((i : Nat) : Int), .frz), some (menuW, .own), some (.lst (bs.map encB), .own), none, x12, x13, some (encT ts, .frz), none, none] S2) := by
    clear tp tp2 tp3 tp4 tp5 hd0 hd1 hv0 hv1 hr hrx hz0 hz1 e3 e4 e5 hi h60
    walk_at "go"
  have k2 : ((cApp 10 (cTup (cCons (cLit (.str "row")) (cCons (cVar 14) (cCons (cIx (cLst (cCons (cLit (.str "<=")) (cCons (cLit (.str ">=")) (cCons (cLit (.str "=")) cNil)))) (cCall m_law_draw (cCons (cVar 1) (cCons (cLit (.int 3)) cNil)))) (cCons (cCall m_law_draw (cCons (cVar 1) (cCons (cLit (.int 3)) cNil))) cNil))))))) [some (.scr ns, .brw), some (.cel 0, .frz), some (.int ((n : Nat) : Int), .frz), some (.int ((f : Nat) : Int), .frz), some (.bl w, .frz), some (encB b, .frz), some (.int com, .frz), some (encB th, .frz), some (.int ((i : Nat) : Int), .frz), some (menuW, .own), some (.lst (bs.map encB), .own), none, x12, x13, some (encT ts, .frz), none, none] S2 = some (.nx [some (.scr ns, .brw), some (.cel 0, .frz), some (.int ((n : Nat) : Int), .frz), some (.int ((f : Nat) : Int), .frz), some (.bl w, .frz), some (encB b, .frz), some (.int com, .frz), some (encB th, .frz), some (.int ((i : Nat) : Int), .frz), some (menuW, .own), some (.lst ((bs ++ [Bd.row ts r q]).map encB), .own), none, x12, x13, some (encT ts, .frz), none, none] S4) := by
    have hsz : (bs.length < sizeLine) = True := eq_true (size_lt (by omega))
    rw [List.map_append, List.map_cons, List.map_nil, b_row]
    clear tp tp2 tp3 tp4 tp5 hd0 hd1 hv0 hv1 hr hz0 hz1 e2 e5 hi h60 k1 hts
    walk_at "go"
  rw [q_seq, k1]
  dsimp only
  rw [q_seq, k2]
  dsimp only
  by_cases hz : z = 0
  · subst hz
    obtain ⟨y, S6, e6, _, _, tp6⟩ := draw_ (many := 2) tp5 (by decide) (by decide)
    refine ⟨.any [⟨0, .le, y⟩], some (encT ts, .frz), S6, ?_, .inr ⟨_, rfl⟩, tp6⟩
    have k3 := set_end (bs := bs) (x := .row ts r q) (y := .any [⟨0, .le, y⟩]) (ρ := [some (.scr ns, .brw), some (.cel 0, .frz), some (.int ((n : Nat) : Int), .frz), some (.int ((f : Nat) : Int), .frz), some (.bl w, .frz), some (encB b, .frz), some (.int com, .frz), some (encB th, .frz), some (.int ((i : Nat) : Int), .frz), some (menuW, .own), some (.lst ((bs ++ [Bd.row ts r q]).map encB), .own), none, x12, x13, some (encT ts, .frz), none, none]) S6 (by rw [List.map_append]; rfl)
    rw [b_any, hi] at k3
    have k4 : W.tup ([(⟨0, .le, y⟩ : Ltl)].map encL) = .tup [.tup [.int 0, .str "<=", .int y]] := rfl
    rw [k4] at k3
    clear tp tp2 tp3 tp4 tp5 tp6 hd0 hd1 hv0 hv1 hr hz0 hz1 e2 e3 e4 hi h60 k1 k2 hts hrx
    walk_at "go"
  · refine ⟨.row ts r q, some (encT ts, .frz), S5, ?_, .inl ⟨_, _, _, rfl, hr⟩, tp5⟩
    have hz := decide_eq_false hz
    clear tp tp2 tp3 tp4 tp5 hd0 hd1 hv0 hv1 hr hz0 hz1 e2 e3 e4 hi h60 k1 k2 hts hrx
    walk_at "go"
theorem f15_ok {ns : List Int} {n f : Nat} {w : Bool} {b th : Bd} {com : Int} {x8 x12 x13 : Option Wm} {S : Store} (tp : TapeAt 0 S) :
    ∃ bs x8' x14 S2, w15 [some (.scr ns, .brw), some (.cel 0, .frz), some (.int ((n : Nat) : Int), .frz), some (.int ((f : Nat) : Int), .frz), some (.bl w, .frz), some (encB b, .frz), some (.int com, .frz), some (encB th, .frz), x8, some (menuW, .own), some (.lst (([] : List Bd).map encB), .own), none, x12, x13, none, none, none] S = some (.nx [some (.scr ns, .brw), some (.cel 0, .frz), some (.int ((n : Nat) : Int), .frz), some (.int ((f : Nat) : Int), .frz), some (.bl w, .frz), some (encB b, .frz), some (.int com, .frz), some (encB th, .frz), x8', some (menuW, .own), some (.lst (bs.map encB), .own), none, x12, x13, x14, none, none] S2) ∧ BsOk bs := by
  unfold w15
  obtain ⟨d, S1, e1, hd0, hd1, tp1⟩ := draw_ (many := 10) tp (by decide) (by decide)
  obtain ⟨m, hm⟩ : ∃ m : Nat, d = ((m : Nat) : Int) := ⟨d.toNat, by omega⟩
  subst hm
  obtain ⟨ρ2, S2, e, bs, x8', x14, rfl, hl, hall, tp2⟩ := for_inv (t := (tName 8)) (b := (cSeq (cAsg (tName 14) (cIx (cVar 9) (cCall m_law_draw (cCons (cVar 1) (cCons (cLit (.int 4)) cNil)))))
  (cSeq (cApp 10 (cTup (cCons (cLit (.str "row")) (cCons (cVar 14) (cCons (cIx (cLst (cCons (cLit (.str "<=")) (cCons (cLit (.str ">=")) (cCons (cLit (.str "=")) cNil)))) (cCall m_law_draw (cCons (cVar 1) (cCons (cLit (.int 3)) cNil)))) (cCons (cCall m_law_draw (cCons (cVar 1) (cCons (cLit (.int 3)) cNil))) cNil))))))
  (cIfS (cB (cBin (gEq false) (cCall m_law_draw (cCons (cVar 1) (cCons (cLit (.int 6)) cNil))) (cLit (.int 0)))) (cSetIx 10 (cVar 8) (cTup (cCons (cLit (.str "any")) (cCons (cTup (cCons (cTup (cCons (cLit (.int 0)) (cCons (cLit (.str "<=")) (cCons (cCall m_law_draw (cCons (cVar 1) (cCons (cLit (.int 2)) cNil))) cNil)))) cNil)) cNil)))) (cSkip))))) (ws := (List.range m).map fun k : Nat => W.int ((k : Nat) : Int))
    (fun i ρ S => ∃ bs x8 x14, ρ = [some (.scr ns, .brw), some (.cel 0, .frz), some (.int ((n : Nat) : Int), .frz), some (.int ((f : Nat) : Int), .frz), some (.bl w, .frz), some (encB b, .frz), some (.int com, .frz), some (encB th, .frz), x8, some (menuW, .own), some (.lst (bs.map encB), .own), none, x12, x13, x14, none, none] ∧ bs.length = i ∧ (∀ b ∈ bs, RowAny b) ∧ TapeAt 0 S) (fun i w' ρ S hw hi => by
      obtain ⟨bs, x8, x14, rfl, hl, hall, tp⟩ := hi
      have hi : i < m := by
        have := (List.getElem?_eq_some_iff.mp hw).1
        simpa using this
      rw [List.getElem?_map, List.getElem?_range hi] at hw
      cases hw
      obtain ⟨one, y14, S2, e2, ho, tp2⟩ := t15_ok (ns := ns) (n := n) (f := f) (w := w) (b := b) (th := th) (com := com) (x12 := x12) (x13 := x13) (x14 := x14) tp hl (by omega)
      refine ⟨_, _, S2, by walk_at "ev", e2, _, _, _, rfl, by rw [List.length_append, List.length_singleton, hl], fun b hb => ?_, tp2⟩
      rcases List.mem_append.mp hb with hb | hb
      · exact hall b hb
      · rw [List.mem_singleton.mp hb]; exact ho) (ρ := [some (.scr ns, .brw), some (.cel 0, .frz), some (.int ((n : Nat) : Int), .frz), some (.int ((f : Nat) : Int), .frz), some (.bl w, .frz), some (encB b, .frz), some (.int com, .frz), some (encB th, .frz), x8, some (menuW, .own), some (.lst (([] : List Bd).map encB), .own), none, x12, x13, none, none, none]) (S := S1) ⟨[], x8, none, rfl, rfl, fun b hb => absurd hb List.not_mem_nil, tp1⟩
  rw [List.length_map, List.length_range] at hl
  refine ⟨bs, x8', x14, S2, ?_, by omega, hall⟩
  have hr : iRange1 (cCall m_law_draw (cCons (cVar 1) (cCons (cLit (.int 10)) cNil))) [some (.scr ns, .brw), some (.cel 0, .frz), some (.int ((n : Nat) : Int), .frz), some (.int ((f : Nat) : Int), .frz), some (.bl w, .frz), some (encB b, .frz), some (.int com, .frz), some (encB th, .frz), x8, some (menuW, .own), some (.lst (([] : List Bd).map encB), .own), none, x12, x13, none, none, none] S = some ((List.range m).map fun k : Nat => W.int ((k : Nat) : Int), S1) := rng_ok (m := .frz) (by
    clear tp tp1 e hd0 hd1
    walk_at "go") (by omega)
  rw [q_for, hr]
  exact e
theorem f17_ok {ns : List Int} {n f : Nat} {w : Bool} {b th : Bd} {com : Int} {bs : List Bd} {x8 x12 x13 x14 : Option Wm} {S : Store} (hb : BsOk bs) :
    ∃ m, fin (((cSeq w16 w17)) [some (.scr ns, .brw), some (.cel 0, .frz), some (.int ((n : Nat) : Int), .frz), some (.int ((f : Nat) : Int), .frz), some (.bl w, .frz), some (encB b, .frz), some (.int com, .frz), some (encB th, .frz), x8, some (menuW, .own), some (.lst (bs.map encB), .own), none, x12, x13, x14, none, none] S) = some ((.bl true, m), S) := by
  unfold w16 w17
  have h60 := hb.1
  have e1 := doubled_ok S hb
  have e2 := lc_filter (xs := List.range bs.length) (t := tName 8) (c := cB (cCall m_law_needless (cCons (cVar 10) (cCons (cVar 8) cNil)))) (f := cVar 8) (ρ := [some (.scr ns, .brw), some (.cel 0, .frz), some (.int ((n : Nat) : Int), .frz), some (.int ((f : Nat) : Int), .frz), some (.bl w, .frz), some (encB b, .frz), some (.int com, .frz), some (encB th, .frz), none, some (menuW, .own), some (.lst (bs.map encB), .own), none, x12, x13, x14, none, none]) (S := S) (enc := fun n : Nat => W.int ((n : Nat) : Int)) (g := fun n : Nat => W.int ((n : Nat) : Int)) (p := ndl bs) fun k hk => by
    have e3 := needless_ok S hb (List.mem_range.mp hk)
    refine ⟨[some (.scr ns, .brw), some (.cel 0, .frz), some (.int ((n : Nat) : Int), .frz), some (.int ((f : Nat) : Int), .frz), some (.bl w, .frz), some (encB b, .frz), some (.int com, .frz), some (encB th, .frz), some (.int ((k : Nat) : Int), .frz), some (menuW, .own), some (.lst (bs.map encB), .own), none, x12, x13, x14, none, none], .frz, by walk_at "ev", ?_, fun _ => ⟨by walk_at "ev", rfl⟩⟩
    clear e1 hb hk
    walk_at "go"
  have e4 : cLc (tName 8) (iRange1 (cBi gLen (cCons (cVar 10) cNil))) (cB (cCall m_law_needless (cCons (cVar 10) (cCons (cVar 8) cNil)))) (cVar 8) [8] [some (.scr ns, .brw), some (.cel 0, .frz), some (.int ((n : Nat) : Int), .frz), some (.int ((f : Nat) : Int), .frz), some (.bl w, .frz), some (encB b, .frz), some (.int com, .frz), some (encB th, .frz), x8, some (menuW, .own), some (.lst (bs.map encB), .own), none, x12, x13, x14, none, none] S = some ((.lst (((List.range bs.length).filter (ndl bs)).map fun n : Nat => W.int ((n : Nat) : Int)), .own), S) := by
    have hr : iRange1 (cBi gLen (cCons (cVar 10) cNil)) [some (.scr ns, .brw), some (.cel 0, .frz), some (.int ((n : Nat) : Int), .frz), some (.int ((f : Nat) : Int), .frz), some (.bl w, .frz), some (encB b, .frz), some (.int com, .frz), some (encB th, .frz), x8, some (menuW, .own), some (.lst (bs.map encB), .own), none, x12, x13, x14, none, none] S = some ((List.range bs.length).map fun n : Nat => W.int ((n : Nat) : Int), S) := rng_ok (m := .own) (by walk_at "ev") (by omega)
    clear e1 hb
    walk_at "ev"
    rw [hr]
    walk_at "ev"
    rw [if_pos (size_ok (by rw [List.length_range]; omega)), e2]
    walk_at "ev"
  have e5 := gEq_same (neg := false) (a := .lst (((List.range bs.length).filter (ndl bs)).map fun n : Nat => W.int ((n : Nat) : Int))) (okD_lst (n := 63) fun w hw => by
    obtain ⟨l, _, rfl⟩ := List.mem_map.mp hw
    rfl)
  refine ⟨.own, ?_⟩
  rw [seq_nx (ρ2 := [some (.scr ns, .brw), some (.cel 0, .frz), some (.int ((n : Nat) : Int), .frz), some (.int ((f : Nat) : Int), .frz), some (.bl w, .frz), some (encB b, .frz), some (.int com, .frz), some (encB th, .frz), x8, some (menuW, .own), some (.lst (bs.map encB), .own), some (.lst (((List.range bs.length).filter (ndl bs)).map fun n : Nat => W.int ((n : Nat) : Int)), .own), x12, x13, x14, none, none]) (S2 := S) (by
    clear e1 e2 e5 hb
    walk_at "nl")]
  clear e2 e4 hb
  walk_at "go"
theorem law_true (ns : List Int) : ∃ m S', m_law [.scr ns] [] = some ((.bl true, m), S') := by
  unfold m_law
  rw [cFn_run (by rfl)]
  show ∃ m S', fin (c_law [some (.scr ns, .brw), none, none, none, none, none, none, none, none, none, none, none, none, none, none, none, none] []) = _
  rw [law_seq]
  obtain ⟨n, f, w, b, S1, t1, hn1, hn2, hf1, hf2, hb, tp1⟩ := f1_ok ns
  obtain ⟨n2, f2, b2, S2, t2, hn3, hn4, hf3, hf4, hb2, tp2⟩ := f6_ok (ns := ns) (w := w) hn1 hn2 hf1 hf2 hb tp1
  obtain ⟨b3, com, x12, S3, t3, hb3, tp3⟩ := f9_ok (ns := ns) (w := w) hn4 hf3 hf4 hb2 tp2
  obtain ⟨th, t4, ht, hh⟩ := f11_ok (ns := ns) (f := f2) (w := w) (x12 := x12) S3 hb3
  obtain ⟨x8, x13, S4, t5, tp4⟩ := f12_ok (ns := ns) (f := f2) (w := w) (com := com) (x12 := x12) tp3 hn4 hb3.1 ht hh
  obtain ⟨bs, x8', x14, S5, t6, hbs⟩ := f15_ok (ns := ns) (n := n2) (f := f2) (w := w) (b := b3) (th := th) (com := com) (x8 := x8) (x12 := x12) (x13 := x13) tp4
  obtain ⟨m, t7⟩ := f17_ok (ns := ns) (n := n2) (f := f2) (w := w) (b := b3) (th := th) (com := com) (x8 := x8') (x12 := x12) (x13 := x13) (x14 := x14) (S := S5) hbs
  refine ⟨m, S5, ?_⟩
  rw [t1, seq_nx t2, t3, t4, seq_nx t5, f14_ok, seq_nx t6]
  exact t7
end K77
namespace K77
open PySem PySem.Spec PyProof.Rows L2 Mp
theorem hsp (K : KW) (H : Hp) (a : Addr) (ns : List Int) (hl : ns.length ≤ 63) (hO : Only H) (hS : SqL K.K H a (ns.map V.int)) : spF K 1 m_law [.ref a] H (fun v _ => v = .bl true) fun _ _ _ => False := by
  obtain ⟨md, S', h⟩ := law_true ns
  refine ⟨[.scr ns], [], [], fun _ => False, (.bl true, md), S', ⟨.nil, .nil, fun _ z => z.elim, fun _ z => z.elim⟩, rfl, .cons (.im rfl (.scr ?_)) .nil, h, fun v H' α' Z' _ _ g => g.rep.ofBl⟩
  rcases hS with (hS | hS) | hS
  · rcases hO a with e | ⟨o, xs, e⟩
    · rw [hS] at e; cases e
    · rw [hS] at e; cases e
  · obtain ⟨o, hS⟩ := hS
    exact .inl ⟨o, hS, List.not_mem_nil⟩
  · exact .inr hS
end K77
open PySem PySem.W PyProof.Rows
set_option maxHeartbeats 0 in
theorem PySem.Challenge.cw_commonfront_k77_rows_made_thinner_holds : PySem.Challenge.rw_commonfront_k77_rows_made_thinner.Holds := by
  w_on; o_law; k_head; (case hw => w_witness2)
  k_fill
  refine L2.walk_of (l := PySem.Challenge.rw_commonfront_k77_rows_made_thinner) (n := 63) (k := 4) (x := "script") (CX := fun _ => L2.CX0) (sp := fun w => Mp.spF ⟨_, w⟩ 1 K77.m_law) rfl (by decide) rfl ⟨rfl, by decide, by decide⟩ (fun w h Y => PySem.W.kIn_of Y) ?F (fun _ H a ns hl hO hS => K77.hsp _ H a ns hl hO hS) (fun _ _ _ _ _ h => h)
  case F =>
    intro w mg fa h KX G hmg
    refine' K77.all_mk KX G hmg ?a0 ?l0 ?c0 ?k0 ?a1 ?l1 ?c1 ?k1 ?a2 ?l2 ?c2 ?k2 ?a3 ?l3 ?c3 ?k3 ?a4 ?l4 ?c4 ?k4 ?a5 ?l5 ?c5 ?k5 ?a6 ?l6 ?c6 ?k6 ?a7 ?l7 ?c7 ?k7 ?a8 ?l8 ?c8 ?k8 ?a9 ?l9 ?c9 ?k9 ?a10 ?l10 ?c10 ?k10 ?a11 ?l11 ?c11 ?k11 ?a12 ?l12 ?c12 ?k12 ?a13 ?l13 ?c13 ?k13 ?a14 ?l14 ?c14 ?k14 ?a15 ?l15 ?c15 ?k15 ?a16 ?l16 ?c16 ?k16 ?z_enumerate ?z_int ?z_len ?z_list ?z_range ?z_sorted ?z_tuple ?y_gcd
    (case a0 => k_is); (case l0 => k_is); (case c0 => k_is); (case k0 => k_is); (case a1 => k_is); (case l1 => k_is); (case c1 => k_is); (case k1 => k_is); (case a2 => k_is); (case l2 => k_is); (case c2 => k_is); (case k2 => k_is); (case a3 => k_is); (case l3 => k_is); (case c3 => k_is); (case k3 => k_is); (case a4 => k_is); (case l4 => k_is); (case c4 => k_is); (case k4 => k_is); (case a5 => k_is); (case l5 => k_is); (case c5 => k_is); (case k5 => k_is); (case a6 => k_is); (case l6 => k_is); (case c6 => k_is); (case k6 => k_is); (case a7 => k_is); (case l7 => k_is); (case c7 => k_is); (case k7 => k_is); (case a8 => k_is); (case l8 => k_is); (case c8 => k_is); (case k8 => k_is); (case a9 => k_is); (case l9 => k_is); (case c9 => k_is); (case k9 => k_is); (case a10 => k_is); (case l10 => k_is); (case c10 => k_is); (case k10 => k_is); (case a11 => k_is); (case l11 => k_is); (case c11 => k_is); (case k11 => k_is); (case a12 => k_is); (case l12 => k_is); (case c12 => k_is); (case k12 => k_is); (case a13 => k_is); (case l13 => k_is); (case c13 => k_is); (case k13 => k_is); (case a14 => k_is); (case l14 => k_is); (case c14 => k_is); (case k14 => k_is); (case a15 => k_is); (case l15 => k_is); (case c15 => k_is); (case k15 => k_is); (case a16 => k_is); (case l16 => k_is); (case c16 => k_is); (case k16 => k_is); (case z_enumerate => k_is); (case z_int => k_is); (case z_len => k_is); (case z_list => k_is); (case z_range => k_is); (case z_sorted => k_is); (case z_tuple => k_is); (case y_gcd => k_is)
