import PyProof.Rows.All
import HandS.ForMost
import HandS.TupAny
import HandS.Deep
import HandS.Wide
import HandS.More
import HandS.IsInst
import KE.GoesEnum
import PySem.Challenge.RW_commonfront_k75_values_of_goals
set_option Elab.async false
set_option linter.all false
set_option maxRecDepth 100000
set_option maxHeartbeats 4000000
/-! a big-step evaluator of Python as plain Lean functions on inline data, over the layer HandS -/
namespace Mp
open PySem PySem.Spec PyProof.Rows L2

/-! ### values of the evaluator -/
inductive W where
  | non | bl (b : Bool) | int (i : Int) | str (x : Str)
  | tup (ws : List W) | lst (ws : List W) | dk (kvs : List (Key × W)) | dt (kvs : List (List Key × W)) | scr (ns : List Int)
  | cel (n : Nat) | ty (n : String)
/-- who may write the root: own: this name alone; frz: nobody any more; brw: not I -/
inductive Md where
  | own | frz | brw
  deriving DecidableEq
def W.mut : W → Bool
  | .lst _ => true
  | .dk _ => true
  | .dt _ => true
  | _ => false
abbrev Store := List (List W)
abbrev Wm := W × Md
abbrev Env := List (Option Wm)

/-! ### what stands where -/
inductive Shape : HO → W → List V → List W → Prop
  | lst (xs : List V) (ws : List W) : Shape (.lst xs) (.lst ws) xs ws
  | dk {kvs : List (Key × V)} {kws : List (Key × W)} : kvs.map (·.1) = kws.map (·.1) → Shape (.dK kvs) (.dk kws) (kvs.map (·.2)) (kws.map (·.2))
  | dt {kvs : List (List Key × V)} {kws : List (List Key × W)} : kvs.map (·.1) = kws.map (·.1) → Shape (.dT kvs) (.dt kws) (kvs.map (·.2)) (kws.map (·.2))
theorem Shape.mut {o : HO} {w : W} {xs ws} (s : Shape o w xs ws) : w.mut = true := by cases s <;> rfl
theorem Shape.ntup {o : HO} {w : W} {xs ws} (s : Shape o w xs ws) : ∀ ys, o ≠ .tup ys := by cases s <;> (intro ys e; cases e)

/-- a list that nobody writes: the script -/
def SqF (K : PySem.W.Frag) (H : Hp) (a : Addr) (xs : List V) : Prop :=
  (∃ o, H a = some (.frz o (.lst xs))) ∨
    ∃ (o : Obj) (its : Array Value) (n : Nat), K.lookup a = some o ∧ o.cls = .type "list" ∧ o.dict = none ∧ o.data = .seq its n ∧ its.size ≤ sizeLine ∧ Vals xs its.toList
theorem SqF.sqL {K : PySem.W.Frag} {H : Hp} {a : Addr} {xs : List V} (h : SqF K H a xs) : SqL K H a xs := by
  rcases h with ⟨o, h⟩ | h
  · exact .inl (.inr ⟨o, h⟩)
  · exact .inr h
mutual
inductive Rep (K : PySem.W.Frag) (α : List Addr) (Z : Addr → Prop) (H : Hp) : V → W → Prop
  | non : Rep K α Z H .non .non
  | bl (b : Bool) : Rep K α Z H (.bl b) (.bl b)
  | int (i : Int) : Rep K α Z H (.int i) (.int i)
  | str (x : Str) : Rep K α Z H (.str x) (.str x)
  | tup {a : Addr} {xs : List V} {ws : List W} : H a = some (.tup xs) → RepL K α Z H xs ws → Rep K α Z H (.ref a) (.tup ws)
  | mu {a : Addr} {o : HO} {w : W} {xs : List V} {ws : List W} : H a = some o → Z a → Shape o w xs ws → RepL K α Z H xs ws → Rep K α Z H (.ref a) w
  | scr {a : Addr} {ns : List Int} : SqF K H a (ns.map V.int) → Rep K α Z H (.ref a) (.scr ns)
  | cel {a : Addr} {n : Nat} : α[n]? = some a → Rep K α Z H (.ref a) (.cel n)
  | ty (n : String) : Rep K α Z H (.ty n) (.ty n)
inductive RepL (K : PySem.W.Frag) (α : List Addr) (Z : Addr → Prop) (H : Hp) : List V → List W → Prop
  | nil : RepL K α Z H [] []
  | cons {v : V} {w : W} {vs : List V} {ws : List W} : Rep K α Z H v w → RepL K α Z H vs ws → RepL K α Z H (v :: vs) (w :: ws)
end

inductive RepM (K : PySem.W.Frag) (α : List Addr) (Z : Addr → Prop) (H : Hp) : Md → V → W → Prop
  | im {m : Md} {v : V} {w : W} : w.mut = false → Rep K α Z H v w → RepM K α Z H m v w
  | mu {m : Md} {a : Addr} {o : HO} {w : W} {xs : List V} {ws : List W} : H a = some o → Shape o w xs ws → RepL K α Z H xs ws → a ∉ α → (m = .own → ¬ Z a) → (m = .frz → Z a) → RepM K α Z H m (.ref a) w

/-- one step of the world: all that is not a cell is kept -/
structure Keep (H : Hp) (α : List Addr) (Z : Addr → Prop) (H' : Hp) (α' : List Addr) (Z' : Addr → Prop) : Prop where
  al : ∃ nw : List Addr, α' = α ++ nw ∧ ∀ a ∈ nw, H a = none
  h : ∀ a o, H a = some o → a ∉ α → H' a = some o
  d : ∀ a, H' a = none → H a = none
  z : ∀ a, Z a → Z' a
  z' : ∀ a, Z' a → Z a ∨ H a = none

structure WOk (K : PySem.W.Frag) (H : Hp) (S : Store) (α : List Addr) (Z : Addr → Prop) : Prop where
  nd : α.Nodup
  cells : Paired (fun a ws => ∃ xs, H a = some (.lst xs) ∧ RepL K α Z H xs ws) α S
  zα : ∀ a, Z a → a ∉ α
  zH : ∀ a, Z a → H a ≠ none

section
variable {K : PySem.W.Frag} {α α' α2 : List Addr} {Z Z' Z2 : Addr → Prop} {H H' H2 : Hp} {S S' : Store} {m : Md} {v : V} {w : W} {vs : List V} {ws : List W}

theorem WOk.cell (w : WOk K H S α Z) {a : Addr} (h : a ∈ α) : ∃ xs, H a = some (.lst xs) := by
  have go : ∀ {α0 : List Addr} {S0 : Store}, Paired (fun a ws => ∃ xs, H a = some (.lst xs) ∧ RepL K α Z H xs ws) α0 S0 → a ∈ α0 → ∃ xs, H a = some (.lst xs) := by
    intro α0 S0 p
    induction p with
    | nil => intro h; cases h
    | cons r t ih =>
      intro h
      rcases List.mem_cons.mp h with e | h
      · subst e; obtain ⟨xs, e, _⟩ := r; exact ⟨xs, e⟩
      · exact ih h
  exact go w.cells h
theorem Keep.refl : Keep H α Z H α Z := ⟨⟨[], by simp, by simp⟩, fun _ _ h _ => h, fun _ h => h, fun _ h => h, fun _ h => .inl h⟩
theorem Keep.trans (a : Keep H α Z H' α' Z') (b : Keep H' α' Z' H2 α2 Z2) : Keep H α Z H2 α2 Z2 := by
  obtain ⟨n1, e1, f1⟩ := a.al
  obtain ⟨n2, e2, f2⟩ := b.al
  refine ⟨⟨n1 ++ n2, by rw [e2, e1, List.append_assoc], fun x hx => ?_⟩, fun x o h hn => ?_, fun x h => a.d x (b.d x h), fun x h => b.z x (a.z x h), fun x h => ?_⟩
  · rcases List.mem_append.mp hx with h | h
    · exact f1 x h
    · exact a.d x (f2 x h)
  · refine b.h x o (a.h x o h hn) fun hx => ?_
    rw [e1] at hx
    rcases List.mem_append.mp hx with h' | h'
    · exact hn h'
    · rw [f1 x h'] at h; cases h
  · rcases b.z' x h with h | h
    · exact a.z' x h
    · exact .inr (a.d x h)
theorem Keep.notin (k : Keep H α Z H' α' Z') {a : Addr} {o : HO} (h : H a = some o) (hn : a ∉ α) : a ∉ α' := by
  obtain ⟨n1, e1, f1⟩ := k.al
  intro hx
  rw [e1] at hx
  rcases List.mem_append.mp hx with h' | h'
  · exact hn h'
  · rw [f1 a h'] at h; cases h
theorem Keep.tup (k : Keep H α Z H' α' Z') (hc : ∀ a ∈ α, ∃ xs, H a = some (.lst xs)) {a : Addr} {xs : List V} (h : H a = some (.tup xs)) : H' a = some (.tup xs) :=
  k.h _ _ h fun hx => by
    obtain ⟨ys, e⟩ := hc a hx
    rw [h] at e; cases e
theorem Keep.sqF (k : Keep H α Z H' α' Z') (hc : ∀ a ∈ α, ∃ xs, H a = some (.lst xs)) {a : Addr} {xs : List V} (h : SqF K H a xs) : SqF K H' a xs := by
  rcases h with ⟨o, h⟩ | h
  · refine .inl ⟨o, k.h _ _ h fun hx => ?_⟩
    obtain ⟨ys, e⟩ := hc a hx
    rw [h] at e; cases e
  · exact .inr h

mutual
/-- a value stays through a step -/
theorem Rep.keep0 (hc : ∀ a ∈ α, ∃ xs, H a = some (.lst xs)) (hz : ∀ a, Z a → a ∉ α) (k : Keep H α Z H' α' Z') : ∀ {v : V} {w : W}, Rep K α Z H v w → Rep K α' Z' H' v w
  | _, _, .non => .non
  | _, _, .bl b => .bl b
  | _, _, .int i => .int i
  | _, _, .str x => .str x
  | _, _, .ty n => .ty n
  | _, _, .tup h r => .tup (k.tup hc h) (RepL.keep0 hc hz k r)
  | _, _, .mu h z s r => .mu (k.h _ _ h (hz _ z)) (k.z _ z) s (RepL.keep0 hc hz k r)
  | _, _, .scr h => .scr (k.sqF hc h)
  | _, _, .cel h => .cel (by
      obtain ⟨n1, e1, _⟩ := k.al
      rw [e1, List.getElem?_append_left (List.getElem?_eq_some_iff.mp h).1]
      exact h)
theorem RepL.keep0 (hc : ∀ a ∈ α, ∃ xs, H a = some (.lst xs)) (hz : ∀ a, Z a → a ∉ α) (k : Keep H α Z H' α' Z') : ∀ {vs : List V} {ws : List W}, RepL K α Z H vs ws → RepL K α' Z' H' vs ws
  | _, _, .nil => .nil
  | _, _, .cons r t => .cons (Rep.keep0 hc hz k r) (RepL.keep0 hc hz k t)
end

theorem Rep.keep (o : WOk K H S α Z) (k : Keep H α Z H' α' Z') (r : Rep K α Z H v w) : Rep K α' Z' H' v w := r.keep0 (fun _ h => o.cell h) o.zα k
theorem RepL.keep (o : WOk K H S α Z) (k : Keep H α Z H' α' Z') (r : RepL K α Z H vs ws) : RepL K α' Z' H' vs ws := r.keep0 (fun _ h => o.cell h) o.zα k
theorem RepM.keep (o : WOk K H S α Z) (k : Keep H α Z H' α' Z') (r : RepM K α Z H m v w) : RepM K α' Z' H' m v w := by
  cases r with
  | im e r => exact .im e (r.keep o k)
  | mu h s r hn h1 h2 =>
    refine .mu (k.h _ _ h hn) s (r.keep o k) (k.notin h hn) (fun e z => ?_) fun e => k.z _ (h2 e)
    rcases k.z' _ z with z | z
    · exact h1 e z
    · rw [h] at z; cases z
theorem Rep.toM (o : WOk K H S α Z) (r : Rep K α Z H v w) : RepM K α Z H .frz v w := by
  by_cases e : w.mut = true
  · cases r with
    | mu h z s r => exact .mu h s r (o.zα _ z) (fun e => by cases e) fun _ => z
    | _ => cases e
  · exact .im (by simpa using e) r
theorem Rep.im (r : Rep K α Z H v w) (e : w.mut = false) : RepM K α Z H m v w := .im e r
theorem RepM.rep (r : RepM K α Z H .frz v w) : Rep K α Z H v w := by
  cases r with
  | im _ r => exact r
  | mu h s r _ _ h2 => exact .mu h (h2 rfl) s r
theorem RepM.repI (r : RepM K α Z H m v w) (e : w.mut = false) : Rep K α Z H v w := by
  cases r with
  | im _ r => exact r
  | mu h s r _ _ h2 => rw [s.mut] at e; cases e
theorem RepM.muE (r : RepM K α Z H m v w) (h : w.mut = true) : ∃ a o xs ws, v = .ref a ∧ H a = some o ∧ Shape o w xs ws ∧ RepL K α Z H xs ws ∧ a ∉ α ∧ (m = .own → ¬ Z a) ∧ (m = .frz → Z a) := by
  cases r with
  | im e _ => rw [h] at e; cases e
  | mu h s r hn h1 h2 => exact ⟨_, _, _, _, rfl, h, s, r, hn, h1, h2⟩
theorem RepM.brw (r : RepM K α Z H m v w) : RepM K α Z H .brw v w := by
  cases r with
  | im e r => exact .im e r
  | mu h s r hn _ _ => exact .mu h s r hn (fun e => by cases e) fun e => by cases e
theorem RepL.length (r : RepL K α Z H vs ws) : vs.length = ws.length := by
  induction ws generalizing vs with
  | nil => cases r; rfl
  | cons w ws ih => cases r with | cons r t => simp [ih t]
theorem RepL.get : ∀ {vs : List V} {ws : List W} {i : Nat} {w : W}, RepL K α Z H vs ws → ws[i]? = some w → ∃ v, vs[i]? = some v ∧ Rep K α Z H v w
  | _, _, _, _, .nil, e => by simp at e
  | _, _, 0, _, .cons r _, e => by simp at e; subst e; exact ⟨_, rfl, r⟩
  | _, _, i + 1, w, .cons _ t, e => by
    obtain ⟨u, h1, h2⟩ := RepL.get (i := i) (w := w) t (by simpa using e)
    exact ⟨u, by simpa using h1, h2⟩
theorem RepL.append : ∀ {vs vs' : List V} {ws ws' : List W}, RepL K α Z H vs ws → RepL K α Z H vs' ws' → RepL K α Z H (vs ++ vs') (ws ++ ws')
  | _, _, _, _, .nil, s => s
  | _, _, _, _, .cons r t, s => .cons r (RepL.append t s)
theorem RepL.take : ∀ {vs : List V} {ws : List W} (n : Nat), RepL K α Z H vs ws → RepL K α Z H (vs.take n) (ws.take n)
  | _, _, 0, _ => .nil
  | _, _, _ + 1, .nil => .nil
  | _, _, n + 1, .cons r t => .cons r (RepL.take n t)
theorem RepL.drop : ∀ {vs : List V} {ws : List W} (n : Nat), RepL K α Z H vs ws → RepL K α Z H (vs.drop n) (ws.drop n)
  | _, _, 0, r => r
  | _, _, _ + 1, .nil => .nil
  | _, _, n + 1, .cons _ t => RepL.drop n t
theorem RepL.set {x : V} {u : W} (r : Rep K α Z H x u) : ∀ {xs : List V} {us : List W} (i : Nat), RepL K α Z H xs us → RepL K α Z H (xs.set i x) (us.set i u)
  | _, _, _, .nil => .nil
  | _, _, 0, .cons _ t => .cons r t
  | _, _, i + 1, .cons q t => .cons q (RepL.set r i t)
theorem Keep.new {p : Addr} {o : HO} (hp : H p = none) : Keep H α Z (upd H p o) α Z :=
  ⟨⟨[], by simp, by simp⟩, fun a u h _ => by rw [upd_ne (ne_of_none h hp)]; exact h, fun a h => by
    by_cases e : a = p
    · rw [e]; exact hp
    · rw [upd_ne e] at h; exact h, fun _ h => h, fun _ h => .inl h⟩
theorem Paired.impM {A B : Type} {F G : A → B → Prop} : ∀ {l₁ : List A} {l₂ : List B}, Paired F l₁ l₂ → (∀ a b, a ∈ l₁ → F a b → G a b) → Paired G l₁ l₂
  | _, _, .nil, _ => .nil
  | _, _, .cons r t, f => .cons (f _ _ List.mem_cons_self r) (Paired.impM t fun a b h => f a b (List.mem_cons_of_mem _ h))
theorem WOk.new {p : Addr} {u : HO} (o : WOk K H S α Z) (hp : H p = none) : WOk K (upd H p u) S α Z := by
  refine ⟨o.nd, Paired.impM o.cells fun a ws _ ⟨xs, h, r⟩ => ⟨xs, ?_, r.keep o (Keep.new hp)⟩, o.zα, fun a z => ?_⟩
  · rw [upd_ne (ne_of_none h hp)]; exact h
  · have := o.zH a z
    by_cases e : a = p
    · rw [e, upd_same]; simp
    · rw [upd_ne e]; exact this
theorem WOk.nZ {p : Addr} (o : WOk K H S α Z) (hp : H p = none) : ¬ Z p := fun z => o.zH p z hp
theorem WOk.nα {p : Addr} (o : WOk K H S α Z) (hp : H p = none) : p ∉ α := fun z => by
  obtain ⟨xs, e⟩ := o.cell z
  rw [hp] at e; cases e

mutual
theorem Rep.put0 {p : Addr} {u : HO} (hc : ∀ xs, H p ≠ some (.tup xs)) (hf : ∀ o t, H p ≠ some (.frz o t)) (nz : ¬ Z p) : ∀ {v : V} {w : W}, Rep K α Z H v w → Rep K α Z (upd H p u) v w
  | _, _, .non => .non
  | _, _, .bl b => .bl b
  | _, _, .int i => .int i
  | _, _, .str x => .str x
  | _, _, .ty n => .ty n
  | _, _, .tup h r => .tup (by rw [upd_ne (by rintro rfl; exact hc _ h)]; exact h) (RepL.put0 hc hf nz r)
  | _, _, .mu h z s r => .mu (by rw [upd_ne (by rintro rfl; exact nz z)]; exact h) z s (RepL.put0 hc hf nz r)
  | _, _, .scr h => .scr (by
      rcases h with ⟨o, h⟩ | h
      · exact .inl ⟨o, by rw [upd_ne (by rintro rfl; exact hf _ _ h)]; exact h⟩
      · exact .inr h)
  | _, _, .cel h => .cel h
theorem RepL.put0 {p : Addr} {u : HO} (hc : ∀ xs, H p ≠ some (.tup xs)) (hf : ∀ o t, H p ≠ some (.frz o t)) (nz : ¬ Z p) : ∀ {vs : List V} {ws : List W}, RepL K α Z H vs ws → RepL K α Z (upd H p u) vs ws
  | _, _, .nil => .nil
  | _, _, .cons r t => .cons (Rep.put0 hc hf nz r) (RepL.put0 hc hf nz t)
end
/-- what may be written at p, nothing else leans on it -/
theorem RepL.put {p : Addr} {o u : HO} {w0 : W} {xs0 : List V} {ws0 : List W} (_ : WOk K H S α Z) (nz : ¬ Z p) (h : H p = some o) (s : Shape o w0 xs0 ws0 := by exact .lst _ []) (r : RepL K α Z H vs ws) : RepL K α Z (upd H p u) vs ws :=
  r.put0 (fun ys e => by rw [h] at e; cases e; exact s.ntup _ rfl) (fun a t e => by rw [h] at e; cases e; cases s) nz
theorem WOk.put {p : Addr} {o u : HO} {w0 : W} {xs0 : List V} {ws0 : List W} (wo : WOk K H S α Z) (nz : ¬ Z p) (nα : p ∉ α) (h : H p = some o) (s : Shape o w0 xs0 ws0 := by exact .lst _ []) : WOk K (upd H p u) S α Z :=
  ⟨wo.nd, Paired.impM wo.cells fun a ws ha ⟨xs, h', r⟩ => ⟨xs, by rw [upd_ne (by rintro rfl; exact nα ha)]; exact h', RepL.put wo nz h s r⟩, wo.zα, fun a z => by
    rw [upd_ne (by rintro rfl; exact nz z)]; exact wo.zH a z⟩

/-! ### the frame's names -/
structure EnvOk (K : PySem.W.Frag) (α : List Addr) (Z : Addr → Prop) (H : Hp) (ρ : Env) (σ : L2.St) : Prop where
  len : ρ.length = σ.length
  slot : ∀ (i : Nat) w m, ρ[i]? = some (some (w, m)) → ∃ v, σ[i]? = some (some v) ∧ RepM K α Z H m v w
  sep : ∀ (i j : Nat) w w' m', i ≠ j → ρ[i]? = some (some (w, Md.own)) → w.mut = true → ρ[j]? = some (some (w', m')) → w'.mut = true → σ[i]? ≠ σ[j]?
theorem EnvOk.keep {ρ : Env} {σ : L2.St} (o : WOk K H S α Z) (k : Keep H α Z H' α' Z') (e : EnvOk K α Z H ρ σ) : EnvOk K α' Z' H' ρ σ :=
  ⟨e.len, fun i w m h => let ⟨v, h1, r⟩ := e.slot i w m h; ⟨v, h1, r.keep o k⟩, e.sep⟩

/-- what came of an expression -/
structure Got (K : PySem.W.Frag) (H0 : Hp) (α : List Addr) (Z : Addr → Prop) (H : Hp) (r : Wm) (v : V) : Prop where
  rep : RepM K α Z H r.2 v r.1
  fr : r.2 = .own → r.1.mut = true → ∀ a, v = .ref a → H0 a = none
theorem Got.keep {r : Wm} {H0 : Hp} (o : WOk K H S α Z) (k : Keep H α Z H' α' Z') (g : Got K H0 α Z H r v) : Got K H0 α' Z' H' r v := ⟨g.rep.keep o k, g.fr⟩
theorem Got.back {r : Wm} {H0 H1 : Hp} (d : ∀ a, H1 a = none → H0 a = none) (g : Got K H1 α Z H r v) : Got K H0 α Z H r v := ⟨g.rep, fun a b c e => d _ (g.fr a b c e)⟩
theorem Got.im {w : W} {m : Md} {H0 : Hp} (r : Rep K α Z H v w) (e : w.mut = false) : Got K H0 α Z H (w, m) v := ⟨.im e r, fun _ h => by rw [e] at h; cases h⟩
end

section
variable {K : PySem.W.Frag} {α : List Addr} {Z : Addr → Prop} {H : Hp} {m : Md} {v : V}
theorem RepM.ofBl {b : Bool} (r : RepM K α Z H m v (.bl b)) : v = .bl b := by
  have r := r.repI rfl
  cases r with
  | bl => rfl
  | mu _ _ s _ => cases s
theorem RepM.ofInt {i : Int} (r : RepM K α Z H m v (.int i)) : v = .int i := by
  have r := r.repI rfl
  cases r with
  | int => rfl
  | mu _ _ s _ => cases s
theorem RepM.ofStr {x : Str} (r : RepM K α Z H m v (.str x)) : v = .str x := by
  have r := r.repI rfl
  cases r with
  | str => rfl
  | mu _ _ s _ => cases s
theorem RepM.ofNon (r : RepM K α Z H m v .non) : v = .non := by
  have r := r.repI rfl
  cases r with
  | non => rfl
  | mu _ _ s _ => cases s
theorem RepM.ofTup {ws : List W} (r : RepM K α Z H m v (.tup ws)) : ∃ a xs, v = .ref a ∧ H a = some (.tup xs) ∧ RepL K α Z H xs ws := by
  have r := r.repI rfl
  cases r with
  | tup h r => exact ⟨_, _, rfl, h, r⟩
  | mu _ _ s _ => cases s
theorem RepM.ofScr {ns : List Int} (r : RepM K α Z H m v (.scr ns)) : ∃ a, v = .ref a ∧ SqL K H a (ns.map V.int) := by
  have r := r.repI rfl
  cases r with
  | scr h => exact ⟨_, rfl, h.sqL⟩
  | mu _ _ s _ => cases s
theorem RepM.ofCel {n : Nat} (r : RepM K α Z H m v (.cel n)) : ∃ a, v = .ref a ∧ α[n]? = some a := by
  have r := r.repI rfl
  cases r with
  | cel h => exact ⟨_, rfl, h⟩
  | mu _ _ s _ => cases s
theorem RepM.ofLst {ws : List W} (r : RepM K α Z H m v (.lst ws)) : ∃ a xs, v = .ref a ∧ H a = some (.lst xs) ∧ RepL K α Z H xs ws ∧ a ∉ α ∧ (m = .own → ¬ Z a) ∧ (m = .frz → Z a) := by
  cases r with
  | im e _ => cases e
  | mu h s r hn h1 h2 => cases s; exact ⟨_, _, rfl, h, r, hn, h1, h2⟩
end

abbrev CE := Env → Store → Option (Wm × Store)
abbrev CT := Env → Store → Option (Bool × Store)
abbrev CA := Env → Store → Option (List Wm × Store)
def semE (K : PySem.W.Frag) (f : CE) : TE := fun σ H Q => ∃ ρ S α Z r S', WOk K H S α Z ∧ EnvOk K α Z H ρ σ ∧ f ρ S = some (r, S') ∧
  ∀ v H' α' Z', Keep H α Z H' α' Z' → WOk K H' S' α' Z' → Got K H α' Z' H' r v → Q v H'
def semT (K : PySem.W.Frag) (f : CT) : TT := fun σ H Q => ∃ ρ S α Z b S', WOk K H S α Z ∧ EnvOk K α Z H ρ σ ∧ f ρ S = some (b, S') ∧
  ∀ H' α' Z', Keep H α Z H' α' Z' → WOk K H' S' α' Z' → Q b H'
def semA (K : PySem.W.Frag) (f : CA) : TA := fun σ H Q => ∃ ρ S α Z rs S', WOk K H S α Z ∧ EnvOk K α Z H ρ σ ∧ f ρ S = some (rs, S') ∧
  ∀ vs H' α' Z', Keep H α Z H' α' Z' → WOk K H' S' α' Z' → Paired (Got K H α' Z' H') rs vs → Q vs H'
abbrev EE (X : Cx) (e : Expr) (f : CE) : Prop := PE X e (semE X.K f)
abbrev ET (X : Cx) (e : Expr) (f : CT) : Prop := PT X e (semT X.K f)
abbrev EA (X : Cx) (es : List Expr) (f : CA) : Prop := PA X es (semA X.K f)
theorem PE.cons {X : Cx} {e : Expr} {t t' : TE} (h : PE X e t) (i : ∀ σ H Q, t' σ H Q → t σ H Q) : PE X e t' := ⟨fun pins s σ H Q I q => h.run pins s σ H Q I (i σ H Q q)⟩
theorem PT.cons {X : Cx} {e : Expr} {t t' : TT} (h : PT X e t) (i : ∀ σ H Q, t' σ H Q → t σ H Q) : PT X e t' := ⟨fun pins s σ H Q I q => h.run pins s σ H Q I (i σ H Q q)⟩
theorem PA.cons {X : Cx} {es : List Expr} {t t' : TA} (h : PA X es t) (i : ∀ σ H Q, t' σ H Q → t σ H Q) : PA X es t' := ⟨fun pos pins s σ H Q I q => h.run pos pins s σ H Q I (i σ H Q q)⟩

/-! ### names and constants -/
def cVar (i : Nat) : CE := fun ρ S => match ρ[i]? with
  | some (some (w, m)) => some ((w, if m = .own then .brw else m), S)
  | _ => none
def cLit (w : W) : CE := fun _ S => some ((w, .frz), S)
section
variable {X : Cx}
theorem e_var (i : Nat) {x : Str} {pos : Pos} (hN : X.N[i]? = some x := by rfl) (hv : Vis X.env.scope x := by first | exact Or.inl rfl | exact Or.inr (Or.inl rfl) | exact Or.inr (Or.inr rfl)) (hd : (x == ("__debug__" : Str)) = false := by decide)
    (hcd : (x == ("__classdict__" : Str)) = false := by decide) : EE X (.Name x pos) (cVar i) := by
  refine PE.cons (pe_var hN hv hd hcd) fun σ H Q ⟨ρ, S, α, Z, r, S', wo, en, h, q⟩ => ?_
  unfold cVar at h
  split at h
  · rename_i w m hr
    obtain ⟨v, h1, r1⟩ := en.slot i w m hr
    cases h
    refine ⟨v, h1, q v H α Z Keep.refl wo ⟨?_, fun e => ?_⟩⟩
    · by_cases e : m = .own
      · simp only [e, if_true]; exact r1.brw
      · simp only [e, if_false]; exact r1
    · by_cases e' : m = .own
      · simp only [e', if_true] at e; cases e
      · simp only [e', if_false] at e
  · cases h
theorem e_c {e : Expr} {v : V} {w : W} (h : PE X e (tC v)) (r : ∀ α Z H, Rep X.K α Z H v w) (hm : w.mut = false) : EE X e (cLit w) := by
  refine PE.cons h fun σ H Q ⟨ρ, S, α, Z, r', S', wo, en, h, q⟩ => ?_
  cases h
  exact q v H α Z Keep.refl wo (Got.im (r α Z H) hm)
theorem e_int {i : Int} {j pos} : EE X (.Constant (.int i) j pos) (cLit (.int i)) := e_c pe_int (fun _ _ _ => .int i) rfl
theorem e_bl {b : Bool} {j pos} : EE X (.Constant (.bool b) j pos) (cLit (.bl b)) := e_c pe_bl (fun _ _ _ => .bl b) rfl
theorem e_non {j pos} : EE X (.Constant .none j pos) (cLit .non) := e_c pe_non (fun _ _ _ => .non) rfl
theorem e_str {x : Str} {j pos} : EE X (.Constant (.str x) j pos) (cLit (.str x)) := e_c pe_str (fun _ _ _ => .str x) rfl
end

section
variable {K : PySem.W.Frag} {α α0 : List Addr} {Z Z' Z0 : Addr → Prop} {H H0 : Hp} {S : Store}
mutual
theorem Rep.mono (hz : ∀ a, Z a → Z' a) : ∀ {v : V} {w : W}, Rep K α Z H v w → Rep K α Z' H v w
  | _, _, .non => .non
  | _, _, .bl b => .bl b
  | _, _, .int i => .int i
  | _, _, .str x => .str x
  | _, _, .ty n => .ty n
  | _, _, .tup h r => .tup h (RepL.mono hz r)
  | _, _, .mu h z s r => .mu h (hz _ z) s (RepL.mono hz r)
  | _, _, .scr h => .scr h
  | _, _, .cel h => .cel h
theorem RepL.mono (hz : ∀ a, Z a → Z' a) : ∀ {vs : List V} {ws : List W}, RepL K α Z H vs ws → RepL K α Z' H vs ws
  | _, _, .nil => .nil
  | _, _, .cons r t => .cons (Rep.mono hz r) (RepL.mono hz t)
end
theorem WOk.mono (o : WOk K H S α Z) (hz : ∀ a, Z a → Z' a) (h1 : ∀ a, Z' a → a ∉ α) (h2 : ∀ a, Z' a → H a ≠ none) : WOk K H S α Z' :=
  ⟨o.nd, Paired.impM o.cells fun _ _ _ ⟨xs, h, r⟩ => ⟨xs, h, r.mono hz⟩, h1, h2⟩
/-- may be kept by another thing -/
def sto (r : Wm) : Bool := !(r.1.mut && (match r.2 with | .brw => true | _ => false))
theorem freeze_all {rs : List Wm} {vs : List V} (wo : WOk K H S α Z) (k : Keep H0 α0 Z0 H α Z) (g : Paired (Got K H0 α Z H) rs vs) (s : rs.all sto = true) :
    ∃ Z', (∀ a, Z a → Z' a) ∧ Keep H0 α0 Z0 H α Z' ∧ WOk K H S α Z' ∧ RepL K α Z' H vs (rs.map (·.1)) := by
  refine ⟨fun a => Z a ∨ (H0 a = none ∧ a ∉ α ∧ V.ref a ∈ vs ∧ H a ≠ none), fun a h => .inl h, ⟨k.al, k.h, k.d, fun a h => .inl (k.z a h), fun a h => ?_⟩, wo.mono (fun a h => .inl h) (fun a h => ?_) (fun a h => ?_), ?_⟩
  · rcases h with h | h
    · exact k.z' a h
    · exact .inr h.1
  · rcases h with h | h
    · exact wo.zα a h
    · exact h.2.1
  · rcases h with h | h
    · exact wo.zH a h
    · exact h.2.2.2
  · have go : ∀ {rs0 : List Wm} {vs0 : List V}, Paired (Got K H0 α Z H) rs0 vs0 → rs0.all sto = true → (∀ v ∈ vs0, v ∈ vs) →
        RepL K α (fun a => Z a ∨ (H0 a = none ∧ a ∉ α ∧ V.ref a ∈ vs ∧ H a ≠ none)) H vs0 (rs0.map (·.1)) := by
      intro rs0 vs0 p
      induction p with
      | nil => intro _ _; exact .nil
      | @cons r v rs1 vs1 gr gt ih =>
        intro hs hm
        rw [List.all_cons, Bool.and_eq_true] at hs
        refine .cons ?_ (ih hs.2 fun v hv => hm v (List.mem_cons_of_mem _ hv))
        obtain ⟨w, m⟩ := r
        obtain ⟨rep, fr⟩ := gr
        cases rep with
        | im _ r => exact r.mono fun a h => .inl h
        | mu h sh r hn h1 h2 =>
          refine .mu h ?_ sh (r.mono fun a h => .inl h)
          cases m with
          | own => exact .inr ⟨fr rfl sh.mut _ rfl, hn, hm _ List.mem_cons_self, by rw [h]; simp⟩
          | frz => exact .inl (h2 rfl)
          | brw =>
            have := hs.1
            unfold sto at this
            have e := sh.mut
            simp only [e] at this
            cases this
    exact go g s fun _ h => h
end

/-! ### in a row -/
def bnd {A B : Type} (x : Option (A × Store)) (k : A → Store → Option B) : Option B := match x with
  | some (a, S) => k a S
  | none => none
@[simp] theorem bnd_some {A B : Type} (a : A) (S : Store) (k : A → Store → Option B) : bnd (some (a, S)) k = k a S := rfl
@[simp] theorem bnd_none {A B : Type} (k : A → Store → Option B) : bnd (none : Option (A × Store)) k = none := rfl
theorem of_bnd {A B : Type} {x : Option (A × Store)} {k : A → Store → Option B} {b : B} (h : bnd x k = some b) : ∃ a S, x = some (a, S) ∧ k a S = some b := by
  cases x with
  | none => cases h
  | some p => exact ⟨p.1, p.2, rfl, h⟩
def cNil : CA := fun _ S => some ([], S)
def cCons (f : CE) (g : CA) : CA := fun ρ S => bnd (f ρ S) fun r S => bnd (g ρ S) fun rs S => some (r :: rs, S)
section
variable {X : Cx} {e a b : Expr} {es : List Expr} {fa fb : CE} {f g : CA} {pos : Pos}
theorem a_nil : EA X [] cNil := by
  refine PA.cons pa_nil fun σ H Q ⟨ρ, S, α, Z, r', S', wo, en, h, q⟩ => ?_
  cases h
  exact q [] H α Z Keep.refl wo .nil
theorem a_cons (ha : EE X e fa) (hr : EA X es g) (hs : starEach (e :: es) X.env = (false, eval e X.env) :: starEach es X.env := by rfl) : EA X (e :: es) (cCons fa g) := by
  refine PA.cons (pa_cons ha hr hs) fun σ H Q ⟨ρ, S, α, Z, r', S', wo, en, h, q⟩ => ?_
  obtain ⟨r, S1, h1, h⟩ := of_bnd h
  obtain ⟨rs, S2, h2, h⟩ := of_bnd h
  cases h
  exact ⟨ρ, S, α, Z, r, S1, wo, en, h1, fun v1 H1 α1 Z1 k1 w1 g1 => ⟨ρ, S1, α1, Z1, rs, _, w1, en.keep wo k1, h2, fun vs H2 α2 Z2 k2 w2 g2 =>
    q (v1 :: vs) H2 α2 Z2 (k1.trans k2) w2 (.cons (g1.keep w1 k2) (Paired.impM g2 fun _ _ _ g => g.back k1.d))⟩⟩

/-! ### displays -/
def cTup (f : CA) : CE := fun ρ S => bnd (f ρ S) fun rs S => if rs.all sto = true ∧ rs.length ≤ sizeLine then some ((.tup (rs.map (·.1)), .own), S) else none
def cLst (f : CA) : CE := fun ρ S => bnd (f ρ S) fun rs S => if rs.all sto = true ∧ rs.length ≤ sizeLine then some ((.lst (rs.map (·.1)), .own), S) else none
/-- a list that many names may write -/
def cBox (f : CA) : CE := fun ρ S => bnd (f ρ S) fun rs S => if rs.all sto = true ∧ rs.length ≤ sizeLine then some ((.cel S.length, .own), S ++ [rs.map (·.1)]) else none
theorem Paired.len {A B : Type} {F : A → B → Prop} {l₁ : List A} {l₂ : List B} (p : Paired F l₁ l₂) : l₁.length = l₂.length := Paired.length p
theorem e_tup {x1} (h : EA X es f) : EE X (.Tuple es x1 pos) (cTup f) := by
  refine PE.cons (pe_tup h) fun σ H Q ⟨ρ, S, α, Z, r', S', wo, en, h, q⟩ => ?_
  obtain ⟨rs, S1, h1, h⟩ := of_bnd h
  split at h
  · rename_i hs
    cases h
    refine ⟨ρ, S, α, Z, rs, _, wo, en, h1, fun vs H1 α1 Z1 k1 w1 g1 => ⟨by rw [← Paired.len g1]; exact hs.2, fun p hp => ?_⟩⟩
    obtain ⟨Z2, _, k2, w2, r2⟩ := freeze_all w1 k1 g1 hs.1
    have k3 : Keep H1 α1 Z2 (upd H1 p (.tup vs)) α1 Z2 := Keep.new hp
    exact q _ _ _ _ (k2.trans k3) (w2.new hp) (Got.im (.tup upd_same (r2.keep w2 k3)) rfl)
  · cases h
theorem e_lst (h : EA X es f) : EE X (.List es pos) (cLst f) := by
  refine PE.cons (pe_lst h) fun σ H Q ⟨ρ, S, α, Z, r', S', wo, en, h, q⟩ => ?_
  obtain ⟨rs, S1, h1, h⟩ := of_bnd h
  split at h
  · rename_i hs
    cases h
    refine ⟨ρ, S, α, Z, rs, _, wo, en, h1, fun vs H1 α1 Z1 k1 w1 g1 => ⟨by rw [← Paired.len g1]; exact hs.2, fun p hp => ?_⟩⟩
    obtain ⟨Z2, _, k2, w2, r2⟩ := freeze_all w1 k1 g1 hs.1
    have k3 : Keep H1 α1 Z2 (upd H1 p (.lst vs)) α1 Z2 := Keep.new hp
    refine q _ _ _ _ (k2.trans k3) (w2.new hp) ⟨.mu upd_same (.lst _ _) (r2.keep w2 k3) (w2.nα hp) (fun _ => w2.nZ hp) (fun e => by cases e), fun _ _ a e => ?_⟩
    cases e
    exact k1.d _ hp
  · cases h
theorem WOk.box {K : PySem.W.Frag} {α : List Addr} {Z : Addr → Prop} {H : Hp} {S : Store} {p : Addr} {vs : List V} {ws : List W} (o : WOk K H S α Z) (hp : H p = none) (r : RepL K α Z H vs ws) :
    WOk K (upd H p (.lst vs)) (S ++ [ws]) (α ++ [p]) Z ∧ Keep H α Z (upd H p (.lst vs)) (α ++ [p]) Z := by
  have k : Keep H α Z (upd H p (.lst vs)) (α ++ [p]) Z := ⟨⟨[p], rfl, fun a ha => by
    have e : a = p := by simpa using ha
    rw [e]; exact hp⟩, (Keep.new (Z := Z) hp).h, (Keep.new (α := α) (Z := Z) hp).d, fun _ h => h, fun _ h => .inl h⟩
  refine ⟨⟨?_, ?_, fun a z => ?_, (o.new hp).zH⟩, k⟩
  · rw [List.nodup_append]
    refine ⟨o.nd, by simp, fun a ha b hb e => ?_⟩
    have e' : b = p := by simpa using hb
    rw [e, e'] at ha
    exact o.nα hp ha
  · have go : ∀ {l₁ : List Addr} {l₂ : Store} {F : Addr → List W → Prop} {x : Addr} {y : List W}, Paired F l₁ l₂ → F x y → Paired F (l₁ ++ [x]) (l₂ ++ [y]) := by
      intro l₁ l₂ F x y pr f
      induction pr with
      | nil => exact .cons f .nil
      | cons r t ih => exact .cons r ih
    refine go (Paired.impM o.cells fun a ws _ ⟨xs, h, r⟩ => ⟨xs, ?_, r.keep o k⟩) ⟨vs, upd_same, r.keep o k⟩
    rw [upd_ne (ne_of_none h hp)]; exact h
  · intro ha
    rcases List.mem_append.mp ha with h | h
    · exact o.zα a z h
    · have e : a = p := by simpa using h
      rw [e] at z
      exact o.zH p z hp
theorem WOk.len {K : PySem.W.Frag} {α : List Addr} {Z : Addr → Prop} {H : Hp} {S : Store} (o : WOk K H S α Z) : α.length = S.length := Paired.length o.cells
theorem e_box (h : EA X es f) : EE X (.List es pos) (cBox f) := by
  refine PE.cons (pe_lst h) fun σ H Q ⟨ρ, S, α, Z, r', S', wo, en, h, q⟩ => ?_
  obtain ⟨rs, S1, h1, h⟩ := of_bnd h
  split at h
  · rename_i hs
    cases h
    refine ⟨ρ, S, α, Z, rs, _, wo, en, h1, fun vs H1 α1 Z1 k1 w1 g1 => ⟨by rw [← Paired.len g1]; exact hs.2, fun p hp => ?_⟩⟩
    obtain ⟨Z2, _, k2, w2, r2⟩ := freeze_all w1 k1 g1 hs.1
    obtain ⟨w3, k3⟩ := w2.box hp r2
    refine q _ _ _ _ (k2.trans k3) w3 (Got.im (.cel ?_) rfl)
    rw [← w2.len, List.getElem?_append_right (Nat.le_refl _), Nat.sub_self]; rfl
  · cases h

/-! ### operators -/
def OS (K : PySem.W.Frag) (r : R2) (g : W → W → Option W) : Prop := ∀ {α : List Addr} {Z : Addr → Prop} {H : Hp} {S : Store} {x y : V} {a b c : W} {m1 m2 : Md}, WOk K H S α Z → RepM K α Z H m1 x a → RepM K α Z H m2 y b → g a b = some c →
  ∀ Q : VK, (∀ v H', Keep H α Z H' α Z → WOk K H' S α Z → Got K H α Z H' (c, .own) v → Q v H') → r x y H Q
def cBin (g : W → W → Option W) (fa fb : CE) : CE := fun ρ S => bnd (fa ρ S) fun a S => bnd (fb ρ S) fun b S => (g a.1 b.1).map fun c => ((c, .own), S)
theorem bin_ok {r : R2} {g : W → W → Option W} (hs : OS X.K r g) {σ : L2.St} {H : Hp} {Q : VK} (h : semE X.K (cBin g fa fb) σ H Q) : tOp r (semE X.K fa) (semE X.K fb) σ H Q := by
  obtain ⟨ρ, S, α, Z, r', S', wo, en, h, q⟩ := h
  obtain ⟨ra, S1, h1, h⟩ := of_bnd h
  obtain ⟨rb, S2, h2, h⟩ := of_bnd h
  cases hc : g ra.1 rb.1 with
  | none => rw [hc] at h; cases h
  | some c =>
    rw [hc] at h
    cases h
    exact ⟨ρ, S, α, Z, ra, S1, wo, en, h1, fun v1 H1 α1 Z1 k1 w1 g1 => ⟨ρ, S1, α1, Z1, rb, _, w1, en.keep wo k1, h2, fun v2 H2 α2 Z2 k2 w2 g2 =>
      hs w2 (g1.rep.keep w1 k2) g2.rep hc _ fun v H3 k3 w3 g3 => q v H3 α2 Z2 ((k1.trans k2).trans k3) w3 (g3.back (k1.trans k2).d)⟩⟩
theorem e_op {op : Operator} {r : R2} {g : W → W → Option W} (ho : OpR X (binaryOp op) r) (hs : OS X.K r g) (ha : EE X a fa) (hb : EE X b fb) : EE X (.BinOp a op b pos) (cBin g fa fb) :=
  PE.cons (pe_op ho ha hb) fun _ _ _ h => bin_ok hs h
theorem e_cmp {op : CmpOp} {r : R2} {g : W → W → Option W} (ho : OpR X (compareOp op) r) (hs : OS X.K r g) (ha : EE X a fa) (hb : EE X b fb) (hm : behindInMarks op b = false := by rfl) : EE X (.Compare a [op] [b] pos) (cBin g fa fb) :=
  PE.cons (pe_cmpR ho ha hb hm) fun _ _ _ h => bin_ok hs h
/-- an expression that gives a bool, as a test -/
def cB (f : CE) : CT := fun ρ S => bnd (f ρ S) fun r S => match r.1 with | .bl b => some (b, S) | _ => none
theorem test_ok {f : CE} {σ : L2.St} {H : Hp} {Q : Bool → Hp → Prop} {K : PySem.W.Frag} (h : semT K (cB f) σ H Q) : semE K f σ H fun x H1 => ∃ c, x = .bl c ∧ Q c H1 := by
  obtain ⟨ρ, S, α, Z, r', S', wo, en, h, q⟩ := h
  obtain ⟨r, S1, h1, h⟩ := of_bnd h
  obtain ⟨w, m⟩ := r
  cases w with
  | bl c =>
    cases h
    refine ⟨ρ, S, α, Z, _, _, wo, en, h1, fun v H' α' Z' k w g => ⟨_, ?_, q H' α' Z' k w⟩⟩
    exact g.rep.ofBl
  | _ => cases h
theorem t_cmp {op : CmpOp} {r : R2} {g : W → W → Option W} (ho : OpR X (compareOp op) r) (hs : OS X.K r g) (ha : EE X a fa) (hb : EE X b fb) (hm : behindInMarks op b = false := by rfl) : ET X (.Compare a [op] [b] pos) (cB (cBin g fa fb)) :=
  PT.cons (pt_cmpR ho ha hb hm) fun _ _ _ h => bin_ok hs (test_ok h)
theorem t_val {f : CE} (h : EE X e f) (he : ∀ whole, isTrue e X.env whole = (do let v ← whole; standAt e.pos; holding [v] (truthy v)) := by intro _; rfl) : ET X e (cB f) :=
  PT.cons (pt_val h he) fun _ _ _ h => test_ok h
end

/-! ### the operators by values -/
section
variable {K : PySem.W.Frag}
def gAdd : W → W → Option W
  | .int i, .int j => some (.int (i + j))
  | .str i, .str j => if i.length + j.length ≤ sizeLine then some (.str (i ++ j)) else none
  | .tup a, .tup b => if a.length + b.length ≤ sizeLine then some (.tup (a ++ b)) else none
  | .lst a, .lst b => if a.length + b.length ≤ sizeLine then some (.lst (a ++ b)) else none
  | _, _ => none
def rAddW (K : PySem.W.Frag) : R2 := fun x y H Q => (rI0 (fun i j => .int (i + j))) x y H Q ∨ (∃ i j, x = .str i ∧ y = .str j ∧ i.length + j.length ≤ sizeLine ∧ Q (.str (i ++ j)) H) ∨ rCatA K x y H Q ∨ rCat x y H Q
theorem op_addW {X : Cx} : OpR X (binaryOp .Add) (rAddW X.K) := op_add.or (op_add_str.or (op_catA.or op_cat))
theorem os_add : OS K (rAddW K) gAdd := by
  intro α Z H S x y a b c m1 m2 wo ra rb hg Q q
  unfold gAdd at hg
  split at hg
  · cases hg
    rw [ra.ofInt, rb.ofInt]
    exact .inl ⟨_, _, rfl, rfl, q _ _ Keep.refl wo (Got.im (.int _) rfl)⟩
  · split at hg
    · rename_i hl
      cases hg
      rw [ra.ofStr, rb.ofStr]
      exact .inr (.inl ⟨_, _, rfl, rfl, hl, q _ _ Keep.refl wo (Got.im (.str _) rfl)⟩)
    · cases hg
  · split at hg
    · rename_i hl
      cases hg
      obtain ⟨p, xs, rfl, hp, rp⟩ := ra.ofTup
      obtain ⟨p', ys, rfl, hp', rp'⟩ := rb.ofTup
      refine .inr (.inr (.inl ⟨p, p', xs, ys, rfl, rfl, .of hp, .of hp', by rw [rp.length, rp'.length]; exact hl, fun e => ?_, fun _ e => ?_, fun _ _ t ht => ?_⟩))
      · subst e
        cases rp
        exact q _ _ Keep.refl wo (Got.im (.tup hp' rp') rfl)
      · subst e
        cases rp'
        rw [List.append_nil] at q
        exact q _ _ Keep.refl wo (Got.im (.tup hp rp) rfl)
      · have k : Keep H α Z (upd H t (.tup (xs ++ ys))) α Z := Keep.new ht
        exact q _ _ k (wo.new ht) (Got.im (.tup upd_same ((rp.append rp').keep wo k)) rfl)
    · cases hg
  · split at hg
    · rename_i hl
      cases hg
      obtain ⟨p, xs, rfl, hp, rp, _⟩ := ra.ofLst
      obtain ⟨p', ys, rfl, hp', rp', _⟩ := rb.ofLst
      refine .inr (.inr (.inr ⟨p, p', xs, ys, rfl, rfl, hp, hp', by rw [rp.length, rp'.length]; exact hl, fun t ht => ?_⟩))
      have k : Keep H α Z (upd H t (.lst (xs ++ ys))) α Z := Keep.new ht
      refine q _ _ k (wo.new ht) ⟨.mu upd_same (.lst _ _) ((rp.append rp').keep wo k) (wo.nα ht) (fun _ => wo.nZ ht) (fun e => by cases e), fun _ _ a e => ?_⟩
      cases e
      exact ht
    · cases hg
  · cases hg
theorem os_int {C : Int → Int → Prop} [∀ i j, Decidable (C i j)] {f : Int → Int → Int} : OS K (rI C fun i j => .int (f i j)) (fun a b => match a, b with | .int i, .int j => if C i j then some (.int (f i j)) else none | _, _ => none) := by
  intro α Z H S x y a b c m1 m2 wo ra rb hg Q q
  dsimp only at hg
  split at hg
  · split at hg
    · rename_i hC
      cases hg
      rw [ra.ofInt, rb.ofInt]
      exact ⟨_, _, rfl, rfl, hC, q _ _ Keep.refl wo (Got.im (.int _) rfl)⟩
    · cases hg
  · cases hg
theorem os_int0 {f : Int → Int → Int} : OS K (rI0 fun i j => .int (f i j)) (fun a b => match a, b with | .int i, .int j => some (.int (f i j)) | _, _ => none) := by
  intro α Z H S x y a b c m1 m2 wo ra rb hg Q q
  dsimp only at hg
  split at hg
  · cases hg
    rw [ra.ofInt, rb.ofInt]
    exact ⟨_, _, rfl, rfl, q _ _ Keep.refl wo (Got.im (.int _) rfl)⟩
  · cases hg
theorem os_cmp {p : Int → Int → Bool} : OS K (rI0 fun i j => .bl (p i j)) (fun a b => match a, b with | .int i, .int j => some (.bl (p i j)) | _, _ => none) := by
  intro α Z H S x y a b c m1 m2 wo ra rb hg Q q
  dsimp only at hg
  split at hg
  · cases hg
    rw [ra.ofInt, rb.ofInt]
    exact ⟨_, _, rfl, rfl, q _ _ Keep.refl wo (Got.im (.bl _) rfl)⟩
  · cases hg
def gSub : W → W → Option W := fun a b => match a, b with | .int i, .int j => some (.int (i - j)) | _, _ => none
def gMul : W → W → Option W := fun a b => match a, b with | .int i, .int j => if ((-(2 ^ 64) < i ∧ i < 2 ^ 64) ∨ (-(2 ^ 64) < j ∧ j < 2 ^ 64)) then some (.int (i * j)) else none | _, _ => none
def gDiv : W → W → Option W := fun a b => match a, b with | .int i, .int j => if (j ≠ 0 ∧ j.natAbs < 1073741824) then some (.int (i.fdiv j)) else none | _, _ => none
def gMod : W → W → Option W := fun a b => match a, b with | .int i, .int j => if j ≠ 0 then some (.int (i.fmod j)) else none | _, _ => none
def gPow : W → W → Option W := fun a b => match a, b with | .int i, .int j => if (0 ≤ j ∧ j ≤ 1000000 ∧ i.natAbs < 2 ^ 64) then some (.int (i ^ j.toNat)) else none | _, _ => none
def gLt : W → W → Option W := fun a b => match a, b with | .int i, .int j => some (.bl (decide (i < j))) | _, _ => none
def gLe : W → W → Option W := fun a b => match a, b with | .int i, .int j => some (.bl (decide (i ≤ j))) | _, _ => none
def gGt : W → W → Option W := fun a b => match a, b with | .int i, .int j => some (.bl (decide (j < i))) | _, _ => none
def gGe : W → W → Option W := fun a b => match a, b with | .int i, .int j => some (.bl (decide (j ≤ i))) | _, _ => none
variable {X : Cx} {a b : Expr} {fa fb : CE} {pos : Pos}
theorem e_add (ha : EE X a fa) (hb : EE X b fb) : EE X (.BinOp a .Add b pos) (cBin gAdd fa fb) := e_op op_addW os_add ha hb
theorem e_sub (ha : EE X a fa) (hb : EE X b fb) : EE X (.BinOp a .Sub b pos) (cBin gSub fa fb) := e_op op_sub os_int0 ha hb
theorem e_mul (ha : EE X a fa) (hb : EE X b fb) : EE X (.BinOp a .Mult b pos) (cBin gMul fa fb) := e_op op_mul (os_int (C := fun i j => (-(2 ^ 64) < i ∧ i < 2 ^ 64) ∨ (-(2 ^ 64) < j ∧ j < 2 ^ 64))) ha hb
theorem e_div (ha : EE X a fa) (hb : EE X b fb) : EE X (.BinOp a .FloorDiv b pos) (cBin gDiv fa fb) := e_op op_fdivN (os_int (C := fun _ j => j ≠ 0 ∧ j.natAbs < 1073741824)) ha hb
theorem e_mod (ha : EE X a fa) (hb : EE X b fb) : EE X (.BinOp a .Mod b pos) (cBin gMod fa fb) := e_op op_modN (os_int (C := fun _ j => j ≠ 0)) ha hb
theorem e_pow (ha : EE X a fa) (hb : EE X b fb) : EE X (.BinOp a .Pow b pos) (cBin gPow fa fb) := e_op op_pow (os_int (C := fun i j => 0 ≤ j ∧ j ≤ 1000000 ∧ i.natAbs < 2 ^ 64)) ha hb
theorem e_lt (ha : EE X a fa) (hb : EE X b fb) : EE X (.Compare a [.Lt] [b] pos) (cBin gLt fa fb) := e_cmp op_lt os_cmp ha hb (nomark _)
theorem e_le (ha : EE X a fa) (hb : EE X b fb) : EE X (.Compare a [.LtE] [b] pos) (cBin gLe fa fb) := e_cmp op_le os_cmp ha hb (nomark _)
theorem e_gt (ha : EE X a fa) (hb : EE X b fb) : EE X (.Compare a [.Gt] [b] pos) (cBin gGt fa fb) := e_cmp op_gt os_cmp ha hb (nomark _)
theorem e_ge (ha : EE X a fa) (hb : EE X b fb) : EE X (.Compare a [.GtE] [b] pos) (cBin gGe fa fb) := e_cmp op_ge os_cmp ha hb (nomark _)
theorem t_lt (ha : EE X a fa) (hb : EE X b fb) : ET X (.Compare a [.Lt] [b] pos) (cB (cBin gLt fa fb)) := t_cmp op_lt os_cmp ha hb (nomark _)
theorem t_le (ha : EE X a fa) (hb : EE X b fb) : ET X (.Compare a [.LtE] [b] pos) (cB (cBin gLe fa fb)) := t_cmp op_le os_cmp ha hb (nomark _)
theorem t_gt (ha : EE X a fa) (hb : EE X b fb) : ET X (.Compare a [.Gt] [b] pos) (cB (cBin gGt fa fb)) := t_cmp op_gt os_cmp ha hb (nomark _)
theorem t_ge (ha : EE X a fa) (hb : EE X b fb) : ET X (.Compare a [.GtE] [b] pos) (cB (cBin gGe fa fb)) := t_cmp op_ge os_cmp ha hb (nomark _)

/-! ### == and != -/
mutual
/-- as data to be compared: none, bools, ints, texts, lists, tuples -/
def toD : W → Option PyData
  | .non => some .none
  | .bl b => some (.bool b)
  | .int i => some (.int i)
  | .str x => some (.str x)
  | .tup ws => (toDs ws).map .tuple
  | .lst ws => (toDs ws).map .list
  | _ => none
def toDs : List W → Option (List PyData)
  | [] => some []
  | w :: ws => match toD w, toDs ws with
    | some d, some ds => some (d :: ds)
    | _, _ => none
end
def gEq (neg : Bool) : W → W → Option W := fun a b => match toD a, toD b with
  | some d, some e => if SeqAt.shaped d = true ∧ SeqAt.shaped e = true then some (.bl (neg != PyData.eqv d e)) else none
  | _, _ => none
mutual
theorem Rep.dp {α : List Addr} {Z : Addr → Prop} {H : Hp} : ∀ {w : W} {v : V} {d : PyData}, Rep K α Z H v w → toD w = some d → Dp K H v d
  | .non, _, _, r, e => by
    cases e
    rw [(r.im (m := .frz) rfl).ofNon]; exact .non
  | .bl b, _, _, r, e => by
    cases e
    rw [(r.im (m := .frz) rfl).ofBl]; exact .bl b
  | .int i, _, _, r, e => by
    cases e
    rw [(r.im (m := .frz) rfl).ofInt]; exact .int i
  | .str x, _, _, r, e => by
    cases e
    rw [(r.im (m := .frz) rfl).ofStr]; exact .str x
  | .tup ws, _, _, r, e => by
    obtain ⟨a, xs, rfl, h, rl⟩ := (r.im (m := .frz) rfl).ofTup
    unfold toD at e
    obtain ⟨ds, e1, e2⟩ := Option.map_eq_some_iff.mp e
    subst e2
    exact .tup (.of h) (RepL.dp rl e1)
  | .lst ws, _, _, r, e => by
    cases r with
    | mu h z s rl =>
      cases s
      unfold toD at e
      obtain ⟨ds, e1, e2⟩ := Option.map_eq_some_iff.mp e
      subst e2
      exact .lst (.inl (.inl h)) (RepL.dp rl e1)
  | .dk _, _, _, _, e => by cases e
  | .dt _, _, _, _, e => by cases e
  | .scr _, _, _, _, e => by cases e
  | .cel _, _, _, _, e => by cases e
  | .ty _, _, _, _, e => by cases e
theorem RepL.dp {α : List Addr} {Z : Addr → Prop} {H : Hp} : ∀ {ws : List W} {vs : List V} {ds : List PyData}, RepL K α Z H vs ws → toDs ws = some ds → DpAll K H vs ds
  | [], _, _, r, e => by
    cases e; cases r; exact .nil
  | w :: ws, _, _, r, e => by
    unfold toDs at e
    split at e
    · rename_i d ds h1 h2
      cases e
      cases r with
      | cons r t => exact .cons (Rep.dp r h1) (RepL.dp t h2)
    · cases e
end
theorem RepM.dp {α : List Addr} {Z : Addr → Prop} {H : Hp} {m : Md} {w : W} {v : V} {d : PyData} (r : RepM K α Z H m v w) (e : toD w = some d) : Dp K H v d := by
  cases r with
  | im _ r => exact r.dp e
  | mu h s r _ _ _ =>
    cases s with
    | lst =>
      unfold toD at e
      obtain ⟨ds, e1, e2⟩ := Option.map_eq_some_iff.mp e
      subst e2
      exact .lst (.inl (.inl h)) (r.dp e1)
    | dk _ => cases e
    | dt _ => cases e
theorem os_eq : OS K (rEqD K) (gEq false) := by
  intro α Z H S x y a b c m1 m2 wo ra rb hg Q q
  unfold gEq at hg
  split at hg
  · rename_i d e h1 h2
    split at hg
    · rename_i hs
      cases hg
      refine ⟨d, e, ra.dp h1, rb.dp h2, hs.1, hs.2, ?_⟩
      have := q (.bl (PyData.eqv d e)) H Keep.refl wo (Got.im (by rw [Bool.false_bne]; exact .bl _) rfl)
      exact this
    · cases hg
  · cases hg
theorem os_ne : OS K (rNeD K) (gEq true) := by
  intro α Z H S x y a b c m1 m2 wo ra rb hg Q q
  unfold gEq at hg
  split at hg
  · rename_i d e h1 h2
    split at hg
    · rename_i hs
      cases hg
      refine ⟨d, e, ra.dp h1, rb.dp h2, hs.1, hs.2, ?_⟩
      have := q (.bl (!PyData.eqv d e)) H Keep.refl wo (Got.im (by rw [Bool.true_bne]; exact .bl _) rfl)
      exact this
    · cases hg
  · cases hg
theorem e_eq {k : Nat} (hr : Room k X.A) (ha : EE X a fa) (hb : EE X b fb) : EE X (.Compare a [.Eq] [b] pos) (cBin (gEq false) fa fb) := e_cmp (op_eqD hr.units) os_eq ha hb (nomark _)
theorem e_ne {k : Nat} (hr : Room k X.A) (ha : EE X a fa) (hb : EE X b fb) : EE X (.Compare a [.NotEq] [b] pos) (cBin (gEq true) fa fb) := e_cmp (op_neD hr.units) os_ne ha hb (nomark _)
theorem t_eq {k : Nat} (hr : Room k X.A) (ha : EE X a fa) (hb : EE X b fb) : ET X (.Compare a [.Eq] [b] pos) (cB (cBin (gEq false) fa fb)) := t_cmp (op_eqD hr.units) os_eq ha hb (nomark _)
theorem t_ne {k : Nat} (hr : Room k X.A) (ha : EE X a fa) (hb : EE X b fb) : ET X (.Compare a [.NotEq] [b] pos) (cB (cBin (gEq true) fa fb)) := t_cmp (op_neD hr.units) os_ne ha hb (nomark _)

/-! ### -x, not, and, or, if else -/
def cNeg (f : CE) : CE := fun ρ S => bnd (f ρ S) fun r S => match r.1 with | .int i => some ((.int (-i), .own), S) | _ => none
theorem e_neg (ha : EE X a fa) : EE X (.UnaryOp .USub a pos) (cNeg fa) := by
  refine PE.cons (pe_un un_neg ha) fun σ H Q ⟨ρ, S, α, Z, r', S', wo, en, h, q⟩ => ?_
  obtain ⟨r, S1, h1, h⟩ := of_bnd h
  obtain ⟨w, m⟩ := r
  cases w with
  | int i =>
    cases h
    exact ⟨ρ, S, α, Z, _, _, wo, en, h1, fun v H' α' Z' k w g => ⟨i, g.rep.ofInt, q _ H' α' Z' k w (Got.im (.int _) rfl)⟩⟩
  | _ => cases h
def tvT (f : CT) : CE := fun ρ S => bnd (f ρ S) fun b S => some ((.bl b, .own), S)
def cNotT (f : CT) : CT := fun ρ S => bnd (f ρ S) fun b S => some (!b, S)
def cAndT (f g : CT) : CT := fun ρ S => bnd (f ρ S) fun b S => if b = true then g ρ S else some (false, S)
def cOrT (f g : CT) : CT := fun ρ S => bnd (f ρ S) fun b S => if b = true then some (true, S) else g ρ S
theorem t_not {f : CT} (h : ET X a f) : ET X (.UnaryOp .Not a pos) (cNotT f) := by
  refine PT.cons (pt_not h) fun σ H Q ⟨ρ, S, α, Z, r', S', wo, en, h, q⟩ => ?_
  obtain ⟨r, S1, h1, h⟩ := of_bnd h
  cases h
  exact ⟨ρ, S, α, Z, _, _, wo, en, h1, fun H' α' Z' k w => q H' α' Z' k w⟩
abbrev EW (X : Cx) (e : Expr) (f : CT) : Prop := PW X e (semT X.K f)
theorem PW.cons {X : Cx} {e : Expr} {t t' : TT} (h : PW X e t) (i : ∀ σ H Q, t' σ H Q → t σ H Q) : PW X e t' := ⟨fun wh pins s σ H Q I q => h.run wh pins s σ H Q I (i σ H Q q)⟩
theorem w_and1 {f : CT} (h : ET X a f) : EW X (.BoolOp .And [a] pos) f := pw_and1 h
theorem w_or1 {f : CT} (h : ET X a f) : EW X (.BoolOp .Or [a] pos) f := pw_or1 h
theorem w_and {f g : CT} {rest : List Expr} (h : ET X a f) (h2 : EW X (.BoolOp .And (b :: rest) pos) g) : EW X (.BoolOp .And (a :: b :: rest) pos) (cAndT f g) := by
  refine PW.cons (pw_and h h2) fun σ H Q ⟨ρ, S, α, Z, r', S', wo, en, h, q⟩ => ?_
  obtain ⟨r, S1, h1, h⟩ := of_bnd h
  refine ⟨ρ, S, α, Z, r, S1, wo, en, h1, fun H' α' Z' k w => ?_⟩
  cases r with
  | true =>
    rw [if_pos rfl] at h
    refine iteT ?_
    exact ⟨ρ, S1, α', Z', r', S', w, en.keep wo k, h, fun H2 α2 Z2 k2 w2 => q H2 α2 Z2 (k.trans k2) w2⟩
  | false =>
    rw [if_neg Bool.false_ne_true] at h
    refine iteF ?_
    cases h
    exact q H' α' Z' k w
theorem w_or {f g : CT} {rest : List Expr} (h : ET X a f) (h2 : EW X (.BoolOp .Or (b :: rest) pos) g) : EW X (.BoolOp .Or (a :: b :: rest) pos) (cOrT f g) := by
  refine PW.cons (pw_or h h2) fun σ H Q ⟨ρ, S, α, Z, r', S', wo, en, h, q⟩ => ?_
  obtain ⟨r, S1, h1, h⟩ := of_bnd h
  refine ⟨ρ, S, α, Z, r, S1, wo, en, h1, fun H' α' Z' k w => ?_⟩
  cases r with
  | true =>
    rw [if_pos rfl] at h
    refine iteT ?_
    cases h
    exact q H' α' Z' k w
  | false =>
    rw [if_neg Bool.false_ne_true] at h
    refine iteF ?_
    exact ⟨ρ, S1, α', Z', r', S', w, en.keep wo k, h, fun H2 α2 Z2 k2 w2 => q H2 α2 Z2 (k.trans k2) w2⟩
theorem t_w {f : CT} (h : EW X a f) : ET X a f := h.pt
/-- not, as a value -/
def cNotV (f : CE) : CE := fun ρ S => bnd (f ρ S) fun r S => match r.1 with | .bl b => some ((.bl (!b), .own), S) | _ => none
theorem e_not (ha : EE X a fa) : EE X (.UnaryOp .Not a pos) (cNotV fa) := by
  refine PE.cons (pe_not ha) fun σ H Q ⟨ρ, S, α, Z, r', S', wo, en, h, q⟩ => ?_
  obtain ⟨r, S1, h1, h⟩ := of_bnd h
  obtain ⟨w, m⟩ := r
  cases w with
  | bl i =>
    cases h
    exact ⟨ρ, S, α, Z, _, _, wo, en, h1, fun v H' α' Z' k w g => ⟨i, g.rep.ofBl, q _ H' α' Z' k w (Got.im (.bl _) rfl)⟩⟩
  | _ => cases h
/-- and, or of bools (the last of any kind), as a value -/
def cAndV (f g : CE) : CE := fun ρ S => bnd (f ρ S) fun r S => match r.1 with | .bl b => if b = true then g ρ S else some ((.bl false, .own), S) | _ => none
def cOrV (f g : CE) : CE := fun ρ S => bnd (f ρ S) fun r S => match r.1 with | .bl b => if b = true then some ((.bl true, .own), S) else g ρ S | _ => none
theorem e_one {op} {f : CE} (h : EE X a f) : EE X (.BoolOp op [a] pos) f := pe_one h
theorem e_and {f g : CE} {rest : List Expr} (h : EE X a f) (h2 : EE X (.BoolOp .And (b :: rest) pos) g) : EE X (.BoolOp .And (a :: b :: rest) pos) (cAndV f g) := by
  refine PE.cons (pe_and h h2) fun σ H Q ⟨ρ, S, α, Z, r', S', wo, en, h, q⟩ => ?_
  obtain ⟨r, S1, h1, h⟩ := of_bnd h
  obtain ⟨w, m⟩ := r
  cases w with
  | bl c =>
    refine ⟨ρ, S, α, Z, _, _, wo, en, h1, fun v H' α' Z' k w g => ⟨c, g.rep.ofBl, ?_⟩⟩
    dsimp only at h
    cases c with
    | true =>
      rw [if_pos rfl] at h
      refine iteT ?_
      exact ⟨ρ, S1, α', Z', r', S', w, en.keep wo k, h, fun v H2 α2 Z2 k2 w2 g2 => q v H2 α2 Z2 (k.trans k2) w2 (g2.back k.d)⟩
    | false =>
      rw [if_neg Bool.false_ne_true] at h
      refine iteF ?_
      cases h
      exact q _ H' α' Z' k w (Got.im (.bl _) rfl)
  | _ => cases h
theorem e_or {f g : CE} {rest : List Expr} (h : EE X a f) (h2 : EE X (.BoolOp .Or (b :: rest) pos) g) : EE X (.BoolOp .Or (a :: b :: rest) pos) (cOrV f g) := by
  refine PE.cons (pe_or h h2) fun σ H Q ⟨ρ, S, α, Z, r', S', wo, en, h, q⟩ => ?_
  obtain ⟨r, S1, h1, h⟩ := of_bnd h
  obtain ⟨w, m⟩ := r
  cases w with
  | bl c =>
    refine ⟨ρ, S, α, Z, _, _, wo, en, h1, fun v H' α' Z' k w g => ⟨c, g.rep.ofBl, ?_⟩⟩
    dsimp only at h
    cases c with
    | true =>
      rw [if_pos rfl] at h
      refine iteT ?_
      cases h
      exact q _ H' α' Z' k w (Got.im (.bl _) rfl)
    | false =>
      rw [if_neg Bool.false_ne_true] at h
      refine iteF ?_
      exact ⟨ρ, S1, α', Z', r', S', w, en.keep wo k, h, fun v H2 α2 Z2 k2 w2 g2 => q v H2 α2 Z2 (k.trans k2) w2 (g2.back k.d)⟩
  | _ => cases h
def cIf (c : CT) (f g : CE) : CE := fun ρ S => bnd (c ρ S) fun b S => if b = true then f ρ S else g ρ S
theorem e_if {c : Expr} {t : CT} {f g : CE} (hc : ET X c t) (ha : EE X a f) (hb : EE X b g) : EE X (.IfExp c a b pos) (cIf t f g) := by
  refine PE.cons (pe_ifExp hc ha hb) fun σ H Q ⟨ρ, S, α, Z, r', S', wo, en, h, q⟩ => ?_
  obtain ⟨r, S1, h1, h⟩ := of_bnd h
  refine ⟨ρ, S, α, Z, r, S1, wo, en, h1, fun H' α' Z' k w => ?_⟩
  have fin : ∀ {f : CE}, f ρ S1 = some (r', S') → semE X.K f σ H' Q := fun {f} h => ⟨ρ, S1, α', Z', r', S', w, en.keep wo k, h, fun v H2 α2 Z2 k2 w2 g2 => q v H2 α2 Z2 (k.trans k2) w2 (g2.back k.d)⟩
  cases r with
  | true =>
    rw [if_pos rfl] at h
    refine iteT ?_
    exact fin h
  | false =>
    rw [if_neg Bool.false_ne_true] at h
    refine iteF ?_
    exact fin h
end

/-! ### dicts -/
section
variable {κ β : Type} [DecidableEq κ]
def dGet (kvs : List (κ × β)) (k : κ) : Option β := (kvs.find? fun kv => decide (kv.1 = k)).map (·.2)
def dPut (kvs : List (κ × β)) (k : κ) (v : β) : List (κ × β) :=
  if (kvs.any fun kv => decide (kv.1 = k)) = true then kvs.map (fun kv => if kv.1 = k then (kv.1, v) else kv) else kvs ++ [(k, v)]
end
def keyOf : W → Option Key
  | .int i => some (.inl i)
  | .str x => some (.inr x)
  | _ => none
def keysOf : List W → Option (List Key)
  | [] => some []
  | w :: ws => match keyOf w, keysOf ws with
    | some k, some ks => some (k :: ks)
    | _, _ => none
/-- what a dict holds at a key: none: no key of its kind -/
def dicAt : W → W → Option (Option W)
  | .dk kvs, k => (keyOf k).map fun k => dGet kvs k
  | .dt kvs, .tup ws => (keysOf ws).map fun k => dGet kvs k
  | _, _ => none
def tkOf : W → Option (List Key)
  | .tup ws => keysOf ws
  | _ => none
def dkPut (kvs : List (Key × W)) (k v : W) : Option W := match keyOf k with
  | some κ => if kvs.length < sizeLine then some (.dk (dPut kvs κ v)) else none
  | none => none
def dtPut (kvs : List (List Key × W)) (k v : W) : Option W := match tkOf k with
  | some κ => if kvs.length < sizeLine then some (.dt (dPut kvs κ v)) else none
  | none => none
section
variable {K : PySem.W.Frag} {α : List Addr} {Z : Addr → Prop} {H : Hp} {S : Store} {m m2 : Md} {v y : V} {k w : W}
theorem dk_get {κ : Type} [DecidableEq κ] : ∀ {kvs : List (κ × V)} {kws : List (κ × W)} (k : κ), kvs.map (·.1) = kws.map (·.1) → RepL K α Z H (kvs.map (·.2)) (kws.map (·.2)) →
    (dGet kws k = none → valV kvs k = none) ∧ ∀ w, dGet kws k = some w → ∃ v, valV kvs k = some v ∧ Rep K α Z H v w
  | [], [], k, _, _ => ⟨fun _ => rfl, fun w h => by cases h⟩
  | [], _ :: _, _, h, _ => by cases h
  | _ :: _, [], _, h, _ => by cases h
  | (k1, v1) :: r, (k2, w2) :: q, k, h, rl => by
    have e1 : k1 = k2 := by injection h
    have e2 : r.map (·.1) = q.map (·.1) := by injection h
    subst e1
    cases rl with
    | cons ra rt =>
      by_cases e : k1 = k
      · constructor
        · intro hh; simp [dGet, List.find?_cons, e] at hh
        · intro w hh
          simp [dGet, List.find?_cons, e] at hh
          subst hh
          exact ⟨v1, valV_pos (p := (k1, v1)) e, ra⟩
      · have ih := dk_get k e2 rt
        have a1 : dGet ((k1, w2) :: q) k = dGet q k := by simp [dGet, List.find?_cons, e]
        rw [a1, valV_neg (p := (k1, v1)) e]
        exact ih
theorem any_key {κ β γ : Type} [DecidableEq κ] (k : κ) : ∀ {kvs : List (κ × β)} {kws : List (κ × γ)}, kvs.map (·.1) = kws.map (·.1) → (kvs.any fun kv => decide (kv.1 = k)) = kws.any fun kv => decide (kv.1 = k)
  | [], [], _ => rfl
  | [], _ :: _, h => by cases h
  | _ :: _, [], h => by cases h
  | a :: r, b :: q, h => by
    have e1 : a.1 = b.1 := by injection h
    have e2 : r.map (·.1) = q.map (·.1) := by injection h
    rw [List.any_cons, List.any_cons, any_key k e2, e1]
theorem dk_map {κ : Type} [DecidableEq κ] (k : κ) (rv : Rep K α Z H v w) : ∀ {kvs : List (κ × V)} {kws : List (κ × W)}, kvs.map (·.1) = kws.map (·.1) → RepL K α Z H (kvs.map (·.2)) (kws.map (·.2)) →
    (kvs.map fun kv => if kv.1 = k then (kv.1, v) else kv).map (·.1) = (kws.map fun kv => if kv.1 = k then (kv.1, w) else kv).map (·.1) ∧
      RepL K α Z H ((kvs.map fun kv => if kv.1 = k then (kv.1, v) else kv).map (·.2)) ((kws.map fun kv => if kv.1 = k then (kv.1, w) else kv).map (·.2))
  | [], [], _, _ => ⟨rfl, .nil⟩
  | [], _ :: _, h, _ => by cases h
  | _ :: _, [], h, _ => by cases h
  | (k1, v1) :: r, (k2, w2) :: q, h, rl => by
    have e1 : k1 = k2 := by injection h
    have e2 : r.map (·.1) = q.map (·.1) := by injection h
    subst e1
    cases rl with
    | cons ra rt =>
      obtain ⟨i1, i2⟩ := dk_map k rv e2 rt
      by_cases e : k1 = k
      · simp only [List.map_cons, e, if_true]
        exact ⟨by rw [i1], .cons rv i2⟩
      · simp only [List.map_cons, e, if_false]
        exact ⟨by rw [i1], .cons ra i2⟩
theorem dk_put {κ : Type} [DecidableEq κ] (k : κ) (rv : Rep K α Z H v w) {kvs : List (κ × V)} {kws : List (κ × W)} (h : kvs.map (·.1) = kws.map (·.1)) (rl : RepL K α Z H (kvs.map (·.2)) (kws.map (·.2))) :
    (putK kvs k v).map (·.1) = (dPut kws k w).map (·.1) ∧ RepL K α Z H ((putK kvs k v).map (·.2)) ((dPut kws k w).map (·.2)) := by
  unfold putK dPut
  rw [any_key k h]
  split
  · exact dk_map k rv h rl
  · refine ⟨by simp [h], ?_⟩
    rw [List.map_append, List.map_append]
    exact rl.append (.cons rv .nil)
theorem keyOf_ok {κ : Key} (r : RepM K α Z H m y k) (h : keyOf k = some κ) : y = kV κ := by
  cases k with
  | int i => cases h; exact r.ofInt
  | str x => cases h; exact r.ofStr
  | _ => cases h
theorem keysOf_ok : ∀ {ws : List W} {xs : List V} {ks : List Key}, RepL K α Z H xs ws → keysOf ws = some ks → xs = ks.map kV
  | [], _, _, r, h => by cases h; cases r; rfl
  | w :: ws, _, _, r, h => by
    unfold keysOf at h
    split at h
    · rename_i κ ks h1 h2
      cases h
      cases r with
      | cons r t => rw [List.map_cons, ← keysOf_ok t h2, ← keyOf_ok (r.im (m := .frz) (by cases w <;> first | rfl | cases h1)) h1]
    · cases h
theorem tkOf_ok {κ : List Key} (r : RepM K α Z H m y k) (h : tkOf k = some κ) : ∃ b, y = .ref b ∧ H b = some (.tup (κ.map kV)) := by
  cases k with
  | tup ws =>
    obtain ⟨b, xs, rfl, hb, rb⟩ := r.ofTup
    rw [keysOf_ok rb h] at hb
    exact ⟨b, rfl, hb⟩
  | _ => cases h
theorem dic_get {d : W} {o : Option W} (rd : RepM K α Z H m v d) (ry : RepM K α Z H m2 y k) (h : dicAt d k = some o) :
    ∃ a, v = .ref a ∧ (o = none → DGet H a y none) ∧ ∀ w, o = some w → ∃ u, DGet H a y (some u) ∧ Rep K α Z H u w := by
  cases rd with
  | im e r => cases d <;> first | (cases e; done) | (cases k <;> cases h)
  | mu h0 s rl hn h1 h2 =>
    refine ⟨_, rfl, ?_⟩
    cases s with
    | lst => cases h
    | @dk kvs kws e =>
      obtain ⟨κ, hk, ho⟩ := Option.map_eq_some_iff.mp h
      obtain ⟨g1, g2⟩ := dk_get κ e rl
      rw [keyOf_ok ry hk]
      refine ⟨fun hh => ?_, fun w hh => ?_⟩
      · rw [← g1 (ho.trans hh)]; exact .k h0
      · obtain ⟨u, q1, q2⟩ := g2 w (ho.trans hh)
        refine ⟨u, ?_, q2⟩
        rw [← q1]; exact .k h0
    | @dt kvs kws e =>
      cases k with
      | tup ws =>
        obtain ⟨κ, hk, ho⟩ := Option.map_eq_some_iff.mp h
        obtain ⟨g1, g2⟩ := dk_get κ e rl
        obtain ⟨b, xs, rfl, hb, rb⟩ := ry.ofTup
        rw [keysOf_ok rb hk] at hb
        refine ⟨fun hh => ?_, fun w hh => ?_⟩
        · rw [← g1 (ho.trans hh)]; exact .t h0 hb
        · obtain ⟨u, q1, q2⟩ := g2 w (ho.trans hh)
          refine ⟨u, ?_, q2⟩
          rw [← q1]; exact .t h0 hb
      | _ => cases h
end
section
variable {X : Cx} {a b : Expr} {fa fb : CE} {pos : Pos}
def rIxD : R2 := fun x y H Q => ∃ a v, x = .ref a ∧ DGet H a y (some v) ∧ Q v H
theorem ix_dict (hu : X.A.units + 1 < cLine) : IxR X rIxD := by
  intro value slice pins s σ H x y v u Q I rx ry h hs
  obtain ⟨p, z, rfl, g, q⟩ := h
  cases rx
  exact tail_any (dict_typeIs I g) PySem.F.slot_dict_getitem.lookup (d_getItem hu I g ry fun w' s3 I3 rw' => ⟨z, H, I3, rw', q⟩) hs
def rIxW (K : PySem.W.Frag) : R2 := fun x y H Q => rIx K x y H Q ∨ rIxD x y H Q
/-- o[i] -/
def gIx (S : Store) : W → W → Option W
  | .tup ws, .int i => atI ws i
  | .lst ws, .int i => atI ws i
  | .cel n, .int i => match S[n]? with
    | some ws => atI ws i
    | none => none
  | .scr ns, .int i => (atI ns i).map .int
  | .str x, .int i => if x.length ≤ sizeLine then (atI x.cps.toList i).map fun c => .str ⟨#[c]⟩ else none
  | d, k => match dicAt d k with
    | some o => o
    | none => none
theorem atI_rep {K : PySem.W.Frag} {α : List Addr} {Z : Addr → Prop} {H : Hp} {xs : List V} {ws : List W} {i : Int} {w : W} (r : RepL K α Z H xs ws) (h : atI ws i = some w) : ∃ v, atI xs i = some v ∧ Rep K α Z H v w := by
  unfold atI at h ⊢
  rw [r.length]
  cases e : ixN ws.length i with
  | none => rw [e] at h; cases h
  | some j =>
    rw [e] at h
    exact r.get h
theorem WOk.at {K : PySem.W.Frag} {α : List Addr} {Z : Addr → Prop} {H : Hp} {S : Store} (o : WOk K H S α Z) {n : Nat} {a : Addr} {ws : List W} (h1 : α[n]? = some a) (h2 : S[n]? = some ws) : ∃ xs, H a = some (.lst xs) ∧ RepL K α Z H xs ws := by
  have go : ∀ {l₁ : List Addr} {l₂ : Store} {F : Addr → List W → Prop} {n : Nat} {x : Addr} {y : List W}, Paired F l₁ l₂ → l₁[n]? = some x → l₂[n]? = some y → F x y := by
    intro l₁ l₂ F n x y pr
    induction pr generalizing n with
    | nil => intro h; simp at h
    | cons r t ih =>
      intro h1 h2
      cases n with
      | zero => simp at h1 h2; subst h1; subst h2; exact r
      | succ n => exact ih (by simpa using h1) (by simpa using h2)
  exact go o.cells h1 h2
def cIx (fa fb : CE) : CE := fun ρ S => bnd (fa ρ S) fun a S => bnd (fb ρ S) fun b S => (gIx S a.1 b.1).map fun c => ((c, .frz), S)
theorem e_ix {k : Nat} (hr : Room k X.A) (ha : EE X a fa) (hb : EE X b fb) (hs : PlainIx b := by exact fun _ _ => rfl) : EE X (.Subscript a b pos) (cIx fa fb) := by
  refine PE.cons (pe_ix (ix_seq.or (ix_dict (hu_of hr))) ha hb hs) fun σ H Q ⟨ρ, S, α, Z, r', S', wo, en, h, q⟩ => ?_
  obtain ⟨ra, S1, h1, h⟩ := of_bnd h
  obtain ⟨rb, S2, h2, h⟩ := of_bnd h
  cases hc : gIx S2 ra.1 rb.1 with
  | none => rw [hc] at h; cases h
  | some c =>
    rw [hc] at h
    cases h
    refine ⟨ρ, S, α, Z, ra, S1, wo, en, h1, fun v1 H1 α1 Z1 k1 w1 g1 => ⟨ρ, S1, α1, Z1, rb, _, w1, en.keep wo k1, h2, fun v2 H2 α2 Z2 k2 w2 g2 => ?_⟩⟩
    have r1 := g1.rep.keep w1 k2
    have fin : ∀ v, Rep X.K α2 Z2 H2 v c → Q v H2 := fun v r => q v H2 α2 Z2 (k1.trans k2) w2 ⟨r.toM w2, fun e => by cases e⟩
    have r2 := g2.rep
    obtain ⟨wa, ma⟩ := ra
    obtain ⟨wb, mb⟩ := rb
    dsimp only at hc r1 r2
    have dic : ∀ o, dicAt wa wb = some o → (match dicAt wa wb with | some o => o | none => none) = some c → rIxD v1 v2 H2 Q := fun o e hc => by
      rw [e] at hc
      obtain ⟨a, e1, e2, e3⟩ := dic_get r1 r2 e
      obtain ⟨u, q1, q2⟩ := e3 c hc
      exact ⟨a, u, e1, q1, fin u q2⟩
    have dic2 : (match dicAt wa wb with | some o => o | none => none) = some c → rIxD v1 v2 H2 Q := fun hc => by
      cases e : dicAt wa wb with
      | none => rw [e] at hc; cases hc
      | some o => exact dic o e hc
    unfold gIx at hc
    split at hc
    · obtain ⟨p, xs, rfl, hp, rp⟩ := r1.ofTup
      rw [r2.ofInt]
      obtain ⟨u, q1, q2⟩ := atI_rep rp hc
      exact .inl (.inr (.inl ⟨p, xs, _, u, rfl, rfl, .of hp, q1, fin u q2⟩))
    · obtain ⟨p, xs, rfl, hp, rp, _⟩ := r1.ofLst
      rw [r2.ofInt]
      obtain ⟨u, q1, q2⟩ := atI_rep rp hc
      exact .inl (.inl ⟨p, xs, _, u, rfl, rfl, .of hp, q1, fin u q2⟩)
    · split at hc
      · rename_i ws hn
        obtain ⟨p, rfl, hp⟩ := r1.ofCel
        rw [r2.ofInt]
        obtain ⟨xs, hx, rp⟩ := w2.at hp hn
        obtain ⟨u, q1, q2⟩ := atI_rep rp hc
        exact .inl (.inl ⟨p, xs, _, u, rfl, rfl, .of hx, q1, fin u q2⟩)
      · cases hc
    · obtain ⟨p, rfl, hp⟩ := r1.ofScr
      rw [r2.ofInt]
      obtain ⟨n, hn, rfl⟩ := Option.map_eq_some_iff.mp hc
      refine .inl (.inl ⟨p, _, _, .int n, rfl, rfl, hp, ?_, fin _ (.int n)⟩)
      unfold atI at hn ⊢
      rw [List.length_map]
      revert hn
      cases ixN _ _ with
      | none => intro hn; cases hn
      | some j =>
        intro hn
        have hn : _ = some n := hn
        show (List.map V.int _)[j]? = some (V.int n)
        rw [List.getElem?_map]
        exact congrArg (Option.map V.int) hn
    · split at hc
      · rename_i hl
        rw [r1.ofStr, r2.ofInt]
        obtain ⟨n, hn, rfl⟩ := Option.map_eq_some_iff.mp hc
        exact .inl (.inr (.inr ⟨_, _, n, rfl, rfl, hl, hn, fin _ (.str _)⟩))
      · cases hc
    · exact .inr (dic2 hc)

/-- d.get(k), d.get(k, x) -/
def cGet1 (fd fk : CE) : CE := fun ρ S => bnd (fd ρ S) fun d S => bnd (fk ρ S) fun k S => match dicAt d.1 k.1 with
  | some o => some ((o.getD .non, .frz), S)
  | none => none
theorem isD_of {K : PySem.W.Frag} {α : List Addr} {Z : Addr → Prop} {H : Hp} {m : Md} {v : V} {d k : W} {o : Option W} (rd : RepM K α Z H m v d) (h : dicAt d k = some o) : ∃ a, v = .ref a ∧ IsD H a := by
  cases rd with
  | im e r => cases d <;> first | (cases e; done) | (cases k <;> cases h)
  | mu h0 s rl hn h1 h2 =>
    refine ⟨_, rfl, ?_⟩
    cases s with
    | lst => cases h
    | dk e => exact .inl ⟨_, .inl h0⟩
    | dt e => exact .inr ⟨_, .inl h0⟩
theorem e_get1 {k : Nat} {apos cpos : Pos} (hr : Room k X.A) (ha : EE X a fa) (hb : EE X b fb) (m : M1 X a "get" apos b cpos) : EE X (.Call (.Attribute a "get" apos) [b] [] cpos) (cGet1 fa fb) := by
  refine PE.cons (pe_dget1 (hu_of hr) ha hb m) fun σ H Q ⟨ρ, S, α, Z, r', S', wo, en, h, q⟩ => ?_
  obtain ⟨ra, S1, h1, h⟩ := of_bnd h
  obtain ⟨rb, S2, h2, h⟩ := of_bnd h
  split at h
  · rename_i o ho
    cases h
    refine ⟨ρ, S, α, Z, ra, S1, wo, en, h1, fun v1 H1 α1 Z1 k1 w1 g1 => ?_⟩
    obtain ⟨p, e1, hd⟩ := isD_of g1.rep ho
    refine ⟨p, e1, hd, ρ, S1, α1, Z1, rb, _, w1, en.keep wo k1, h2, fun v2 H2 α2 Z2 k2 w2 g2 => ?_⟩
    obtain ⟨p', e1', d1, d2⟩ := dic_get (g1.rep.keep w1 k2) g2.rep ho
    have ep : p' = p := by rw [e1] at e1'; cases e1'; rfl
    subst ep
    have fin : ∀ v w, Rep X.K α2 Z2 H2 v w → w = o.getD .non → Q v H2 := fun v w r e => by
      subst e
      exact q v H2 α2 Z2 (k1.trans k2) w2 ⟨r.toM w2, fun e => by cases e⟩
    cases o with
    | none => exact ⟨none, d1 rfl, fin _ _ .non rfl⟩
    | some w =>
      obtain ⟨u, q1, q2⟩ := d2 w rfl
      exact ⟨some u, q1, fin _ _ q2 rfl⟩
  · cases h
def cGet2 (fd fk fx : CE) : CE := fun ρ S => bnd (fd ρ S) fun d S => bnd (fk ρ S) fun k S => bnd (fx ρ S) fun x S => match dicAt d.1 k.1 with
  | some (some w) => some ((w, .frz), S)
  | some none => some (x, S)
  | none => none
theorem e_get2 {k : Nat} {c : Expr} {fc : CE} {apos cpos : Pos} (hr : Room k X.A) (ha : EE X a fa) (hb : EE X b fb) (hc : EE X c fc) (m : M2 X a "get" apos b c cpos) : EE X (.Call (.Attribute a "get" apos) [b, c] [] cpos) (cGet2 fa fb fc) := by
  refine PE.cons (pe_dget2 (hu_of hr) ha hb hc m) fun σ H Q ⟨ρ, S, α, Z, r', S', wo, en, h, q⟩ => ?_
  obtain ⟨ra, S1, h1, h⟩ := of_bnd h
  obtain ⟨rb, S2, h2, h⟩ := of_bnd h
  obtain ⟨rc, S3, h3, h⟩ := of_bnd h
  obtain ⟨o, ho, h⟩ : ∃ o, dicAt ra.1 rb.1 = some o ∧ (match o with | some w => some ((w, Md.frz), S3) | none => some (rc, S3)) = some (r', S') := by
    split at h
    · rename_i w ho; exact ⟨_, ho, h⟩
    · rename_i ho; exact ⟨_, ho, h⟩
    · cases h
  refine ⟨ρ, S, α, Z, ra, S1, wo, en, h1, fun v1 H1 α1 Z1 k1 w1 g1 => ?_⟩
  obtain ⟨p, e1, hd⟩ := isD_of g1.rep ho
  refine ⟨p, e1, hd, ρ, S1, α1, Z1, rb, _, w1, en.keep wo k1, h2, fun v2 H2 α2 Z2 k2 w2 g2 => ⟨ρ, _, α2, Z2, rc, _, w2, en.keep wo (k1.trans k2), h3, fun v3 H3 α3 Z3 k3 w3 g3 => ?_⟩⟩
  obtain ⟨p', e1', d1, d2⟩ := dic_get (g1.rep.keep w1 (k2.trans k3)) (g2.rep.keep w2 k3) ho
  have ep : p' = p := by rw [e1] at e1'; cases e1'; rfl
  subst ep
  have kk := (k1.trans k2).trans k3
  cases o with
  | none =>
    cases h
    exact ⟨none, d1 rfl, q _ H3 α3 Z3 kk w3 (g3.back (k1.trans k2).d)⟩
  | some w =>
    cases h
    obtain ⟨u, q1, q2⟩ := d2 w rfl
    exact ⟨some u, q1, q _ H3 α3 Z3 kk w3 ⟨q2.toM w3, fun e => by cases e⟩⟩

/-- k in d -/
def cInD (neg : Bool) (fk fd : CE) : CE := fun ρ S => bnd (fk ρ S) fun k S => bnd (fd ρ S) fun d S => match dicAt d.1 k.1 with
  | some o => some ((.bl (neg != o.isSome), .own), S)
  | none => none
/-- {} -/
def cDk : CE := fun _ S => some ((.dk [], .own), S)
def cDt : CE := fun _ S => some ((.dt [], .own), S)
theorem e_dk : EE X (.Dict [] [] pos) cDk := by
  refine PE.cons pe_dnewK fun σ H Q ⟨ρ, S, α, Z, r', S', wo, en, h, q⟩ => ?_
  cases h
  intro p hp
  refine q _ _ α Z (Keep.new hp) (wo.new hp) ⟨.mu upd_same (.dk (kvs := []) (kws := []) rfl) .nil (wo.nα hp) (fun _ => wo.nZ hp) (fun e => by cases e), fun _ _ a e => ?_⟩
  cases e
  exact hp
theorem e_dt : EE X (.Dict [] [] pos) cDt := by
  refine PE.cons pe_dnewT fun σ H Q ⟨ρ, S, α, Z, r', S', wo, en, h, q⟩ => ?_
  cases h
  intro p hp
  refine q _ _ α Z (Keep.new hp) (wo.new hp) ⟨.mu upd_same (.dt (kvs := []) (kws := []) rfl) .nil (wo.nα hp) (fun _ => wo.nZ hp) (fun e => by cases e), fun _ _ a e => ?_⟩
  cases e
  exact hp
end

/-! ### statements -/
structure Bs where
  H : Hp
  α : List Addr
  Z : Addr → Prop
def OwnB (B : Bs) (ρ : Env) (σ : L2.St) : Prop := ∀ (i : Nat) w, ρ[i]? = some (some (w, Md.own)) → w.mut = true → ∀ a, σ[i]? = some (some (.ref a)) → B.H a = none
structure At (K : PySem.W.Frag) (B : Bs) (ρ : Env) (S : Store) (σ : L2.St) (H : Hp) (α : List Addr) (Z : Addr → Prop) : Prop where
  w : WOk K H S α Z
  k : Keep B.H B.α B.Z H α Z
  e : EnvOk K α Z H ρ σ
  o : OwnB B ρ σ
def SOk (K : PySem.W.Frag) (B : Bs) (ρ : Env) (S : Store) (σ : L2.St) (H : Hp) : Prop := ∃ α Z, At K B ρ S σ H α Z
inductive SOut where
  | nx (ρ : Env) (S : Store) | rt (r : Wm) (S : Store) | bk (ρ : Env) (S : Store) | ct (ρ : Env) (S : Store)
abbrev CS := Env → Store → Option SOut
def EndOk (K : PySem.W.Frag) (B : Bs) (D : Ends) : SOut → Prop
  | .nx ρ S => ∀ σ H, SOk K B ρ S σ H → D.nx σ H
  | .bk ρ S => ∀ σ H, SOk K B ρ S σ H → D.bk σ H
  | .ct ρ S => ∀ σ H, SOk K B ρ S σ H → D.ct σ H
  | .rt r S => sto r = true ∧ ∀ v H α Z, Keep B.H B.α B.Z H α Z → WOk K H S α Z → Got K B.H α Z H r v → D.rt v H
def semS (K : PySem.W.Frag) (f : CS) : TS := fun D σ H => ∃ B ρ S o, SOk K B ρ S σ H ∧ f ρ S = some o ∧ EndOk K B D o
abbrev ES (X : Cx) (st : Stmt) (f : CS) : Prop := PS X st (semS X.K f)
abbrev ESs (X : Cx) (st : List Stmt) (f : CS) : Prop := PSs X st (semS X.K f)
theorem PS.cons {X : Cx} {st : Stmt} {t t' : TS} (h : PS X st t) (i : ∀ D σ H, t' D σ H → t D σ H) : PS X st t' := ⟨fun pins s σ H D I q => h.run pins s σ H D I (i D σ H q)⟩
theorem PSs.cons {X : Cx} {st : List Stmt} {t t' : TS} (h : PSs X st t) (i : ∀ D σ H, t' D σ H → t D σ H) : PSs X st t' := ⟨fun pins s σ H D I q => h.run pins s σ H D I (i D σ H q)⟩
def cSkip : CS := fun ρ S => some (.nx ρ S)
def cSeq (f g : CS) : CS := fun ρ S => match f ρ S with
  | some (.nx ρ' S') => g ρ' S'
  | o => o
section
variable {X : Cx} {st : Stmt} {rest : List Stmt} {f g : CS} {e : Expr} {fe : CE} {pos : Pos}
theorem s_nil : ESs X [] cSkip := PSs.cons pss_nil fun D σ H ⟨B, ρ, S, o, so, h, q⟩ => by
  cases h
  exact q σ H so
theorem s_cons (h1 : ES X st f) (h2 : ESs X rest g) : ESs X (st :: rest) (cSeq f g) := PSs.cons (pss_cons h1 h2) fun D σ H ⟨B, ρ, S, o, so, h, q⟩ => by
  unfold cSeq at h
  cases hf : f ρ S with
  | none => rw [hf] at h; cases h
  | some o1 =>
    rw [hf] at h
    refine ⟨B, ρ, S, o1, so, hf, ?_⟩
    cases o1 with
    | nx ρ' S' => exact fun σ' H' so' => ⟨B, ρ', S', o, so', h, q⟩
    | rt r S' => cases h; exact q
    | bk ρ' S' => cases h; exact q
    | ct ρ' S' => cases h; exact q
theorem s_one (h1 : ES X st f) : ESs X [st] f := pss_one h1
theorem s_pass : ES X (.Pass pos) cSkip := PS.cons ps_pass fun D σ H ⟨B, ρ, S, o, so, h, q⟩ => by
  cases h
  exact q σ H so
def cBrk : CS := fun ρ S => some (.bk ρ S)
def cCnt : CS := fun ρ S => some (.ct ρ S)
theorem s_break : ES X (.Break pos) cBrk := PS.cons ps_break fun D σ H ⟨B, ρ, S, o, so, h, q⟩ => by
  cases h
  exact q σ H so
theorem s_continue : ES X (.Continue pos) cCnt := PS.cons ps_continue fun D σ H ⟨B, ρ, S, o, so, h, q⟩ => by
  cases h
  exact q σ H so
theorem At.go {K : PySem.W.Frag} {B : Bs} {ρ : Env} {S S' : Store} {σ : L2.St} {H H' : Hp} {α α' : List Addr} {Z Z' : Addr → Prop} (a : At K B ρ S σ H α Z) (k : Keep H α Z H' α' Z') (w : WOk K H' S' α' Z') : At K B ρ S' σ H' α' Z' :=
  ⟨w, a.k.trans k, a.e.keep a.w k, a.o⟩
def cDrop (fe : CE) : CS := fun ρ S => bnd (fe ρ S) fun _ S => some (.nx ρ S)
theorem s_expr (he : EE X e fe) (hs : swapsWith e none pos.line X.env = pure false := by rfl) : ES X (.Expr e pos) (cDrop fe) := PS.cons (ps_expr he hs) fun D σ H ⟨B, ρ, S, o, ⟨α, Z, at_⟩, h, q⟩ => by
  obtain ⟨r, S1, h1, h⟩ := of_bnd h
  cases h
  exact ⟨ρ, S, α, Z, r, S1, at_.w, at_.e, h1, fun v H1 α1 Z1 k1 w1 _ => q σ H1 ⟨α1, Z1, at_.go k1 w1⟩⟩
theorem s_doc {x j pos'} : ES X (.Expr (.Constant (.str x) j pos) pos') cSkip := PS.cons ps_doc fun D σ H ⟨B, ρ, S, o, so, h, q⟩ => by
  cases h
  exact q σ H so
def cRet (fe : CE) : CS := fun ρ S => bnd (fe ρ S) fun r S => if sto r = true then some (.rt r S) else none
theorem s_ret (he : EE X e fe) : ES X (.Return (some e) pos) (cRet fe) := PS.cons (ps_ret he) fun D σ H ⟨B, ρ, S, o, ⟨α, Z, at_⟩, h, q⟩ => by
  obtain ⟨r, S1, h1, h⟩ := of_bnd h
  split at h
  · cases h
    exact ⟨ρ, S, α, Z, r, S1, at_.w, at_.e, h1, fun v H1 α1 Z1 k1 w1 g => q.2 v H1 α1 Z1 (at_.k.trans k1) w1 (g.back at_.k.d)⟩
  · cases h
def cRetN : CS := fun _ S => some (.rt (.non, .own) S)
theorem s_retN : ES X (.Return none pos) cRetN := PS.cons ps_retN fun D σ H ⟨B, ρ, S, o, ⟨α, Z, at_⟩, h, q⟩ => by
  cases h
  exact q.2 _ H α Z at_.k at_.w (Got.im .non rfl)
/-- a name's own value is handed out -/
def cRetV (i : Nat) : CS := fun ρ S => match ρ[i]? with
  | some (some r) => if sto r = true then some (.rt r S) else none
  | _ => none
theorem s_retV (i : Nat) {x : Str} {p : Pos} (hN : X.N[i]? = some x := by rfl) (hv : Vis X.env.scope x := by first | exact Or.inl rfl | exact Or.inr (Or.inl rfl) | exact Or.inr (Or.inr rfl)) (hd : (x == ("__debug__" : Str)) = false := by decide)
    (hcd : (x == ("__classdict__" : Str)) = false := by decide) : ES X (.Return (some (.Name x p)) pos) (cRetV i) := PS.cons (ps_ret (pe_var hN hv hd hcd)) fun D σ H ⟨B, ρ, S, o, ⟨α, Z, at_⟩, h, q⟩ => by
  unfold cRetV at h
  split at h
  · rename_i r hr
    split at h
    · cases h
      obtain ⟨w, m⟩ := r
      obtain ⟨v, e1, r1⟩ := at_.e.slot i w m hr
      refine ⟨v, e1, q.2 v H α Z at_.k at_.w ⟨r1, fun e2 e3 a e4 => ?_⟩⟩
      dsimp only at e2 e3
      subst e2 e4
      exact at_.o i w hr e3 a e1
    · cases h
  · cases h
def cIfS (t : CT) (f g : CS) : CS := fun ρ S => bnd (t ρ S) fun b S => if b = true then f ρ S else g ρ S
theorem s_if {c : Expr} {a b : List Stmt} {t : CT} (hc : ET X c t) (ha : ESs X a f) (hb : ESs X b g) : ES X (.If c a b pos) (cIfS t f g) := PS.cons (ps_if hc ha hb) fun D σ H ⟨B, ρ, S, o, ⟨α, Z, at_⟩, h, q⟩ => by
  obtain ⟨r, S1, h1, h⟩ := of_bnd h
  refine ⟨ρ, S, α, Z, r, S1, at_.w, at_.e, h1, fun H1 α1 Z1 k1 w1 => ?_⟩
  cases r with
  | true =>
    rw [if_pos rfl] at h
    refine iteT ?_
    exact ⟨B, ρ, S1, o, ⟨α1, Z1, at_.go k1 w1⟩, h, q⟩
  | false =>
    rw [if_neg Bool.false_ne_true] at h
    refine iteF ?_
    exact ⟨B, ρ, S1, o, ⟨α1, Z1, at_.go k1 w1⟩, h, q⟩
end

/-! ### a name gives its list up -/
def frzE (ρ : Env) (i : Nat) : Env := match ρ[i]? with
  | some (some (w, .own)) => ρ.set i (some (w, .frz))
  | _ => ρ
def cFz (is : List Nat) (f : CS) : CS := fun ρ S => f (is.foldl frzE ρ) S
theorem At.frz {K : PySem.W.Frag} {B : Bs} {ρ : Env} {S : Store} {σ : L2.St} {H : Hp} {α : List Addr} {Z : Addr → Prop} (a : At K B ρ S σ H α Z) (i : Nat) : ∃ Z', At K B (frzE ρ i) S σ H α Z' := by
  unfold frzE
  split
  · rename_i w hr
    have hi : i < ρ.length := (List.getElem?_eq_some_iff.mp hr).1
    obtain ⟨v, e1, r1⟩ := a.e.slot i w .own hr
    cases hm : w.mut with
    | false =>
      refine ⟨Z, a.w, a.k, ⟨by rw [List.length_set]; exact a.e.len, fun j w' m' hj => ?_, fun j j' w1 w2 m2 hne h1 h2 h3 h4 => ?_⟩, fun j w' hj hm' => ?_⟩
      · by_cases e : i = j
        · subst e
          rw [List.getElem?_set_self hi] at hj
          cases hj
          exact ⟨v, e1, .im hm (r1.repI hm)⟩
        · rw [List.getElem?_set_ne e] at hj
          exact a.e.slot j w' m' hj
      · have n1 : i ≠ j := fun e => by subst e; rw [List.getElem?_set_self hi] at h1; cases h1
        rw [List.getElem?_set_ne n1] at h1
        by_cases e : i = j'
        · subst e
          rw [List.getElem?_set_self hi] at h3
          cases h3
          rw [hm] at h4; cases h4
        · rw [List.getElem?_set_ne e] at h3
          exact a.e.sep j j' w1 w2 m2 hne h1 h2 h3 h4
      · have n1 : i ≠ j := fun e => by subst e; rw [List.getElem?_set_self hi] at hj; cases hj
        rw [List.getElem?_set_ne n1] at hj
        exact a.o j w' hj hm'
    | true =>
      obtain ⟨p, o, xs, ws, rfl, h0, s, rl, hn, h1, h2⟩ := r1.muE hm
      have hb := a.o i w hr hm p e1
      have up : ∀ b, Z b → Z b ∨ b = p := fun b h => .inl h
      refine ⟨fun b => Z b ∨ b = p, a.w.mono up (fun b h => ?_) (fun b h => ?_), ⟨a.k.al, a.k.h, a.k.d, fun b h => .inl (a.k.z b h), fun b h => ?_⟩, ⟨by rw [List.length_set]; exact a.e.len, fun j w' m' hj => ?_, fun j j' w1 w2 m2 hne h1 h2 h3 h4 => ?_⟩, fun j w' hj hm' => ?_⟩
      · rcases h with h | h
        · exact a.w.zα b h
        · rw [h]; exact hn
      · rcases h with h | h
        · exact a.w.zH b h
        · rw [h, h0]; simp
      · rcases h with h | h
        · exact a.k.z' b h
        · rw [h]; exact .inr hb
      · by_cases e : i = j
        · subst e
          rw [List.getElem?_set_self hi] at hj
          cases hj
          exact ⟨.ref p, e1, .mu h0 s (rl.mono up) hn (fun e => by cases e) fun _ => .inr rfl⟩
        · rw [List.getElem?_set_ne e] at hj
          obtain ⟨u, q1, q2⟩ := a.e.slot j w' m' hj
          refine ⟨u, q1, ?_⟩
          cases q2 with
          | im e r => exact .im e (r.mono up)
          | mu c0 c1 c2 c3 c4 c5 =>
            refine .mu c0 c1 (c2.mono up) c3 (fun em z => ?_) fun em => .inl (c5 em)
            rcases z with z | z
            · exact c4 em z
            · subst em z
              exact a.e.sep i j w w' .own e hr hm hj c1.mut (e1.trans q1.symm)
      · have n1 : i ≠ j := fun e => by subst e; rw [List.getElem?_set_self hi] at h1; cases h1
        rw [List.getElem?_set_ne n1] at h1
        by_cases e : i = j'
        · subst e
          rw [List.getElem?_set_self hi] at h3
          cases h3
          exact a.e.sep j _ w1 w .own hne h1 h2 hr hm
        · rw [List.getElem?_set_ne e] at h3
          exact a.e.sep j j' w1 w2 m2 hne h1 h2 h3 h4
      · have n1 : i ≠ j := fun e => by subst e; rw [List.getElem?_set_self hi] at hj; cases hj
        rw [List.getElem?_set_ne n1] at hj
        exact a.o j w' hj hm'
  · exact ⟨Z, a⟩
theorem At.frzs {K : PySem.W.Frag} {B : Bs} {S : Store} {σ : L2.St} {H : Hp} {α : List Addr} : ∀ (is : List Nat) {ρ : Env} {Z : Addr → Prop}, At K B ρ S σ H α Z → ∃ Z', At K B (is.foldl frzE ρ) S σ H α Z'
  | [], _, Z, a => ⟨Z, a⟩
  | i :: is, _, _, a => let ⟨_, a'⟩ := a.frz i; At.frzs is a'
theorem s_fz {X : Cx} {st : Stmt} {f : CS} (is : List Nat) (h : ES X st f) : ES X st (cFz is f) := PS.cons h fun D σ H ⟨B, ρ, S, o, ⟨α, Z, at_⟩, h, q⟩ => by
  obtain ⟨Z', a'⟩ := at_.frzs is
  exact ⟨B, _, S, o, ⟨α, Z', a'⟩, h, q⟩

/-! ### targets -/
def md (r : Wm) : Wm := (r.1, if r.1.mut = true then r.2 else .frz)
abbrev CG := Wm → Env → Option Env
/-- the value fits a slot: an own one is nobody else's -/
structure Fits (K : PySem.W.Frag) (B : Bs) (ρ : Env) (σ : L2.St) (H : Hp) (α : List Addr) (Z : Addr → Prop) (r : Wm) (v : V) : Prop where
  rep : RepM K α Z H r.2 v r.1
  fr : r.2 = .own → r.1.mut = true → ∀ a, v = .ref a → B.H a = none ∧ ∀ (j : Nat) w m, ρ[j]? = some (some (w, m)) → w.mut = true → σ[j]? ≠ some (some (.ref a))
def Slots (is : List Nat) (σ σ' : L2.St) : Prop := σ'.length = σ.length ∧ ∀ j, j ∉ is → σ'[j]? = σ[j]?
def semG (K : PySem.W.Frag) (is : List Nat) (t : CG) : TG := fun v σ H Q => ∃ B ρ S α Z r ρ', At K B ρ S σ H α Z ∧ Fits K B ρ σ H α Z r v ∧ t r ρ = some ρ' ∧ ∀ σ', At K B ρ' S σ' H α Z → Slots is σ σ' → Q σ' H
def semGs (K : PySem.W.Frag) (is : List Nat) (t : List W → Env → Option Env) : TGs := fun vs σ H Q => ∃ B ρ S α Z ws ρ', At K B ρ S σ H α Z ∧ RepL K α Z H vs ws ∧ t ws ρ = some ρ' ∧ ∀ σ', At K B ρ' S σ' H α Z → Slots is σ σ' → Q σ' H
abbrev EG (X : Cx) (tg : Expr) (is : List Nat) (t : CG) : Prop := PG X tg (semG X.K is t)
abbrev EGs (X : Cx) (tgs : List Expr) (is : List Nat) (t : List W → Env → Option Env) : Prop := PGs X tgs (semGs X.K is t)
theorem PG.cons {X : Cx} {tg : Expr} {t t' : TG} (h : PG X tg t) (i : ∀ v σ H Q, t' v σ H Q → t v σ H Q) : PG X tg t' := ⟨fun pins s σ H v u Q I r q => h.run pins s σ H v u Q I r (i v σ H Q q)⟩
theorem PGs.cons {X : Cx} {tg : List Expr} {t t' : TGs} (h : PGs X tg t) (i : ∀ v σ H Q, t' v σ H Q → t v σ H Q) : PGs X tg t' := ⟨fun pins s σ H v u Q I r q => h.run pins s σ H v u Q I r (i v σ H Q q)⟩
def tName (i : Nat) : CG := fun r ρ => if sto r = true then some (ρ.set i (some (md r))) else none
theorem md_mut {r : Wm} {w : W} {m : Md} (h : some (md r) = some (w, m)) : r.1 = w ∧ (w.mut = true → r.2 = m) ∧ (w.mut = false → m = .frz) := by
  unfold md at h
  injection h with h
  injection h with h1 h2
  subst h1
  refine ⟨rfl, fun e => ?_, fun e => ?_⟩
  · rw [if_pos e] at h2; exact h2
  · rw [e, if_neg Bool.false_ne_true] at h2; exact h2.symm
theorem At.set {K : PySem.W.Frag} {B : Bs} {ρ : Env} {S : Store} {σ : L2.St} {H : Hp} {α : List Addr} {Z : Addr → Prop} {r : Wm} {v : V} (a : At K B ρ S σ H α Z) (i : Nat) (f : Fits K B ρ σ H α Z r v) (hs : sto r = true) :
    At K B (ρ.set i (some (md r))) S (σ.set i (some v)) H α Z := by
  have get : ∀ (j : Nat) w m, (ρ.set i (some (md r)))[j]? = some (some (w, m)) → (i ≠ j ∧ ρ[j]? = some (some (w, m)) ∧ (σ.set i (some v))[j]? = σ[j]?) ∨ (i = j ∧ some (md r) = some (w, m) ∧ (σ.set i (some v))[j]? = some (some v)) := by
    intro j w m hj
    by_cases e : i = j
    · subst e
      have hi : i < ρ.length := by
        have := (List.getElem?_eq_some_iff.mp hj).1
        rwa [List.length_set] at this
      rw [List.getElem?_set_self hi] at hj
      exact .inr ⟨rfl, Option.some.inj hj, List.getElem?_set_self (by rw [← a.e.len]; exact hi)⟩
    · rw [List.getElem?_set_ne e] at hj
      exact .inl ⟨e, hj, List.getElem?_set_ne e⟩
  have rep : ∀ w m, some (md r) = some (w, m) → RepM K α Z H m v w := by
    intro w m h
    obtain ⟨e1, e2, e3⟩ := md_mut h
    subst e1
    cases hm : r.1.mut with
    | true => rw [← e2 hm]; exact f.rep
    | false => exact .im hm (f.rep.repI hm)
  refine ⟨a.w, a.k, ⟨by rw [List.length_set, List.length_set]; exact a.e.len, fun j w m hj => ?_, fun j j' w w' m' hne h1 h2 h3 h4 => ?_⟩, fun j w hj hm b hb => ?_⟩
  · rcases get j w m hj with ⟨_, h1, h2⟩ | ⟨_, h1, h2⟩
    · rw [h2]; exact a.e.slot j w m h1
    · exact ⟨v, h2, rep w m h1⟩
  · rcases get j w _ h1 with ⟨n1, g1, s1⟩ | ⟨n1, g1, s1⟩ <;> rcases get j' w' m' h3 with ⟨n2, g2, s2⟩ | ⟨n2, g2, s2⟩
    · rw [s1, s2]; exact a.e.sep j j' w w' m' hne g1 h2 g2 h4
    · rw [s1, s2]
      obtain ⟨e1, e2, _⟩ := md_mut g2
      subst e1
      obtain ⟨u, q1, q2⟩ := a.e.slot j w _ g1
      intro e
      rw [q1] at e
      cases e
      cases q2 with
      | im e _ => rw [h2] at e; cases e
      | mu c0 c1 c2 c3 c4 c5 =>
        have c4 := c4 rfl
        obtain ⟨fr, ff⟩ := f
        have key : r.2 = .own ∨ r.2 = .frz ∨ r.2 = .brw := by cases r.2 <;> simp
        rcases key with k | k | k
        · exact (ff k h4 _ rfl).2 j w _ g1 h2 q1
        · rw [k] at fr
          cases fr with
          | im e _ => rw [h4] at e; cases e
          | mu d0 d1 d2 d3 d4 d5 => exact c4 (d5 rfl)
        · unfold sto at hs
          rw [h4, k] at hs
          cases hs
    · rw [s1, s2]
      obtain ⟨e1, e2, _⟩ := md_mut g1
      subst e1
      intro e
      obtain ⟨u, q1, q2⟩ := a.e.slot j' w' m' g2
      rw [q1] at e
      cases e
      have k := e2 h2
      cases q2 with
      | im e _ => rw [h4] at e; cases e
      | mu c0 c1 c2 c3 c4 c5 => exact (f.fr k h2 _ rfl).2 j' w' m' g2 h4 q1
    · exact absurd (n1.symm.trans n2) hne
  · rcases get j w _ hj with ⟨n1, g1, s1⟩ | ⟨n1, g1, s1⟩
    · rw [s1] at hb; exact a.o j w g1 hm b hb
    · obtain ⟨e1, e2, _⟩ := md_mut g1
      subst e1
      rw [s1] at hb
      cases hb
      exact (f.fr (e2 hm) hm _ rfl).1
theorem g_name {X : Cx} (i : Nat) {x : Str} {pos : Pos} (hN : X.N.Nodup) (hi : X.N[i]? = some x := by rfl) (hx : Loc X.env.scope x := by first | exact Or.inl rfl | exact Or.inr rfl)
    (hf : X.fn x = true ∨ X.env.scope.names.lookup x = some .local := by first | exact .inl rfl | exact .inr rfl) : EG X (.Name x pos) [i] (tName i) :=
  PG.cons (pg_name hN hi hx hf) fun v σ H Q ⟨B, ρ, S, α, Z, r, ρ', at_, ft, h, q⟩ => by
    unfold tName at h
    split at h
    · rename_i hs
      cases h
      exact q _ (at_.set i ft hs) ⟨List.length_set, fun j hj => List.getElem?_set_ne (fun e => hj (by simp [e]))⟩
    · cases h
def tNil : List W → Env → Option Env := fun ws ρ => match ws with
  | [] => some ρ
  | _ :: _ => none
def tCons (t : CG) (u : List W → Env → Option Env) : List W → Env → Option Env := fun ws ρ => match ws with
  | [] => none
  | w :: ws => (t (w, .frz) ρ).bind (u ws)
theorem gs_nil {X : Cx} : EGs X [] [] tNil := PGs.cons pgs_nil fun vs σ H Q ⟨B, ρ, S, α, Z, ws, ρ', at_, rl, h, q⟩ => by
  cases rl with
  | nil => cases h; exact ⟨rfl, q σ at_ ⟨rfl, fun _ _ => rfl⟩⟩
  | cons => cases h
theorem Fits.frz {K : PySem.W.Frag} {B : Bs} {ρ : Env} {S : Store} {σ : L2.St} {H : Hp} {α : List Addr} {Z : Addr → Prop} {w : W} {v : V} (o : WOk K H S α Z) (r : Rep K α Z H v w) : Fits K B ρ σ H α Z (w, .frz) v := ⟨r.toM o, fun e => by cases e⟩
theorem gs_cons {X : Cx} {e : Expr} {es : List Expr} {i1 i2 : List Nat} {t : CG} {u : List W → Env → Option Env} (h1 : EG X e i1 t) (h2 : EGs X es i2 u)
    (hs : (assignEach (e :: es) X.env).map (·.2) = assign e X.env :: (assignEach es X.env).map (·.2) := by rfl) : EGs X (e :: es) (i1 ++ i2) (tCons t u) :=
  PGs.cons (pgs_cons h1 h2 hs) fun vs σ H Q ⟨B, ρ, S, α, Z, ws, ρ', at_, rl, h, q⟩ => by
    cases rl with
    | nil => cases h
    | cons r rl =>
      obtain ⟨ρ1, e1, e2⟩ := Option.bind_eq_some_iff.mp h
      exact ⟨_, _, rfl, B, ρ, S, α, Z, _, ρ1, at_, Fits.frz at_.w r, e1, fun σ1 at1 sl1 => ⟨B, ρ1, S, α, Z, _, ρ', at1, rl, e2, fun σ2 at2 sl2 => q σ2 at2 ⟨sl2.1.trans sl1.1, fun j hj => (sl2.2 j fun h => hj (List.mem_append_right _ h)).trans (sl1.2 j fun h => hj (List.mem_append_left _ h))⟩⟩⟩
def tTup (n : Nat) (t : List W → Env → Option Env) : CG := fun r ρ => match r.1 with
  | .tup ws => if ws.length = n then t ws ρ else none
  | _ => none
theorem g_tup {X : Cx} {es : List Expr} {k : Nat} {pos : Pos} {is : List Nat} {t : List W → Env → Option Env} {n : Nat} (hc : X.calm = true) (h : EGs X es is t) (hn : (assignEach es X.env).length = n := by rfl) (hst : (assignEach es X.env).findIdx? (·.1) = none := by rfl) :
    EG X (.Tuple es k pos) is (tTup n t) := PG.cons (pg_tup hc h hn hst) fun v σ H Q ⟨B, ρ, S, α, Z, r, ρ', at_, ft, h, q⟩ => by
  obtain ⟨w, m⟩ := r
  cases w with
  | tup ws =>
    have h : (if ws.length = n then t ws ρ else none) = some ρ' := h
    split at h
    · rename_i hl
      obtain ⟨a, xs, rfl, ha, rl⟩ := ft.rep.ofTup
      exact ⟨a, xs, rfl, .of ha, rl.length.trans hl, B, ρ, S, α, Z, ws, ρ', at_, rl, h, q⟩
    · cases h
  | _ => cases h
def cAsg (t : CG) (fe : CE) : CS := fun ρ S => bnd (fe ρ S) fun r S => (t r ρ).map fun ρ' => .nx ρ' S
theorem Got.fits {K : PySem.W.Frag} {B : Bs} {ρ : Env} {S : Store} {σ : L2.St} {H H' : Hp} {α α' : List Addr} {Z Z' : Addr → Prop} {r : Wm} {v : V} (a : At K B ρ S σ H α Z) (g : Got K H α' Z' H' r v) : Fits K B ρ σ H' α' Z' r v :=
  ⟨g.rep, fun e1 e2 b e3 => by
    have hb := g.fr e1 e2 b e3
    refine ⟨a.k.d b hb, fun j w m hj hm hσ => ?_⟩
    obtain ⟨u, q1, q2⟩ := a.e.slot j w m hj
    rw [hσ] at q1
    cases q1
    cases q2 with
    | im e _ => rw [hm] at e; cases e
    | mu c0 => rw [hb] at c0; cases c0⟩
theorem s_asg {X : Cx} {tg e : Expr} {fe : CE} {is : List Nat} {t : CG} {pos : Pos} (hg : EG X tg is t) (he : EE X e fe) (hs : swapsWithSole [tg] e pos.line X.env = pure false := by rfl) (hw : swappedStores [tg] e X.env = pure none := by rfl)
    (h1 : (assignEach [tg] X.env).map (·.2) = [assign tg X.env] := by rfl) : ES X (.Assign [tg] e pos) (cAsg t fe) := PS.cons (ps_asg he hg hs hw h1) fun D σ H ⟨B, ρ, S, o, ⟨α, Z, at_⟩, h, q⟩ => by
  obtain ⟨r, S1, h1, h⟩ := of_bnd h
  obtain ⟨ρ', e1, rfl⟩ := Option.map_eq_some_iff.mp h
  exact ⟨ρ, S, α, Z, r, S1, at_.w, at_.e, h1, fun v H1 α1 Z1 k1 w1 g => ⟨B, ρ, S1, α1, Z1, r, ρ', at_.go k1 w1, g.fits at_, e1, fun σ' at' _ => q σ' H1 ⟨α1, Z1, at'⟩⟩⟩
/-- name op= e, by an operator that makes ints -/
def cAug (i : Nat) (g : W → W → Option W) (fe : CE) : CS := fun ρ S => bnd (fe ρ S) fun r S => match ρ[i]? with
  | some (some (w, _)) => (match g w r.1 with
    | some (.int z) => some (.nx (ρ.set i (some (.int z, .frz))) S)
    | _ => none)
  | _ => none
def gMulA : W → W → Option W := gMul
theorem s_augR {X : Cx} (i : Nat) {x : Str} {e : Expr} {fe : CE} {op : Operator} {g : W → W → Option W} {ti : TIp} {pos pos' : Pos} (hN : X.N.Nodup) (he : EE X e fe) (ho : PIp X op ti)
    (hg : ∀ a b z, g a b = some (.int z) → ∃ i j, a = .int i ∧ b = .int j ∧ ∀ H (Q : VK), Q (.int z) H → ti (.int i) (.int j) H Q) (hi : X.N[i]? = some x := by rfl) (hx : Loc X.env.scope x := by first | exact Or.inl rfl | exact Or.inr rfl)
    (hf : X.fn x = true ∨ X.env.scope.names.lookup x = some .local := by first | exact .inl rfl | exact .inr rfl) : ES X (.AugAssign (.Name x pos') op e pos) (cAug i g fe) :=
  PS.cons (ps_aug hN hi hx he ho hf) fun D σ H ⟨B, ρ, S, o, ⟨α, Z, at_⟩, h, q⟩ => by
    obtain ⟨r, S1, h1, h⟩ := of_bnd h
    split at h
    · rename_i w m hr
      split at h
      · rename_i z hz
        cases h
        obtain ⟨a, b, rfl, eb, hq⟩ := hg _ _ _ hz
        obtain ⟨v, e1, r1⟩ := at_.e.slot i _ m hr
        refine ⟨v, e1, ρ, S, α, Z, r, _, at_.w, at_.e, h1, fun v1 H1 α1 Z1 k1 w1 g => ?_⟩
        obtain ⟨rw_, rm⟩ := r
        dsimp only at eb
        subst eb
        rw [r1.ofInt, g.rep.ofInt]
        refine hq _ _ (q _ _ ⟨α1, Z1, ?_⟩)
        exact (at_.go k1 w1).set (r := (.int z, .frz)) i ⟨.im rfl (.int z), fun e => by cases e⟩ rfl
      · cases h
    · cases h
def gAddI : W → W → Option W := fun a b => match a, b with | .int i, .int j => some (.int (i + j)) | _, _ => none
theorem s_augAdd {X : Cx} (i : Nat) {x : Str} {e : Expr} {fe : CE} {pos pos' : Pos} (hN : X.N.Nodup) (he : EE X e fe) (hi : X.N[i]? = some x := by rfl) (hx : Loc X.env.scope x := by first | exact Or.inl rfl | exact Or.inr rfl)
    (hf : X.fn x = true ∨ X.env.scope.names.lookup x = some .local := by first | exact .inl rfl | exact .inr rfl) : ES X (.AugAssign (.Name x pos') .Add e pos) (cAug i gAddI fe) :=
  s_augR i hN he ip_add (fun a b z h => by
    unfold gAddI at h
    split at h
    · cases h; exact ⟨_, _, rfl, rfl, fun H Q q => ⟨_, _, rfl, rfl, q⟩⟩
    · cases h) hi hx hf

/-! ### what is walked -/
def OwnRoot (ρ : Env) (σ : L2.St) (a : Addr) : Prop := ∃ (i : Nat) (w : W), ρ[i]? = some (some (w, Md.own)) ∧ w.mut = true ∧ σ[i]? = some (some (.ref a))
open Classical in
/-- the heap without what this frame may write -/
noncomputable def hide (ρ : Env) (σ : L2.St) (H : Hp) : Hp := fun a => if OwnRoot ρ σ a then none else H a
section
variable {K : PySem.W.Frag} {α α' : List Addr} {Z Z' : Addr → Prop} {H H' : Hp} {S S' : Store} {ρ : Env} {σ : L2.St} {B : Bs}
theorem hide_some {a : Addr} {o : HO} (h : H a = some o) (n : ¬ OwnRoot ρ σ a) : hide ρ σ H a = some o := by unfold hide; rw [if_neg n]; exact h
theorem of_hide {a : Addr} {o : HO} (h : hide ρ σ H a = some o) : H a = some o ∧ ¬ OwnRoot ρ σ a := by
  unfold hide at h
  split at h
  · cases h
  · rename_i n; exact ⟨h, n⟩
theorem hide_none {a : Addr} (h : hide ρ σ H a = none) : H a = none ∨ OwnRoot ρ σ a := by
  unfold hide at h
  split at h
  · rename_i n; exact .inr n
  · exact .inl h
theorem hide_none' {a : Addr} (h : H a = none) : hide ρ σ H a = none := by
  unfold hide; split <;> first | rfl | exact h
theorem EnvOk.root (e : EnvOk K α Z H ρ σ) {a : Addr} (r : OwnRoot ρ σ a) : ∃ o w xs ws, H a = some o ∧ Shape o w xs ws ∧ a ∉ α ∧ ¬ Z a := by
  obtain ⟨i, w, h1, h2, h3⟩ := r
  obtain ⟨v, e1, r1⟩ := e.slot i w _ h1
  obtain ⟨p, o, xs, ws, rfl, h0, s, rl, hn, c1, c2⟩ := r1.muE h2
  rw [h3] at e1
  cases e1
  exact ⟨o, w, xs, ws, h0, s, hn, c1 rfl⟩
mutual
theorem Rep.there (ht : ∀ a xs, H a = some (.tup xs) → H' a = some (.tup xs)) (hz : ∀ a o, Z a → H a = some o → H' a = some o) (hf : ∀ a o u, H a = some (.frz o u) → H' a = some (.frz o u)) : ∀ {v : V} {w : W}, Rep K α Z H v w → Rep K α Z H' v w
  | _, _, .non => .non
  | _, _, .bl b => .bl b
  | _, _, .int i => .int i
  | _, _, .str x => .str x
  | _, _, .ty n => .ty n
  | _, _, .tup h r => .tup (ht _ _ h) (RepL.there ht hz hf r)
  | _, _, .mu h z s r => .mu (hz _ _ z h) z s (RepL.there ht hz hf r)
  | _, _, .scr h => .scr (by
      rcases h with ⟨o, h⟩ | h
      · exact .inl ⟨o, hf _ _ _ h⟩
      · exact .inr h)
  | _, _, .cel h => .cel h
theorem RepL.there (ht : ∀ a xs, H a = some (.tup xs) → H' a = some (.tup xs)) (hz : ∀ a o, Z a → H a = some o → H' a = some o) (hf : ∀ a o u, H a = some (.frz o u) → H' a = some (.frz o u)) : ∀ {vs : List V} {ws : List W}, RepL K α Z H vs ws → RepL K α Z H' vs ws
  | _, _, .nil => .nil
  | _, _, .cons r t => .cons (Rep.there ht hz hf r) (RepL.there ht hz hf t)
end
theorem EnvOk.hideL (e : EnvOk K α Z H ρ σ) {vs : List V} {ws : List W} (r : RepL K α Z H vs ws) : RepL K α Z (hide ρ σ H) vs ws :=
  r.there (fun a xs h => hide_some h fun q => by
    obtain ⟨o, w, xs', ws', h0, s, _⟩ := e.root q
    rw [h] at h0; cases h0; exact s.ntup _ rfl) (fun a o z h => hide_some h fun q => by
    obtain ⟨o, w, xs', ws', h0, s, _, n⟩ := e.root q
    exact n z) (fun a o u h => hide_some h fun q => by
    obtain ⟨o, w, xs', ws', h0, s, _⟩ := e.root q
    rw [h] at h0; cases h0; cases s)
theorem EnvOk.hideW (e : EnvOk K α Z H ρ σ) (w : WOk K H S α Z) : WOk K (hide ρ σ H) S α Z :=
  ⟨w.nd, Paired.impM w.cells fun a ws ha ⟨xs, h, r⟩ => ⟨xs, hide_some h fun q => by
    obtain ⟨o, w, xs', ws', h0, s, n, _⟩ := e.root q
    exact n ha, e.hideL r⟩, w.zα, fun a z h => by
    rcases hide_none h with h | q
    · exact w.zH a z h
    · obtain ⟨o, w, xs', ws', h0, s, _, n⟩ := e.root q
      exact n z⟩
theorem Keep.unhide : Keep (hide ρ σ H) α Z H α Z := ⟨⟨[], by simp, by simp⟩, fun a o h _ => (of_hide h).1, fun a h => hide_none' h, fun _ h => h, fun _ h => .inl h⟩
theorem At.keepHide (a : At K B ρ S σ H α Z) : Keep B.H B.α B.Z (hide ρ σ H) α Z := by
  have nr : ∀ b, B.H b ≠ none → ¬ OwnRoot ρ σ b := fun b hb q => by
    obtain ⟨i, w, h1, h2, h3⟩ := q
    exact hb (a.o i w h1 h2 b h3)
  refine ⟨a.k.al, fun b o h hn => hide_some (a.k.h b o h hn) (nr b (by rw [h]; simp)), fun b h => ?_, a.k.z, a.k.z'⟩
  rcases hide_none h with h | ⟨i, w, h1, h2, h3⟩
  · exact a.k.d b h
  · exact a.o i w h1 h2 b h3
theorem At.rebase (a : At K B ρ S σ H α Z) : At K ⟨hide ρ σ H, α, Z⟩ ρ S σ H α Z :=
  ⟨a.w, Keep.unhide, a.e, fun i w h1 h2 b h3 => by
    show hide ρ σ H b = none
    unfold hide
    exact if_pos ⟨i, w, h1, h2, h3⟩⟩
/-- what stands over the narrower base stands over the wider -/
theorem SOk.wide {ρ' : Env} {S1 : Store} {σ' : L2.St} (a : At K B ρ S σ H α Z) (s : SOk K ⟨hide ρ σ H, α, Z⟩ ρ' S1 σ' H') : SOk K B ρ' S1 σ' H' := by
  obtain ⟨α1, Z1, b⟩ := s
  exact ⟨α1, Z1, b.w, a.keepHide.trans b.k, b.e, fun i w h1 h2 c h3 => a.keepHide.d c (b.o i w h1 h2 c h3)⟩
end
def Walks (K : PySem.W.Frag) (J : It) (ws : List W) (H1 : Hp) (α1 : List Addr) (Z1 : Addr → Prop) : Prop := ∀ H α Z S, Keep H1 α1 Z1 H α Z → WOk K H S α Z → ∀ i,
  (∀ w, ws[i]? = some w → J.go i H ∧ ∀ x H', J.yld i H x H' → (H' = H ∨ ∃ p u, H p = none ∧ H' = upd H p u) ∧ Rep K α Z H' x w) ∧ (i = ws.length → J.stop i H)
abbrev CI := Env → Store → Option (List W × Store)
def semI (K : PySem.W.Frag) (f : CI) : TI := fun σ H R => ∃ ρ S α Z ws S', WOk K H S α Z ∧ EnvOk K α Z H ρ σ ∧ f ρ S = some (ws, S') ∧
  ∀ J H1 α1 Z1, Keep H α Z H1 α1 Z1 → WOk K H1 S' α1 Z1 → Walks K J ws (hide ρ σ H1) α1 Z1 → R J H1
abbrev EI (X : Cx) (tg it : Expr) (f : CI) : Prop := PI X tg it (semI X.K f)
theorem PI.cons {X : Cx} {tg it : Expr} {t t' : TI} (h : PI X tg it t) (i : ∀ σ H Q, t' σ H Q → t σ H Q) : PI X tg it t' := ⟨fun pins s σ H R I q => h.run pins s σ H R I (i σ H R q)⟩
section
variable {X : Cx} {K : PySem.W.Frag} {α : List Addr} {Z : Addr → Prop} {H : Hp} {S : Store} {ρ : Env} {σ : L2.St} {a : Addr} {xs : List V} {ws : List W} {tg it : Expr}
theorem walks_list (w : WOk K H S α Z) (e : EnvOk K α Z H ρ σ) (h : H a = some (.lst xs)) (hn : a ∉ α) (no : ¬ OwnRoot ρ σ a) (r : RepL K α Z H xs ws) : Walks K (Itl K a) ws (hide ρ σ H) α Z := by
  intro H2 α2 Z2 S2 k w2 i
  have h2 : H2 a = some (.lst xs) := k.h _ _ (hide_some h no) hn
  have r2 : RepL K α2 Z2 H2 xs ws := (e.hideL r).keep (e.hideW w) k
  refine ⟨fun u hu => ?_, fun hu => ⟨xs, .of h2, by rw [r2.length, hu]; exact Nat.le_refl _⟩⟩
  obtain ⟨v, hv, rv⟩ := r2.get hu
  refine ⟨⟨xs, v, .of h2, hv⟩, fun x H' y => ?_⟩
  obtain ⟨rfl, y⟩ := y
  have := y xs (.of h2)
  rw [hv] at this
  cases this
  exact ⟨.inl rfl, rv⟩
theorem walks_tup (w : WOk K H S α Z) (e : EnvOk K α Z H ρ σ) (h : H a = some (.tup xs)) (r : RepL K α Z H xs ws) : Walks K (Itt K a) ws (hide ρ σ H) α Z := by
  intro H2 α2 Z2 S2 k w2 i
  have hh : hide ρ σ H a = some (.tup xs) := hide_some h fun q => by
    obtain ⟨o, w, xs', ws', h0, s, _⟩ := e.root q
    rw [h] at h0; cases h0; exact s.ntup _ rfl
  have h2 : H2 a = some (.tup xs) := k.tup (fun _ h => (e.hideW w).cell h) hh
  have r2 : RepL K α2 Z2 H2 xs ws := (e.hideL r).keep (e.hideW w) k
  refine ⟨fun u hu => ?_, fun hu => ⟨xs, .of h2, by rw [r2.length, hu]; exact Nat.le_refl _⟩⟩
  obtain ⟨v, hv, rv⟩ := r2.get hu
  refine ⟨⟨xs, v, .of h2, hv⟩, fun x H' y => ?_⟩
  obtain ⟨rfl, y⟩ := y
  have := y xs (.of h2)
  rw [hv] at this
  cases this
  exact ⟨.inl rfl, rv⟩
def rangeW (lo : Int) (n : Nat) : List W := (List.range n).map fun i => .int (lo + (i : Nat))
theorem rangeW_get (lo : Int) (n i : Nat) : (rangeW lo n)[i]? = if i < n then some (.int (lo + (i : Nat))) else none := by
  unfold rangeW
  rw [List.getElem?_map]
  split
  · rename_i h; rw [List.getElem?_range h]; rfl
  · rename_i h; rw [List.getElem?_eq_none (by simpa using h)]; rfl
theorem walks_range (lo : Int) (n : Nat) : Walks K (Itr lo n) (rangeW lo n) H α Z := by
  intro H2 α2 Z2 S2 k w2 i
  rw [rangeW_get]
  refine ⟨fun u hu => ?_, fun hu => ?_⟩
  · split at hu
    · rename_i hi
      cases hu
      refine ⟨hi, fun x H' y => ?_⟩
      obtain ⟨rfl, rfl⟩ := y
      exact ⟨.inl rfl, .int _⟩
    · cases hu
  · unfold rangeW at hu
    rw [List.length_map, List.length_range] at hu
    exact Nat.le_of_eq hu.symm
/-- an item's source: which of the two -/
theorem PI.or {t u : TI} (h1 : PI X tg it t) (h2 : PI X tg it u) : PI X tg it (fun σ H R => t σ H R ∨ u σ H R) := ⟨fun pins s σ H R I q => by
  rcases q with q | q
  · exact h1.run pins s σ H R I q
  · exact h2.run pins s σ H R I q⟩
def itemsOf : W → Option (List W)
  | .tup ws => some ws
  | .lst ws => some ws
  | _ => none
/-- for x in e, e no bare name: what came is nobody's -/
def iExp (f : CE) : CI := fun ρ S => bnd (f ρ S) fun r S => if sto r = true then (itemsOf r.1).map fun ws => (ws, S) else none
/-- for x in a name's list (which the loop does not write) -/
def iVar (i : Nat) : CI := fun ρ S => match ρ[i]? with
  | some (some (w, m)) => if w.mut = true ∧ m = .own then none else (itemsOf w).map fun ws => (ws, S)
  | _ => none
theorem i_exp {e : Expr} {f : CE} (h : EE X e f) : EI X tg e (iExp f) := PI.cons (PI.or (pi_list (tg := tg) h) (pi_tup (tg := tg) h)) fun σ H R ⟨ρ, S, α, Z, ws, S', wo, en, h, q⟩ => by
  obtain ⟨r, S1, h1, h⟩ := of_bnd h
  split at h
  · rename_i hs
    obtain ⟨ws', hw, e⟩ := Option.map_eq_some_iff.mp h
    cases e
    obtain ⟨w, m⟩ := r
    cases w with
    | tup us =>
      cases hw
      refine .inr ⟨ρ, S, α, Z, _, _, wo, en, h1, fun v H1 α1 Z1 k w g => ?_⟩
      obtain ⟨a, xs, rfl, h0, rl⟩ := g.rep.ofTup
      exact ⟨a, rfl, ⟨xs, .of h0⟩, q _ _ _ _ k w (walks_tup w (en.keep wo k) h0 rl)⟩
    | lst us =>
      cases hw
      refine .inl ⟨ρ, S, α, Z, _, _, wo, en, h1, fun v H1 α1 Z1 k w g => ?_⟩
      obtain ⟨a, xs, rfl, h0, rl, hn, c1, c2⟩ := g.rep.ofLst
      refine ⟨a, rfl, ⟨xs, .of h0⟩, q _ _ _ _ k w (walks_list w (en.keep wo k) h0 hn (fun ro => ?_) rl)⟩
      cases m with
      | own =>
        have := g.fr rfl rfl a rfl
        obtain ⟨o, _, _, _, h0', _⟩ := en.root ro
        rw [this] at h0'; cases h0'
      | frz =>
        obtain ⟨o, _, _, _, _, _, _, nz⟩ := (en.keep wo k).root ro
        exact nz (c2 rfl)
      | brw => cases hs
    | _ => cases hw
  · cases h
theorem i_var (i : Nat) {x : Str} {pos : Pos} (hN : X.N[i]? = some x := by rfl) (hv : Vis X.env.scope x := by first | exact Or.inl rfl | exact Or.inr (Or.inl rfl) | exact Or.inr (Or.inr rfl)) (hd : (x == ("__debug__" : Str)) = false := by decide)
    (hcd : (x == ("__classdict__" : Str)) = false := by decide) : EI X tg (.Name x pos) (iVar i) := PI.cons (PI.or (pi_list (tg := tg) (pe_var hN hv hd hcd)) (pi_tup (tg := tg) (pe_var hN hv hd hcd))) fun σ H R ⟨ρ, S, α, Z, ws, S', wo, en, h, q⟩ => by
  unfold iVar at h
  split at h
  · rename_i w m hr
    split at h
    · cases h
    · rename_i hno
      obtain ⟨ws', hw, e⟩ := Option.map_eq_some_iff.mp h
      cases e
      obtain ⟨v, e1, r1⟩ := en.slot i w m hr
      cases w with
      | tup us =>
        cases hw
        obtain ⟨a, xs, rfl, h0, rl⟩ := r1.ofTup
        exact .inr ⟨_, e1, a, rfl, ⟨xs, .of h0⟩, q _ _ _ _ Keep.refl wo (walks_tup wo en h0 rl)⟩
      | lst us =>
        cases hw
        obtain ⟨a, xs, rfl, h0, rl, hn, c1, c2⟩ := r1.ofLst
        refine .inl ⟨_, e1, a, rfl, ⟨xs, .of h0⟩, q _ _ _ _ Keep.refl wo (walks_list wo en h0 hn (fun ro => ?_) rl)⟩
        obtain ⟨j, w', g1, g2, g3⟩ := ro
        by_cases hij : j = i
        · subst hij
          rw [hr] at g1
          cases g1
          exact hno ⟨rfl, rfl⟩
        · exact en.sep j i w' _ m hij g1 g2 hr rfl (g3.trans e1.symm)
      | _ => cases hw
  · cases h
def iRange1 (f : CE) : CI := fun ρ S => bnd (f ρ S) fun r S => match r.1 with
  | .int j => if j.natAbs < 1073741824 then some (rangeW 0 j.toNat, S) else none
  | _ => none
def iRange2 (f g : CE) : CI := fun ρ S => bnd (f ρ S) fun a S => bnd (g ρ S) fun b S => match a.1, b.1 with
  | .int i, .int j => if i.natAbs < 1073741824 ∧ j.natAbs < 1073741824 then some (rangeW i (j - i).toNat, S) else none
  | _, _ => none
theorem i_range1 {e : Expr} {f : CE} {p pos : Pos} (hm : X.mg "range" = none) (h : EE X e f) (hg : Gl X "range" := by rfl) (hs : starEach [e] X.env = [(false, eval e X.env)] := by rfl) (hs2 : starEach (e :: []) X.env = (false, eval e X.env) :: starEach [] X.env := by rfl) : EI X tg (.Call (.Name "range" p) [e] [] pos) (iRange1 f) :=
  PI.cons (pi_range1 hg hm (a_cons h a_nil hs2) hs) fun σ H R ⟨ρ, S, α, Z, ws, S', wo, en, h, q⟩ => by
    obtain ⟨r, S1, h1, h⟩ := of_bnd h
    obtain ⟨w, m⟩ := r
    cases w with
    | int j =>
      have h : (if j.natAbs < 1073741824 then some (rangeW 0 j.toNat, S1) else none) = some (ws, S') := h
      split at h
      · rename_i hb
        cases h
        refine ⟨ρ, S, α, Z, _, _, wo, en, (by unfold cCons; rw [h1]; rfl), fun vs H1 α1 Z1 k w g => ?_⟩
        cases g with
        | cons g gt =>
          cases gt
          exact ⟨j, by rw [g.rep.ofInt], by omega, by omega, q _ _ _ _ k w (walks_range 0 _)⟩
      · cases h
    | _ => cases h
theorem i_range2 {e e2 : Expr} {f g : CE} {p pos : Pos} (hm : X.mg "range" = none) (h : EE X e f) (h2 : EE X e2 g) (hg : Gl X "range" := by rfl) (hs : starEach [e, e2] X.env = [(false, eval e X.env), (false, eval e2 X.env)] := by rfl) (hs2 : starEach [e2] X.env = [(false, eval e2 X.env)] := by rfl)
    (hs3 : starEach (e :: [e2]) X.env = (false, eval e X.env) :: starEach [e2] X.env := by rfl) (hs4 : starEach (e2 :: []) X.env = (false, eval e2 X.env) :: starEach [] X.env := by rfl) : EI X tg (.Call (.Name "range" p) [e, e2] [] pos) (iRange2 f g) :=
  PI.cons (pi_range2 hg hm (a_cons h (a_cons h2 a_nil hs4) hs3) hs hs2) fun σ H R ⟨ρ, S, α, Z, ws, S', wo, en, h, q⟩ => by
    obtain ⟨r, S1, h1, h⟩ := of_bnd h
    obtain ⟨r2, S2, h2, h⟩ := of_bnd h
    obtain ⟨w, m⟩ := r
    obtain ⟨w2, m2⟩ := r2
    cases w with
    | int i =>
      cases w2 with
      | int j =>
        have h : (if i.natAbs < 1073741824 ∧ j.natAbs < 1073741824 then some (rangeW i (j - i).toNat, S2) else none) = some (ws, S') := h
        split at h
        · rename_i hb
          cases h
          refine ⟨ρ, S, α, Z, _, _, wo, en, (by unfold cCons; rw [h1]; simp only [bnd_some]; rw [h2]; rfl), fun vs H1 α1 Z1 k w g => ?_⟩
          cases g with
          | cons g gt =>
            cases gt with
            | cons g2 gt =>
              cases gt
              exact ⟨i, j, by rw [g.rep.ofInt, g2.rep.ofInt], ⟨by omega, by omega, by omega, by omega⟩, q _ _ _ _ k w (walks_range i _)⟩
        · cases h
      | _ => cases h
    | _ => cases h
end

/-! ### for -/
def cForL (t : CG) (body : CS) : List W → Env → Store → Option SOut
  | [], ρ, S => some (.nx ρ S)
  | w :: ws, ρ, S => match t (w, .frz) ρ with
    | none => none
    | some ρ1 => match body ρ1 S with
      | some (.nx ρ2 S2) => cForL t body ws ρ2 S2
      | some (.ct ρ2 S2) => cForL t body ws ρ2 S2
      | some (.bk ρ2 S2) => some (.nx ρ2 S2)
      | some (.rt r S2) => some (.rt r S2)
      | none => none
def cFor (t : CG) (it : CI) (body : CS) : CS := fun ρ S => bnd (it ρ S) fun ws S => cForL t body ws ρ S
section
variable {X : Cx} {tg iter : Expr} {body : List Stmt} {is : List Nat} {t : CG} {it : CI} {f : CS} {pos : Pos}
/-- a turn's item, come -/
theorem At.item {K : PySem.W.Frag} {B : Bs} {ρ : Env} {S : Store} {σ : L2.St} {H H' : Hp} {α : List Addr} {Z : Addr → Prop} (a : At K B ρ S σ H α Z) (h : H' = H ∨ ∃ p u, H p = none ∧ H' = upd H p u) : At K B ρ S σ H' α Z := by
  rcases h with rfl | ⟨p, u, hp, rfl⟩
  · exact a
  · exact a.go (Keep.new hp) (a.w.new hp)
theorem s_for (hc : X.calm = true) (hg : EG X tg is t) (hi : EI X tg iter it) (hb : ESs X body f) (hp : PassesOwn (model X.prog X.w) X.A X.env X.xe := by exact PassesOwn.never) (hs : ∀ x, foldedSetIterable iter X.env x = pure x := by intro _; rfl) : ES X (.For tg iter body [] pos) (cFor t it f) :=
  PS.cons (ps_for hp hc hi hg hb hs) fun D σ H ⟨B, ρ, S, o, ⟨α, Z, at_⟩, h, q⟩ => by
    obtain ⟨ws, S1, h1, h⟩ := of_bnd h
    refine ⟨ρ, S, α, Z, ws, S1, at_.w, at_.e, h1, fun J H1 α1 Z1 k w wk => ?_⟩
    have a1 := at_.go k w
    have rb := a1.rebase
    refine ⟨fun i m σ' H' => m = ws.length - i ∧ i ≤ ws.length ∧ ∃ ρ' S', SOk X.K ⟨hide ρ σ H1, α1, Z1⟩ ρ' S' σ' H' ∧ cForL t f (ws.drop i) ρ' S' = some o, ⟨ws.length, by simp, Nat.zero_le _, ρ, S1, ⟨α1, Z1, rb⟩, h⟩, ?_⟩
    rintro i m σ' H' ⟨rfl, hi, ρ', S', ⟨α', Z', a'⟩, h'⟩
    obtain ⟨w1, w2⟩ := wk H' α' Z' S' a'.k a'.w i
    by_cases hlt : i < ws.length
    · have hw : ws[i]? = some ws[i] := List.getElem?_eq_getElem hlt
      obtain ⟨go, yl⟩ := w1 _ hw
      rw [List.drop_eq_getElem_cons hlt] at h'
      refine .inr ⟨go, fun σ2 H2 => ∃ ρ2 S2, SOk X.K ⟨hide ρ σ H1, α1, Z1⟩ ρ2 S2 σ2 H2 ∧ cForL t f (ws.drop (i + 1)) ρ2 S2 = some o, fun σ2 H2 ⟨ρ2, S2, s2, e2⟩ => ⟨ws.length - (i + 1), by omega, rfl, hlt, ρ2, S2, s2, e2⟩, fun x H2 y => ?_⟩
      obtain ⟨ext, rx⟩ := yl x H2 y
      have a2 := a'.item ext
      unfold cForL at h'
      cases ht : t (ws[i], .frz) ρ' with
      | none => rw [ht] at h'; cases h'
      | some ρ3 =>
        rw [ht] at h'
        refine ⟨_, ρ', S', α', Z', _, ρ3, a2, Fits.frz a2.w rx, ht, fun σ3 a3 _ => ?_⟩
        dsimp only at h'
        cases hf : f ρ3 S' with
        | none => rw [hf] at h'; cases h'
        | some o1 =>
          rw [hf] at h'
          refine ⟨_, ρ3, S', o1, ⟨α', Z', a3⟩, hf, ?_⟩
          cases o1 with
          | nx ρ4 S4 => exact fun σ4 H4 s4 => ⟨ρ4, S4, s4, h'⟩
          | ct ρ4 S4 => exact fun σ4 H4 s4 => ⟨ρ4, S4, s4, h'⟩
          | bk ρ4 S4 =>
            cases h'
            exact fun σ4 H4 s4 => q σ4 H4 (s4.wide a1)
          | rt r S4 =>
            cases h'
            exact ⟨q.1, fun v H4 α4 Z4 k4 w4 g4 => q.2 v H4 α4 Z4 (a1.keepHide.trans k4) w4 (g4.back a1.keepHide.d)⟩
    · have e : ws.drop i = [] := List.drop_eq_nil_of_le (by omega)
      rw [e] at h'
      cases h'
      exact .inl ⟨w2 (by omega), q σ' H' (SOk.wide a1 ⟨α', Z', a'⟩)⟩
end

/-! ### list comprehensions -/
def wipeE (ρ : Env) : List Nat → Env
  | [] => ρ
  | v :: vs => (wipeE ρ vs).set v none
abbrev CC := Env → Store → Option (Bool × Store)
def lcL (t : CG) (c : CT) (f : CE) (ρ : Env) : List W → Store → Option (List W × Store)
  | [], S => some ([], S)
  | w :: ws, S => match t (w, .frz) ρ with
    | none => none
    | some ρ1 => bnd (c ρ1 S) fun b S1 => if b = true then bnd (f ρ1 S1) fun r S2 => if sto r = true then bnd (lcL t c f ρ ws S2) fun rs S3 => some (r.1 :: rs, S3) else none
        else lcL t c f ρ ws S1
def cLc (t : CG) (it : CI) (c : CT) (f : CE) (vs : List Nat) : CE := fun ρ S => bnd (it ρ S) fun ws S => if ws.length ≤ sizeLine then bnd (lcL t c f (wipeE ρ vs) ws S) fun rs S => some ((.lst rs, .own), S) else none
def tYesT : CT := fun _ S => some (true, S)
theorem wipeE_get {ρ : Env} {i : Nat} {x : Wm} : ∀ {vs : List Nat}, (wipeE ρ vs)[i]? = some (some x) → ρ[i]? = some (some x) ∧ i ∉ vs
  | [], h => ⟨h, by simp⟩
  | v :: vs, h => by
    unfold wipeE at h
    by_cases hi : v = i
    · subst hi
      by_cases hv : v < (wipeE ρ vs).length
      · rw [List.getElem?_set_self hv] at h; cases h
      · rw [List.getElem?_eq_none (by simpa using hv)] at h; cases h
    · rw [List.getElem?_set_ne hi] at h
      obtain ⟨h1, h2⟩ := wipeE_get h
      exact ⟨h1, by simp only [List.mem_cons, not_or]; exact ⟨fun e => hi e.symm, h2⟩⟩
theorem wipeE_len (ρ : Env) : ∀ vs : List Nat, (wipeE ρ vs).length = ρ.length
  | [] => rfl
  | v :: vs => by unfold wipeE; rw [List.length_set, wipeE_len ρ vs]
theorem wipe_out {σ : L2.St} {i : Nat} : ∀ {vs : List Nat}, i ∉ vs → (wipe σ vs)[i]? = σ[i]?
  | [], _ => rfl
  | v :: vs, h => by
    unfold wipe
    rw [List.getElem?_set_ne (fun e => h (by simp [e]))]
    exact wipe_out fun q => h (List.mem_cons_of_mem _ q)
theorem wipe_in {σ : L2.St} {i : Nat} (hl : i < σ.length) : ∀ {vs : List Nat}, i ∈ vs → (wipe σ vs)[i]? = some none
  | v :: vs, h => by
    unfold wipe
    by_cases e : v = i
    · subst e
      rw [List.getElem?_set_self (by rw [wipe_length]; exact hl)]
    · rw [List.getElem?_set_ne e]
      rcases List.mem_cons.mp h with q | q
      · exact absurd q.symm e
      · exact wipe_in hl q
theorem wipe_eq {σ σ2 : L2.St} {is vs : List Nat} (s : Slots is (wipe σ vs) σ2) (hs : ∀ j ∈ is, j ∈ vs) : wipe σ2 vs = wipe σ vs := by
  have hl : σ2.length = σ.length := s.1.trans (wipe_length σ vs)
  refine List.ext_getElem? fun i => ?_
  by_cases hi : i < σ.length
  · by_cases hv : i ∈ vs
    · rw [wipe_in (by rw [hl]; exact hi) hv, wipe_in hi hv]
    · rw [wipe_out hv, s.2 i fun q => hv (hs i q)]
  · rw [List.getElem?_eq_none (by rw [wipe_length, hl]; omega), List.getElem?_eq_none (by rw [wipe_length]; omega)]
theorem EnvOk.wipe {K : PySem.W.Frag} {α : List Addr} {Z : Addr → Prop} {H : Hp} {ρ : Env} {σ : L2.St} (e : EnvOk K α Z H ρ σ) (vs : List Nat) : EnvOk K α Z H (wipeE ρ vs) (wipe σ vs) := by
  refine ⟨by rw [wipeE_len, wipe_length]; exact e.len, fun i w m h => ?_, fun i j w w' m' hne h1 h2 h3 h4 => ?_⟩
  · obtain ⟨q1, q2⟩ := wipeE_get h
    rw [wipe_out q2]; exact e.slot i w m q1
  · obtain ⟨q1, q2⟩ := wipeE_get h1
    obtain ⟨q3, q4⟩ := wipeE_get h3
    rw [wipe_out q2, wipe_out q4]; exact e.sep i j w w' m' hne q1 h2 q3 h4
abbrev ETs (X : Cx) (cs : List Expr) (f : CT) : Prop := PTs X cs (semT X.K f)
theorem ts_nil {X : Cx} : ETs X [] tYesT := ⟨fun pins s σ H Q I h => pts_nil.run pins s σ H Q I (by
  obtain ⟨ρ, S, α, Z, b, S', wo, en, h, q⟩ := h
  cases h
  exact q H α Z Keep.refl wo)⟩
theorem ts_one {X : Cx} {c : Expr} {f : CT} (h : ET X c f) : ETs X [c] f := pts_one h
section
variable {X : Cx} {tg iter elt : Expr} {ifs : List Expr} {scope : Scope} {own : List (Str × Nat)} {is : List Nat} {t : CG} {it : CI} {c : CT} {f : CE} {pos : Pos}
theorem lc_ok {σ : L2.St} {H : Hp} {Q : VK} {vs : List Nat} (hs : ∀ j ∈ is, j ∈ vs) (h : semE X.K (cLc t it c f vs) σ H Q) : tLc (semI X.K it) (semG X.K is t) (semT X.K c) (semE X.K f) vs σ H Q := by
  obtain ⟨ρ, S, α, Z, r', S', wo, en, h, q⟩ := h
  obtain ⟨ws, S1, h1, h⟩ := of_bnd h
  split at h
  · rename_i hsz
    obtain ⟨rs, S2, h2, h⟩ := of_bnd h
    cases h
    refine ⟨ρ, S, α, Z, ws, S1, wo, en, h1, fun J H1 α1 Z1 k w wk D hD => ?_⟩
    have en1 := en.keep wo k
    have k0 : Keep H1 α1 Z1 (upd H1 D (.lst [])) α1 Z1 := Keep.new hD
    have e2 : EnvOk X.K α1 Z1 (upd H1 D (.lst [])) (wipeE ρ vs) (wipe σ vs) := (en1.keep w k0).wipe vs
    refine ⟨fun i m H' => m = ws.length - i ∧ i ≤ ws.length ∧ ∃ S3 α3 Z3 acc accW tl, H' D = some (.lst acc) ∧ acc.length ≤ i ∧ Keep H1 α1 Z1 (fun a => if a = D then none else H' a) α3 Z3 ∧ WOk X.K H' S3 α3 Z3 ∧ ¬ Z3 D ∧ D ∉ α3 ∧ RepL X.K α3 Z3 H' acc accW ∧
        lcL t c f (wipeE ρ vs) (ws.drop i) S3 = some (tl, S') ∧ rs = accW ++ tl, ⟨ws.length, by simp, Nat.zero_le _, S1, α1, Z1, [], [], rs, upd_same, Nat.le_refl _, ?_, w.new hD, w.nZ hD, w.nα hD, .nil, h2, rfl⟩, ?_⟩
    · have : (fun a => if a = D then none else upd H1 D (.lst []) a) = H1 := by
        funext a
        by_cases e : a = D
        · rw [if_pos e, e, hD]
        · rw [if_neg e, upd_ne e]
      rw [this]; exact Keep.refl
    rintro i m H' ⟨rfl, hi, S3, α3, Z3, acc, accW, tl, hacc, hal, kk, wo3, nz, nα, rl, hl, hrs⟩
    -- the world behind the start of the walk
    have kk' : Keep H1 α1 Z1 H' α3 Z3 := ⟨kk.al, fun a o h hn => by
      have := kk.h a o h hn
      split at this
      · cases this
      · exact this, fun a h => by
      refine kk.d a ?_
      show (if a = D then none else H' a) = none
      rw [h]; simp, kk.z, kk.z'⟩
    have wk' := wk H' α3 Z3 S3 ((Keep.unhide (ρ := ρ) (σ := σ)).trans kk') wo3 i
    have en3 : EnvOk X.K α3 Z3 H' (wipeE ρ vs) (wipe σ vs) := (en1.keep w kk').wipe vs
    by_cases hlt : i < ws.length
    · have hw : ws[i]? = some ws[i] := List.getElem?_eq_getElem hlt
      obtain ⟨go, yl⟩ := wk'.1 _ hw
      rw [List.drop_eq_getElem_cons hlt] at hl
      refine .inr ⟨go, fun H2 => i + 1 ≤ ws.length ∧ ∃ S3 α3 Z3 acc accW tl, H2 D = some (.lst acc) ∧ acc.length ≤ i + 1 ∧ Keep H1 α1 Z1 (fun a => if a = D then none else H2 a) α3 Z3 ∧ WOk X.K H2 S3 α3 Z3 ∧ ¬ Z3 D ∧ D ∉ α3 ∧ RepL X.K α3 Z3 H2 acc accW ∧
        lcL t c f (wipeE ρ vs) (ws.drop (i + 1)) S3 = some (tl, S') ∧ rs = accW ++ tl, fun H2 h2 => ⟨ws.length - (i + 1), by omega, rfl, h2⟩, fun x H2 y => ?_⟩
      obtain ⟨ext, rx⟩ := yl x H2 y
      have k4 : Keep H' α3 Z3 H2 α3 Z3 := by
        rcases ext with rfl | ⟨p, u, hp, rfl⟩
        · exact Keep.refl
        · exact Keep.new hp
      have w4 : WOk X.K H2 S3 α3 Z3 := by
        rcases ext with rfl | ⟨p, u, hp, rfl⟩
        · exact wo3
        · exact wo3.new hp
      have en4 := en3.keep wo3 k4
      unfold lcL at hl
      cases ht : t (ws[i], .frz) (wipeE ρ vs) with
      | none => rw [ht] at hl; cases hl
      | some ρ1 =>
        rw [ht] at hl
        dsimp only at hl
        obtain ⟨b, S5, hb, hl⟩ := of_bnd hl
        -- the block's frame over what stands now
        have a4 : At X.K ⟨hide (wipeE ρ vs) (wipe σ vs) H2, α3, Z3⟩ (wipeE ρ vs) S3 (wipe σ vs) H2 α3 Z3 := ⟨w4, Keep.unhide, en4, fun i w h1 h2 b h3 => by
          show hide _ _ H2 b = none
          unfold hide
          exact if_pos ⟨i, w, h1, h2, h3⟩⟩
        refine ⟨_, _, S3, α3, Z3, _, ρ1, a4, Fits.frz w4 rx, ht, fun σ2 a5 sl => ⟨wipe_eq sl hs, ρ1, S3, α3, Z3, b, S5, w4, a5.e, hb, fun H3 α5 Z5 k5 w5 => ?_⟩⟩
        -- D through a step
        have stay : ∀ {Ha Hb : Hp} {αa αb : List Addr} {Za Zb : Addr → Prop} {acc : List V}, Keep Ha αa Za Hb αb Zb → Ha D = some (.lst acc) → ¬ Za D → D ∉ αa → Hb D = some (.lst acc) ∧ ¬ Zb D ∧ D ∉ αb := fun {Ha Hb αa αb Za Zb acc} k h n1 n2 =>
          ⟨k.h _ _ h n2, (fun z => by
            rcases k.z' _ z with z | z
            · exact n1 z
            · rw [h] at z; cases z), k.notin h n2⟩
        obtain ⟨d4, nz4, nα4⟩ := stay k4 hacc nz nα
        obtain ⟨d5, nz5, nα5⟩ := stay k5 d4 nz4 nα4
        have keepD : ∀ {Hb : Hp} {αb : List Addr} {Zb : Addr → Prop}, Keep H' α3 Z3 Hb αb Zb → ¬ Zb D → D ∉ αb → Keep H1 α1 Z1 (fun a => if a = D then none else Hb a) αb Zb := fun {Hb αb Zb} k n1 n2 => by
          have kt := kk'.trans k
          refine ⟨kt.al, fun a o h hn => ?_, fun a h => ?_, kt.z, kt.z'⟩
          · show (if a = D then none else Hb a) = some o
            by_cases e : a = D
            · rw [e] at h; rw [hD] at h; cases h
            · rw [if_neg e]; exact kt.h a o h hn
          · have h : (if a = D then none else Hb a) = none := h
            by_cases e : a = D
            · rw [e]; exact hD
            · rw [if_neg e] at h; exact kt.d a h
        cases b with
        | false =>
          rw [if_neg Bool.false_ne_true] at hl
          refine iteF ⟨hlt, S5, α5, Z5, acc, accW, tl, d5, Nat.le_succ_of_le hal, keepD (k4.trans k5) nz5 nα5, w5, nz5, nα5, (rl.keep wo3 k4).keep w4 k5, hl, hrs⟩
        | true =>
          rw [if_pos rfl] at hl
          obtain ⟨r, S6, hf, hl⟩ := of_bnd hl
          split at hl
          · rename_i hst
            obtain ⟨rs', S7, hl, he⟩ := of_bnd hl
            cases he
            refine iteT ⟨ρ1, S5, α5, Z5, r, S6, w5, a5.e.keep w4 k5, hf, fun v H6 α6 Z6 k6 w6 g6 => ?_⟩
            obtain ⟨d6, nz6, nα6⟩ := stay k6 d5 nz5 nα5
            obtain ⟨Z7, zz, k7, w7, r7⟩ := freeze_all (rs := [r]) (vs := [v]) w6 k6 (.cons g6 .nil) (by simp [hst])
            have nz7 : ¬ Z7 D := fun z => by
              rcases k7.z' _ z with z | z
              · exact nz5 z
              · rw [d5] at z; cases z
            refine ⟨acc, d6, Nat.lt_of_le_of_lt hal (Nat.lt_of_lt_of_le hlt hsz), hlt, S6, α6, Z7, acc ++ [v], accW ++ [r.1], rs', upd_same, by rw [List.length_append]; simp; exact hal, ?_, ?_, nz7, nα6, ?_, hl, by rw [hrs, List.append_assoc]; rfl⟩
            · have := keepD ((k4.trans k5).trans k7) nz7 nα6
              have e : (fun a => if a = D then none else upd H6 D (.lst (acc ++ [v])) a) = fun a => if a = D then none else H6 a := by
                funext a
                by_cases e : a = D
                · rw [if_pos e, if_pos e]
                · rw [if_neg e, if_neg e, upd_ne e]
              rw [e]; exact this
            · exact w7.put nz7 nα6 d6 (.lst _ [])
            · exact RepL.put w7 nz7 d6 (.lst _ []) ((((rl.keep wo3 k4).keep w4 k5).keep w5 k7).append r7)
          · cases hl
    · have e : ws.drop i = [] := List.drop_eq_nil_of_le (by omega)
      rw [e] at hl
      cases hl
      rw [List.append_nil] at hrs
      subst hrs
      exact .inl ⟨wk'.2 (by omega), q _ _ _ _ (k.trans kk') wo3 ⟨.mu hacc (.lst _ _) rl nα (fun _ => nz) (fun e => by cases e), fun _ _ a e => by cases e; exact k.d _ hD⟩⟩
  · cases h
end

section
variable {X : Cx} {tg iter elt : Expr} {ifs : List Expr} {scope : Scope} {own : List (Str × Nat)} {is : List Nat} {t : CG} {it : CI} {c : CT} {f : CE} {pos : Pos}
theorem e_lc (hc : X.calm = true) (hN : X.N.Nodup) (hi : EI X tg iter it) (ok : BlkOk X.N X.env.scope scope own) (hj : (is.all fun j => (own.map (·.2)).contains j) = true)
    (hg : ∀ (s : Shared) (H : Hp) (C : Addr) (cl : List (Str × Addr)) (fp : List Addr), EG (X.blk s H scope (compEnvC scope cl C X.env) fp) tg is t)
    (ht : ∀ (s : Shared) (H : Hp) (C : Addr) (cl : List (Str × Addr)) (fp : List Addr), ETs (X.blk s H scope (compEnvC scope cl C X.env) fp) ifs c)
    (he : ∀ (s : Shared) (H : Hp) (C : Addr) (cl : List (Str × Addr)) (fp : List Addr), EE (X.blk s H scope (compEnvC scope cl C X.env) fp) elt f) (hs : ∀ x, foldedSetIterable iter X.env x = pure x := by intro _; rfl) :
    EE X (.ListComp elt [⟨tg, iter, ifs, 0⟩] scope pos) (cLc t it c f (own.map (·.2))) :=
  PE.cons (pe_lc hc hN hi ok hg ht he hs) fun _ _ _ h => lc_ok (fun j hj' => by simpa using List.all_eq_true.mp hj j hj') h
theorem asg_name {K : PySem.W.Frag} {f : CE} {i : Nat} {D : Ends} {σ : L2.St} {H : Hp} (h : semS K (cAsg (tName i) f) D σ H) : semE K f σ H fun x H1 => gName i x σ H1 D.nx := by
  obtain ⟨B, ρ, S, o, ⟨α, Z, at_⟩, h, q⟩ := h
  obtain ⟨r, S1, h1, h⟩ := of_bnd h
  obtain ⟨ρ', e1, rfl⟩ := Option.map_eq_some_iff.mp h
  refine ⟨ρ, S, α, Z, r, S1, at_.w, at_.e, h1, fun v H1 α1 Z1 k1 w1 g => ?_⟩
  unfold tName at e1
  split at e1
  · rename_i hs
    cases e1
    exact q _ H1 ⟨α1, Z1, (at_.go k1 w1).set i (g.fits at_) hs⟩
  · cases e1
theorem s_setLc {i : Nat} {y : Str} {py spos : Pos} (hc : X.calm = true) (hN : X.N.Nodup) (hi : EI X tg iter it) (ok : BlkOk X.N X.env.scope scope own) (hj : (is.all fun j => (own.map (·.2)).contains j) = true)
    (hg : ∀ (s : Shared) (H : Hp) (C : Addr) (cl : List (Str × Addr)) (fp : List Addr), EG (X.blk s H scope (compEnvC scope cl C X.env) fp) tg is t)
    (ht : ∀ (s : Shared) (H : Hp) (C : Addr) (cl : List (Str × Addr)) (fp : List Addr), ETs (X.blk s H scope (compEnvC scope cl C X.env) fp) ifs c)
    (he : ∀ (s : Shared) (H : Hp) (C : Addr) (cl : List (Str × Addr)) (fp : List Addr), EE (X.blk s H scope (compEnvC scope cl C X.env) fp) elt f)
    (hy : X.N[i]? = some y := by rfl) (hyl : X.env.scope.names.lookup y = some .local := by rfl) (hk : X.env.scope.kind = .function := by rfl) (hl : (py.line == pos.line) = true := by rfl)
    (ha : (scope.names.any fun (n, k) => n == y && (k == .local || k == .cell)) = false := by decide +kernel) (hs : ∀ x, foldedSetIterable iter X.env x = pure x := by intro _; rfl) :
    ES X (.Assign [.Name y py] (.ListComp elt [⟨tg, iter, ifs, 0⟩] scope pos) spos) (cAsg (tName i) (cLc t it c f (own.map (·.2)))) :=
  PS.cons (ps_setLc hc hN hy hyl (sw_true hk hyl hl ha) hi ok hg ht he hs) fun D σ H h => lc_ok (fun j hj' => by simpa using List.all_eq_true.mp hj j hj') (asg_name h)
end

/-! ### calls of defs -/
abbrev FnSem := List W → Store → Option (Wm × Store)
def spF (K : PySem.W.Frag) (n : Nat) (m : FnSem) : Sp := fun vs H Q _ => ∃ ws S α Z r S', WOk K H S α Z ∧ ws.length = n ∧ Paired (fun v w => RepM K α Z H .brw v w) vs ws ∧ m ws S = some (r, S') ∧
  ∀ v H' α' Z', Keep H α Z H' α' Z' → WOk K H' S' α' Z' → Got K H α' Z' H' r v → Q v H'
def cFn (n N : Nat) (c : CS) : FnSem := fun ws S => if ws.length = n then (match c (ws.map (fun w => some (w, Md.brw)) ++ List.replicate (N - n) none) S with
  | some (.rt r S') => if sto r = true then some (r, S') else none
  | some (.nx _ S') => some ((.non, .own), S')
  | _ => none) else none
def cCall (m : FnSem) (fs : CA) : CE := fun ρ S => bnd (fs ρ S) fun rs S => m (rs.map (·.1)) S
section
variable {P : Program} {w : World} {K : PySem.W.Frag} {mg : Str → Option Value} {base : Heap}
theorem fn_ok {x qual : Str} {st : Stmt} {f : Addr} {fd : FuncData} {N ps : List Str} {k : Nat} {c : CS} (F : Fun K x qual st f fd) (sc : FnScope N ps (defScope st)) (hn : ps.length ≤ N.length)
    (hb : ∀ (cdv : Value) (A : Around) (outer : List PySem.Env) (s : Shared) (H : Hp) (E : XK), Room k (A.deeper (envOfC qual (defScope st) s.heap.objs.size f cdv)) → ESs (cxOf CX0 P w K mg base N qual (defScope st) f cdv A outer s H E).nox (defBody st) c) :
    FnOk P w K mg base CX0 (k + 1) f fd ps (spF K ps.length (cFn ps.length N.length c)) := by
  refine F.ok sc (fun vs H Q E h => ?_) (fun cdv A outer s H vs Q E hr h => ⟨_, hb cdv A outer s H E hr, ?_⟩)
  · obtain ⟨ws, S, α, Z, r, S', wo, hl, p, _⟩ := h
    rw [← hl]; exact Paired.length p
  · obtain ⟨ws, S, α, Z, r, S', wo, hl, p, h, q⟩ := h
    unfold cFn at h
    rw [if_pos hl] at h
    have slot : ∀ {vs : List V} {ws : List W} {i : Nat} {w : W} {m : Md}, Paired (fun v w => RepM K α Z H .brw v w) vs ws → (ws.map (fun w => some (w, Md.brw)))[i]? = some (some (w, m)) → ∃ v, (vs.map some)[i]? = some (some v) ∧ m = .brw ∧ RepM K α Z H .brw v w := by
      intro vs ws i w m p
      induction p generalizing i with
      | nil => intro h; simp at h
      | cons r t ih =>
        intro h
        cases i with
        | zero => simp at h; obtain ⟨rfl, rfl⟩ := h; exact ⟨_, rfl, rfl, r⟩
        | succ i => exact ih (by simpa using h)
    have get : ∀ (i : Nat) (w : W) (m : Md), (ws.map (fun w => some (w, Md.brw)) ++ List.replicate (N.length - ps.length) none)[i]? = some (some (w, m)) → ∃ v, (L2.start N vs)[i]? = some (some v) ∧ m = .brw ∧ RepM K α Z H .brw v w := by
      intro i w m h
      have hlv := Paired.length p
      by_cases hi : i < ws.length
      · rw [List.getElem?_append_left (by simpa using hi)] at h
        obtain ⟨v, e1, e2, e3⟩ := slot p h
        refine ⟨v, ?_, e2, e3⟩
        unfold L2.start
        rw [List.getElem?_append_left (by rw [List.length_map, hlv]; exact hi)]
        exact e1
      · rw [List.getElem?_append_right (by simpa using Nat.le_of_not_lt hi)] at h
        rw [List.getElem?_replicate] at h
        split at h <;> cases h
    have en : EnvOk K α Z H (ws.map (fun w => some (w, Md.brw)) ++ List.replicate (N.length - ps.length) none) (L2.start N vs) := by
      refine ⟨?_, fun i w m h => ?_, fun i j w w' m' _ h => ?_⟩
      · have hlv := Paired.length p
        unfold L2.start
        simp only [List.length_append, List.length_map, List.length_replicate, hlv, hl]
      · obtain ⟨v, e1, e2, e3⟩ := get i w m h
        exact ⟨v, e1, by rw [e2]; exact e3⟩
      · obtain ⟨v, e1, e2, e3⟩ := get i w _ h
        cases e2
    have so : At K ⟨H, α, Z⟩ (ws.map (fun w => some (w, Md.brw)) ++ List.replicate (N.length - ps.length) none) S (L2.start N vs) H α Z := ⟨wo, Keep.refl, en, fun i w h => by
      obtain ⟨v, e1, e2, e3⟩ := get i w _ h
      cases e2⟩
    cases hc : c (ws.map (fun w => some (w, Md.brw)) ++ List.replicate (N.length - ps.length) none) S with
    | none => rw [hc] at h; cases h
    | some o =>
      rw [hc] at h
      refine ⟨⟨H, α, Z⟩, _, S, o, ⟨α, Z, so⟩, hc, ?_⟩
      cases o with
      | rt r1 S1 =>
        have h : (if sto r1 = true then some (r1, S1) else none) = some (r, S') := h
        split at h
        · rename_i hs
          cases h
          exact ⟨hs, fun v H' α' Z' k w g => q v H' α' Z' k w g⟩
        · cases h
      | nx ρ1 S1 =>
        cases h
        exact fun σ' H' ⟨α', Z', a⟩ => q .non H' α' Z' a.k a.w (Got.im .non rfl)
      | bk ρ1 S1 => cases h
      | ct ρ1 S1 => cases h
end

section
variable {X : Cx} {a b e : Expr} {es : List Expr} {fa fb fe : CE} {fs : CA} {pos p : Pos} {x : Str}
theorem got_vals {K : PySem.W.Frag} {H0 H : Hp} {α : List Addr} {Z : Addr → Prop} {rs : List Wm} {vs : List V} (g : Paired (Got K H0 α Z H) rs vs) : Paired (fun v w => RepM K α Z H .brw v w) vs (rs.map (·.1)) := by
  induction g with
  | nil => exact .nil
  | cons r t ih => exact .cons r.rep.brw ih
theorem cFn_len {n N : Nat} {c : CS} {ws : List W} {S : Store} {r : Wm × Store} (h : cFn n N c ws S = some r) : ws.length = n := by
  unfold cFn at h
  split at h
  · assumption
  · cases h
theorem e_call {k j n : Nat} {f : Addr} {fd : FuncData} {ps : List Str} {m : FnSem} (F : FnOk X.prog X.w X.K X.mg X.base CX0 k f fd ps (spF X.K n m)) (hr : Room j X.A) (hj : k ≤ j) (hm : X.mg x = some (.ref f)) (hk : PySem.W.keepIn X.K (.ref f) = true) (hb : Binds X.K fd ps [])
    (hlen : ∀ ws S r, m ws S = some r → ws.length = n) (ha : EA X (e :: es) fs) (hg : Gl X x := by rfl) (hdb : (x == ("__debug__" : Str)) = false := by decide) (he : starEach (e :: es) X.env = (false, eval e X.env) :: starEach es X.env := by rfl) (hpl : (backTo pos (starEach es X.env)).any (·.1) = false := by rfl) :
    EE X (.Call (.Name x p) (e :: es) [] pos) (cCall m fs) :=
  PE.cons (pe_call F (hr.mono hj) hg hm hk hb .nil pass0 ha hdb he hpl) fun σ H Q ⟨ρ, S, α, Z, r', S', wo, en, h, q⟩ => by
    obtain ⟨rs, S1, h1, h⟩ := of_bnd h
    refine ⟨ρ, S, α, Z, rs, S1, wo, en, h1, fun vs H1 α1 Z1 k1 w1 g1 => ?_⟩
    show spF X.K n m (vs ++ []) H1 Q E0
    rw [List.append_nil]
    exact ⟨rs.map (·.1), S1, α1, Z1, r', S', w1, hlen _ _ _ h, got_vals g1, h, fun v H2 α2 Z2 k2 w2 g2 => q v H2 α2 Z2 (k1.trans k2) w2 (g2.back k1.d)⟩

/-! ### built-ins by values -/
def CO (K : PySem.W.Frag) (r : List V → Hp → VK → Prop) (g : Store → List W → Option W) : Prop := ∀ {α : List Addr} {Z : Addr → Prop} {H : Hp} {S : Store} {vs : List V} {ws : List W} {c : W}, WOk K H S α Z → Paired (fun v w => RepM K α Z H .brw v w) vs ws → g S ws = some c →
  ∀ Q : VK, (∀ v H', Keep H α Z H' α Z → WOk K H' S α Z → Got K H α Z H' (c, .own) v → Q v H') → r vs H Q
def cBi (g : Store → List W → Option W) (fs : CA) : CE := fun ρ S => bnd (fs ρ S) fun rs S => (g S (rs.map (·.1))).map fun c => ((c, .own), S)
theorem bi_ok {K : PySem.W.Frag} {r : List V → Hp → VK → Prop} {g : Store → List W → Option W} (ho : CO K r g) {σ : L2.St} {H : Hp} {Q : VK} (h : semE K (cBi g fs) σ H Q) : tCB r (semA K fs) σ H Q := by
  obtain ⟨ρ, S, α, Z, r', S', wo, en, h, q⟩ := h
  obtain ⟨rs, S1, h1, h⟩ := of_bnd h
  obtain ⟨c, hc, e⟩ := Option.map_eq_some_iff.mp h
  cases e
  exact ⟨ρ, S, α, Z, rs, _, wo, en, h1, fun vs H1 α1 Z1 k1 w1 g1 => ho w1 (got_vals g1) hc _ fun v H2 k2 w2 g2 => q v H2 α1 Z1 (k1.trans k2) w2 (g2.back k1.d)⟩
theorem e_bi {id : String} {r : List V → Hp → VK → Prop} {g : Store → List W → Option W} (hc : CallR X (.builtin id) r) (ho : CO X.K r g) (hm : X.mg x = none) (ha : EA X (e :: es) fs) (hv : bootBuiltins x = some (.builtin id)) (hg : Gl X x := by rfl) (hn : x ≠ "__name__" := by decide) (hdb : (x == ("__debug__" : Str)) = false := by decide)
    (he : starEach (e :: es) X.env = (false, eval e X.env) :: starEach es X.env := by rfl) (hpl : (backTo pos (starEach es X.env)).any (·.1) = false := by rfl) : EE X (.Call (.Name x p) (e :: es) [] pos) (cBi g fs) :=
  PE.cons (pe_callB hc hg hm hv ha hn hdb he hpl) fun _ _ _ h => bi_ok ho h
theorem e_ty {T : String} {r : List V → Hp → VK → Prop} {g : Store → List W → Option W} (hc : CallR X (.type T) r) (ho : CO X.K r g) (hm : X.mg x = none) (ha : EA X (e :: es) fs) (hv : bootBuiltins x = some (.type T)) (hg : Gl X x := by rfl) (hn : x ≠ "__name__" := by decide) (hdb : (x == ("__debug__" : Str)) = false := by decide)
    (he : starEach (e :: es) X.env = (false, eval e X.env) :: starEach es X.env := by rfl) (hpl : (backTo pos (starEach es X.env)).any (·.1) = false := by rfl) : EE X (.Call (.Name x p) (e :: es) [] pos) (cBi g fs) :=
  PE.cons (pe_callTy hc hg hm hv ha hn hdb he hpl) fun _ _ _ h => bi_ok ho h
end
section
variable {K : PySem.W.Frag} {α : List Addr} {Z : Addr → Prop} {H : Hp}
theorem one_of {vs : List V} {w : W} (p : Paired (fun v w => RepM K α Z H .brw v w) vs [w]) : ∃ v, vs = [v] ∧ RepM K α Z H .brw v w := by
  cases p with
  | cons r t => cases t; exact ⟨_, rfl, r⟩
theorem two_of {vs : List V} {w u : W} (p : Paired (fun v w => RepM K α Z H .brw v w) vs [w, u]) : ∃ v x, vs = [v, x] ∧ RepM K α Z H .brw v w ∧ RepM K α Z H .brw x u := by
  cases p with
  | cons r t =>
    obtain ⟨v, rfl, r2⟩ := one_of t
    exact ⟨_, _, rfl, r, r2⟩
/-- len -/
def gLen : Store → List W → Option W := fun S ws => match ws with
  | [.tup us] => some (.int us.length)
  | [.lst us] => some (.int us.length)
  | [.dk kvs] => some (.int kvs.length)
  | [.str x] => if x.length ≤ sizeLine then some (.int x.length) else none
  | [.scr ns] => some (.int ns.length)
  | [.cel n] => (S[n]?).map fun us => .int us.length
  | _ => none
def rLenW (K : PySem.W.Frag) : List V → Hp → VK → Prop := fun xs H Q => ((∃ p ys, xs = [V.ref p] ∧ (SqL K H p ys ∨ SqT K H p ys) ∧ Q (.int ys.length) H) ∨ (∃ z, xs = [V.str z] ∧ z.length ≤ sizeLine ∧ Q (.int z.length) H)) ∨ (∃ a kvs, xs = [V.ref a] ∧ H a = some (.dK kvs) ∧ Q (.int kvs.length) H)
theorem call_lenW {X : Cx} : CallR X (.builtin "len") (rLenW X.K) := (call_len_seq.or call_len_str).or call_lenD
theorem co_len : CO K (rLenW K) gLen := by
  intro α Z H S vs ws c wo p hg Q q
  have fin : ∀ i, c = .int i → Q (.int i) H := fun i e => by subst e; exact q _ _ Keep.refl wo (Got.im (.int i) rfl)
  unfold gLen at hg
  split at hg
  · obtain ⟨v, rfl, r⟩ := one_of p
    obtain ⟨a, xs, rfl, h0, rl⟩ := r.ofTup
    cases hg
    exact .inl (.inl ⟨a, xs, rfl, .inr (.of h0), by rw [rl.length]; exact fin _ rfl⟩)
  · obtain ⟨v, rfl, r⟩ := one_of p
    obtain ⟨a, xs, rfl, h0, rl, _⟩ := r.ofLst
    cases hg
    exact .inl (.inl ⟨a, xs, rfl, .inl (.of h0), by rw [rl.length]; exact fin _ rfl⟩)
  · obtain ⟨v, rfl, r⟩ := one_of p
    obtain ⟨a, o, xs, us, rfl, h0, s, rl, _⟩ := r.muE rfl
    cases hg
    cases s with
    | @dk kvs kws e =>
      have hl := congrArg List.length e
      rw [List.length_map, List.length_map] at hl
      exact .inr ⟨a, _, rfl, h0, by rw [hl]; exact fin _ rfl⟩
  · obtain ⟨v, rfl, r⟩ := one_of p
    split at hg
    · rename_i hl
      cases hg
      rw [r.ofStr]
      exact .inl (.inr ⟨_, rfl, hl, fin _ rfl⟩)
    · cases hg
  · obtain ⟨v, rfl, r⟩ := one_of p
    obtain ⟨a, rfl, h0⟩ := r.ofScr
    cases hg
    exact .inl (.inl ⟨a, _, rfl, .inl h0, by rw [List.length_map]; exact fin _ rfl⟩)
  · obtain ⟨v, rfl, r⟩ := one_of p
    obtain ⟨a, rfl, h0⟩ := r.ofCel
    obtain ⟨us, h1, e⟩ := Option.map_eq_some_iff.mp hg
    subst e
    obtain ⟨xs, h2, rl⟩ := wo.at h0 h1
    exact .inl (.inl ⟨a, xs, rfl, .inl (.of h2), by rw [rl.length]; exact fin _ rfl⟩)
  · cases hg
theorem RepL.ints {ns : List Int} : RepL K α Z H (ns.map V.int) (ns.map W.int) := by
  induction ns with
  | nil => exact .nil
  | cons n ns ih => exact .cons (.int n) ih
theorem new_list {S : Store} {Q : VK} {xs : List V} {ws : List W} {m : Md} (wo : WOk K H S α Z) (rl : RepL K α Z H xs ws) (q : ∀ v H', Keep H α Z H' α Z → WOk K H' S α Z → Got K H α Z H' (.lst ws, .own) v → Q v H') : ∀ l, H l = none → Q (.ref l) (upd H l (.lst xs)) := fun l hl => by
  have k : Keep H α Z (upd H l (.lst xs)) α Z := Keep.new hl
  exact q _ _ k (wo.new hl) ⟨.mu upd_same (.lst _ _) (rl.keep wo k) (wo.nα hl) (fun _ => wo.nZ hl) (fun e => by cases e), fun _ _ a e => by cases e; exact hl⟩
theorem new_tup {S : Store} {Q : VK} {xs : List V} {ws : List W} {m : Md} (wo : WOk K H S α Z) (rl : RepL K α Z H xs ws) (q : ∀ v H', Keep H α Z H' α Z → WOk K H' S α Z → Got K H α Z H' (.tup ws, .own) v → Q v H') : ∀ l, H l = none → Q (.ref l) (upd H l (.tup xs)) := fun l hl => by
  have k : Keep H α Z (upd H l (.tup xs)) α Z := Keep.new hl
  exact q _ _ k (wo.new hl) (Got.im (.tup upd_same (rl.keep wo k)) rfl)
/-- list(x), tuple(x) -/
def gList : Store → List W → Option W := fun S ws => match ws with
  | [.tup us] => some (.lst us)
  | [.lst us] => some (.lst us)
  | [.scr ns] => some (.lst (ns.map .int))
  | _ => none
theorem co_list : CO K (fun xs H Q => ∃ p ys, xs = [V.ref p] ∧ (SqL K H p ys ∨ SqT K H p ys) ∧ ∀ l, H l = none → Q (.ref l) (upd H l (.lst ys))) gList := by
  intro α Z H S vs ws c wo p hg Q q
  unfold gList at hg
  split at hg
  · obtain ⟨v, rfl, r⟩ := one_of p
    obtain ⟨a, xs, rfl, h0, rl⟩ := r.ofTup
    cases hg
    exact ⟨a, xs, rfl, .inr (.of h0), new_list (m := .own) wo rl q⟩
  · obtain ⟨v, rfl, r⟩ := one_of p
    obtain ⟨a, xs, rfl, h0, rl, _⟩ := r.ofLst
    cases hg
    exact ⟨a, xs, rfl, .inl (.of h0), new_list (m := .own) wo rl q⟩
  · obtain ⟨v, rfl, r⟩ := one_of p
    obtain ⟨a, rfl, h0⟩ := r.ofScr
    cases hg
    exact ⟨a, _, rfl, .inl h0, new_list (m := .own) wo RepL.ints q⟩
  · cases hg
def gTuple : Store → List W → Option W := fun S ws => match ws with
  | [.tup us] => some (.tup us)
  | [.lst us] => some (.tup us)
  | _ => none
theorem co_tuple : CO K (fun xs H Q => ∃ p ys, xs = [V.ref p] ∧ ((SqL K H p ys ∧ ∀ l, H l = none → Q (.ref l) (upd H l (.tup ys))) ∨ (SqT K H p ys ∧ Q (.ref p) H))) gTuple := by
  intro α Z H S vs ws c wo p hg Q q
  unfold gTuple at hg
  split at hg
  · obtain ⟨v, rfl, r⟩ := one_of p
    obtain ⟨a, xs, rfl, h0, rl⟩ := r.ofTup
    cases hg
    exact ⟨a, xs, rfl, .inr ⟨.of h0, q _ _ Keep.refl wo (Got.im (.tup h0 rl) rfl)⟩⟩
  · obtain ⟨v, rfl, r⟩ := one_of p
    obtain ⟨a, xs, rfl, h0, rl, _⟩ := r.ofLst
    cases hg
    exact ⟨a, xs, rfl, .inl ⟨.of h0, new_tup (m := .own) wo rl q⟩⟩
  · cases hg
/-- int(n), int(flag) -/
def gInt : Store → List W → Option W := fun _ ws => match ws with
  | [.int i] => some (.int i)
  | [.bl k] => some (.int (if k then 1 else 0))
  | _ => none
theorem co_int : CO K (fun xs H Q => (∃ i, xs = [V.int i] ∧ Q (.int i) H) ∨ ∃ k, xs = [V.bl k] ∧ Q (.int (if k then 1 else 0)) H) gInt := by
  intro α Z H S vs ws c wo p hg Q q
  unfold gInt at hg
  split at hg
  · obtain ⟨v, rfl, r⟩ := one_of p
    cases hg
    rw [r.ofInt]
    exact .inl ⟨_, rfl, q _ _ Keep.refl wo (Got.im (.int _) rfl)⟩
  · obtain ⟨v, rfl, r⟩ := one_of p
    cases hg
    rw [r.ofBl]
    exact .inr ⟨_, rfl, q _ _ Keep.refl wo (Got.im (.int _) rfl)⟩
  · cases hg
def gAbs : Store → List W → Option W := fun _ ws => match ws with
  | [.int i] => some (.int (if i < 0 then -i else i))
  | _ => none
theorem co_abs : CO K (fun xs H Q => ∃ i, xs = [V.int i] ∧ Q (.int (if i < 0 then -i else i)) H) gAbs := by
  intro α Z H S vs ws c wo p hg Q q
  unfold gAbs at hg
  split at hg
  · obtain ⟨v, rfl, r⟩ := one_of p
    cases hg
    rw [r.ofInt]
    exact ⟨_, rfl, q _ _ Keep.refl wo (Got.im (.int _) rfl)⟩
  · cases hg
def gMin2 : Store → List W → Option W := fun _ ws => match ws with
  | [.int i, .int j] => some (.int (if j < i then j else i))
  | _ => none
def gMax2 : Store → List W → Option W := fun _ ws => match ws with
  | [.int i, .int j] => some (.int (if j > i then j else i))
  | _ => none
theorem co_min2 : CO K (fun xs H Q => ∃ i j, xs = [V.int i, V.int j] ∧ Q (.int (if j < i then j else i)) H) gMin2 := by
  intro α Z H S vs ws c wo p hg Q q
  unfold gMin2 at hg
  split at hg
  · obtain ⟨v, u, rfl, r, r2⟩ := two_of p
    cases hg
    rw [r.ofInt, r2.ofInt]
    exact ⟨_, _, rfl, q _ _ Keep.refl wo (Got.im (.int _) rfl)⟩
  · cases hg
theorem co_max2 : CO K (fun xs H Q => ∃ i j, xs = [V.int i, V.int j] ∧ Q (.int (if j > i then j else i)) H) gMax2 := by
  intro α Z H S vs ws c wo p hg Q q
  unfold gMax2 at hg
  split at hg
  · obtain ⟨v, u, rfl, r, r2⟩ := two_of p
    cases hg
    rw [r.ofInt, r2.ofInt]
    exact ⟨_, _, rfl, q _ _ Keep.refl wo (Got.im (.int _) rfl)⟩
  · cases hg
end
section
variable {X : Cx} {a b e : Expr} {es : List Expr} {fa fb fe : CE} {fs : CA} {pos p : Pos} {x : Str}
theorem e_len (hm : X.mg "len" = none) (h : EE X e fe) (hg : Gl X "len" := by rfl) (hs : starEach [e] X.env = (false, eval e X.env) :: starEach [] X.env := by rfl) : EE X (.Call (.Name "len" p) [e] [] pos) (cBi gLen (cCons fe cNil)) :=
  e_bi call_lenW co_len hm (a_cons h a_nil hs) PySem.boot_len hg (by decide) (by decide) hs
theorem e_list (hm : X.mg "list" = none) (h : EE X e fe) (hg : Gl X "list" := by rfl) (hs : starEach [e] X.env = (false, eval e X.env) :: starEach [] X.env := by rfl) : EE X (.Call (.Name "list" p) [e] [] pos) (cBi gList (cCons fe cNil)) :=
  e_ty call_list_of co_list hm (a_cons h a_nil hs) (by decide +kernel) hg (by decide) (by decide) hs
theorem e_tuple (hm : X.mg "tuple" = none) (h : EE X e fe) (hg : Gl X "tuple" := by rfl) (hs : starEach [e] X.env = (false, eval e X.env) :: starEach [] X.env := by rfl) : EE X (.Call (.Name "tuple" p) [e] [] pos) (cBi gTuple (cCons fe cNil)) :=
  e_ty call_tuple_of co_tuple hm (a_cons h a_nil hs) (by decide +kernel) hg (by decide) (by decide) hs
theorem e_intf (hm : X.mg "int" = none) (h : EE X e fe) (hg : Gl X "int" := by rfl) (hs : starEach [e] X.env = (false, eval e X.env) :: starEach [] X.env := by rfl) : EE X (.Call (.Name "int" p) [e] [] pos) (cBi gInt (cCons fe cNil)) :=
  e_ty call_int1 co_int hm (a_cons h a_nil hs) (by decide +kernel) hg (by decide) (by decide) hs
theorem e_abs (hm : X.mg "abs" = none) (h : EE X e fe) (hg : Gl X "abs" := by rfl) (hs : starEach [e] X.env = (false, eval e X.env) :: starEach [] X.env := by rfl) : EE X (.Call (.Name "abs" p) [e] [] pos) (cBi gAbs (cCons fe cNil)) :=
  e_bi call_abs co_abs hm (a_cons h a_nil hs) (by decide +kernel) hg (by decide) (by decide) hs

/-! ### a name's own list, dict is written -/
theorem At.write {K : PySem.W.Frag} {B : Bs} {ρ : Env} {S : Store} {σ : L2.St} {H : Hp} {α : List Addr} {Z : Addr → Prop} {i : Nat} {c : Addr} {u : HO} {w w' : W} {xs' : List V} {ws' : List W} (at_ : At K B ρ S σ H α Z)
    (hr : ρ[i]? = some (some (w, .own))) (hm : w.mut = true) (hσ : σ[i]? = some (some (.ref c))) (s : Shape u w' xs' ws') (r : RepL K α Z H xs' ws') : At K B (ρ.set i (some (w', .own))) S σ (upd H c u) α Z := by
  have hi : i < ρ.length := (List.getElem?_eq_some_iff.mp hr).1
  obtain ⟨o, w0, xs0, ws0, h0, s0, nα, nz⟩ := at_.e.root ⟨i, w, hr, hm, hσ⟩
  have hB := at_.o i w hr hm c hσ
  have get : ∀ (j : Nat) w1 m1, (ρ.set i (some (w', Md.own)))[j]? = some (some (w1, m1)) → (i = j ∧ w1 = w' ∧ m1 = .own) ∨ (i ≠ j ∧ ρ[j]? = some (some (w1, m1))) := by
    intro j w1 m1 h
    by_cases e : i = j
    · subst e
      rw [List.getElem?_set_self hi] at h
      cases h
      exact .inl ⟨rfl, rfl, rfl⟩
    · rw [List.getElem?_set_ne e] at h
      exact .inr ⟨e, h⟩
  refine ⟨at_.w.put nz nα h0 s0, ⟨at_.k.al, fun b t hb hn => ?_, fun b hb => ?_, at_.k.z, at_.k.z'⟩, ⟨by rw [List.length_set]; exact at_.e.len, fun j w1 m1 hj => ?_, fun j j' w1 w2 m2 hne h1 h2 h3 h4 => ?_⟩, fun j w1 hj hm1 b hb => ?_⟩
  · rw [upd_ne (by rintro rfl; rw [hB] at hb; cases hb)]
    exact at_.k.h b t hb hn
  · by_cases e : b = c
    · rw [e]; exact hB
    · rw [upd_ne e] at hb; exact at_.k.d b hb
  · rcases get j w1 m1 hj with ⟨e, rfl, rfl⟩ | ⟨e, h⟩
    · subst e
      exact ⟨_, hσ, .mu upd_same s (RepL.put at_.w nz h0 s0 r) nα (fun _ => nz) (fun e => by cases e)⟩
    · obtain ⟨v, q1, q2⟩ := at_.e.slot j w1 m1 h
      refine ⟨v, q1, ?_⟩
      cases q2 with
      | im e r2 => exact .im e (r2.put0 (fun ys e => by rw [h0] at e; cases e; exact s0.ntup _ rfl) (fun a t e => by rw [h0] at e; cases e; cases s0) nz)
      | mu c0 c1 c2 c3 c4 c5 =>
        refine .mu ?_ c1 (RepL.put at_.w nz h0 s0 c2) c3 c4 c5
        rw [upd_ne (by rintro rfl; exact at_.e.sep i j w w1 m1 e hr hm h c1.mut (hσ.trans q1.symm))]
        exact c0
  · rcases get j w1 _ h1 with ⟨e, rfl, _⟩ | ⟨e, h⟩ <;> rcases get j' w2 m2 h3 with ⟨e', rfl, rfl⟩ | ⟨e', h'⟩
    · exact absurd (e.symm.trans e') hne
    · subst e; exact at_.e.sep _ j' w w2 m2 hne hr hm h' h4
    · subst e'
      exact at_.e.sep j _ w1 w .own hne h h2 hr hm
    · exact at_.e.sep j j' w1 w2 m2 hne h h2 h' h4
  · rcases get j w1 _ hj with ⟨e, rfl, _⟩ | ⟨e, h⟩
    · subst e; exact at_.o _ w hr hm b hb
    · exact at_.o j w1 h hm1 b hb
/-- a cell is written -/
theorem At.cell {K : PySem.W.Frag} {B : Bs} {ρ : Env} {S : Store} {σ : L2.St} {H : Hp} {α : List Addr} {Z : Addr → Prop} {n : Nat} {c : Addr} {xs' : List V} {ws' : List W} (at_ : At K B ρ S σ H α Z)
    (hc : α[n]? = some c) (r : RepL K α Z H xs' ws') : At K B ρ (S.set n ws') σ (upd H c (.lst xs')) α Z := by
  have hmem : c ∈ α := List.mem_of_getElem? hc
  obtain ⟨xs0, h0⟩ := at_.w.cell hmem
  have nz : ¬ Z c := fun z => at_.w.zα c z hmem
  have k : Keep H α Z (upd H c (.lst xs')) α Z := ⟨⟨[], by simp, by simp⟩, fun b t hb hn => by
    rw [upd_ne (by rintro rfl; exact hn hmem)]; exact hb, fun b hb => by
    by_cases e : b = c
    · rw [e, upd_same] at hb; cases hb
    · rw [upd_ne e] at hb; exact hb, fun _ h => h, fun _ h => .inl h⟩
  refine at_.go k ⟨at_.w.nd, ?_, at_.w.zα, fun b z => by rw [upd_ne (by rintro rfl; exact nz z)]; exact at_.w.zH b z⟩
  have go : ∀ {l₁ : List Addr} {l₂ : Store} {n : Nat}, l₁.Nodup → Paired (fun a ws => ∃ xs, H a = some (.lst xs) ∧ RepL K α Z H xs ws) l₁ l₂ → l₁[n]? = some c →
      Paired (fun a ws => ∃ xs, upd H c (.lst xs') a = some (.lst xs) ∧ RepL K α Z (upd H c (.lst xs')) xs ws) l₁ (l₂.set n ws') := by
    intro l₁ l₂ n nd p
    induction p generalizing n with
    | nil => intro h; simp at h
    | @cons a ws l₁ l₂ r1 t ih =>
      intro h
      rw [List.nodup_cons] at nd
      cases n with
      | zero =>
        have e : a = c := by simpa using h
        subst e
        refine .cons ⟨xs', upd_same, RepL.put at_.w nz h0 (.lst _ []) r⟩ (Paired.impM t fun b us hb ⟨xs, h1, r2⟩ => ⟨xs, ?_, RepL.put at_.w nz h0 (.lst _ []) r2⟩)
        rw [upd_ne (by rintro rfl; exact nd.1 hb)]; exact h1
      | succ n =>
        have h : l₁[n]? = some c := by simpa using h
        obtain ⟨xs, h1, r2⟩ := r1
        refine .cons ⟨xs, ?_, RepL.put at_.w nz h0 (.lst _ []) r2⟩ (ih nd.2 h)
        rw [upd_ne (by rintro rfl; exact nd.1 (List.mem_of_getElem? h))]; exact h1
  exact go at_.w.nd at_.w.cells hc
/-- xs.append(e) -/
def cApp (i : Nat) (f : CE) : CS := fun ρ S => bnd (f ρ S) fun r S => if sto r = true then (match ρ[i]? with
  | some (some (.lst ws, .own)) => if ws.length < sizeLine then some (.nx (ρ.set i (some (.lst (ws ++ [r.1]), .own))) S) else none
  | _ => none) else none
theorem s_app {apos cpos p : Pos} (i : Nat) (he : EE X e fe) (hN : X.N[i]? = some x := by rfl) (hv : Vis X.env.scope x := by first | exact Or.inl rfl | exact Or.inr (Or.inl rfl) | exact Or.inr (Or.inr rfl)) (hd : (x == ("__debug__" : Str)) = false := by decide)
    (hcd : (x == ("__classdict__" : Str)) = false := by decide) (hbase : attributeBase (.Name x p) "append" X.env (eval (.Name x p) X.env) = eval (.Name x p) X.env := by rfl)
    (hfew : ((backTo cpos (starEach [e] X.env)).all (fun x => !x.1) && (backToKw cpos (keywordEach [] X.env)).all (fun x => x.1.isSome)
      && decide (([e] : List Expr).length + ([] : List Keyword).length + (if ([] : List Keyword).isEmpty then 0 else 1) < 30)) = true := by rfl)
    (hline : (apos.endLine == cpos.line) = true := by rfl) (hs : starEach [e] X.env = (false, eval e X.env) :: starEach [] X.env := by rfl) (hplain : (backTo cpos (starEach [] X.env)).any (·.1) = false := by rfl)
    (hsw : swapsWith (.Call (.Attribute (.Name x p) "append" apos) [e] [] cpos) none pos.line X.env = pure false := by rfl) :
    ES X (.Expr (.Call (.Attribute (.Name x p) "append" apos) [e] [] cpos) pos) (cApp i fe) :=
  PS.cons (ps_expr (pe_bm PySem.F.plainAttrs_list PySem.F.slot_list_append PySem.F.type_list_append mt_append (pe_var hN hv hd hcd) (a_cons he a_nil hs) hbase hfew hline hs hplain) hsw) fun D σ H ⟨B, ρ, S, o, ⟨α, Z, at_⟩, h, q⟩ => by
    obtain ⟨r, S1, h1, h⟩ := of_bnd h
    split at h
    · rename_i hst
      split at h
      · rename_i ws hr
        split at h
        · rename_i hl
          cases h
          obtain ⟨v, e1, r1⟩ := at_.e.slot i _ _ hr
          obtain ⟨c, xs, rfl, h0, rl, nα, c1, _⟩ := r1.ofLst
          refine ⟨_, e1, .inl ⟨rfl, xs, .of h0⟩, ρ, S, α, Z, [r], S1, at_.w, at_.e, (by unfold cCons; rw [h1]; rfl), fun vs H1 α1 Z1 k1 w1 g1 => ?_⟩
          have h3 : H1 c = some (.lst xs) := k1.h _ _ h0 nα
          obtain ⟨Z2, zz, k2, w2, r2⟩ := freeze_all w1 k1 g1 (by simp [hst])
          have rl2 : RepL X.K α1 Z2 H1 xs ws := (rl.keep at_.w k1).mono zz
          cases g1 with
          | cons g gt =>
            cases gt
            exact ⟨c, xs, _, rfl, rfl, h3, by rw [rl.length]; exact hl, q _ _ ⟨α1, Z2, (at_.go k2 w2).write hr rfl e1 (.lst _ _) (rl2.append r2)⟩⟩
        · cases h
      · cases h
    · cases h

/-- o[k] = e, o a name -/
def setAt (ρ : Env) (S : Store) (i : Nat) (k w : W) : Option SOut := match ρ[i]? with
  | some (some (.lst ws, .own)) => (match k with
    | .int n => (ixN ws.length n).map fun j => .nx (ρ.set i (some (.lst (ws.set j w), .own))) S
    | _ => none)
  | some (some (.cel c, _)) => (match k, S[c]? with
    | .int n, some ws => (ixN ws.length n).map fun j => .nx ρ (S.set c (ws.set j w))
    | _, _ => none)
  | some (some (.dk kvs, .own)) => (dkPut kvs k w).map fun d => .nx (ρ.set i (some (d, .own))) S
  | some (some (.dt kvs, .own)) => (dtPut kvs k w).map fun d => .nx (ρ.set i (some (d, .own))) S
  | _ => none
def cSetIx (i : Nat) (fk fe : CE) : CS := fun ρ S => bnd (fe ρ S) fun r S => bnd (fk ρ S) fun k S => if sto r = true then setAt ρ S i k.1 r.1 else none
def rSetD : V → V → V → Hp → (Hp → Prop) → Prop := fun o i v H Q => ∃ p H', o = .ref p ∧ DPut H p i v H' ∧ Q H'
theorem set_dict (hu : X.A.units + 1 < cLine) : PSet X rSetD := by
  intro pins s σ H o i v ov iv u Q I ro ri rv h
  obtain ⟨p, H', rfl, g, q⟩ := h
  cases ro
  exact d_setItem hu I g ri rv fun s4 I4 => ⟨H', I4, q⟩
theorem PSet.or {t u : TSet} (h1 : PSet X t) (h2 : PSet X u) : PSet X (fun o i v H Q => t o i v H Q ∨ u o i v H Q) := by
  intro pins s σ H o i v ov iv w Q I ro ri rv h
  rcases h with h | h
  · exact h1 pins s σ H o i v ov iv w Q I ro ri rv h
  · exact h2 pins s σ H o i v ov iv w Q I ro ri rv h
theorem s_setIx {k : Nat} {idx : Expr} {fk : CE} {p p2 : Pos} (i : Nat) (hr : Room k X.A) (hk : EE X idx fk) (he : EE X e fe) (hN : X.N[i]? = some x := by rfl) (hv : Vis X.env.scope x := by first | exact Or.inl rfl | exact Or.inr (Or.inl rfl) | exact Or.inr (Or.inr rfl)) (hd : (x == ("__debug__" : Str)) = false := by decide)
    (hcd : (x == ("__classdict__" : Str)) = false := by decide)
    (ha : ∀ v, assign (.Subscript (.Name x p) idx p2) X.env v = (do
      let ov ← holding [v] (eval (.Name x p) X.env)
      let iv ← holding [v, ov] (eval idx X.env)
      standAt p2
      holding [v, ov, iv] (setItem ov iv v)
      release [v, ov, iv] []) := by intro _; rfl)
    (hs : swapsWithSole [.Subscript (.Name x p) idx p2] e pos.line X.env = pure false := by rfl) (hw : swappedStores [.Subscript (.Name x p) idx p2] e X.env = pure none := by rfl)
    (h1 : (assignEach [.Subscript (.Name x p) idx p2] X.env).map (·.2) = [assign (.Subscript (.Name x p) idx p2) X.env] := by rfl) : ES X (.Assign [.Subscript (.Name x p) idx p2] e pos) (cSetIx i fk fe) :=
  PS.cons (ps_asg he (pg_sub (pe_var hN hv hd hcd) hk (PSet.or set_list (set_dict (hu_of hr))) ha) hs hw h1) fun D σ H ⟨B, ρ, S, o, ⟨α, Z, at_⟩, h, q⟩ => by
    obtain ⟨r, S1, h1, h⟩ := of_bnd h
    obtain ⟨k, S2, h2, h⟩ := of_bnd h
    split at h
    · rename_i hst
      refine ⟨ρ, S, α, Z, r, S1, at_.w, at_.e, h1, fun v H1 α1 Z1 k1 w1 g1 => ?_⟩
      have main : ∀ ov, σ[i]? = some (some ov) → (∀ y H2 α2 Z2, Keep H1 α1 Z1 H2 α2 Z2 → WOk X.K H2 S2 α2 Z2 → Got X.K H1 α2 Z2 H2 k y → rSetL ov y v H2 (fun H3 => D.nx σ H3) ∨ rSetD ov y v H2 (fun H3 => D.nx σ H3)) →
          L2.gSub (tVar i) (semE X.K fk) (fun o i v H Q => rSetL o i v H Q ∨ rSetD o i v H Q) v σ H1 D.nx := fun ov hov hh =>
        ⟨ov, hov, ρ, S1, α1, Z1, k, S2, w1, at_.e.keep at_.w k1, h2, fun y H2 α2 Z2 k2 w2 g2 => hh y H2 α2 Z2 k2 w2 g2⟩
      have prep : ∀ {H2 α2 Z2}, Keep H1 α1 Z1 H2 α2 Z2 → WOk X.K H2 S2 α2 Z2 → ∃ Z3, At X.K B ρ S2 σ H2 α2 Z3 ∧ Rep X.K α2 Z3 H2 v r.1 := fun {H2 α2 Z2} k2 w2 => by
        obtain ⟨Z3, zz, k3, w3, r3⟩ := freeze_all (rs := [r]) (vs := [v]) w2 (k1.trans k2) (.cons (g1.keep w1 k2) .nil) (by simp [hst])
        cases r3 with
        | cons r3 _ => exact ⟨Z3, at_.go k3 w3, r3⟩
      unfold setAt at h
      split at h
      · rename_i ws hr
        obtain ⟨u, e1, r1⟩ := at_.e.slot i _ _ hr
        obtain ⟨c, xs, rfl, h0, rl, nα, c1, _⟩ := r1.ofLst
        split at h
        · rename_i n hkn
          obtain ⟨j, hj, e⟩ := Option.map_eq_some_iff.mp h
          subst e
          refine main _ e1 fun y H2 α2 Z2 k2 w2 g2 => ?_
          obtain ⟨Z3, a3, r3⟩ := prep k2 w2
          have gy := g2.rep
          rw [hkn] at gy
          have kk := k1.trans k2
          have h3 : H2 c = some (.lst xs) := kk.h _ _ h0 nα
          have rl3 : RepL X.K α2 Z3 H2 xs ws := by
            obtain ⟨v', e1', r1'⟩ := a3.e.slot i _ _ hr
            rw [e1] at e1'
            cases e1'
            obtain ⟨c', xs', e', h0', rl', _⟩ := r1'.ofLst
            cases e'
            rw [h3] at h0'
            cases h0'
            exact rl'
          refine .inl ⟨c, xs, n, j, rfl, gy.ofInt, h3, by rw [rl.length]; exact hj, q _ _ ⟨α2, Z3, a3.write hr rfl e1 (.lst _ _) (rl3.set r3 j)⟩⟩
        · cases h
      · rename_i n m hr
        obtain ⟨u, e1, r1⟩ := at_.e.slot i _ _ hr
        obtain ⟨c, rfl, hc⟩ := r1.ofCel
        split at h
        · rename_i z ws hkn hSn
          obtain ⟨j, hj, e⟩ := Option.map_eq_some_iff.mp h
          subst e
          refine main _ e1 fun y H2 α2 Z2 k2 w2 g2 => ?_
          obtain ⟨Z3, a3, r3⟩ := prep k2 w2
          have gy := g2.rep
          rw [hkn] at gy
          obtain ⟨nw, eα, _⟩ := (k1.trans k2).al
          have hc2 : α2[n]? = some c := by
            rw [eα, List.getElem?_append_left (List.getElem?_eq_some_iff.mp hc).1]; exact hc
          obtain ⟨xs, h3, rl3⟩ := a3.w.at hc2 hSn
          exact .inl ⟨c, xs, z, j, rfl, gy.ofInt, h3, by rw [rl3.length]; exact hj, q _ _ ⟨α2, Z3, a3.cell hc2 (rl3.set r3 j)⟩⟩
        · cases h
      · rename_i kvs hr
        obtain ⟨u, e1, r1⟩ := at_.e.slot i _ _ hr
        obtain ⟨d, hd, e⟩ := Option.map_eq_some_iff.mp h
        subst e
        unfold dkPut at hd
        split at hd
        · rename_i κ hκ
          split at hd
          · rename_i hl
            cases hd
            refine main _ e1 fun y H2 α2 Z2 k2 w2 g2 => ?_
            obtain ⟨Z3, a3, r3⟩ := prep k2 w2
            obtain ⟨v', e1', r1'⟩ := a3.e.slot i _ _ hr
            rw [e1] at e1'
            cases e1'
            obtain ⟨c', o2, xs', us', e', h0', s', rl', _⟩ := r1'.muE rfl
            subst e'
            cases s' with
            | @dk vkvs _ ek =>
              have hlen := congrArg List.length ek
              rw [List.length_map, List.length_map] at hlen
              obtain ⟨p1, p2⟩ := dk_put κ r3 ek rl'
              exact .inr ⟨_, _, rfl, .inl ⟨vkvs, κ, h0', keyOf_ok g2.rep hκ, by rw [hlen]; exact hl, rfl⟩, q _ _ ⟨α2, Z3, a3.write hr rfl e1 (.dk p1) p2⟩⟩
          · cases hd
        · cases hd
      · rename_i kvs hr
        obtain ⟨u, e1, r1⟩ := at_.e.slot i _ _ hr
        obtain ⟨d, hd, e⟩ := Option.map_eq_some_iff.mp h
        subst e
        unfold dtPut at hd
        split at hd
        · rename_i κ hκ
          split at hd
          · rename_i hl
            cases hd
            refine main _ e1 fun y H2 α2 Z2 k2 w2 g2 => ?_
            obtain ⟨Z3, a3, r3⟩ := prep k2 w2
            obtain ⟨v', e1', r1'⟩ := a3.e.slot i _ _ hr
            rw [e1] at e1'
            cases e1'
            obtain ⟨c', o2, xs', us', e', h0', s', rl', _⟩ := r1'.muE rfl
            subst e'
            cases s' with
            | @dt vkvs _ ek =>
              have hlen := congrArg List.length ek
              rw [List.length_map, List.length_map] at hlen
              obtain ⟨p1, p2⟩ := dk_put κ r3 ek rl'
              obtain ⟨b, eb, hb⟩ := tkOf_ok g2.rep hκ
              exact .inr ⟨_, _, rfl, .inr ⟨vkvs, κ, b, h0', eb, hb, by rw [hlen]; exact hl, rfl⟩, q _ _ ⟨α2, Z3, a3.write hr rfl e1 (.dt p1) p2⟩⟩
          · cases hd
        · cases hd
      · cases h
    · cases h
end

/-! ### slices -/
abbrev CO1 := Env → Store → Option (Option Int × Store)
def semO (K : PySem.W.Frag) (f : CO1) : TO := fun σ H Q => ∃ ρ S α Z r S', WOk K H S α Z ∧ EnvOk K α Z H ρ σ ∧ f ρ S = some (r, S') ∧ ∀ H' α' Z', Keep H α Z H' α' Z' → WOk K H' S' α' Z' → Q r H'
abbrev EO (X : Cx) (e : Option Expr) (f : CO1) : Prop := PO X e (semO X.K f)
theorem PO.cons {X : Cx} {e : Option Expr} {t t' : TO} (h : PO X e t) (i : ∀ σ H Q, t' σ H Q → t σ H Q) : PO X e t' := ⟨fun pins s σ H Q I q => h.run pins s σ H Q I (i σ H Q q)⟩
def oNone : CO1 := fun _ S => some (none, S)
def oSome (f : CE) : CO1 := fun ρ S => bnd (f ρ S) fun r S => match r.1 with
  | .int i => some (some i, S)
  | _ => none
def cutW {A : Type} (xs : List A) (lo hi : Option Int) : List A := (xs.drop (HT.sIx xs.length 0 lo)).take (HT.sIx xs.length xs.length hi - HT.sIx xs.length 0 lo)
def gSl (w : W) (lo hi : Option Int) : Option W := match w with
  | .tup us => some (.tup (cutW us lo hi))
  | .lst us => some (.lst (cutW us lo hi))
  | .str x => if x.length ≤ sizeLine then some (.str (cutS x lo hi)) else none
  | _ => none
def cSl (f : CE) (lo hi : CO1) : CE := fun ρ S => bnd (f ρ S) fun r S => bnd (lo ρ S) fun l S => bnd (hi ρ S) fun h S => (gSl r.1 l h).map fun c => ((c, .own), S)
section
variable {X : Cx} {e : Expr} {f : CE} {lo hi : Option Expr} {fl fh : CO1} {pos p2 : Pos}
theorem o_none : EO X none oNone := PO.cons po_none fun σ H Q ⟨ρ, S, α, Z, r, S', wo, en, h, q⟩ => by
  cases h
  exact q H α Z Keep.refl wo
theorem o_some (h : EE X e f) : EO X (some e) (oSome f) := PO.cons (po_some h) fun σ H Q ⟨ρ, S, α, Z, r, S', wo, en, h, q⟩ => by
  obtain ⟨r1, S1, h1, h⟩ := of_bnd h
  obtain ⟨w, m⟩ := r1
  cases w with
  | int i =>
    cases h
    exact ⟨ρ, S, α, Z, _, _, wo, en, h1, fun v H1 α1 Z1 k w g => ⟨i, g.rep.ofInt, q H1 α1 Z1 k w⟩⟩
  | _ => cases h
theorem cut_whole {A : Type} {xs : List A} {lo hi : Option Int} (h : HT.sIx xs.length 0 lo = 0 ∧ HT.sIx xs.length xs.length hi = xs.length) : cutW xs lo hi = xs := by
  unfold cutW
  rw [h.1, h.2, List.drop_zero, Nat.sub_zero, List.take_length]
theorem e_sl (h : EE X e f) (hl : EO X lo fl) (hu : EO X hi fh) : EE X (.Subscript e (.Slice lo hi none p2) pos) (cSl f fl fh) :=
  PE.cons (pe_slice (sl_tupA.or (sl_list.or sl_str)) h hl hu) fun σ H Q ⟨ρ, S, α, Z, r', S', wo, en, h, q⟩ => by
    obtain ⟨r, S1, h1, h⟩ := of_bnd h
    obtain ⟨l, S2, h2, h⟩ := of_bnd h
    obtain ⟨u, S3, h3, h⟩ := of_bnd h
    obtain ⟨c, hc, e⟩ := Option.map_eq_some_iff.mp h
    cases e
    refine ⟨ρ, S, α, Z, r, S1, wo, en, h1, fun v H1 α1 Z1 k1 w1 g1 => ⟨ρ, S1, α1, Z1, l, S2, w1, en.keep wo k1, h2, fun H2 α2 Z2 k2 w2 => ⟨ρ, S2, α2, Z2, u, _, w2, en.keep wo (k1.trans k2), h3, fun H3 α3 Z3 k3 w3 => ?_⟩⟩⟩
    have rp := g1.rep.keep w1 (k2.trans k3)
    have kk := (k1.trans k2).trans k3
    have cut : ∀ {xs : List V} {ws : List W}, RepL X.K α3 Z3 H3 xs ws → RepL X.K α3 Z3 H3 (cutV xs l u) (cutW ws l u) := fun {xs ws} r => by
      unfold cutV cutW
      rw [r.length]
      exact (r.drop _).take _
    obtain ⟨w, m⟩ := r
    have qq : ∀ v H', Keep H3 α3 Z3 H' α3 Z3 → WOk X.K H' S' α3 Z3 → Got X.K H3 α3 Z3 H' (c, .own) v → Q v H' := fun v H' k w g => q v H' α3 Z3 (kk.trans k) w (g.back kk.d)
    cases w with
    | tup us =>
      cases hc
      obtain ⟨a, xs, rfl, h0, rl⟩ := rp.ofTup
      refine .inl ⟨a, xs, rfl, .of h0, fun hw => ?_, fun _ => new_tup (m := .own) w3 (cut rl) qq⟩
      rw [rl.length] at hw
      rw [cut_whole hw] at qq
      exact qq _ _ Keep.refl w3 (Got.im (.tup h0 rl) rfl)
    | lst us =>
      cases hc
      obtain ⟨a, xs, rfl, h0, rl, _⟩ := rp.ofLst
      exact .inr (.inl ⟨a, xs, rfl, .of h0, new_list (m := .own) w3 (cut rl) qq⟩)
    | str x =>
      have hc : (if x.length ≤ sizeLine then some (W.str (cutS x l u)) else none) = some c := hc
      split at hc
      · rename_i hl
        cases hc
        exact .inr (.inr ⟨x, rp.ofStr, hl, qq _ _ Keep.refl w3 (Got.im (.str _) rfl)⟩)
      · cases hc
    | _ => cases hc
end

/-! ### isinstance(x, a built-in type) -/
def tyName : W → Option String
  | .non => some "NoneType"
  | .bl _ => some "bool"
  | .int _ => some "int"
  | .str _ => some "str"
  | .tup _ => some "tuple"
  | .lst _ => some "list"
  | .dk _ => some "dict"
  | .dt _ => some "dict"
  | _ => none
def gIsi : Store → List W → Option W := fun _ ws => match ws with
  | [w, .ty n] => (match tyName w with
    | some t => (kitB t n).map .bl
    | none => none)
  | _ => none
theorem RepM.ofTy {K : PySem.W.Frag} {α : List Addr} {Z : Addr → Prop} {H : Hp} {m : Md} {v : V} {n : String} (r : RepM K α Z H m v (.ty n)) : v = .ty n := by
  have r := r.repI rfl
  cases r with
  | ty => rfl
  | mu _ _ s _ => cases s
theorem tyX_of {K : PySem.W.Frag} {α : List Addr} {Z : Addr → Prop} {H : Hp} {m : Md} {v : V} {w : W} {t : String} (r : RepM K α Z H m v w) (h : tyName w = some t) : TyX K H v (.type t) := by
  cases w with
  | non => cases h; rw [r.ofNon]; exact .base .non
  | bl b => cases h; rw [r.ofBl]; exact .base (.bl b)
  | int b => cases h; rw [r.ofInt]; exact .base (.int b)
  | str b => cases h; rw [r.ofStr]; exact .base (.str b)
  | tup us => cases h; obtain ⟨a, xs, rfl, h0, rl⟩ := r.ofTup; exact .base (.tup h0)
  | lst us => cases h; obtain ⟨a, xs, rfl, h0, rl, _⟩ := r.ofLst; exact .base (.lst h0)
  | dk us =>
    cases h
    obtain ⟨a, o, xs, ws, rfl, h0, s, _⟩ := r.muE rfl
    cases s
    exact .base (.dK h0)
  | dt us =>
    cases h
    obtain ⟨a, o, xs, ws, rfl, h0, s, _⟩ := r.muE rfl
    cases s
    exact .base (.dT h0)
  | _ => cases h
theorem co_isi {K : PySem.W.Frag} : CO K (rIsi K) gIsi := by
  intro α Z H S vs ws c wo p hg Q q
  unfold gIsi at hg
  split at hg
  · rename_i w n
    split at hg
    · rename_i t ht
      obtain ⟨b, hb, rfl⟩ := Option.map_eq_some_iff.mp hg
      obtain ⟨v, u, rfl, r1, r2⟩ := two_of p
      rw [r2.ofTy]
      exact ⟨v, .ty n, .type t, .type n, b, rfl, .ty n, tyX_of r1 ht, kit_ty hb, q _ _ Keep.refl wo (Got.im (.bl b) rfl)⟩
    · cases hg
  · cases hg
section
variable {X : Cx} {a b e : Expr} {es : List Expr} {fa fb fe : CE} {fs : CA} {pos p : Pos} {x : Str}
theorem e_tyN {n : String} (hm : X.mg x = none) (hv : bootBuiltins x = some (.type n)) (hg : Gl X x := by rfl) (hn : x ≠ "__name__" := by decide) (hd : (x == ("__debug__" : Str)) = false := by decide) : EE X (.Name x pos) (cLit (.ty n)) :=
  e_c (pe_bltn (v := .ty n) hg hm hv rfl hn hd) (fun _ _ _ => .ty n) rfl
theorem e_isi (hm : X.mg "isinstance" = none) (h : EE X e fe) (h2 : EE X b fb) (hg : Gl X "isinstance" := by rfl) (hs : starEach (e :: [b]) X.env = (false, eval e X.env) :: starEach [b] X.env := by rfl) (hs2 : starEach [b] X.env = (false, eval b X.env) :: starEach [] X.env := by rfl)
    (hpl : (backTo pos (starEach [b] X.env)).any (·.1) = false := by rfl) : EE X (.Call (.Name "isinstance" p) [e, b] [] pos) (cBi gIsi (cCons fe (cCons fb cNil))) :=
  e_bi call_isi co_isi hm (a_cons h (a_cons h2 a_nil hs2) hs) (by decide +kernel) hg (by decide) (by decide) hs hpl

/-! ### sorted(d), d a dict with ints as keys -/
def intKeys : List Key → Option (List Int)
  | [] => some []
  | .inl i :: ks => (intKeys ks).map (i :: ·)
  | .inr _ :: _ => none
theorem intKeys_ok : ∀ {ks : List Key} {is : List Int}, intKeys ks = some is → ks = is.map Sum.inl
  | [], _, h => by cases h; rfl
  | .inl i :: ks, _, h => by
    obtain ⟨js, h1, rfl⟩ := Option.map_eq_some_iff.mp h
    rw [intKeys_ok h1]; rfl
  | .inr _ :: _, _, h => by cases h
def sortI (is : List Int) : List Int := is.mergeSort fun a b => decide (a ≤ b)
theorem sortI_perm (is : List Int) : (sortI is).Perm is := List.mergeSort_perm _ _
theorem sortI_sorted (is : List Int) : (sortI is).Pairwise (· ≤ ·) := by
  have h := List.pairwise_mergeSort (le := fun a b : Int => decide (a ≤ b)) (fun a b c h1 h2 => by simp at *; omega) (fun a b => by simp; omega) is
  exact h.imp fun h => by simpa using h
def gSortD : Store → List W → Option W := fun _ ws => match ws with
  | [.dk kvs] => (match intKeys (kvs.map (·.1)) with
    | some is => if is.length < 64 then some (.lst ((sortI is).map .int)) else none
    | none => none)
  | _ => none
theorem co_sortD {K : PySem.W.Frag} : CO K (fun xs H Q => ∃ (a : Addr) (kvs : List (Key × V)) (ks : List Int), xs = [V.ref a] ∧ Rd H a (.dK kvs) ∧ kvs.map (·.1) = ks.map Sum.inl ∧ ks.length < 64 ∧
    ∀ (ys : List Int) (p : Addr), ys.Perm ks → ys.Pairwise (· ≤ ·) → H p = none → Q (.ref p) (upd H p (.lst (ys.map V.int)))) gSortD := by
  intro α Z H S vs ws c wo p hg Q q
  unfold gSortD at hg
  split at hg
  · rename_i kvs
    split at hg
    · rename_i is his
      split at hg
      · rename_i h64
        cases hg
        obtain ⟨v, rfl, r⟩ := one_of p
        obtain ⟨a, o, xs, ws, rfl, h0, s, rl, _⟩ := r.muE rfl
        cases s with
        | @dk vkvs _ e =>
          refine ⟨a, vkvs, is, rfl, .inl h0, by rw [e]; exact intKeys_ok his, h64, fun ys p hp hs hn => ?_⟩
          have e2 : ys = sortI is := PySem.W.ksm_same (hp.trans (sortI_perm is).symm) hs (sortI_sorted is)
          subst e2
          exact new_list (m := .own) wo RepL.ints q p hn
      · cases hg
    · cases hg
  · cases hg
theorem e_sortD (hc : X.calm = true) (hm : X.mg "sorted" = none) (h : EE X e fe) (hg : Gl X "sorted" := by rfl) (hs : starEach [e] X.env = (false, eval e X.env) :: starEach [] X.env := by rfl) : EE X (.Call (.Name "sorted" p) [e] [] pos) (cBi gSortD (cCons fe cNil)) :=
  e_bi (call_sortedDI hc) co_sortD hm (a_cons h a_nil hs) (by decide +kernel) hg (by decide) (by decide) hs
end

/-! ### enumerate(tuple) -/
set_option maxHeartbeats 1000000 in
theorem meets_enumOne {val : Value} {itO : Obj} {Hs : Heap → Prop} (Bg : Begins val itO Hs) :
    Meets (Builtin.«enumerate.__new__» ⟨[.type "enumerate", val], []⟩) (fun _ R st => Hs st.heap ∧
      R (.ok (.ret (.ref (st.heap.push itO).objs.size))) { st with heap := (st.heap.push itO).push { cls := .type "enumerate", data := .fields #[.none, .bool false, .ref st.heap.objs.size, rawInt 0, .none, .none] } }) :=
  .of_wp fun prog w A R st hyp => by
    obtain ⟨hp, g, d, tk, os⟩ := st
    obtain ⟨hb1, hb2⟩ := hyp
    have hsub := sub_enumerate
    have begin_ : ∀ {A' : Around} {E : Value → Shared → Prop} {Q : Value → Shared → Prop}, Q (.ref hp.objs.size) ⟨hp.push itO, g, d, tk, os⟩ → wpAny (model prog w) A' (pyIter val) Q E ⟨hp, g, d, tk, os⟩ :=
      fun k => Bg.iter prog w _ _ ⟨hp, g, d, tk, os⟩ _ hb1 k
    wp_walk using begin_
    refine wpAny_stack_any fun stk => wpAny_pure ?_
    split
    · rename_i cc _ _ _ _ _
      cases (cc == Value.type "enumerate")
      · wp_walk using begin_
        exact ⟨_, rfl, hb2⟩
      · wp_walk using begin_
        exact ⟨_, rfl, hb2⟩
    · wp_walk using begin_
      exact ⟨_, rfl, hb2⟩
theorem enumOne_begins {prog : Program} {w : World} {A : Around} {E : Value → Shared → Prop} {s : Shared} {val : Value} {itO : Obj} {Hs : Heap → Prop} {Q : Value → Shared → Prop} (Bg : Begins val itO Hs) (h1 : Hs s.heap)
    (h : ∀ h', IsEnum h' (s.heap.objs.size + 1) s.heap.objs.size 0 .none → h'.get? s.heap.objs.size = some itO → h'.objs.size = s.heap.objs.size + 2 →
      (∀ b o, s.heap.get? b = some o → h'.get? b = some o) → Q (.ref (s.heap.objs.size + 1)) { s with heap := h' }) :
    wpAny (model prog w) A (call (.type "enumerate") [val]) Q E s := by
  refine callType_new F.called_enumerate (by decide) (F.typeCall_enumerate_1 _) (F.newCall_enumerate_1 _) (fun obj => F.args_object_init_2 obj _) F.entry_enumerate_new (meets_enumOne Bg) ⟨h1, ?_⟩
  have hz : (s.heap.push itO).objs.size = s.heap.objs.size + 1 := Heap.size_push ..
  show _ ∧ _
  rw [hz]
  have he : IsEnum ((s.heap.push itO).push { cls := .type "enumerate", data := .fields #[.none, .bool false, .ref s.heap.objs.size, rawInt 0, .none, .none] }) (s.heap.objs.size + 1) s.heap.objs.size 0 .none := by
    have q := Heap.get?_push_size (s.heap.push itO) (o := { cls := .type "enumerate", data := .fields #[.none, .bool false, .ref s.heap.objs.size, rawInt 0, .none, .none] }) rfl
    rw [hz] at q; exact q
  exact ⟨⟨_, he, rfl⟩, h _ he (Heap.get?_push_of_some _ (Heap.get?_push_size _ Bg.free)) (by rw [Heap.size_push, hz]) fun b o x => Heap.get?_push_of_some _ (Heap.get?_push_of_some _ x)⟩
/-- the tuple at a, each item in a new pair -/
def IteT (K : PySem.W.Frag) (a : Addr) : It :=
  ⟨fun i H => ∃ (xs : List V) (x : V), SqT K H a xs ∧ xs[i]? = some x, fun i H v H' => ∃ T x, v = .ref T ∧ H T = none ∧ H' = upd H T (.tup [.int (i : Nat), x]) ∧ ∀ xs, SqT K H a xs → xs[i]? = some x, fun i H => ∃ xs : List V, SqT K H a xs ∧ i = xs.length⟩
theorem turn_enumT {P : Program} {w : World} {K : PySem.W.Frag} {elts : List Expr} {kk : Nat} {tpos : Pos} (a en it : Addr) :
    Turn P w K (.Tuple elts kk tpos) (IteT K a) [en, it] en (fun i h => (∃ old, IsEnum h en it ((i : Nat) : Int) old) ∧ h.IsTupleIter it a i ∧ en ≠ it ∧ a ≠ it ∧ a ≠ en) where
  mem := by simp
  obj := fun i h st b hb => by
    obtain ⟨⟨old, hen⟩, ⟨ob, hob, hcls, hdat⟩, _⟩ := st
    rcases (show b = en ∨ b = it by simpa using hb) with rfl | rfl
    · exact ⟨_, hen, fun v q => nomatch q⟩
    · exact ⟨ob, hob, fun v q => by rw [hdat] at q; cases q⟩
  keep := fun i h h' st k => by
    obtain ⟨⟨old, hen⟩, hi, r⟩ := st
    exact ⟨⟨old, k en (by simp) _ hen⟩, hi.at fun o q => k it (by simp) o q, r⟩
  item := by
    intro X hP hw hK hc i pins s σ H E I hf st hg
    subst hP hw hK
    obtain ⟨⟨old, hen⟩, hti, hne, hai, hae⟩ := st
    obtain ⟨xs, x, hq, hx⟩ := hg
    obtain ⟨its, rv, tp, hz⟩ := I.tuple hq
    have lt1 : en < s.heap.objs.size := Heap.lt_size hen
    have lt2 : it < s.heap.objs.size := by obtain ⟨_, q, _⟩ := hti; exact Heap.lt_size q
    have D := Draws.tuple (prog := X.prog) (w := X.w) (A := X.A.in1) (I.ok.hd hc) it a hai its.toArray
    have hlen : i < its.toArray.size := by
      obtain ⟨hlt, _⟩ := List.getElem?_eq_some_iff.mp hx
      rw [List.size_toArray, ← rv.length]; exact hlt
    refine wpAny_pyNext_enum_itemC D hen ⟨hti, tp⟩ hlen hne (by simp only [List.mem_cons, List.not_mem_nil, or_false, not_or]; exact ⟨hne, hae.symm⟩) fun u h' tk hu hout hst' hT hsz hk => ?_
    have hu : its[i]? = some u := by simpa using hu
    obtain ⟨u', hu', ru⟩ := rv.get hx
    rw [hu] at hu'
    cases hu'
    refine ⟨_, rfl, wpAny_letOwnedTupleGo_enum (s := { s with heap := h', toks := tk + 1 }) hout fun h2 he2 sb => ?_⟩
    have hT2 : h2.get? s.heap.objs.size = some { cls := .type "tuple", data := .seq #[.int i tk, u] } := (sb.2 _ (Nat.ne_of_gt lt1)).trans hT
    have new : ObjOk X.prog X.w (upd H s.heap.objs.size (.tup [.int (i : Nat), x])) h2 s.heap.objs.size (.tup [.int (i : Nat), x]) :=
      ⟨by show 2 ≤ sizeLine; decide, [.int i tk, u], .cons ⟨_, rfl⟩ (.cons ru .nil), ⟨_, hT2, rfl, _, rfl⟩⟩
    have I2 := I.turnedNew (t' := tk + 1) (ch := [en, it]) (fun b ob hb q => (sb.2 b (fun z => hb (by simp [z]))).trans (hk b ob (fun z => hb (by simp [z])) (fun z => hb (by simp [z])) q)) hf (Nat.le_refl _) new
    refine ⟨.ref s.heap.objs.size, _, I2, rfl, ⟨_, x, rfl, I.hok.fresh (Nat.le_refl _), rfl, fun ys hy => by rw [I.tuple_inj hy hq]; exact hx⟩, ⟨⟨u, ?_⟩, hst'.1.at fun o q => (sb.2 it (Ne.symm hne)).trans q, hne, hai, hae⟩, fun b hb => ?_⟩
    · have e1 : ((i + 1 : Nat) : Int) = (i : Int) + 1 := by omega
      rw [e1]; exact he2
    · have hlt : b < s.heap.objs.size := by
        rcases (show b = en ∨ b = it by simpa using hb) with rfl | rfl
        · exact lt1
        · exact lt2
      rw [upd_ne (Nat.ne_of_lt hlt)]
      exact (hf b hb).1
  done := by
    intro X hP hw hK hc i pins s σ H E I hf st hg
    subst hP hw hK
    obtain ⟨⟨old, hen⟩, hti, hne, hai, hae⟩ := st
    obtain ⟨xs, hq, hx⟩ := hg
    obtain ⟨its, rv, tp, hz⟩ := I.tuple hq
    obtain ⟨f0, f1, f2, f3, f4, f5⟩ := hf it (by simp)
    have D := Draws.tuple (prog := X.prog) (w := X.w) (A := X.A.in1) (I.ok.hd hc) it a hai its.toArray
    have hi : i = its.toArray.size := by rw [hx, List.size_toArray, ← rv.length]
    exact wpAny_pyNext_enum_endD D hen ⟨by rw [← hi]; exact hti, tp⟩ fun h' eb => ⟨rfl, I.turned (t' := s.toks) (fun b o hb q => eb b o hb q) f0 f1 f3 f4 f5⟩
  self := fun A i s Q E st h => let ⟨⟨_, hen⟩, _⟩ := st; wpAny_pyIter_enum hen h
def iEnumA (K : PySem.W.Frag) (ta : TA) : TI := fun σ H R => ta σ H fun vs H1 => ∃ a xs, vs = [V.ref a] ∧ SqT K H1 a xs ∧ R (IteT K a) H1
theorem pi_enumT {X : Cx} {e : Expr} {ta : TA} {p pos tpos : Pos} {elts : List Expr} {kk : Nat} (hg : Gl X "enumerate") (hm : X.mg "enumerate" = none) (ha : PA X [e] ta) (hs : starEach [e] X.env = [(false, eval e X.env)]) :
    PI X (.Tuple elts kk tpos) (.Call (.Name "enumerate" p) [e] [] pos) (iEnumA X.K ta) := by
  refine ⟨fun pins s σ H R I h => ?_⟩
  refine Call_ (ld_blt I hg hm boot_enumerate (PyProof.Rows.callWith_type1 (thn (ha.run pos pins s σ H _ I h) fun us s1 ⟨vs, H1, I1, rs, hh⟩ => ?_) hs rfl))
  obtain ⟨a, xs, ex, hq, q⟩ := hh
  subst ex
  cases rs with
  | cons r rr =>
    cases rr
    cases r
    obtain ⟨its, rv, tp, hz⟩ := I1.tuple hq
    have hlt : a < s1.heap.objs.size := tp.lt
    refine enumOne_begins (begins_tuple a its.toArray) tp fun h' hen hit hsz hk => wpAny_pyIter_enum hen ?_
    have I2 : Inv X pins σ H1 { s1 with heap := h' } := I1.kept (t' := s1.toks) hk
    refine ⟨s1.heap.objs.size + 1, [s1.heap.objs.size + 1, s1.heap.objs.size], _, _, H1, rfl, I2, turn_enumT a (s1.heap.objs.size + 1) s1.heap.objs.size, ⟨⟨.none, hen⟩, ⟨_, hit, rfl, rfl⟩, Nat.succ_ne_self _, Nat.ne_of_lt hlt, Nat.ne_of_lt (Nat.lt_succ_of_lt hlt)⟩, fun b hb => ?_, q⟩
    have hle : s1.heap.objs.size ≤ b := by
      rcases (show b = s1.heap.objs.size + 1 ∨ b = s1.heap.objs.size by simpa using hb) with rfl | rfl
      · exact Nat.le_succ _
      · exact Nat.le_refl _
    exact I1.fpOk hle (I1.hok.fresh hle)
def enumW (ws : List W) : List W := ws.zipIdx.map fun p => .tup [.int (p.2 : Nat), p.1]
theorem enumW_get (ws : List W) (i : Nat) : (enumW ws)[i]? = (ws[i]?).map fun w => .tup [.int (i : Nat), w] := by
  unfold enumW
  rw [List.getElem?_map, List.getElem?_zipIdx]
  cases ws[i]? with
  | none => rfl
  | some w => simp
theorem enumW_len (ws : List W) : (enumW ws).length = ws.length := by
  unfold enumW
  rw [List.length_map, List.length_zipIdx]
section
variable {X : Cx} {K : PySem.W.Frag} {α : List Addr} {Z : Addr → Prop} {H : Hp} {S : Store} {ρ : Env} {σ : L2.St} {a : Addr} {xs : List V} {ws : List W} {elts : List Expr} {kk : Nat} {tpos p pos : Pos} {e : Expr}
theorem pair_new {H2 : Hp} {α2 : List Addr} {Z2 : Addr → Prop} {S2 : Store} {i : Nat} {T : Addr} {x : V} {w : W} (w2 : WOk K H2 S2 α2 Z2) (hT : H2 T = none) (r : Rep K α2 Z2 H2 x w) : Rep K α2 Z2 (upd H2 T (.tup [.int (i : Nat), x])) (.ref T) (.tup [.int (i : Nat), w]) :=
  .tup upd_same (.cons (.int _) (.cons (r.keep w2 (Keep.new hT)) .nil))
theorem walks_enum (w : WOk K H S α Z) (en : EnvOk K α Z H ρ σ) (h : H a = some (.lst xs)) (hn : a ∉ α) (no : ¬ OwnRoot ρ σ a) (r : RepL K α Z H xs ws) : Walks K (Ite K a) (enumW ws) (hide ρ σ H) α Z := by
  intro H2 α2 Z2 S2 k w2 i
  have h2 : H2 a = some (.lst xs) := k.h _ _ (hide_some h no) hn
  have r2 : RepL K α2 Z2 H2 xs ws := (en.hideL r).keep (en.hideW w) k
  rw [enumW_get, enumW_len]
  refine ⟨fun u hu => ?_, fun hu => ⟨xs, .of h2, by rw [r2.length, hu]; exact Nat.le_refl _⟩⟩
  obtain ⟨w0, hw0, rfl⟩ := Option.map_eq_some_iff.mp hu
  obtain ⟨v, hv, rv⟩ := r2.get hw0
  refine ⟨⟨xs, v, .of h2, hv⟩, fun x H' y => ?_⟩
  obtain ⟨T, x', rfl, hT, rfl, y⟩ := y
  have q := y xs (.of h2)
  rw [hv] at q
  cases q
  exact ⟨.inr ⟨T, _, hT, rfl⟩, pair_new w2 hT rv⟩
theorem walks_enumT (w : WOk K H S α Z) (en : EnvOk K α Z H ρ σ) (h : H a = some (.tup xs)) (r : RepL K α Z H xs ws) : Walks K (IteT K a) (enumW ws) (hide ρ σ H) α Z := by
  intro H2 α2 Z2 S2 k w2 i
  have hh : hide ρ σ H a = some (.tup xs) := hide_some h fun q => by
    obtain ⟨o, w, xs', ws', h0, s, _⟩ := en.root q
    rw [h] at h0; cases h0; exact s.ntup _ rfl
  have h2 : H2 a = some (.tup xs) := k.tup (fun _ h => (en.hideW w).cell h) hh
  have r2 : RepL K α2 Z2 H2 xs ws := (en.hideL r).keep (en.hideW w) k
  rw [enumW_get, enumW_len]
  refine ⟨fun u hu => ?_, fun hu => ⟨xs, .of h2, by rw [r2.length, hu]⟩⟩
  obtain ⟨w0, hw0, rfl⟩ := Option.map_eq_some_iff.mp hu
  obtain ⟨v, hv, rv⟩ := r2.get hw0
  refine ⟨⟨xs, v, .of h2, hv⟩, fun x H' y => ?_⟩
  obtain ⟨T, x', rfl, hT, rfl, y⟩ := y
  have q := y xs (.of h2)
  rw [hv] at q
  cases q
  exact ⟨.inr ⟨T, _, hT, rfl⟩, pair_new w2 hT rv⟩
/-- for k, x in enumerate(name) -/
def iEnV (i : Nat) : CI := fun ρ S => bnd (iVar i ρ S) fun ws S => some (enumW ws, S)
theorem i_enumV (i : Nat) {x : Str} {p1 : Pos} (hm : X.mg "enumerate" = none) (hg : Gl X "enumerate" := by rfl) (hN : X.N[i]? = some x := by rfl) (hv : Vis X.env.scope x := by first | exact Or.inl rfl | exact Or.inr (Or.inl rfl) | exact Or.inr (Or.inr rfl)) (hd : (x == ("__debug__" : Str)) = false := by decide)
    (hcd : (x == ("__classdict__" : Str)) = false := by decide) (hs : starEach [.Name x p1] X.env = [(false, eval (.Name x p1) X.env)] := by rfl) (hs2 : starEach (Expr.Name x p1 :: []) X.env = (false, eval (.Name x p1) X.env) :: starEach [] X.env := by rfl) :
    EI X (.Tuple elts kk tpos) (.Call (.Name "enumerate" p) [.Name x p1] [] pos) (iEnV i) :=
  PI.cons (PI.or (pi_enum hg hm (pa_cons (pe_var hN hv hd hcd) pa_nil hs2) hs) (pi_enumT hg hm (pa_cons (pe_var hN hv hd hcd) pa_nil hs2) hs)) fun σ H R ⟨ρ, S, α, Z, ws, S', wo, en, h, q⟩ => by
    obtain ⟨ws0, S1, h, h9⟩ := of_bnd h
    cases h9
    unfold iVar at h
    split at h
    · rename_i w m hr
      split at h
      · cases h
      · rename_i hno
        obtain ⟨ws', hw, e⟩ := Option.map_eq_some_iff.mp h
        cases e
        obtain ⟨v, e1, r1⟩ := en.slot i w m hr
        cases w with
        | tup us =>
          cases hw
          obtain ⟨a, xs, rfl, h0, rl⟩ := r1.ofTup
          exact .inr ⟨_, e1, a, xs, rfl, .of h0, q _ _ _ _ Keep.refl wo (walks_enumT wo en h0 rl)⟩
        | lst us =>
          cases hw
          obtain ⟨a, xs, rfl, h0, rl, hn, c1, c2⟩ := r1.ofLst
          refine .inl ⟨_, e1, a, xs, rfl, .of h0, q _ _ _ _ Keep.refl wo (walks_enum wo en h0 hn (fun ro => ?_) rl)⟩
          obtain ⟨j, w', g1, g2, g3⟩ := ro
          by_cases hij : j = i
          · subst hij
            rw [hr] at g1
            cases g1
            exact hno ⟨rfl, rfl⟩
          · exact en.sep j i w' _ m hij g1 g2 hr rfl (g3.trans e1.symm)
        | _ => cases hw
    · cases h
end
end Mp
/-! reckoning with the evaluator's functions -/
namespace Mp
open PySem PySem.Spec PyProof.Rows L2

/-! ### values -/
section
variable (b : Bool) (i : Int) (x : Str) (ws : List W) (kvs : List (Key × W)) (tvs : List (List Key × W)) (ns : List Int) (n : Nat) (m : Md) (t : String)
@[simp] theorem mut_non : W.mut .non = false := rfl
@[simp] theorem mut_bl : W.mut (.bl b) = false := rfl
@[simp] theorem mut_int : W.mut (.int i) = false := rfl
@[simp] theorem mut_str : W.mut (.str x) = false := rfl
@[simp] theorem mut_tup : W.mut (.tup ws) = false := rfl
@[simp] theorem mut_lst : W.mut (.lst ws) = true := rfl
@[simp] theorem mut_dk : W.mut (.dk kvs) = true := rfl
@[simp] theorem mut_dt : W.mut (.dt tvs) = true := rfl
@[simp] theorem mut_scr : W.mut (.scr ns) = false := rfl
@[simp] theorem mut_cel : W.mut (.cel n) = false := rfl
@[simp] theorem sto_non : sto (.non, m) = true := rfl
@[simp] theorem sto_bl : sto (.bl b, m) = true := rfl
@[simp] theorem sto_int : sto (.int i, m) = true := rfl
@[simp] theorem sto_str : sto (.str x, m) = true := rfl
@[simp] theorem sto_tup : sto (.tup ws, m) = true := rfl
@[simp] theorem sto_scr : sto (.scr ns, m) = true := rfl
@[simp] theorem sto_cel : sto (.cel n, m) = true := rfl
@[simp] theorem sto_own (w : W) : sto (w, .own) = true := by unfold sto; simp
@[simp] theorem sto_frz (w : W) : sto (w, .frz) = true := by unfold sto; simp
theorem sto_im {w : W} (h : w.mut = false) : sto (w, m) = true := by unfold sto; simp [h]
@[simp] theorem md_non : md (.non, m) = (.non, .frz) := rfl
@[simp] theorem md_bl : md (.bl b, m) = (.bl b, .frz) := rfl
@[simp] theorem md_int : md (.int i, m) = (.int i, .frz) := rfl
@[simp] theorem md_str : md (.str x, m) = (.str x, .frz) := rfl
@[simp] theorem md_tup : md (.tup ws, m) = (.tup ws, .frz) := rfl
@[simp] theorem md_lst : md (.lst ws, m) = (.lst ws, m) := rfl
@[simp] theorem md_dk : md (.dk kvs, m) = (.dk kvs, m) := rfl
@[simp] theorem md_dt : md (.dt tvs, m) = (.dt tvs, m) := rfl
@[simp] theorem md_scr : md (.scr ns, m) = (.scr ns, .frz) := rfl
@[simp] theorem md_cel : md (.cel n, m) = (.cel n, .frz) := rfl
theorem md_im {w : W} (h : w.mut = false) : md (w, m) = (w, .frz) := by unfold md; simp [h]
end

/-! ### the combinators' equations -/
section
variable (ρ : Env) (S : Store)
@[simp] theorem q_lit (w : W) : cLit w ρ S = some ((w, .frz), S) := rfl
@[simp] theorem q_nil : cNil ρ S = some ([], S) := rfl
@[simp] theorem q_cons (f : CE) (g : CA) : cCons f g ρ S = bnd (f ρ S) fun r S => bnd (g ρ S) fun rs S => some (r :: rs, S) := rfl
theorem q_var (i : Nat) : cVar i ρ S = match ρ[i]? with
  | some (some (w, m)) => some ((w, if m = .own then .brw else m), S)
  | _ => none := rfl
@[simp] theorem q_bin (g : W → W → Option W) (fa fb : CE) : cBin g fa fb ρ S = bnd (fa ρ S) fun a S => bnd (fb ρ S) fun b S => (g a.1 b.1).map fun c => ((c, .own), S) := rfl
@[simp] theorem q_tup (f : CA) : cTup f ρ S = bnd (f ρ S) fun rs S => if rs.all sto = true ∧ rs.length ≤ sizeLine then some ((.tup (rs.map (·.1)), .own), S) else none := rfl
@[simp] theorem q_lst (f : CA) : cLst f ρ S = bnd (f ρ S) fun rs S => if rs.all sto = true ∧ rs.length ≤ sizeLine then some ((.lst (rs.map (·.1)), .own), S) else none := rfl
@[simp] theorem q_box (f : CA) : cBox f ρ S = bnd (f ρ S) fun rs S => if rs.all sto = true ∧ rs.length ≤ sizeLine then some ((.cel S.length, .own), S ++ [rs.map (·.1)]) else none := rfl
@[simp] theorem q_neg (f : CE) : cNeg f ρ S = bnd (f ρ S) fun r S => match r.1 with | .int i => some ((.int (-i), .own), S) | _ => none := rfl
@[simp] theorem q_notT (f : CT) : cNotT f ρ S = bnd (f ρ S) fun b S => some (!b, S) := rfl
@[simp] theorem q_andT (f g : CT) : cAndT f g ρ S = bnd (f ρ S) fun b S => if b = true then g ρ S else some (false, S) := rfl
@[simp] theorem q_orT (f g : CT) : cOrT f g ρ S = bnd (f ρ S) fun b S => if b = true then some (true, S) else g ρ S := rfl
@[simp] theorem q_notV (f : CE) : cNotV f ρ S = bnd (f ρ S) fun r S => match r.1 with | .bl b => some ((.bl (!b), .own), S) | _ => none := rfl
@[simp] theorem q_andV (f g : CE) : cAndV f g ρ S = bnd (f ρ S) fun r S => match r.1 with | .bl b => if b = true then g ρ S else some ((.bl false, .own), S) | _ => none := rfl
@[simp] theorem q_orV (f g : CE) : cOrV f g ρ S = bnd (f ρ S) fun r S => match r.1 with | .bl b => if b = true then some ((.bl true, .own), S) else g ρ S | _ => none := rfl
@[simp] theorem q_if (c : CT) (f g : CE) : cIf c f g ρ S = bnd (c ρ S) fun b S => if b = true then f ρ S else g ρ S := rfl
@[simp] theorem q_B (f : CE) : cB f ρ S = bnd (f ρ S) fun r S => match r.1 with | .bl b => some (b, S) | _ => none := rfl
@[simp] theorem q_ix (fa fb : CE) : cIx fa fb ρ S = bnd (fa ρ S) fun a S => bnd (fb ρ S) fun b S => (gIx S a.1 b.1).map fun c => ((c, .frz), S) := rfl
@[simp] theorem q_call (m : FnSem) (fs : CA) : cCall m fs ρ S = bnd (fs ρ S) fun rs S => m (rs.map (·.1)) S := rfl
@[simp] theorem q_bi (g : Store → List W → Option W) (fs : CA) : cBi g fs ρ S = bnd (fs ρ S) fun rs S => (g S (rs.map (·.1))).map fun c => ((c, .own), S) := rfl
@[simp] theorem q_sl (f : CE) (lo hi : CO1) : cSl f lo hi ρ S = bnd (f ρ S) fun r S => bnd (lo ρ S) fun l S => bnd (hi ρ S) fun h S => (gSl r.1 l h).map fun c => ((c, .own), S) := rfl
@[simp] theorem q_oNone : oNone ρ S = some (none, S) := rfl
@[simp] theorem q_oSome (f : CE) : oSome f ρ S = bnd (f ρ S) fun r S => match r.1 with | .int i => some (some i, S) | _ => none := rfl
@[simp] theorem q_dk : cDk ρ S = some ((.dk [], .own), S) := rfl
@[simp] theorem q_dt : cDt ρ S = some ((.dt [], .own), S) := rfl
@[simp] theorem q_yesT : tYesT ρ S = some (true, S) := rfl
@[simp] theorem q_get2 (fd fk fx : CE) : cGet2 fd fk fx ρ S = bnd (fd ρ S) fun d S => bnd (fk ρ S) fun k S => bnd (fx ρ S) fun x S => match dicAt d.1 k.1 with
  | some (some w) => some ((w, .frz), S)
  | some none => some (x, S)
  | none => none := rfl
@[simp] theorem q_lc (t : CG) (it : CI) (c : CT) (f : CE) (vs : List Nat) : cLc t it c f vs ρ S = bnd (it ρ S) fun ws S => if ws.length ≤ sizeLine then bnd (lcL t c f (wipeE ρ vs) ws S) fun rs S => some ((.lst rs, .own), S) else none := rfl
@[simp] theorem q_iExp (f : CE) : iExp f ρ S = bnd (f ρ S) fun r S => if sto r = true then (itemsOf r.1).map fun ws => (ws, S) else none := rfl
theorem q_iVar (i : Nat) : iVar i ρ S = match ρ[i]? with
  | some (some (w, m)) => if w.mut = true ∧ m = .own then none else (itemsOf w).map fun ws => (ws, S)
  | _ => none := rfl
@[simp] theorem q_iEnV (i : Nat) : iEnV i ρ S = bnd (iVar i ρ S) fun ws S => some (enumW ws, S) := rfl
@[simp] theorem q_range1 (f : CE) : iRange1 f ρ S = bnd (f ρ S) fun r S => match r.1 with
  | .int j => if j.natAbs < 1073741824 then some (rangeW 0 j.toNat, S) else none
  | _ => none := rfl
@[simp] theorem q_range2 (f g : CE) : iRange2 f g ρ S = bnd (f ρ S) fun a S => bnd (g ρ S) fun b S => match a.1, b.1 with
  | .int i, .int j => if i.natAbs < 1073741824 ∧ j.natAbs < 1073741824 then some (rangeW i (j - i).toNat, S) else none
  | _, _ => none := rfl
@[simp] theorem items_tup (ws : List W) : itemsOf (.tup ws) = some ws := rfl
@[simp] theorem items_lst (ws : List W) : itemsOf (.lst ws) = some ws := rfl
-- statements
theorem q_seq (f g : CS) : cSeq f g ρ S = match f ρ S with
  | some (.nx ρ' S') => g ρ' S'
  | o => o := rfl
@[simp] theorem q_skip : cSkip ρ S = some (.nx ρ S) := rfl
@[simp] theorem q_ret (f : CE) : cRet f ρ S = bnd (f ρ S) fun r S => if sto r = true then some (.rt r S) else none := rfl
theorem q_retV (i : Nat) : cRetV i ρ S = match ρ[i]? with
  | some (some r) => if sto r = true then some (.rt r S) else none
  | _ => none := rfl
@[simp] theorem q_ifS (t : CT) (f g : CS) : cIfS t f g ρ S = bnd (t ρ S) fun b S => if b = true then f ρ S else g ρ S := rfl
@[simp] theorem q_asg (t : CG) (f : CE) : cAsg t f ρ S = bnd (f ρ S) fun r S => (t r ρ).map fun ρ' => .nx ρ' S := rfl
@[simp] theorem q_drop (f : CE) : cDrop f ρ S = bnd (f ρ S) fun _ S => some (.nx ρ S) := rfl
@[simp] theorem q_for (t : CG) (it : CI) (b : CS) : cFor t it b ρ S = bnd (it ρ S) fun ws S => cForL t b ws ρ S := rfl
@[simp] theorem q_tName (i : Nat) (r : Wm) : tName i r ρ = if sto r = true then some (ρ.set i (some (md r))) else none := rfl
@[simp] theorem q_tTup (n : Nat) (t : List W → Env → Option Env) (ws : List W) (m : Md) : tTup n t (.tup ws, m) ρ = if ws.length = n then t ws ρ else none := rfl
@[simp] theorem q_tCons (t : CG) (u : List W → Env → Option Env) (w : W) (ws : List W) : tCons t u (w :: ws) ρ = (t (w, .frz) ρ).bind (u ws) := rfl
@[simp] theorem q_tNil : tNil [] ρ = some ρ := rfl
@[simp] theorem q_fz (is : List Nat) (f : CS) : cFz is f ρ S = f (is.foldl frzE ρ) S := rfl
theorem q_frzE (i : Nat) : frzE ρ i = match ρ[i]? with
  | some (some (w, .own)) => ρ.set i (some (w, .frz))
  | _ => ρ := rfl
theorem q_app (i : Nat) (f : CE) : cApp i f ρ S = bnd (f ρ S) fun r S => if sto r = true then (match ρ[i]? with
  | some (some (.lst ws, .own)) => if ws.length < sizeLine then some (.nx (ρ.set i (some (.lst (ws ++ [r.1]), .own))) S) else none
  | _ => none) else none := rfl
theorem q_aug (i : Nat) (g : W → W → Option W) (f : CE) : cAug i g f ρ S = bnd (f ρ S) fun r S => match ρ[i]? with
  | some (some (w, _)) => (match g w r.1 with
    | some (.int z) => some (.nx (ρ.set i (some (.int z, .frz))) S)
    | _ => none)
  | _ => none := rfl
@[simp] theorem q_setIx (i : Nat) (fk fe : CE) : cSetIx i fk fe ρ S = bnd (fe ρ S) fun r S => bnd (fk ρ S) fun k S => if sto r = true then setAt ρ S i k.1 r.1 else none := rfl
@[simp] theorem q_wipe0 : wipeE ρ [] = ρ := rfl
@[simp] theorem q_wipe (v : Nat) (vs : List Nat) : wipeE ρ (v :: vs) = (wipeE ρ vs).set v none := rfl
end
@[simp] theorem lc_nil (t : CG) (c : CT) (f : CE) (ρ : Env) (S : Store) : lcL t c f ρ [] S = some ([], S) := rfl
theorem lc_cons (t : CG) (c : CT) (f : CE) (ρ : Env) (w : W) (ws : List W) (S : Store) : lcL t c f ρ (w :: ws) S = match t (w, .frz) ρ with
    | none => none
    | some ρ1 => bnd (c ρ1 S) fun b S1 => if b = true then bnd (f ρ1 S1) fun r S2 => if sto r = true then bnd (lcL t c f ρ ws S2) fun rs S3 => some (r.1 :: rs, S3) else none
        else lcL t c f ρ ws S1 := rfl
@[simp] theorem for_nil (t : CG) (b : CS) (ρ : Env) (S : Store) : cForL t b [] ρ S = some (.nx ρ S) := rfl
theorem for_cons (t : CG) (b : CS) (w : W) (ws : List W) (ρ : Env) (S : Store) : cForL t b (w :: ws) ρ S = match t (w, .frz) ρ with
  | none => none
  | some ρ1 => match b ρ1 S with
    | some (.nx ρ2 S2) => cForL t b ws ρ2 S2
    | some (.ct ρ2 S2) => cForL t b ws ρ2 S2
    | some (.bk ρ2 S2) => some (.nx ρ2 S2)
    | some (.rt r S2) => some (.rt r S2)
    | none => none := rfl

/-- how a def's body ends -/
def fin (o : Option SOut) : Option (Wm × Store) := match o with
  | some (.rt r S') => if sto r = true then some (r, S') else none
  | some (.nx _ S') => some ((.non, .own), S')
  | _ => none
theorem cFn_run {n N : Nat} {c : CS} {ws : List W} {S : Store} (h : ws.length = n) : cFn n N c ws S = fin (c (ws.map (fun w => some (w, Md.brw)) ++ List.replicate (N - n) none) S) := by
  unfold cFn
  rw [if_pos h]
  rfl
@[simp] theorem fin_rt (r : Wm) (S : Store) : fin (some (.rt r S)) = if sto r = true then some (r, S) else none := rfl
@[simp] theorem fin_nx (ρ : Env) (S : Store) : fin (some (.nx ρ S)) = some ((.non, .own), S) := rfl

/-! ### loops -/
/-- a comprehension whose turns are f x, the store kept -/
theorem lc_map {A : Type} {t : CG} {c : CT} {f : CE} {ρ : Env} {S : Store} {enc : A → W} {g : A → W} : ∀ {xs : List A},
    (∀ x ∈ xs, ∃ ρ1 m, t (enc x, .frz) ρ = some ρ1 ∧ c ρ1 S = some (true, S) ∧ f ρ1 S = some ((g x, m), S) ∧ sto (g x, m) = true) → lcL t c f ρ (xs.map enc) S = some (xs.map g, S)
  | [], _ => rfl
  | x :: xs, h => by
    obtain ⟨ρ1, m, h1, h2, h3, h4⟩ := h x List.mem_cons_self
    rw [List.map_cons, lc_cons, h1]
    simp only [h2, bnd_some, if_true, h3, h4]
    rw [lc_map fun y hy => h y (List.mem_cons_of_mem _ hy)]
    rfl
theorem lc_filter {A : Type} {t : CG} {c : CT} {f : CE} {ρ : Env} {S : Store} {enc : A → W} {g : A → W} {p : A → Bool} : ∀ {xs : List A},
    (∀ x ∈ xs, ∃ ρ1 m, t (enc x, .frz) ρ = some ρ1 ∧ c ρ1 S = some (p x, S) ∧ (p x = true → f ρ1 S = some ((g x, m), S) ∧ sto (g x, m) = true)) → lcL t c f ρ (xs.map enc) S = some ((xs.filter p).map g, S)
  | [], _ => rfl
  | x :: xs, h => by
    obtain ⟨ρ1, m, h1, h2, h3⟩ := h x List.mem_cons_self
    have ih := lc_filter fun y hy => h y (List.mem_cons_of_mem _ hy)
    rw [List.map_cons, lc_cons, h1]
    simp only [h2, bnd_some]
    by_cases hp : p x = true
    · obtain ⟨h4, h5⟩ := h3 hp
      rw [if_pos hp, List.filter_cons_of_pos hp]
      simp only [h4, bnd_some, h5, if_true]
      rw [ih]; rfl
    · rw [if_neg hp, List.filter_cons_of_neg hp]
      exact ih
/-- a comprehension that draws: what each turn gives is R -/
theorem lc_ex {t : CG} {c : CT} {f : CE} {ρ : Env} {I : Store → Prop} {R : W → W → Prop} : ∀ {ws : List W} {S : Store}, I S →
    (∀ w ∈ ws, ∀ S, I S → ∃ ρ1 g m S2, t (w, .frz) ρ = some ρ1 ∧ c ρ1 S = some (true, S) ∧ f ρ1 S = some ((g, m), S2) ∧ sto (g, m) = true ∧ I S2 ∧ R w g) → ∃ gs S2, lcL t c f ρ ws S = some (gs, S2) ∧ I S2 ∧ Paired R ws gs
  | [], S, hI, _ => ⟨[], S, rfl, hI, .nil⟩
  | w :: ws, S, hI, h => by
    obtain ⟨ρ1, g, m, S2, h1, h2, h3, h4, h5, h6⟩ := h w List.mem_cons_self S hI
    obtain ⟨gs, S3, h7, h8, h9⟩ := lc_ex h5 fun y hy => h y (List.mem_cons_of_mem _ hy)
    refine ⟨g :: gs, S3, ?_, h8, .cons h6 h9⟩
    rw [lc_cons, h1]
    simp only [h2, bnd_some, if_true, h3, h4]
    rw [h7]; rfl
/-- a loop whose turns all go on -/
theorem for_inv {t : CG} {b : CS} {ws : List W} (I : Nat → Env → Store → Prop) (step : ∀ i w ρ S, ws[i]? = some w → I i ρ S → ∃ ρ1 ρ2 S2, t (w, .frz) ρ = some ρ1 ∧ b ρ1 S = some (.nx ρ2 S2) ∧ I (i + 1) ρ2 S2)
    {ρ : Env} {S : Store} (h0 : I 0 ρ S) : ∃ ρ2 S2, cForL t b ws ρ S = some (.nx ρ2 S2) ∧ I ws.length ρ2 S2 := by
  have go : ∀ (us : List W) (i : Nat) (ρ : Env) (S : Store), ws.drop i = us → i ≤ ws.length → I i ρ S → ∃ ρ2 S2, cForL t b us ρ S = some (.nx ρ2 S2) ∧ I ws.length ρ2 S2 := by
    intro us
    induction us with
    | nil =>
      intro i ρ S e hi h
      have : i = ws.length := by
        have := congrArg List.length e
        rw [List.length_drop, List.length_nil] at this
        omega
      subst this
      exact ⟨ρ, S, rfl, h⟩
    | cons u us ih =>
      intro i ρ S e hi h
      have hlt : i < ws.length := by
        have := congrArg List.length e
        rw [List.length_drop, List.length_cons] at this
        omega
      rw [List.drop_eq_getElem_cons hlt] at e
      injection e with e1 e2
      obtain ⟨ρ1, ρ2, S2, h1, h2, h3⟩ := step i u ρ S (by rw [← e1]; exact List.getElem?_eq_getElem hlt) h
      obtain ⟨ρ3, S3, h4, h5⟩ := ih (i + 1) ρ2 S2 e2 hlt h3
      refine ⟨ρ3, S3, ?_, h5⟩
      rw [for_cons, h1]
      simp only [h2]
      exact h4
  exact go ws 0 ρ S (List.drop_zero) (Nat.zero_le _) h0
/-- over encoded items, by a state that each turn changes -/
theorem for_fold {A B : Type} {t : CG} {b : CS} {enc : A → W} {st : B → A → B} (I : B → Env → Store → Prop) : ∀ {xs : List A} {s : B} {ρ : Env} {S : Store},
    (∀ x ∈ xs, ∀ s ρ S, I s ρ S → ∃ ρ1 ρ2 S2, t (enc x, .frz) ρ = some ρ1 ∧ b ρ1 S = some (.nx ρ2 S2) ∧ I (st s x) ρ2 S2) → I s ρ S → ∃ ρ2 S2, cForL t b (xs.map enc) ρ S = some (.nx ρ2 S2) ∧ I (xs.foldl st s) ρ2 S2
  | [], s, ρ, S, _, h => ⟨ρ, S, rfl, h⟩
  | x :: xs, s, ρ, S, h, hi => by
    obtain ⟨ρ1, ρ2, S2, h1, h2, h3⟩ := h x List.mem_cons_self s ρ S hi
    obtain ⟨ρ3, S3, h4, h5⟩ := for_fold I (fun y hy => h y (List.mem_cons_of_mem _ hy)) h3
    refine ⟨ρ3, S3, ?_, h5⟩
    rw [List.map_cons, for_cons, h1]
    simp only [h2]
    exact h4
/-- a loop that may leave by a return of one value: p tells the items that leave -/
theorem for_search {A : Type} {t : CG} {b : CS} {enc : A → W} {p : A → Bool} {r : Wm} {S : Store} (I : Env → Prop) : ∀ {xs : List A} {ρ : Env},
    (∀ x ∈ xs, ∀ ρ, I ρ → ∃ ρ1, t (enc x, .frz) ρ = some ρ1 ∧ ((p x = true ∧ b ρ1 S = some (.rt r S)) ∨ (p x = false ∧ ∃ ρ2, b ρ1 S = some (.nx ρ2 S) ∧ I ρ2))) → I ρ →
      (xs.any p = true ∧ cForL t b (xs.map enc) ρ S = some (.rt r S)) ∨ (xs.any p = false ∧ ∃ ρ2, cForL t b (xs.map enc) ρ S = some (.nx ρ2 S) ∧ I ρ2)
  | [], ρ, _, h => .inr ⟨rfl, ρ, rfl, h⟩
  | x :: xs, ρ, h, hi => by
    obtain ⟨ρ1, h1, h2⟩ := h x List.mem_cons_self ρ hi
    rw [List.any_cons, List.map_cons, for_cons, h1]
    rcases h2 with ⟨hp, h2⟩ | ⟨hp, ρ2, h2, h3⟩
    · exact .inl ⟨by rw [hp]; rfl, by simp only [h2]⟩
    · simp only [h2, hp, Bool.false_or]
      exact for_search I (fun y hy => h y (List.mem_cons_of_mem _ hy)) h3

/-! ### == -/
mutual
/-- data of at most that depth: what == asks -/
def okD : W → Nat → Bool
  | .non, _ => true
  | .bl _, _ => true
  | .int _, _ => true
  | .str x, _ => PyData.strOk x
  | .tup ws, n => decide (0 < n) && okDs ws (n - 1)
  | .lst ws, n => decide (0 < n) && okDs ws (n - 1)
  | .dk _, _ => false
  | .dt _, _ => false
  | .scr _, _ => false
  | .cel _, _ => false
  | .ty _, _ => false
def okDs : List W → Nat → Bool
  | [], _ => true
  | w :: ws, n => okD w n && okDs ws n
end
def eqW (a b : W) : Bool := match toD a, toD b with
  | some d, some e => PyData.eqv d e
  | _, _ => false
def eqWs (a b : List W) : Bool := match toDs a, toDs b with
  | some d, some e => PyData.eqvAll d e
  | _, _ => false
mutual
theorem okD_ok : ∀ (w : W) (n : Nat), okD w n = true → ∃ d, toD w = some d ∧ d.canLay0 = true ∧ d.depth ≤ n
  | .non, _, _ => ⟨_, rfl, rfl, Nat.zero_le _⟩
  | .bl _, _, _ => ⟨_, rfl, rfl, Nat.zero_le _⟩
  | .int _, _, _ => ⟨_, rfl, rfl, Nat.zero_le _⟩
  | .str x, _, h => ⟨_, rfl, h, Nat.zero_le _⟩
  | .tup ws, n, h => by
    unfold okD at h
    rw [Bool.and_eq_true, decide_eq_true_eq] at h
    obtain ⟨ds, h1, h2, h3⟩ := okDs_ok ws (n - 1) h.2
    refine ⟨.tuple ds, by unfold toD; rw [h1]; rfl, h2, ?_⟩
    have := h.1
    show PyData.depthAll ds + 1 ≤ n
    omega
  | .lst ws, n, h => by
    unfold okD at h
    rw [Bool.and_eq_true, decide_eq_true_eq] at h
    obtain ⟨ds, h1, h2, h3⟩ := okDs_ok ws (n - 1) h.2
    refine ⟨.list ds, by unfold toD; rw [h1]; rfl, h2, ?_⟩
    have := h.1
    show PyData.depthAll ds + 1 ≤ n
    omega
  | .dk _, _, h => by cases h
  | .dt _, _, h => by cases h
  | .scr _, _, h => by cases h
  | .cel _, _, h => by cases h
  | .ty _, _, h => by cases h
theorem okDs_ok : ∀ (ws : List W) (n : Nat), okDs ws n = true → ∃ ds, toDs ws = some ds ∧ PyData.canLayAll0 ds = true ∧ PyData.depthAll ds ≤ n
  | [], _, _ => ⟨[], rfl, rfl, Nat.zero_le _⟩
  | w :: ws, n, h => by
    unfold okDs at h
    rw [Bool.and_eq_true] at h
    obtain ⟨d, h1, h2, h3⟩ := okD_ok w n h.1
    obtain ⟨ds, h4, h5, h6⟩ := okDs_ok ws n h.2
    refine ⟨d :: ds, by unfold toDs; rw [h1, h4], ?_, ?_⟩
    · show (d.canLay0 && PyData.canLayAll0 ds) = true
      rw [h2, h5]; rfl
    · show max d.depth (PyData.depthAll ds) ≤ n
      omega
end
theorem gEq_ok {neg : Bool} {a b : W} (ha : okD a 64 = true) (hb : okD b 64 = true) : gEq neg a b = some (.bl (neg != eqW a b)) := by
  obtain ⟨d, h1, h2, h3⟩ := okD_ok a 64 ha
  obtain ⟨e, h4, h5, h6⟩ := okD_ok b 64 hb
  unfold gEq eqW
  rw [h1, h4]
  have s1 : SeqAt.shaped d = true := by unfold SeqAt.shaped; rw [h2, Bool.true_and, decide_eq_true_eq]; exact h3
  have s2 : SeqAt.shaped e = true := by unfold SeqAt.shaped; rw [h5, Bool.true_and, decide_eq_true_eq]; exact h6
  simp only [s1, s2, and_self, if_true]
theorem eqW_refl {a : W} {n : Nat} (h : okD a n = true) : eqW a a = true := by
  obtain ⟨d, h1, h2, _⟩ := okD_ok a n h
  unfold eqW
  rw [h1]
  exact SeqAt.eqv_refl d h2
@[simp] theorem eqW_int (i j : Int) : eqW (.int i) (.int j) = decide (i = j) := by
  show (i == j) = decide (i = j)
  by_cases h : i = j <;> simp [h]
@[simp] theorem eqW_str (x y : Str) : eqW (.str x) (.str y) = decide (x = y) := by
  show (x == y) = decide (x = y)
  by_cases h : x = y <;> simp [h]
@[simp] theorem eqW_bl (x y : Bool) : eqW (.bl x) (.bl y) = (x == y) := rfl
@[simp] theorem gEq_int (neg : Bool) (i j : Int) : gEq neg (.int i) (.int j) = some (.bl (neg != decide (i = j))) := by rw [gEq_ok rfl rfl, eqW_int]
@[simp] theorem gEq_bl (neg : Bool) (i j : Bool) : gEq neg (.bl i) (.bl j) = some (.bl (neg != (i == j))) := by rw [gEq_ok rfl rfl, eqW_bl]
theorem gEq_str {neg : Bool} {x y : Str} (hx : PyData.strOk x = true) (hy : PyData.strOk y = true) : gEq neg (.str x) (.str y) = some (.bl (neg != decide (x = y))) := by rw [gEq_ok (by unfold okD; exact hx) (by unfold okD; exact hy), eqW_str]
theorem gEq_same {neg : Bool} {a : W} (h : okD a 64 = true) : gEq neg a a = some (.bl (neg != true)) := by rw [gEq_ok h h, eqW_refl h]
theorem okDs_all : ∀ {ws : List W} {n : Nat}, (∀ w ∈ ws, okD w n = true) → okDs ws n = true
  | [], _, _ => rfl
  | w :: ws, n, h => by
    unfold okDs
    rw [h w List.mem_cons_self, okDs_all fun u hu => h u (List.mem_cons_of_mem _ hu)]
    rfl
theorem okD_tup {ws : List W} {n : Nat} (h : ∀ w ∈ ws, okD w n = true) : okD (.tup ws) (n + 1) = true := by
  unfold okD
  rw [Nat.add_sub_cancel, okDs_all h]
  simp
theorem okD_lst {ws : List W} {n : Nat} (h : ∀ w ∈ ws, okD w n = true) : okD (.lst ws) (n + 1) = true := by
  unfold okD
  rw [Nat.add_sub_cancel, okDs_all h]
  simp
/-! ### arithmetic that walks -/
@[simp] theorem gAdd_int (i j : Int) : gAdd (.int i) (.int j) = some (.int (i + j)) := rfl
@[simp] theorem gAddI_int (i j : Int) : gAddI (.int i) (.int j) = some (.int (i + j)) := rfl
@[simp] theorem gSub_int (i j : Int) : Mp.gSub (.int i) (.int j) = some (.int (i - j)) := rfl
@[simp] theorem gLt_int (i j : Int) : gLt (.int i) (.int j) = some (.bl (decide (i < j))) := rfl
@[simp] theorem gLe_int (i j : Int) : gLe (.int i) (.int j) = some (.bl (decide (i ≤ j))) := rfl
@[simp] theorem gGt_int (i j : Int) : gGt (.int i) (.int j) = some (.bl (decide (j < i))) := rfl
@[simp] theorem gGe_int (i j : Int) : gGe (.int i) (.int j) = some (.bl (decide (j ≤ i))) := rfl
theorem gMul_int {i j : Int} (h : (-(2 ^ 64) < i ∧ i < 2 ^ 64) ∨ (-(2 ^ 64) < j ∧ j < 2 ^ 64)) : gMul (.int i) (.int j) = some (.int (i * j)) := by
  show (if _ then _ else _) = _
  rw [if_pos h]
theorem gDiv_int {i j : Int} (h : 0 < j) (h2 : j < 1073741824) : gDiv (.int i) (.int j) = some (.int (i / j)) := by
  show (if _ then _ else _) = _
  rw [if_pos ⟨by omega, by omega⟩, Int.fdiv_eq_ediv_of_nonneg _ (by omega)]
theorem gMod_int {i j : Int} (h : 0 < j) : gMod (.int i) (.int j) = some (.int (i % j)) := by
  show (if _ then _ else _) = _
  rw [if_pos (by omega), Int.fmod_eq_emod_of_nonneg _ (by omega)]
@[simp] theorem gInt_int (S : Store) (i : Int) : gInt S [.int i] = some (.int i) := rfl
@[simp] theorem gInt_bl (S : Store) (b : Bool) : gInt S [.bl b] = some (.int (if b then 1 else 0)) := rfl
@[simp] theorem gLen_tup (S : Store) (ws : List W) : gLen S [.tup ws] = some (.int ws.length) := rfl
@[simp] theorem gLen_lst (S : Store) (ws : List W) : gLen S [.lst ws] = some (.int ws.length) := rfl
@[simp] theorem gTuple_lst (S : Store) (ws : List W) : gTuple S [.lst ws] = some (.tup ws) := rfl
@[simp] theorem gTuple_tup (S : Store) (ws : List W) : gTuple S [.tup ws] = some (.tup ws) := rfl
@[simp] theorem gList_scr (S : Store) (ns : List Int) : gList S [.scr ns] = some (.lst (ns.map .int)) := rfl
@[simp] theorem gList_lst (S : Store) (ws : List W) : gList S [.lst ws] = some (.lst ws) := rfl
@[simp] theorem gList_tup (S : Store) (ws : List W) : gList S [.tup ws] = some (.lst ws) := rfl
@[simp] theorem gIx_tup (S : Store) (ws : List W) (i : Int) : gIx S (.tup ws) (.int i) = atI ws i := rfl
@[simp] theorem gIx_lst (S : Store) (ws : List W) (i : Int) : gIx S (.lst ws) (.int i) = atI ws i := rfl
theorem atI_of {A : Type} {xs : List A} {i : Int} (h : 0 ≤ i) : atI xs i = xs[i.toNat]? := by
  unfold atI ixN
  rw [if_pos h]
  split
  · rfl
  · rename_i h2
    rw [List.getElem?_eq_none (by omega)]
    rfl
@[simp] theorem atI_0 {A : Type} (x : A) (xs : List A) : atI (x :: xs) 0 = some x := by rw [atI_of (by omega)]; rfl
@[simp] theorem atI_1 {A : Type} (x y : A) (xs : List A) : atI (x :: y :: xs) 1 = some y := by rw [atI_of (by omega)]; rfl
@[simp] theorem atI_2 {A : Type} (x y z : A) (xs : List A) : atI (x :: y :: z :: xs) 2 = some z := by rw [atI_of (by omega)]; rfl
theorem size_ok {n : Nat} (h : n ≤ 10000000) : n ≤ sizeLine := by rw [sizeLine_eq]; omega
theorem size_lt {n : Nat} (h : n ≤ 10000000) : n < sizeLine := by rw [sizeLine_eq]; omega
end Mp
/-! what every law of this family begins with: the tape and its draws -/
namespace Mp
open PySem PySem.Spec PyProof.Rows L2
def cDrawA : CS := cSeq (cIfS (cB (cBin gLt (cVar 4) (cBi gLen (cCons (cVar 3) cNil)))) (cAsg (tName 5) (cIx (cVar 3) (cVar 4))) (cSkip))
  (cSeq (cIfS (cB (cBin gLt (cVar 5) (cLit (.int 0)))) (cAsg (tName 5) (cBin Mp.gSub (cBin gMul (cNeg (cLit (.int 2))) (cVar 5)) (cLit (.int 1)))) (cSkip))
  (cSeq (cIfS (cB (cBin gLt (cVar 5) (cBin gPow (cLit (.int 10)) (cLit (.int 9))))) (cSeq (cAsg (tName 5) (cBin gMod (cBi gInt (cCons (cBin gAdd (cBin gAdd (cBin gMul (cVar 5) (cLit (.int 48271))) (cBin gMul (cVar 4) (cLit (.int 69621)))) (cLit (.int 12345))) cNil)) (cLit (.int 2147483647))))
  (cAsg (tName 5) (cBin gMod (cBi gInt (cCons (cBin gAdd (cBin gAdd (cBin gMul (cVar 5) (cLit (.int 16807))) (cBin gMul (cVar 4) (cLit (.int 39373)))) (cLit (.int 6789))) cNil)) (cLit (.int 2147483629))))) (cSkip))
  (cSeq (cSetIx 0 (cLit (.int 1)) (cBin gAdd (cVar 4) (cLit (.int 1))))
  (cSetIx 0 (cLit (.int 2)) (cVar 5)))))
def cDraw : CS :=
  cSeq (cIfS (cB (cBin gLt (cIx (cVar 0) (cLit (.int 2))) (cVar 1))) (cSeq (cAsg (tName 3) (cIx (cVar 0) (cLit (.int 0))))
  (cSeq (cAsg (tName 4) (cIx (cVar 0) (cLit (.int 1))))
  (cSeq (cAsg (tName 5) (cLit (.int 0)))
  cDrawA))) (cSkip))
  (cSeq (cAsg (tName 2) (cBin gMod (cBi gInt (cCons (cIx (cVar 0) (cLit (.int 2))) cNil)) (cVar 1)))
  (cSeq (cSetIx 0 (cLit (.int 2)) (cBin gDiv (cIx (cVar 0) (cLit (.int 2))) (cVar 1)))
  (cRetV 2)))
def mDraw : FnSem := cFn 2 6 cDraw
/-- the tape stands in cell n -/
def TapeAt (n : Nat) (S : Store) : Prop := ∃ (cells : List Int) (k c : Int), S[n]? = some [.lst (cells.map .int), .int k, .int c] ∧ 0 ≤ k ∧ 0 ≤ c
@[simp] theorem gIx_cel (S : Store) (n : Nat) (i : Int) : gIx S (.cel n) (.int i) = match S[n]? with
    | some ws => atI ws i
    | none => none := rfl
theorem set_cel {ρ : Env} {S : Store} {i n : Nat} {m : Md} {ws : List W} {j : Nat} {k : Int} (w : W) (hr : ρ[i]? = some (some (.cel n, m))) (hS : S[n]? = some ws) (hk : k = (j : Int)) (hj : j < ws.length) : setAt ρ S i (.int k) w = some (.nx ρ (S.set n (ws.set j w))) := by
  unfold setAt
  rw [hr]
  simp only [hS]
  unfold ixN
  rw [if_pos (by omega), if_pos (by omega)]
  subst hk
  rfl
/-- the store but for one cell is as it was -/
def SameBut (n : Nat) (S S' : Store) : Prop := S'.length = S.length ∧ ∀ j, j ≠ n → S'[j]? = S[j]?
theorem SameBut.refl {n : Nat} {S : Store} : SameBut n S S := ⟨rfl, fun _ _ => rfl⟩
theorem SameBut.trans {n : Nat} {S S1 S2 : Store} (a : SameBut n S S1) (b : SameBut n S1 S2) : SameBut n S S2 := ⟨b.1.trans a.1, fun j h => (b.2 j h).trans (a.2 j h)⟩
theorem SameBut.set {n : Nat} {S : Store} {ws : List W} : SameBut n S (S.set n ws) := ⟨List.length_set, fun j h => List.getElem?_set_ne (Ne.symm h)⟩
theorem set_at {n : Nat} {S : Store} {ws us : List W} (h : S[n]? = some us) : (S.set n ws)[n]? = some ws := List.getElem?_set_self (List.getElem?_eq_some_iff.mp h).1
theorem draw_a {n : Nat} {S : Store} {cells : List Int} {k c : Int} {a b : Option Wm} {mn : Md} (hS : S[n]? = some [.lst (cells.map .int), .int k, .int c]) (hk : 0 ≤ k) :
    ∃ c' x5, 0 ≤ c' ∧ cDrawA [some (.cel n, mn), a, b, some (.lst (cells.map .int), .frz), some (.int k, .frz), some (.int 0, .frz)] S =
      some (.nx [some (.cel n, mn), a, b, some (.lst (cells.map .int), .frz), some (.int k, .frz), x5] (S.set n [.lst (cells.map .int), .int (k + 1), .int c'])) := by
  obtain ⟨v, hv⟩ : ∃ v : Int, (cIfS (cB (cBin gLt (cVar 4) (cBi gLen (cCons (cVar 3) cNil)))) (cAsg (tName 5) (cIx (cVar 3) (cVar 4))) (cSkip)) [some (.cel n, mn), a, b, some (.lst (cells.map .int), .frz), some (.int k, .frz), some (.int 0, .frz)] S =
      some (.nx [some (.cel n, mn), a, b, some (.lst (cells.map .int), .frz), some (.int k, .frz), some (.int v, .frz)] S) := by
    simp only [q_ifS, q_B, q_bin, q_var, q_bi, q_cons, q_nil, q_asg, q_ix, q_skip, bnd_some, List.getElem?_cons_succ, List.getElem?_cons_zero, reduceCtorEq, if_false, List.map_cons, List.map_nil, gLen_lst, Option.map_some, gLt_int, List.length_map, decide_eq_true_eq]
    by_cases h : k < (cells.length : Int)
    · rw [if_pos h]
      have e : atI (cells.map W.int) k = some (.int (cells[k.toNat]'(by omega))) := by
        rw [atI_of hk, List.getElem?_map, List.getElem?_eq_getElem (by omega)]; rfl
      exact ⟨_, by simp only [gIx_lst, e, Option.map_some, bnd_some, q_tName, sto_frz, if_true, md_int]; rfl⟩
    · rw [if_neg h]
      exact ⟨0, rfl⟩
  obtain ⟨u, hu, h2⟩ : ∃ u : Int, 0 ≤ u ∧ (cIfS (cB (cBin gLt (cVar 5) (cLit (.int 0)))) (cAsg (tName 5) (cBin Mp.gSub (cBin gMul (cNeg (cLit (.int 2))) (cVar 5)) (cLit (.int 1)))) (cSkip)) [some (.cel n, mn), a, b, some (.lst (cells.map .int), .frz), some (.int k, .frz), some (.int v, .frz)] S =
      some (.nx [some (.cel n, mn), a, b, some (.lst (cells.map .int), .frz), some (.int k, .frz), some (.int u, .frz)] S) := by
    simp only [q_ifS, q_B, q_bin, q_var, q_lit, q_neg, q_asg, q_skip, bnd_some, List.getElem?_cons_succ, List.getElem?_cons_zero, reduceCtorEq, if_false, Option.map_some, gLt_int, decide_eq_true_eq]
    by_cases h : v < 0
    · rw [if_pos h]
      refine ⟨-2 * v - 1, by omega, ?_⟩
      rw [gMul_int (.inl (by decide))]
      rfl
    · rw [if_neg h]
      exact ⟨v, by omega, rfl⟩
  obtain ⟨u3, hu3, h3⟩ : ∃ u3 : Int, 0 ≤ u3 ∧ (cIfS (cB (cBin gLt (cVar 5) (cBin gPow (cLit (.int 10)) (cLit (.int 9))))) (cSeq (cAsg (tName 5) (cBin gMod (cBi gInt (cCons (cBin gAdd (cBin gAdd (cBin gMul (cVar 5) (cLit (.int 48271))) (cBin gMul (cVar 4) (cLit (.int 69621)))) (cLit (.int 12345))) cNil)) (cLit (.int 2147483647))))
  (cAsg (tName 5) (cBin gMod (cBi gInt (cCons (cBin gAdd (cBin gAdd (cBin gMul (cVar 5) (cLit (.int 16807))) (cBin gMul (cVar 4) (cLit (.int 39373)))) (cLit (.int 6789))) cNil)) (cLit (.int 2147483629))))) (cSkip)) [some (.cel n, mn), a, b, some (.lst (cells.map .int), .frz), some (.int k, .frz), some (.int u, .frz)] S =
      some (.nx [some (.cel n, mn), a, b, some (.lst (cells.map .int), .frz), some (.int k, .frz), some (.int u3, .frz)] S) := by
    have hp : gPow (.int 10) (.int 9) = some (.int 1000000000) := by
      unfold gPow
      dsimp only
      rw [if_pos (show (0 : Int) ≤ 9 ∧ (9 : Int) ≤ 1000000 ∧ (10 : Int).natAbs < 2 ^ 64 by decide)]
      rfl
    simp only [q_ifS, q_B, q_bin, q_var, q_lit, q_seq, q_cons, q_nil, q_bi, q_asg, q_skip, bnd_some, List.getElem?_cons_succ, List.getElem?_cons_zero, reduceCtorEq, if_false, Option.map_some, gLt_int, decide_eq_true_eq, hp]
    by_cases h : u < 1000000000
    · rw [if_pos h]
      rw [gMul_int (.inr (by decide)), gMul_int (.inr (by decide))]
      simp only [Option.map_some, bnd_some, gAdd_int, List.map_cons, List.map_nil, gInt_int, gMod_int (show (0 : Int) < 2147483647 by decide), q_tName, sto_own, if_true, md_int, List.set_cons_succ, List.set_cons_zero, List.getElem?_cons_succ, List.getElem?_cons_zero, reduceCtorEq, if_false]
      rw [gMul_int (.inr (by decide)), gMul_int (.inr (by decide))]
      simp only [Option.map_some, bnd_some, gAdd_int, List.map_cons, List.map_nil, gInt_int, gMod_int (show (0 : Int) < 2147483629 by decide), q_tName, sto_own, if_true, md_int, List.set_cons_succ, List.set_cons_zero, List.getElem?_cons_succ, List.getElem?_cons_zero]
      exact ⟨_, Int.emod_nonneg _ (by decide), rfl⟩
    · rw [if_neg h]
      exact ⟨u, by omega, rfl⟩
  refine ⟨u3, some (.int u3, .frz), hu3, ?_⟩
  unfold cDrawA
  rw [q_seq, hv]
  dsimp only
  rw [q_seq, h2]
  dsimp only
  rw [q_seq, h3]
  dsimp only
  simp only [q_seq, q_setIx, q_bin, q_var, q_lit, bnd_some, List.getElem?_cons_succ, List.getElem?_cons_zero, reduceCtorEq, if_false, Option.map_some, gAdd_int, sto_own, sto_frz, if_true]
  rw [set_cel (k := 1) (j := 1) (ws := [.lst (cells.map .int), .int k, .int c]) _ rfl hS rfl (by simp)]
  dsimp only
  simp only [List.set_cons_succ, List.set_cons_zero]
  simp only [bnd_some, sto_frz, if_true, List.getElem?_cons_succ, List.getElem?_cons_zero, reduceCtorEq, if_false]
  rw [set_cel (k := 2) (j := 2) (ws := [.lst (cells.map .int), .int (k + 1), .int c]) _ rfl (set_at hS) rfl (by simp)]
  rw [List.set_set]
  rfl
theorem draw_ok {n : Nat} {S : Store} {many : Int} (t : TapeAt n S) (h0 : 0 < many) (h1 : many < 1073741824) :
    ∃ d S', mDraw [.cel n, .int many] S = some ((.int d, .frz), S') ∧ 0 ≤ d ∧ d < many ∧ TapeAt n S' ∧ SameBut n S S' := by
  obtain ⟨cells, k, c, hS, hk, hc⟩ := t
  -- the refilled tape
  obtain ⟨k', c', x3, x4, x5, S1, hk', hc', hS1, hsb, hfill⟩ : ∃ k' c' x3 x4 x5 S1, 0 ≤ k' ∧ 0 ≤ c' ∧ S1[n]? = some [.lst (cells.map .int), .int k', .int c'] ∧ SameBut n S S1 ∧
      (cIfS (cB (cBin gLt (cIx (cVar 0) (cLit (.int 2))) (cVar 1))) (cSeq (cAsg (tName 3) (cIx (cVar 0) (cLit (.int 0)))) (cSeq (cAsg (tName 4) (cIx (cVar 0) (cLit (.int 1)))) (cSeq (cAsg (tName 5) (cLit (.int 0))) cDrawA))) (cSkip))
        [some (.cel n, .brw), some (.int many, .brw), none, none, none, none] S = some (.nx [some (.cel n, .brw), some (.int many, .brw), none, x3, x4, x5] S1) := by
    simp only [q_ifS, q_B, q_bin, q_ix, q_var, q_lit, q_seq, q_asg, q_skip, bnd_some, List.getElem?_cons_succ, List.getElem?_cons_zero, reduceCtorEq, if_false, Option.map_some, gIx_cel, hS, atI_2, atI_1, atI_0, gLt_int, decide_eq_true_eq]
    by_cases h : c < many
    · rw [if_pos h]
      simp only [q_tName, sto_frz, if_true, md_lst, md_int, Option.map_some, List.set_cons_succ, List.set_cons_zero, bnd_some, List.getElem?_cons_succ, List.getElem?_cons_zero, reduceCtorEq, if_false, gIx_cel, hS, atI_1]
      obtain ⟨c', x5, hc', e⟩ := draw_a (mn := .brw) (a := some (.int many, .brw)) (b := none) hS hk
      exact ⟨k + 1, c', _, _, x5, _, by omega, hc', set_at hS, SameBut.set, e⟩
    · rw [if_neg h]
      exact ⟨k, c, _, _, _, S, hk, hc, hS, SameBut.refl, rfl⟩
  refine ⟨c' % many, S1.set n [.lst (cells.map .int), .int k', .int (c' / many)], ?_, Int.emod_nonneg _ (by omega), Int.emod_lt_of_pos _ h0, ⟨cells, k', c' / many, set_at hS1, hk', Int.ediv_nonneg hc' (by omega)⟩, hsb.trans SameBut.set⟩
  unfold mDraw
  rw [cFn_run (by rfl)]
  show fin (cDraw [some (.cel n, .brw), some (.int many, .brw), none, none, none, none] S) = _
  unfold cDraw
  rw [q_seq, hfill]
  dsimp only
  simp only [q_seq, q_asg, q_bin, q_bi, q_cons, q_nil, q_ix, q_var, q_lit, q_setIx, bnd_some, List.getElem?_cons_succ, List.getElem?_cons_zero, reduceCtorEq, if_false, Option.map_some, gIx_cel, hS1, atI_2, List.map_cons, List.map_nil, gInt_int, gMod_int h0, gDiv_int h0 h1, q_tName, sto_own, if_true, md_int, List.set_cons_succ, List.set_cons_zero]
  rw [set_cel (k := 2) (j := 2) (ws := [.lst (cells.map .int), .int k', .int c']) _ rfl hS1 rfl (by simp)]
  rfl
/-- the tape's making -/
def cTape : CS := cRet (cBox (cCons (cBi gList (cCons (cVar 0) cNil)) (cCons (cLit (.int 0)) (cCons (cLit (.int 0)) cNil))))
def mTape : FnSem := cFn 1 1 cTape
theorem tape_ok (ns : List Int) (S : Store) : ∃ S', mTape [.scr ns] S = some ((.cel S.length, .own), S') ∧ TapeAt S.length S' ∧ S' = S ++ [[.lst (ns.map .int), .int 0, .int 0]] := by
  refine ⟨S ++ [[.lst (ns.map .int), .int 0, .int 0]], ?_, ⟨ns, 0, 0, ?_, Int.le_refl _, Int.le_refl _⟩, rfl⟩
  · unfold mTape
    rw [cFn_run (by rfl)]
    show fin (cTape [some (.scr ns, .brw)] S) = _
    unfold cTape
    simp only [q_ret, q_box, q_cons, q_nil, q_bi, q_var, q_lit, bnd_some, List.getElem?_cons_zero, reduceCtorEq, if_false, List.map_cons, List.map_nil, gList_scr, Option.map_some]
    rw [if_pos ⟨rfl, by rw [sizeLine_eq]; simp⟩]
    rfl
  · rw [List.getElem?_append_right (Nat.le_refl _), Nat.sub_self]; rfl
end Mp
namespace K75
open PySem PySem.Spec PyProof.Rows L2 Mp
/-! ### the text -/
def topS (i : Nat) : Stmt := PySem.Challenge.pw_commonfront_k75_values_of_goals.main.body.getD i (.Pass ⟨0, 0, 0, 0⟩)
abbrev s_terms_sum : Stmt := topS 1
abbrev N_terms_sum : List Str := ["terms", "point", "total", "v", "c"]
theorem sc_terms_sum : FnScope N_terms_sum ["terms", "point"] (defScope s_terms_sum) := ⟨rfl, rfl, rfl, by decide +kernel, rfl, by decide +kernel, by decide +kernel⟩
def c_terms_sum : CS :=
  cSeq (cAsg (tName 2) (cLit (.int 0)))
  (cSeq (cFor (tTup 2 (tCons (tName 3) (tCons (tName 4) tNil))) (iVar 0) (cAug 2 gAddI (cBin gMul (cVar 4) (cIx (cVar 1) (cVar 3)))))
  (cRetV 2))
def m_terms_sum : FnSem := cFn 2 5 c_terms_sum
abbrev s_negated_terms : Stmt := topS 2
abbrev N_negated_terms : List Str := ["terms", "v", "c"]
theorem sc_negated_terms : FnScope N_negated_terms ["terms"] (defScope s_negated_terms) := ⟨rfl, rfl, rfl, by decide +kernel, rfl, by decide +kernel, by decide +kernel⟩
def c_negated_terms : CS :=
  cRet (cBi gTuple (cCons (cLc (tTup 2 (tCons (tName 1) (tCons (tName 2) tNil))) (iVar 0) tYesT (cTup (cCons (cVar 1) (cCons (cNeg (cVar 2)) cNil))) [1, 2]) cNil))
def m_negated_terms : FnSem := cFn 1 3 c_negated_terms
abbrev s_values_at : Stmt := topS 4
abbrev N_values_at : List Str := ["goals", "point", "sense", "terms", "constant"]
theorem sc_values_at : FnScope N_values_at ["goals", "point"] (defScope s_values_at) := ⟨rfl, rfl, rfl, by decide +kernel, rfl, by decide +kernel, by decide +kernel⟩
def c_values_at : CS :=
  cRet (cBi gTuple (cCons (cLc (tTup 3 (tCons (tName 2) (tCons (tName 3) (tCons (tName 4) tNil)))) (iVar 0) tYesT (cBin gAdd (cCall m_terms_sum (cCons (cVar 3) (cCons (cVar 1) cNil))) (cVar 4)) [2, 3, 4]) cNil))
def m_values_at : FnSem := cFn 2 5 c_values_at
abbrev s_covers : Stmt := topS 5
abbrev N_covers : List Str := ["goals", "first", "second", "k", "goal"]
theorem sc_covers : FnScope N_covers ["goals", "first", "second"] (defScope s_covers) := ⟨rfl, rfl, rfl, by decide +kernel, rfl, by decide +kernel, by decide +kernel⟩
def c_covers : CS :=
  cSeq (cFor (tTup 2 (tCons (tName 3) (tCons (tName 4) tNil))) (iEnV 0) (cSeq (cIfS ((cAndT (cB (cBin (gEq false) (cIx (cVar 4) (cLit (.int 0))) (cLit (.str "max")))) (cB (cBin gLt (cIx (cVar 1) (cVar 3)) (cIx (cVar 2) (cVar 3)))))) (cRet (cLit (.bl false))) (cSkip))
  (cIfS ((cAndT (cB (cBin (gEq false) (cIx (cVar 4) (cLit (.int 0))) (cLit (.str "min")))) (cB (cBin gGt (cIx (cVar 1) (cVar 3)) (cIx (cVar 2) (cVar 3)))))) (cRet (cLit (.bl false))) (cSkip))))
  (cRet (cLit (.bl true)))
def m_covers : FnSem := cFn 3 5 c_covers
abbrev s_beats : Stmt := topS 6
abbrev N_beats : List Str := ["goals", "first", "second"]
theorem sc_beats : FnScope N_beats ["goals", "first", "second"] (defScope s_beats) := ⟨rfl, rfl, rfl, by decide +kernel, rfl, by decide +kernel, by decide +kernel⟩
def c_beats : CS :=
  cRet ((cAndV (cCall m_covers (cCons (cVar 0) (cCons (cVar 1) (cCons (cVar 2) cNil)))) (cBin (gEq true) (cBi gTuple (cCons (cVar 1) cNil)) (cBi gTuple (cCons (cVar 2) cNil)))))
def m_beats : FnSem := cFn 3 3 c_beats
abbrev s_at_least_row : Stmt := topS 7
abbrev N_at_least_row : List Str := ["goal", "value", "sense", "terms", "constant"]
theorem sc_at_least_row : FnScope N_at_least_row ["goal", "value"] (defScope s_at_least_row) := ⟨rfl, rfl, rfl, by decide +kernel, rfl, by decide +kernel, by decide +kernel⟩
def c_at_least_row : CS :=
  cSeq (cAsg (tTup 3 (tCons (tName 2) (tCons (tName 3) (tCons (tName 4) tNil)))) (cVar 0))
  (cSeq (cIfS (cB (cBin (gEq false) (cVar 2) (cLit (.str "max")))) (cRet (cTup (cCons (cLit (.str "row")) (cCons (cCall m_negated_terms (cCons (cVar 3) cNil)) (cCons (cBin Mp.gSub (cVar 4) (cVar 1)) cNil))))) (cSkip))
  (cRet (cTup (cCons (cLit (.str "row")) (cCons (cVar 3) (cCons (cBin Mp.gSub (cVar 1) (cVar 4)) cNil))))))
def m_at_least_row : FnSem := cFn 2 5 c_at_least_row
abbrev s_better_row : Stmt := topS 8
abbrev N_better_row : List Str := ["goal", "value", "row"]
theorem sc_better_row : FnScope N_better_row ["goal", "value"] (defScope s_better_row) := ⟨rfl, rfl, rfl, by decide +kernel, rfl, by decide +kernel, by decide +kernel⟩
def c_better_row : CS :=
  cSeq (cAsg (tName 2) (cCall m_at_least_row (cCons (cVar 0) (cCons (cVar 1) cNil))))
  (cRet (cTup (cCons (cLit (.str "row")) (cCons (cIx (cVar 2) (cLit (.int 1))) (cCons (cBin Mp.gSub (cIx (cVar 2) (cLit (.int 2))) (cLit (.int 1))) cNil)))))
def m_better_row : FnSem := cFn 2 3 c_better_row
abbrev s_joint_terms : Stmt := topS 9
abbrev N_joint_terms : List Str := ["goals", "sums", "sense", "terms", "constant", "v", "c"]
theorem sc_joint_terms : FnScope N_joint_terms ["goals"] (defScope s_joint_terms) := ⟨rfl, rfl, rfl, by decide +kernel, rfl, by decide +kernel, by decide +kernel⟩
def c_joint_terms : CS :=
  cSeq (cAsg (tName 1) (cDk))
  (cSeq (cFor (tTup 3 (tCons (tName 2) (tCons (tName 3) (tCons (tName 4) tNil)))) (iVar 0) (cFor (tTup 2 (tCons (tName 5) (tCons (tName 6) tNil))) (iVar 3) (cSeq (cIfS (cB (cBin (gEq false) (cVar 2) (cLit (.str "min")))) (cAsg (tName 6) (cNeg (cVar 6))) (cSkip))
  (cSetIx 1 (cVar 5) (cBin gAdd (cGet2 (cVar 1) (cVar 5) (cLit (.int 0))) (cVar 6))))))
  (cRet (cBi gTuple (cCons (cLc (tName 5) (iExp (cBi gSortD (cCons (cVar 1) cNil))) (cB (cBin (gEq true) (cIx (cVar 1) (cVar 5)) (cLit (.int 0)))) (cTup (cCons (cVar 5) (cCons (cIx (cVar 1) (cVar 5)) cNil))) [5]) cNil))))
def m_joint_terms : FnSem := cFn 1 7 c_joint_terms
abbrev s_law_same : Stmt := topS 11
abbrev N_law_same : List Str := ["told", "due"]
theorem sc_law_same : FnScope N_law_same ["told", "due"] (defScope s_law_same) := ⟨rfl, rfl, rfl, by decide +kernel, rfl, by decide +kernel, by decide +kernel⟩
def c_law_same : CS :=
  cRet ((cAndV (cBi gIsi (cCons (cVar 0) (cCons (cLit (.ty "bool")) cNil))) (cBin (gEq false) (cVar 0) (cVar 1))))
def m_law_same : FnSem := cFn 2 2 c_law_same
abbrev s_law_draw : Stmt := topS 12
abbrev N_law_draw : List Str := ["tape", "many", "digit", "cells", "k", "cell"]
theorem sc_law_draw : FnScope N_law_draw ["tape", "many"] (defScope s_law_draw) := ⟨rfl, rfl, rfl, by decide +kernel, rfl, by decide +kernel, by decide +kernel⟩
def c_law_draw : CS :=
  cSeq (cIfS (cB (cBin gLt (cIx (cVar 0) (cLit (.int 2))) (cVar 1))) (cSeq (cAsg (tName 3) (cIx (cVar 0) (cLit (.int 0))))
  (cSeq (cAsg (tName 4) (cIx (cVar 0) (cLit (.int 1))))
  (cSeq (cAsg (tName 5) (cLit (.int 0)))
  (cSeq (cIfS (cB (cBin gLt (cVar 4) (cBi gLen (cCons (cVar 3) cNil)))) (cAsg (tName 5) (cIx (cVar 3) (cVar 4))) (cSkip))
  (cSeq (cIfS (cB (cBin gLt (cVar 5) (cLit (.int 0)))) (cAsg (tName 5) (cBin Mp.gSub (cBin gMul (cNeg (cLit (.int 2))) (cVar 5)) (cLit (.int 1)))) (cSkip))
  (cSeq (cIfS (cB (cBin gLt (cVar 5) (cBin gPow (cLit (.int 10)) (cLit (.int 9))))) (cSeq (cAsg (tName 5) (cBin gMod (cBi gInt (cCons (cBin gAdd (cBin gAdd (cBin gMul (cVar 5) (cLit (.int 48271))) (cBin gMul (cVar 4) (cLit (.int 69621)))) (cLit (.int 12345))) cNil)) (cLit (.int 2147483647))))
  (cAsg (tName 5) (cBin gMod (cBi gInt (cCons (cBin gAdd (cBin gAdd (cBin gMul (cVar 5) (cLit (.int 16807))) (cBin gMul (cVar 4) (cLit (.int 39373)))) (cLit (.int 6789))) cNil)) (cLit (.int 2147483629))))) (cSkip))
  (cSeq (cSetIx 0 (cLit (.int 1)) (cBin gAdd (cVar 4) (cLit (.int 1))))
  (cSetIx 0 (cLit (.int 2)) (cVar 5))))))))) (cSkip))
  (cSeq (cAsg (tName 2) (cBin gMod (cBi gInt (cCons (cIx (cVar 0) (cLit (.int 2))) cNil)) (cVar 1)))
  (cSeq (cSetIx 0 (cLit (.int 2)) (cBin gDiv (cIx (cVar 0) (cLit (.int 2))) (cVar 1)))
  (cRetV 2)))
def m_law_draw : FnSem := cFn 2 6 c_law_draw
abbrev s_law_tape : Stmt := topS 13
abbrev N_law_tape : List Str := ["script"]
theorem sc_law_tape : FnScope N_law_tape ["script"] (defScope s_law_tape) := ⟨rfl, rfl, rfl, by decide +kernel, rfl, by decide +kernel, by decide +kernel⟩
def c_law_tape : CS :=
  cRet (cBox (cCons (cBi gList (cCons (cVar 0) cNil)) (cCons (cLit (.int 0)) (cCons (cLit (.int 0)) cNil))))
def m_law_tape : FnSem := cFn 1 1 c_law_tape
abbrev s_law_terms : Stmt := topS 14
abbrev N_law_terms : List Str := ["tape", "many", "terms", "v", "c"]
theorem sc_law_terms : FnScope N_law_terms ["tape", "many"] (defScope s_law_terms) := ⟨rfl, rfl, rfl, by decide +kernel, rfl, by decide +kernel, by decide +kernel⟩
def c_law_terms : CS :=
  cSeq (cAsg (tName 2) (cLst cNil))
  (cSeq (cFor (tName 3) (iRange1 (cVar 1)) (cSeq (cAsg (tName 4) (cBin Mp.gSub (cCall m_law_draw (cCons (cVar 0) (cCons (cLit (.int 7)) cNil))) (cLit (.int 3))))
  (cIfS (cB (cBin (gEq true) (cVar 4) (cLit (.int 0)))) (cApp 2 (cTup (cCons (cVar 3) (cCons (cVar 4) cNil)))) (cSkip))))
  (cRet (cBi gTuple (cCons (cVar 2) cNil))))
def m_law_terms : FnSem := cFn 2 5 c_law_terms
abbrev s_law_sum : Stmt := topS 15
abbrev N_law_sum : List Str := ["terms", "point", "total", "v", "c"]
theorem sc_law_sum : FnScope N_law_sum ["terms", "point"] (defScope s_law_sum) := ⟨rfl, rfl, rfl, by decide +kernel, rfl, by decide +kernel, by decide +kernel⟩
def c_law_sum : CS :=
  cSeq (cAsg (tName 2) (cLit (.int 0)))
  (cSeq (cFor (tTup 2 (tCons (tName 3) (tCons (tName 4) tNil))) (iVar 0) (cAsg (tName 2) (cBin gAdd (cVar 2) (cBin gMul (cVar 4) (cIx (cVar 1) (cVar 3))))))
  (cRetV 2))
def m_law_sum : FnSem := cFn 2 5 c_law_sum
abbrev s_law_goals : Stmt := topS 16
abbrev N_law_goals : List Str := ["tape", "many", "count", "found", "k"]
theorem sc_law_goals : FnScope N_law_goals ["tape", "many", "count"] (defScope s_law_goals) := ⟨rfl, rfl, rfl, by decide +kernel, rfl, by decide +kernel, by decide +kernel⟩
def c_law_goals : CS :=
  cSeq (cAsg (tName 3) (cLst cNil))
  (cSeq (cFor (tName 4) (iRange1 (cVar 2)) (cApp 3 (cTup (cCons (cIx (cLst (cCons (cLit (.str "max")) (cCons (cLit (.str "min")) cNil))) (cCall m_law_draw (cCons (cVar 0) (cCons (cLit (.int 2)) cNil)))) (cCons (cCall m_law_terms (cCons (cVar 0) (cCons (cVar 1) cNil))) (cCons (cBin Mp.gSub (cCall m_law_draw (cCons (cVar 0) (cCons (cLit (.int 5)) cNil))) (cLit (.int 2))) cNil))))))
  (cRet (cBi gTuple (cCons (cVar 3) cNil))))
def m_law_goals : FnSem := cFn 3 5 c_law_goals
abbrev s_law_gains : Stmt := topS 17
abbrev N_law_gains : List Str := ["goals", "point", "sense", "terms", "constant"]
theorem sc_law_gains : FnScope N_law_gains ["goals", "point"] (defScope s_law_gains) := ⟨rfl, rfl, rfl, by decide +kernel, rfl, by decide +kernel, by decide +kernel⟩
def c_law_gains : CS :=
  cRet (cBi gTuple (cCons (cLc (tTup 3 (tCons (tName 2) (tCons (tName 3) (tCons (tName 4) tNil)))) (iVar 0) tYesT (cBin gAdd (cCall m_law_sum (cCons (cVar 3) (cCons (cVar 1) cNil))) (cVar 4)) [2, 3, 4]) cNil))
def m_law_gains : FnSem := cFn 2 5 c_law_gains
abbrev s_law_covers : Stmt := topS 18
abbrev N_law_covers : List Str := ["goals", "first", "second", "k"]
theorem sc_law_covers : FnScope N_law_covers ["goals", "first", "second"] (defScope s_law_covers) := ⟨rfl, rfl, rfl, by decide +kernel, rfl, by decide +kernel, by decide +kernel⟩
def c_law_covers : CS :=
  cSeq (cFor (tName 3) (iRange1 (cBi gLen (cCons (cVar 0) cNil))) (cSeq (cIfS ((cAndT (cB (cBin (gEq false) (cIx (cIx (cVar 0) (cVar 3)) (cLit (.int 0))) (cLit (.str "max")))) (cB (cBin gLt (cIx (cVar 1) (cVar 3)) (cIx (cVar 2) (cVar 3)))))) (cRet (cLit (.bl false))) (cSkip))
  (cIfS ((cAndT (cB (cBin (gEq false) (cIx (cIx (cVar 0) (cVar 3)) (cLit (.int 0))) (cLit (.str "min")))) (cB (cBin gGt (cIx (cVar 1) (cVar 3)) (cIx (cVar 2) (cVar 3)))))) (cRet (cLit (.bl false))) (cSkip))))
  (cRet (cLit (.bl true)))
def m_law_covers : FnSem := cFn 3 4 c_law_covers
abbrev s_law_row_of : Stmt := topS 19
abbrev N_law_row_of : List Str := ["goal", "value", "less", "sense", "terms", "constant", "v", "c"]
theorem sc_law_row_of : FnScope N_law_row_of ["goal", "value", "less"] (defScope s_law_row_of) := ⟨rfl, rfl, rfl, by decide +kernel, rfl, by decide +kernel, by decide +kernel⟩
def c_law_row_of : CS :=
  cSeq (cAsg (tTup 3 (tCons (tName 3) (tCons (tName 4) (tCons (tName 5) tNil)))) (cVar 0))
  (cSeq (cIfS (cB (cBin (gEq false) (cVar 3) (cLit (.str "max")))) (cRet (cTup (cCons (cLit (.str "row")) (cCons (cBi gTuple (cCons (cLc (tTup 2 (tCons (tName 6) (tCons (tName 7) tNil))) (iVar 4) tYesT (cTup (cCons (cVar 6) (cCons (cBin Mp.gSub (cLit (.int 0)) (cVar 7)) cNil))) [6, 7]) cNil)) (cCons (cBin Mp.gSub (cBin Mp.gSub (cVar 5) (cVar 1)) (cVar 2)) cNil))))) (cSkip))
  (cRet (cTup (cCons (cLit (.str "row")) (cCons (cVar 4) (cCons (cBin Mp.gSub (cBin Mp.gSub (cVar 1) (cVar 5)) (cVar 2)) cNil))))))
def m_law_row_of : FnSem := cFn 3 8 c_law_row_of
abbrev s_law_joint : Stmt := topS 20
abbrev N_law_joint : List Str := ["goals", "many", "sums", "sense", "terms", "constant", "turn", "v", "c"]
theorem sc_law_joint : FnScope N_law_joint ["goals", "many"] (defScope s_law_joint) := ⟨rfl, rfl, rfl, by decide +kernel, rfl, by decide +kernel, by decide +kernel⟩
def c_law_joint : CS :=
  cSeq (cAsg (tName 2) (cLc (tName 7) (iRange1 (cVar 1)) tYesT (cLit (.int 0)) [7]))
  (cSeq (cFor (tTup 3 (tCons (tName 3) (tCons (tName 4) (tCons (tName 5) tNil)))) (iVar 0) (cSeq (cAsg (tName 6) (cIx (cLst (cCons (cBin Mp.gSub (cLit (.int 0)) (cLit (.int 1))) (cCons (cLit (.int 1)) cNil))) (cBi gInt (cCons (cBin (gEq false) (cVar 3) (cLit (.str "max"))) cNil))))
  (cFor (tTup 2 (tCons (tName 7) (tCons (tName 8) tNil))) (iVar 4) (cSetIx 2 (cVar 7) (cBin gAdd (cIx (cVar 2) (cVar 7)) (cBin gMul (cVar 8) (cVar 6)))))))
  (cRet (cBi gTuple (cCons (cLc (tName 7) (iRange1 (cVar 1)) (cB (cBin (gEq true) (cIx (cVar 2) (cVar 7)) (cLit (.int 0)))) (cTup (cCons (cVar 7) (cCons (cIx (cVar 2) (cVar 7)) cNil))) [7]) cNil))))
def m_law_joint : FnSem := cFn 2 9 c_law_joint
abbrev s_law : Stmt := topS 21
abbrev N_law : List Str := ["script", "tape", "many", "goals", "points", "rows", "at", "near", "first", "k", "second", "value", "reached", "better", "point", "due", "ahead", "v"]
theorem sc_law : FnScope N_law ["script"] (defScope s_law) := ⟨rfl, rfl, rfl, by decide +kernel, rfl, by decide +kernel, by decide +kernel⟩
def c_law : CS :=
  cSeq (cAsg (tName 1) (cCall m_law_tape (cCons (cVar 0) cNil)))
  (cSeq (cAsg (tName 2) (cBin gAdd (cLit (.int 1)) (cCall m_law_draw (cCons (cVar 1) (cCons (cLit (.int 4)) cNil)))))
  (cSeq (cIfS (cB (cBin (gEq false) (cCall m_law_draw (cCons (cVar 1) (cCons (cLit (.int 8)) cNil))) (cLit (.int 0)))) (cAsg (tName 2) (cLit (.int 60))) (cSkip))
  (cSeq (cAsg (tName 3) (cCall m_law_goals (cCons (cVar 1) (cCons (cVar 2) (cCons (cBin gAdd (cLit (.int 1)) (cCall m_law_draw (cCons (cVar 1) (cCons (cLit (.int 3)) cNil)))) cNil)))))
  (cSeq (cAsg (tName 4) (cLc (tName 9) (iRange1 (cLit (.int 3))) tYesT (cBi gTuple (cCons (cLc (tName 17) (iRange1 (cVar 2)) tYesT (cBin Mp.gSub (cCall m_law_draw (cCons (cVar 1) (cCons (cLit (.int 9)) cNil))) (cLit (.int 4))) [17]) cNil)) [9]))
  (cSeq (cFz [4] (cAsg (tName 5) (cLc (tName 14) (iVar 4) tYesT (cCall m_law_gains (cCons (cVar 3) (cCons (cVar 14) cNil))) [14])))
  (cSeq (cFz [4] (cIfS (cB (cBin (gEq true) (cLc (tName 14) (iVar 4) tYesT (cCall m_values_at (cCons (cVar 3) (cCons (cVar 14) cNil))) [14]) (cVar 5))) (cRet (cLit (.bl false))) (cSkip)))
  (cSeq (cAsg (tName 6) (cCall m_law_draw (cCons (cVar 1) (cCons (cBi gLen (cCons (cVar 3) cNil)) cNil))))
  (cSeq (cAsg (tName 7) (cBin gAdd (cBin gAdd (cSl (cIx (cVar 5) (cLit (.int 0))) oNone (oSome (cVar 6))) (cTup (cCons (cBin Mp.gSub (cBin gAdd (cIx (cIx (cVar 5) (cLit (.int 0))) (cVar 6)) (cCall m_law_draw (cCons (cVar 1) (cCons (cLit (.int 3)) cNil)))) (cLit (.int 1))) cNil))) (cSl (cIx (cVar 5) (cLit (.int 0))) (oSome (cBin gAdd (cVar 6) (cLit (.int 1)))) oNone)))
  (cSeq (cFor (tName 8) (iExp (cBin gAdd (cVar 5) (cLst (cCons (cVar 7) cNil)))) (cFor (tName 10) (iExp (cBin gAdd (cVar 5) (cLst (cCons (cVar 7) cNil)))) (cSeq (cAsg (tName 15) (cCall m_law_covers (cCons (cVar 3) (cCons (cVar 8) (cCons (cVar 10) cNil)))))
  (cSeq (cIfS (cNotT (cB (cCall m_law_same (cCons (cCall m_covers (cCons (cVar 3) (cCons (cVar 8) (cCons (cVar 10) cNil)))) (cCons (cVar 15) cNil))))) (cRet (cLit (.bl false))) (cSkip))
  (cIfS (cNotT (cB (cCall m_law_same (cCons (cCall m_beats (cCons (cVar 3) (cCons (cVar 8) (cCons (cVar 10) cNil)))) (cCons ((cAndV (cVar 15) (cBin (gEq true) (cVar 8) (cVar 10)))) cNil))))) (cRet (cLit (.bl false))) (cSkip))))))
  (cSeq (cFor (tName 9) (iRange1 (cBi gLen (cCons (cVar 3) cNil))) (cSeq (cAsg (tName 11) (cBin Mp.gSub (cBin gAdd (cIx (cIx (cVar 5) (cLit (.int 0))) (cVar 9)) (cCall m_law_draw (cCons (cVar 1) (cCons (cLit (.int 3)) cNil)))) (cLit (.int 1))))
  (cSeq (cAsg (tName 12) (cCall m_at_least_row (cCons (cIx (cVar 3) (cVar 9)) (cCons (cVar 11) cNil))))
  (cSeq (cAsg (tName 13) (cCall m_better_row (cCons (cIx (cVar 3) (cVar 9)) (cCons (cVar 11) cNil))))
  (cSeq (cIfS ((cOrT (cB (cBin (gEq true) (cVar 12) (cCall m_law_row_of (cCons (cIx (cVar 3) (cVar 9)) (cCons (cVar 11) (cCons (cLit (.int 0)) cNil)))))) (cB (cBin (gEq true) (cVar 13) (cCall m_law_row_of (cCons (cIx (cVar 3) (cVar 9)) (cCons (cVar 11) (cCons (cLit (.int 1)) cNil)))))))) (cRet (cLit (.bl false))) (cSkip))
  (cFz [4] (cFor (tName 14) (iVar 4) (cSeq (cAsg (tName 16) (cBin Mp.gSub (cIx (cCall m_law_gains (cCons (cTup (cCons (cIx (cVar 3) (cVar 9)) cNil)) (cCons (cVar 14) cNil))) (cLit (.int 0))) (cVar 11)))
  (cSeq (cIfS (cB (cBin (gEq false) (cIx (cIx (cVar 3) (cVar 9)) (cLit (.int 0))) (cLit (.str "min")))) (cAsg (tName 16) (cBin Mp.gSub (cLit (.int 0)) (cVar 16))) (cSkip))
  (cSeq (cIfS (cB (cBin (gEq true) (cBin gLe (cCall m_law_sum (cCons (cIx (cVar 12) (cLit (.int 1))) (cCons (cVar 14) cNil))) (cIx (cVar 12) (cLit (.int 2)))) (cBin gGe (cVar 16) (cLit (.int 0))))) (cRet (cLit (.bl false))) (cSkip))
  (cIfS (cB (cBin (gEq true) (cBin gLe (cCall m_law_sum (cCons (cIx (cVar 13) (cLit (.int 1))) (cCons (cVar 14) cNil))) (cIx (cVar 13) (cLit (.int 2)))) (cBin gGt (cVar 16) (cLit (.int 0))))) (cRet (cLit (.bl false))) (cSkip))))))))))))
  (cRet (cBin (gEq false) (cCall m_joint_terms (cCons (cVar 3) cNil)) (cCall m_law_joint (cCons (cVar 3) (cCons (cVar 2) cNil)))))))))))))))
def m_law : FnSem := cFn 1 18 c_law
structure Txt (K : PySem.W.Frag) (mg : Str → Option Value) where
  a_terms_sum : Addr
  d_terms_sum : FuncData
  F_terms_sum : Fun K "terms_sum" "terms_sum" s_terms_sum a_terms_sum d_terms_sum
  g_terms_sum : mg "terms_sum" = some (.ref a_terms_sum)
  b_terms_sum : L2.Binds K d_terms_sum ["terms", "point"] []
  a_negated_terms : Addr
  d_negated_terms : FuncData
  F_negated_terms : Fun K "negated_terms" "negated_terms" s_negated_terms a_negated_terms d_negated_terms
  g_negated_terms : mg "negated_terms" = some (.ref a_negated_terms)
  b_negated_terms : L2.Binds K d_negated_terms ["terms"] []
  a_values_at : Addr
  d_values_at : FuncData
  F_values_at : Fun K "values_at" "values_at" s_values_at a_values_at d_values_at
  g_values_at : mg "values_at" = some (.ref a_values_at)
  b_values_at : L2.Binds K d_values_at ["goals", "point"] []
  a_covers : Addr
  d_covers : FuncData
  F_covers : Fun K "covers" "covers" s_covers a_covers d_covers
  g_covers : mg "covers" = some (.ref a_covers)
  b_covers : L2.Binds K d_covers ["goals", "first", "second"] []
  a_beats : Addr
  d_beats : FuncData
  F_beats : Fun K "beats" "beats" s_beats a_beats d_beats
  g_beats : mg "beats" = some (.ref a_beats)
  b_beats : L2.Binds K d_beats ["goals", "first", "second"] []
  a_at_least_row : Addr
  d_at_least_row : FuncData
  F_at_least_row : Fun K "at_least_row" "at_least_row" s_at_least_row a_at_least_row d_at_least_row
  g_at_least_row : mg "at_least_row" = some (.ref a_at_least_row)
  b_at_least_row : L2.Binds K d_at_least_row ["goal", "value"] []
  a_better_row : Addr
  d_better_row : FuncData
  F_better_row : Fun K "better_row" "better_row" s_better_row a_better_row d_better_row
  g_better_row : mg "better_row" = some (.ref a_better_row)
  b_better_row : L2.Binds K d_better_row ["goal", "value"] []
  a_joint_terms : Addr
  d_joint_terms : FuncData
  F_joint_terms : Fun K "joint_terms" "joint_terms" s_joint_terms a_joint_terms d_joint_terms
  g_joint_terms : mg "joint_terms" = some (.ref a_joint_terms)
  b_joint_terms : L2.Binds K d_joint_terms ["goals"] []
  a_law_same : Addr
  d_law_same : FuncData
  F_law_same : Fun K "_law_same" "_law_same" s_law_same a_law_same d_law_same
  g_law_same : mg "_law_same" = some (.ref a_law_same)
  b_law_same : L2.Binds K d_law_same ["told", "due"] []
  a_law_draw : Addr
  d_law_draw : FuncData
  F_law_draw : Fun K "_law_draw" "_law_draw" s_law_draw a_law_draw d_law_draw
  g_law_draw : mg "_law_draw" = some (.ref a_law_draw)
  b_law_draw : L2.Binds K d_law_draw ["tape", "many"] []
  a_law_tape : Addr
  d_law_tape : FuncData
  F_law_tape : Fun K "_law_tape" "_law_tape" s_law_tape a_law_tape d_law_tape
  g_law_tape : mg "_law_tape" = some (.ref a_law_tape)
  b_law_tape : L2.Binds K d_law_tape ["script"] []
  a_law_terms : Addr
  d_law_terms : FuncData
  F_law_terms : Fun K "_law_terms" "_law_terms" s_law_terms a_law_terms d_law_terms
  g_law_terms : mg "_law_terms" = some (.ref a_law_terms)
  b_law_terms : L2.Binds K d_law_terms ["tape", "many"] []
  a_law_sum : Addr
  d_law_sum : FuncData
  F_law_sum : Fun K "_law_sum" "_law_sum" s_law_sum a_law_sum d_law_sum
  g_law_sum : mg "_law_sum" = some (.ref a_law_sum)
  b_law_sum : L2.Binds K d_law_sum ["terms", "point"] []
  a_law_goals : Addr
  d_law_goals : FuncData
  F_law_goals : Fun K "_law_goals" "_law_goals" s_law_goals a_law_goals d_law_goals
  g_law_goals : mg "_law_goals" = some (.ref a_law_goals)
  b_law_goals : L2.Binds K d_law_goals ["tape", "many", "count"] []
  a_law_gains : Addr
  d_law_gains : FuncData
  F_law_gains : Fun K "_law_gains" "_law_gains" s_law_gains a_law_gains d_law_gains
  g_law_gains : mg "_law_gains" = some (.ref a_law_gains)
  b_law_gains : L2.Binds K d_law_gains ["goals", "point"] []
  a_law_covers : Addr
  d_law_covers : FuncData
  F_law_covers : Fun K "_law_covers" "_law_covers" s_law_covers a_law_covers d_law_covers
  g_law_covers : mg "_law_covers" = some (.ref a_law_covers)
  b_law_covers : L2.Binds K d_law_covers ["goals", "first", "second"] []
  a_law_row_of : Addr
  d_law_row_of : FuncData
  F_law_row_of : Fun K "_law_row_of" "_law_row_of" s_law_row_of a_law_row_of d_law_row_of
  g_law_row_of : mg "_law_row_of" = some (.ref a_law_row_of)
  b_law_row_of : L2.Binds K d_law_row_of ["goal", "value", "less"] []
  a_law_joint : Addr
  d_law_joint : FuncData
  F_law_joint : Fun K "_law_joint" "_law_joint" s_law_joint a_law_joint d_law_joint
  g_law_joint : mg "_law_joint" = some (.ref a_law_joint)
  b_law_joint : L2.Binds K d_law_joint ["goals", "many"] []
  a_law : Addr
  d_law : FuncData
  F_law : Fun K "law" "law" s_law a_law d_law
  g_law : mg "law" = some (.ref a_law)
  b_law : L2.Binds K d_law ["script"] []
  n_bool : mg "bool" = none
  n_enumerate : mg "enumerate" = none
  n_int : mg "int" = none
  n_isinstance : mg "isinstance" = none
  n_len : mg "len" = none
  n_list : mg "list" = none
  n_range : mg "range" = none
  n_sorted : mg "sorted" = none
  n_tuple : mg "tuple" = none
section
variable {P : Program} {w : World} {K : PySem.W.Frag} {mg : Str → Option Value} {base : Heap}
theorem ok_terms_sum (T : Txt K mg) : FnOk P w K mg base CX0 1 T.a_terms_sum T.d_terms_sum ["terms", "point"] (spF K 2 m_terms_sum) :=
  fn_ok T.F_terms_sum sc_terms_sum (by decide) fun cdv A outer s H E hr => (s_cons (s_asg (g_name 2 sc_terms_sum.nd) (e_int))
    (s_cons (s_for rfl (g_tup rfl (gs_cons (g_name 3 sc_terms_sum.nd) (gs_cons (g_name 4 sc_terms_sum.nd) gs_nil))) (i_var 0) (s_one (s_augAdd 2 sc_terms_sum.nd (e_mul (e_var 4) (e_ix hr (e_var 1) (e_var 3))))))
    (s_one (s_retV 2))))
theorem ok_negated_terms (T : Txt K mg) : FnOk P w K mg base CX0 1 T.a_negated_terms T.d_negated_terms ["terms"] (spF K 1 m_negated_terms) :=
  fn_ok T.F_negated_terms sc_negated_terms (by decide) fun cdv A outer s H E hr => (s_one (s_ret (e_tuple T.n_tuple (e_lc (own := [("v", 1), ("c", 2)]) rfl sc_negated_terms.nd (i_var 0) (blkOk_by (N := N_negated_terms) (sc := (defScope s_negated_terms)) (by decide +kernel)) (by decide) (fun _ _ _ _ _ => (g_tup rfl (gs_cons (g_name 1 sc_negated_terms.nd) (gs_cons (g_name 2 sc_negated_terms.nd) gs_nil)))) (fun _ _ _ _ _ => ts_nil) (fun _ _ _ _ _ => (e_tup (a_cons (e_var 1) (a_cons (e_neg (e_var 2)) a_nil))))))))
theorem ok_values_at (T : Txt K mg) : FnOk P w K mg base CX0 2 T.a_values_at T.d_values_at ["goals", "point"] (spF K 2 m_values_at) :=
  fn_ok T.F_values_at sc_values_at (by decide) fun cdv A outer s H E hr => (s_one (s_ret (e_tuple T.n_tuple (e_lc (own := [("sense", 2), ("terms", 3), ("constant", 4)]) rfl sc_values_at.nd (i_var 0) (blkOk_by (N := N_values_at) (sc := (defScope s_values_at)) (by decide +kernel)) (by decide) (fun _ _ _ _ _ => (g_tup rfl (gs_cons (g_name 2 sc_values_at.nd) (gs_cons (g_name 3 sc_values_at.nd) (gs_cons (g_name 4 sc_values_at.nd) gs_nil))))) (fun _ _ _ _ _ => ts_nil) (fun _ _ _ _ _ => (e_add (e_call (ok_terms_sum T) hr (by decide) T.g_terms_sum T.F_terms_sum.kp T.b_terms_sum (fun _ _ _ => cFn_len) (a_cons (e_var 3) (a_cons (e_var 1) a_nil))) (e_var 4)))))))
theorem ok_covers (T : Txt K mg) : FnOk P w K mg base CX0 1 T.a_covers T.d_covers ["goals", "first", "second"] (spF K 3 m_covers) :=
  fn_ok T.F_covers sc_covers (by decide) fun cdv A outer s H E hr => (s_cons (s_for rfl (g_tup rfl (gs_cons (g_name 3 sc_covers.nd) (gs_cons (g_name 4 sc_covers.nd) gs_nil))) (i_enumV 0 T.n_enumerate) (s_cons (s_if (t_w (w_and (t_eq hr (e_ix hr (e_var 4) (e_int)) (e_str)) (w_and1 (t_lt (e_ix hr (e_var 1) (e_var 3)) (e_ix hr (e_var 2) (e_var 3)))))) (s_one (s_ret (e_bl))) s_nil)
    (s_one (s_if (t_w (w_and (t_eq hr (e_ix hr (e_var 4) (e_int)) (e_str)) (w_and1 (t_gt (e_ix hr (e_var 1) (e_var 3)) (e_ix hr (e_var 2) (e_var 3)))))) (s_one (s_ret (e_bl))) s_nil))))
    (s_one (s_ret (e_bl))))
theorem ok_beats (T : Txt K mg) : FnOk P w K mg base CX0 2 T.a_beats T.d_beats ["goals", "first", "second"] (spF K 3 m_beats) :=
  fn_ok T.F_beats sc_beats (by decide) fun cdv A outer s H E hr => (s_one (s_ret (e_and (e_call (ok_covers T) hr (by decide) T.g_covers T.F_covers.kp T.b_covers (fun _ _ _ => cFn_len) (a_cons (e_var 0) (a_cons (e_var 1) (a_cons (e_var 2) a_nil)))) (e_one (e_ne hr (e_tuple T.n_tuple (e_var 1)) (e_tuple T.n_tuple (e_var 2)))))))
theorem ok_at_least_row (T : Txt K mg) : FnOk P w K mg base CX0 2 T.a_at_least_row T.d_at_least_row ["goal", "value"] (spF K 2 m_at_least_row) :=
  fn_ok T.F_at_least_row sc_at_least_row (by decide) fun cdv A outer s H E hr => (s_cons (s_asg (g_tup rfl (gs_cons (g_name 2 sc_at_least_row.nd) (gs_cons (g_name 3 sc_at_least_row.nd) (gs_cons (g_name 4 sc_at_least_row.nd) gs_nil)))) (e_var 0))
    (s_cons (s_if (t_eq hr (e_var 2) (e_str)) (s_one (s_ret (e_tup (a_cons (e_str) (a_cons (e_call (ok_negated_terms T) hr (by decide) T.g_negated_terms T.F_negated_terms.kp T.b_negated_terms (fun _ _ _ => cFn_len) (a_cons (e_var 3) a_nil)) (a_cons (e_sub (e_var 4) (e_var 1)) a_nil)))))) s_nil)
    (s_one (s_ret (e_tup (a_cons (e_str) (a_cons (e_var 3) (a_cons (e_sub (e_var 1) (e_var 4)) a_nil))))))))
theorem ok_better_row (T : Txt K mg) : FnOk P w K mg base CX0 3 T.a_better_row T.d_better_row ["goal", "value"] (spF K 2 m_better_row) :=
  fn_ok T.F_better_row sc_better_row (by decide) fun cdv A outer s H E hr => (s_cons (s_asg (g_name 2 sc_better_row.nd) (e_call (ok_at_least_row T) hr (by decide) T.g_at_least_row T.F_at_least_row.kp T.b_at_least_row (fun _ _ _ => cFn_len) (a_cons (e_var 0) (a_cons (e_var 1) a_nil))))
    (s_one (s_ret (e_tup (a_cons (e_str) (a_cons (e_ix hr (e_var 2) (e_int)) (a_cons (e_sub (e_ix hr (e_var 2) (e_int)) (e_int)) a_nil)))))))
theorem ok_joint_terms (T : Txt K mg) : FnOk P w K mg base CX0 1 T.a_joint_terms T.d_joint_terms ["goals"] (spF K 1 m_joint_terms) :=
  fn_ok T.F_joint_terms sc_joint_terms (by decide) fun cdv A outer s H E hr => (s_cons (s_asg (g_name 1 sc_joint_terms.nd) (e_dk))
    (s_cons (s_for rfl (g_tup rfl (gs_cons (g_name 2 sc_joint_terms.nd) (gs_cons (g_name 3 sc_joint_terms.nd) (gs_cons (g_name 4 sc_joint_terms.nd) gs_nil)))) (i_var 0) (s_one (s_for rfl (g_tup rfl (gs_cons (g_name 5 sc_joint_terms.nd) (gs_cons (g_name 6 sc_joint_terms.nd) gs_nil))) (i_var 3) (s_cons (s_if (t_eq hr (e_var 2) (e_str)) (s_one (s_asg (g_name 6 sc_joint_terms.nd) (e_neg (e_var 6)))) s_nil)
    (s_one (s_setIx 1 hr (e_var 5) (e_add (e_get2 hr (e_var 1) (e_var 5) (e_int) ⟨rfl, rfl, rfl, rfl⟩) (e_var 6))))))))
    (s_one (s_ret (e_tuple T.n_tuple (e_lc (own := [("v", 5)]) rfl sc_joint_terms.nd (i_exp (e_sortD rfl T.n_sorted (e_var 1))) (blkOk_by (N := N_joint_terms) (sc := (defScope s_joint_terms)) (by decide +kernel)) (by decide) (fun _ _ _ _ _ => (g_name 5 sc_joint_terms.nd)) (fun _ _ _ _ _ => (ts_one (t_ne hr (e_ix hr (e_var 1) (e_var 5)) (e_int)))) (fun _ _ _ _ _ => (e_tup (a_cons (e_var 5) (a_cons (e_ix hr (e_var 1) (e_var 5)) a_nil))))))))))
theorem ok_law_same (T : Txt K mg) : FnOk P w K mg base CX0 1 T.a_law_same T.d_law_same ["told", "due"] (spF K 2 m_law_same) :=
  fn_ok T.F_law_same sc_law_same (by decide) fun cdv A outer s H E hr => (s_one (s_ret (e_and (e_isi T.n_isinstance (e_var 0) (e_tyN T.n_bool (by decide +kernel))) (e_one (e_eq hr (e_var 0) (e_var 1))))))
theorem ok_law_draw (T : Txt K mg) : FnOk P w K mg base CX0 1 T.a_law_draw T.d_law_draw ["tape", "many"] (spF K 2 m_law_draw) :=
  fn_ok T.F_law_draw sc_law_draw (by decide) fun cdv A outer s H E hr => (s_cons (s_if (t_lt (e_ix hr (e_var 0) (e_int)) (e_var 1)) (s_cons (s_asg (g_name 3 sc_law_draw.nd) (e_ix hr (e_var 0) (e_int)))
    (s_cons (s_asg (g_name 4 sc_law_draw.nd) (e_ix hr (e_var 0) (e_int)))
    (s_cons (s_asg (g_name 5 sc_law_draw.nd) (e_int))
    (s_cons (s_if (t_lt (e_var 4) (e_len T.n_len (e_var 3))) (s_one (s_asg (g_name 5 sc_law_draw.nd) (e_ix hr (e_var 3) (e_var 4)))) s_nil)
    (s_cons (s_if (t_lt (e_var 5) (e_int)) (s_one (s_asg (g_name 5 sc_law_draw.nd) (e_sub (e_mul (e_neg (e_int)) (e_var 5)) (e_int)))) s_nil)
    (s_cons (s_if (t_lt (e_var 5) (e_pow (e_int) (e_int))) (s_cons (s_asg (g_name 5 sc_law_draw.nd) (e_mod (e_intf T.n_int (e_add (e_add (e_mul (e_var 5) (e_int)) (e_mul (e_var 4) (e_int))) (e_int))) (e_int)))
    (s_one (s_asg (g_name 5 sc_law_draw.nd) (e_mod (e_intf T.n_int (e_add (e_add (e_mul (e_var 5) (e_int)) (e_mul (e_var 4) (e_int))) (e_int))) (e_int))))) s_nil)
    (s_cons (s_setIx 0 hr (e_int) (e_add (e_var 4) (e_int)))
    (s_one (s_setIx 0 hr (e_int) (e_var 5)))))))))) s_nil)
    (s_cons (s_asg (g_name 2 sc_law_draw.nd) (e_mod (e_intf T.n_int (e_ix hr (e_var 0) (e_int))) (e_var 1)))
    (s_cons (s_setIx 0 hr (e_int) (e_div (e_ix hr (e_var 0) (e_int)) (e_var 1)))
    (s_one (s_retV 2)))))
theorem ok_law_tape (T : Txt K mg) : FnOk P w K mg base CX0 1 T.a_law_tape T.d_law_tape ["script"] (spF K 1 m_law_tape) :=
  fn_ok T.F_law_tape sc_law_tape (by decide) fun cdv A outer s H E hr => (s_one (s_ret (e_box (a_cons (e_list T.n_list (e_var 0)) (a_cons (e_int) (a_cons (e_int) a_nil))))))
theorem ok_law_terms (T : Txt K mg) : FnOk P w K mg base CX0 2 T.a_law_terms T.d_law_terms ["tape", "many"] (spF K 2 m_law_terms) :=
  fn_ok T.F_law_terms sc_law_terms (by decide) fun cdv A outer s H E hr => (s_cons (s_asg (g_name 2 sc_law_terms.nd) (e_lst a_nil))
    (s_cons (s_for rfl (g_name 3 sc_law_terms.nd) (i_range1 T.n_range (e_var 1)) (s_cons (s_asg (g_name 4 sc_law_terms.nd) (e_sub (e_call (ok_law_draw T) hr (by decide) T.g_law_draw T.F_law_draw.kp T.b_law_draw (fun _ _ _ => cFn_len) (a_cons (e_var 0) (a_cons (e_int) a_nil))) (e_int)))
    (s_one (s_if (t_ne hr (e_var 4) (e_int)) (s_one (s_app 2 (e_tup (a_cons (e_var 3) (a_cons (e_var 4) a_nil))))) s_nil))))
    (s_one (s_ret (e_tuple T.n_tuple (e_var 2))))))
theorem ok_law_sum (T : Txt K mg) : FnOk P w K mg base CX0 1 T.a_law_sum T.d_law_sum ["terms", "point"] (spF K 2 m_law_sum) :=
  fn_ok T.F_law_sum sc_law_sum (by decide) fun cdv A outer s H E hr => (s_cons (s_asg (g_name 2 sc_law_sum.nd) (e_int))
    (s_cons (s_for rfl (g_tup rfl (gs_cons (g_name 3 sc_law_sum.nd) (gs_cons (g_name 4 sc_law_sum.nd) gs_nil))) (i_var 0) (s_one (s_asg (g_name 2 sc_law_sum.nd) (e_add (e_var 2) (e_mul (e_var 4) (e_ix hr (e_var 1) (e_var 3)))))))
    (s_one (s_retV 2))))
theorem ok_law_goals (T : Txt K mg) : FnOk P w K mg base CX0 3 T.a_law_goals T.d_law_goals ["tape", "many", "count"] (spF K 3 m_law_goals) :=
  fn_ok T.F_law_goals sc_law_goals (by decide) fun cdv A outer s H E hr => (s_cons (s_asg (g_name 3 sc_law_goals.nd) (e_lst a_nil))
    (s_cons (s_for rfl (g_name 4 sc_law_goals.nd) (i_range1 T.n_range (e_var 2)) (s_one (s_app 3 (e_tup (a_cons (e_ix hr (e_lst (a_cons (e_str) (a_cons (e_str) a_nil))) (e_call (ok_law_draw T) hr (by decide) T.g_law_draw T.F_law_draw.kp T.b_law_draw (fun _ _ _ => cFn_len) (a_cons (e_var 0) (a_cons (e_int) a_nil)))) (a_cons (e_call (ok_law_terms T) hr (by decide) T.g_law_terms T.F_law_terms.kp T.b_law_terms (fun _ _ _ => cFn_len) (a_cons (e_var 0) (a_cons (e_var 1) a_nil))) (a_cons (e_sub (e_call (ok_law_draw T) hr (by decide) T.g_law_draw T.F_law_draw.kp T.b_law_draw (fun _ _ _ => cFn_len) (a_cons (e_var 0) (a_cons (e_int) a_nil))) (e_int)) a_nil)))))))
    (s_one (s_ret (e_tuple T.n_tuple (e_var 3))))))
theorem ok_law_gains (T : Txt K mg) : FnOk P w K mg base CX0 2 T.a_law_gains T.d_law_gains ["goals", "point"] (spF K 2 m_law_gains) :=
  fn_ok T.F_law_gains sc_law_gains (by decide) fun cdv A outer s H E hr => (s_one (s_ret (e_tuple T.n_tuple (e_lc (own := [("sense", 2), ("terms", 3), ("constant", 4)]) rfl sc_law_gains.nd (i_var 0) (blkOk_by (N := N_law_gains) (sc := (defScope s_law_gains)) (by decide +kernel)) (by decide) (fun _ _ _ _ _ => (g_tup rfl (gs_cons (g_name 2 sc_law_gains.nd) (gs_cons (g_name 3 sc_law_gains.nd) (gs_cons (g_name 4 sc_law_gains.nd) gs_nil))))) (fun _ _ _ _ _ => ts_nil) (fun _ _ _ _ _ => (e_add (e_call (ok_law_sum T) hr (by decide) T.g_law_sum T.F_law_sum.kp T.b_law_sum (fun _ _ _ => cFn_len) (a_cons (e_var 3) (a_cons (e_var 1) a_nil))) (e_var 4)))))))
theorem ok_law_covers (T : Txt K mg) : FnOk P w K mg base CX0 1 T.a_law_covers T.d_law_covers ["goals", "first", "second"] (spF K 3 m_law_covers) :=
  fn_ok T.F_law_covers sc_law_covers (by decide) fun cdv A outer s H E hr => (s_cons (s_for rfl (g_name 3 sc_law_covers.nd) (i_range1 T.n_range (e_len T.n_len (e_var 0))) (s_cons (s_if (t_w (w_and (t_eq hr (e_ix hr (e_ix hr (e_var 0) (e_var 3)) (e_int)) (e_str)) (w_and1 (t_lt (e_ix hr (e_var 1) (e_var 3)) (e_ix hr (e_var 2) (e_var 3)))))) (s_one (s_ret (e_bl))) s_nil)
    (s_one (s_if (t_w (w_and (t_eq hr (e_ix hr (e_ix hr (e_var 0) (e_var 3)) (e_int)) (e_str)) (w_and1 (t_gt (e_ix hr (e_var 1) (e_var 3)) (e_ix hr (e_var 2) (e_var 3)))))) (s_one (s_ret (e_bl))) s_nil))))
    (s_one (s_ret (e_bl))))
theorem ok_law_row_of (T : Txt K mg) : FnOk P w K mg base CX0 1 T.a_law_row_of T.d_law_row_of ["goal", "value", "less"] (spF K 3 m_law_row_of) :=
  fn_ok T.F_law_row_of sc_law_row_of (by decide) fun cdv A outer s H E hr => (s_cons (s_asg (g_tup rfl (gs_cons (g_name 3 sc_law_row_of.nd) (gs_cons (g_name 4 sc_law_row_of.nd) (gs_cons (g_name 5 sc_law_row_of.nd) gs_nil)))) (e_var 0))
    (s_cons (s_if (t_eq hr (e_var 3) (e_str)) (s_one (s_ret (e_tup (a_cons (e_str) (a_cons (e_tuple T.n_tuple (e_lc (own := [("v", 6), ("c", 7)]) rfl sc_law_row_of.nd (i_var 4) (blkOk_by (N := N_law_row_of) (sc := (defScope s_law_row_of)) (by decide +kernel)) (by decide) (fun _ _ _ _ _ => (g_tup rfl (gs_cons (g_name 6 sc_law_row_of.nd) (gs_cons (g_name 7 sc_law_row_of.nd) gs_nil)))) (fun _ _ _ _ _ => ts_nil) (fun _ _ _ _ _ => (e_tup (a_cons (e_var 6) (a_cons (e_sub (e_int) (e_var 7)) a_nil)))))) (a_cons (e_sub (e_sub (e_var 5) (e_var 1)) (e_var 2)) a_nil)))))) s_nil)
    (s_one (s_ret (e_tup (a_cons (e_str) (a_cons (e_var 4) (a_cons (e_sub (e_sub (e_var 1) (e_var 5)) (e_var 2)) a_nil))))))))
theorem ok_law_joint (T : Txt K mg) : FnOk P w K mg base CX0 1 T.a_law_joint T.d_law_joint ["goals", "many"] (spF K 2 m_law_joint) :=
  fn_ok T.F_law_joint sc_law_joint (by decide) fun cdv A outer s H E hr => (s_cons (s_asg (g_name 2 sc_law_joint.nd) (e_lc (own := [("v", 7)]) rfl sc_law_joint.nd (i_range1 T.n_range (e_var 1)) (blkOk_by (N := N_law_joint) (sc := (defScope s_law_joint)) (by decide +kernel)) (by decide) (fun _ _ _ _ _ => (g_name 7 sc_law_joint.nd)) (fun _ _ _ _ _ => ts_nil) (fun _ _ _ _ _ => (e_int))))
    (s_cons (s_for rfl (g_tup rfl (gs_cons (g_name 3 sc_law_joint.nd) (gs_cons (g_name 4 sc_law_joint.nd) (gs_cons (g_name 5 sc_law_joint.nd) gs_nil)))) (i_var 0) (s_cons (s_asg (g_name 6 sc_law_joint.nd) (e_ix hr (e_lst (a_cons (e_sub (e_int) (e_int)) (a_cons (e_int) a_nil))) (e_intf T.n_int (e_eq hr (e_var 3) (e_str)))))
    (s_one (s_for rfl (g_tup rfl (gs_cons (g_name 7 sc_law_joint.nd) (gs_cons (g_name 8 sc_law_joint.nd) gs_nil))) (i_var 4) (s_one (s_setIx 2 hr (e_var 7) (e_add (e_ix hr (e_var 2) (e_var 7)) (e_mul (e_var 8) (e_var 6)))))))))
    (s_one (s_ret (e_tuple T.n_tuple (e_lc (own := [("v", 7)]) rfl sc_law_joint.nd (i_range1 T.n_range (e_var 1)) (blkOk_by (N := N_law_joint) (sc := (defScope s_law_joint)) (by decide +kernel)) (by decide) (fun _ _ _ _ _ => (g_name 7 sc_law_joint.nd)) (fun _ _ _ _ _ => (ts_one (t_ne hr (e_ix hr (e_var 2) (e_var 7)) (e_int)))) (fun _ _ _ _ _ => (e_tup (a_cons (e_var 7) (a_cons (e_ix hr (e_var 2) (e_var 7)) a_nil))))))))))
theorem ok_law (T : Txt K mg) : FnOk P w K mg base CX0 4 T.a_law T.d_law ["script"] (spF K 1 m_law) :=
  fn_ok T.F_law sc_law (by decide) fun cdv A outer s H E hr => (s_cons (s_asg (g_name 1 sc_law.nd) (e_call (ok_law_tape T) hr (by decide) T.g_law_tape T.F_law_tape.kp T.b_law_tape (fun _ _ _ => cFn_len) (a_cons (e_var 0) a_nil)))
    (s_cons (s_asg (g_name 2 sc_law.nd) (e_add (e_int) (e_call (ok_law_draw T) hr (by decide) T.g_law_draw T.F_law_draw.kp T.b_law_draw (fun _ _ _ => cFn_len) (a_cons (e_var 1) (a_cons (e_int) a_nil)))))
    (s_cons (s_if (t_eq hr (e_call (ok_law_draw T) hr (by decide) T.g_law_draw T.F_law_draw.kp T.b_law_draw (fun _ _ _ => cFn_len) (a_cons (e_var 1) (a_cons (e_int) a_nil))) (e_int)) (s_one (s_asg (g_name 2 sc_law.nd) (e_int))) s_nil)
    (s_cons (s_asg (g_name 3 sc_law.nd) (e_call (ok_law_goals T) hr (by decide) T.g_law_goals T.F_law_goals.kp T.b_law_goals (fun _ _ _ => cFn_len) (a_cons (e_var 1) (a_cons (e_var 2) (a_cons (e_add (e_int) (e_call (ok_law_draw T) hr (by decide) T.g_law_draw T.F_law_draw.kp T.b_law_draw (fun _ _ _ => cFn_len) (a_cons (e_var 1) (a_cons (e_int) a_nil)))) a_nil)))))
    (s_cons (s_setLc (i := 4) (own := [("k", 9)]) rfl sc_law.nd (i_range1 T.n_range (e_int)) (blkOk_by (N := N_law) (sc := (defScope s_law)) (by decide +kernel)) (by decide) (fun _ _ _ _ _ => (g_name 9 sc_law.nd)) (fun _ _ _ _ _ => ts_nil) (fun _ _ _ _ _ => (e_tuple T.n_tuple (e_lc (own := [("v", 17)]) rfl sc_law.nd (i_range1 T.n_range (e_var 2)) (blkOk_by (N := N_law) (sc := (relS _ (defScope s_law))) (by decide +kernel)) (by decide) (fun _ _ _ _ _ => (g_name 17 sc_law.nd)) (fun _ _ _ _ _ => ts_nil) (fun _ _ _ _ _ => (e_sub (e_call (ok_law_draw T) hr (by decide) T.g_law_draw T.F_law_draw.kp T.b_law_draw (fun _ _ _ => cFn_len) (a_cons (e_var 1) (a_cons (e_int) a_nil))) (e_int)))))))
    (s_cons (s_fz [4] (s_setLc (i := 5) (own := [("point", 14)]) rfl sc_law.nd (i_var 4) (blkOk_by (N := N_law) (sc := (defScope s_law)) (by decide +kernel)) (by decide) (fun _ _ _ _ _ => (g_name 14 sc_law.nd)) (fun _ _ _ _ _ => ts_nil) (fun _ _ _ _ _ => (e_call (ok_law_gains T) hr (by decide) T.g_law_gains T.F_law_gains.kp T.b_law_gains (fun _ _ _ => cFn_len) (a_cons (e_var 3) (a_cons (e_var 14) a_nil))))))
    (s_cons (s_fz [4] (s_if (t_ne hr (e_lc (own := [("point", 14)]) rfl sc_law.nd (i_var 4) (blkOk_by (N := N_law) (sc := (defScope s_law)) (by decide +kernel)) (by decide) (fun _ _ _ _ _ => (g_name 14 sc_law.nd)) (fun _ _ _ _ _ => ts_nil) (fun _ _ _ _ _ => (e_call (ok_values_at T) hr (by decide) T.g_values_at T.F_values_at.kp T.b_values_at (fun _ _ _ => cFn_len) (a_cons (e_var 3) (a_cons (e_var 14) a_nil))))) (e_var 5)) (s_one (s_ret (e_bl))) s_nil))
    (s_cons (s_asg (g_name 6 sc_law.nd) (e_call (ok_law_draw T) hr (by decide) T.g_law_draw T.F_law_draw.kp T.b_law_draw (fun _ _ _ => cFn_len) (a_cons (e_var 1) (a_cons (e_len T.n_len (e_var 3)) a_nil))))
    (s_cons (s_asg (g_name 7 sc_law.nd) (e_add (e_add (e_sl (e_ix hr (e_var 5) (e_int)) o_none (o_some (e_var 6))) (e_tup (a_cons (e_sub (e_add (e_ix hr (e_ix hr (e_var 5) (e_int)) (e_var 6)) (e_call (ok_law_draw T) hr (by decide) T.g_law_draw T.F_law_draw.kp T.b_law_draw (fun _ _ _ => cFn_len) (a_cons (e_var 1) (a_cons (e_int) a_nil)))) (e_int)) a_nil))) (e_sl (e_ix hr (e_var 5) (e_int)) (o_some (e_add (e_var 6) (e_int))) o_none)))
    (s_cons (s_for rfl (g_name 8 sc_law.nd) (i_exp (e_add (e_var 5) (e_lst (a_cons (e_var 7) a_nil)))) (s_one (s_for rfl (g_name 10 sc_law.nd) (i_exp (e_add (e_var 5) (e_lst (a_cons (e_var 7) a_nil)))) (s_cons (s_asg (g_name 15 sc_law.nd) (e_call (ok_law_covers T) hr (by decide) T.g_law_covers T.F_law_covers.kp T.b_law_covers (fun _ _ _ => cFn_len) (a_cons (e_var 3) (a_cons (e_var 8) (a_cons (e_var 10) a_nil)))))
    (s_cons (s_if (t_not (t_val (e_call (ok_law_same T) hr (by decide) T.g_law_same T.F_law_same.kp T.b_law_same (fun _ _ _ => cFn_len) (a_cons (e_call (ok_covers T) hr (by decide) T.g_covers T.F_covers.kp T.b_covers (fun _ _ _ => cFn_len) (a_cons (e_var 3) (a_cons (e_var 8) (a_cons (e_var 10) a_nil)))) (a_cons (e_var 15) a_nil))))) (s_one (s_ret (e_bl))) s_nil)
    (s_one (s_if (t_not (t_val (e_call (ok_law_same T) hr (by decide) T.g_law_same T.F_law_same.kp T.b_law_same (fun _ _ _ => cFn_len) (a_cons (e_call (ok_beats T) hr (by decide) T.g_beats T.F_beats.kp T.b_beats (fun _ _ _ => cFn_len) (a_cons (e_var 3) (a_cons (e_var 8) (a_cons (e_var 10) a_nil)))) (a_cons (e_and (e_var 15) (e_one (e_ne hr (e_var 8) (e_var 10)))) a_nil))))) (s_one (s_ret (e_bl))) s_nil)))))))
    (s_cons (s_for rfl (g_name 9 sc_law.nd) (i_range1 T.n_range (e_len T.n_len (e_var 3))) (s_cons (s_asg (g_name 11 sc_law.nd) (e_sub (e_add (e_ix hr (e_ix hr (e_var 5) (e_int)) (e_var 9)) (e_call (ok_law_draw T) hr (by decide) T.g_law_draw T.F_law_draw.kp T.b_law_draw (fun _ _ _ => cFn_len) (a_cons (e_var 1) (a_cons (e_int) a_nil)))) (e_int)))
    (s_cons (s_asg (g_name 12 sc_law.nd) (e_call (ok_at_least_row T) hr (by decide) T.g_at_least_row T.F_at_least_row.kp T.b_at_least_row (fun _ _ _ => cFn_len) (a_cons (e_ix hr (e_var 3) (e_var 9)) (a_cons (e_var 11) a_nil))))
    (s_cons (s_asg (g_name 13 sc_law.nd) (e_call (ok_better_row T) hr (by decide) T.g_better_row T.F_better_row.kp T.b_better_row (fun _ _ _ => cFn_len) (a_cons (e_ix hr (e_var 3) (e_var 9)) (a_cons (e_var 11) a_nil))))
    (s_cons (s_if (t_w (w_or (t_ne hr (e_var 12) (e_call (ok_law_row_of T) hr (by decide) T.g_law_row_of T.F_law_row_of.kp T.b_law_row_of (fun _ _ _ => cFn_len) (a_cons (e_ix hr (e_var 3) (e_var 9)) (a_cons (e_var 11) (a_cons (e_int) a_nil))))) (w_or1 (t_ne hr (e_var 13) (e_call (ok_law_row_of T) hr (by decide) T.g_law_row_of T.F_law_row_of.kp T.b_law_row_of (fun _ _ _ => cFn_len) (a_cons (e_ix hr (e_var 3) (e_var 9)) (a_cons (e_var 11) (a_cons (e_int) a_nil)))))))) (s_one (s_ret (e_bl))) s_nil)
    (s_one (s_fz [4] (s_for rfl (g_name 14 sc_law.nd) (i_var 4) (s_cons (s_asg (g_name 16 sc_law.nd) (e_sub (e_ix hr (e_call (ok_law_gains T) hr (by decide) T.g_law_gains T.F_law_gains.kp T.b_law_gains (fun _ _ _ => cFn_len) (a_cons (e_tup (a_cons (e_ix hr (e_var 3) (e_var 9)) a_nil)) (a_cons (e_var 14) a_nil))) (e_int)) (e_var 11)))
    (s_cons (s_if (t_eq hr (e_ix hr (e_ix hr (e_var 3) (e_var 9)) (e_int)) (e_str)) (s_one (s_asg (g_name 16 sc_law.nd) (e_sub (e_int) (e_var 16)))) s_nil)
    (s_cons (s_if (t_ne hr (e_le (e_call (ok_law_sum T) hr (by decide) T.g_law_sum T.F_law_sum.kp T.b_law_sum (fun _ _ _ => cFn_len) (a_cons (e_ix hr (e_var 12) (e_int)) (a_cons (e_var 14) a_nil))) (e_ix hr (e_var 12) (e_int))) (e_ge (e_var 16) (e_int))) (s_one (s_ret (e_bl))) s_nil)
    (s_one (s_if (t_ne hr (e_le (e_call (ok_law_sum T) hr (by decide) T.g_law_sum T.F_law_sum.kp T.b_law_sum (fun _ _ _ => cFn_len) (a_cons (e_ix hr (e_var 13) (e_int)) (a_cons (e_var 14) a_nil))) (e_ix hr (e_var 13) (e_int))) (e_gt (e_var 16) (e_int))) (s_one (s_ret (e_bl))) s_nil)))))))))))))
    (s_one (s_ret (e_eq hr (e_call (ok_joint_terms T) hr (by decide) T.g_joint_terms T.F_joint_terms.kp T.b_joint_terms (fun _ _ _ => cFn_len) (a_cons (e_var 3) a_nil)) (e_call (ok_law_joint T) hr (by decide) T.g_law_joint T.F_law_joint.kp T.b_law_joint (fun _ _ _ => cFn_len) (a_cons (e_var 3) (a_cons (e_var 2) a_nil)))))))))))))))))
end
/-! ### what the top has left -/
theorem all_mk {l : PySem.W.OpenLaw} {w : World} {K : PySem.W.Frag} {h : Heap} {mg : Str → Option Value} {fa : Addr} (X : K.In h) (G : h.Ns mainGlobals mg) (hfa : mg "law" = some (.ref fa))
    {f0 : Addr} {od0 an0 : Option Addr} {sl0 : Array (Option Value)} {oc0 kV0 dc0 pm0 cd0 ct0 : Value}
    (a0 : PySem.W.nsIn K mainGlobals "terms_sum" = some (some (.ref f0))) (l0 : K.lookup f0 = some ⟨oc0, od0, .func (PySem.W.fnOf "terms_sum" "terms_sum" (defArgs s_terms_sum) (defBody s_terms_sum) (defScope s_terms_sum) .none kV0 dc0 pm0 an0 cd0 ct0), sl0⟩) (c0 : PySem.W.codeIn K cd0 "terms_sum" = true) (k0 : PySem.W.keepIn K (.ref f0) = true)
    {f1 : Addr} {od1 an1 : Option Addr} {sl1 : Array (Option Value)} {oc1 kV1 dc1 pm1 cd1 ct1 : Value}
    (a1 : PySem.W.nsIn K mainGlobals "negated_terms" = some (some (.ref f1))) (l1 : K.lookup f1 = some ⟨oc1, od1, .func (PySem.W.fnOf "negated_terms" "negated_terms" (defArgs s_negated_terms) (defBody s_negated_terms) (defScope s_negated_terms) .none kV1 dc1 pm1 an1 cd1 ct1), sl1⟩) (c1 : PySem.W.codeIn K cd1 "negated_terms" = true) (k1 : PySem.W.keepIn K (.ref f1) = true)
    {f2 : Addr} {od2 an2 : Option Addr} {sl2 : Array (Option Value)} {oc2 kV2 dc2 pm2 cd2 ct2 : Value}
    (a2 : PySem.W.nsIn K mainGlobals "values_at" = some (some (.ref f2))) (l2 : K.lookup f2 = some ⟨oc2, od2, .func (PySem.W.fnOf "values_at" "values_at" (defArgs s_values_at) (defBody s_values_at) (defScope s_values_at) .none kV2 dc2 pm2 an2 cd2 ct2), sl2⟩) (c2 : PySem.W.codeIn K cd2 "values_at" = true) (k2 : PySem.W.keepIn K (.ref f2) = true)
    {f3 : Addr} {od3 an3 : Option Addr} {sl3 : Array (Option Value)} {oc3 kV3 dc3 pm3 cd3 ct3 : Value}
    (a3 : PySem.W.nsIn K mainGlobals "covers" = some (some (.ref f3))) (l3 : K.lookup f3 = some ⟨oc3, od3, .func (PySem.W.fnOf "covers" "covers" (defArgs s_covers) (defBody s_covers) (defScope s_covers) .none kV3 dc3 pm3 an3 cd3 ct3), sl3⟩) (c3 : PySem.W.codeIn K cd3 "covers" = true) (k3 : PySem.W.keepIn K (.ref f3) = true)
    {f4 : Addr} {od4 an4 : Option Addr} {sl4 : Array (Option Value)} {oc4 kV4 dc4 pm4 cd4 ct4 : Value}
    (a4 : PySem.W.nsIn K mainGlobals "beats" = some (some (.ref f4))) (l4 : K.lookup f4 = some ⟨oc4, od4, .func (PySem.W.fnOf "beats" "beats" (defArgs s_beats) (defBody s_beats) (defScope s_beats) .none kV4 dc4 pm4 an4 cd4 ct4), sl4⟩) (c4 : PySem.W.codeIn K cd4 "beats" = true) (k4 : PySem.W.keepIn K (.ref f4) = true)
    {f5 : Addr} {od5 an5 : Option Addr} {sl5 : Array (Option Value)} {oc5 kV5 dc5 pm5 cd5 ct5 : Value}
    (a5 : PySem.W.nsIn K mainGlobals "at_least_row" = some (some (.ref f5))) (l5 : K.lookup f5 = some ⟨oc5, od5, .func (PySem.W.fnOf "at_least_row" "at_least_row" (defArgs s_at_least_row) (defBody s_at_least_row) (defScope s_at_least_row) .none kV5 dc5 pm5 an5 cd5 ct5), sl5⟩) (c5 : PySem.W.codeIn K cd5 "at_least_row" = true) (k5 : PySem.W.keepIn K (.ref f5) = true)
    {f6 : Addr} {od6 an6 : Option Addr} {sl6 : Array (Option Value)} {oc6 kV6 dc6 pm6 cd6 ct6 : Value}
    (a6 : PySem.W.nsIn K mainGlobals "better_row" = some (some (.ref f6))) (l6 : K.lookup f6 = some ⟨oc6, od6, .func (PySem.W.fnOf "better_row" "better_row" (defArgs s_better_row) (defBody s_better_row) (defScope s_better_row) .none kV6 dc6 pm6 an6 cd6 ct6), sl6⟩) (c6 : PySem.W.codeIn K cd6 "better_row" = true) (k6 : PySem.W.keepIn K (.ref f6) = true)
    {f7 : Addr} {od7 an7 : Option Addr} {sl7 : Array (Option Value)} {oc7 kV7 dc7 pm7 cd7 ct7 : Value}
    (a7 : PySem.W.nsIn K mainGlobals "joint_terms" = some (some (.ref f7))) (l7 : K.lookup f7 = some ⟨oc7, od7, .func (PySem.W.fnOf "joint_terms" "joint_terms" (defArgs s_joint_terms) (defBody s_joint_terms) (defScope s_joint_terms) .none kV7 dc7 pm7 an7 cd7 ct7), sl7⟩) (c7 : PySem.W.codeIn K cd7 "joint_terms" = true) (k7 : PySem.W.keepIn K (.ref f7) = true)
    {f8 : Addr} {od8 an8 : Option Addr} {sl8 : Array (Option Value)} {oc8 kV8 dc8 pm8 cd8 ct8 : Value}
    (a8 : PySem.W.nsIn K mainGlobals "_law_same" = some (some (.ref f8))) (l8 : K.lookup f8 = some ⟨oc8, od8, .func (PySem.W.fnOf "_law_same" "_law_same" (defArgs s_law_same) (defBody s_law_same) (defScope s_law_same) .none kV8 dc8 pm8 an8 cd8 ct8), sl8⟩) (c8 : PySem.W.codeIn K cd8 "_law_same" = true) (k8 : PySem.W.keepIn K (.ref f8) = true)
    {f9 : Addr} {od9 an9 : Option Addr} {sl9 : Array (Option Value)} {oc9 kV9 dc9 pm9 cd9 ct9 : Value}
    (a9 : PySem.W.nsIn K mainGlobals "_law_draw" = some (some (.ref f9))) (l9 : K.lookup f9 = some ⟨oc9, od9, .func (PySem.W.fnOf "_law_draw" "_law_draw" (defArgs s_law_draw) (defBody s_law_draw) (defScope s_law_draw) .none kV9 dc9 pm9 an9 cd9 ct9), sl9⟩) (c9 : PySem.W.codeIn K cd9 "_law_draw" = true) (k9 : PySem.W.keepIn K (.ref f9) = true)
    {f10 : Addr} {od10 an10 : Option Addr} {sl10 : Array (Option Value)} {oc10 kV10 dc10 pm10 cd10 ct10 : Value}
    (a10 : PySem.W.nsIn K mainGlobals "_law_tape" = some (some (.ref f10))) (l10 : K.lookup f10 = some ⟨oc10, od10, .func (PySem.W.fnOf "_law_tape" "_law_tape" (defArgs s_law_tape) (defBody s_law_tape) (defScope s_law_tape) .none kV10 dc10 pm10 an10 cd10 ct10), sl10⟩) (c10 : PySem.W.codeIn K cd10 "_law_tape" = true) (k10 : PySem.W.keepIn K (.ref f10) = true)
    {f11 : Addr} {od11 an11 : Option Addr} {sl11 : Array (Option Value)} {oc11 kV11 dc11 pm11 cd11 ct11 : Value}
    (a11 : PySem.W.nsIn K mainGlobals "_law_terms" = some (some (.ref f11))) (l11 : K.lookup f11 = some ⟨oc11, od11, .func (PySem.W.fnOf "_law_terms" "_law_terms" (defArgs s_law_terms) (defBody s_law_terms) (defScope s_law_terms) .none kV11 dc11 pm11 an11 cd11 ct11), sl11⟩) (c11 : PySem.W.codeIn K cd11 "_law_terms" = true) (k11 : PySem.W.keepIn K (.ref f11) = true)
    {f12 : Addr} {od12 an12 : Option Addr} {sl12 : Array (Option Value)} {oc12 kV12 dc12 pm12 cd12 ct12 : Value}
    (a12 : PySem.W.nsIn K mainGlobals "_law_sum" = some (some (.ref f12))) (l12 : K.lookup f12 = some ⟨oc12, od12, .func (PySem.W.fnOf "_law_sum" "_law_sum" (defArgs s_law_sum) (defBody s_law_sum) (defScope s_law_sum) .none kV12 dc12 pm12 an12 cd12 ct12), sl12⟩) (c12 : PySem.W.codeIn K cd12 "_law_sum" = true) (k12 : PySem.W.keepIn K (.ref f12) = true)
    {f13 : Addr} {od13 an13 : Option Addr} {sl13 : Array (Option Value)} {oc13 kV13 dc13 pm13 cd13 ct13 : Value}
    (a13 : PySem.W.nsIn K mainGlobals "_law_goals" = some (some (.ref f13))) (l13 : K.lookup f13 = some ⟨oc13, od13, .func (PySem.W.fnOf "_law_goals" "_law_goals" (defArgs s_law_goals) (defBody s_law_goals) (defScope s_law_goals) .none kV13 dc13 pm13 an13 cd13 ct13), sl13⟩) (c13 : PySem.W.codeIn K cd13 "_law_goals" = true) (k13 : PySem.W.keepIn K (.ref f13) = true)
    {f14 : Addr} {od14 an14 : Option Addr} {sl14 : Array (Option Value)} {oc14 kV14 dc14 pm14 cd14 ct14 : Value}
    (a14 : PySem.W.nsIn K mainGlobals "_law_gains" = some (some (.ref f14))) (l14 : K.lookup f14 = some ⟨oc14, od14, .func (PySem.W.fnOf "_law_gains" "_law_gains" (defArgs s_law_gains) (defBody s_law_gains) (defScope s_law_gains) .none kV14 dc14 pm14 an14 cd14 ct14), sl14⟩) (c14 : PySem.W.codeIn K cd14 "_law_gains" = true) (k14 : PySem.W.keepIn K (.ref f14) = true)
    {f15 : Addr} {od15 an15 : Option Addr} {sl15 : Array (Option Value)} {oc15 kV15 dc15 pm15 cd15 ct15 : Value}
    (a15 : PySem.W.nsIn K mainGlobals "_law_covers" = some (some (.ref f15))) (l15 : K.lookup f15 = some ⟨oc15, od15, .func (PySem.W.fnOf "_law_covers" "_law_covers" (defArgs s_law_covers) (defBody s_law_covers) (defScope s_law_covers) .none kV15 dc15 pm15 an15 cd15 ct15), sl15⟩) (c15 : PySem.W.codeIn K cd15 "_law_covers" = true) (k15 : PySem.W.keepIn K (.ref f15) = true)
    {f16 : Addr} {od16 an16 : Option Addr} {sl16 : Array (Option Value)} {oc16 kV16 dc16 pm16 cd16 ct16 : Value}
    (a16 : PySem.W.nsIn K mainGlobals "_law_row_of" = some (some (.ref f16))) (l16 : K.lookup f16 = some ⟨oc16, od16, .func (PySem.W.fnOf "_law_row_of" "_law_row_of" (defArgs s_law_row_of) (defBody s_law_row_of) (defScope s_law_row_of) .none kV16 dc16 pm16 an16 cd16 ct16), sl16⟩) (c16 : PySem.W.codeIn K cd16 "_law_row_of" = true) (k16 : PySem.W.keepIn K (.ref f16) = true)
    {f17 : Addr} {od17 an17 : Option Addr} {sl17 : Array (Option Value)} {oc17 kV17 dc17 pm17 cd17 ct17 : Value}
    (a17 : PySem.W.nsIn K mainGlobals "_law_joint" = some (some (.ref f17))) (l17 : K.lookup f17 = some ⟨oc17, od17, .func (PySem.W.fnOf "_law_joint" "_law_joint" (defArgs s_law_joint) (defBody s_law_joint) (defScope s_law_joint) .none kV17 dc17 pm17 an17 cd17 ct17), sl17⟩) (c17 : PySem.W.codeIn K cd17 "_law_joint" = true) (k17 : PySem.W.keepIn K (.ref f17) = true)
    {f18 : Addr} {od18 an18 : Option Addr} {sl18 : Array (Option Value)} {oc18 kV18 dc18 pm18 cd18 ct18 : Value}
    (a18 : PySem.W.nsIn K mainGlobals "law" = some (some (.ref f18))) (l18 : K.lookup f18 = some ⟨oc18, od18, .func (PySem.W.fnOf "law" "law" (defArgs s_law) (defBody s_law) (defScope s_law) .none kV18 dc18 pm18 an18 cd18 ct18), sl18⟩) (c18 : PySem.W.codeIn K cd18 "law" = true) (k18 : PySem.W.keepIn K (.ref f18) = true)
    (z_bool : PySem.W.nsIn K mainGlobals "bool" = some none)
    (z_enumerate : PySem.W.nsIn K mainGlobals "enumerate" = some none)
    (z_int : PySem.W.nsIn K mainGlobals "int" = some none)
    (z_isinstance : PySem.W.nsIn K mainGlobals "isinstance" = some none)
    (z_len : PySem.W.nsIn K mainGlobals "len" = some none)
    (z_list : PySem.W.nsIn K mainGlobals "list" = some none)
    (z_range : PySem.W.nsIn K mainGlobals "range" = some none)
    (z_sorted : PySem.W.nsIn K mainGlobals "sorted" = some none)
    (z_tuple : PySem.W.nsIn K mainGlobals "tuple" = some none)
    : ∃ fd : FuncData, (∀ (s : Shared) (v : Value), BindsTo s fd ⟨[v], []⟩ [("script", v)]) ∧ ∀ base : Heap, K.In base → base.Ns mainGlobals mg → FnOk l.prog w K mg base CX0 4 fa fd ["script"] (spF K 1 m_law) := by
  have e := hfa.symm.trans (PySem.W.mg_of X G a18)
  cases e
  exact ⟨_, fun s v => .of_eq rfl, fun base _ _ => ok_law { a_terms_sum := _, d_terms_sum := _, F_terms_sum := fun_mk (st := s_terms_sum) l0 c0 k0, g_terms_sum := PySem.W.mg_of X G a0, b_terms_sum := (fun_mk (st := s_terms_sum) l0 c0 k0).binds (ps := ["terms", "point"]) (fun _ _ _ _ _ _ us hl => (match us, hl with | [_, _], _ => rfl)), a_negated_terms := _, d_negated_terms := _, F_negated_terms := fun_mk (st := s_negated_terms) l1 c1 k1, g_negated_terms := PySem.W.mg_of X G a1, b_negated_terms := (fun_mk (st := s_negated_terms) l1 c1 k1).binds (ps := ["terms"]) (fun _ _ _ _ _ _ us hl => (match us, hl with | [_], _ => rfl)), a_values_at := _, d_values_at := _, F_values_at := fun_mk (st := s_values_at) l2 c2 k2, g_values_at := PySem.W.mg_of X G a2, b_values_at := (fun_mk (st := s_values_at) l2 c2 k2).binds (ps := ["goals", "point"]) (fun _ _ _ _ _ _ us hl => (match us, hl with | [_, _], _ => rfl)), a_covers := _, d_covers := _, F_covers := fun_mk (st := s_covers) l3 c3 k3, g_covers := PySem.W.mg_of X G a3, b_covers := (fun_mk (st := s_covers) l3 c3 k3).binds (ps := ["goals", "first", "second"]) (fun _ _ _ _ _ _ us hl => (match us, hl with | [_, _, _], _ => rfl)), a_beats := _, d_beats := _, F_beats := fun_mk (st := s_beats) l4 c4 k4, g_beats := PySem.W.mg_of X G a4, b_beats := (fun_mk (st := s_beats) l4 c4 k4).binds (ps := ["goals", "first", "second"]) (fun _ _ _ _ _ _ us hl => (match us, hl with | [_, _, _], _ => rfl)), a_at_least_row := _, d_at_least_row := _, F_at_least_row := fun_mk (st := s_at_least_row) l5 c5 k5, g_at_least_row := PySem.W.mg_of X G a5, b_at_least_row := (fun_mk (st := s_at_least_row) l5 c5 k5).binds (ps := ["goal", "value"]) (fun _ _ _ _ _ _ us hl => (match us, hl with | [_, _], _ => rfl)), a_better_row := _, d_better_row := _, F_better_row := fun_mk (st := s_better_row) l6 c6 k6, g_better_row := PySem.W.mg_of X G a6, b_better_row := (fun_mk (st := s_better_row) l6 c6 k6).binds (ps := ["goal", "value"]) (fun _ _ _ _ _ _ us hl => (match us, hl with | [_, _], _ => rfl)), a_joint_terms := _, d_joint_terms := _, F_joint_terms := fun_mk (st := s_joint_terms) l7 c7 k7, g_joint_terms := PySem.W.mg_of X G a7, b_joint_terms := (fun_mk (st := s_joint_terms) l7 c7 k7).binds (ps := ["goals"]) (fun _ _ _ _ _ _ us hl => (match us, hl with | [_], _ => rfl)), a_law_same := _, d_law_same := _, F_law_same := fun_mk (st := s_law_same) l8 c8 k8, g_law_same := PySem.W.mg_of X G a8, b_law_same := (fun_mk (st := s_law_same) l8 c8 k8).binds (ps := ["told", "due"]) (fun _ _ _ _ _ _ us hl => (match us, hl with | [_, _], _ => rfl)), a_law_draw := _, d_law_draw := _, F_law_draw := fun_mk (st := s_law_draw) l9 c9 k9, g_law_draw := PySem.W.mg_of X G a9, b_law_draw := (fun_mk (st := s_law_draw) l9 c9 k9).binds (ps := ["tape", "many"]) (fun _ _ _ _ _ _ us hl => (match us, hl with | [_, _], _ => rfl)), a_law_tape := _, d_law_tape := _, F_law_tape := fun_mk (st := s_law_tape) l10 c10 k10, g_law_tape := PySem.W.mg_of X G a10, b_law_tape := (fun_mk (st := s_law_tape) l10 c10 k10).binds (ps := ["script"]) (fun _ _ _ _ _ _ us hl => (match us, hl with | [_], _ => rfl)), a_law_terms := _, d_law_terms := _, F_law_terms := fun_mk (st := s_law_terms) l11 c11 k11, g_law_terms := PySem.W.mg_of X G a11, b_law_terms := (fun_mk (st := s_law_terms) l11 c11 k11).binds (ps := ["tape", "many"]) (fun _ _ _ _ _ _ us hl => (match us, hl with | [_, _], _ => rfl)), a_law_sum := _, d_law_sum := _, F_law_sum := fun_mk (st := s_law_sum) l12 c12 k12, g_law_sum := PySem.W.mg_of X G a12, b_law_sum := (fun_mk (st := s_law_sum) l12 c12 k12).binds (ps := ["terms", "point"]) (fun _ _ _ _ _ _ us hl => (match us, hl with | [_, _], _ => rfl)), a_law_goals := _, d_law_goals := _, F_law_goals := fun_mk (st := s_law_goals) l13 c13 k13, g_law_goals := PySem.W.mg_of X G a13, b_law_goals := (fun_mk (st := s_law_goals) l13 c13 k13).binds (ps := ["tape", "many", "count"]) (fun _ _ _ _ _ _ us hl => (match us, hl with | [_, _, _], _ => rfl)), a_law_gains := _, d_law_gains := _, F_law_gains := fun_mk (st := s_law_gains) l14 c14 k14, g_law_gains := PySem.W.mg_of X G a14, b_law_gains := (fun_mk (st := s_law_gains) l14 c14 k14).binds (ps := ["goals", "point"]) (fun _ _ _ _ _ _ us hl => (match us, hl with | [_, _], _ => rfl)), a_law_covers := _, d_law_covers := _, F_law_covers := fun_mk (st := s_law_covers) l15 c15 k15, g_law_covers := PySem.W.mg_of X G a15, b_law_covers := (fun_mk (st := s_law_covers) l15 c15 k15).binds (ps := ["goals", "first", "second"]) (fun _ _ _ _ _ _ us hl => (match us, hl with | [_, _, _], _ => rfl)), a_law_row_of := _, d_law_row_of := _, F_law_row_of := fun_mk (st := s_law_row_of) l16 c16 k16, g_law_row_of := PySem.W.mg_of X G a16, b_law_row_of := (fun_mk (st := s_law_row_of) l16 c16 k16).binds (ps := ["goal", "value", "less"]) (fun _ _ _ _ _ _ us hl => (match us, hl with | [_, _, _], _ => rfl)), a_law_joint := _, d_law_joint := _, F_law_joint := fun_mk (st := s_law_joint) l17 c17 k17, g_law_joint := PySem.W.mg_of X G a17, b_law_joint := (fun_mk (st := s_law_joint) l17 c17 k17).binds (ps := ["goals", "many"]) (fun _ _ _ _ _ _ us hl => (match us, hl with | [_, _], _ => rfl)), a_law := _, d_law := _, F_law := fun_mk (st := s_law) l18 c18 k18, g_law := PySem.W.mg_of X G a18, b_law := (fun_mk (st := s_law) l18 c18 k18).binds (ps := ["script"]) (fun _ _ _ _ _ _ us hl => (match us, hl with | [_], _ => rfl)), n_bool := PySem.W.mg_none_of X G z_bool, n_enumerate := PySem.W.mg_none_of X G z_enumerate, n_int := PySem.W.mg_none_of X G z_int, n_isinstance := PySem.W.mg_none_of X G z_isinstance, n_len := PySem.W.mg_none_of X G z_len, n_list := PySem.W.mg_none_of X G z_list, n_range := PySem.W.mg_none_of X G z_range, n_sorted := PySem.W.mg_none_of X G z_sorted, n_tuple := PySem.W.mg_none_of X G z_tuple }⟩
end K75
namespace K75
open PySem PySem.Spec PyProof.Rows L2 Mp
local macro_rules | `(tactic| walk_at "ev") => `(tactic| simp only [q_lit, q_nil, q_cons, q_var, q_bin, q_tup, q_lst, q_box, q_neg, q_notT, q_andT, q_orT, q_notV, q_andV, q_orV, q_if, q_B, q_ix, q_call, q_bi, q_sl, q_oNone, q_oSome, q_dk, q_dt, q_yesT, q_get2,
  q_lc, q_iExp, q_iVar, q_iEnV, q_range1, q_range2, items_tup, items_lst, q_seq, q_skip, q_ret, q_retV, q_ifS, q_asg, q_drop, q_for, q_tName, q_tTup, q_tCons, q_tNil, q_fz, q_frzE, q_app, q_aug, q_setIx, q_wipe0, q_wipe, fin_rt, fin_nx,
  mut_non, mut_bl, mut_int, mut_str, mut_tup, mut_lst, mut_dk, mut_dt, mut_scr, mut_cel, sto_non, sto_bl, sto_int, sto_str, sto_tup, sto_scr, sto_cel, sto_own, sto_frz, md_non, md_bl, md_int, md_str, md_tup, md_lst, md_dk, md_dt, md_scr, md_cel,
  gAdd_int, gAddI_int, gSub_int, gLt_int, gLe_int, gGt_int, gGe_int, gInt_int, gInt_bl, gLen_tup, gLen_lst, gTuple_lst, gTuple_tup, gList_scr, gList_lst, gList_tup, gIx_tup, gIx_lst, gEq_int, gEq_bl, atI_0, atI_1, atI_2,
  bnd_some, Option.map_some, Option.bind_some, List.getElem?_cons_succ, List.getElem?_cons_zero, List.set_cons_succ, List.set_cons_zero, List.foldl_cons, List.foldl_nil, List.map_cons, List.map_nil, List.length_map, List.length_cons, List.length_nil, List.all_cons, List.all_nil, Bool.and_true, Bool.true_and, and_true, true_and, false_and, and_false,
  reduceCtorEq, if_false, if_true, ite_true, ite_false, Bool.false_eq_true])

/-! ### data -/
abbrev Tm := List (Int × Int)
structure Gl where
  mx : Bool
  ts : Tm
  c : Int
def encT (ts : Tm) : W := .tup (ts.map fun p => .tup [.int p.1, .int p.2])
def encP (p : List Int) : W := .tup (p.map .int)
def snse (b : Bool) : Str := if b then "max" else "min"
def encG (g : Gl) : W := .tup [.str (snse g.mx), encT g.ts, .int g.c]
def encGs (gs : List Gl) : W := .tup (gs.map encG)
def tsum (ts : Tm) (p : List Int) : Int := ts.foldl (fun s t => s + t.2 * p.getD t.1.toNat 0) 0
/-- the terms are of an unknown of the point, the numbers small -/
def TOk (n : Nat) (ts : Tm) : Prop := ∀ t ∈ ts, 0 ≤ t.1 ∧ t.1 < n ∧ -1000 ≤ t.2 ∧ t.2 ≤ 1000
theorem at_pt {p : List Int} {v : Int} (h0 : 0 ≤ v) (h1 : v < p.length) : atI (p.map W.int) v = some (.int (p.getD v.toNat 0)) := by
  rw [atI_of h0, List.getElem?_map]
  have h : v.toNat < p.length := by omega
  rw [List.getElem?_eq_getElem h, List.getD_eq_getElem?_getD, List.getElem?_eq_getElem h]
  rfl
theorem terms_sum_ok {ts : Tm} {p : List Int} (S : Store) (h : TOk p.length ts) : m_terms_sum [encT ts, encP p] S = some ((.int (tsum ts p), .frz), S) := by
  unfold m_terms_sum
  rw [cFn_run (by rfl)]
  show fin (c_terms_sum [some (encT ts, .brw), some (encP p, .brw), none, none, none] S) = _
  unfold c_terms_sum encT encP
  walk_at "ev"
  obtain ⟨ρ2, S2, e, hI⟩ := for_fold (enc := fun p : Int × Int => .tup [.int p.1, .int p.2]) (st := fun s (t : Int × Int) => s + t.2 * p.getD t.1.toNat 0)
    (t := tTup 2 (tCons (tName 3) (tCons (tName 4) tNil))) (b := cAug 2 gAddI (cBin gMul (cVar 4) (cIx (cVar 1) (cVar 3))))
    (fun s ρ S' => S' = S ∧ ∃ x3 x4, ρ = [some (encT ts, .brw), some (encP p, .brw), some (.int s, .frz), x3, x4]) (xs := ts) (s := 0) (fun t ht s ρ S' hi => by
      obtain ⟨rfl, x3, x4, rfl⟩ := hi
      obtain ⟨h0, h1, h2, h3⟩ := h t ht
      refine ⟨_, _, _, by walk_at "ev"; rfl, ?_, rfl, some (.int t.1, .frz), some (.int t.2, .frz), rfl⟩
      unfold encP
      walk_at "ev"
      rw [at_pt h0 h1]
      walk_at "ev"
      rw [gMul_int (.inl (by omega))]
      walk_at "ev") ⟨rfl, none, none, rfl⟩
  obtain ⟨rfl, x3, x4, rfl⟩ := hI
  unfold encT encP at e
  rw [e]
  walk_at "ev"
  rfl
theorem law_sum_ok {ts : Tm} {p : List Int} (S : Store) (h : TOk p.length ts) : m_law_sum [encT ts, encP p] S = some ((.int (tsum ts p), .frz), S) := by
  unfold m_law_sum
  rw [cFn_run (by rfl)]
  show fin (c_law_sum [some (encT ts, .brw), some (encP p, .brw), none, none, none] S) = _
  unfold c_law_sum encT encP
  walk_at "ev"
  obtain ⟨ρ2, S2, e, hI⟩ := for_fold (enc := fun p : Int × Int => .tup [.int p.1, .int p.2]) (st := fun s (t : Int × Int) => s + t.2 * p.getD t.1.toNat 0)
    (t := tTup 2 (tCons (tName 3) (tCons (tName 4) tNil))) (b := cAsg (tName 2) (cBin gAdd (cVar 2) (cBin gMul (cVar 4) (cIx (cVar 1) (cVar 3)))))
    (fun s ρ S' => S' = S ∧ ∃ x3 x4, ρ = [some (encT ts, .brw), some (encP p, .brw), some (.int s, .frz), x3, x4]) (xs := ts) (s := 0) (fun t ht s ρ S' hi => by
      obtain ⟨rfl, x3, x4, rfl⟩ := hi
      obtain ⟨h0, h1, h2, h3⟩ := h t ht
      refine ⟨_, _, _, by walk_at "ev"; rfl, ?_, rfl, some (.int t.1, .frz), some (.int t.2, .frz), rfl⟩
      unfold encP
      walk_at "ev"
      rw [at_pt h0 h1]
      walk_at "ev"
      rw [gMul_int (.inl (by omega))]
      walk_at "ev") ⟨rfl, none, none, rfl⟩
  obtain ⟨rfl, x3, x4, rfl⟩ := hI
  unfold encT encP at e
  rw [e]
  walk_at "ev"
  rfl

def GOk (n : Nat) (gs : List Gl) : Prop := gs.length ≤ 1000 ∧ ∀ g ∈ gs, TOk n g.ts
def gains (gs : List Gl) (p : List Int) : List Int := gs.map fun g => tsum g.ts p + g.c
theorem values_at_ok {gs : List Gl} {p : List Int} (S : Store) (h : GOk p.length gs) : m_values_at [encGs gs, encP p] S = some ((encP (gains gs p), .own), S) := by
  unfold m_values_at
  rw [cFn_run (by rfl)]
  show fin (c_values_at [some (encGs gs, .brw), some (encP p, .brw), none, none, none] S) = _
  unfold c_values_at encGs
  walk_at "ev"
  rw [if_pos (size_ok (by have := h.1; omega))]
  rw [lc_map (g := fun g : Gl => .int (tsum g.ts p + g.c)) (enc := encG) fun g hg => ⟨[some (encGs gs, .brw), some (encP p, .brw), some (.str (snse g.mx), .frz), some (encT g.ts, .frz), some (.int g.c, .frz)], .own, by
      unfold encG encT; walk_at "ev"; rfl, rfl, by
      walk_at "ev"
      rw [terms_sum_ok S (h.2 g hg)]
      walk_at "ev", rfl⟩]
  walk_at "ev"
  unfold gains encP
  rw [List.map_map]
  rfl
theorem law_gains_ok {gs : List Gl} {p : List Int} (S : Store) (h : GOk p.length gs) : m_law_gains [encGs gs, encP p] S = some ((encP (gains gs p), .own), S) := by
  unfold m_law_gains
  rw [cFn_run (by rfl)]
  show fin (c_law_gains [some (encGs gs, .brw), some (encP p, .brw), none, none, none] S) = _
  unfold c_law_gains encGs
  walk_at "ev"
  rw [if_pos (size_ok (by have := h.1; omega))]
  rw [lc_map (g := fun g : Gl => .int (tsum g.ts p + g.c)) (enc := encG) fun g hg => ⟨[some (encGs gs, .brw), some (encP p, .brw), some (.str (snse g.mx), .frz), some (encT g.ts, .frz), some (.int g.c, .frz)], .own, by
      unfold encG encT; walk_at "ev"; rfl, rfl, by
      walk_at "ev"
      rw [law_sum_ok S (h.2 g hg)]
      walk_at "ev", rfl⟩]
  walk_at "ev"
  unfold gains encP
  rw [List.map_map]
  rfl
def negT (ts : Tm) : Tm := ts.map fun t => (t.1, -t.2)
theorem negated_terms_ok {ts : Tm} (S : Store) (hl : ts.length ≤ 1000) : m_negated_terms [encT ts] S = some ((encT (negT ts), .own), S) := by
  unfold m_negated_terms
  rw [cFn_run (by rfl)]
  show fin (c_negated_terms [some (encT ts, .brw), none, none] S) = _
  unfold c_negated_terms encT
  walk_at "ev"
  rw [if_pos (size_ok (by omega))]
  rw [lc_map (g := fun t : Int × Int => .tup [.int t.1, .int (-t.2)]) (enc := fun t : Int × Int => .tup [.int t.1, .int t.2]) fun t ht => ⟨[some (encT ts, .brw), some (.int t.1, .frz), some (.int t.2, .frz)], .own, by
      unfold encT; walk_at "ev", rfl, by
      walk_at "ev"
      rw [if_pos (size_ok (by decide))], rfl⟩]
  walk_at "ev"
  unfold negT
  rw [List.map_map]
  rfl
theorem snse_eq (b : Bool) : gEq false (.str (snse b)) (.str "max") = some (.bl b) := by
  cases b <;> rw [gEq_str (by decide +kernel) (by decide +kernel)] <;> rfl
theorem snse_eq2 (b : Bool) : gEq false (.str (snse b)) (.str "min") = some (.bl (!b)) := by
  cases b <;> rw [gEq_str (by decide +kernel) (by decide +kernel)] <;> rfl
def rowOf (g : Gl) (v less : Int) : W := .tup [.str "row", if g.mx then encT (negT g.ts) else encT g.ts, .int (if g.mx then g.c - v - less else v - g.c - less)]
theorem at_least_row_ok {g : Gl} {v : Int} (S : Store) (hl : g.ts.length ≤ 1000) : m_at_least_row [encG g, .int v] S = some ((rowOf g v 0, .own), S) := by
  unfold m_at_least_row
  rw [cFn_run (by rfl)]
  show fin (c_at_least_row [some (encG g, .brw), some (.int v, .brw), none, none, none] S) = _
  unfold c_at_least_row encG
  walk_at "ev"
  have hm : ∀ ts, (encT ts).mut = false := fun _ => rfl
  simp only [md_im _ (hm _), sto_im _ (hm _), if_true]
  try (walk_at "ev")
  rw [snse_eq]
  walk_at "ev"
  obtain ⟨mx, ts, c⟩ := g
  cases mx with
  | true =>
    walk_at "ev"
    rw [negated_terms_ok S hl]
    walk_at "ev"
    rw [if_pos (size_ok (by decide))]
    unfold rowOf
    walk_at "ev"
    rw [Int.sub_zero]
  | false =>
    walk_at "ev"
    rw [if_pos (size_ok (by decide))]
    unfold rowOf
    walk_at "ev"
    rw [Int.sub_zero]
theorem rowOf_less (g : Gl) (v : Int) : rowOf g v 1 = .tup [.str "row", if g.mx then encT (negT g.ts) else encT g.ts, .int ((if g.mx then g.c - v - 0 else v - g.c - 0) - 1)] := by
  unfold rowOf
  cases g.mx <;> simp
theorem better_row_ok {g : Gl} {v : Int} (S : Store) (hl : g.ts.length ≤ 1000) : m_better_row [encG g, .int v] S = some ((rowOf g v 1, .own), S) := by
  unfold m_better_row
  rw [cFn_run (by rfl)]
  show fin (c_better_row [some (encG g, .brw), some (.int v, .brw), none] S) = _
  unfold c_better_row
  have hg : (encG g).mut = false := rfl
  walk_at "ev"
  rw [at_least_row_ok S hl]
  unfold rowOf
  walk_at "ev"
  rw [if_pos (size_ok (by decide))]
  walk_at "ev"
  have e := rowOf_less g v
  unfold rowOf at e
  rw [e]
theorem law_row_of_ok {g : Gl} {v less : Int} (S : Store) (hl : g.ts.length ≤ 1000) : m_law_row_of [encG g, .int v, .int less] S = some ((rowOf g v less, .own), S) := by
  unfold m_law_row_of
  rw [cFn_run (by rfl)]
  show fin (c_law_row_of [some (encG g, .brw), some (.int v, .brw), some (.int less, .brw), none, none, none, none, none] S) = _
  unfold c_law_row_of encG
  walk_at "ev"
  have hm : ∀ ts, (encT ts).mut = false := fun _ => rfl
  simp only [md_im _ (hm _), sto_im _ (hm _), if_true]
  try (walk_at "ev")
  rw [snse_eq]
  walk_at "ev"
  obtain ⟨mx, ts, c⟩ := g
  cases mx with
  | true =>
    unfold encT
    walk_at "ev"
    rw [if_pos (size_ok (by simp only at hl; omega))]
    rw [lc_map (g := fun t : Int × Int => .tup [.int t.1, .int (-t.2)]) (enc := fun t : Int × Int => .tup [.int t.1, .int t.2]) fun t ht => ⟨[some (.tup [.str (snse true), encT ts, .int c], .brw), some (.int v, .brw), some (.int less, .brw), some (.str (snse true), .frz), some (encT ts, .frz), some (.int c, .frz), some (.int t.1, .frz), some (.int t.2, .frz)], .own, by
        unfold encT; walk_at "ev", rfl, by
        walk_at "ev"
        rw [if_pos (size_ok (by decide)), Int.zero_sub], rfl⟩]
    walk_at "ev"
    rw [if_pos (size_ok (by decide))]
    unfold rowOf negT encT
    walk_at "ev"
    rw [List.map_map]
    rfl
  | false =>
    walk_at "ev"
    rw [if_pos (size_ok (by decide))]
    unfold rowOf
    walk_at "ev"

/-! ### covers -/
def dG : Gl := ⟨true, [], 0⟩
def badAt (gs : List Gl) (f s : List Int) (k : Nat) : Bool := if (gs.getD k dG).mx then decide (f.getD k 0 < s.getD k 0) else decide (s.getD k 0 < f.getD k 0)
def cov (gs : List Gl) (f s : List Int) : Bool := !(List.range gs.length).any (badAt gs f s)
theorem enum_range {A : Type} (f : A → W) (d : A) (gs : List A) : enumW (gs.map f) = (List.range gs.length).map fun k => .tup [.int ((k : Nat) : Int), f (gs.getD k d)] := by
  refine List.ext_getElem? fun i => ?_
  rw [enumW_get, List.getElem?_map, List.getElem?_map]
  by_cases h : i < gs.length
  · rw [List.getElem?_eq_getElem h, List.getElem?_range h]
    simp only [Option.map_some]
    rw [List.getD_eq_getElem?_getD, List.getElem?_eq_getElem h]
    rfl
  · rw [List.getElem?_eq_none (by omega), List.getElem?_eq_none (by simpa using Nat.le_of_not_lt h)]
    rfl
theorem at_nat {p : List Int} {k : Nat} (h : k < p.length) : atI (p.map W.int) ((k : Nat) : Int) = some (.int (p.getD k 0)) := by
  rw [at_pt (by omega) (by omega)]
  simp
theorem at_g {gs : List Gl} {k : Nat} (h : k < gs.length) : atI (gs.map encG) ((k : Nat) : Int) = some (encG (gs.getD k dG)) := by
  rw [atI_of (by omega), List.getElem?_map]
  simp only [Int.toNat_natCast]
  rw [List.getElem?_eq_getElem h, List.getD_eq_getElem?_getD, List.getElem?_eq_getElem h]
  rfl
theorem okP (p : List Int) (n : Nat) : okD (encP p) (n + 1) = true := okD_tup fun w hw => by
  obtain ⟨i, _, rfl⟩ := List.mem_map.mp hw
  rfl
theorem okT (ts : Tm) (n : Nat) : okD (encT ts) (n + 2) = true := okD_tup fun w hw => by
  obtain ⟨i, _, rfl⟩ := List.mem_map.mp hw
  exact okD_tup fun w hw => by
    simp only [List.mem_cons, List.not_mem_nil, or_false] at hw
    rcases hw with rfl | rfl <;> rfl
theorem okRow (g : Gl) (v less : Int) : okD (rowOf g v less) 64 = true := okD_tup fun w hw => by
  simp only [List.mem_cons, List.not_mem_nil, or_false] at hw
  rcases hw with rfl | rfl | rfl
  · decide +kernel
  · split
    · exact okT _ 61
    · exact okT _ 61
  · rfl
end K75
namespace K75
open PySem PySem.Spec PyProof.Rows L2 Mp
local macro_rules | `(tactic| walk_at "ev") => `(tactic| simp -implicitDefEqProofs only [q_lit, q_nil, q_cons, q_var, q_bin, q_tup, q_lst, q_box, q_neg, q_notT, q_andT, q_orT, q_notV, q_andV, q_orV, q_if, q_B, q_ix, q_call, q_bi, q_sl, q_oNone, q_oSome, q_dk, q_dt, q_yesT, q_get2,
  q_lc, q_iExp, q_iVar, q_iEnV, items_tup, items_lst, q_seq, q_skip, q_ret, q_retV, q_ifS, q_asg, q_drop, q_for, q_tName, q_tTup, q_tCons, q_tNil, q_fz, q_frzE, q_app, q_aug, q_setIx, q_wipe0, q_wipe, fin_rt, fin_nx,
  mut_non, mut_bl, mut_int, mut_str, mut_tup, mut_lst, mut_dk, mut_dt, mut_scr, mut_cel, sto_non, sto_bl, sto_int, sto_str, sto_tup, sto_scr, sto_cel, sto_own, sto_frz, md_non, md_bl, md_int, md_str, md_tup, md_lst, md_dk, md_dt, md_scr, md_cel,
  gAdd_int, gAddI_int, gSub_int, gLt_int, gLe_int, gGt_int, gGe_int, gInt_int, gInt_bl, gLen_tup, gLen_lst, gTuple_lst, gTuple_tup, gList_scr, gList_lst, gList_tup, gIx_tup, gIx_lst, gEq_int, gEq_bl, atI_0, atI_1, atI_2,
  bnd_some, Option.map_some, Option.bind_some, List.getElem?_cons_succ, List.getElem?_cons_zero, List.set_cons_succ, List.set_cons_zero, List.foldl_cons, List.foldl_nil, List.map_cons, List.map_nil, List.length_map, List.length_cons, List.length_nil, List.all_cons, List.all_nil, Bool.and_true, Bool.true_and, and_true, true_and, false_and, and_false,
  reduceCtorEq, if_false, if_true, ite_true, ite_false, Bool.false_eq_true])

theorem seq_ret {c : CT} {b : Bool} {w : W} {g : CS} {ρ : Mp.Env} {S S2 : Store} (h : c ρ S = some (b, S2)) (hw : sto (w, .frz) = true) : cSeq (cIfS c (cRet (cLit w)) cSkip) g ρ S = if b = true then some (.rt (w, .frz) S2) else g ρ S2 := by
  rw [q_seq, q_ifS, h]
  cases b with
  | true => simp only [bnd_some, if_true, q_ret, q_lit, hw]
  | false => simp only [bnd_some, Bool.false_eq_true, if_false, q_skip]
theorem if_ret {c : CT} {b : Bool} {w : W} {ρ : Mp.Env} {S S2 : Store} (h : c ρ S = some (b, S2)) (hw : sto (w, .frz) = true) : cIfS c (cRet (cLit w)) cSkip ρ S = if b = true then some (.rt (w, .frz) S2) else some (.nx ρ S2) := by
  rw [q_ifS, h]
  cases b with
  | true => simp only [bnd_some, if_true, q_ret, q_lit, hw]
  | false => simp only [bnd_some, Bool.false_eq_true, if_false, q_skip]
theorem rng_ok {f : CE} {ρ : Mp.Env} {S S2 : Store} {n : Nat} {m : Md} (h : f ρ S = some ((.int ((n : Nat) : Int), m), S2)) (hn : n ≤ 1000000) : iRange1 f ρ S = some ((List.range n).map fun k : Nat => W.int ((k : Nat) : Int), S2) := by
  rw [q_range1, h]
  dsimp only [bnd_some]
  rw [if_pos (by omega)]
  unfold rangeW
  simp only [Int.toNat_natCast, Int.zero_add]
theorem covers_ok {gs : List Gl} {f s : List Int} (S : Store) (hf : f.length = gs.length) (hs : s.length = gs.length) : m_covers [encGs gs, encP f, encP s] S = some ((.bl (cov gs f s), .frz), S) := by
  unfold m_covers
  rw [cFn_run (by rfl)]
  show fin (c_covers [some (encGs gs, .brw), some (encP f, .brw), some (encP s, .brw), none, none] S) = _
  unfold c_covers encGs
  walk_at "ev"
  rw [enum_range encG dG gs]
  have key := for_search (S := S) (t := tTup 2 (tCons (tName 3) (tCons (tName 4) tNil))) (b := cSeq (cIfS ((cAndT (cB (cBin (gEq false) (cIx (cVar 4) (cLit (.int 0))) (cLit (.str "max")))) (cB (cBin gLt (cIx (cVar 1) (cVar 3)) (cIx (cVar 2) (cVar 3)))))) (cRet (cLit (.bl false))) (cSkip))
  (cIfS ((cAndT (cB (cBin (gEq false) (cIx (cVar 4) (cLit (.int 0))) (cLit (.str "min")))) (cB (cBin gGt (cIx (cVar 1) (cVar 3)) (cIx (cVar 2) (cVar 3)))))) (cRet (cLit (.bl false))) (cSkip)))
    (enc := fun k : Nat => .tup [.int ((k : Nat) : Int), encG (gs.getD k dG)]) (p := badAt gs f s) (r := (.bl false, .frz)) (fun ρ => ∃ x3 x4, ρ = [some (encGs gs, .brw), some (encP f, .brw), some (encP s, .brw), x3, x4]) (xs := List.range gs.length)
    (ρ := [some (encGs gs, .brw), some (encP f, .brw), some (encP s, .brw), none, none]) (fun k hk ρ hi => by
      obtain ⟨x3, x4, rfl⟩ := hi
      have hk : k < gs.length := List.mem_range.mp hk
      refine ⟨[some (encGs gs, .brw), some (encP f, .brw), some (encP s, .brw), some (.int ((k : Nat) : Int), .frz), some (encG (gs.getD k dG), .frz)], by unfold encG; walk_at "ev", ?_⟩
      have e1 := at_nat (p := f) (k := k) (by omega)
      have e2 := at_nat (p := s) (k := k) (by omega)
      unfold badAt
      generalize f.getD k 0 = fa at *
      generalize s.getD k 0 = sa at *
      generalize gs.getD k dG = g
      obtain ⟨mx, ts, c⟩ := g
      rw [seq_ret (b := mx && decide (fa < sa)) (S2 := S) (by unfold encG encP; walk_at "ev"; rw [snse_eq, e1, e2]; cases mx <;> rfl) rfl, if_ret (b := !mx && decide (sa < fa)) (S2 := S) (by unfold encG encP; walk_at "ev"; rw [snse_eq2, e1, e2]; cases mx <;> rfl) rfl]
      cases mx with
      | true =>
        by_cases h : fa < sa
        · exact .inl ⟨by simp [h], by simp [h]⟩
        · exact .inr ⟨by simp [h], _, by simp only [h, decide_false, Bool.and_false, Bool.not_true, Bool.false_and, Bool.false_eq_true, if_false]; rfl, _, _, rfl⟩
      | false =>
        by_cases h : sa < fa
        · exact .inl ⟨by simp [h], by simp [h]⟩
        · exact .inr ⟨by simp [h], _, by simp only [h, decide_false, Bool.and_false, Bool.not_true, Bool.false_and, Bool.false_eq_true, if_false]; rfl, _, _, rfl⟩) ⟨none, none, rfl⟩
  unfold cov
  unfold encGs at key
  rcases key with ⟨h1, h2⟩ | ⟨h1, ρ2, h2, _⟩
  · rw [h1, h2]
    walk_at "ev"
    rfl
  · rw [h1, h2]
    walk_at "ev"
    rfl
theorem law_covers_ok {gs : List Gl} {f s : List Int} (S : Store) (hg : gs.length ≤ 1000) (hf : f.length = gs.length) (hs : s.length = gs.length) : m_law_covers [encGs gs, encP f, encP s] S = some ((.bl (cov gs f s), .frz), S) := by
  unfold m_law_covers
  rw [cFn_run (by rfl)]
  show fin (c_law_covers [some (encGs gs, .brw), some (encP f, .brw), some (encP s, .brw), none] S) = _
  unfold c_law_covers encGs
  walk_at "ev"
  rw [rng_ok (n := gs.length) (S2 := S) (m := .own) (by walk_at "ev") (by omega)]
  walk_at "ev"
  have key := for_search (S := S) (t := tName 3) (b := cSeq (cIfS ((cAndT (cB (cBin (gEq false) (cIx (cIx (cVar 0) (cVar 3)) (cLit (.int 0))) (cLit (.str "max")))) (cB (cBin gLt (cIx (cVar 1) (cVar 3)) (cIx (cVar 2) (cVar 3)))))) (cRet (cLit (.bl false))) (cSkip))
  (cIfS ((cAndT (cB (cBin (gEq false) (cIx (cIx (cVar 0) (cVar 3)) (cLit (.int 0))) (cLit (.str "min")))) (cB (cBin gGt (cIx (cVar 1) (cVar 3)) (cIx (cVar 2) (cVar 3)))))) (cRet (cLit (.bl false))) (cSkip)))
    (enc := fun k : Nat => .int ((k : Nat) : Int)) (p := badAt gs f s) (r := (.bl false, .frz)) (fun ρ => ∃ x3, ρ = [some (encGs gs, .brw), some (encP f, .brw), some (encP s, .brw), x3]) (xs := List.range gs.length)
    (ρ := [some (encGs gs, .brw), some (encP f, .brw), some (encP s, .brw), none]) (fun k hk ρ hi => by
      obtain ⟨x3, rfl⟩ := hi
      have hk : k < gs.length := List.mem_range.mp hk
      refine ⟨[some (encGs gs, .brw), some (encP f, .brw), some (encP s, .brw), some (.int ((k : Nat) : Int), .frz)], by walk_at "ev", ?_⟩
      have e1 := at_nat (p := f) (k := k) (by omega)
      have e2 := at_nat (p := s) (k := k) (by omega)
      unfold badAt
      generalize f.getD k 0 = fa at *
      generalize s.getD k 0 = sa at *
      have e3 := at_g hk
      generalize gs.getD k dG = g at e3
      obtain ⟨mx, ts, c⟩ := g
      have e3 : atI (gs.map encG) ((k : Nat) : Int) = some (.tup [.str (snse mx), encT ts, .int c]) := e3
      rw [seq_ret (b := mx && decide (fa < sa)) (S2 := S) (by unfold encGs encP; walk_at "ev"; rw [e3]; walk_at "ev"; rw [snse_eq, e1, e2]; cases mx <;> rfl) rfl, if_ret (b := !mx && decide (sa < fa)) (S2 := S) (by unfold encGs encP; walk_at "ev"; rw [e3]; walk_at "ev"; rw [snse_eq2, e1, e2]; cases mx <;> rfl) rfl]
      cases mx with
      | true =>
        by_cases h : fa < sa
        · exact .inl ⟨by simp [h], by simp [h]⟩
        · exact .inr ⟨by simp [h], _, by simp only [h, decide_false, Bool.and_false, Bool.not_true, Bool.false_and, Bool.false_eq_true, if_false]; rfl, _, rfl⟩
      | false =>
        by_cases h : sa < fa
        · exact .inl ⟨by simp [h], by simp [h]⟩
        · exact .inr ⟨by simp [h], _, by simp only [h, decide_false, Bool.and_false, Bool.not_true, Bool.false_and, Bool.false_eq_true, if_false]; rfl, _, rfl⟩) ⟨none, rfl⟩
  unfold cov
  unfold encGs at key
  rcases key with ⟨h1, h2⟩ | ⟨h1, ρ2, h2, _⟩
  · rw [h1, h2]
    walk_at "ev"
    rfl
  · rw [h1, h2]
    walk_at "ev"
    rfl
theorem beats_ok {gs : List Gl} {f s : List Int} (S : Store) (hf : f.length = gs.length) (hs : s.length = gs.length) : ∃ m, m_beats [encGs gs, encP f, encP s] S = some ((.bl (cov gs f s && !eqW (encP f) (encP s)), m), S) := by
  unfold m_beats
  rw [cFn_run (by rfl)]
  show ∃ m, fin (c_beats [some (encGs gs, .brw), some (encP f, .brw), some (encP s, .brw)] S) = _
  unfold c_beats
  walk_at "ev"
  rw [covers_ok S hf hs]
  walk_at "ev"
  cases cov gs f s with
  | true =>
    refine ⟨.own, ?_⟩
    have e : ∀ p, gTuple S [encP p] = some (encP p) := fun _ => rfl
    walk_at "ev"
    rw [e f]
    walk_at "ev"
    rw [e s]
    walk_at "ev"
    rw [gEq_ok (okP f 63) (okP s 63)]
    walk_at "ev"
    rw [Bool.true_bne]
  | false => exact ⟨.own, by walk_at "ev"; rfl⟩
theorem same_ok (x y : Bool) (S : Store) : ∃ m, m_law_same [.bl x, .bl y] S = some ((.bl (x == y), m), S) := by
  unfold m_law_same
  rw [cFn_run (by rfl)]
  show ∃ m, fin (c_law_same [some (.bl x, .brw), some (.bl y, .brw)] S) = _
  unfold c_law_same
  refine ⟨.own, ?_⟩
  have e : gIsi S [.bl x, .ty "bool"] = some (.bl true) := by
    unfold gIsi tyName
    have : kitB "bool" "bool" = some true := by decide +kernel
    simp only [this]
    rfl
  walk_at "ev"
  rw [e]
  walk_at "ev"
  rw [Bool.false_bne]
end K75
namespace K75
open PySem PySem.Spec PyProof.Rows L2 Mp
local macro_rules | `(tactic| walk_at "ev") => `(tactic| simp -implicitDefEqProofs only [q_lit, q_nil, q_cons, q_var, q_bin, q_tup, q_lst, q_box, q_neg, q_notT, q_andT, q_orT, q_notV, q_andV, q_orV, q_if, q_B, q_ix, q_call, q_bi, q_sl, q_oNone, q_oSome, q_dk, q_dt, q_yesT, q_get2,
  q_lc, q_iExp, q_iVar, q_iEnV, items_tup, items_lst, q_seq, q_skip, q_ret, q_retV, q_ifS, q_asg, q_drop, q_for, q_tName, q_tTup, q_tCons, q_tNil, q_fz, q_frzE, q_app, q_aug, q_setIx, q_wipe0, q_wipe, fin_rt, fin_nx,
  mut_non, mut_bl, mut_int, mut_str, mut_tup, mut_lst, mut_dk, mut_dt, mut_scr, mut_cel, sto_non, sto_bl, sto_int, sto_str, sto_tup, sto_scr, sto_cel, sto_own, sto_frz, md_non, md_bl, md_int, md_str, md_tup, md_lst, md_dk, md_dt, md_scr, md_cel,
  gAdd_int, gAddI_int, gSub_int, gLt_int, gLe_int, gGt_int, gGe_int, gInt_int, gInt_bl, gLen_tup, gLen_lst, gTuple_lst, gTuple_tup, gList_scr, gList_lst, gList_tup, gIx_tup, gIx_lst, gEq_int, gEq_bl, atI_0, atI_1, atI_2,
  bnd_some, Option.map_some, Option.bind_some, List.getElem?_cons_succ, List.getElem?_cons_zero, List.set_cons_succ, List.set_cons_zero, List.foldl_cons, List.foldl_nil, List.map_cons, List.map_nil, List.length_map, List.length_cons, List.length_nil, List.all_cons, List.all_nil, Bool.and_true, Bool.true_and, and_true, true_and, false_and, and_false,
  reduceCtorEq, if_false, if_true, ite_true, ite_false, Bool.false_eq_true])

theorem draw_eq : m_law_draw = mDraw := rfl
theorem tape_eq : m_law_tape = mTape := rfl
/-- terms as the law draws them -/
def TOk3 (n : Nat) (ts : Tm) : Prop := ts.length ≤ n ∧ ∀ t ∈ ts, 0 ≤ t.1 ∧ t.1 < n ∧ -3 ≤ t.2 ∧ t.2 ≤ 3
theorem law_terms_ok {n many : Nat} {S : Store} (tp : TapeAt n S) (hm : many ≤ 60) : ∃ ts S2, m_law_terms [.cel n, .int ((many : Nat) : Int)] S = some ((encT ts, .own), S2) ∧ TOk3 many ts ∧ TapeAt n S2 ∧ SameBut n S S2 := by
  unfold m_law_terms
  rw [cFn_run (by rfl)]
  show ∃ ts S2, fin (c_law_terms [some (.cel n, .brw), some (.int ((many : Nat) : Int), .brw), none, none, none] S) = _ ∧ _
  unfold c_law_terms
  walk_at "ev"
  rw [if_pos (size_ok (Nat.zero_le _))]
  walk_at "ev"
  rw [rng_ok (n := many) (S2 := S) (m := .brw) (by walk_at "ev") (by omega)]
  walk_at "ev"
  obtain ⟨ρ2, S2, e, ts, x3, x4, rfl, hl, hts, tp2, sb⟩ := for_inv (ws := (List.range many).map fun k : Nat => W.int ((k : Nat) : Int)) (t := tName 3) (b := cSeq (cAsg (tName 4) (cBin Mp.gSub (cCall m_law_draw (cCons (cVar 0) (cCons (cLit (.int 7)) cNil))) (cLit (.int 3))))
  (cIfS (cB (cBin (gEq true) (cVar 4) (cLit (.int 0)))) (cApp 2 (cTup (cCons (cVar 3) (cCons (cVar 4) cNil)))) (cSkip)))
    (fun i ρ S2 => ∃ (ts : Tm) (x3 x4 : Option (W × Md)), ρ = [some (.cel n, .brw), some (.int ((many : Nat) : Int), .brw), some (.lst (ts.map fun p => .tup [.int p.1, .int p.2]), .own), x3, x4] ∧ ts.length ≤ i ∧ (∀ t ∈ ts, 0 ≤ t.1 ∧ t.1 < many ∧ -3 ≤ t.2 ∧ t.2 ≤ 3) ∧ TapeAt n S2 ∧ SameBut n S S2)
    (fun i w ρ S1 hw hI => by
      obtain ⟨ts, x3, x4, rfl, hl, hts, tp1, sb⟩ := hI
      have hi : i < many := by
        have := (List.getElem?_eq_some_iff.mp hw).1
        simpa using this
      rw [List.getElem?_map, List.getElem?_range hi] at hw
      injection hw with hw
      subst hw
      obtain ⟨d, S2, e, hd0, hd1, tp2, sb2⟩ := draw_ok (many := 7) tp1 (by decide) (by decide)
      rw [draw_eq]
      by_cases hd : d - 3 = 0
      · refine ⟨_, _, S2, by walk_at "ev"; rfl, by
          walk_at "ev"
          rw [e]
          walk_at "ev"
          simp only [decide_eq_true hd, Bool.bne_true, Bool.not_true, Bool.false_eq_true, if_false], ts, some (.int ((i : Nat) : Int), .frz), some (.int (d - 3), .frz), rfl, by omega, hts, tp2, sb.trans sb2⟩
      · refine ⟨_, _, S2, by walk_at "ev"; rfl, by
          walk_at "ev"
          rw [e]
          walk_at "ev"
          simp only [decide_eq_false hd, Bool.bne_false, if_true]
          rw [if_pos (size_ok (by decide))]
          walk_at "ev"
          rw [if_pos (size_lt (by omega))], ts ++ [(((i : Nat) : Int), d - 3)], some (.int ((i : Nat) : Int), .frz), some (.int (d - 3), .frz), by rw [List.map_append]; rfl, by rw [List.length_append]; simp only [List.length_singleton]; omega, fun t ht => ?_, tp2, sb.trans sb2⟩
        rcases List.mem_append.mp ht with h | h
        · exact hts t h
        · rw [List.mem_singleton.mp h]
          simp only
          omega)
    (ρ := [some (.cel n, .brw), some (.int ((many : Nat) : Int), .brw), some (.lst [], .own), none, none]) (S := S) ⟨[], none, none, rfl, Nat.le_refl _, fun _ h => (by cases h), tp, .refl⟩
  rw [e]
  walk_at "ev"
  refine ⟨ts, S2, rfl, ⟨?_, hts⟩, tp2, sb⟩
  simpa using hl
theorem snse_ix (d : Int) (h0 : 0 ≤ d) (h1 : d < 2) : atI [W.str "max", W.str "min"] d = some (.str (snse (decide (d = 0)))) := by
  have : d = 0 ∨ d = 1 := by omega
  rcases this with rfl | rfl
  · walk_at "ev"; rfl
  · walk_at "ev"; rfl
/-- goals as the law draws them -/
def GOk3 (n : Nat) (gs : List Gl) : Prop := ∀ g ∈ gs, TOk3 n g.ts ∧ -2 ≤ g.c ∧ g.c ≤ 2
theorem law_goals_ok {n many : Nat} {cnt : Int} {S : Store} (tp : TapeAt n S) (hm : many ≤ 60) (hc : 0 ≤ cnt) (hc2 : cnt ≤ 10) : ∃ gs S2, m_law_goals [.cel n, .int ((many : Nat) : Int), .int cnt] S = some ((encGs gs, .own), S2) ∧ gs.length = cnt.toNat ∧ GOk3 many gs ∧ TapeAt n S2 ∧ SameBut n S S2 := by
  obtain ⟨k, rfl⟩ : ∃ k : Nat, cnt = ((k : Nat) : Int) := ⟨cnt.toNat, by omega⟩
  unfold m_law_goals
  rw [cFn_run (by rfl)]
  show ∃ gs S2, fin (c_law_goals [some (.cel n, .brw), some (.int ((many : Nat) : Int), .brw), some (.int ((k : Nat) : Int), .brw), none, none] S) = _ ∧ _
  unfold c_law_goals
  walk_at "ev"
  rw [if_pos (size_ok (Nat.zero_le _))]
  walk_at "ev"
  rw [rng_ok (n := k) (S2 := S) (m := .brw) (by walk_at "ev") (by omega)]
  walk_at "ev"
  obtain ⟨ρ2, S2, e, gs, x4, rfl, hl, hgs, tp2, sb⟩ := for_inv (ws := (List.range k).map fun k : Nat => W.int ((k : Nat) : Int)) (t := tName 4) (b := (cApp 3 (cTup (cCons (cIx (cLst (cCons (cLit (.str "max")) (cCons (cLit (.str "min")) cNil))) (cCall m_law_draw (cCons (cVar 0) (cCons (cLit (.int 2)) cNil)))) (cCons (cCall m_law_terms (cCons (cVar 0) (cCons (cVar 1) cNil))) (cCons (cBin Mp.gSub (cCall m_law_draw (cCons (cVar 0) (cCons (cLit (.int 5)) cNil))) (cLit (.int 2))) cNil))))))
    (fun i ρ S2 => ∃ (gs : List Gl) (x4 : Option (W × Md)), ρ = [some (.cel n, .brw), some (.int ((many : Nat) : Int), .brw), some (.int ((k : Nat) : Int), .brw), some (.lst (gs.map encG), .own), x4] ∧ gs.length = i ∧ GOk3 many gs ∧ TapeAt n S2 ∧ SameBut n S S2)
    (fun i w ρ S1 hw hI => by
      obtain ⟨gs, x4, rfl, hl, hgs, tp1, sb⟩ := hI
      have hi : i < k := by
        have := (List.getElem?_eq_some_iff.mp hw).1
        simpa using this
      rw [List.getElem?_map, List.getElem?_range hi] at hw
      injection hw with hw
      subst hw
      obtain ⟨d, S2, e, hd0, hd1, tp2, sb2⟩ := draw_ok (many := 2) tp1 (by decide) (by decide)
      obtain ⟨ts, S3, e3, hts, tp3, sb3⟩ := law_terms_ok tp2 hm
      obtain ⟨c, S4, e4, hc0, hc1, tp4, sb4⟩ := draw_ok (many := 5) tp3 (by decide) (by decide)
      rw [draw_eq]
      refine ⟨_, _, S4, by walk_at "ev"; rfl, by
          walk_at "ev"
          rw [if_pos (size_ok (by decide))]
          walk_at "ev"
          rw [e]
          walk_at "ev"
          rw [snse_ix d hd0 hd1]
          walk_at "ev"
          rw [e3]
          walk_at "ev"
          rw [e4]
          walk_at "ev"
          rw [if_pos (size_ok (by decide))]
          walk_at "ev"
          rw [if_pos (size_lt (by omega))], gs ++ [⟨decide (d = 0), ts, c - 2⟩], some (.int ((i : Nat) : Int), .frz), by rw [List.map_append]; rfl, by rw [List.length_append]; simp only [List.length_singleton]; omega, fun t ht => ?_, tp4, ((sb.trans sb2).trans sb3).trans sb4⟩
      rcases List.mem_append.mp ht with h | h
      · exact hgs t h
      · rw [List.mem_singleton.mp h]
        exact ⟨hts, by simp only; omega, by simp only; omega⟩)
    (ρ := [some (.cel n, .brw), some (.int ((many : Nat) : Int), .brw), some (.int ((k : Nat) : Int), .brw), some (.lst [], .own), none]) (S := S) ⟨[], none, rfl, rfl, fun _ h => (by cases h), tp, .refl⟩
  rw [e]
  walk_at "ev"
  refine ⟨gs, S2, rfl, ?_, hgs, tp2, sb⟩
  simpa using hl
end K75
namespace K75
open PySem PySem.Spec PyProof.Rows L2 Mp
local macro_rules | `(tactic| walk_at "ev") => `(tactic| simp -implicitDefEqProofs only [q_lit, q_nil, q_cons, q_var, q_bin, q_tup, q_lst, q_box, q_neg, q_notT, q_andT, q_orT, q_notV, q_andV, q_orV, q_if, q_B, q_ix, q_call, q_bi, q_sl, q_oNone, q_oSome, q_dk, q_dt, q_yesT, q_get2,
  q_lc, q_iExp, q_iVar, q_iEnV, items_tup, items_lst, q_seq, q_skip, q_ret, q_retV, q_ifS, q_asg, q_drop, q_for, q_tName, q_tTup, q_tCons, q_tNil, q_fz, q_frzE, q_app, q_aug, q_setIx, q_wipe0, q_wipe, fin_rt, fin_nx,
  mut_non, mut_bl, mut_int, mut_str, mut_tup, mut_lst, mut_dk, mut_dt, mut_scr, mut_cel, sto_non, sto_bl, sto_int, sto_str, sto_tup, sto_scr, sto_cel, sto_own, sto_frz, md_non, md_bl, md_int, md_str, md_tup, md_lst, md_dk, md_dt, md_scr, md_cel,
  gAdd_int, gAddI_int, gSub_int, gLt_int, gLe_int, gGt_int, gGe_int, gInt_int, gInt_bl, gLen_tup, gLen_lst, gTuple_lst, gTuple_tup, gList_scr, gList_lst, gList_tup, gIx_tup, gIx_lst, gEq_int, gEq_bl, atI_0, atI_1, atI_2,
  bnd_some, Option.map_some, Option.bind_some, List.getElem?_cons_succ, List.getElem?_cons_zero, List.set_cons_succ, List.set_cons_zero, List.foldl_cons, List.foldl_nil, List.map_cons, List.map_nil, List.length_map, List.length_cons, List.length_nil, List.all_cons, List.all_nil, Bool.and_true, Bool.true_and, and_true, true_and, false_and, and_false,
  reduceCtorEq, if_false, if_true, ite_true, ite_false, Bool.false_eq_true])

/-! ### joint -/
def sg (mx : Bool) (k : Int) : Int := if mx then k else -k
def stp (mx : Bool) (F : Int → Int) (t : Int × Int) : Int → Int := fun u => if u = t.1 then F t.1 + sg mx t.2 else F u
def stpG (F : Int → Int) (g : Gl) : Int → Int := g.ts.foldl (stp g.mx) F
def joint (gs : List Gl) : Int → Int := gs.foldl stpG fun _ => 0
theorem dget_enc (F : Int → Int) (v : Int) : ∀ ks : List Int, dGet (ks.map fun u => ((Sum.inl u : Key), W.int (F u))) (.inl v) = if v ∈ ks then some (.int (F v)) else none
  | [] => rfl
  | k :: ks => by
    have ih := dget_enc F v ks
    unfold dGet at *
    rw [List.map_cons, List.find?_cons]
    by_cases h : k = v
    · subst h
      simp
    · have h2 : ¬ v = k := fun e => h e.symm
      have h3 : ((Sum.inl k : Key) = Sum.inl v) = False := eq_false fun e => h (Sum.inl.inj e)
      simp only [h3, decide_false]
      rw [ih]
      simp [h2]
theorem dput_enc (F : Int → Int) (v x : Int) (ks : List Int) : dPut (ks.map fun u => ((Sum.inl u : Key), W.int (F u))) (.inl v) (.int x) = (if v ∈ ks then ks else ks ++ [v]).map fun u => ((Sum.inl u : Key), W.int (if u = v then x else F u)) := by
  unfold dPut
  have e : ((ks.map fun u => ((Sum.inl u : Key), W.int (F u))).any fun kv => decide (kv.1 = Sum.inl v)) = decide (v ∈ ks) := by
    rw [Bool.eq_iff_iff, List.any_eq_true, decide_eq_true_eq]
    constructor
    · rintro ⟨kv, h, h2⟩
      obtain ⟨u, hu, rfl⟩ := List.mem_map.mp h
      have h3 : (Sum.inl u : Key) = Sum.inl v := of_decide_eq_true h2
      cases h3
      exact hu
    · intro h
      exact ⟨_, List.mem_map.mpr ⟨v, h, rfl⟩, decide_eq_true rfl⟩
  rw [e]
  by_cases h : v ∈ ks
  · rw [if_pos h, if_pos (decide_eq_true h), List.map_map]
    refine List.map_congr_left fun u _ => ?_
    by_cases h2 : u = v
    · subst h2
      simp
    · have h3 : ¬ (Sum.inl u : Key) = Sum.inl v := fun e => h2 (Sum.inl.inj e)
      simp only [Function.comp, if_neg h3, if_neg h2]
  · rw [if_neg h, if_neg (by simpa using h), List.map_append]
    congr 1
    · refine List.map_congr_left fun u hu => ?_
      have h2 : ¬ u = v := fun e => h (e ▸ hu)
      simp only [if_neg h2]
    · simp
theorem set_dk {ρ : Mp.Env} {S : Store} {i : Nat} {kvs : List (Key × W)} {v : Int} {w : W} (hr : ρ[i]? = some (some (.dk kvs, .own))) (hl : kvs.length < sizeLine) : setAt ρ S i (.int v) w = some (.nx (ρ.set i (some (.dk (dPut kvs (.inl v) w), .own))) S) := by
  unfold setAt
  rw [hr]
  simp only
  unfold dkPut keyOf
  simp only [if_pos hl, Option.map_some]
theorem set_lst {ρ : Mp.Env} {S : Store} {i : Nat} {ws : List W} {v : Int} {w : W} (hr : ρ[i]? = some (some (.lst ws, .own))) (h0 : 0 ≤ v) (h1 : v < ws.length) : setAt ρ S i (.int v) w = some (.nx (ρ.set i (some (.lst (ws.set v.toNat w), .own))) S) := by
  unfold setAt
  rw [hr]
  simp only
  unfold ixN
  rw [if_pos h0, if_pos h1]
  rfl
/-- strictly rising lists of the same members are the same -/
theorem rise_eq : ∀ {xs ys : List Int}, xs.Pairwise (· < ·) → ys.Pairwise (· < ·) → (∀ z, z ∈ xs ↔ z ∈ ys) → xs = ys
  | [], [], _, _, _ => rfl
  | [], y :: ys, _, _, h => absurd ((h y).mpr List.mem_cons_self) List.not_mem_nil
  | x :: xs, [], _, _, h => absurd ((h x).mp List.mem_cons_self) List.not_mem_nil
  | x :: xs, y :: ys, hx, hy, h => by
    obtain ⟨hx1, hx2⟩ := List.pairwise_cons.mp hx
    obtain ⟨hy1, hy2⟩ := List.pairwise_cons.mp hy
    have e : x = y := by
      rcases List.mem_cons.mp ((h x).mp List.mem_cons_self) with e | e
      · exact e
      · rcases List.mem_cons.mp ((h y).mpr List.mem_cons_self) with e2 | e2
        · exact e2.symm
        · have := hx1 y e2
          have := hy1 x e
          omega
    subst e
    congr 1
    refine rise_eq hx2 hy2 fun z => ⟨fun hz => ?_, fun hz => ?_⟩
    · rcases List.mem_cons.mp ((h z).mp (List.mem_cons_of_mem _ hz)) with e | e
      · have := hx1 z hz; omega
      · exact e
    · rcases List.mem_cons.mp ((h z).mpr (List.mem_cons_of_mem _ hz)) with e | e
      · have := hy1 z hz; omega
      · exact e
theorem rise_len : ∀ {xs : List Int} {a b : Int}, xs.Pairwise (· < ·) → (∀ x ∈ xs, a ≤ x ∧ x < b) → a ≤ b → (xs.length : Int) ≤ b - a
  | [], a, b, _, _, h => by simp only [List.length_nil]; omega
  | x :: xs, a, b, hp, h, hab => by
    obtain ⟨h1, h2⟩ := List.pairwise_cons.mp hp
    obtain ⟨h3, h4⟩ := h x List.mem_cons_self
    have := rise_len (a := x + 1) (b := b) h2 (fun z hz => ⟨by have := h1 z hz; omega, (h z (List.mem_cons_of_mem _ hz)).2⟩) (by omega)
    rw [List.length_cons]
    omega
theorem rise_sort {ks : List Int} (h : ks.Nodup) : (sortI ks).Pairwise (· < ·) := by
  have h1 := sortI_sorted ks
  have h2 : (sortI ks).Nodup := (sortI_perm ks).nodup_iff.mpr h
  exact (List.pairwise_and_iff.mpr ⟨h1, h2⟩).imp fun ⟨a, b⟩ => by omega
theorem range_rise (n : Nat) : ((List.range n).map fun k : Nat => ((k : Nat) : Int)).Pairwise (· < ·) := by
  rw [List.pairwise_map]
  exact List.pairwise_lt_range.imp fun h => by omega
end K75
namespace K75
open PySem PySem.Spec PyProof.Rows L2 Mp
local macro_rules | `(tactic| walk_at "ev") => `(tactic| simp -implicitDefEqProofs only [q_lit, q_nil, q_cons, q_var, q_bin, q_tup, q_lst, q_box, q_neg, q_notT, q_andT, q_orT, q_notV, q_andV, q_orV, q_if, q_B, q_ix, q_call, q_bi, q_sl, q_oNone, q_oSome, q_dk, q_dt, q_yesT, q_get2,
  q_lc, q_iExp, q_iVar, q_iEnV, items_tup, items_lst, q_seq, q_skip, q_ret, q_retV, q_ifS, q_asg, q_drop, q_for, q_tName, q_tTup, q_tCons, q_tNil, q_fz, q_frzE, q_app, q_aug, q_setIx, q_wipe0, q_wipe, fin_rt, fin_nx,
  mut_non, mut_bl, mut_int, mut_str, mut_tup, mut_lst, mut_dk, mut_dt, mut_scr, mut_cel, sto_non, sto_bl, sto_int, sto_str, sto_tup, sto_scr, sto_cel, sto_own, sto_frz, md_non, md_bl, md_int, md_str, md_tup, md_lst, md_dk, md_dt, md_scr, md_cel,
  gAdd_int, gAddI_int, gSub_int, gLt_int, gLe_int, gGt_int, gGe_int, gInt_int, gInt_bl, gLen_tup, gLen_lst, gTuple_lst, gTuple_tup, gList_scr, gList_lst, gList_tup, gIx_tup, gIx_lst, gEq_int, gEq_bl, atI_0, atI_1, atI_2,
  bnd_some, Option.map_some, Option.bind_some, List.getElem?_cons_succ, List.getElem?_cons_zero, List.set_cons_succ, List.set_cons_zero, List.foldl_cons, List.foldl_nil, List.map_cons, List.map_nil, List.length_map, List.length_cons, List.length_nil, List.all_cons, List.all_nil, Bool.and_true, Bool.true_and, and_true, true_and, false_and, and_false,
  reduceCtorEq, if_false, if_true, ite_true, ite_false, Bool.false_eq_true])

theorem dic_int (kvs : List (Key × W)) (v : Int) : dicAt (.dk kvs) (.int v) = some (dGet kvs (.inl v)) := rfl
/-- the joint terms -/
def jt (many : Nat) (gs : List Gl) : Tm := (((List.range many).map fun k : Nat => ((k : Nat) : Int)).filter fun v => decide (joint gs v ≠ 0)).map fun v => (v, joint gs v)
/-- the dict of a sum: ks its keys -/
def DOk (many : Nat) (F : Int → Int) (ks : List Int) : Prop := ks.Nodup ∧ (∀ v ∈ ks, 0 ≤ v ∧ v < many) ∧ ∀ v, v ∉ ks → F v = 0
theorem DOk.len {many : Nat} {F : Int → Int} {ks : List Int} (h : DOk many F ks) : ks.length ≤ many := by
  have h1 := rise_len (a := 0) (b := many) (rise_sort h.1) (fun x hx => h.2.1 x ((sortI_perm ks).mem_iff.mp hx)) (by omega)
  rw [(sortI_perm ks).length_eq] at h1
  omega
theorem DOk.put {many : Nat} {mx : Bool} {F : Int → Int} {ks : List Int} (h : DOk many F ks) {t : Int × Int} (h0 : 0 ≤ t.1) (h1 : t.1 < many) : DOk many (stp mx F t) (if t.1 ∈ ks then ks else ks ++ [t.1]) := by
  by_cases hk : t.1 ∈ ks
  · rw [if_pos hk]
    refine ⟨h.1, h.2.1, fun v hv => ?_⟩
    unfold stp
    rw [if_neg (fun e : v = t.1 => hv (by rw [e]; exact hk))]
    exact h.2.2 v hv
  · rw [if_neg hk]
    refine ⟨List.nodup_append.mpr ⟨h.1, by simp, fun a ha b hb => ?_⟩, fun v hv => ?_, fun v hv => ?_⟩
    · rw [List.mem_singleton.mp hb]
      exact fun e => hk (e ▸ ha)
    · rcases List.mem_append.mp hv with hv | hv
      · exact h.2.1 v hv
      · rw [List.mem_singleton.mp hv]; exact ⟨h0, h1⟩
    · unfold stp
      rw [if_neg (fun e => hv (List.mem_append.mpr (.inr (List.mem_singleton.mpr e))))]
      exact h.2.2 v fun e => hv (List.mem_append.mpr (.inl e))
def dkW (F : Int → Int) (ks : List Int) : W := .dk (ks.map fun u => ((Sum.inl u : Key), W.int (F u)))
theorem dk_put (mx : Bool) (F : Int → Int) (ks : List Int) (t : Int × Int) : W.dk (dPut (ks.map fun u => ((Sum.inl u : Key), W.int (F u))) (.inl t.1) (.int (F t.1 + sg mx t.2))) = dkW (stp mx F t) (if t.1 ∈ ks then ks else ks ++ [t.1]) := by
  rw [dput_enc]
  rfl
theorem joint_step {many : Nat} {gs : List Gl} {mx : Bool} {ts : Tm} {c : Int} {x5 x6 : Option (W × Md)} {S : Store} {F : Int → Int} {ks : List Int} (hm : many ≤ 60) (hd : DOk many F ks) (t : Int × Int) (h0 : 0 ≤ t.1) (h1 : t.1 < many) :
    ∃ ρ1, tTup 2 (tCons (tName 5) (tCons (tName 6) tNil)) (.tup [.int t.1, .int t.2], .frz) [some (encGs gs, .brw), some (dkW F ks, .own), some (.str (snse mx), .frz), some (encT ts, .frz), some (.int c, .frz), x5, x6] = some ρ1 ∧
      (cSeq (cIfS (cB (cBin (gEq false) (cVar 2) (cLit (.str "min")))) (cAsg (tName 6) (cNeg (cVar 6))) (cSkip))
        (cSetIx 1 (cVar 5) (cBin gAdd (cGet2 (cVar 1) (cVar 5) (cLit (.int 0))) (cVar 6)))) ρ1 S =
        some (.nx [some (encGs gs, .brw), some (dkW (stp mx F t) (if t.1 ∈ ks then ks else ks ++ [t.1]), .own), some (.str (snse mx), .frz), some (encT ts, .frz), some (.int c, .frz), some (.int t.1, .frz), some (.int (sg mx t.2), .frz)] S) := by
  refine ⟨_, by walk_at "ev"; rfl, ?_⟩
  have hl := hd.len
  have e1 : (cIfS (cB (cBin (gEq false) (cVar 2) (cLit (.str "min")))) (cAsg (tName 6) (cNeg (cVar 6))) (cSkip)) [some (encGs gs, .brw), some (dkW F ks, .own), some (.str (snse mx), .frz), some (encT ts, .frz), some (.int c, .frz), some (.int t.1, .frz), some (.int t.2, .frz)] S = some (.nx [some (encGs gs, .brw), some (dkW F ks, .own), some (.str (snse mx), .frz), some (encT ts, .frz), some (.int c, .frz), some (.int t.1, .frz), some (.int (sg mx t.2), .frz)] S) := by
    walk_at "ev"
    rw [snse_eq2]
    unfold sg
    cases mx with
    | true => walk_at "ev"; simp only [Bool.not_true, Bool.false_eq_true, if_false, if_true]
    | false => walk_at "ev"; simp only [Bool.not_false, if_true]
  rw [q_seq, e1]
  unfold dkW
  walk_at "ev"
  rw [dic_int, dget_enc]
  by_cases hk : t.1 ∈ ks
  · simp only [if_pos hk]
    walk_at "ev"
    rw [set_dk rfl (size_lt (by rw [List.length_map]; omega)), dk_put, if_pos hk]
    rfl
  · simp only [if_neg hk]
    walk_at "ev"
    rw [set_dk rfl (size_lt (by rw [List.length_map]; omega)), ← hd.2.2 _ hk, dk_put, if_neg hk]
    rfl
theorem joint_terms_ok {many : Nat} {gs : List Gl} (S : Store) (hg : GOk3 many gs) (hm : many ≤ 60) : m_joint_terms [encGs gs] S = some ((encT (jt many gs), .own), S) := by
  unfold m_joint_terms
  rw [cFn_run (by rfl)]
  show fin (c_joint_terms [some (encGs gs, .brw), none, none, none, none, none, none] S) = _
  unfold c_joint_terms
  walk_at "ev"
  obtain ⟨ρ2, S2, e, rfl, ks, x2, x3, x4, x5, x6, rfl, hd⟩ := for_fold (xs := gs) (enc := encG) (st := stpG) (s := fun _ => 0) (S := S) (ρ := [some (encGs gs, .brw), some (dkW (fun _ => 0) [], .own), none, none, none, none, none])
    (t := tTup 3 (tCons (tName 2) (tCons (tName 3) (tCons (tName 4) tNil)))) (b := cFor (tTup 2 (tCons (tName 5) (tCons (tName 6) tNil))) (iVar 3) (cSeq (cIfS (cB (cBin (gEq false) (cVar 2) (cLit (.str "min")))) (cAsg (tName 6) (cNeg (cVar 6))) (cSkip))
  (cSetIx 1 (cVar 5) (cBin gAdd (cGet2 (cVar 1) (cVar 5) (cLit (.int 0))) (cVar 6)))))
    (fun F ρ S2 => S2 = S ∧ ∃ ks x2 x3 x4 x5 x6, ρ = [some (encGs gs, .brw), some (dkW F ks, .own), x2, x3, x4, x5, x6] ∧ DOk many F ks)
    (fun g hgm F ρ S2 hI => by
      obtain ⟨rfl, ks, x2, x3, x4, x5, x6, rfl, hd⟩ := hI
      obtain ⟨hts, _, _⟩ := hg g hgm
      obtain ⟨mx, ts, c⟩ := g
      have key := for_fold (xs := ts) (enc := fun p : Int × Int => W.tup [.int p.1, .int p.2]) (st := stp mx) (s := F) (S := S2) (ρ := [some (encGs gs, .brw), some (dkW F ks, .own), some (.str (snse mx), .frz), some (encT ts, .frz), some (.int c, .frz), x5, x6])
        (t := tTup 2 (tCons (tName 5) (tCons (tName 6) tNil))) (b := (cSeq (cIfS (cB (cBin (gEq false) (cVar 2) (cLit (.str "min")))) (cAsg (tName 6) (cNeg (cVar 6))) (cSkip))
  (cSetIx 1 (cVar 5) (cBin gAdd (cGet2 (cVar 1) (cVar 5) (cLit (.int 0))) (cVar 6)))))
        (fun F ρ S3 => S3 = S2 ∧ ∃ ks x5 x6, ρ = [some (encGs gs, .brw), some (dkW F ks, .own), some (.str (snse mx), .frz), some (encT ts, .frz), some (.int c, .frz), x5, x6] ∧ DOk many F ks)
        (fun t ht F ρ S3 hI => by
          obtain ⟨rfl, ks, x5, x6, rfl, hd⟩ := hI
          obtain ⟨h0, h1, _, _⟩ := hts.2 t ht
          obtain ⟨ρ1, e1, e2⟩ := joint_step (gs := gs) (mx := mx) (ts := ts) (c := c) (x5 := x5) (x6 := x6) (S := S3) hm hd t h0 h1
          exact ⟨ρ1, _, _, e1, e2, rfl, _, _, _, rfl, hd.put h0 h1⟩) ⟨rfl, ks, x5, x6, rfl, hd⟩
      obtain ⟨ρ3, S3, e3, rfl, ks3, y5, y6, rfl, hd3⟩ := key
      refine ⟨[some (encGs gs, .brw), some (dkW F ks, .own), some (.str (snse mx), .frz), some (encT ts, .frz), some (.int c, .frz), x5, x6], [some (encGs gs, .brw), some (dkW (ts.foldl (stp mx) F) ks3, .own), some (.str (snse mx), .frz), some (encT ts, .frz), some (.int c, .frz), y5, y6], S3, by unfold encG encT; walk_at "ev", ?_, rfl, ks3, some (.str (snse mx), .frz), some (encT ts, .frz), some (.int c, .frz), y5, y6, rfl, hd3⟩
      rw [q_for]
      have e4 : iVar 3 [some (encGs gs, .brw), some (dkW F ks, .own), some (.str (snse mx), .frz), some (encT ts, .frz), some (.int c, .frz), x5, x6] S3 = some (ts.map fun p : Int × Int => W.tup [.int p.1, .int p.2], S3) := by
        unfold encT
        walk_at "ev"
      rw [e4]
      exact e3)
    ⟨rfl, [], none, none, none, none, none, rfl, List.nodup_nil, fun v hv => absurd hv List.not_mem_nil, fun _ _ => rfl⟩
  have e4 : itemsOf (encGs gs) = some (gs.map encG) := rfl
  rw [e4]
  walk_at "ev"
  have e5 : dkW (fun _ => 0) [] = W.dk [] := rfl
  rw [e5] at e
  rw [e]
  have hs : gSortD S2 [dkW (joint gs) ks] = some (.lst ((sortI ks).map .int)) := by
    unfold gSortD dkW
    have : intKeys ((ks.map fun u => ((Sum.inl u : Key), W.int (joint gs u))).map (·.1)) = some ks := by
      rw [List.map_map]
      clear e hd
      induction ks with
      | nil => rfl
      | cons k ks ih =>
        rw [List.map_cons]
        show (intKeys _).map _ = _
        rw [ih]
        rfl
    simp only [this]
    rw [if_pos (by have := hd.len; omega)]
  walk_at "ev"
  have hs' : gSortD S2 [dkW (gs.foldl stpG fun _ => 0) ks] = some (.lst ((sortI ks).map .int)) := hs
  have hlen := hd.len
  rw [hs']
  walk_at "ev"
  rw [if_pos (size_ok (by rw [(sortI_perm ks).length_eq]; omega))]
  rw [lc_filter (p := fun v => decide (joint gs v ≠ 0)) (g := fun v => W.tup [.int v, .int (joint gs v)]) (enc := W.int) fun v hv => ⟨_, .own, by walk_at "ev"; rfl, ?_, fun _ => ⟨?_, rfl⟩⟩]
  · walk_at "ev"
    have : (sortI ks).filter (fun v => decide (joint gs v ≠ 0)) = ((List.range many).map fun k : Nat => ((k : Nat) : Int)).filter fun v => decide (joint gs v ≠ 0) := by
      refine rise_eq ((rise_sort hd.1).filter _) ((range_rise many).filter _) fun z => ?_
      rw [List.mem_filter, List.mem_filter, (sortI_perm ks).mem_iff]
      refine ⟨fun ⟨h1, h2⟩ => ⟨?_, h2⟩, fun ⟨h1, h2⟩ => ⟨?_, h2⟩⟩
      · obtain ⟨h3, h4⟩ := hd.2.1 z h1
        exact List.mem_map.mpr ⟨z.toNat, List.mem_range.mpr (by omega), by omega⟩
      · by_cases h : z ∈ ks
        · exact h
        · exact absurd (hd.2.2 z h) (of_decide_eq_true h2)
    rw [this]
    unfold encT jt
    rw [List.map_map]
    rfl
  all_goals
    have hv2 : v ∈ ks := (sortI_perm ks).mem_iff.mp hv
    have hi : gIx S2 (dkW (gs.foldl stpG fun _ => 0) ks) (.int v) = some (.int (joint gs v)) := by
      show dGet _ _ = _
      rw [dget_enc, if_pos hv2]
      rfl
  · walk_at "ev"
    rw [hi]
    walk_at "ev"
    by_cases h : joint gs v = 0
    · simp only [h, decide_true, ne_eq, not_true, decide_false, Bool.bne_true, Bool.not_true]
    · simp only [h, decide_false, ne_eq, not_false_eq_true, decide_true, Bool.bne_false]
  · walk_at "ev"
    rw [hi]
    walk_at "ev"
    rw [if_pos (size_ok (by decide))]
def ljW (many : Nat) (F : Int → Int) : List W := (List.range many).map fun k : Nat => W.int (F ((k : Nat) : Int))
theorem lj_at {many : Nat} {F : Int → Int} {v : Int} (h0 : 0 ≤ v) (h1 : v < many) : atI (ljW many F) v = some (.int (F v)) := by
  rw [atI_of h0]
  unfold ljW
  rw [List.getElem?_map, List.getElem?_range (by omega)]
  simp only [Option.map_some]
  rw [Int.toNat_of_nonneg h0]
theorem lj_set {many : Nat} {F : Int → Int} (mx : Bool) {t : Int × Int} (h0 : 0 ≤ t.1) (h1 : t.1 < many) : (ljW many F).set t.1.toNat (.int (F t.1 + sg mx t.2)) = ljW many (stp mx F t) := by
  unfold ljW
  refine List.ext_getElem? fun i => ?_
  rw [List.getElem?_set, List.length_map, List.length_range]
  by_cases hi : t.1.toNat = i
  · subst hi
    rw [if_pos rfl, if_pos (by omega), List.getElem?_map, List.getElem?_range (by omega)]
    simp only [Option.map_some]
    rw [Int.toNat_of_nonneg h0]
    unfold stp
    rw [if_pos rfl]
  · rw [if_neg hi, List.getElem?_map, List.getElem?_map]
    by_cases h : i < many
    · rw [List.getElem?_range h]
      simp only [Option.map_some]
      unfold stp
      rw [if_neg (by omega)]
    · rw [List.getElem?_eq_none (by simpa using Nat.le_of_not_lt h)]
      rfl
theorem sg_mul (mx : Bool) (k : Int) : k * (if mx = true then 1 else 0 - 1) = sg mx k := by
  unfold sg
  cases mx
  · simp only [Bool.false_eq_true, if_false]; omega
  · simp only [if_true]; omega
theorem sg_ix (mx : Bool) : atI [W.int (0 - 1), W.int 1] (if mx = true then 1 else 0) = some (.int (if mx = true then 1 else 0 - 1)) := by
  cases mx
  · simp only [Bool.false_eq_true, if_false]; walk_at "ev"
  · simp only [if_true]; walk_at "ev"
theorem law_joint_ok {many : Nat} {gs : List Gl} (S : Store) (hg : GOk3 many gs) (hm : many ≤ 60) : m_law_joint [encGs gs, .int ((many : Nat) : Int)] S = some ((encT (jt many gs), .own), S) := by
  unfold m_law_joint
  rw [cFn_run (by rfl)]
  show fin (c_law_joint [some (encGs gs, .brw), some (.int ((many : Nat) : Int), .brw), none, none, none, none, none, none, none] S) = _
  unfold c_law_joint
  walk_at "ev"
  rw [rng_ok (n := many) (S2 := S) (m := .brw) (by walk_at "ev") (by omega)]
  walk_at "ev"
  rw [if_pos (size_ok (by rw [List.length_range]; omega)), lc_map (enc := fun k : Nat => W.int ((k : Nat) : Int)) (g := fun _ : Nat => W.int 0) fun k hk => ⟨_, .frz, by walk_at "ev"; rfl, by walk_at "ev", by walk_at "ev", rfl⟩]
  walk_at "ev"
  have e4 : itemsOf (encGs gs) = some (gs.map encG) := rfl
  rw [e4]
  walk_at "ev"
  obtain ⟨ρ2, S2, e, rfl, x3, x4, x5, x6, x7, x8, rfl⟩ := for_fold (xs := gs) (enc := encG) (st := stpG) (s := fun _ => 0) (S := S) (ρ := [some (encGs gs, .brw), some (.int ((many : Nat) : Int), .brw), some (.lst (ljW many fun _ => 0), .own), none, none, none, none, none, none])
    (t := (tTup 3 (tCons (tName 3) (tCons (tName 4) (tCons (tName 5) tNil))))) (b := (cSeq (cAsg (tName 6) (cIx (cLst (cCons (cBin Mp.gSub (cLit (.int 0)) (cLit (.int 1))) (cCons (cLit (.int 1)) cNil))) (cBi gInt (cCons (cBin (gEq false) (cVar 3) (cLit (.str "max"))) cNil))))
  (cFor (tTup 2 (tCons (tName 7) (tCons (tName 8) tNil))) (iVar 4) (cSetIx 2 (cVar 7) (cBin gAdd (cIx (cVar 2) (cVar 7)) (cBin gMul (cVar 8) (cVar 6)))))))
    (fun F ρ S2 => S2 = S ∧ ∃ x3 x4 x5 x6 x7 x8, ρ = [some (encGs gs, .brw), some (.int ((many : Nat) : Int), .brw), some (.lst (ljW many F), .own), x3, x4, x5, x6, x7, x8])
    (fun g hgm F ρ S2 hI => by
      obtain ⟨rfl, x3, x4, x5, x6, x7, x8, rfl⟩ := hI
      obtain ⟨hts, _, _⟩ := hg g hgm
      obtain ⟨mx, ts, c⟩ := g
      obtain ⟨ρ3, S3, e3, rfl, y7, y8, rfl⟩ := for_fold (xs := ts) (enc := fun p : Int × Int => W.tup [.int p.1, .int p.2]) (st := stp mx) (s := F) (S := S2) (ρ := [some (encGs gs, .brw), some (.int ((many : Nat) : Int), .brw), some (.lst (ljW many F), .own), some (.str (snse mx), .frz), some (encT ts, .frz), some (.int c, .frz), some (.int (if mx = true then 1 else 0 - 1), .frz), x7, x8])
        (t := (tTup 2 (tCons (tName 7) (tCons (tName 8) tNil)))) (b := (cSetIx 2 (cVar 7) (cBin gAdd (cIx (cVar 2) (cVar 7)) (cBin gMul (cVar 8) (cVar 6)))))
        (fun F ρ S3 => S3 = S2 ∧ ∃ x7 x8, ρ = [some (encGs gs, .brw), some (.int ((many : Nat) : Int), .brw), some (.lst (ljW many F), .own), some (.str (snse mx), .frz), some (encT ts, .frz), some (.int c, .frz), some (.int (if mx = true then 1 else 0 - 1), .frz), x7, x8])
        (fun t ht F ρ S3 hI => by
          obtain ⟨rfl, x7, x8, rfl⟩ := hI
          obtain ⟨h0, h1, h2, h3⟩ := hts.2 t ht
          refine ⟨[some (encGs gs, .brw), some (.int ((many : Nat) : Int), .brw), some (.lst (ljW many F), .own), some (.str (snse mx), .frz), some (encT ts, .frz), some (.int c, .frz), some (.int (if mx = true then 1 else 0 - 1), .frz), some (.int t.1, .frz), some (.int t.2, .frz)], _, S3, by walk_at "ev", ?_, rfl, some (.int t.1, .frz), some (.int t.2, .frz), rfl⟩
          walk_at "ev"
          rw [lj_at h0 h1, gMul_int (.inl (by omega))]
          walk_at "ev"
          rw [sg_mul]
          rw [set_lst rfl h0 (by unfold ljW; rw [List.length_map, List.length_range]; exact h1), lj_set mx h0 h1]
          rfl) ⟨rfl, x7, x8, rfl⟩
      refine ⟨[some (encGs gs, .brw), some (.int ((many : Nat) : Int), .brw), some (.lst (ljW many F), .own), some (.str (snse mx), .frz), some (encT ts, .frz), some (.int c, .frz), x6, x7, x8], _, S3, by unfold encG encT; walk_at "ev", ?_, rfl, some (.str (snse mx), .frz), some (encT ts, .frz), some (.int c, .frz), some (.int (if mx = true then 1 else 0 - 1), .frz), y7, y8, rfl⟩
      walk_at "ev"
      rw [if_pos (size_ok (by decide)), snse_eq]
      walk_at "ev"
      rw [sg_ix]
      walk_at "ev"
      have e5 : itemsOf (encT ts) = some (ts.map fun p => .tup [.int p.1, .int p.2]) := rfl
      rw [e5]
      walk_at "ev"
      exact e3) ⟨rfl, none, none, none, none, none, none, rfl⟩
  have e6 : (List.range many).map (fun _ : Nat => W.int 0) = ljW many fun _ => 0 := rfl
  rw [e6, e]
  walk_at "ev"
  rw [rng_ok (n := many) (S2 := S2) (m := .brw) (by walk_at "ev") (by omega)]
  walk_at "ev"
  rw [if_pos (size_ok (by rw [List.length_range]; omega))]
  rw [lc_filter (p := fun k : Nat => decide (joint gs k ≠ 0)) (g := fun k : Nat => W.tup [.int ((k : Nat) : Int), .int (joint gs k)]) (enc := fun k : Nat => W.int ((k : Nat) : Int)) fun k hk => ⟨_, .own, by walk_at "ev"; rfl, ?_, fun _ => ⟨?_, rfl⟩⟩]
  · walk_at "ev"
    unfold encT jt
    rw [List.filter_map, List.map_map, List.map_map]
    rfl
  all_goals
    have hk2 : k < many := List.mem_range.mp hk
    have hi : atI (ljW many (gs.foldl stpG fun _ => 0)) ((k : Nat) : Int) = some (.int (joint gs k)) := lj_at (by omega) (by omega)
  · walk_at "ev"
    rw [hi]
    walk_at "ev"
    by_cases h : joint gs k = 0
    · simp only [h, decide_true, ne_eq, not_true, decide_false, Bool.bne_true, Bool.not_true]
    · simp only [h, decide_false, ne_eq, not_false_eq_true, decide_true, Bool.bne_false]
  · walk_at "ev"
    rw [hi]
    walk_at "ev"
    rw [if_pos (size_ok (by decide))]
end K75
namespace K75
open PySem PySem.Spec PyProof.Rows L2 Mp
theorem md_row (g : Gl) (v l : Int) (m : Md) : md (rowOf g v l, m) = (rowOf g v l, .frz) := rfl
theorem md_encT (ts : Tm) (m : Md) : md (encT ts, m) = (encT ts, .frz) := rfl
theorem md_encG (g : Gl) (m : Md) : md (encG g, m) = (encG g, .frz) := rfl
theorem md_encP (p : List Int) (m : Md) : md (encP p, m) = (encP p, .frz) := rfl
theorem md_encGs (gs : List Gl) (m : Md) : md (encGs gs, m) = (encGs gs, .frz) := rfl
theorem sto_row (g : Gl) (v l : Int) (m : Md) : sto (rowOf g v l, m) = true := rfl
theorem sto_encT (ts : Tm) (m : Md) : sto (encT ts, m) = true := rfl
theorem sto_encG (g : Gl) (m : Md) : sto (encG g, m) = true := rfl
theorem sto_encP (p : List Int) (m : Md) : sto (encP p, m) = true := rfl
theorem sto_encGs (gs : List Gl) (m : Md) : sto (encGs gs, m) = true := rfl
def rowT (g : Gl) : Tm := if g.mx then negT g.ts else g.ts
def rowB (g : Gl) (v l : Int) : Int := if g.mx then g.c - v - l else v - g.c - l
theorem row_1 (S : Store) (g : Gl) (v l : Int) : gIx S (rowOf g v l) (.int 1) = some (encT (rowT g)) := by
  unfold rowOf rowT
  cases g.mx <;> rfl
theorem row_2 (S : Store) (g : Gl) (v l : Int) : gIx S (rowOf g v l) (.int 2) = some (.int (rowB g v l)) := rfl
theorem g_0 (S : Store) (g : Gl) : gIx S (encG g) (.int 0) = some (.str (snse g.mx)) := rfl
theorem it_gs (gs : List Gl) : itemsOf (encGs gs) = some (gs.map encG) := rfl
theorem it_ts (ts : Tm) : itemsOf (encT ts) = some (ts.map fun p => .tup [.int p.1, .int p.2]) := rfl
theorem len_gs (S : Store) (gs : List Gl) : gLen S [encGs gs] = some (.int gs.length) := by
  unfold encGs
  rw [gLen_tup, List.length_map]
local macro_rules | `(tactic| walk_at "ev") => `(tactic| simp -implicitDefEqProofs only [q_lit, q_nil, q_cons, q_var, q_bin, q_tup, q_lst, q_box, q_neg, q_notT, q_andT, q_orT, q_notV, q_andV, q_orV, q_if, q_B, q_ix, q_call, q_bi, q_sl, q_oNone, q_oSome, q_dk, q_dt, q_yesT, q_get2,
  q_lc, q_iExp, q_iVar, q_iEnV, items_tup, items_lst, q_seq, q_skip, q_ret, q_retV, q_ifS, q_asg, q_drop, q_for, q_tName, q_tTup, q_tCons, q_tNil, q_fz, q_frzE, q_app, q_aug, q_setIx, q_wipe0, q_wipe, fin_rt, fin_nx,
  mut_non, mut_bl, mut_int, mut_str, mut_tup, mut_lst, mut_dk, mut_dt, mut_scr, mut_cel, sto_non, sto_bl, sto_int, sto_str, sto_tup, sto_scr, sto_cel, sto_own, sto_frz, md_non, md_bl, md_int, md_str, md_tup, md_lst, md_dk, md_dt, md_scr, md_cel,
  gAdd_int, gAddI_int, gSub_int, gLt_int, gLe_int, gGt_int, gGe_int, gInt_int, gInt_bl, gLen_tup, gLen_lst, gTuple_lst, gTuple_tup, gList_scr, gList_lst, gList_tup, gIx_tup, gIx_lst, gEq_int, gEq_bl, atI_0, atI_1, atI_2,
  bnd_some, Option.map_some, Option.bind_some, List.getElem?_cons_succ, List.getElem?_cons_zero, List.set_cons_succ, List.set_cons_zero, List.foldl_cons, List.foldl_nil, List.map_cons, List.map_nil, List.length_map, List.length_cons, List.length_nil, List.all_cons, List.all_nil, Bool.and_true, Bool.true_and, and_true, true_and, false_and, and_false,
  md_row, md_encT, md_encG, md_encP, md_encGs, sto_row, sto_encT, sto_encG, sto_encP, sto_encGs, row_1, row_2, g_0, it_gs, it_ts, len_gs, reduceCtorEq, if_false, if_true, ite_true, ite_false, Bool.false_eq_true])

def r1 : CS :=
  cAsg (tName 1) (cCall m_law_tape (cCons (cVar 0) cNil))
def r2 : CS :=
  cAsg (tName 2) (cBin gAdd (cLit (.int 1)) (cCall m_law_draw (cCons (cVar 1) (cCons (cLit (.int 4)) cNil))))
def r3 : CS :=
  cIfS (cB (cBin (gEq false) (cCall m_law_draw (cCons (cVar 1) (cCons (cLit (.int 8)) cNil))) (cLit (.int 0)))) (cAsg (tName 2) (cLit (.int 60))) (cSkip)
def r4 : CS :=
  cAsg (tName 3) (cCall m_law_goals (cCons (cVar 1) (cCons (cVar 2) (cCons (cBin gAdd (cLit (.int 1)) (cCall m_law_draw (cCons (cVar 1) (cCons (cLit (.int 3)) cNil)))) cNil))))
def r5 : CS :=
  cAsg (tName 4) (cLc (tName 9) (iRange1 (cLit (.int 3))) tYesT (cBi gTuple (cCons (cLc (tName 17) (iRange1 (cVar 2)) tYesT (cBin Mp.gSub (cCall m_law_draw (cCons (cVar 1) (cCons (cLit (.int 9)) cNil))) (cLit (.int 4))) [17]) cNil)) [9])
def r6 : CS :=
  cFz [4] (cAsg (tName 5) (cLc (tName 14) (iVar 4) tYesT (cCall m_law_gains (cCons (cVar 3) (cCons (cVar 14) cNil))) [14]))
def r7 : CS :=
  cFz [4] (cIfS (cB (cBin (gEq true) (cLc (tName 14) (iVar 4) tYesT (cCall m_values_at (cCons (cVar 3) (cCons (cVar 14) cNil))) [14]) (cVar 5))) (cRet (cLit (.bl false))) (cSkip))
def r8 : CS :=
  cAsg (tName 6) (cCall m_law_draw (cCons (cVar 1) (cCons (cBi gLen (cCons (cVar 3) cNil)) cNil)))
def r9 : CS :=
  cAsg (tName 7) (cBin gAdd (cBin gAdd (cSl (cIx (cVar 5) (cLit (.int 0))) oNone (oSome (cVar 6))) (cTup (cCons (cBin Mp.gSub (cBin gAdd (cIx (cIx (cVar 5) (cLit (.int 0))) (cVar 6)) (cCall m_law_draw (cCons (cVar 1) (cCons (cLit (.int 3)) cNil)))) (cLit (.int 1))) cNil))) (cSl (cIx (cVar 5) (cLit (.int 0))) (oSome (cBin gAdd (cVar 6) (cLit (.int 1)))) oNone))
def r10 : CS :=
  cFor (tName 8) (iExp (cBin gAdd (cVar 5) (cLst (cCons (cVar 7) cNil)))) (cFor (tName 10) (iExp (cBin gAdd (cVar 5) (cLst (cCons (cVar 7) cNil)))) (cSeq (cAsg (tName 15) (cCall m_law_covers (cCons (cVar 3) (cCons (cVar 8) (cCons (cVar 10) cNil)))))
  (cSeq (cIfS (cNotT (cB (cCall m_law_same (cCons (cCall m_covers (cCons (cVar 3) (cCons (cVar 8) (cCons (cVar 10) cNil)))) (cCons (cVar 15) cNil))))) (cRet (cLit (.bl false))) (cSkip))
  (cIfS (cNotT (cB (cCall m_law_same (cCons (cCall m_beats (cCons (cVar 3) (cCons (cVar 8) (cCons (cVar 10) cNil)))) (cCons ((cAndV (cVar 15) (cBin (gEq true) (cVar 8) (cVar 10)))) cNil))))) (cRet (cLit (.bl false))) (cSkip)))))
def r11 : CS :=
  cFor (tName 9) (iRange1 (cBi gLen (cCons (cVar 3) cNil))) (cSeq (cAsg (tName 11) (cBin Mp.gSub (cBin gAdd (cIx (cIx (cVar 5) (cLit (.int 0))) (cVar 9)) (cCall m_law_draw (cCons (cVar 1) (cCons (cLit (.int 3)) cNil)))) (cLit (.int 1))))
  (cSeq (cAsg (tName 12) (cCall m_at_least_row (cCons (cIx (cVar 3) (cVar 9)) (cCons (cVar 11) cNil))))
  (cSeq (cAsg (tName 13) (cCall m_better_row (cCons (cIx (cVar 3) (cVar 9)) (cCons (cVar 11) cNil))))
  (cSeq (cIfS ((cOrT (cB (cBin (gEq true) (cVar 12) (cCall m_law_row_of (cCons (cIx (cVar 3) (cVar 9)) (cCons (cVar 11) (cCons (cLit (.int 0)) cNil)))))) (cB (cBin (gEq true) (cVar 13) (cCall m_law_row_of (cCons (cIx (cVar 3) (cVar 9)) (cCons (cVar 11) (cCons (cLit (.int 1)) cNil)))))))) (cRet (cLit (.bl false))) (cSkip))
  (cFz [4] (cFor (tName 14) (iVar 4) (cSeq (cAsg (tName 16) (cBin Mp.gSub (cIx (cCall m_law_gains (cCons (cTup (cCons (cIx (cVar 3) (cVar 9)) cNil)) (cCons (cVar 14) cNil))) (cLit (.int 0))) (cVar 11)))
  (cSeq (cIfS (cB (cBin (gEq false) (cIx (cIx (cVar 3) (cVar 9)) (cLit (.int 0))) (cLit (.str "min")))) (cAsg (tName 16) (cBin Mp.gSub (cLit (.int 0)) (cVar 16))) (cSkip))
  (cSeq (cIfS (cB (cBin (gEq true) (cBin gLe (cCall m_law_sum (cCons (cIx (cVar 12) (cLit (.int 1))) (cCons (cVar 14) cNil))) (cIx (cVar 12) (cLit (.int 2)))) (cBin gGe (cVar 16) (cLit (.int 0))))) (cRet (cLit (.bl false))) (cSkip))
  (cIfS (cB (cBin (gEq true) (cBin gLe (cCall m_law_sum (cCons (cIx (cVar 13) (cLit (.int 1))) (cCons (cVar 14) cNil))) (cIx (cVar 13) (cLit (.int 2)))) (cBin gGt (cVar 16) (cLit (.int 0))))) (cRet (cLit (.bl false))) (cSkip)))))))))))
def r12 : CS :=
  cRet (cBin (gEq false) (cCall m_joint_terms (cCons (cVar 3) cNil)) (cCall m_law_joint (cCons (cVar 3) (cCons (cVar 2) cNil))))
theorem law_seq : c_law = cSeq r1 (cSeq r2 (cSeq r3 (cSeq r4 (cSeq r5 (cSeq r6 (cSeq r7 (cSeq r8 (cSeq r9 (cSeq r10 (cSeq r11 (r12))))))))))) := rfl
theorem seq_nx {f g : CS} {ρ ρ2 : Mp.Env} {S S2 : Store} (h : f ρ S = some (.nx ρ2 S2)) : cSeq f g ρ S = g ρ2 S2 := by rw [q_seq, h]
theorem r1_ok (ns : List Int) : ∃ S, r1 [some (.scr ns, .brw), none, none, none, none, none, none, none, none, none, none, none, none, none, none, none, none, none] [] = some (.nx [some (.scr ns, .brw), some (.cel 0, .frz), none, none, none, none, none, none, none, none, none, none, none, none, none, none, none, none] S) ∧ TapeAt 0 S := by
  obtain ⟨S1, e, t, _⟩ := tape_ok ns []
  refine ⟨S1, ?_, t⟩
  unfold r1
  rw [tape_eq]
  walk_at "ev"
  rw [e]
  walk_at "ev"
theorem r23_ok (ns : List Int) {S : Store} (t : TapeAt 0 S) (g : CS) : ∃ (many : Nat) (S2 : Store), (cSeq r2 (cSeq r3 g)) [some (.scr ns, .brw), some (.cel 0, .frz), none, none, none, none, none, none, none, none, none, none, none, none, none, none, none, none] S = g [some (.scr ns, .brw), some (.cel 0, .frz), some (.int ((many : Nat) : Int), .frz), none, none, none, none, none, none, none, none, none, none, none, none, none, none, none] S2 ∧ TapeAt 0 S2 ∧ 1 ≤ many ∧ many ≤ 60 := by
  obtain ⟨d, S2, e, h0, h1, t2, _⟩ := draw_ok (many := 4) t (by decide) (by decide)
  obtain ⟨d2, S3, e2, h2, h3, t3, _⟩ := draw_ok (many := 8) t2 (by decide) (by decide)
  by_cases h : d2 = 0
  · refine ⟨60, S3, ?_, t3, by decide, by decide⟩
    rw [seq_nx (ρ2 := [some (.scr ns, .brw), some (.cel 0, .frz), some (.int (1 + d), .frz), none, none, none, none, none, none, none, none, none, none, none, none, none, none, none]) (S2 := S2) (by
      unfold r2
      rw [draw_eq]
      walk_at "ev"
      rw [e]
      walk_at "ev")]
    rw [seq_nx (ρ2 := [some (.scr ns, .brw), some (.cel 0, .frz), some (.int 60, .frz), none, none, none, none, none, none, none, none, none, none, none, none, none, none, none]) (S2 := S3) (by
      unfold r3
      rw [draw_eq]
      walk_at "ev"
      rw [e2]
      walk_at "ev"
      subst h
      simp only [decide_true, Bool.false_bne, if_true])]
    rfl
  · refine ⟨(1 + d).toNat, S3, ?_, t3, by omega, by omega⟩
    have hd : (((1 + d).toNat : Nat) : Int) = 1 + d := by omega
    rw [hd]
    rw [seq_nx (ρ2 := [some (.scr ns, .brw), some (.cel 0, .frz), some (.int (1 + d), .frz), none, none, none, none, none, none, none, none, none, none, none, none, none, none, none]) (S2 := S2) (by
      unfold r2
      rw [draw_eq]
      walk_at "ev"
      rw [e]
      walk_at "ev")]
    rw [seq_nx (ρ2 := [some (.scr ns, .brw), some (.cel 0, .frz), some (.int (1 + d), .frz), none, none, none, none, none, none, none, none, none, none, none, none, none, none, none]) (S2 := S3) (by
      unfold r3
      rw [draw_eq]
      walk_at "ev"
      rw [e2]
      walk_at "ev"
      simp only [decide_eq_false h, Bool.false_bne, Bool.false_eq_true, if_false])]
theorem r4_ok (ns : List Int) {many : Nat} {S : Store} (t : TapeAt 0 S) (hm : many ≤ 60) : ∃ gs S2, r4 [some (.scr ns, .brw), some (.cel 0, .frz), some (.int ((many : Nat) : Int), .frz), none, none, none, none, none, none, none, none, none, none, none, none, none, none, none] S = some (.nx [some (.scr ns, .brw), some (.cel 0, .frz), some (.int ((many : Nat) : Int), .frz), some (encGs gs, .frz), none, none, none, none, none, none, none, none, none, none, none, none, none, none] S2) ∧ TapeAt 0 S2 ∧ GOk3 many gs ∧ 1 ≤ gs.length ∧ gs.length ≤ 3 := by
  obtain ⟨d, S2, e, h0, h1, t2, _⟩ := draw_ok (many := 3) t (by decide) (by decide)
  obtain ⟨gs, S3, e3, hl, hg, t3, _⟩ := law_goals_ok (cnt := 1 + d) t2 hm (by omega) (by omega)
  refine ⟨gs, S3, ?_, t3, hg, by omega, by omega⟩
  unfold r4
  rw [draw_eq]
  walk_at "ev"
  rw [e]
  walk_at "ev"
  rw [e3]
  walk_at "ev"
theorem paired_pts {A : Type} {enc : A → W} {P : A → Prop} {ws gs : List W} (h : Paired (fun _ g => ∃ p, g = enc p ∧ P p) ws gs) : ∃ pts : List A, gs = pts.map enc ∧ pts.length = ws.length ∧ ∀ p ∈ pts, P p := by
  induction h with
  | nil => exact ⟨[], rfl, rfl, fun _ h => absurd h List.not_mem_nil⟩
  | cons h1 _ ih =>
    obtain ⟨p, rfl, hp⟩ := h1
    obtain ⟨pts, rfl, hl, ha⟩ := ih
    refine ⟨p :: pts, rfl, by rw [List.length_cons, List.length_cons, hl], fun q hq => ?_⟩
    rcases List.mem_cons.mp hq with rfl | hq
    · exact hp
    · exact ha q hq
theorem r5_ok (ns : List Int) {many : Nat} {gs : List Gl} {S : Store} (t : TapeAt 0 S) (hm : many ≤ 60) : ∃ (pts : List (List Int)) (S2 : Store), r5 [some (.scr ns, .brw), some (.cel 0, .frz), some (.int ((many : Nat) : Int), .frz), some (encGs gs, .frz), none, none, none, none, none, none, none, none, none, none, none, none, none, none] S = some (.nx [some (.scr ns, .brw), some (.cel 0, .frz), some (.int ((many : Nat) : Int), .frz), some (encGs gs, .frz), some (.lst (pts.map encP), .own), none, none, none, none, none, none, none, none, none, none, none, none, none] S2) ∧ TapeAt 0 S2 ∧ pts.length = 3 ∧ ∀ p ∈ pts, p.length = many := by
  unfold r5
  rw [q_asg, q_lc]
  rw [rng_ok (n := 3) (S2 := S) (m := .frz) rfl (by decide)]
  dsimp only [bnd_some]
  rw [if_pos (size_ok (by decide))]
  obtain ⟨gs1, S2, e, t2, hp⟩ := lc_ex (I := TapeAt 0) (R := fun _ g => ∃ p : List Int, g = encP p ∧ p.length = many) (ws := (List.range 3).map fun k : Nat => W.int ((k : Nat) : Int)) (t := tName 9) (c := tYesT) (f := (cBi gTuple (cCons (cLc (tName 17) (iRange1 (cVar 2)) tYesT (cBin Mp.gSub (cCall m_law_draw (cCons (cVar 1) (cCons (cLit (.int 9)) cNil))) (cLit (.int 4))) [17]) cNil)))
    (ρ := wipeE [some (.scr ns, .brw), some (.cel 0, .frz), some (.int ((many : Nat) : Int), .frz), some (encGs gs, .frz), none, none, none, none, none, none, none, none, none, none, none, none, none, none] [9]) t (fun w hw S t => by
      obtain ⟨k, hk, rfl⟩ := List.mem_map.mp hw
      obtain ⟨gs2, S2, e, t2, hp⟩ := lc_ex (I := TapeAt 0) (R := fun _ g => ∃ i : Int, g = .int i ∧ True) (ws := (List.range many).map fun k : Nat => W.int ((k : Nat) : Int)) (t := tName 17) (c := tYesT) (f := (cBin Mp.gSub (cCall m_law_draw (cCons (cVar 1) (cCons (cLit (.int 9)) cNil))) (cLit (.int 4))))
        (ρ := [some (.scr ns, .brw), some (.cel 0, .frz), some (.int ((many : Nat) : Int), .frz), some (encGs gs, .frz), none, none, none, none, none, some (.int ((k : Nat) : Int), .frz), none, none, none, none, none, none, none, none]) t (fun w hw S t => by
          obtain ⟨d, S2, e, h0, h1, t2, _⟩ := draw_ok (many := 9) t (by decide) (by decide)
          obtain ⟨k2, hk2, rfl⟩ := List.mem_map.mp hw
          refine ⟨_, .int (d - 4), .own, S2, by walk_at "ev"; rfl, rfl, ?_, rfl, t2, _, rfl, trivial⟩
          rw [draw_eq]
          walk_at "ev"
          rw [e]
          walk_at "ev")
      obtain ⟨is, rfl, hl, _⟩ := paired_pts hp
      refine ⟨_, encP is, .own, S2, by walk_at "ev"; rfl, rfl, ?_, rfl, t2, is, rfl, by rw [hl, List.length_map, List.length_range]⟩
      rw [q_bi, q_cons, q_lc]
      walk_at "ev"
      rw [rng_ok (n := many) (S2 := S) (m := .frz) (by walk_at "ev") (by omega)]
      walk_at "ev"
      rw [if_pos (size_ok (by rw [List.length_range]; omega))]
      rw [e]
      walk_at "ev"
      rfl)
  rw [e]
  obtain ⟨pts, rfl, hl, ha⟩ := paired_pts hp
  refine ⟨pts, S2, ?_, t2, by rw [hl, List.length_map, List.length_range], ha⟩
  walk_at "ev"
end K75
namespace K75
open PySem PySem.Spec PyProof.Rows L2 Mp
local macro_rules | `(tactic| walk_at "ev") => `(tactic| simp -implicitDefEqProofs only [q_lit, q_nil, q_cons, q_var, q_bin, q_tup, q_lst, q_box, q_neg, q_notT, q_andT, q_orT, q_notV, q_andV, q_orV, q_if, q_B, q_ix, q_call, q_bi, q_sl, q_oNone, q_oSome, q_dk, q_dt, q_yesT, q_get2,
  q_lc, q_iExp, q_iVar, q_iEnV, items_tup, items_lst, q_seq, q_skip, q_ret, q_retV, q_ifS, q_asg, q_drop, q_for, q_tName, q_tTup, q_tCons, q_tNil, q_fz, q_frzE, q_app, q_aug, q_setIx, q_wipe0, q_wipe, fin_rt, fin_nx,
  mut_non, mut_bl, mut_int, mut_str, mut_tup, mut_lst, mut_dk, mut_dt, mut_scr, mut_cel, sto_non, sto_bl, sto_int, sto_str, sto_tup, sto_scr, sto_cel, sto_own, sto_frz, md_non, md_bl, md_int, md_str, md_tup, md_lst, md_dk, md_dt, md_scr, md_cel,
  gAdd_int, gAddI_int, gSub_int, gLt_int, gLe_int, gGt_int, gGe_int, gInt_int, gInt_bl, gLen_tup, gLen_lst, gTuple_lst, gTuple_tup, gList_scr, gList_lst, gList_tup, gIx_tup, gIx_lst, gEq_int, gEq_bl, atI_0, atI_1, atI_2,
  bnd_some, Option.map_some, Option.bind_some, List.getElem?_cons_succ, List.getElem?_cons_zero, List.set_cons_succ, List.set_cons_zero, List.foldl_cons, List.foldl_nil, List.map_cons, List.map_nil, List.length_map, List.length_cons, List.length_nil, List.all_cons, List.all_nil, Bool.and_true, Bool.true_and, and_true, true_and, false_and, and_false,
  md_row, md_encT, md_encG, md_encP, md_encGs, sto_row, sto_encT, sto_encG, sto_encP, sto_encGs, row_1, row_2, g_0, it_gs, it_ts, len_gs, reduceCtorEq, if_false, if_true, ite_true, ite_false, Bool.false_eq_true])
local macro_rules | `(tactic| walk_at "evl") => `(tactic| simp -implicitDefEqProofs only [q_lit, q_nil, q_cons, q_var, q_bin, q_tup, q_lst, q_box, q_neg, q_notT, q_andT, q_orT, q_notV, q_andV, q_orV, q_if, q_B, q_ix, q_call, q_bi, q_sl, q_oNone, q_oSome, q_dk, q_dt, q_yesT, q_get2,
  q_lc, q_iExp, q_iVar, q_iEnV, items_tup, items_lst, q_seq, q_skip, q_ret, q_retV, q_ifS, q_asg, q_drop, q_for, q_tName, q_tTup, q_tCons, q_tNil, q_fz, q_frzE, q_app, q_aug, q_setIx, q_wipe0, q_wipe, fin_rt, fin_nx,
  mut_non, mut_bl, mut_int, mut_str, mut_tup, mut_lst, mut_dk, mut_dt, mut_scr, mut_cel, sto_non, sto_bl, sto_int, sto_str, sto_tup, sto_scr, sto_cel, sto_own, sto_frz, md_non, md_bl, md_int, md_str, md_tup, md_lst, md_dk, md_dt, md_scr, md_cel,
  gAdd_int, gAddI_int, gSub_int, gLt_int, gLe_int, gGt_int, gGe_int, gInt_int, gInt_bl, gLen_tup, gLen_lst, gTuple_lst, gTuple_tup, gList_scr, gList_lst, gList_tup, gEq_int, gEq_bl, atI_0, atI_1, atI_2,
  bnd_some, Option.map_some, Option.bind_some, List.getElem?_cons_succ, List.getElem?_cons_zero, List.set_cons_succ, List.set_cons_zero, List.foldl_cons, List.foldl_nil, List.map_cons, List.map_nil, List.length_map, List.length_cons, List.length_nil, List.all_cons, List.all_nil, Bool.and_true, Bool.true_and, and_true, true_and, false_and, and_false,
  md_row, md_encT, md_encG, md_encP, md_encGs, sto_row, sto_encT, sto_encG, sto_encP, sto_encGs, row_1, row_2, g_0, it_gs, it_ts, len_gs, reduceCtorEq, if_false, if_true, ite_true, ite_false, Bool.false_eq_true])

theorem GOk3.ok {many : Nat} {gs : List Gl} (h : GOk3 many gs) (hm : many ≤ 60) (hl : gs.length ≤ 3) {p : List Int} (hp : p.length = many) : GOk p.length gs :=
  ⟨by omega, fun g hg t ht => by
    obtain ⟨⟨_, h1⟩, _⟩ := h g hg
    obtain ⟨h2, h3, h4, h5⟩ := h1 t ht
    rw [hp]
    exact ⟨h2, h3, by omega, by omega⟩⟩
theorem gains_len (gs : List Gl) (p : List Int) : (gains gs p).length = gs.length := List.length_map _
theorem r6_ok (ns : List Int) {many : Nat} {gs : List Gl} {pts : List (List Int)} (S : Store) (hg : GOk3 many gs) (hm : many ≤ 60) (hgl : gs.length ≤ 3) (hp3 : pts.length = 3) (hp : ∀ p ∈ pts, p.length = many) : r6 [some (.scr ns, .brw), some (.cel 0, .frz), some (.int ((many : Nat) : Int), .frz), some (encGs gs, .frz), some (.lst (pts.map encP), .own), none, none, none, none, none, none, none, none, none, none, none, none, none] S = some (.nx [some (.scr ns, .brw), some (.cel 0, .frz), some (.int ((many : Nat) : Int), .frz), some (encGs gs, .frz), some (.lst (pts.map encP), .frz), some (.lst ((pts.map (gains gs)).map encP), .own), none, none, none, none, none, none, none, none, none, none, none, none] S) := by
  unfold r6
  rw [q_fz, show [4].foldl frzE [some (.scr ns, .brw), some (.cel 0, .frz), some (.int ((many : Nat) : Int), .frz), some (encGs gs, .frz), some (.lst (pts.map encP), .own), none, none, none, none, none, none, none, none, none, none, none, none, none] = [some (.scr ns, .brw), some (.cel 0, .frz), some (.int ((many : Nat) : Int), .frz), some (encGs gs, .frz), some (.lst (pts.map encP), .frz), none, none, none, none, none, none, none, none, none, none, none, none, none] from rfl]
  walk_at "ev"
  rw [if_pos (size_ok (by omega))]
  rw [lc_map (enc := encP) (g := fun p => encP (gains gs p)) fun p hpm => ⟨_, .own, by walk_at "ev"; rfl, by walk_at "ev", by
    walk_at "ev"
    rw [law_gains_ok S (hg.ok hm hgl (hp p hpm))], rfl⟩]
  walk_at "ev"
  rw [List.map_map]
  rfl
theorem okLP (vs : List (List Int)) : okD (.lst (vs.map encP)) 64 = true := okD_lst fun w hw => by
  obtain ⟨p, _, rfl⟩ := List.mem_map.mp hw
  exact okP p 62
theorem r7_ok (ns : List Int) {many : Nat} {gs : List Gl} {pts : List (List Int)} (S : Store) (hg : GOk3 many gs) (hm : many ≤ 60) (hgl : gs.length ≤ 3) (hp3 : pts.length = 3) (hp : ∀ p ∈ pts, p.length = many) : r7 [some (.scr ns, .brw), some (.cel 0, .frz), some (.int ((many : Nat) : Int), .frz), some (encGs gs, .frz), some (.lst (pts.map encP), .frz), some (.lst ((pts.map (gains gs)).map encP), .own), none, none, none, none, none, none, none, none, none, none, none, none] S = some (.nx [some (.scr ns, .brw), some (.cel 0, .frz), some (.int ((many : Nat) : Int), .frz), some (encGs gs, .frz), some (.lst (pts.map encP), .frz), some (.lst ((pts.map (gains gs)).map encP), .own), none, none, none, none, none, none, none, none, none, none, none, none] S) := by
  unfold r7
  rw [q_fz, show [4].foldl frzE [some (.scr ns, .brw), some (.cel 0, .frz), some (.int ((many : Nat) : Int), .frz), some (encGs gs, .frz), some (.lst (pts.map encP), .frz), some (.lst ((pts.map (gains gs)).map encP), .own), none, none, none, none, none, none, none, none, none, none, none, none] = [some (.scr ns, .brw), some (.cel 0, .frz), some (.int ((many : Nat) : Int), .frz), some (encGs gs, .frz), some (.lst (pts.map encP), .frz), some (.lst ((pts.map (gains gs)).map encP), .own), none, none, none, none, none, none, none, none, none, none, none, none] from rfl]
  walk_at "ev"
  rw [if_pos (size_ok (by omega))]
  rw [lc_map (enc := encP) (g := fun p => encP (gains gs p)) fun p hpm => ⟨_, .own, by walk_at "ev"; rfl, by walk_at "ev", by
    walk_at "ev"
    rw [values_at_ok S (hg.ok hm hgl (hp p hpm))], rfl⟩]
  walk_at "ev"
  have e : pts.map (fun p => encP (gains gs p)) = (pts.map (gains gs)).map encP := by rw [List.map_map]; rfl
  rw [e, gEq_same (okLP _)]
  walk_at "ev"
  rfl
theorem r8_ok (ns : List Int) {many : Nat} {gs : List Gl} {pts vs : List (List Int)} {S : Store} (t : TapeAt 0 S) (h1 : 1 ≤ gs.length) (hgl : gs.length ≤ 3) : ∃ (wh : Nat) (S2 : Store), r8 [some (.scr ns, .brw), some (.cel 0, .frz), some (.int ((many : Nat) : Int), .frz), some (encGs gs, .frz), some (.lst (pts.map encP), .frz), some (.lst (vs.map encP), .own), none, none, none, none, none, none, none, none, none, none, none, none] S = some (.nx [some (.scr ns, .brw), some (.cel 0, .frz), some (.int ((many : Nat) : Int), .frz), some (encGs gs, .frz), some (.lst (pts.map encP), .frz), some (.lst (vs.map encP), .own), some (.int ((wh : Nat) : Int), .frz), none, none, none, none, none, none, none, none, none, none, none] S2) ∧ TapeAt 0 S2 ∧ wh < gs.length := by
  obtain ⟨d, S2, e, h0, h1, t2, _⟩ := draw_ok (many := gs.length) t (by omega) (by omega)
  refine ⟨d.toNat, S2, ?_, t2, by omega⟩
  rw [Int.toNat_of_nonneg h0]
  unfold r8
  rw [draw_eq]
  walk_at "ev"
  rw [e]
  walk_at "ev"
theorem cut_map {A B : Type} (f : A → B) (xs : List A) (lo hi : Option Int) : cutW (xs.map f) lo hi = (cutW xs lo hi).map f := by
  unfold cutW
  rw [List.length_map, List.map_take, List.map_drop]
theorem cut_lo {A : Type} (xs : List A) (w : Nat) (h : w < xs.length) : (cutW xs none (some ((w : Nat) : Int))).length = w := by
  unfold cutW
  rw [HT.sIx_none, HT.sIx_nat, List.length_take, List.length_drop]
  omega
theorem cut_hi {A : Type} (xs : List A) (w : Nat) (h : w < xs.length) : (cutW xs (some (((w : Nat) : Int) + 1)) none).length = xs.length - (w + 1) := by
  unfold cutW
  have e : ((w : Nat) : Int) + 1 = ((w + 1 : Nat) : Int) := by omega
  rw [e, HT.sIx_nat, List.length_take, List.length_drop, HT.sIx_none]
  omega
theorem sl_P (p : List Int) (lo hi : Option Int) : gSl (encP p) lo hi = some (encP (cutW p lo hi)) := by
  show some (W.tup _) = some (W.tup _)
  rw [cut_map]
theorem add_P (p q : List Int) (h : p.length + q.length ≤ 1000) : gAdd (encP p) (encP q) = some (encP (p ++ q)) := by
  show (if _ ≤ sizeLine then some (W.tup _) else none) = some (W.tup _)
  rw [if_pos (size_ok (by rw [List.length_map, List.length_map]; omega)), List.map_append]
theorem ix_P (S : Store) (p : List Int) (k : Nat) (h : k < p.length) : gIx S (encP p) (.int ((k : Nat) : Int)) = some (.int (p.getD k 0)) := at_nat h
theorem ix_L (S : Store) (vs : List (List Int)) (h : 0 < vs.length) : gIx S (.lst (vs.map encP)) (.int 0) = some (encP (vs.getD 0 [])) := by
  cases vs with
  | nil => exact absurd h (Nat.lt_irrefl _)
  | cons v vs =>
    show atI _ 0 = _
    rw [List.map_cons, atI_0]
    rfl
theorem r9_ok (ns : List Int) {many wh : Nat} {gs : List Gl} {pts vs : List (List Int)} {S : Store} (t : TapeAt 0 S) (hgl : gs.length ≤ 3) (hw : wh < gs.length) (hv0 : 0 < vs.length) (hv : ∀ v ∈ vs, v.length = gs.length) : ∃ (oth : List Int) (S2 : Store), r9 [some (.scr ns, .brw), some (.cel 0, .frz), some (.int ((many : Nat) : Int), .frz), some (encGs gs, .frz), some (.lst (pts.map encP), .frz), some (.lst (vs.map encP), .own), some (.int ((wh : Nat) : Int), .frz), none, none, none, none, none, none, none, none, none, none, none] S = some (.nx [some (.scr ns, .brw), some (.cel 0, .frz), some (.int ((many : Nat) : Int), .frz), some (encGs gs, .frz), some (.lst (pts.map encP), .frz), some (.lst (vs.map encP), .own), some (.int ((wh : Nat) : Int), .frz), some (encP oth, .frz), none, none, none, none, none, none, none, none, none, none] S2) ∧ TapeAt 0 S2 ∧ oth.length = gs.length := by
  obtain ⟨d, S2, e, h0, h1, t2, _⟩ := draw_ok (many := 3) t (by omega) (by omega)
  have hl : (vs.getD 0 []).length = gs.length := by
    cases vs with
    | nil => exact absurd hv0 (Nat.lt_irrefl _)
    | cons v vs => exact hv v List.mem_cons_self
  have hi := ix_L S vs hv0
  have hi2 := ix_L S2 vs hv0
  generalize vs.getD 0 [] = v at hl hi hi2
  have c1 := cut_lo v wh (by omega)
  have c2 := cut_hi v wh (by omega)
  refine ⟨(cutW v none (some ((wh : Nat) : Int)) ++ [v.getD wh 0 + d - 1]) ++ cutW v (some (((wh : Nat) : Int) + 1)) none, S2, ?_, t2, ?_⟩
  · unfold r9
    rw [draw_eq]
    walk_at "evl"
    rw [hi]
    walk_at "evl"
    rw [sl_P]
    walk_at "evl"
    rw [hi]
    walk_at "evl"
    rw [ix_P S v wh (by omega)]
    walk_at "evl"
    rw [e]
    walk_at "evl"
    rw [if_pos (size_ok (by decide))]
    walk_at "evl"
    rw [show W.tup [W.int (v.getD wh 0 + d - 1)] = encP [v.getD wh 0 + d - 1] from rfl, add_P _ _ (by simp only [List.length_singleton]; omega)]
    walk_at "evl"
    rw [hi2]
    walk_at "evl"
    rw [sl_P]
    walk_at "evl"
    rw [add_P _ _ (by rw [List.length_append]; simp only [List.length_singleton]; omega)]
    walk_at "evl"
  · rw [List.length_append, List.length_append]
    simp only [List.length_singleton]
    omega
end K75
namespace K75
open PySem PySem.Spec PyProof.Rows L2 Mp
local macro_rules | `(tactic| walk_at "ev") => `(tactic| simp -implicitDefEqProofs only [q_lit, q_nil, q_cons, q_var, q_bin, q_tup, q_lst, q_box, q_neg, q_notT, q_andT, q_orT, q_notV, q_andV, q_orV, q_if, q_B, q_ix, q_call, q_bi, q_sl, q_oNone, q_oSome, q_dk, q_dt, q_yesT, q_get2,
  q_lc, q_iExp, q_iVar, q_iEnV, items_tup, items_lst, q_seq, q_skip, q_ret, q_retV, q_ifS, q_asg, q_drop, q_for, q_tName, q_tTup, q_tCons, q_tNil, q_fz, q_frzE, q_app, q_aug, q_setIx, q_wipe0, q_wipe, fin_rt, fin_nx,
  mut_non, mut_bl, mut_int, mut_str, mut_tup, mut_lst, mut_dk, mut_dt, mut_scr, mut_cel, sto_non, sto_bl, sto_int, sto_str, sto_tup, sto_scr, sto_cel, sto_own, sto_frz, md_non, md_bl, md_int, md_str, md_tup, md_lst, md_dk, md_dt, md_scr, md_cel,
  gAdd_int, gAddI_int, gSub_int, gLt_int, gLe_int, gGt_int, gGe_int, gInt_int, gInt_bl, gLen_tup, gLen_lst, gTuple_lst, gTuple_tup, gList_scr, gList_lst, gList_tup, gIx_tup, gIx_lst, gEq_int, gEq_bl, atI_0, atI_1, atI_2,
  bnd_some, Option.map_some, Option.bind_some, List.getElem?_cons_succ, List.getElem?_cons_zero, List.set_cons_succ, List.set_cons_zero, List.foldl_cons, List.foldl_nil, List.map_cons, List.map_nil, List.length_map, List.length_cons, List.length_nil, List.all_cons, List.all_nil, Bool.and_true, Bool.true_and, and_true, true_and, false_and, and_false,
  md_row, md_encT, md_encG, md_encP, md_encGs, sto_row, sto_encT, sto_encG, sto_encP, sto_encGs, row_1, row_2, g_0, it_gs, it_ts, len_gs, reduceCtorEq, if_false, if_true, ite_true, ite_false, Bool.false_eq_true])
local macro_rules | `(tactic| walk_at "evl") => `(tactic| simp -implicitDefEqProofs only [q_lit, q_nil, q_cons, q_var, q_bin, q_tup, q_lst, q_box, q_neg, q_notT, q_andT, q_orT, q_notV, q_andV, q_orV, q_if, q_B, q_ix, q_call, q_bi, q_sl, q_oNone, q_oSome, q_dk, q_dt, q_yesT, q_get2,
  q_lc, q_iExp, q_iVar, q_iEnV, items_tup, items_lst, q_seq, q_skip, q_ret, q_retV, q_ifS, q_asg, q_drop, q_for, q_tName, q_tTup, q_tCons, q_tNil, q_fz, q_frzE, q_app, q_aug, q_setIx, q_wipe0, q_wipe, fin_rt, fin_nx,
  mut_non, mut_bl, mut_int, mut_str, mut_tup, mut_lst, mut_dk, mut_dt, mut_scr, mut_cel, sto_non, sto_bl, sto_int, sto_str, sto_tup, sto_scr, sto_cel, sto_own, sto_frz, md_non, md_bl, md_int, md_str, md_tup, md_lst, md_dk, md_dt, md_scr, md_cel,
  gAdd_int, gAddI_int, gSub_int, gLt_int, gLe_int, gGt_int, gGe_int, gInt_int, gInt_bl, gLen_tup, gLen_lst, gTuple_lst, gTuple_tup, gList_scr, gList_lst, gList_tup, gEq_int, gEq_bl, atI_0, atI_1, atI_2,
  bnd_some, Option.map_some, Option.bind_some, List.getElem?_cons_succ, List.getElem?_cons_zero, List.set_cons_succ, List.set_cons_zero, List.foldl_cons, List.foldl_nil, List.map_cons, List.map_nil, List.length_map, List.length_cons, List.length_nil, List.all_cons, List.all_nil, Bool.and_true, Bool.true_and, and_true, true_and, false_and, and_false,
  md_row, md_encT, md_encG, md_encP, md_encGs, sto_row, sto_encT, sto_encG, sto_encP, sto_encGs, row_1, row_2, g_0, it_gs, it_ts, len_gs, reduceCtorEq, if_false, if_true, ite_true, ite_false, Bool.false_eq_true])

def b10 : CS :=
  cSeq (cAsg (tName 15) (cCall m_law_covers (cCons (cVar 3) (cCons (cVar 8) (cCons (cVar 10) cNil)))))
  (cSeq (cIfS (cNotT (cB (cCall m_law_same (cCons (cCall m_covers (cCons (cVar 3) (cCons (cVar 8) (cCons (cVar 10) cNil)))) (cCons (cVar 15) cNil))))) (cRet (cLit (.bl false))) (cSkip))
  (cIfS (cNotT (cB (cCall m_law_same (cCons (cCall m_beats (cCons (cVar 3) (cCons (cVar 8) (cCons (cVar 10) cNil)))) (cCons ((cAndV (cVar 15) (cBin (gEq true) (cVar 8) (cVar 10)))) cNil))))) (cRet (cLit (.bl false))) (cSkip)))
def bp : CS :=
  cSeq (cAsg (tName 16) (cBin Mp.gSub (cIx (cCall m_law_gains (cCons (cTup (cCons (cIx (cVar 3) (cVar 9)) cNil)) (cCons (cVar 14) cNil))) (cLit (.int 0))) (cVar 11)))
  (cSeq (cIfS (cB (cBin (gEq false) (cIx (cIx (cVar 3) (cVar 9)) (cLit (.int 0))) (cLit (.str "min")))) (cAsg (tName 16) (cBin Mp.gSub (cLit (.int 0)) (cVar 16))) (cSkip))
  (cSeq (cIfS (cB (cBin (gEq true) (cBin gLe (cCall m_law_sum (cCons (cIx (cVar 12) (cLit (.int 1))) (cCons (cVar 14) cNil))) (cIx (cVar 12) (cLit (.int 2)))) (cBin gGe (cVar 16) (cLit (.int 0))))) (cRet (cLit (.bl false))) (cSkip))
  (cIfS (cB (cBin (gEq true) (cBin gLe (cCall m_law_sum (cCons (cIx (cVar 13) (cLit (.int 1))) (cCons (cVar 14) cNil))) (cIx (cVar 13) (cLit (.int 2)))) (cBin gGt (cVar 16) (cLit (.int 0))))) (cRet (cLit (.bl false))) (cSkip))))
def i1 : CS :=
  cAsg (tName 11) (cBin Mp.gSub (cBin gAdd (cIx (cIx (cVar 5) (cLit (.int 0))) (cVar 9)) (cCall m_law_draw (cCons (cVar 1) (cCons (cLit (.int 3)) cNil)))) (cLit (.int 1)))
def i2 : CS :=
  cAsg (tName 12) (cCall m_at_least_row (cCons (cIx (cVar 3) (cVar 9)) (cCons (cVar 11) cNil)))
def i3 : CS :=
  cAsg (tName 13) (cCall m_better_row (cCons (cIx (cVar 3) (cVar 9)) (cCons (cVar 11) cNil)))
def i4 : CS :=
  cIfS ((cOrT (cB (cBin (gEq true) (cVar 12) (cCall m_law_row_of (cCons (cIx (cVar 3) (cVar 9)) (cCons (cVar 11) (cCons (cLit (.int 0)) cNil)))))) (cB (cBin (gEq true) (cVar 13) (cCall m_law_row_of (cCons (cIx (cVar 3) (cVar 9)) (cCons (cVar 11) (cCons (cLit (.int 1)) cNil)))))))) (cRet (cLit (.bl false))) (cSkip)
theorem r10_eq : r10 = cFor (tName 8) (iExp (cBin gAdd (cVar 5) (cLst (cCons (cVar 7) cNil)))) (cFor (tName 10) (iExp (cBin gAdd (cVar 5) (cLst (cCons (cVar 7) cNil)))) b10) := rfl
theorem r11_eq : r11 = cFor (tName 9) (iRange1 (cBi gLen (cCons (cVar 3) cNil))) (cSeq i1 (cSeq i2 (cSeq i3 (cSeq i4 (cFz [4] (cFor (tName 14) (iVar 4) bp)))))) := rfl
theorem b10_ok (ns : List Int) {gs : List Gl} {pts vs : List (List Int)} {oth : List Int} {many wh : Nat} {S : Store} {f s : List Int} {x9 x11 x12 x13 x14 x15 x16 x17 : Option (W × Md)} (hgl : gs.length ≤ 3) (hf : f.length = gs.length) (hs : s.length = gs.length) :
    b10 [some (.scr ns, .brw), some (.cel 0, .frz), some (.int ((many : Nat) : Int), .frz), some (encGs gs, .frz), some (.lst (pts.map encP), .frz), some (.lst (vs.map encP), .own), some (.int ((wh : Nat) : Int), .frz), some (encP oth, .frz), some (encP f, .frz), x9, some (encP s, .frz), x11, x12, x13, x14, x15, x16, x17] S = some (.nx [some (.scr ns, .brw), some (.cel 0, .frz), some (.int ((many : Nat) : Int), .frz), some (encGs gs, .frz), some (.lst (pts.map encP), .frz), some (.lst (vs.map encP), .own), some (.int ((wh : Nat) : Int), .frz), some (encP oth, .frz), some (encP f, .frz), x9, some (encP s, .frz), x11, x12, x13, x14, some (.bl (cov gs f s), .frz), x16, x17] S) := by
  unfold b10
  rw [seq_nx (ρ2 := [some (.scr ns, .brw), some (.cel 0, .frz), some (.int ((many : Nat) : Int), .frz), some (encGs gs, .frz), some (.lst (pts.map encP), .frz), some (.lst (vs.map encP), .own), some (.int ((wh : Nat) : Int), .frz), some (encP oth, .frz), some (encP f, .frz), x9, some (encP s, .frz), x11, x12, x13, x14, some (.bl (cov gs f s), .frz), x16, x17]) (S2 := S) (by
    walk_at "ev"
    rw [law_covers_ok S (by omega) hf hs]
    walk_at "ev")]
  obtain ⟨m1, e1⟩ := same_ok (cov gs f s) (cov gs f s) S
  obtain ⟨m2, e2⟩ := beats_ok S hf hs
  obtain ⟨m3, e3⟩ := same_ok (cov gs f s && !eqW (encP f) (encP s)) (cov gs f s && !eqW (encP f) (encP s)) S
  rw [seq_nx (ρ2 := [some (.scr ns, .brw), some (.cel 0, .frz), some (.int ((many : Nat) : Int), .frz), some (encGs gs, .frz), some (.lst (pts.map encP), .frz), some (.lst (vs.map encP), .own), some (.int ((wh : Nat) : Int), .frz), some (encP oth, .frz), some (encP f, .frz), x9, some (encP s, .frz), x11, x12, x13, x14, some (.bl (cov gs f s), .frz), x16, x17]) (S2 := S) (by
    walk_at "ev"
    rw [covers_ok S hf hs]
    walk_at "ev"
    rw [e1]
    walk_at "ev"
    simp only [beq_self_eq_true, Bool.not_true, Bool.false_eq_true, if_false])]
  walk_at "ev"
  rw [e2]
  walk_at "ev"
  have e4 : (if cov gs f s = true then Option.map (fun c => ((c, Md.own), S)) (gEq true (encP f) (encP s)) else some ((W.bl false, Md.own), S)) = some ((W.bl (cov gs f s && !eqW (encP f) (encP s)), Md.own), S) := by
    rw [gEq_ok (okP f 63) (okP s 63), Bool.true_bne]
    cases cov gs f s <;> rfl
  rw [e4]
  walk_at "ev"
  rw [e3]
  walk_at "ev"
  simp only [beq_self_eq_true, Bool.not_true, Bool.false_eq_true, if_false]
theorem it_all {i8 : Option (W × Md)} (vs : List (List Int)) (oth : List Int) {ρ : Mp.Env} {S : Store} {m1 m2 : Md} (h5 : ρ[5]? = some (some (.lst (vs.map encP), .own))) (h7 : ρ[7]? = some (some (encP oth, .frz))) (hl : vs.length ≤ 10) : iExp (cBin gAdd (cVar 5) (cLst (cCons (cVar 7) cNil))) ρ S = some ((vs ++ [oth]).map encP, S) := by
  walk_at "ev"
  rw [h5, h7]
  walk_at "ev"
  rw [if_pos (size_ok (by decide))]
  walk_at "ev"
  have : gAdd (.lst (vs.map encP)) (.lst [encP oth]) = some (.lst ((vs ++ [oth]).map encP)) := by
    show (if _ ≤ sizeLine then some (W.lst _) else none) = some (W.lst _)
    rw [if_pos (size_ok (by rw [List.length_map]; simp only [List.length_singleton]; omega)), List.map_append]
    rfl
  rw [this]
  walk_at "ev"
theorem r10_ok (ns : List Int) {gs : List Gl} {pts vs : List (List Int)} {oth : List Int} {many wh : Nat} {S : Store} {x8 x9 x10 x11 x12 x13 x14 x15 x16 x17 : Option (W × Md)} (hgl : gs.length ≤ 3) (hv : ∀ v ∈ vs ++ [oth], v.length = gs.length) (hl : vs.length ≤ 10) :
    ∃ y8 y10 y15, r10 [some (.scr ns, .brw), some (.cel 0, .frz), some (.int ((many : Nat) : Int), .frz), some (encGs gs, .frz), some (.lst (pts.map encP), .frz), some (.lst (vs.map encP), .own), some (.int ((wh : Nat) : Int), .frz), some (encP oth, .frz), x8, x9, x10, x11, x12, x13, x14, x15, x16, x17] S = some (.nx [some (.scr ns, .brw), some (.cel 0, .frz), some (.int ((many : Nat) : Int), .frz), some (encGs gs, .frz), some (.lst (pts.map encP), .frz), some (.lst (vs.map encP), .own), some (.int ((wh : Nat) : Int), .frz), some (encP oth, .frz), y8, x9, y10, x11, x12, x13, x14, y15, x16, x17] S) := by
  rw [r10_eq, q_for, it_all (i8 := none) (m1 := .own) (m2 := .own) vs oth rfl rfl hl]
  dsimp only [bnd_some]
  obtain ⟨ρ2, S2, e, rfl, y8, y10, y15, rfl⟩ := for_fold (xs := vs ++ [oth]) (enc := encP) (st := fun (_ : Unit) (_ : List Int) => ()) (s := ()) (S := S) (ρ := [some (.scr ns, .brw), some (.cel 0, .frz), some (.int ((many : Nat) : Int), .frz), some (encGs gs, .frz), some (.lst (pts.map encP), .frz), some (.lst (vs.map encP), .own), some (.int ((wh : Nat) : Int), .frz), some (encP oth, .frz), x8, x9, x10, x11, x12, x13, x14, x15, x16, x17])
    (t := (tName 8)) (b := cFor (tName 10) (iExp (cBin gAdd (cVar 5) (cLst (cCons (cVar 7) cNil)))) b10)
    (fun _ ρ S2 => S2 = S ∧ ∃ y8 y10 y15, ρ = [some (.scr ns, .brw), some (.cel 0, .frz), some (.int ((many : Nat) : Int), .frz), some (encGs gs, .frz), some (.lst (pts.map encP), .frz), some (.lst (vs.map encP), .own), some (.int ((wh : Nat) : Int), .frz), some (encP oth, .frz), y8, x9, y10, x11, x12, x13, x14, y15, x16, x17]) (fun f hfm _ ρ S2 hI => by
      obtain ⟨rfl, y8, y10, y15, rfl⟩ := hI
      refine ⟨[some (.scr ns, .brw), some (.cel 0, .frz), some (.int ((many : Nat) : Int), .frz), some (encGs gs, .frz), some (.lst (pts.map encP), .frz), some (.lst (vs.map encP), .own), some (.int ((wh : Nat) : Int), .frz), some (encP oth, .frz), some (encP f, .frz), x9, y10, x11, x12, x13, x14, y15, x16, x17], ?_⟩
      rw [q_for, it_all (i8 := none) (m1 := .own) (m2 := .own) vs oth rfl rfl hl]
      dsimp only [bnd_some]
      obtain ⟨ρ3, S3, e, rfl, z10, z15, rfl⟩ := for_fold (xs := vs ++ [oth]) (enc := encP) (st := fun (_ : Unit) (_ : List Int) => ()) (s := ()) (S := S2) (ρ := [some (.scr ns, .brw), some (.cel 0, .frz), some (.int ((many : Nat) : Int), .frz), some (encGs gs, .frz), some (.lst (pts.map encP), .frz), some (.lst (vs.map encP), .own), some (.int ((wh : Nat) : Int), .frz), some (encP oth, .frz), some (encP f, .frz), x9, y10, x11, x12, x13, x14, y15, x16, x17])
        (t := (tName 10)) (b := b10)
        (fun _ ρ S3 => S3 = S2 ∧ ∃ z10 z15, ρ = [some (.scr ns, .brw), some (.cel 0, .frz), some (.int ((many : Nat) : Int), .frz), some (encGs gs, .frz), some (.lst (pts.map encP), .frz), some (.lst (vs.map encP), .own), some (.int ((wh : Nat) : Int), .frz), some (encP oth, .frz), some (encP f, .frz), x9, z10, x11, x12, x13, x14, z15, x16, x17]) (fun s hsm _ ρ S3 hI => by
          obtain ⟨rfl, z10, z15, rfl⟩ := hI
          exact ⟨[some (.scr ns, .brw), some (.cel 0, .frz), some (.int ((many : Nat) : Int), .frz), some (encGs gs, .frz), some (.lst (pts.map encP), .frz), some (.lst (vs.map encP), .own), some (.int ((wh : Nat) : Int), .frz), some (encP oth, .frz), some (encP f, .frz), x9, some (encP s, .frz), x11, x12, x13, x14, z15, x16, x17], _, _, by walk_at "ev", b10_ok ns hgl (hv f hfm) (hv s hsm), rfl, _, _, rfl⟩) ⟨rfl, y10, y15, rfl⟩
      exact ⟨_, _, by walk_at "ev", e, rfl, _, _, _, rfl⟩) ⟨rfl, x8, x10, x15, rfl⟩
  exact ⟨_, _, _, e⟩
theorem tsum_go (p : List Int) : ∀ (ts : Tm) (a : Int), ts.foldl (fun s t => s + t.2 * p.getD t.1.toNat 0) a = a + tsum ts p
  | [], a => by unfold tsum; simp
  | t :: ts, a => by
    unfold tsum
    rw [List.foldl_cons, List.foldl_cons, tsum_go p ts, tsum_go p ts]
    omega
theorem tsum_cons (t : Int × Int) (ts : Tm) (p : List Int) : tsum (t :: ts) p = t.2 * p.getD t.1.toNat 0 + tsum ts p := by
  conv => lhs; unfold tsum
  rw [List.foldl_cons, tsum_go]
  omega
theorem tsum_neg (p : List Int) : ∀ ts : Tm, tsum (negT ts) p = -tsum ts p
  | [] => rfl
  | t :: ts => by
    have h : negT (t :: ts) = (t.1, -t.2) :: negT ts := rfl
    rw [h, tsum_cons, tsum_cons, tsum_neg p ts]
    show -t.2 * p.getD t.1.toNat 0 + -tsum ts p = _
    rw [Int.neg_mul]
    omega
def ahead (g : Gl) (p : List Int) (v : Int) : Int := if g.mx then tsum g.ts p + g.c - v else 0 - (tsum g.ts p + g.c - v)
theorem row_holds (g : Gl) (p : List Int) (v l : Int) : decide (tsum (rowT g) p ≤ rowB g v l) = decide (l ≤ ahead g p v) := by
  unfold rowT rowB ahead
  cases g.mx with
  | true => simp only [if_true]; rw [tsum_neg, decide_eq_decide]; omega
  | false => simp only [Bool.false_eq_true, if_false]; rw [decide_eq_decide]; omega
theorem TOk.row {n : Nat} {g : Gl} (h : TOk n g.ts) : TOk n (rowT g) := by
  unfold rowT
  cases g.mx with
  | true =>
    simp only [if_true]
    intro t ht
    obtain ⟨t', h', rfl⟩ := List.mem_map.mp ht
    obtain ⟨h1, h2, h3, h4⟩ := h t' h'
    exact ⟨h1, h2, by simp only; omega, by simp only; omega⟩
  | false => exact h
theorem ix_gs (S : Store) {gs : List Gl} {k : Nat} (h : k < gs.length) : gIx S (encGs gs) (.int ((k : Nat) : Int)) = some (encG (gs.getD k dG)) := at_g h
theorem getD_mem {gs : List Gl} {k : Nat} (h : k < gs.length) : gs.getD k dG ∈ gs := by
  rw [List.getD_eq_getElem?_getD, List.getElem?_eq_getElem h]
  exact List.getElem_mem h
theorem bp_ok (ns : List Int) {gs : List Gl} {pts vs : List (List Int)} {oth : List Int} {many wh : Nat} {S : Store} {k : Nat} {v : Int} {p : List Int} {x8 x10 x15 x16 x17 : Option (W × Md)} (hk : k < gs.length) (hg : GOk3 many gs) (hm : many ≤ 60) (hgl : gs.length ≤ 3) (hp : p.length = many) :
    ∃ y16, bp [some (.scr ns, .brw), some (.cel 0, .frz), some (.int ((many : Nat) : Int), .frz), some (encGs gs, .frz), some (.lst (pts.map encP), .frz), some (.lst (vs.map encP), .own), some (.int ((wh : Nat) : Int), .frz), some (encP oth, .frz), x8, some (.int ((k : Nat) : Int), .frz), x10, some (.int v, .frz), some (rowOf (gs.getD k dG) v 0, .frz), some (rowOf (gs.getD k dG) v 1, .frz), some (encP p, .frz), x15, x16, x17] S = some (.nx [some (.scr ns, .brw), some (.cel 0, .frz), some (.int ((many : Nat) : Int), .frz), some (encGs gs, .frz), some (.lst (pts.map encP), .frz), some (.lst (vs.map encP), .own), some (.int ((wh : Nat) : Int), .frz), some (encP oth, .frz), x8, some (.int ((k : Nat) : Int), .frz), x10, some (.int v, .frz), some (rowOf (gs.getD k dG) v 0, .frz), some (rowOf (gs.getD k dG) v 1, .frz), some (encP p, .frz), x15, y16, x17] S) := by
  have hix := ix_gs S hk
  have hok : GOk p.length [gs.getD k dG] := ⟨by simp only [List.length_singleton]; omega, fun g h => by rw [List.mem_singleton.mp h]; exact (hg.ok hm hgl hp).2 _ (getD_mem hk)⟩
  have hrow : TOk p.length (rowT (gs.getD k dG)) := TOk.row ((hg.ok hm hgl hp).2 _ (getD_mem hk))
  refine ⟨some (.int (ahead (gs.getD k dG) p v), .frz), ?_⟩
  generalize gs.getD k dG = g at *
  unfold bp
  rw [seq_nx (ρ2 := [some (.scr ns, .brw), some (.cel 0, .frz), some (.int ((many : Nat) : Int), .frz), some (encGs gs, .frz), some (.lst (pts.map encP), .frz), some (.lst (vs.map encP), .own), some (.int ((wh : Nat) : Int), .frz), some (encP oth, .frz), x8, some (.int ((k : Nat) : Int), .frz), x10, some (.int v, .frz), some (rowOf g v 0, .frz), some (rowOf g v 1, .frz), some (encP p, .frz), x15, some (.int (tsum g.ts p + g.c - v), .frz), x17]) (S2 := S) (by
    walk_at "ev"
    rw [hix]
    walk_at "ev"
    rw [if_pos (size_ok (by decide))]
    walk_at "ev"
    rw [show W.tup [encG g] = encGs [g] from rfl, law_gains_ok S hok]
    walk_at "ev"
    rw [show gIx S (encP (gains [g] p)) (W.int 0) = some (.int (tsum g.ts p + g.c)) from rfl]
    walk_at "ev")]
  rw [seq_nx (ρ2 := [some (.scr ns, .brw), some (.cel 0, .frz), some (.int ((many : Nat) : Int), .frz), some (encGs gs, .frz), some (.lst (pts.map encP), .frz), some (.lst (vs.map encP), .own), some (.int ((wh : Nat) : Int), .frz), some (encP oth, .frz), x8, some (.int ((k : Nat) : Int), .frz), x10, some (.int v, .frz), some (rowOf g v 0, .frz), some (rowOf g v 1, .frz), some (encP p, .frz), x15, some (.int (ahead g p v), .frz), x17]) (S2 := S) (by
    walk_at "ev"
    rw [hix]
    walk_at "ev"
    rw [snse_eq2]
    walk_at "ev"
    unfold ahead
    cases g.mx with
    | true => simp only [Bool.not_true, Bool.false_eq_true, if_false, if_true]
    | false => simp only [Bool.not_false, Bool.false_eq_true, if_false, if_true])]
  rw [seq_nx (ρ2 := [some (.scr ns, .brw), some (.cel 0, .frz), some (.int ((many : Nat) : Int), .frz), some (encGs gs, .frz), some (.lst (pts.map encP), .frz), some (.lst (vs.map encP), .own), some (.int ((wh : Nat) : Int), .frz), some (encP oth, .frz), x8, some (.int ((k : Nat) : Int), .frz), x10, some (.int v, .frz), some (rowOf g v 0, .frz), some (rowOf g v 1, .frz), some (encP p, .frz), x15, some (.int (ahead g p v), .frz), x17]) (S2 := S) (by
    walk_at "ev"
    rw [law_sum_ok S hrow]
    walk_at "ev"
    rw [row_holds]
    simp only [beq_self_eq_true, Bool.bne_true, Bool.not_true, Bool.false_eq_true, if_false])]
  walk_at "ev"
  rw [law_sum_ok S hrow]
  walk_at "ev"
  have e1 : decide (1 ≤ ahead g p v) = decide (0 < ahead g p v) := by rw [decide_eq_decide]; omega
  rw [row_holds, e1]
  simp only [beq_self_eq_true, Bool.bne_true, Bool.not_true, Bool.false_eq_true, if_false]
theorem r11_ok (ns : List Int) {gs : List Gl} {pts vs : List (List Int)} {oth : List Int} {many wh : Nat} {S : Store} {x8 x9 x10 x11 x12 x13 x14 x15 x16 x17 : Option (W × Md)} (t : TapeAt 0 S) (hg : GOk3 many gs) (hm : many ≤ 60) (hgl : gs.length ≤ 3) (hv0 : 0 < vs.length) (hv : ∀ v ∈ vs, v.length = gs.length) (hp : ∀ p ∈ pts, p.length = many) :
    ∃ S2 y9 y11 y12 y13 y14 y16, r11 [some (.scr ns, .brw), some (.cel 0, .frz), some (.int ((many : Nat) : Int), .frz), some (encGs gs, .frz), some (.lst (pts.map encP), .frz), some (.lst (vs.map encP), .own), some (.int ((wh : Nat) : Int), .frz), some (encP oth, .frz), x8, x9, x10, x11, x12, x13, x14, x15, x16, x17] S = some (.nx [some (.scr ns, .brw), some (.cel 0, .frz), some (.int ((many : Nat) : Int), .frz), some (encGs gs, .frz), some (.lst (pts.map encP), .frz), some (.lst (vs.map encP), .own), some (.int ((wh : Nat) : Int), .frz), some (encP oth, .frz), x8, y9, x10, y11, y12, y13, y14, x15, y16, x17] S2) := by
  have hl : (vs.getD 0 []).length = gs.length := by
    cases vs with
    | nil => exact absurd hv0 (Nat.lt_irrefl _)
    | cons v vs => exact hv v List.mem_cons_self
  rw [r11_eq, q_for, rng_ok (n := gs.length) (S2 := S) (m := .own) (by walk_at "ev") (by omega)]
  dsimp only [bnd_some]
  obtain ⟨ρ2, S2, e, t2, y9, y11, y12, y13, y14, y16, rfl⟩ := for_fold (xs := List.range gs.length) (enc := fun k : Nat => W.int ((k : Nat) : Int)) (st := fun (_ : Unit) (_ : Nat) => ()) (s := ()) (S := S) (ρ := [some (.scr ns, .brw), some (.cel 0, .frz), some (.int ((many : Nat) : Int), .frz), some (encGs gs, .frz), some (.lst (pts.map encP), .frz), some (.lst (vs.map encP), .own), some (.int ((wh : Nat) : Int), .frz), some (encP oth, .frz), x8, x9, x10, x11, x12, x13, x14, x15, x16, x17])
    (t := (tName 9)) (b := (cSeq i1 (cSeq i2 (cSeq i3 (cSeq i4 (cFz [4] (cFor (tName 14) (iVar 4) bp)))))))
    (fun _ ρ S2 => TapeAt 0 S2 ∧ ∃ y9 y11 y12 y13 y14 y16, ρ = [some (.scr ns, .brw), some (.cel 0, .frz), some (.int ((many : Nat) : Int), .frz), some (encGs gs, .frz), some (.lst (pts.map encP), .frz), some (.lst (vs.map encP), .own), some (.int ((wh : Nat) : Int), .frz), some (encP oth, .frz), x8, y9, x10, y11, y12, y13, y14, x15, y16, x17]) (fun k hkm _ ρ S1 hI => by
      obtain ⟨t, y9, y11, y12, y13, y14, y16, rfl⟩ := hI
      have hk : k < gs.length := List.mem_range.mp hkm
      obtain ⟨d, S2, e, h0, h1, t2, _⟩ := draw_ok (many := 3) t (by decide) (by decide)
      have hi := ix_L S1 vs hv0
      generalize vs.getD 0 [] = v0 at hl hi
      have hi2 := ix_P S1 v0 k (by omega)
      have hix := ix_gs S2 hk
      have hts : (gs.getD k dG).ts.length ≤ 1000 := by
        have := (hg _ (getD_mem hk)).1.1
        omega
      obtain ⟨v, hv⟩ : ∃ v, v0.getD k 0 + d - 1 = v := ⟨_, rfl⟩
      refine ⟨[some (.scr ns, .brw), some (.cel 0, .frz), some (.int ((many : Nat) : Int), .frz), some (encGs gs, .frz), some (.lst (pts.map encP), .frz), some (.lst (vs.map encP), .own), some (.int ((wh : Nat) : Int), .frz), some (encP oth, .frz), x8, some (.int ((k : Nat) : Int), .frz), x10, y11, y12, y13, y14, x15, y16, x17], ?_⟩
      rw [seq_nx (f := i1) (ρ2 := [some (.scr ns, .brw), some (.cel 0, .frz), some (.int ((many : Nat) : Int), .frz), some (encGs gs, .frz), some (.lst (pts.map encP), .frz), some (.lst (vs.map encP), .own), some (.int ((wh : Nat) : Int), .frz), some (encP oth, .frz), x8, some (.int ((k : Nat) : Int), .frz), x10, some (.int v, .frz), y12, y13, y14, x15, y16, x17]) (S2 := S2) (by
        unfold i1
        rw [draw_eq]
        walk_at "evl"
        rw [hi]
        walk_at "evl"
        rw [hi2]
        walk_at "evl"
        rw [e]
        walk_at "evl"
        rw [hv])]
      rw [seq_nx (f := i2) (ρ2 := [some (.scr ns, .brw), some (.cel 0, .frz), some (.int ((many : Nat) : Int), .frz), some (encGs gs, .frz), some (.lst (pts.map encP), .frz), some (.lst (vs.map encP), .own), some (.int ((wh : Nat) : Int), .frz), some (encP oth, .frz), x8, some (.int ((k : Nat) : Int), .frz), x10, some (.int v, .frz), some (rowOf (gs.getD k dG) v 0, .frz), y13, y14, x15, y16, x17]) (S2 := S2) (by
        unfold i2
        walk_at "ev"
        rw [hix]
        walk_at "ev"
        rw [at_least_row_ok S2 hts]
        walk_at "ev")]
      rw [seq_nx (f := i3) (ρ2 := [some (.scr ns, .brw), some (.cel 0, .frz), some (.int ((many : Nat) : Int), .frz), some (encGs gs, .frz), some (.lst (pts.map encP), .frz), some (.lst (vs.map encP), .own), some (.int ((wh : Nat) : Int), .frz), some (encP oth, .frz), x8, some (.int ((k : Nat) : Int), .frz), x10, some (.int v, .frz), some (rowOf (gs.getD k dG) v 0, .frz), some (rowOf (gs.getD k dG) v 1, .frz), y14, x15, y16, x17]) (S2 := S2) (by
        unfold i3
        walk_at "ev"
        rw [hix]
        walk_at "ev"
        rw [better_row_ok S2 hts]
        walk_at "ev")]
      rw [seq_nx (f := i4) (ρ2 := [some (.scr ns, .brw), some (.cel 0, .frz), some (.int ((many : Nat) : Int), .frz), some (encGs gs, .frz), some (.lst (pts.map encP), .frz), some (.lst (vs.map encP), .own), some (.int ((wh : Nat) : Int), .frz), some (encP oth, .frz), x8, some (.int ((k : Nat) : Int), .frz), x10, some (.int v, .frz), some (rowOf (gs.getD k dG) v 0, .frz), some (rowOf (gs.getD k dG) v 1, .frz), y14, x15, y16, x17]) (S2 := S2) (by
        unfold i4
        walk_at "ev"
        rw [hix]
        walk_at "ev"
        rw [law_row_of_ok S2 hts]
        walk_at "ev"
        rw [gEq_same (okRow _ _ _)]
        walk_at "ev"
        simp only [Bool.bne_true, Bool.not_true, Bool.false_eq_true, if_false]
        rw [hix]
        walk_at "ev"
        rw [law_row_of_ok S2 hts]
        walk_at "ev"
        rw [gEq_same (okRow _ _ _)]
        walk_at "ev"
        simp only [Bool.bne_true, Bool.not_true, Bool.false_eq_true, if_false])]
      obtain ⟨ρ3, S3, e3, rfl, z14, z16, rfl⟩ := for_fold (xs := pts) (enc := encP) (st := fun (_ : Unit) (_ : List Int) => ()) (s := ()) (S := S2) (ρ := [some (.scr ns, .brw), some (.cel 0, .frz), some (.int ((many : Nat) : Int), .frz), some (encGs gs, .frz), some (.lst (pts.map encP), .frz), some (.lst (vs.map encP), .own), some (.int ((wh : Nat) : Int), .frz), some (encP oth, .frz), x8, some (.int ((k : Nat) : Int), .frz), x10, some (.int v, .frz), some (rowOf (gs.getD k dG) v 0, .frz), some (rowOf (gs.getD k dG) v 1, .frz), y14, x15, y16, x17])
        (t := (tName 14)) (b := bp)
        (fun _ ρ S3 => S3 = S2 ∧ ∃ z14 z16, ρ = [some (.scr ns, .brw), some (.cel 0, .frz), some (.int ((many : Nat) : Int), .frz), some (encGs gs, .frz), some (.lst (pts.map encP), .frz), some (.lst (vs.map encP), .own), some (.int ((wh : Nat) : Int), .frz), some (encP oth, .frz), x8, some (.int ((k : Nat) : Int), .frz), x10, some (.int v, .frz), some (rowOf (gs.getD k dG) v 0, .frz), some (rowOf (gs.getD k dG) v 1, .frz), z14, x15, z16, x17]) (fun p hpm _ ρ S3 hI => by
          obtain ⟨rfl, z14, z16, rfl⟩ := hI
          obtain ⟨w16, e4⟩ := bp_ok ns (S := S3) (v := v) (p := p) (pts := pts) (vs := vs) (oth := oth) (wh := wh) (x8 := x8) (x10 := x10) (x15 := x15) (x16 := z16) (x17 := x17) hk hg hm hgl (hp p hpm)
          exact ⟨[some (.scr ns, .brw), some (.cel 0, .frz), some (.int ((many : Nat) : Int), .frz), some (encGs gs, .frz), some (.lst (pts.map encP), .frz), some (.lst (vs.map encP), .own), some (.int ((wh : Nat) : Int), .frz), some (encP oth, .frz), x8, some (.int ((k : Nat) : Int), .frz), x10, some (.int v, .frz), some (rowOf (gs.getD k dG) v 0, .frz), some (rowOf (gs.getD k dG) v 1, .frz), some (encP p, .frz), x15, z16, x17], _, _, by walk_at "ev", e4, rfl, _, _, rfl⟩) ⟨rfl, y14, y16, rfl⟩
      refine ⟨[some (.scr ns, .brw), some (.cel 0, .frz), some (.int ((many : Nat) : Int), .frz), some (encGs gs, .frz), some (.lst (pts.map encP), .frz), some (.lst (vs.map encP), .own), some (.int ((wh : Nat) : Int), .frz), some (encP oth, .frz), x8, some (.int ((k : Nat) : Int), .frz), x10, some (.int v, .frz), some (rowOf (gs.getD k dG) v 0, .frz), some (rowOf (gs.getD k dG) v 1, .frz), z14, x15, z16, x17], S3, by walk_at "ev", ?_, t2, some (.int ((k : Nat) : Int), .frz), some (.int v, .frz), some (rowOf (gs.getD k dG) v 0, .frz), some (rowOf (gs.getD k dG) v 1, .frz), z14, z16, rfl⟩
      rw [q_fz, show [4].foldl frzE [some (.scr ns, .brw), some (.cel 0, .frz), some (.int ((many : Nat) : Int), .frz), some (encGs gs, .frz), some (.lst (pts.map encP), .frz), some (.lst (vs.map encP), .own), some (.int ((wh : Nat) : Int), .frz), some (encP oth, .frz), x8, some (.int ((k : Nat) : Int), .frz), x10, some (.int v, .frz), some (rowOf (gs.getD k dG) v 0, .frz), some (rowOf (gs.getD k dG) v 1, .frz), y14, x15, y16, x17] = [some (.scr ns, .brw), some (.cel 0, .frz), some (.int ((many : Nat) : Int), .frz), some (encGs gs, .frz), some (.lst (pts.map encP), .frz), some (.lst (vs.map encP), .own), some (.int ((wh : Nat) : Int), .frz), some (encP oth, .frz), x8, some (.int ((k : Nat) : Int), .frz), x10, some (.int v, .frz), some (rowOf (gs.getD k dG) v 0, .frz), some (rowOf (gs.getD k dG) v 1, .frz), y14, x15, y16, x17] from rfl]
      walk_at "ev"
      exact e3) ⟨t, x9, x11, x12, x13, x14, x16, rfl⟩
  exact ⟨_, _, _, _, _, _, _, e⟩
end K75
namespace K75
open PySem PySem.Spec PyProof.Rows L2 Mp
local macro_rules | `(tactic| walk_at "ev") => `(tactic| simp -implicitDefEqProofs only [q_lit, q_nil, q_cons, q_var, q_bin, q_tup, q_lst, q_box, q_neg, q_notT, q_andT, q_orT, q_notV, q_andV, q_orV, q_if, q_B, q_ix, q_call, q_bi, q_sl, q_oNone, q_oSome, q_dk, q_dt, q_yesT, q_get2,
  q_lc, q_iExp, q_iVar, q_iEnV, items_tup, items_lst, q_seq, q_skip, q_ret, q_retV, q_ifS, q_asg, q_drop, q_for, q_tName, q_tTup, q_tCons, q_tNil, q_fz, q_frzE, q_app, q_aug, q_setIx, q_wipe0, q_wipe, fin_rt, fin_nx,
  mut_non, mut_bl, mut_int, mut_str, mut_tup, mut_lst, mut_dk, mut_dt, mut_scr, mut_cel, sto_non, sto_bl, sto_int, sto_str, sto_tup, sto_scr, sto_cel, sto_own, sto_frz, md_non, md_bl, md_int, md_str, md_tup, md_lst, md_dk, md_dt, md_scr, md_cel,
  gAdd_int, gAddI_int, gSub_int, gLt_int, gLe_int, gGt_int, gGe_int, gInt_int, gInt_bl, gLen_tup, gLen_lst, gTuple_lst, gTuple_tup, gList_scr, gList_lst, gList_tup, gIx_tup, gIx_lst, gEq_int, gEq_bl, atI_0, atI_1, atI_2,
  bnd_some, Option.map_some, Option.bind_some, List.getElem?_cons_succ, List.getElem?_cons_zero, List.set_cons_succ, List.set_cons_zero, List.foldl_cons, List.foldl_nil, List.map_cons, List.map_nil, List.length_map, List.length_cons, List.length_nil, List.all_cons, List.all_nil, Bool.and_true, Bool.true_and, and_true, true_and, false_and, and_false,
  md_row, md_encT, md_encG, md_encP, md_encGs, sto_row, sto_encT, sto_encG, sto_encP, sto_encGs, row_1, row_2, g_0, it_gs, it_ts, len_gs, reduceCtorEq, if_false, if_true, ite_true, ite_false, Bool.false_eq_true])

theorem r12_ok (ns : List Int) {gs : List Gl} {pts vs : List (List Int)} {oth : List Int} {many wh : Nat} {S : Store} {x8 x9 x10 x11 x12 x13 x14 x15 x16 x17 : Option (W × Md)} (hg : GOk3 many gs) (hm : many ≤ 60) : ∃ m, r12 [some (.scr ns, .brw), some (.cel 0, .frz), some (.int ((many : Nat) : Int), .frz), some (encGs gs, .frz), some (.lst (pts.map encP), .frz), some (.lst (vs.map encP), .own), some (.int ((wh : Nat) : Int), .frz), some (encP oth, .frz), x8, x9, x10, x11, x12, x13, x14, x15, x16, x17] S = some (.rt (.bl true, m) S) := by
  refine ⟨.own, ?_⟩
  unfold r12
  walk_at "ev"
  rw [joint_terms_ok S hg hm]
  walk_at "ev"
  rw [law_joint_ok S hg hm]
  walk_at "ev"
  rw [gEq_same (okT _ 62)]
  walk_at "ev"
  rfl
theorem law_true (ns : List Int) (h : ns.length ≤ 63) : ∃ md S', m_law [.scr ns] [] = some ((.bl true, md), S') := by
  unfold m_law
  rw [cFn_run (by rfl)]
  show ∃ md S', fin (c_law [some (.scr ns, .brw), none, none, none, none, none, none, none, none, none, none, none, none, none, none, none, none, none] []) = _
  rw [law_seq]
  obtain ⟨S1, e1, t1⟩ := r1_ok ns
  rw [seq_nx e1]
  obtain ⟨many, S2, e2, t2, h1, h60⟩ := r23_ok ns t1 _
  rw [e2]
  obtain ⟨gs, S3, e3, t3, hg, hg1, hg3⟩ := r4_ok ns t2 h60
  rw [seq_nx e3]
  obtain ⟨pts, S4, e4, t4, hp3, hp⟩ := r5_ok ns (gs := gs) t3 h60
  rw [seq_nx e4, seq_nx (r6_ok ns S4 hg h60 hg3 hp3 hp), seq_nx (r7_ok ns S4 hg h60 hg3 hp3 hp)]
  obtain ⟨wh, S5, e5, t5, hw⟩ := r8_ok ns (many := many) (pts := pts) (vs := pts.map (gains gs)) t4 hg1 hg3
  rw [seq_nx e5]
  have hv : ∀ v ∈ pts.map (gains gs), v.length = gs.length := fun v hv => by
    obtain ⟨p, _, rfl⟩ := List.mem_map.mp hv
    exact gains_len gs p
  have hvl : (pts.map (gains gs)).length = 3 := by rw [List.length_map, hp3]
  obtain ⟨oth, S6, e6, t6, ho⟩ := r9_ok ns (many := many) (pts := pts) t5 hg3 hw (by omega) hv
  rw [seq_nx e6]
  obtain ⟨y8, y10, y15, e7⟩ := r10_ok ns (gs := gs) (pts := pts) (vs := pts.map (gains gs)) (oth := oth) (many := many) (wh := wh) (S := S6) (x8 := none) (x9 := none) (x10 := none) (x11 := none) (x12 := none) (x13 := none) (x14 := none) (x15 := none) (x16 := none) (x17 := none) hg3 (fun v hv' => by
    rcases List.mem_append.mp hv' with h | h
    · exact hv v h
    · rw [List.mem_singleton.mp h]; exact ho) (by omega)
  rw [seq_nx e7]
  obtain ⟨S7, y9, y11, y12, y13, y14, y16, e8⟩ := r11_ok ns (gs := gs) (pts := pts) (vs := pts.map (gains gs)) (oth := oth) (many := many) (wh := wh) (S := S6) (x8 := y8) (x9 := none) (x10 := y10) (x11 := none) (x12 := none) (x13 := none) (x14 := none) (x15 := y15) (x16 := none) (x17 := none) t6 hg h60 hg3 (by omega) hv hp
  rw [seq_nx e8]
  obtain ⟨m, e9⟩ := r12_ok ns (gs := gs) (pts := pts) (vs := pts.map (gains gs)) (oth := oth) (many := many) (wh := wh) (S := S7) (x8 := y8) (x9 := y9) (x10 := y10) (x11 := y11) (x12 := y12) (x13 := y13) (x14 := y14) (x15 := y15) (x16 := y16) (x17 := none) hg h60
  rw [e9]
  exact ⟨m, S7, by rw [fin_rt]; rfl⟩
end K75
namespace K75
open PySem PySem.Spec PyProof.Rows L2 Mp
theorem hsp (K : PySem.W.Frag) (H : Hp) (a : Addr) (ns : List Int) (hl : ns.length ≤ 63) (hO : Only H) (hS : SqL K H a (ns.map V.int)) : spF K 1 m_law [.ref a] H (fun v _ => v = .bl true) fun _ _ _ => False := by
  obtain ⟨md, S', h⟩ := law_true ns hl
  refine ⟨[.scr ns], [], [], fun _ => False, (.bl true, md), S', ⟨.nil, .nil, fun _ z => z.elim, fun _ z => z.elim⟩, rfl, .cons (.im rfl (.scr ?_)) .nil, h, fun v H' α' Z' _ _ g => g.rep.ofBl⟩
  rcases hS with (hS | hS) | hS
  · rcases hO a with e | ⟨o, xs, e⟩
    · rw [hS] at e; cases e
    · rw [hS] at e; cases e
  · exact .inl hS
  · exact .inr hS
end K75
open PySem PySem.W PyProof.Rows
set_option maxHeartbeats 0 in
theorem PySem.Challenge.cw_commonfront_k75_values_of_goals_holds : PySem.Challenge.rw_commonfront_k75_values_of_goals.Holds := by
  w_on; o_law; k_head; (case hw => w_witness2)
  k_fill
  refine L2.walk_of (l := PySem.Challenge.rw_commonfront_k75_values_of_goals) (n := 63) (k := 4) (x := "script") (CX := fun _ => L2.CX0) (sp := fun w => Mp.spF _ 1 K75.m_law) rfl (by decide) rfl ⟨rfl, by decide, by decide⟩ (fun w h Y => PySem.W.kIn_of Y) ?F (fun _ H a ns hl hO hS => K75.hsp _ H a ns hl hO hS) (fun _ _ _ _ _ h => h)
  case F =>
    intro w mg fa h KX G hmg
    refine' K75.all_mk KX G hmg ?a0 ?l0 ?c0 ?k0 ?a1 ?l1 ?c1 ?k1 ?a2 ?l2 ?c2 ?k2 ?a3 ?l3 ?c3 ?k3 ?a4 ?l4 ?c4 ?k4 ?a5 ?l5 ?c5 ?k5 ?a6 ?l6 ?c6 ?k6 ?a7 ?l7 ?c7 ?k7 ?a8 ?l8 ?c8 ?k8 ?a9 ?l9 ?c9 ?k9 ?a10 ?l10 ?c10 ?k10 ?a11 ?l11 ?c11 ?k11 ?a12 ?l12 ?c12 ?k12 ?a13 ?l13 ?c13 ?k13 ?a14 ?l14 ?c14 ?k14 ?a15 ?l15 ?c15 ?k15 ?a16 ?l16 ?c16 ?k16 ?a17 ?l17 ?c17 ?k17 ?a18 ?l18 ?c18 ?k18 ?z_bool ?z_enumerate ?z_int ?z_isinstance ?z_len ?z_list ?z_range ?z_sorted ?z_tuple
    (case a0 => k_is); (case l0 => k_is); (case c0 => k_is); (case k0 => k_is); (case a1 => k_is); (case l1 => k_is); (case c1 => k_is); (case k1 => k_is); (case a2 => k_is); (case l2 => k_is); (case c2 => k_is); (case k2 => k_is); (case a3 => k_is); (case l3 => k_is); (case c3 => k_is); (case k3 => k_is); (case a4 => k_is); (case l4 => k_is); (case c4 => k_is); (case k4 => k_is); (case a5 => k_is); (case l5 => k_is); (case c5 => k_is); (case k5 => k_is); (case a6 => k_is); (case l6 => k_is); (case c6 => k_is); (case k6 => k_is); (case a7 => k_is); (case l7 => k_is); (case c7 => k_is); (case k7 => k_is); (case a8 => k_is); (case l8 => k_is); (case c8 => k_is); (case k8 => k_is); (case a9 => k_is); (case l9 => k_is); (case c9 => k_is); (case k9 => k_is); (case a10 => k_is); (case l10 => k_is); (case c10 => k_is); (case k10 => k_is); (case a11 => k_is); (case l11 => k_is); (case c11 => k_is); (case k11 => k_is); (case a12 => k_is); (case l12 => k_is); (case c12 => k_is); (case k12 => k_is); (case a13 => k_is); (case l13 => k_is); (case c13 => k_is); (case k13 => k_is); (case a14 => k_is); (case l14 => k_is); (case c14 => k_is); (case k14 => k_is); (case a15 => k_is); (case l15 => k_is); (case c15 => k_is); (case k15 => k_is); (case a16 => k_is); (case l16 => k_is); (case c16 => k_is); (case k16 => k_is); (case a17 => k_is); (case l17 => k_is); (case c17 => k_is); (case k17 => k_is); (case a18 => k_is); (case l18 => k_is); (case c18 => k_is); (case k18 => k_is); (case z_bool => k_is); (case z_enumerate => k_is); (case z_int => k_is); (case z_isinstance => k_is); (case z_len => k_is); (case z_list => k_is); (case z_range => k_is); (case z_sorted => k_is); (case z_tuple => k_is)
