import PyProof.Rows.All
import HandS.ForMost
import HandS.TupAny
import HandS.Deep
import HandS.Wide
import HandS.More
import HandS.IsInst
import KE.GoesEnum
import HandS.SetFor
import HandS.Strs
import PySem.Challenge.RW_commonfront_k76_bodies_seen_to_hold
set_option Elab.async false
set_option linter.all false
set_option maxRecDepth 100000
set_option maxHeartbeats 4000000
/-! a big-step evaluator of Python as plain Lean functions on inline data, over the layer HandS -/
namespace Mp
open PySem PySem.Spec PyProof.Rows L2

/-! ### values of the evaluator -/
inductive W where
  | non | bl (b : Bool) | int (i : Int) | str (x : Str)
  | tup (ws : List W) | lst (ws : List W) | dk (kvs : List (Key × W)) | dt (kvs : List (List Key × W)) | scr (ns : List Int)
  | cel (n : Nat) | ty (n : String)
/-- who may write the root: own: this name alone; frz: nobody any more; brw: not I -/
inductive Md where
  | own | frz | brw
  deriving DecidableEq
def W.mut : W → Bool
  | .lst _ => true
  | .dk _ => true
  | .dt _ => true
  | _ => false
abbrev Store := List (List W)
abbrev Wm := W × Md
abbrev Env := List (Option Wm)

/-! ### what stands where -/
inductive Shape : HO → W → List V → List W → Prop
  | lst (xs : List V) (ws : List W) : Shape (.lst xs) (.lst ws) xs ws
  | dk {kvs : List (Key × V)} {kws : List (Key × W)} : kvs.map (·.1) = kws.map (·.1) → Shape (.dK kvs) (.dk kws) (kvs.map (·.2)) (kws.map (·.2))
  | dt {kvs : List (List Key × V)} {kws : List (List Key × W)} : kvs.map (·.1) = kws.map (·.1) → Shape (.dT kvs) (.dt kws) (kvs.map (·.2)) (kws.map (·.2))
theorem Shape.mut {o : HO} {w : W} {xs ws} (s : Shape o w xs ws) : w.mut = true := by cases s <;> rfl
theorem Shape.ntup {o : HO} {w : W} {xs ws} (s : Shape o w xs ws) : ∀ ys, o ≠ .tup ys := by cases s <;> (intro ys e; cases e)

/-- a list that nobody writes: the script -/
def SqF (K : PySem.W.Frag) (H : Hp) (a : Addr) (xs : List V) : Prop :=
  (∃ o, H a = some (.frz o (.lst xs))) ∨
    ∃ (o : Obj) (its : Array Value) (n : Nat), K.lookup a = some o ∧ o.cls = .type "list" ∧ o.dict = none ∧ o.data = .seq its n ∧ its.size ≤ sizeLine ∧ Vals xs its.toList
theorem SqF.sqL {K : PySem.W.Frag} {H : Hp} {a : Addr} {xs : List V} (h : SqF K H a xs) : SqL K H a xs := by
  rcases h with ⟨o, h⟩ | h
  · exact .inl (.inr ⟨o, h⟩)
  · exact .inr h
mutual
inductive Rep (K : PySem.W.Frag) (α : List Addr) (Z : Addr → Prop) (H : Hp) : V → W → Prop
  | non : Rep K α Z H .non .non
  | bl (b : Bool) : Rep K α Z H (.bl b) (.bl b)
  | int (i : Int) : Rep K α Z H (.int i) (.int i)
  | str (x : Str) : Rep K α Z H (.str x) (.str x)
  | tup {a : Addr} {xs : List V} {ws : List W} : H a = some (.tup xs) → RepL K α Z H xs ws → Rep K α Z H (.ref a) (.tup ws)
  | mu {a : Addr} {o : HO} {w : W} {xs : List V} {ws : List W} : H a = some o → Z a → Shape o w xs ws → RepL K α Z H xs ws → Rep K α Z H (.ref a) w
  | scr {a : Addr} {ns : List Int} : SqF K H a (ns.map V.int) → Rep K α Z H (.ref a) (.scr ns)
  | cel {a : Addr} {n : Nat} : α[n]? = some a → Rep K α Z H (.ref a) (.cel n)
  | ty (n : String) : Rep K α Z H (.ty n) (.ty n)
inductive RepL (K : PySem.W.Frag) (α : List Addr) (Z : Addr → Prop) (H : Hp) : List V → List W → Prop
  | nil : RepL K α Z H [] []
  | cons {v : V} {w : W} {vs : List V} {ws : List W} : Rep K α Z H v w → RepL K α Z H vs ws → RepL K α Z H (v :: vs) (w :: ws)
end

inductive RepM (K : PySem.W.Frag) (α : List Addr) (Z : Addr → Prop) (H : Hp) : Md → V → W → Prop
  | im {m : Md} {v : V} {w : W} : w.mut = false → Rep K α Z H v w → RepM K α Z H m v w
  | mu {m : Md} {a : Addr} {o : HO} {w : W} {xs : List V} {ws : List W} : H a = some o → Shape o w xs ws → RepL K α Z H xs ws → a ∉ α → (m = .own → ¬ Z a) → (m = .frz → Z a) → RepM K α Z H m (.ref a) w

/-- one step of the world: all that is not a cell is kept -/
structure Keep (H : Hp) (α : List Addr) (Z : Addr → Prop) (H' : Hp) (α' : List Addr) (Z' : Addr → Prop) : Prop where
  al : ∃ nw : List Addr, α' = α ++ nw ∧ ∀ a ∈ nw, H a = none
  h : ∀ a o, H a = some o → a ∉ α → H' a = some o
  d : ∀ a, H' a = none → H a = none
  z : ∀ a, Z a → Z' a
  z' : ∀ a, Z' a → Z a ∨ H a = none

structure WOk (K : PySem.W.Frag) (H : Hp) (S : Store) (α : List Addr) (Z : Addr → Prop) : Prop where
  nd : α.Nodup
  cells : Paired (fun a ws => ∃ xs, H a = some (.lst xs) ∧ RepL K α Z H xs ws) α S
  zα : ∀ a, Z a → a ∉ α
  zH : ∀ a, Z a → H a ≠ none

section
variable {K : PySem.W.Frag} {α α' α2 : List Addr} {Z Z' Z2 : Addr → Prop} {H H' H2 : Hp} {S S' : Store} {m : Md} {v : V} {w : W} {vs : List V} {ws : List W}

theorem WOk.cell (w : WOk K H S α Z) {a : Addr} (h : a ∈ α) : ∃ xs, H a = some (.lst xs) := by
  have go : ∀ {α0 : List Addr} {S0 : Store}, Paired (fun a ws => ∃ xs, H a = some (.lst xs) ∧ RepL K α Z H xs ws) α0 S0 → a ∈ α0 → ∃ xs, H a = some (.lst xs) := by
    intro α0 S0 p
    induction p with
    | nil => intro h; cases h
    | cons r t ih =>
      intro h
      rcases List.mem_cons.mp h with e | h
      · subst e; obtain ⟨xs, e, _⟩ := r; exact ⟨xs, e⟩
      · exact ih h
  exact go w.cells h
theorem Keep.refl : Keep H α Z H α Z := ⟨⟨[], by simp, by simp⟩, fun _ _ h _ => h, fun _ h => h, fun _ h => h, fun _ h => .inl h⟩
theorem Keep.trans (a : Keep H α Z H' α' Z') (b : Keep H' α' Z' H2 α2 Z2) : Keep H α Z H2 α2 Z2 := by
  obtain ⟨n1, e1, f1⟩ := a.al
  obtain ⟨n2, e2, f2⟩ := b.al
  refine ⟨⟨n1 ++ n2, by rw [e2, e1, List.append_assoc], fun x hx => ?_⟩, fun x o h hn => ?_, fun x h => a.d x (b.d x h), fun x h => b.z x (a.z x h), fun x h => ?_⟩
  · rcases List.mem_append.mp hx with h | h
    · exact f1 x h
    · exact a.d x (f2 x h)
  · refine b.h x o (a.h x o h hn) fun hx => ?_
    rw [e1] at hx
    rcases List.mem_append.mp hx with h' | h'
    · exact hn h'
    · rw [f1 x h'] at h; cases h
  · rcases b.z' x h with h | h
    · exact a.z' x h
    · exact .inr (a.d x h)
theorem Keep.notin (k : Keep H α Z H' α' Z') {a : Addr} {o : HO} (h : H a = some o) (hn : a ∉ α) : a ∉ α' := by
  obtain ⟨n1, e1, f1⟩ := k.al
  intro hx
  rw [e1] at hx
  rcases List.mem_append.mp hx with h' | h'
  · exact hn h'
  · rw [f1 a h'] at h; cases h
theorem Keep.tup (k : Keep H α Z H' α' Z') (hc : ∀ a ∈ α, ∃ xs, H a = some (.lst xs)) {a : Addr} {xs : List V} (h : H a = some (.tup xs)) : H' a = some (.tup xs) :=
  k.h _ _ h fun hx => by
    obtain ⟨ys, e⟩ := hc a hx
    rw [h] at e; cases e
theorem Keep.sqF (k : Keep H α Z H' α' Z') (hc : ∀ a ∈ α, ∃ xs, H a = some (.lst xs)) {a : Addr} {xs : List V} (h : SqF K H a xs) : SqF K H' a xs := by
  rcases h with ⟨o, h⟩ | h
  · refine .inl ⟨o, k.h _ _ h fun hx => ?_⟩
    obtain ⟨ys, e⟩ := hc a hx
    rw [h] at e; cases e
  · exact .inr h

mutual
/-- a value stays through a step -/
theorem Rep.keep0 (hc : ∀ a ∈ α, ∃ xs, H a = some (.lst xs)) (hz : ∀ a, Z a → a ∉ α) (k : Keep H α Z H' α' Z') : ∀ {v : V} {w : W}, Rep K α Z H v w → Rep K α' Z' H' v w
  | _, _, .non => .non
  | _, _, .bl b => .bl b
  | _, _, .int i => .int i
  | _, _, .str x => .str x
  | _, _, .ty n => .ty n
  | _, _, .tup h r => .tup (k.tup hc h) (RepL.keep0 hc hz k r)
  | _, _, .mu h z s r => .mu (k.h _ _ h (hz _ z)) (k.z _ z) s (RepL.keep0 hc hz k r)
  | _, _, .scr h => .scr (k.sqF hc h)
  | _, _, .cel h => .cel (by
      obtain ⟨n1, e1, _⟩ := k.al
      rw [e1, List.getElem?_append_left (List.getElem?_eq_some_iff.mp h).1]
      exact h)
theorem RepL.keep0 (hc : ∀ a ∈ α, ∃ xs, H a = some (.lst xs)) (hz : ∀ a, Z a → a ∉ α) (k : Keep H α Z H' α' Z') : ∀ {vs : List V} {ws : List W}, RepL K α Z H vs ws → RepL K α' Z' H' vs ws
  | _, _, .nil => .nil
  | _, _, .cons r t => .cons (Rep.keep0 hc hz k r) (RepL.keep0 hc hz k t)
end

theorem Rep.keep (o : WOk K H S α Z) (k : Keep H α Z H' α' Z') (r : Rep K α Z H v w) : Rep K α' Z' H' v w := r.keep0 (fun _ h => o.cell h) o.zα k
theorem RepL.keep (o : WOk K H S α Z) (k : Keep H α Z H' α' Z') (r : RepL K α Z H vs ws) : RepL K α' Z' H' vs ws := r.keep0 (fun _ h => o.cell h) o.zα k
theorem RepM.keep (o : WOk K H S α Z) (k : Keep H α Z H' α' Z') (r : RepM K α Z H m v w) : RepM K α' Z' H' m v w := by
  cases r with
  | im e r => exact .im e (r.keep o k)
  | mu h s r hn h1 h2 =>
    refine .mu (k.h _ _ h hn) s (r.keep o k) (k.notin h hn) (fun e z => ?_) fun e => k.z _ (h2 e)
    rcases k.z' _ z with z | z
    · exact h1 e z
    · rw [h] at z; cases z
theorem Rep.toM (o : WOk K H S α Z) (r : Rep K α Z H v w) : RepM K α Z H .frz v w := by
  by_cases e : w.mut = true
  · cases r with
    | mu h z s r => exact .mu h s r (o.zα _ z) (fun e => by cases e) fun _ => z
    | _ => cases e
  · exact .im (by simpa using e) r
theorem Rep.im (r : Rep K α Z H v w) (e : w.mut = false) : RepM K α Z H m v w := .im e r
theorem RepM.rep (r : RepM K α Z H .frz v w) : Rep K α Z H v w := by
  cases r with
  | im _ r => exact r
  | mu h s r _ _ h2 => exact .mu h (h2 rfl) s r
theorem RepM.repI (r : RepM K α Z H m v w) (e : w.mut = false) : Rep K α Z H v w := by
  cases r with
  | im _ r => exact r
  | mu h s r _ _ h2 => rw [s.mut] at e; cases e
theorem RepM.muE (r : RepM K α Z H m v w) (h : w.mut = true) : ∃ a o xs ws, v = .ref a ∧ H a = some o ∧ Shape o w xs ws ∧ RepL K α Z H xs ws ∧ a ∉ α ∧ (m = .own → ¬ Z a) ∧ (m = .frz → Z a) := by
  cases r with
  | im e _ => rw [h] at e; cases e
  | mu h s r hn h1 h2 => exact ⟨_, _, _, _, rfl, h, s, r, hn, h1, h2⟩
theorem RepM.brw (r : RepM K α Z H m v w) : RepM K α Z H .brw v w := by
  cases r with
  | im e r => exact .im e r
  | mu h s r hn _ _ => exact .mu h s r hn (fun e => by cases e) fun e => by cases e
theorem RepL.length (r : RepL K α Z H vs ws) : vs.length = ws.length := by
  induction ws generalizing vs with
  | nil => cases r; rfl
  | cons w ws ih => cases r with | cons r t => simp [ih t]
theorem RepL.get : ∀ {vs : List V} {ws : List W} {i : Nat} {w : W}, RepL K α Z H vs ws → ws[i]? = some w → ∃ v, vs[i]? = some v ∧ Rep K α Z H v w
  | _, _, _, _, .nil, e => by simp at e
  | _, _, 0, _, .cons r _, e => by simp at e; subst e; exact ⟨_, rfl, r⟩
  | _, _, i + 1, w, .cons _ t, e => by
    obtain ⟨u, h1, h2⟩ := RepL.get (i := i) (w := w) t (by simpa using e)
    exact ⟨u, by simpa using h1, h2⟩
theorem RepL.append : ∀ {vs vs' : List V} {ws ws' : List W}, RepL K α Z H vs ws → RepL K α Z H vs' ws' → RepL K α Z H (vs ++ vs') (ws ++ ws')
  | _, _, _, _, .nil, s => s
  | _, _, _, _, .cons r t, s => .cons r (RepL.append t s)
theorem RepL.take : ∀ {vs : List V} {ws : List W} (n : Nat), RepL K α Z H vs ws → RepL K α Z H (vs.take n) (ws.take n)
  | _, _, 0, _ => .nil
  | _, _, _ + 1, .nil => .nil
  | _, _, n + 1, .cons r t => .cons r (RepL.take n t)
theorem RepL.drop : ∀ {vs : List V} {ws : List W} (n : Nat), RepL K α Z H vs ws → RepL K α Z H (vs.drop n) (ws.drop n)
  | _, _, 0, r => r
  | _, _, _ + 1, .nil => .nil
  | _, _, n + 1, .cons _ t => RepL.drop n t
theorem RepL.set {x : V} {u : W} (r : Rep K α Z H x u) : ∀ {xs : List V} {us : List W} (i : Nat), RepL K α Z H xs us → RepL K α Z H (xs.set i x) (us.set i u)
  | _, _, _, .nil => .nil
  | _, _, 0, .cons _ t => .cons r t
  | _, _, i + 1, .cons q t => .cons q (RepL.set r i t)
theorem Keep.new {p : Addr} {o : HO} (hp : H p = none) : Keep H α Z (upd H p o) α Z :=
  ⟨⟨[], by simp, by simp⟩, fun a u h _ => by rw [upd_ne (ne_of_none h hp)]; exact h, fun a h => by
    by_cases e : a = p
    · rw [e]; exact hp
    · rw [upd_ne e] at h; exact h, fun _ h => h, fun _ h => .inl h⟩
theorem Paired.impM {A B : Type} {F G : A → B → Prop} : ∀ {l₁ : List A} {l₂ : List B}, Paired F l₁ l₂ → (∀ a b, a ∈ l₁ → F a b → G a b) → Paired G l₁ l₂
  | _, _, .nil, _ => .nil
  | _, _, .cons r t, f => .cons (f _ _ List.mem_cons_self r) (Paired.impM t fun a b h => f a b (List.mem_cons_of_mem _ h))
theorem WOk.new {p : Addr} {u : HO} (o : WOk K H S α Z) (hp : H p = none) : WOk K (upd H p u) S α Z := by
  refine ⟨o.nd, Paired.impM o.cells fun a ws _ ⟨xs, h, r⟩ => ⟨xs, ?_, r.keep o (Keep.new hp)⟩, o.zα, fun a z => ?_⟩
  · rw [upd_ne (ne_of_none h hp)]; exact h
  · have := o.zH a z
    by_cases e : a = p
    · rw [e, upd_same]; simp
    · rw [upd_ne e]; exact this
theorem WOk.nZ {p : Addr} (o : WOk K H S α Z) (hp : H p = none) : ¬ Z p := fun z => o.zH p z hp
theorem WOk.nα {p : Addr} (o : WOk K H S α Z) (hp : H p = none) : p ∉ α := fun z => by
  obtain ⟨xs, e⟩ := o.cell z
  rw [hp] at e; cases e

mutual
theorem Rep.put0 {p : Addr} {u : HO} (hc : ∀ xs, H p ≠ some (.tup xs)) (hf : ∀ o t, H p ≠ some (.frz o t)) (nz : ¬ Z p) : ∀ {v : V} {w : W}, Rep K α Z H v w → Rep K α Z (upd H p u) v w
  | _, _, .non => .non
  | _, _, .bl b => .bl b
  | _, _, .int i => .int i
  | _, _, .str x => .str x
  | _, _, .ty n => .ty n
  | _, _, .tup h r => .tup (by rw [upd_ne (by rintro rfl; exact hc _ h)]; exact h) (RepL.put0 hc hf nz r)
  | _, _, .mu h z s r => .mu (by rw [upd_ne (by rintro rfl; exact nz z)]; exact h) z s (RepL.put0 hc hf nz r)
  | _, _, .scr h => .scr (by
      rcases h with ⟨o, h⟩ | h
      · exact .inl ⟨o, by rw [upd_ne (by rintro rfl; exact hf _ _ h)]; exact h⟩
      · exact .inr h)
  | _, _, .cel h => .cel h
theorem RepL.put0 {p : Addr} {u : HO} (hc : ∀ xs, H p ≠ some (.tup xs)) (hf : ∀ o t, H p ≠ some (.frz o t)) (nz : ¬ Z p) : ∀ {vs : List V} {ws : List W}, RepL K α Z H vs ws → RepL K α Z (upd H p u) vs ws
  | _, _, .nil => .nil
  | _, _, .cons r t => .cons (Rep.put0 hc hf nz r) (RepL.put0 hc hf nz t)
end
/-- what may be written at p, nothing else leans on it -/
theorem RepL.put {p : Addr} {o u : HO} {w0 : W} {xs0 : List V} {ws0 : List W} (_ : WOk K H S α Z) (nz : ¬ Z p) (h : H p = some o) (s : Shape o w0 xs0 ws0 := by exact .lst _ []) (r : RepL K α Z H vs ws) : RepL K α Z (upd H p u) vs ws :=
  r.put0 (fun ys e => by rw [h] at e; cases e; exact s.ntup _ rfl) (fun a t e => by rw [h] at e; cases e; cases s) nz
theorem WOk.put {p : Addr} {o u : HO} {w0 : W} {xs0 : List V} {ws0 : List W} (wo : WOk K H S α Z) (nz : ¬ Z p) (nα : p ∉ α) (h : H p = some o) (s : Shape o w0 xs0 ws0 := by exact .lst _ []) : WOk K (upd H p u) S α Z :=
  ⟨wo.nd, Paired.impM wo.cells fun a ws ha ⟨xs, h', r⟩ => ⟨xs, by rw [upd_ne (by rintro rfl; exact nα ha)]; exact h', RepL.put wo nz h s r⟩, wo.zα, fun a z => by
    rw [upd_ne (by rintro rfl; exact nz z)]; exact wo.zH a z⟩

/-! ### the frame's names -/
structure EnvOk (K : PySem.W.Frag) (α : List Addr) (Z : Addr → Prop) (H : Hp) (ρ : Env) (σ : L2.St) : Prop where
  len : ρ.length = σ.length
  slot : ∀ (i : Nat) w m, ρ[i]? = some (some (w, m)) → ∃ v, σ[i]? = some (some v) ∧ RepM K α Z H m v w
  sep : ∀ (i j : Nat) w w' m', i ≠ j → ρ[i]? = some (some (w, Md.own)) → w.mut = true → ρ[j]? = some (some (w', m')) → w'.mut = true → σ[i]? ≠ σ[j]?
theorem EnvOk.keep {ρ : Env} {σ : L2.St} (o : WOk K H S α Z) (k : Keep H α Z H' α' Z') (e : EnvOk K α Z H ρ σ) : EnvOk K α' Z' H' ρ σ :=
  ⟨e.len, fun i w m h => let ⟨v, h1, r⟩ := e.slot i w m h; ⟨v, h1, r.keep o k⟩, e.sep⟩

/-- what came of an expression -/
structure Got (K : PySem.W.Frag) (H0 : Hp) (α : List Addr) (Z : Addr → Prop) (H : Hp) (r : Wm) (v : V) : Prop where
  rep : RepM K α Z H r.2 v r.1
  fr : r.2 = .own → r.1.mut = true → ∀ a, v = .ref a → H0 a = none
theorem Got.keep {r : Wm} {H0 : Hp} (o : WOk K H S α Z) (k : Keep H α Z H' α' Z') (g : Got K H0 α Z H r v) : Got K H0 α' Z' H' r v := ⟨g.rep.keep o k, g.fr⟩
theorem Got.back {r : Wm} {H0 H1 : Hp} (d : ∀ a, H1 a = none → H0 a = none) (g : Got K H1 α Z H r v) : Got K H0 α Z H r v := ⟨g.rep, fun a b c e => d _ (g.fr a b c e)⟩
theorem Got.im {w : W} {m : Md} {H0 : Hp} (r : Rep K α Z H v w) (e : w.mut = false) : Got K H0 α Z H (w, m) v := ⟨.im e r, fun _ h => by rw [e] at h; cases h⟩
end

section
variable {K : PySem.W.Frag} {α : List Addr} {Z : Addr → Prop} {H : Hp} {m : Md} {v : V}
theorem RepM.ofBl {b : Bool} (r : RepM K α Z H m v (.bl b)) : v = .bl b := by
  have r := r.repI rfl
  cases r with
  | bl => rfl
  | mu _ _ s _ => cases s
theorem RepM.ofInt {i : Int} (r : RepM K α Z H m v (.int i)) : v = .int i := by
  have r := r.repI rfl
  cases r with
  | int => rfl
  | mu _ _ s _ => cases s
theorem RepM.ofStr {x : Str} (r : RepM K α Z H m v (.str x)) : v = .str x := by
  have r := r.repI rfl
  cases r with
  | str => rfl
  | mu _ _ s _ => cases s
theorem RepM.ofNon (r : RepM K α Z H m v .non) : v = .non := by
  have r := r.repI rfl
  cases r with
  | non => rfl
  | mu _ _ s _ => cases s
theorem RepM.ofTup {ws : List W} (r : RepM K α Z H m v (.tup ws)) : ∃ a xs, v = .ref a ∧ H a = some (.tup xs) ∧ RepL K α Z H xs ws := by
  have r := r.repI rfl
  cases r with
  | tup h r => exact ⟨_, _, rfl, h, r⟩
  | mu _ _ s _ => cases s
theorem RepM.ofScr {ns : List Int} (r : RepM K α Z H m v (.scr ns)) : ∃ a, v = .ref a ∧ SqL K H a (ns.map V.int) := by
  have r := r.repI rfl
  cases r with
  | scr h => exact ⟨_, rfl, h.sqL⟩
  | mu _ _ s _ => cases s
theorem RepM.ofCel {n : Nat} (r : RepM K α Z H m v (.cel n)) : ∃ a, v = .ref a ∧ α[n]? = some a := by
  have r := r.repI rfl
  cases r with
  | cel h => exact ⟨_, rfl, h⟩
  | mu _ _ s _ => cases s
theorem RepM.ofLst {ws : List W} (r : RepM K α Z H m v (.lst ws)) : ∃ a xs, v = .ref a ∧ H a = some (.lst xs) ∧ RepL K α Z H xs ws ∧ a ∉ α ∧ (m = .own → ¬ Z a) ∧ (m = .frz → Z a) := by
  cases r with
  | im e _ => cases e
  | mu h s r hn h1 h2 => cases s; exact ⟨_, _, rfl, h, r, hn, h1, h2⟩
end

abbrev CE := Env → Store → Option (Wm × Store)
abbrev CT := Env → Store → Option (Bool × Store)
abbrev CA := Env → Store → Option (List Wm × Store)
def semE (K : PySem.W.Frag) (f : CE) : TE := fun σ H Q => ∃ ρ S α Z r S', WOk K H S α Z ∧ EnvOk K α Z H ρ σ ∧ f ρ S = some (r, S') ∧
  ∀ v H' α' Z', Keep H α Z H' α' Z' → WOk K H' S' α' Z' → Got K H α' Z' H' r v → Q v H'
def semT (K : PySem.W.Frag) (f : CT) : TT := fun σ H Q => ∃ ρ S α Z b S', WOk K H S α Z ∧ EnvOk K α Z H ρ σ ∧ f ρ S = some (b, S') ∧
  ∀ H' α' Z', Keep H α Z H' α' Z' → WOk K H' S' α' Z' → Q b H'
def semA (K : PySem.W.Frag) (f : CA) : TA := fun σ H Q => ∃ ρ S α Z rs S', WOk K H S α Z ∧ EnvOk K α Z H ρ σ ∧ f ρ S = some (rs, S') ∧
  ∀ vs H' α' Z', Keep H α Z H' α' Z' → WOk K H' S' α' Z' → Paired (Got K H α' Z' H') rs vs → Q vs H'
abbrev EE (X : Cx) (e : Expr) (f : CE) : Prop := PE X e (semE X.K f)
abbrev ET (X : Cx) (e : Expr) (f : CT) : Prop := PT X e (semT X.K f)
abbrev EA (X : Cx) (es : List Expr) (f : CA) : Prop := PA X es (semA X.K f)
theorem PE.cons {X : Cx} {e : Expr} {t t' : TE} (h : PE X e t) (i : ∀ σ H Q, t' σ H Q → t σ H Q) : PE X e t' := ⟨fun pins s σ H Q I q => h.run pins s σ H Q I (i σ H Q q)⟩
theorem PT.cons {X : Cx} {e : Expr} {t t' : TT} (h : PT X e t) (i : ∀ σ H Q, t' σ H Q → t σ H Q) : PT X e t' := ⟨fun pins s σ H Q I q => h.run pins s σ H Q I (i σ H Q q)⟩
theorem PA.cons {X : Cx} {es : List Expr} {t t' : TA} (h : PA X es t) (i : ∀ σ H Q, t' σ H Q → t σ H Q) : PA X es t' := ⟨fun pos pins s σ H Q I q => h.run pos pins s σ H Q I (i σ H Q q)⟩

/-! ### names and constants -/
def cVar (i : Nat) : CE := fun ρ S => match ρ[i]? with
  | some (some (w, m)) => some ((w, if m = .own then .brw else m), S)
  | _ => none
def cLit (w : W) : CE := fun _ S => some ((w, .frz), S)
section
variable {X : Cx}
theorem e_var (i : Nat) {x : Str} {pos : Pos} (hN : X.N[i]? = some x := by rfl) (hv : Vis X.env.scope x := by first | exact Or.inl rfl | exact Or.inr (Or.inl rfl) | exact Or.inr (Or.inr rfl)) (hd : (x == ("__debug__" : Str)) = false := by decide)
    (hcd : (x == ("__classdict__" : Str)) = false := by decide) : EE X (.Name x pos) (cVar i) := by
  refine PE.cons (pe_var hN hv hd hcd) fun σ H Q ⟨ρ, S, α, Z, r, S', wo, en, h, q⟩ => ?_
  unfold cVar at h
  split at h
  · rename_i w m hr
    obtain ⟨v, h1, r1⟩ := en.slot i w m hr
    cases h
    refine ⟨v, h1, q v H α Z Keep.refl wo ⟨?_, fun e => ?_⟩⟩
    · by_cases e : m = .own
      · simp only [e, if_true]; exact r1.brw
      · simp only [e, if_false]; exact r1
    · by_cases e' : m = .own
      · simp only [e', if_true] at e; cases e
      · simp only [e', if_false] at e
  · cases h
theorem e_c {e : Expr} {v : V} {w : W} (h : PE X e (tC v)) (r : ∀ α Z H, Rep X.K α Z H v w) (hm : w.mut = false) : EE X e (cLit w) := by
  refine PE.cons h fun σ H Q ⟨ρ, S, α, Z, r', S', wo, en, h, q⟩ => ?_
  cases h
  exact q v H α Z Keep.refl wo (Got.im (r α Z H) hm)
theorem e_int {i : Int} {j pos} : EE X (.Constant (.int i) j pos) (cLit (.int i)) := e_c pe_int (fun _ _ _ => .int i) rfl
theorem e_bl {b : Bool} {j pos} : EE X (.Constant (.bool b) j pos) (cLit (.bl b)) := e_c pe_bl (fun _ _ _ => .bl b) rfl
theorem e_non {j pos} : EE X (.Constant .none j pos) (cLit .non) := e_c pe_non (fun _ _ _ => .non) rfl
theorem e_str {x : Str} {j pos} : EE X (.Constant (.str x) j pos) (cLit (.str x)) := e_c pe_str (fun _ _ _ => .str x) rfl
end

section
variable {K : PySem.W.Frag} {α α0 : List Addr} {Z Z' Z0 : Addr → Prop} {H H0 : Hp} {S : Store}
mutual
theorem Rep.mono (hz : ∀ a, Z a → Z' a) : ∀ {v : V} {w : W}, Rep K α Z H v w → Rep K α Z' H v w
  | _, _, .non => .non
  | _, _, .bl b => .bl b
  | _, _, .int i => .int i
  | _, _, .str x => .str x
  | _, _, .ty n => .ty n
  | _, _, .tup h r => .tup h (RepL.mono hz r)
  | _, _, .mu h z s r => .mu h (hz _ z) s (RepL.mono hz r)
  | _, _, .scr h => .scr h
  | _, _, .cel h => .cel h
theorem RepL.mono (hz : ∀ a, Z a → Z' a) : ∀ {vs : List V} {ws : List W}, RepL K α Z H vs ws → RepL K α Z' H vs ws
  | _, _, .nil => .nil
  | _, _, .cons r t => .cons (Rep.mono hz r) (RepL.mono hz t)
end
theorem WOk.mono (o : WOk K H S α Z) (hz : ∀ a, Z a → Z' a) (h1 : ∀ a, Z' a → a ∉ α) (h2 : ∀ a, Z' a → H a ≠ none) : WOk K H S α Z' :=
  ⟨o.nd, Paired.impM o.cells fun _ _ _ ⟨xs, h, r⟩ => ⟨xs, h, r.mono hz⟩, h1, h2⟩
/-- may be kept by another thing -/
def sto (r : Wm) : Bool := !(r.1.mut && (match r.2 with | .brw => true | _ => false))
theorem freeze_all {rs : List Wm} {vs : List V} (wo : WOk K H S α Z) (k : Keep H0 α0 Z0 H α Z) (g : Paired (Got K H0 α Z H) rs vs) (s : rs.all sto = true) :
    ∃ Z', (∀ a, Z a → Z' a) ∧ Keep H0 α0 Z0 H α Z' ∧ WOk K H S α Z' ∧ RepL K α Z' H vs (rs.map (·.1)) := by
  refine ⟨fun a => Z a ∨ (H0 a = none ∧ a ∉ α ∧ V.ref a ∈ vs ∧ H a ≠ none), fun a h => .inl h, ⟨k.al, k.h, k.d, fun a h => .inl (k.z a h), fun a h => ?_⟩, wo.mono (fun a h => .inl h) (fun a h => ?_) (fun a h => ?_), ?_⟩
  · rcases h with h | h
    · exact k.z' a h
    · exact .inr h.1
  · rcases h with h | h
    · exact wo.zα a h
    · exact h.2.1
  · rcases h with h | h
    · exact wo.zH a h
    · exact h.2.2.2
  · have go : ∀ {rs0 : List Wm} {vs0 : List V}, Paired (Got K H0 α Z H) rs0 vs0 → rs0.all sto = true → (∀ v ∈ vs0, v ∈ vs) →
        RepL K α (fun a => Z a ∨ (H0 a = none ∧ a ∉ α ∧ V.ref a ∈ vs ∧ H a ≠ none)) H vs0 (rs0.map (·.1)) := by
      intro rs0 vs0 p
      induction p with
      | nil => intro _ _; exact .nil
      | @cons r v rs1 vs1 gr gt ih =>
        intro hs hm
        rw [List.all_cons, Bool.and_eq_true] at hs
        refine .cons ?_ (ih hs.2 fun v hv => hm v (List.mem_cons_of_mem _ hv))
        obtain ⟨w, m⟩ := r
        obtain ⟨rep, fr⟩ := gr
        cases rep with
        | im _ r => exact r.mono fun a h => .inl h
        | mu h sh r hn h1 h2 =>
          refine .mu h ?_ sh (r.mono fun a h => .inl h)
          cases m with
          | own => exact .inr ⟨fr rfl sh.mut _ rfl, hn, hm _ List.mem_cons_self, by rw [h]; simp⟩
          | frz => exact .inl (h2 rfl)
          | brw =>
            have := hs.1
            unfold sto at this
            have e := sh.mut
            simp only [e] at this
            cases this
    exact go g s fun _ h => h
end

/-! ### in a row -/
def bnd {A B : Type} (x : Option (A × Store)) (k : A → Store → Option B) : Option B := match x with
  | some (a, S) => k a S
  | none => none
@[simp] theorem bnd_some {A B : Type} (a : A) (S : Store) (k : A → Store → Option B) : bnd (some (a, S)) k = k a S := rfl
@[simp] theorem bnd_none {A B : Type} (k : A → Store → Option B) : bnd (none : Option (A × Store)) k = none := rfl
theorem of_bnd {A B : Type} {x : Option (A × Store)} {k : A → Store → Option B} {b : B} (h : bnd x k = some b) : ∃ a S, x = some (a, S) ∧ k a S = some b := by
  cases x with
  | none => cases h
  | some p => exact ⟨p.1, p.2, rfl, h⟩
def cNil : CA := fun _ S => some ([], S)
def cCons (f : CE) (g : CA) : CA := fun ρ S => bnd (f ρ S) fun r S => bnd (g ρ S) fun rs S => some (r :: rs, S)
section
variable {X : Cx} {e a b : Expr} {es : List Expr} {fa fb : CE} {f g : CA} {pos : Pos}
theorem a_nil : EA X [] cNil := by
  refine PA.cons pa_nil fun σ H Q ⟨ρ, S, α, Z, r', S', wo, en, h, q⟩ => ?_
  cases h
  exact q [] H α Z Keep.refl wo .nil
theorem a_cons (ha : EE X e fa) (hr : EA X es g) (hs : starEach (e :: es) X.env = (false, eval e X.env) :: starEach es X.env := by rfl) : EA X (e :: es) (cCons fa g) := by
  refine PA.cons (pa_cons ha hr hs) fun σ H Q ⟨ρ, S, α, Z, r', S', wo, en, h, q⟩ => ?_
  obtain ⟨r, S1, h1, h⟩ := of_bnd h
  obtain ⟨rs, S2, h2, h⟩ := of_bnd h
  cases h
  exact ⟨ρ, S, α, Z, r, S1, wo, en, h1, fun v1 H1 α1 Z1 k1 w1 g1 => ⟨ρ, S1, α1, Z1, rs, _, w1, en.keep wo k1, h2, fun vs H2 α2 Z2 k2 w2 g2 =>
    q (v1 :: vs) H2 α2 Z2 (k1.trans k2) w2 (.cons (g1.keep w1 k2) (Paired.impM g2 fun _ _ _ g => g.back k1.d))⟩⟩

/-! ### displays -/
def cTup (f : CA) : CE := fun ρ S => bnd (f ρ S) fun rs S => if rs.all sto = true ∧ rs.length ≤ sizeLine then some ((.tup (rs.map (·.1)), .own), S) else none
def cLst (f : CA) : CE := fun ρ S => bnd (f ρ S) fun rs S => if rs.all sto = true ∧ rs.length ≤ sizeLine then some ((.lst (rs.map (·.1)), .own), S) else none
/-- a list that many names may write -/
def cBox (f : CA) : CE := fun ρ S => bnd (f ρ S) fun rs S => if rs.all sto = true ∧ rs.length ≤ sizeLine then some ((.cel S.length, .own), S ++ [rs.map (·.1)]) else none
theorem Paired.len {A B : Type} {F : A → B → Prop} {l₁ : List A} {l₂ : List B} (p : Paired F l₁ l₂) : l₁.length = l₂.length := Paired.length p
theorem e_tup {x1} (h : EA X es f) : EE X (.Tuple es x1 pos) (cTup f) := by
  refine PE.cons (pe_tup h) fun σ H Q ⟨ρ, S, α, Z, r', S', wo, en, h, q⟩ => ?_
  obtain ⟨rs, S1, h1, h⟩ := of_bnd h
  split at h
  · rename_i hs
    cases h
    refine ⟨ρ, S, α, Z, rs, _, wo, en, h1, fun vs H1 α1 Z1 k1 w1 g1 => ⟨by rw [← Paired.len g1]; exact hs.2, fun p hp => ?_⟩⟩
    obtain ⟨Z2, _, k2, w2, r2⟩ := freeze_all w1 k1 g1 hs.1
    have k3 : Keep H1 α1 Z2 (upd H1 p (.tup vs)) α1 Z2 := Keep.new hp
    exact q _ _ _ _ (k2.trans k3) (w2.new hp) (Got.im (.tup upd_same (r2.keep w2 k3)) rfl)
  · cases h
theorem e_lst (h : EA X es f) : EE X (.List es pos) (cLst f) := by
  refine PE.cons (pe_lst h) fun σ H Q ⟨ρ, S, α, Z, r', S', wo, en, h, q⟩ => ?_
  obtain ⟨rs, S1, h1, h⟩ := of_bnd h
  split at h
  · rename_i hs
    cases h
    refine ⟨ρ, S, α, Z, rs, _, wo, en, h1, fun vs H1 α1 Z1 k1 w1 g1 => ⟨by rw [← Paired.len g1]; exact hs.2, fun p hp => ?_⟩⟩
    obtain ⟨Z2, _, k2, w2, r2⟩ := freeze_all w1 k1 g1 hs.1
    have k3 : Keep H1 α1 Z2 (upd H1 p (.lst vs)) α1 Z2 := Keep.new hp
    refine q _ _ _ _ (k2.trans k3) (w2.new hp) ⟨.mu upd_same (.lst _ _) (r2.keep w2 k3) (w2.nα hp) (fun _ => w2.nZ hp) (fun e => by cases e), fun _ _ a e => ?_⟩
    cases e
    exact k1.d _ hp
  · cases h
theorem WOk.box {K : PySem.W.Frag} {α : List Addr} {Z : Addr → Prop} {H : Hp} {S : Store} {p : Addr} {vs : List V} {ws : List W} (o : WOk K H S α Z) (hp : H p = none) (r : RepL K α Z H vs ws) :
    WOk K (upd H p (.lst vs)) (S ++ [ws]) (α ++ [p]) Z ∧ Keep H α Z (upd H p (.lst vs)) (α ++ [p]) Z := by
  have k : Keep H α Z (upd H p (.lst vs)) (α ++ [p]) Z := ⟨⟨[p], rfl, fun a ha => by
    have e : a = p := by simpa using ha
    rw [e]; exact hp⟩, (Keep.new (Z := Z) hp).h, (Keep.new (α := α) (Z := Z) hp).d, fun _ h => h, fun _ h => .inl h⟩
  refine ⟨⟨?_, ?_, fun a z => ?_, (o.new hp).zH⟩, k⟩
  · rw [List.nodup_append]
    refine ⟨o.nd, by simp, fun a ha b hb e => ?_⟩
    have e' : b = p := by simpa using hb
    rw [e, e'] at ha
    exact o.nα hp ha
  · have go : ∀ {l₁ : List Addr} {l₂ : Store} {F : Addr → List W → Prop} {x : Addr} {y : List W}, Paired F l₁ l₂ → F x y → Paired F (l₁ ++ [x]) (l₂ ++ [y]) := by
      intro l₁ l₂ F x y pr f
      induction pr with
      | nil => exact .cons f .nil
      | cons r t ih => exact .cons r ih
    refine go (Paired.impM o.cells fun a ws _ ⟨xs, h, r⟩ => ⟨xs, ?_, r.keep o k⟩) ⟨vs, upd_same, r.keep o k⟩
    rw [upd_ne (ne_of_none h hp)]; exact h
  · intro ha
    rcases List.mem_append.mp ha with h | h
    · exact o.zα a z h
    · have e : a = p := by simpa using h
      rw [e] at z
      exact o.zH p z hp
theorem WOk.len {K : PySem.W.Frag} {α : List Addr} {Z : Addr → Prop} {H : Hp} {S : Store} (o : WOk K H S α Z) : α.length = S.length := Paired.length o.cells
theorem e_box (h : EA X es f) : EE X (.List es pos) (cBox f) := by
  refine PE.cons (pe_lst h) fun σ H Q ⟨ρ, S, α, Z, r', S', wo, en, h, q⟩ => ?_
  obtain ⟨rs, S1, h1, h⟩ := of_bnd h
  split at h
  · rename_i hs
    cases h
    refine ⟨ρ, S, α, Z, rs, _, wo, en, h1, fun vs H1 α1 Z1 k1 w1 g1 => ⟨by rw [← Paired.len g1]; exact hs.2, fun p hp => ?_⟩⟩
    obtain ⟨Z2, _, k2, w2, r2⟩ := freeze_all w1 k1 g1 hs.1
    obtain ⟨w3, k3⟩ := w2.box hp r2
    refine q _ _ _ _ (k2.trans k3) w3 (Got.im (.cel ?_) rfl)
    rw [← w2.len, List.getElem?_append_right (Nat.le_refl _), Nat.sub_self]; rfl
  · cases h

/-! ### operators -/
def OS (K : PySem.W.Frag) (r : R2) (g : W → W → Option W) : Prop := ∀ {α : List Addr} {Z : Addr → Prop} {H : Hp} {S : Store} {x y : V} {a b c : W} {m1 m2 : Md}, WOk K H S α Z → RepM K α Z H m1 x a → RepM K α Z H m2 y b → g a b = some c →
  ∀ Q : VK, (∀ v H', Keep H α Z H' α Z → WOk K H' S α Z → Got K H α Z H' (c, .own) v → Q v H') → r x y H Q
def cBin (g : W → W → Option W) (fa fb : CE) : CE := fun ρ S => bnd (fa ρ S) fun a S => bnd (fb ρ S) fun b S => (g a.1 b.1).map fun c => ((c, .own), S)
theorem bin_ok {r : R2} {g : W → W → Option W} (hs : OS X.K r g) {σ : L2.St} {H : Hp} {Q : VK} (h : semE X.K (cBin g fa fb) σ H Q) : tOp r (semE X.K fa) (semE X.K fb) σ H Q := by
  obtain ⟨ρ, S, α, Z, r', S', wo, en, h, q⟩ := h
  obtain ⟨ra, S1, h1, h⟩ := of_bnd h
  obtain ⟨rb, S2, h2, h⟩ := of_bnd h
  cases hc : g ra.1 rb.1 with
  | none => rw [hc] at h; cases h
  | some c =>
    rw [hc] at h
    cases h
    exact ⟨ρ, S, α, Z, ra, S1, wo, en, h1, fun v1 H1 α1 Z1 k1 w1 g1 => ⟨ρ, S1, α1, Z1, rb, _, w1, en.keep wo k1, h2, fun v2 H2 α2 Z2 k2 w2 g2 =>
      hs w2 (g1.rep.keep w1 k2) g2.rep hc _ fun v H3 k3 w3 g3 => q v H3 α2 Z2 ((k1.trans k2).trans k3) w3 (g3.back (k1.trans k2).d)⟩⟩
theorem e_op {op : Operator} {r : R2} {g : W → W → Option W} (ho : OpR X (binaryOp op) r) (hs : OS X.K r g) (ha : EE X a fa) (hb : EE X b fb) : EE X (.BinOp a op b pos) (cBin g fa fb) :=
  PE.cons (pe_op ho ha hb) fun _ _ _ h => bin_ok hs h
theorem e_cmp {op : CmpOp} {r : R2} {g : W → W → Option W} (ho : OpR X (compareOp op) r) (hs : OS X.K r g) (ha : EE X a fa) (hb : EE X b fb) (hm : behindInMarks op b = false := by rfl) : EE X (.Compare a [op] [b] pos) (cBin g fa fb) :=
  PE.cons (pe_cmpR ho ha hb hm) fun _ _ _ h => bin_ok hs h
/-- an expression that gives a bool, as a test -/
def cB (f : CE) : CT := fun ρ S => bnd (f ρ S) fun r S => match r.1 with | .bl b => some (b, S) | _ => none
theorem test_ok {f : CE} {σ : L2.St} {H : Hp} {Q : Bool → Hp → Prop} {K : PySem.W.Frag} (h : semT K (cB f) σ H Q) : semE K f σ H fun x H1 => ∃ c, x = .bl c ∧ Q c H1 := by
  obtain ⟨ρ, S, α, Z, r', S', wo, en, h, q⟩ := h
  obtain ⟨r, S1, h1, h⟩ := of_bnd h
  obtain ⟨w, m⟩ := r
  cases w with
  | bl c =>
    cases h
    refine ⟨ρ, S, α, Z, _, _, wo, en, h1, fun v H' α' Z' k w g => ⟨_, ?_, q H' α' Z' k w⟩⟩
    exact g.rep.ofBl
  | _ => cases h
theorem t_cmp {op : CmpOp} {r : R2} {g : W → W → Option W} (ho : OpR X (compareOp op) r) (hs : OS X.K r g) (ha : EE X a fa) (hb : EE X b fb) (hm : behindInMarks op b = false := by rfl) : ET X (.Compare a [op] [b] pos) (cB (cBin g fa fb)) :=
  PT.cons (pt_cmpR ho ha hb hm) fun _ _ _ h => bin_ok hs (test_ok h)
theorem t_val {f : CE} (h : EE X e f) (he : ∀ whole, isTrue e X.env whole = (do let v ← whole; standAt e.pos; holding [v] (truthy v)) := by intro _; rfl) : ET X e (cB f) :=
  PT.cons (pt_val h he) fun _ _ _ h => test_ok h
end

/-! ### the operators by values -/
section
variable {K : PySem.W.Frag}
def gAdd : W → W → Option W
  | .int i, .int j => some (.int (i + j))
  | .str i, .str j => if i.length + j.length ≤ sizeLine then some (.str (i ++ j)) else none
  | .tup a, .tup b => if a.length + b.length ≤ sizeLine then some (.tup (a ++ b)) else none
  | .lst a, .lst b => if a.length + b.length ≤ sizeLine then some (.lst (a ++ b)) else none
  | _, _ => none
def rAddW (K : PySem.W.Frag) : R2 := fun x y H Q => (rI0 (fun i j => .int (i + j))) x y H Q ∨ (∃ i j, x = .str i ∧ y = .str j ∧ i.length + j.length ≤ sizeLine ∧ Q (.str (i ++ j)) H) ∨ rCatA K x y H Q ∨ rCat x y H Q
theorem op_addW {X : Cx} : OpR X (binaryOp .Add) (rAddW X.K) := op_add.or (op_add_str.or (op_catA.or op_cat))
theorem os_add : OS K (rAddW K) gAdd := by
  intro α Z H S x y a b c m1 m2 wo ra rb hg Q q
  unfold gAdd at hg
  split at hg
  · cases hg
    rw [ra.ofInt, rb.ofInt]
    exact .inl ⟨_, _, rfl, rfl, q _ _ Keep.refl wo (Got.im (.int _) rfl)⟩
  · split at hg
    · rename_i hl
      cases hg
      rw [ra.ofStr, rb.ofStr]
      exact .inr (.inl ⟨_, _, rfl, rfl, hl, q _ _ Keep.refl wo (Got.im (.str _) rfl)⟩)
    · cases hg
  · split at hg
    · rename_i hl
      cases hg
      obtain ⟨p, xs, rfl, hp, rp⟩ := ra.ofTup
      obtain ⟨p', ys, rfl, hp', rp'⟩ := rb.ofTup
      refine .inr (.inr (.inl ⟨p, p', xs, ys, rfl, rfl, .of hp, .of hp', by rw [rp.length, rp'.length]; exact hl, fun e => ?_, fun _ e => ?_, fun _ _ t ht => ?_⟩))
      · subst e
        cases rp
        exact q _ _ Keep.refl wo (Got.im (.tup hp' rp') rfl)
      · subst e
        cases rp'
        rw [List.append_nil] at q
        exact q _ _ Keep.refl wo (Got.im (.tup hp rp) rfl)
      · have k : Keep H α Z (upd H t (.tup (xs ++ ys))) α Z := Keep.new ht
        exact q _ _ k (wo.new ht) (Got.im (.tup upd_same ((rp.append rp').keep wo k)) rfl)
    · cases hg
  · split at hg
    · rename_i hl
      cases hg
      obtain ⟨p, xs, rfl, hp, rp, _⟩ := ra.ofLst
      obtain ⟨p', ys, rfl, hp', rp', _⟩ := rb.ofLst
      refine .inr (.inr (.inr ⟨p, p', xs, ys, rfl, rfl, hp, hp', by rw [rp.length, rp'.length]; exact hl, fun t ht => ?_⟩))
      have k : Keep H α Z (upd H t (.lst (xs ++ ys))) α Z := Keep.new ht
      refine q _ _ k (wo.new ht) ⟨.mu upd_same (.lst _ _) ((rp.append rp').keep wo k) (wo.nα ht) (fun _ => wo.nZ ht) (fun e => by cases e), fun _ _ a e => ?_⟩
      cases e
      exact ht
    · cases hg
  · cases hg
theorem os_int {C : Int → Int → Prop} [∀ i j, Decidable (C i j)] {f : Int → Int → Int} : OS K (rI C fun i j => .int (f i j)) (fun a b => match a, b with | .int i, .int j => if C i j then some (.int (f i j)) else none | _, _ => none) := by
  intro α Z H S x y a b c m1 m2 wo ra rb hg Q q
  dsimp only at hg
  split at hg
  · split at hg
    · rename_i hC
      cases hg
      rw [ra.ofInt, rb.ofInt]
      exact ⟨_, _, rfl, rfl, hC, q _ _ Keep.refl wo (Got.im (.int _) rfl)⟩
    · cases hg
  · cases hg
theorem os_int0 {f : Int → Int → Int} : OS K (rI0 fun i j => .int (f i j)) (fun a b => match a, b with | .int i, .int j => some (.int (f i j)) | _, _ => none) := by
  intro α Z H S x y a b c m1 m2 wo ra rb hg Q q
  dsimp only at hg
  split at hg
  · cases hg
    rw [ra.ofInt, rb.ofInt]
    exact ⟨_, _, rfl, rfl, q _ _ Keep.refl wo (Got.im (.int _) rfl)⟩
  · cases hg
theorem os_cmp {p : Int → Int → Bool} : OS K (rI0 fun i j => .bl (p i j)) (fun a b => match a, b with | .int i, .int j => some (.bl (p i j)) | _, _ => none) := by
  intro α Z H S x y a b c m1 m2 wo ra rb hg Q q
  dsimp only at hg
  split at hg
  · cases hg
    rw [ra.ofInt, rb.ofInt]
    exact ⟨_, _, rfl, rfl, q _ _ Keep.refl wo (Got.im (.bl _) rfl)⟩
  · cases hg
def gSub : W → W → Option W := fun a b => match a, b with | .int i, .int j => some (.int (i - j)) | _, _ => none
def gMul : W → W → Option W := fun a b => match a, b with | .int i, .int j => if ((-(2 ^ 64) < i ∧ i < 2 ^ 64) ∨ (-(2 ^ 64) < j ∧ j < 2 ^ 64)) then some (.int (i * j)) else none | _, _ => none
def gDiv : W → W → Option W := fun a b => match a, b with | .int i, .int j => if (j ≠ 0 ∧ j.natAbs < 1073741824) then some (.int (i.fdiv j)) else none | _, _ => none
def gMod : W → W → Option W := fun a b => match a, b with | .int i, .int j => if j ≠ 0 then some (.int (i.fmod j)) else none | _, _ => none
def gPow : W → W → Option W := fun a b => match a, b with | .int i, .int j => if (0 ≤ j ∧ j ≤ 1000000 ∧ i.natAbs < 2 ^ 64) then some (.int (i ^ j.toNat)) else none | _, _ => none
def gLt : W → W → Option W := fun a b => match a, b with | .int i, .int j => some (.bl (decide (i < j))) | _, _ => none
def gLe : W → W → Option W := fun a b => match a, b with | .int i, .int j => some (.bl (decide (i ≤ j))) | _, _ => none
def gGt : W → W → Option W := fun a b => match a, b with | .int i, .int j => some (.bl (decide (j < i))) | _, _ => none
def gGe : W → W → Option W := fun a b => match a, b with | .int i, .int j => some (.bl (decide (j ≤ i))) | _, _ => none
variable {X : Cx} {a b : Expr} {fa fb : CE} {pos : Pos}
theorem e_add (ha : EE X a fa) (hb : EE X b fb) : EE X (.BinOp a .Add b pos) (cBin gAdd fa fb) := e_op op_addW os_add ha hb
theorem e_sub (ha : EE X a fa) (hb : EE X b fb) : EE X (.BinOp a .Sub b pos) (cBin gSub fa fb) := e_op op_sub os_int0 ha hb
theorem e_mul (ha : EE X a fa) (hb : EE X b fb) : EE X (.BinOp a .Mult b pos) (cBin gMul fa fb) := e_op op_mul (os_int (C := fun i j => (-(2 ^ 64) < i ∧ i < 2 ^ 64) ∨ (-(2 ^ 64) < j ∧ j < 2 ^ 64))) ha hb
theorem e_div (ha : EE X a fa) (hb : EE X b fb) : EE X (.BinOp a .FloorDiv b pos) (cBin gDiv fa fb) := e_op op_fdivN (os_int (C := fun _ j => j ≠ 0 ∧ j.natAbs < 1073741824)) ha hb
theorem e_mod (ha : EE X a fa) (hb : EE X b fb) : EE X (.BinOp a .Mod b pos) (cBin gMod fa fb) := e_op op_modN (os_int (C := fun _ j => j ≠ 0)) ha hb
theorem e_pow (ha : EE X a fa) (hb : EE X b fb) : EE X (.BinOp a .Pow b pos) (cBin gPow fa fb) := e_op op_pow (os_int (C := fun i j => 0 ≤ j ∧ j ≤ 1000000 ∧ i.natAbs < 2 ^ 64)) ha hb
theorem e_lt (ha : EE X a fa) (hb : EE X b fb) : EE X (.Compare a [.Lt] [b] pos) (cBin gLt fa fb) := e_cmp op_lt os_cmp ha hb (nomark _)
theorem e_le (ha : EE X a fa) (hb : EE X b fb) : EE X (.Compare a [.LtE] [b] pos) (cBin gLe fa fb) := e_cmp op_le os_cmp ha hb (nomark _)
theorem e_gt (ha : EE X a fa) (hb : EE X b fb) : EE X (.Compare a [.Gt] [b] pos) (cBin gGt fa fb) := e_cmp op_gt os_cmp ha hb (nomark _)
theorem e_ge (ha : EE X a fa) (hb : EE X b fb) : EE X (.Compare a [.GtE] [b] pos) (cBin gGe fa fb) := e_cmp op_ge os_cmp ha hb (nomark _)
theorem t_lt (ha : EE X a fa) (hb : EE X b fb) : ET X (.Compare a [.Lt] [b] pos) (cB (cBin gLt fa fb)) := t_cmp op_lt os_cmp ha hb (nomark _)
theorem t_le (ha : EE X a fa) (hb : EE X b fb) : ET X (.Compare a [.LtE] [b] pos) (cB (cBin gLe fa fb)) := t_cmp op_le os_cmp ha hb (nomark _)
theorem t_gt (ha : EE X a fa) (hb : EE X b fb) : ET X (.Compare a [.Gt] [b] pos) (cB (cBin gGt fa fb)) := t_cmp op_gt os_cmp ha hb (nomark _)
theorem t_ge (ha : EE X a fa) (hb : EE X b fb) : ET X (.Compare a [.GtE] [b] pos) (cB (cBin gGe fa fb)) := t_cmp op_ge os_cmp ha hb (nomark _)

/-! ### == and != -/
mutual
/-- as data to be compared: none, bools, ints, texts, lists, tuples -/
def toD : W → Option PyData
  | .non => some .none
  | .bl b => some (.bool b)
  | .int i => some (.int i)
  | .str x => some (.str x)
  | .tup ws => (toDs ws).map .tuple
  | .lst ws => (toDs ws).map .list
  | _ => none
def toDs : List W → Option (List PyData)
  | [] => some []
  | w :: ws => match toD w, toDs ws with
    | some d, some ds => some (d :: ds)
    | _, _ => none
end
def gEq (neg : Bool) : W → W → Option W := fun a b => match toD a, toD b with
  | some d, some e => if SeqAt.shaped d = true ∧ SeqAt.shaped e = true then some (.bl (neg != PyData.eqv d e)) else none
  | _, _ => none
mutual
theorem Rep.dp {α : List Addr} {Z : Addr → Prop} {H : Hp} : ∀ {w : W} {v : V} {d : PyData}, Rep K α Z H v w → toD w = some d → Dp K H v d
  | .non, _, _, r, e => by
    cases e
    rw [(r.im (m := .frz) rfl).ofNon]; exact .non
  | .bl b, _, _, r, e => by
    cases e
    rw [(r.im (m := .frz) rfl).ofBl]; exact .bl b
  | .int i, _, _, r, e => by
    cases e
    rw [(r.im (m := .frz) rfl).ofInt]; exact .int i
  | .str x, _, _, r, e => by
    cases e
    rw [(r.im (m := .frz) rfl).ofStr]; exact .str x
  | .tup ws, _, _, r, e => by
    obtain ⟨a, xs, rfl, h, rl⟩ := (r.im (m := .frz) rfl).ofTup
    unfold toD at e
    obtain ⟨ds, e1, e2⟩ := Option.map_eq_some_iff.mp e
    subst e2
    exact .tup (.of h) (RepL.dp rl e1)
  | .lst ws, _, _, r, e => by
    cases r with
    | mu h z s rl =>
      cases s
      unfold toD at e
      obtain ⟨ds, e1, e2⟩ := Option.map_eq_some_iff.mp e
      subst e2
      exact .lst (.inl (.inl h)) (RepL.dp rl e1)
  | .dk _, _, _, _, e => by cases e
  | .dt _, _, _, _, e => by cases e
  | .scr _, _, _, _, e => by cases e
  | .cel _, _, _, _, e => by cases e
  | .ty _, _, _, _, e => by cases e
theorem RepL.dp {α : List Addr} {Z : Addr → Prop} {H : Hp} : ∀ {ws : List W} {vs : List V} {ds : List PyData}, RepL K α Z H vs ws → toDs ws = some ds → DpAll K H vs ds
  | [], _, _, r, e => by
    cases e; cases r; exact .nil
  | w :: ws, _, _, r, e => by
    unfold toDs at e
    split at e
    · rename_i d ds h1 h2
      cases e
      cases r with
      | cons r t => exact .cons (Rep.dp r h1) (RepL.dp t h2)
    · cases e
end
theorem RepM.dp {α : List Addr} {Z : Addr → Prop} {H : Hp} {m : Md} {w : W} {v : V} {d : PyData} (r : RepM K α Z H m v w) (e : toD w = some d) : Dp K H v d := by
  cases r with
  | im _ r => exact r.dp e
  | mu h s r _ _ _ =>
    cases s with
    | lst =>
      unfold toD at e
      obtain ⟨ds, e1, e2⟩ := Option.map_eq_some_iff.mp e
      subst e2
      exact .lst (.inl (.inl h)) (r.dp e1)
    | dk _ => cases e
    | dt _ => cases e
theorem os_eq : OS K (rEqD K) (gEq false) := by
  intro α Z H S x y a b c m1 m2 wo ra rb hg Q q
  unfold gEq at hg
  split at hg
  · rename_i d e h1 h2
    split at hg
    · rename_i hs
      cases hg
      refine ⟨d, e, ra.dp h1, rb.dp h2, hs.1, hs.2, ?_⟩
      have := q (.bl (PyData.eqv d e)) H Keep.refl wo (Got.im (by rw [Bool.false_bne]; exact .bl _) rfl)
      exact this
    · cases hg
  · cases hg
theorem os_ne : OS K (rNeD K) (gEq true) := by
  intro α Z H S x y a b c m1 m2 wo ra rb hg Q q
  unfold gEq at hg
  split at hg
  · rename_i d e h1 h2
    split at hg
    · rename_i hs
      cases hg
      refine ⟨d, e, ra.dp h1, rb.dp h2, hs.1, hs.2, ?_⟩
      have := q (.bl (!PyData.eqv d e)) H Keep.refl wo (Got.im (by rw [Bool.true_bne]; exact .bl _) rfl)
      exact this
    · cases hg
  · cases hg
theorem e_eq {k : Nat} (hr : Room k X.A) (ha : EE X a fa) (hb : EE X b fb) : EE X (.Compare a [.Eq] [b] pos) (cBin (gEq false) fa fb) := e_cmp (op_eqD hr.units) os_eq ha hb (nomark _)
theorem e_ne {k : Nat} (hr : Room k X.A) (ha : EE X a fa) (hb : EE X b fb) : EE X (.Compare a [.NotEq] [b] pos) (cBin (gEq true) fa fb) := e_cmp (op_neD hr.units) os_ne ha hb (nomark _)
theorem t_eq {k : Nat} (hr : Room k X.A) (ha : EE X a fa) (hb : EE X b fb) : ET X (.Compare a [.Eq] [b] pos) (cB (cBin (gEq false) fa fb)) := t_cmp (op_eqD hr.units) os_eq ha hb (nomark _)
theorem t_ne {k : Nat} (hr : Room k X.A) (ha : EE X a fa) (hb : EE X b fb) : ET X (.Compare a [.NotEq] [b] pos) (cB (cBin (gEq true) fa fb)) := t_cmp (op_neD hr.units) os_ne ha hb (nomark _)

/-! ### -x, not, and, or, if else -/
def cNeg (f : CE) : CE := fun ρ S => bnd (f ρ S) fun r S => match r.1 with | .int i => some ((.int (-i), .own), S) | _ => none
theorem e_neg (ha : EE X a fa) : EE X (.UnaryOp .USub a pos) (cNeg fa) := by
  refine PE.cons (pe_un un_neg ha) fun σ H Q ⟨ρ, S, α, Z, r', S', wo, en, h, q⟩ => ?_
  obtain ⟨r, S1, h1, h⟩ := of_bnd h
  obtain ⟨w, m⟩ := r
  cases w with
  | int i =>
    cases h
    exact ⟨ρ, S, α, Z, _, _, wo, en, h1, fun v H' α' Z' k w g => ⟨i, g.rep.ofInt, q _ H' α' Z' k w (Got.im (.int _) rfl)⟩⟩
  | _ => cases h
def tvT (f : CT) : CE := fun ρ S => bnd (f ρ S) fun b S => some ((.bl b, .own), S)
def cNotT (f : CT) : CT := fun ρ S => bnd (f ρ S) fun b S => some (!b, S)
def cAndT (f g : CT) : CT := fun ρ S => bnd (f ρ S) fun b S => if b = true then g ρ S else some (false, S)
def cOrT (f g : CT) : CT := fun ρ S => bnd (f ρ S) fun b S => if b = true then some (true, S) else g ρ S
theorem t_not {f : CT} (h : ET X a f) : ET X (.UnaryOp .Not a pos) (cNotT f) := by
  refine PT.cons (pt_not h) fun σ H Q ⟨ρ, S, α, Z, r', S', wo, en, h, q⟩ => ?_
  obtain ⟨r, S1, h1, h⟩ := of_bnd h
  cases h
  exact ⟨ρ, S, α, Z, _, _, wo, en, h1, fun H' α' Z' k w => q H' α' Z' k w⟩
abbrev EW (X : Cx) (e : Expr) (f : CT) : Prop := PW X e (semT X.K f)
theorem PW.cons {X : Cx} {e : Expr} {t t' : TT} (h : PW X e t) (i : ∀ σ H Q, t' σ H Q → t σ H Q) : PW X e t' := ⟨fun wh pins s σ H Q I q => h.run wh pins s σ H Q I (i σ H Q q)⟩
theorem w_and1 {f : CT} (h : ET X a f) : EW X (.BoolOp .And [a] pos) f := pw_and1 h
theorem w_or1 {f : CT} (h : ET X a f) : EW X (.BoolOp .Or [a] pos) f := pw_or1 h
theorem w_and {f g : CT} {rest : List Expr} (h : ET X a f) (h2 : EW X (.BoolOp .And (b :: rest) pos) g) : EW X (.BoolOp .And (a :: b :: rest) pos) (cAndT f g) := by
  refine PW.cons (pw_and h h2) fun σ H Q ⟨ρ, S, α, Z, r', S', wo, en, h, q⟩ => ?_
  obtain ⟨r, S1, h1, h⟩ := of_bnd h
  refine ⟨ρ, S, α, Z, r, S1, wo, en, h1, fun H' α' Z' k w => ?_⟩
  cases r with
  | true =>
    rw [if_pos rfl] at h
    refine iteT ?_
    exact ⟨ρ, S1, α', Z', r', S', w, en.keep wo k, h, fun H2 α2 Z2 k2 w2 => q H2 α2 Z2 (k.trans k2) w2⟩
  | false =>
    rw [if_neg Bool.false_ne_true] at h
    refine iteF ?_
    cases h
    exact q H' α' Z' k w
theorem w_or {f g : CT} {rest : List Expr} (h : ET X a f) (h2 : EW X (.BoolOp .Or (b :: rest) pos) g) : EW X (.BoolOp .Or (a :: b :: rest) pos) (cOrT f g) := by
  refine PW.cons (pw_or h h2) fun σ H Q ⟨ρ, S, α, Z, r', S', wo, en, h, q⟩ => ?_
  obtain ⟨r, S1, h1, h⟩ := of_bnd h
  refine ⟨ρ, S, α, Z, r, S1, wo, en, h1, fun H' α' Z' k w => ?_⟩
  cases r with
  | true =>
    rw [if_pos rfl] at h
    refine iteT ?_
    cases h
    exact q H' α' Z' k w
  | false =>
    rw [if_neg Bool.false_ne_true] at h
    refine iteF ?_
    exact ⟨ρ, S1, α', Z', r', S', w, en.keep wo k, h, fun H2 α2 Z2 k2 w2 => q H2 α2 Z2 (k.trans k2) w2⟩
theorem t_w {f : CT} (h : EW X a f) : ET X a f := h.pt
/-- not, as a value -/
def cNotV (f : CE) : CE := fun ρ S => bnd (f ρ S) fun r S => match r.1 with | .bl b => some ((.bl (!b), .own), S) | _ => none
theorem e_not (ha : EE X a fa) : EE X (.UnaryOp .Not a pos) (cNotV fa) := by
  refine PE.cons (pe_not ha) fun σ H Q ⟨ρ, S, α, Z, r', S', wo, en, h, q⟩ => ?_
  obtain ⟨r, S1, h1, h⟩ := of_bnd h
  obtain ⟨w, m⟩ := r
  cases w with
  | bl i =>
    cases h
    exact ⟨ρ, S, α, Z, _, _, wo, en, h1, fun v H' α' Z' k w g => ⟨i, g.rep.ofBl, q _ H' α' Z' k w (Got.im (.bl _) rfl)⟩⟩
  | _ => cases h
/-- and, or of bools (the last of any kind), as a value -/
def cAndV (f g : CE) : CE := fun ρ S => bnd (f ρ S) fun r S => match r.1 with | .bl b => if b = true then g ρ S else some ((.bl false, .own), S) | _ => none
def cOrV (f g : CE) : CE := fun ρ S => bnd (f ρ S) fun r S => match r.1 with | .bl b => if b = true then some ((.bl true, .own), S) else g ρ S | _ => none
theorem e_one {op} {f : CE} (h : EE X a f) : EE X (.BoolOp op [a] pos) f := pe_one h
theorem e_and {f g : CE} {rest : List Expr} (h : EE X a f) (h2 : EE X (.BoolOp .And (b :: rest) pos) g) : EE X (.BoolOp .And (a :: b :: rest) pos) (cAndV f g) := by
  refine PE.cons (pe_and h h2) fun σ H Q ⟨ρ, S, α, Z, r', S', wo, en, h, q⟩ => ?_
  obtain ⟨r, S1, h1, h⟩ := of_bnd h
  obtain ⟨w, m⟩ := r
  cases w with
  | bl c =>
    refine ⟨ρ, S, α, Z, _, _, wo, en, h1, fun v H' α' Z' k w g => ⟨c, g.rep.ofBl, ?_⟩⟩
    dsimp only at h
    cases c with
    | true =>
      rw [if_pos rfl] at h
      refine iteT ?_
      exact ⟨ρ, S1, α', Z', r', S', w, en.keep wo k, h, fun v H2 α2 Z2 k2 w2 g2 => q v H2 α2 Z2 (k.trans k2) w2 (g2.back k.d)⟩
    | false =>
      rw [if_neg Bool.false_ne_true] at h
      refine iteF ?_
      cases h
      exact q _ H' α' Z' k w (Got.im (.bl _) rfl)
  | _ => cases h
theorem e_or {f g : CE} {rest : List Expr} (h : EE X a f) (h2 : EE X (.BoolOp .Or (b :: rest) pos) g) : EE X (.BoolOp .Or (a :: b :: rest) pos) (cOrV f g) := by
  refine PE.cons (pe_or h h2) fun σ H Q ⟨ρ, S, α, Z, r', S', wo, en, h, q⟩ => ?_
  obtain ⟨r, S1, h1, h⟩ := of_bnd h
  obtain ⟨w, m⟩ := r
  cases w with
  | bl c =>
    refine ⟨ρ, S, α, Z, _, _, wo, en, h1, fun v H' α' Z' k w g => ⟨c, g.rep.ofBl, ?_⟩⟩
    dsimp only at h
    cases c with
    | true =>
      rw [if_pos rfl] at h
      refine iteT ?_
      cases h
      exact q _ H' α' Z' k w (Got.im (.bl _) rfl)
    | false =>
      rw [if_neg Bool.false_ne_true] at h
      refine iteF ?_
      exact ⟨ρ, S1, α', Z', r', S', w, en.keep wo k, h, fun v H2 α2 Z2 k2 w2 g2 => q v H2 α2 Z2 (k.trans k2) w2 (g2.back k.d)⟩
  | _ => cases h
def cIf (c : CT) (f g : CE) : CE := fun ρ S => bnd (c ρ S) fun b S => if b = true then f ρ S else g ρ S
theorem e_if {c : Expr} {t : CT} {f g : CE} (hc : ET X c t) (ha : EE X a f) (hb : EE X b g) : EE X (.IfExp c a b pos) (cIf t f g) := by
  refine PE.cons (pe_ifExp hc ha hb) fun σ H Q ⟨ρ, S, α, Z, r', S', wo, en, h, q⟩ => ?_
  obtain ⟨r, S1, h1, h⟩ := of_bnd h
  refine ⟨ρ, S, α, Z, r, S1, wo, en, h1, fun H' α' Z' k w => ?_⟩
  have fin : ∀ {f : CE}, f ρ S1 = some (r', S') → semE X.K f σ H' Q := fun {f} h => ⟨ρ, S1, α', Z', r', S', w, en.keep wo k, h, fun v H2 α2 Z2 k2 w2 g2 => q v H2 α2 Z2 (k.trans k2) w2 (g2.back k.d)⟩
  cases r with
  | true =>
    rw [if_pos rfl] at h
    refine iteT ?_
    exact fin h
  | false =>
    rw [if_neg Bool.false_ne_true] at h
    refine iteF ?_
    exact fin h
end

/-! ### dicts -/
section
variable {κ β : Type} [DecidableEq κ]
def dGet (kvs : List (κ × β)) (k : κ) : Option β := (kvs.find? fun kv => decide (kv.1 = k)).map (·.2)
def dPut (kvs : List (κ × β)) (k : κ) (v : β) : List (κ × β) :=
  if (kvs.any fun kv => decide (kv.1 = k)) = true then kvs.map (fun kv => if kv.1 = k then (kv.1, v) else kv) else kvs ++ [(k, v)]
end
def keyOf : W → Option Key
  | .int i => some (.inl i)
  | .str x => some (.inr x)
  | _ => none
def keysOf : List W → Option (List Key)
  | [] => some []
  | w :: ws => match keyOf w, keysOf ws with
    | some k, some ks => some (k :: ks)
    | _, _ => none
/-- what a dict holds at a key: none: no key of its kind -/
def dicAt : W → W → Option (Option W)
  | .dk kvs, k => (keyOf k).map fun k => dGet kvs k
  | .dt kvs, .tup ws => (keysOf ws).map fun k => dGet kvs k
  | _, _ => none
def tkOf : W → Option (List Key)
  | .tup ws => keysOf ws
  | _ => none
def dkPut (kvs : List (Key × W)) (k v : W) : Option W := match keyOf k with
  | some κ => if kvs.length < sizeLine then some (.dk (dPut kvs κ v)) else none
  | none => none
def dtPut (kvs : List (List Key × W)) (k v : W) : Option W := match tkOf k with
  | some κ => if kvs.length < sizeLine then some (.dt (dPut kvs κ v)) else none
  | none => none
section
variable {K : PySem.W.Frag} {α : List Addr} {Z : Addr → Prop} {H : Hp} {S : Store} {m m2 : Md} {v y : V} {k w : W}
theorem dk_get {κ : Type} [DecidableEq κ] : ∀ {kvs : List (κ × V)} {kws : List (κ × W)} (k : κ), kvs.map (·.1) = kws.map (·.1) → RepL K α Z H (kvs.map (·.2)) (kws.map (·.2)) →
    (dGet kws k = none → valV kvs k = none) ∧ ∀ w, dGet kws k = some w → ∃ v, valV kvs k = some v ∧ Rep K α Z H v w
  | [], [], k, _, _ => ⟨fun _ => rfl, fun w h => by cases h⟩
  | [], _ :: _, _, h, _ => by cases h
  | _ :: _, [], _, h, _ => by cases h
  | (k1, v1) :: r, (k2, w2) :: q, k, h, rl => by
    have e1 : k1 = k2 := by injection h
    have e2 : r.map (·.1) = q.map (·.1) := by injection h
    subst e1
    cases rl with
    | cons ra rt =>
      by_cases e : k1 = k
      · constructor
        · intro hh; simp [dGet, List.find?_cons, e] at hh
        · intro w hh
          simp [dGet, List.find?_cons, e] at hh
          subst hh
          exact ⟨v1, valV_pos (p := (k1, v1)) e, ra⟩
      · have ih := dk_get k e2 rt
        have a1 : dGet ((k1, w2) :: q) k = dGet q k := by simp [dGet, List.find?_cons, e]
        rw [a1, valV_neg (p := (k1, v1)) e]
        exact ih
theorem any_key {κ β γ : Type} [DecidableEq κ] (k : κ) : ∀ {kvs : List (κ × β)} {kws : List (κ × γ)}, kvs.map (·.1) = kws.map (·.1) → (kvs.any fun kv => decide (kv.1 = k)) = kws.any fun kv => decide (kv.1 = k)
  | [], [], _ => rfl
  | [], _ :: _, h => by cases h
  | _ :: _, [], h => by cases h
  | a :: r, b :: q, h => by
    have e1 : a.1 = b.1 := by injection h
    have e2 : r.map (·.1) = q.map (·.1) := by injection h
    rw [List.any_cons, List.any_cons, any_key k e2, e1]
theorem dk_map {κ : Type} [DecidableEq κ] (k : κ) (rv : Rep K α Z H v w) : ∀ {kvs : List (κ × V)} {kws : List (κ × W)}, kvs.map (·.1) = kws.map (·.1) → RepL K α Z H (kvs.map (·.2)) (kws.map (·.2)) →
    (kvs.map fun kv => if kv.1 = k then (kv.1, v) else kv).map (·.1) = (kws.map fun kv => if kv.1 = k then (kv.1, w) else kv).map (·.1) ∧
      RepL K α Z H ((kvs.map fun kv => if kv.1 = k then (kv.1, v) else kv).map (·.2)) ((kws.map fun kv => if kv.1 = k then (kv.1, w) else kv).map (·.2))
  | [], [], _, _ => ⟨rfl, .nil⟩
  | [], _ :: _, h, _ => by cases h
  | _ :: _, [], h, _ => by cases h
  | (k1, v1) :: r, (k2, w2) :: q, h, rl => by
    have e1 : k1 = k2 := by injection h
    have e2 : r.map (·.1) = q.map (·.1) := by injection h
    subst e1
    cases rl with
    | cons ra rt =>
      obtain ⟨i1, i2⟩ := dk_map k rv e2 rt
      by_cases e : k1 = k
      · simp only [List.map_cons, e, if_true]
        exact ⟨by rw [i1], .cons rv i2⟩
      · simp only [List.map_cons, e, if_false]
        exact ⟨by rw [i1], .cons ra i2⟩
theorem dk_put {κ : Type} [DecidableEq κ] (k : κ) (rv : Rep K α Z H v w) {kvs : List (κ × V)} {kws : List (κ × W)} (h : kvs.map (·.1) = kws.map (·.1)) (rl : RepL K α Z H (kvs.map (·.2)) (kws.map (·.2))) :
    (putK kvs k v).map (·.1) = (dPut kws k w).map (·.1) ∧ RepL K α Z H ((putK kvs k v).map (·.2)) ((dPut kws k w).map (·.2)) := by
  unfold putK dPut
  rw [any_key k h]
  split
  · exact dk_map k rv h rl
  · refine ⟨by simp [h], ?_⟩
    rw [List.map_append, List.map_append]
    exact rl.append (.cons rv .nil)
theorem keyOf_ok {κ : Key} (r : RepM K α Z H m y k) (h : keyOf k = some κ) : y = kV κ := by
  cases k with
  | int i => cases h; exact r.ofInt
  | str x => cases h; exact r.ofStr
  | _ => cases h
theorem keysOf_ok : ∀ {ws : List W} {xs : List V} {ks : List Key}, RepL K α Z H xs ws → keysOf ws = some ks → xs = ks.map kV
  | [], _, _, r, h => by cases h; cases r; rfl
  | w :: ws, _, _, r, h => by
    unfold keysOf at h
    split at h
    · rename_i κ ks h1 h2
      cases h
      cases r with
      | cons r t => rw [List.map_cons, ← keysOf_ok t h2, ← keyOf_ok (r.im (m := .frz) (by cases w <;> first | rfl | cases h1)) h1]
    · cases h
theorem tkOf_ok {κ : List Key} (r : RepM K α Z H m y k) (h : tkOf k = some κ) : ∃ b, y = .ref b ∧ H b = some (.tup (κ.map kV)) := by
  cases k with
  | tup ws =>
    obtain ⟨b, xs, rfl, hb, rb⟩ := r.ofTup
    rw [keysOf_ok rb h] at hb
    exact ⟨b, rfl, hb⟩
  | _ => cases h
theorem dic_get {d : W} {o : Option W} (rd : RepM K α Z H m v d) (ry : RepM K α Z H m2 y k) (h : dicAt d k = some o) :
    ∃ a, v = .ref a ∧ (o = none → DGet H a y none) ∧ ∀ w, o = some w → ∃ u, DGet H a y (some u) ∧ Rep K α Z H u w := by
  cases rd with
  | im e r => cases d <;> first | (cases e; done) | (cases k <;> cases h)
  | mu h0 s rl hn h1 h2 =>
    refine ⟨_, rfl, ?_⟩
    cases s with
    | lst => cases h
    | @dk kvs kws e =>
      obtain ⟨κ, hk, ho⟩ := Option.map_eq_some_iff.mp h
      obtain ⟨g1, g2⟩ := dk_get κ e rl
      rw [keyOf_ok ry hk]
      refine ⟨fun hh => ?_, fun w hh => ?_⟩
      · rw [← g1 (ho.trans hh)]; exact .k h0
      · obtain ⟨u, q1, q2⟩ := g2 w (ho.trans hh)
        refine ⟨u, ?_, q2⟩
        rw [← q1]; exact .k h0
    | @dt kvs kws e =>
      cases k with
      | tup ws =>
        obtain ⟨κ, hk, ho⟩ := Option.map_eq_some_iff.mp h
        obtain ⟨g1, g2⟩ := dk_get κ e rl
        obtain ⟨b, xs, rfl, hb, rb⟩ := ry.ofTup
        rw [keysOf_ok rb hk] at hb
        refine ⟨fun hh => ?_, fun w hh => ?_⟩
        · rw [← g1 (ho.trans hh)]; exact .t h0 hb
        · obtain ⟨u, q1, q2⟩ := g2 w (ho.trans hh)
          refine ⟨u, ?_, q2⟩
          rw [← q1]; exact .t h0 hb
      | _ => cases h
end
section
variable {X : Cx} {a b : Expr} {fa fb : CE} {pos : Pos}
def rIxD : R2 := fun x y H Q => ∃ a v, x = .ref a ∧ DGet H a y (some v) ∧ Q v H
theorem ix_dict (hu : X.A.units + 1 < cLine) : IxR X rIxD := by
  intro value slice pins s σ H x y v u Q I rx ry h hs
  obtain ⟨p, z, rfl, g, q⟩ := h
  cases rx
  exact tail_any (dict_typeIs I g) PySem.F.slot_dict_getitem.lookup (d_getItem hu I g ry fun w' s3 I3 rw' => ⟨z, H, I3, rw', q⟩) hs
def rIxW (K : PySem.W.Frag) : R2 := fun x y H Q => rIx K x y H Q ∨ rIxD x y H Q
/-- o[i] -/
def gIx (S : Store) : W → W → Option W
  | .tup ws, .int i => atI ws i
  | .lst ws, .int i => atI ws i
  | .cel n, .int i => match S[n]? with
    | some ws => atI ws i
    | none => none
  | .scr ns, .int i => (atI ns i).map .int
  | .str x, .int i => if x.length ≤ sizeLine then (atI x.cps.toList i).map fun c => .str ⟨#[c]⟩ else none
  | d, k => match dicAt d k with
    | some o => o
    | none => none
theorem atI_rep {K : PySem.W.Frag} {α : List Addr} {Z : Addr → Prop} {H : Hp} {xs : List V} {ws : List W} {i : Int} {w : W} (r : RepL K α Z H xs ws) (h : atI ws i = some w) : ∃ v, atI xs i = some v ∧ Rep K α Z H v w := by
  unfold atI at h ⊢
  rw [r.length]
  cases e : ixN ws.length i with
  | none => rw [e] at h; cases h
  | some j =>
    rw [e] at h
    exact r.get h
theorem WOk.at {K : PySem.W.Frag} {α : List Addr} {Z : Addr → Prop} {H : Hp} {S : Store} (o : WOk K H S α Z) {n : Nat} {a : Addr} {ws : List W} (h1 : α[n]? = some a) (h2 : S[n]? = some ws) : ∃ xs, H a = some (.lst xs) ∧ RepL K α Z H xs ws := by
  have go : ∀ {l₁ : List Addr} {l₂ : Store} {F : Addr → List W → Prop} {n : Nat} {x : Addr} {y : List W}, Paired F l₁ l₂ → l₁[n]? = some x → l₂[n]? = some y → F x y := by
    intro l₁ l₂ F n x y pr
    induction pr generalizing n with
    | nil => intro h; simp at h
    | cons r t ih =>
      intro h1 h2
      cases n with
      | zero => simp at h1 h2; subst h1; subst h2; exact r
      | succ n => exact ih (by simpa using h1) (by simpa using h2)
  exact go o.cells h1 h2
def cIx (fa fb : CE) : CE := fun ρ S => bnd (fa ρ S) fun a S => bnd (fb ρ S) fun b S => (gIx S a.1 b.1).map fun c => ((c, .frz), S)
theorem e_ix {k : Nat} (hr : Room k X.A) (ha : EE X a fa) (hb : EE X b fb) (hs : PlainIx b := by exact fun _ _ => rfl) : EE X (.Subscript a b pos) (cIx fa fb) := by
  refine PE.cons (pe_ix (ix_seq.or (ix_dict (hu_of hr))) ha hb hs) fun σ H Q ⟨ρ, S, α, Z, r', S', wo, en, h, q⟩ => ?_
  obtain ⟨ra, S1, h1, h⟩ := of_bnd h
  obtain ⟨rb, S2, h2, h⟩ := of_bnd h
  cases hc : gIx S2 ra.1 rb.1 with
  | none => rw [hc] at h; cases h
  | some c =>
    rw [hc] at h
    cases h
    refine ⟨ρ, S, α, Z, ra, S1, wo, en, h1, fun v1 H1 α1 Z1 k1 w1 g1 => ⟨ρ, S1, α1, Z1, rb, _, w1, en.keep wo k1, h2, fun v2 H2 α2 Z2 k2 w2 g2 => ?_⟩⟩
    have r1 := g1.rep.keep w1 k2
    have fin : ∀ v, Rep X.K α2 Z2 H2 v c → Q v H2 := fun v r => q v H2 α2 Z2 (k1.trans k2) w2 ⟨r.toM w2, fun e => by cases e⟩
    have r2 := g2.rep
    obtain ⟨wa, ma⟩ := ra
    obtain ⟨wb, mb⟩ := rb
    dsimp only at hc r1 r2
    have dic : ∀ o, dicAt wa wb = some o → (match dicAt wa wb with | some o => o | none => none) = some c → rIxD v1 v2 H2 Q := fun o e hc => by
      rw [e] at hc
      obtain ⟨a, e1, e2, e3⟩ := dic_get r1 r2 e
      obtain ⟨u, q1, q2⟩ := e3 c hc
      exact ⟨a, u, e1, q1, fin u q2⟩
    have dic2 : (match dicAt wa wb with | some o => o | none => none) = some c → rIxD v1 v2 H2 Q := fun hc => by
      cases e : dicAt wa wb with
      | none => rw [e] at hc; cases hc
      | some o => exact dic o e hc
    unfold gIx at hc
    split at hc
    · obtain ⟨p, xs, rfl, hp, rp⟩ := r1.ofTup
      rw [r2.ofInt]
      obtain ⟨u, q1, q2⟩ := atI_rep rp hc
      exact .inl (.inr (.inl ⟨p, xs, _, u, rfl, rfl, .of hp, q1, fin u q2⟩))
    · obtain ⟨p, xs, rfl, hp, rp, _⟩ := r1.ofLst
      rw [r2.ofInt]
      obtain ⟨u, q1, q2⟩ := atI_rep rp hc
      exact .inl (.inl ⟨p, xs, _, u, rfl, rfl, .of hp, q1, fin u q2⟩)
    · split at hc
      · rename_i ws hn
        obtain ⟨p, rfl, hp⟩ := r1.ofCel
        rw [r2.ofInt]
        obtain ⟨xs, hx, rp⟩ := w2.at hp hn
        obtain ⟨u, q1, q2⟩ := atI_rep rp hc
        exact .inl (.inl ⟨p, xs, _, u, rfl, rfl, .of hx, q1, fin u q2⟩)
      · cases hc
    · obtain ⟨p, rfl, hp⟩ := r1.ofScr
      rw [r2.ofInt]
      obtain ⟨n, hn, rfl⟩ := Option.map_eq_some_iff.mp hc
      refine .inl (.inl ⟨p, _, _, .int n, rfl, rfl, hp, ?_, fin _ (.int n)⟩)
      unfold atI at hn ⊢
      rw [List.length_map]
      revert hn
      cases ixN _ _ with
      | none => intro hn; cases hn
      | some j =>
        intro hn
        have hn : _ = some n := hn
        show (List.map V.int _)[j]? = some (V.int n)
        rw [List.getElem?_map]
        exact congrArg (Option.map V.int) hn
    · split at hc
      · rename_i hl
        rw [r1.ofStr, r2.ofInt]
        obtain ⟨n, hn, rfl⟩ := Option.map_eq_some_iff.mp hc
        exact .inl (.inr (.inr ⟨_, _, n, rfl, rfl, hl, hn, fin _ (.str _)⟩))
      · cases hc
    · exact .inr (dic2 hc)

/-- d.get(k), d.get(k, x) -/
def cGet1 (fd fk : CE) : CE := fun ρ S => bnd (fd ρ S) fun d S => bnd (fk ρ S) fun k S => match dicAt d.1 k.1 with
  | some o => some ((o.getD .non, .frz), S)
  | none => none
theorem isD_of {K : PySem.W.Frag} {α : List Addr} {Z : Addr → Prop} {H : Hp} {m : Md} {v : V} {d k : W} {o : Option W} (rd : RepM K α Z H m v d) (h : dicAt d k = some o) : ∃ a, v = .ref a ∧ IsD H a := by
  cases rd with
  | im e r => cases d <;> first | (cases e; done) | (cases k <;> cases h)
  | mu h0 s rl hn h1 h2 =>
    refine ⟨_, rfl, ?_⟩
    cases s with
    | lst => cases h
    | dk e => exact .inl ⟨_, .inl h0⟩
    | dt e => exact .inr ⟨_, .inl h0⟩
theorem e_get1 {k : Nat} {apos cpos : Pos} (hr : Room k X.A) (ha : EE X a fa) (hb : EE X b fb) (m : M1 X a "get" apos b cpos) : EE X (.Call (.Attribute a "get" apos) [b] [] cpos) (cGet1 fa fb) := by
  refine PE.cons (pe_dget1 (hu_of hr) ha hb m) fun σ H Q ⟨ρ, S, α, Z, r', S', wo, en, h, q⟩ => ?_
  obtain ⟨ra, S1, h1, h⟩ := of_bnd h
  obtain ⟨rb, S2, h2, h⟩ := of_bnd h
  split at h
  · rename_i o ho
    cases h
    refine ⟨ρ, S, α, Z, ra, S1, wo, en, h1, fun v1 H1 α1 Z1 k1 w1 g1 => ?_⟩
    obtain ⟨p, e1, hd⟩ := isD_of g1.rep ho
    refine ⟨p, e1, hd, ρ, S1, α1, Z1, rb, _, w1, en.keep wo k1, h2, fun v2 H2 α2 Z2 k2 w2 g2 => ?_⟩
    obtain ⟨p', e1', d1, d2⟩ := dic_get (g1.rep.keep w1 k2) g2.rep ho
    have ep : p' = p := by rw [e1] at e1'; cases e1'; rfl
    subst ep
    have fin : ∀ v w, Rep X.K α2 Z2 H2 v w → w = o.getD .non → Q v H2 := fun v w r e => by
      subst e
      exact q v H2 α2 Z2 (k1.trans k2) w2 ⟨r.toM w2, fun e => by cases e⟩
    cases o with
    | none => exact ⟨none, d1 rfl, fin _ _ .non rfl⟩
    | some w =>
      obtain ⟨u, q1, q2⟩ := d2 w rfl
      exact ⟨some u, q1, fin _ _ q2 rfl⟩
  · cases h
def cGet2 (fd fk fx : CE) : CE := fun ρ S => bnd (fd ρ S) fun d S => bnd (fk ρ S) fun k S => bnd (fx ρ S) fun x S => match dicAt d.1 k.1 with
  | some (some w) => some ((w, .frz), S)
  | some none => some (x, S)
  | none => none
theorem e_get2 {k : Nat} {c : Expr} {fc : CE} {apos cpos : Pos} (hr : Room k X.A) (ha : EE X a fa) (hb : EE X b fb) (hc : EE X c fc) (m : M2 X a "get" apos b c cpos) : EE X (.Call (.Attribute a "get" apos) [b, c] [] cpos) (cGet2 fa fb fc) := by
  refine PE.cons (pe_dget2 (hu_of hr) ha hb hc m) fun σ H Q ⟨ρ, S, α, Z, r', S', wo, en, h, q⟩ => ?_
  obtain ⟨ra, S1, h1, h⟩ := of_bnd h
  obtain ⟨rb, S2, h2, h⟩ := of_bnd h
  obtain ⟨rc, S3, h3, h⟩ := of_bnd h
  obtain ⟨o, ho, h⟩ : ∃ o, dicAt ra.1 rb.1 = some o ∧ (match o with | some w => some ((w, Md.frz), S3) | none => some (rc, S3)) = some (r', S') := by
    split at h
    · rename_i w ho; exact ⟨_, ho, h⟩
    · rename_i ho; exact ⟨_, ho, h⟩
    · cases h
  refine ⟨ρ, S, α, Z, ra, S1, wo, en, h1, fun v1 H1 α1 Z1 k1 w1 g1 => ?_⟩
  obtain ⟨p, e1, hd⟩ := isD_of g1.rep ho
  refine ⟨p, e1, hd, ρ, S1, α1, Z1, rb, _, w1, en.keep wo k1, h2, fun v2 H2 α2 Z2 k2 w2 g2 => ⟨ρ, _, α2, Z2, rc, _, w2, en.keep wo (k1.trans k2), h3, fun v3 H3 α3 Z3 k3 w3 g3 => ?_⟩⟩
  obtain ⟨p', e1', d1, d2⟩ := dic_get (g1.rep.keep w1 (k2.trans k3)) (g2.rep.keep w2 k3) ho
  have ep : p' = p := by rw [e1] at e1'; cases e1'; rfl
  subst ep
  have kk := (k1.trans k2).trans k3
  cases o with
  | none =>
    cases h
    exact ⟨none, d1 rfl, q _ H3 α3 Z3 kk w3 (g3.back (k1.trans k2).d)⟩
  | some w =>
    cases h
    obtain ⟨u, q1, q2⟩ := d2 w rfl
    exact ⟨some u, q1, q _ H3 α3 Z3 kk w3 ⟨q2.toM w3, fun e => by cases e⟩⟩

/-- k in d -/
def cInD (neg : Bool) (fk fd : CE) : CE := fun ρ S => bnd (fk ρ S) fun k S => bnd (fd ρ S) fun d S => match dicAt d.1 k.1 with
  | some o => some ((.bl (neg != o.isSome), .own), S)
  | none => none
/-- {} -/
def cDk : CE := fun _ S => some ((.dk [], .own), S)
def cDt : CE := fun _ S => some ((.dt [], .own), S)
theorem e_dk : EE X (.Dict [] [] pos) cDk := by
  refine PE.cons pe_dnewK fun σ H Q ⟨ρ, S, α, Z, r', S', wo, en, h, q⟩ => ?_
  cases h
  intro p hp
  refine q _ _ α Z (Keep.new hp) (wo.new hp) ⟨.mu upd_same (.dk (kvs := []) (kws := []) rfl) .nil (wo.nα hp) (fun _ => wo.nZ hp) (fun e => by cases e), fun _ _ a e => ?_⟩
  cases e
  exact hp
theorem e_dt : EE X (.Dict [] [] pos) cDt := by
  refine PE.cons pe_dnewT fun σ H Q ⟨ρ, S, α, Z, r', S', wo, en, h, q⟩ => ?_
  cases h
  intro p hp
  refine q _ _ α Z (Keep.new hp) (wo.new hp) ⟨.mu upd_same (.dt (kvs := []) (kws := []) rfl) .nil (wo.nα hp) (fun _ => wo.nZ hp) (fun e => by cases e), fun _ _ a e => ?_⟩
  cases e
  exact hp
end

/-! ### statements -/
structure Bs where
  H : Hp
  α : List Addr
  Z : Addr → Prop
def OwnB (B : Bs) (ρ : Env) (σ : L2.St) : Prop := ∀ (i : Nat) w, ρ[i]? = some (some (w, Md.own)) → w.mut = true → ∀ a, σ[i]? = some (some (.ref a)) → B.H a = none
structure At (K : PySem.W.Frag) (B : Bs) (ρ : Env) (S : Store) (σ : L2.St) (H : Hp) (α : List Addr) (Z : Addr → Prop) : Prop where
  w : WOk K H S α Z
  k : Keep B.H B.α B.Z H α Z
  e : EnvOk K α Z H ρ σ
  o : OwnB B ρ σ
def SOk (K : PySem.W.Frag) (B : Bs) (ρ : Env) (S : Store) (σ : L2.St) (H : Hp) : Prop := ∃ α Z, At K B ρ S σ H α Z
inductive SOut where
  | nx (ρ : Env) (S : Store) | rt (r : Wm) (S : Store) | bk (ρ : Env) (S : Store) | ct (ρ : Env) (S : Store)
abbrev CS := Env → Store → Option SOut
def EndOk (K : PySem.W.Frag) (B : Bs) (D : Ends) : SOut → Prop
  | .nx ρ S => ∀ σ H, SOk K B ρ S σ H → D.nx σ H
  | .bk ρ S => ∀ σ H, SOk K B ρ S σ H → D.bk σ H
  | .ct ρ S => ∀ σ H, SOk K B ρ S σ H → D.ct σ H
  | .rt r S => sto r = true ∧ ∀ v H α Z, Keep B.H B.α B.Z H α Z → WOk K H S α Z → Got K B.H α Z H r v → D.rt v H
def semS (K : PySem.W.Frag) (f : CS) : TS := fun D σ H => ∃ B ρ S o, SOk K B ρ S σ H ∧ f ρ S = some o ∧ EndOk K B D o
abbrev ES (X : Cx) (st : Stmt) (f : CS) : Prop := PS X st (semS X.K f)
abbrev ESs (X : Cx) (st : List Stmt) (f : CS) : Prop := PSs X st (semS X.K f)
theorem PS.cons {X : Cx} {st : Stmt} {t t' : TS} (h : PS X st t) (i : ∀ D σ H, t' D σ H → t D σ H) : PS X st t' := ⟨fun pins s σ H D I q => h.run pins s σ H D I (i D σ H q)⟩
theorem PSs.cons {X : Cx} {st : List Stmt} {t t' : TS} (h : PSs X st t) (i : ∀ D σ H, t' D σ H → t D σ H) : PSs X st t' := ⟨fun pins s σ H D I q => h.run pins s σ H D I (i D σ H q)⟩
def cSkip : CS := fun ρ S => some (.nx ρ S)
def cSeq (f g : CS) : CS := fun ρ S => match f ρ S with
  | some (.nx ρ' S') => g ρ' S'
  | o => o
section
variable {X : Cx} {st : Stmt} {rest : List Stmt} {f g : CS} {e : Expr} {fe : CE} {pos : Pos}
theorem s_nil : ESs X [] cSkip := PSs.cons pss_nil fun D σ H ⟨B, ρ, S, o, so, h, q⟩ => by
  cases h
  exact q σ H so
theorem s_cons (h1 : ES X st f) (h2 : ESs X rest g) : ESs X (st :: rest) (cSeq f g) := PSs.cons (pss_cons h1 h2) fun D σ H ⟨B, ρ, S, o, so, h, q⟩ => by
  unfold cSeq at h
  cases hf : f ρ S with
  | none => rw [hf] at h; cases h
  | some o1 =>
    rw [hf] at h
    refine ⟨B, ρ, S, o1, so, hf, ?_⟩
    cases o1 with
    | nx ρ' S' => exact fun σ' H' so' => ⟨B, ρ', S', o, so', h, q⟩
    | rt r S' => cases h; exact q
    | bk ρ' S' => cases h; exact q
    | ct ρ' S' => cases h; exact q
theorem s_one (h1 : ES X st f) : ESs X [st] f := pss_one h1
theorem s_pass : ES X (.Pass pos) cSkip := PS.cons ps_pass fun D σ H ⟨B, ρ, S, o, so, h, q⟩ => by
  cases h
  exact q σ H so
def cBrk : CS := fun ρ S => some (.bk ρ S)
def cCnt : CS := fun ρ S => some (.ct ρ S)
theorem s_break : ES X (.Break pos) cBrk := PS.cons ps_break fun D σ H ⟨B, ρ, S, o, so, h, q⟩ => by
  cases h
  exact q σ H so
theorem s_continue : ES X (.Continue pos) cCnt := PS.cons ps_continue fun D σ H ⟨B, ρ, S, o, so, h, q⟩ => by
  cases h
  exact q σ H so
theorem At.go {K : PySem.W.Frag} {B : Bs} {ρ : Env} {S S' : Store} {σ : L2.St} {H H' : Hp} {α α' : List Addr} {Z Z' : Addr → Prop} (a : At K B ρ S σ H α Z) (k : Keep H α Z H' α' Z') (w : WOk K H' S' α' Z') : At K B ρ S' σ H' α' Z' :=
  ⟨w, a.k.trans k, a.e.keep a.w k, a.o⟩
def cDrop (fe : CE) : CS := fun ρ S => bnd (fe ρ S) fun _ S => some (.nx ρ S)
theorem s_expr (he : EE X e fe) (hs : swapsWith e none pos.line X.env = pure false := by rfl) : ES X (.Expr e pos) (cDrop fe) := PS.cons (ps_expr he hs) fun D σ H ⟨B, ρ, S, o, ⟨α, Z, at_⟩, h, q⟩ => by
  obtain ⟨r, S1, h1, h⟩ := of_bnd h
  cases h
  exact ⟨ρ, S, α, Z, r, S1, at_.w, at_.e, h1, fun v H1 α1 Z1 k1 w1 _ => q σ H1 ⟨α1, Z1, at_.go k1 w1⟩⟩
theorem s_doc {x j pos'} : ES X (.Expr (.Constant (.str x) j pos) pos') cSkip := PS.cons ps_doc fun D σ H ⟨B, ρ, S, o, so, h, q⟩ => by
  cases h
  exact q σ H so
def cRet (fe : CE) : CS := fun ρ S => bnd (fe ρ S) fun r S => if sto r = true then some (.rt r S) else none
theorem s_ret (he : EE X e fe) : ES X (.Return (some e) pos) (cRet fe) := PS.cons (ps_ret he) fun D σ H ⟨B, ρ, S, o, ⟨α, Z, at_⟩, h, q⟩ => by
  obtain ⟨r, S1, h1, h⟩ := of_bnd h
  split at h
  · cases h
    exact ⟨ρ, S, α, Z, r, S1, at_.w, at_.e, h1, fun v H1 α1 Z1 k1 w1 g => q.2 v H1 α1 Z1 (at_.k.trans k1) w1 (g.back at_.k.d)⟩
  · cases h
def cRetN : CS := fun _ S => some (.rt (.non, .own) S)
theorem s_retN : ES X (.Return none pos) cRetN := PS.cons ps_retN fun D σ H ⟨B, ρ, S, o, ⟨α, Z, at_⟩, h, q⟩ => by
  cases h
  exact q.2 _ H α Z at_.k at_.w (Got.im .non rfl)
/-- a name's own value is handed out -/
def cRetV (i : Nat) : CS := fun ρ S => match ρ[i]? with
  | some (some r) => if sto r = true then some (.rt r S) else none
  | _ => none
theorem s_retV (i : Nat) {x : Str} {p : Pos} (hN : X.N[i]? = some x := by rfl) (hv : Vis X.env.scope x := by first | exact Or.inl rfl | exact Or.inr (Or.inl rfl) | exact Or.inr (Or.inr rfl)) (hd : (x == ("__debug__" : Str)) = false := by decide)
    (hcd : (x == ("__classdict__" : Str)) = false := by decide) : ES X (.Return (some (.Name x p)) pos) (cRetV i) := PS.cons (ps_ret (pe_var hN hv hd hcd)) fun D σ H ⟨B, ρ, S, o, ⟨α, Z, at_⟩, h, q⟩ => by
  unfold cRetV at h
  split at h
  · rename_i r hr
    split at h
    · cases h
      obtain ⟨w, m⟩ := r
      obtain ⟨v, e1, r1⟩ := at_.e.slot i w m hr
      refine ⟨v, e1, q.2 v H α Z at_.k at_.w ⟨r1, fun e2 e3 a e4 => ?_⟩⟩
      dsimp only at e2 e3
      subst e2 e4
      exact at_.o i w hr e3 a e1
    · cases h
  · cases h
def cIfS (t : CT) (f g : CS) : CS := fun ρ S => bnd (t ρ S) fun b S => if b = true then f ρ S else g ρ S
theorem s_if {c : Expr} {a b : List Stmt} {t : CT} (hc : ET X c t) (ha : ESs X a f) (hb : ESs X b g) : ES X (.If c a b pos) (cIfS t f g) := PS.cons (ps_if hc ha hb) fun D σ H ⟨B, ρ, S, o, ⟨α, Z, at_⟩, h, q⟩ => by
  obtain ⟨r, S1, h1, h⟩ := of_bnd h
  refine ⟨ρ, S, α, Z, r, S1, at_.w, at_.e, h1, fun H1 α1 Z1 k1 w1 => ?_⟩
  cases r with
  | true =>
    rw [if_pos rfl] at h
    refine iteT ?_
    exact ⟨B, ρ, S1, o, ⟨α1, Z1, at_.go k1 w1⟩, h, q⟩
  | false =>
    rw [if_neg Bool.false_ne_true] at h
    refine iteF ?_
    exact ⟨B, ρ, S1, o, ⟨α1, Z1, at_.go k1 w1⟩, h, q⟩
end

/-! ### a name gives its list up -/
def frzE (ρ : Env) (i : Nat) : Env := match ρ[i]? with
  | some (some (w, .own)) => ρ.set i (some (w, .frz))
  | _ => ρ
def cFz (is : List Nat) (f : CS) : CS := fun ρ S => f (is.foldl frzE ρ) S
theorem At.frz {K : PySem.W.Frag} {B : Bs} {ρ : Env} {S : Store} {σ : L2.St} {H : Hp} {α : List Addr} {Z : Addr → Prop} (a : At K B ρ S σ H α Z) (i : Nat) : ∃ Z', At K B (frzE ρ i) S σ H α Z' := by
  unfold frzE
  split
  · rename_i w hr
    have hi : i < ρ.length := (List.getElem?_eq_some_iff.mp hr).1
    obtain ⟨v, e1, r1⟩ := a.e.slot i w .own hr
    cases hm : w.mut with
    | false =>
      refine ⟨Z, a.w, a.k, ⟨by rw [List.length_set]; exact a.e.len, fun j w' m' hj => ?_, fun j j' w1 w2 m2 hne h1 h2 h3 h4 => ?_⟩, fun j w' hj hm' => ?_⟩
      · by_cases e : i = j
        · subst e
          rw [List.getElem?_set_self hi] at hj
          cases hj
          exact ⟨v, e1, .im hm (r1.repI hm)⟩
        · rw [List.getElem?_set_ne e] at hj
          exact a.e.slot j w' m' hj
      · have n1 : i ≠ j := fun e => by subst e; rw [List.getElem?_set_self hi] at h1; cases h1
        rw [List.getElem?_set_ne n1] at h1
        by_cases e : i = j'
        · subst e
          rw [List.getElem?_set_self hi] at h3
          cases h3
          rw [hm] at h4; cases h4
        · rw [List.getElem?_set_ne e] at h3
          exact a.e.sep j j' w1 w2 m2 hne h1 h2 h3 h4
      · have n1 : i ≠ j := fun e => by subst e; rw [List.getElem?_set_self hi] at hj; cases hj
        rw [List.getElem?_set_ne n1] at hj
        exact a.o j w' hj hm'
    | true =>
      obtain ⟨p, o, xs, ws, rfl, h0, s, rl, hn, h1, h2⟩ := r1.muE hm
      have hb := a.o i w hr hm p e1
      have up : ∀ b, Z b → Z b ∨ b = p := fun b h => .inl h
      refine ⟨fun b => Z b ∨ b = p, a.w.mono up (fun b h => ?_) (fun b h => ?_), ⟨a.k.al, a.k.h, a.k.d, fun b h => .inl (a.k.z b h), fun b h => ?_⟩, ⟨by rw [List.length_set]; exact a.e.len, fun j w' m' hj => ?_, fun j j' w1 w2 m2 hne h1 h2 h3 h4 => ?_⟩, fun j w' hj hm' => ?_⟩
      · rcases h with h | h
        · exact a.w.zα b h
        · rw [h]; exact hn
      · rcases h with h | h
        · exact a.w.zH b h
        · rw [h, h0]; simp
      · rcases h with h | h
        · exact a.k.z' b h
        · rw [h]; exact .inr hb
      · by_cases e : i = j
        · subst e
          rw [List.getElem?_set_self hi] at hj
          cases hj
          exact ⟨.ref p, e1, .mu h0 s (rl.mono up) hn (fun e => by cases e) fun _ => .inr rfl⟩
        · rw [List.getElem?_set_ne e] at hj
          obtain ⟨u, q1, q2⟩ := a.e.slot j w' m' hj
          refine ⟨u, q1, ?_⟩
          cases q2 with
          | im e r => exact .im e (r.mono up)
          | mu c0 c1 c2 c3 c4 c5 =>
            refine .mu c0 c1 (c2.mono up) c3 (fun em z => ?_) fun em => .inl (c5 em)
            rcases z with z | z
            · exact c4 em z
            · subst em z
              exact a.e.sep i j w w' .own e hr hm hj c1.mut (e1.trans q1.symm)
      · have n1 : i ≠ j := fun e => by subst e; rw [List.getElem?_set_self hi] at h1; cases h1
        rw [List.getElem?_set_ne n1] at h1
        by_cases e : i = j'
        · subst e
          rw [List.getElem?_set_self hi] at h3
          cases h3
          exact a.e.sep j _ w1 w .own hne h1 h2 hr hm
        · rw [List.getElem?_set_ne e] at h3
          exact a.e.sep j j' w1 w2 m2 hne h1 h2 h3 h4
      · have n1 : i ≠ j := fun e => by subst e; rw [List.getElem?_set_self hi] at hj; cases hj
        rw [List.getElem?_set_ne n1] at hj
        exact a.o j w' hj hm'
  · exact ⟨Z, a⟩
theorem At.frzs {K : PySem.W.Frag} {B : Bs} {S : Store} {σ : L2.St} {H : Hp} {α : List Addr} : ∀ (is : List Nat) {ρ : Env} {Z : Addr → Prop}, At K B ρ S σ H α Z → ∃ Z', At K B (is.foldl frzE ρ) S σ H α Z'
  | [], _, Z, a => ⟨Z, a⟩
  | i :: is, _, _, a => let ⟨_, a'⟩ := a.frz i; At.frzs is a'
theorem s_fz {X : Cx} {st : Stmt} {f : CS} (is : List Nat) (h : ES X st f) : ES X st (cFz is f) := PS.cons h fun D σ H ⟨B, ρ, S, o, ⟨α, Z, at_⟩, h, q⟩ => by
  obtain ⟨Z', a'⟩ := at_.frzs is
  exact ⟨B, _, S, o, ⟨α, Z', a'⟩, h, q⟩

/-! ### targets -/
def md (r : Wm) : Wm := (r.1, if r.1.mut = true then r.2 else .frz)
abbrev CG := Wm → Env → Option Env
/-- the value fits a slot: an own one is nobody else's -/
structure Fits (K : PySem.W.Frag) (B : Bs) (ρ : Env) (σ : L2.St) (H : Hp) (α : List Addr) (Z : Addr → Prop) (r : Wm) (v : V) : Prop where
  rep : RepM K α Z H r.2 v r.1
  fr : r.2 = .own → r.1.mut = true → ∀ a, v = .ref a → B.H a = none ∧ ∀ (j : Nat) w m, ρ[j]? = some (some (w, m)) → w.mut = true → σ[j]? ≠ some (some (.ref a))
def Slots (is : List Nat) (σ σ' : L2.St) : Prop := σ'.length = σ.length ∧ ∀ j, j ∉ is → σ'[j]? = σ[j]?
def semG (K : PySem.W.Frag) (is : List Nat) (t : CG) : TG := fun v σ H Q => ∃ B ρ S α Z r ρ', At K B ρ S σ H α Z ∧ Fits K B ρ σ H α Z r v ∧ t r ρ = some ρ' ∧ ∀ σ', At K B ρ' S σ' H α Z → Slots is σ σ' → Q σ' H
def semGs (K : PySem.W.Frag) (is : List Nat) (t : List W → Env → Option Env) : TGs := fun vs σ H Q => ∃ B ρ S α Z ws ρ', At K B ρ S σ H α Z ∧ RepL K α Z H vs ws ∧ t ws ρ = some ρ' ∧ ∀ σ', At K B ρ' S σ' H α Z → Slots is σ σ' → Q σ' H
abbrev EG (X : Cx) (tg : Expr) (is : List Nat) (t : CG) : Prop := PG X tg (semG X.K is t)
abbrev EGs (X : Cx) (tgs : List Expr) (is : List Nat) (t : List W → Env → Option Env) : Prop := PGs X tgs (semGs X.K is t)
theorem PG.cons {X : Cx} {tg : Expr} {t t' : TG} (h : PG X tg t) (i : ∀ v σ H Q, t' v σ H Q → t v σ H Q) : PG X tg t' := ⟨fun pins s σ H v u Q I r q => h.run pins s σ H v u Q I r (i v σ H Q q)⟩
theorem PGs.cons {X : Cx} {tg : List Expr} {t t' : TGs} (h : PGs X tg t) (i : ∀ v σ H Q, t' v σ H Q → t v σ H Q) : PGs X tg t' := ⟨fun pins s σ H v u Q I r q => h.run pins s σ H v u Q I r (i v σ H Q q)⟩
def tName (i : Nat) : CG := fun r ρ => if sto r = true then some (ρ.set i (some (md r))) else none
theorem md_mut {r : Wm} {w : W} {m : Md} (h : some (md r) = some (w, m)) : r.1 = w ∧ (w.mut = true → r.2 = m) ∧ (w.mut = false → m = .frz) := by
  unfold md at h
  injection h with h
  injection h with h1 h2
  subst h1
  refine ⟨rfl, fun e => ?_, fun e => ?_⟩
  · rw [if_pos e] at h2; exact h2
  · rw [e, if_neg Bool.false_ne_true] at h2; exact h2.symm
theorem At.set {K : PySem.W.Frag} {B : Bs} {ρ : Env} {S : Store} {σ : L2.St} {H : Hp} {α : List Addr} {Z : Addr → Prop} {r : Wm} {v : V} (a : At K B ρ S σ H α Z) (i : Nat) (f : Fits K B ρ σ H α Z r v) (hs : sto r = true) :
    At K B (ρ.set i (some (md r))) S (σ.set i (some v)) H α Z := by
  have get : ∀ (j : Nat) w m, (ρ.set i (some (md r)))[j]? = some (some (w, m)) → (i ≠ j ∧ ρ[j]? = some (some (w, m)) ∧ (σ.set i (some v))[j]? = σ[j]?) ∨ (i = j ∧ some (md r) = some (w, m) ∧ (σ.set i (some v))[j]? = some (some v)) := by
    intro j w m hj
    by_cases e : i = j
    · subst e
      have hi : i < ρ.length := by
        have := (List.getElem?_eq_some_iff.mp hj).1
        rwa [List.length_set] at this
      rw [List.getElem?_set_self hi] at hj
      exact .inr ⟨rfl, Option.some.inj hj, List.getElem?_set_self (by rw [← a.e.len]; exact hi)⟩
    · rw [List.getElem?_set_ne e] at hj
      exact .inl ⟨e, hj, List.getElem?_set_ne e⟩
  have rep : ∀ w m, some (md r) = some (w, m) → RepM K α Z H m v w := by
    intro w m h
    obtain ⟨e1, e2, e3⟩ := md_mut h
    subst e1
    cases hm : r.1.mut with
    | true => rw [← e2 hm]; exact f.rep
    | false => exact .im hm (f.rep.repI hm)
  refine ⟨a.w, a.k, ⟨by rw [List.length_set, List.length_set]; exact a.e.len, fun j w m hj => ?_, fun j j' w w' m' hne h1 h2 h3 h4 => ?_⟩, fun j w hj hm b hb => ?_⟩
  · rcases get j w m hj with ⟨_, h1, h2⟩ | ⟨_, h1, h2⟩
    · rw [h2]; exact a.e.slot j w m h1
    · exact ⟨v, h2, rep w m h1⟩
  · rcases get j w _ h1 with ⟨n1, g1, s1⟩ | ⟨n1, g1, s1⟩ <;> rcases get j' w' m' h3 with ⟨n2, g2, s2⟩ | ⟨n2, g2, s2⟩
    · rw [s1, s2]; exact a.e.sep j j' w w' m' hne g1 h2 g2 h4
    · rw [s1, s2]
      obtain ⟨e1, e2, _⟩ := md_mut g2
      subst e1
      obtain ⟨u, q1, q2⟩ := a.e.slot j w _ g1
      intro e
      rw [q1] at e
      cases e
      cases q2 with
      | im e _ => rw [h2] at e; cases e
      | mu c0 c1 c2 c3 c4 c5 =>
        have c4 := c4 rfl
        obtain ⟨fr, ff⟩ := f
        have key : r.2 = .own ∨ r.2 = .frz ∨ r.2 = .brw := by cases r.2 <;> simp
        rcases key with k | k | k
        · exact (ff k h4 _ rfl).2 j w _ g1 h2 q1
        · rw [k] at fr
          cases fr with
          | im e _ => rw [h4] at e; cases e
          | mu d0 d1 d2 d3 d4 d5 => exact c4 (d5 rfl)
        · unfold sto at hs
          rw [h4, k] at hs
          cases hs
    · rw [s1, s2]
      obtain ⟨e1, e2, _⟩ := md_mut g1
      subst e1
      intro e
      obtain ⟨u, q1, q2⟩ := a.e.slot j' w' m' g2
      rw [q1] at e
      cases e
      have k := e2 h2
      cases q2 with
      | im e _ => rw [h4] at e; cases e
      | mu c0 c1 c2 c3 c4 c5 => exact (f.fr k h2 _ rfl).2 j' w' m' g2 h4 q1
    · exact absurd (n1.symm.trans n2) hne
  · rcases get j w _ hj with ⟨n1, g1, s1⟩ | ⟨n1, g1, s1⟩
    · rw [s1] at hb; exact a.o j w g1 hm b hb
    · obtain ⟨e1, e2, _⟩ := md_mut g1
      subst e1
      rw [s1] at hb
      cases hb
      exact (f.fr (e2 hm) hm _ rfl).1
theorem g_name {X : Cx} (i : Nat) {x : Str} {pos : Pos} (hN : X.N.Nodup) (hi : X.N[i]? = some x := by rfl) (hx : Loc X.env.scope x := by first | exact Or.inl rfl | exact Or.inr rfl)
    (hf : X.fn x = true ∨ X.env.scope.names.lookup x = some .local := by first | exact .inl rfl | exact .inr rfl) : EG X (.Name x pos) [i] (tName i) :=
  PG.cons (pg_name hN hi hx hf) fun v σ H Q ⟨B, ρ, S, α, Z, r, ρ', at_, ft, h, q⟩ => by
    unfold tName at h
    split at h
    · rename_i hs
      cases h
      exact q _ (at_.set i ft hs) ⟨List.length_set, fun j hj => List.getElem?_set_ne (fun e => hj (by simp [e]))⟩
    · cases h
def tNil : List W → Env → Option Env := fun ws ρ => match ws with
  | [] => some ρ
  | _ :: _ => none
def tCons (t : CG) (u : List W → Env → Option Env) : List W → Env → Option Env := fun ws ρ => match ws with
  | [] => none
  | w :: ws => (t (w, .frz) ρ).bind (u ws)
theorem gs_nil {X : Cx} : EGs X [] [] tNil := PGs.cons pgs_nil fun vs σ H Q ⟨B, ρ, S, α, Z, ws, ρ', at_, rl, h, q⟩ => by
  cases rl with
  | nil => cases h; exact ⟨rfl, q σ at_ ⟨rfl, fun _ _ => rfl⟩⟩
  | cons => cases h
theorem Fits.frz {K : PySem.W.Frag} {B : Bs} {ρ : Env} {S : Store} {σ : L2.St} {H : Hp} {α : List Addr} {Z : Addr → Prop} {w : W} {v : V} (o : WOk K H S α Z) (r : Rep K α Z H v w) : Fits K B ρ σ H α Z (w, .frz) v := ⟨r.toM o, fun e => by cases e⟩
theorem gs_cons {X : Cx} {e : Expr} {es : List Expr} {i1 i2 : List Nat} {t : CG} {u : List W → Env → Option Env} (h1 : EG X e i1 t) (h2 : EGs X es i2 u)
    (hs : (assignEach (e :: es) X.env).map (·.2) = assign e X.env :: (assignEach es X.env).map (·.2) := by rfl) : EGs X (e :: es) (i1 ++ i2) (tCons t u) :=
  PGs.cons (pgs_cons h1 h2 hs) fun vs σ H Q ⟨B, ρ, S, α, Z, ws, ρ', at_, rl, h, q⟩ => by
    cases rl with
    | nil => cases h
    | cons r rl =>
      obtain ⟨ρ1, e1, e2⟩ := Option.bind_eq_some_iff.mp h
      exact ⟨_, _, rfl, B, ρ, S, α, Z, _, ρ1, at_, Fits.frz at_.w r, e1, fun σ1 at1 sl1 => ⟨B, ρ1, S, α, Z, _, ρ', at1, rl, e2, fun σ2 at2 sl2 => q σ2 at2 ⟨sl2.1.trans sl1.1, fun j hj => (sl2.2 j fun h => hj (List.mem_append_right _ h)).trans (sl1.2 j fun h => hj (List.mem_append_left _ h))⟩⟩⟩
def tTup (n : Nat) (t : List W → Env → Option Env) : CG := fun r ρ => match r.1 with
  | .tup ws => if ws.length = n then t ws ρ else none
  | _ => none
theorem g_tup {X : Cx} {es : List Expr} {k : Nat} {pos : Pos} {is : List Nat} {t : List W → Env → Option Env} {n : Nat} (hc : X.calm = true) (h : EGs X es is t) (hn : (assignEach es X.env).length = n := by rfl) (hst : (assignEach es X.env).findIdx? (·.1) = none := by rfl) :
    EG X (.Tuple es k pos) is (tTup n t) := PG.cons (pg_tup hc h hn hst) fun v σ H Q ⟨B, ρ, S, α, Z, r, ρ', at_, ft, h, q⟩ => by
  obtain ⟨w, m⟩ := r
  cases w with
  | tup ws =>
    have h : (if ws.length = n then t ws ρ else none) = some ρ' := h
    split at h
    · rename_i hl
      obtain ⟨a, xs, rfl, ha, rl⟩ := ft.rep.ofTup
      exact ⟨a, xs, rfl, .of ha, rl.length.trans hl, B, ρ, S, α, Z, ws, ρ', at_, rl, h, q⟩
    · cases h
  | _ => cases h
def cAsg (t : CG) (fe : CE) : CS := fun ρ S => bnd (fe ρ S) fun r S => (t r ρ).map fun ρ' => .nx ρ' S
theorem Got.fits {K : PySem.W.Frag} {B : Bs} {ρ : Env} {S : Store} {σ : L2.St} {H H' : Hp} {α α' : List Addr} {Z Z' : Addr → Prop} {r : Wm} {v : V} (a : At K B ρ S σ H α Z) (g : Got K H α' Z' H' r v) : Fits K B ρ σ H' α' Z' r v :=
  ⟨g.rep, fun e1 e2 b e3 => by
    have hb := g.fr e1 e2 b e3
    refine ⟨a.k.d b hb, fun j w m hj hm hσ => ?_⟩
    obtain ⟨u, q1, q2⟩ := a.e.slot j w m hj
    rw [hσ] at q1
    cases q1
    cases q2 with
    | im e _ => rw [hm] at e; cases e
    | mu c0 => rw [hb] at c0; cases c0⟩
theorem s_asg {X : Cx} {tg e : Expr} {fe : CE} {is : List Nat} {t : CG} {pos : Pos} (hg : EG X tg is t) (he : EE X e fe) (hs : swapsWithSole [tg] e pos.line X.env = pure false := by rfl) (hw : swappedStores [tg] e X.env = pure none := by rfl)
    (h1 : (assignEach [tg] X.env).map (·.2) = [assign tg X.env] := by rfl) : ES X (.Assign [tg] e pos) (cAsg t fe) := PS.cons (ps_asg he hg hs hw h1) fun D σ H ⟨B, ρ, S, o, ⟨α, Z, at_⟩, h, q⟩ => by
  obtain ⟨r, S1, h1, h⟩ := of_bnd h
  obtain ⟨ρ', e1, rfl⟩ := Option.map_eq_some_iff.mp h
  exact ⟨ρ, S, α, Z, r, S1, at_.w, at_.e, h1, fun v H1 α1 Z1 k1 w1 g => ⟨B, ρ, S1, α1, Z1, r, ρ', at_.go k1 w1, g.fits at_, e1, fun σ' at' _ => q σ' H1 ⟨α1, Z1, at'⟩⟩⟩
/-- name op= e, by an operator that makes ints -/
def cAug (i : Nat) (g : W → W → Option W) (fe : CE) : CS := fun ρ S => bnd (fe ρ S) fun r S => match ρ[i]? with
  | some (some (w, _)) => (match g w r.1 with
    | some (.int z) => some (.nx (ρ.set i (some (.int z, .frz))) S)
    | _ => none)
  | _ => none
def gMulA : W → W → Option W := gMul
theorem s_augR {X : Cx} (i : Nat) {x : Str} {e : Expr} {fe : CE} {op : Operator} {g : W → W → Option W} {ti : TIp} {pos pos' : Pos} (hN : X.N.Nodup) (he : EE X e fe) (ho : PIp X op ti)
    (hg : ∀ a b z, g a b = some (.int z) → ∃ i j, a = .int i ∧ b = .int j ∧ ∀ H (Q : VK), Q (.int z) H → ti (.int i) (.int j) H Q) (hi : X.N[i]? = some x := by rfl) (hx : Loc X.env.scope x := by first | exact Or.inl rfl | exact Or.inr rfl)
    (hf : X.fn x = true ∨ X.env.scope.names.lookup x = some .local := by first | exact .inl rfl | exact .inr rfl) : ES X (.AugAssign (.Name x pos') op e pos) (cAug i g fe) :=
  PS.cons (ps_aug hN hi hx he ho hf) fun D σ H ⟨B, ρ, S, o, ⟨α, Z, at_⟩, h, q⟩ => by
    obtain ⟨r, S1, h1, h⟩ := of_bnd h
    split at h
    · rename_i w m hr
      split at h
      · rename_i z hz
        cases h
        obtain ⟨a, b, rfl, eb, hq⟩ := hg _ _ _ hz
        obtain ⟨v, e1, r1⟩ := at_.e.slot i _ m hr
        refine ⟨v, e1, ρ, S, α, Z, r, _, at_.w, at_.e, h1, fun v1 H1 α1 Z1 k1 w1 g => ?_⟩
        obtain ⟨rw_, rm⟩ := r
        dsimp only at eb
        subst eb
        rw [r1.ofInt, g.rep.ofInt]
        refine hq _ _ (q _ _ ⟨α1, Z1, ?_⟩)
        exact (at_.go k1 w1).set (r := (.int z, .frz)) i ⟨.im rfl (.int z), fun e => by cases e⟩ rfl
      · cases h
    · cases h
def gAddI : W → W → Option W := fun a b => match a, b with | .int i, .int j => some (.int (i + j)) | _, _ => none
theorem s_augAdd {X : Cx} (i : Nat) {x : Str} {e : Expr} {fe : CE} {pos pos' : Pos} (hN : X.N.Nodup) (he : EE X e fe) (hi : X.N[i]? = some x := by rfl) (hx : Loc X.env.scope x := by first | exact Or.inl rfl | exact Or.inr rfl)
    (hf : X.fn x = true ∨ X.env.scope.names.lookup x = some .local := by first | exact .inl rfl | exact .inr rfl) : ES X (.AugAssign (.Name x pos') .Add e pos) (cAug i gAddI fe) :=
  s_augR i hN he ip_add (fun a b z h => by
    unfold gAddI at h
    split at h
    · cases h; exact ⟨_, _, rfl, rfl, fun H Q q => ⟨_, _, rfl, rfl, q⟩⟩
    · cases h) hi hx hf

/-! ### what is walked -/
def OwnRoot (ρ : Env) (σ : L2.St) (a : Addr) : Prop := ∃ (i : Nat) (w : W), ρ[i]? = some (some (w, Md.own)) ∧ w.mut = true ∧ σ[i]? = some (some (.ref a))
open Classical in
/-- the heap without what this frame may write -/
noncomputable def hide (ρ : Env) (σ : L2.St) (H : Hp) : Hp := fun a => if OwnRoot ρ σ a then none else H a
section
variable {K : PySem.W.Frag} {α α' : List Addr} {Z Z' : Addr → Prop} {H H' : Hp} {S S' : Store} {ρ : Env} {σ : L2.St} {B : Bs}
theorem hide_some {a : Addr} {o : HO} (h : H a = some o) (n : ¬ OwnRoot ρ σ a) : hide ρ σ H a = some o := by unfold hide; rw [if_neg n]; exact h
theorem of_hide {a : Addr} {o : HO} (h : hide ρ σ H a = some o) : H a = some o ∧ ¬ OwnRoot ρ σ a := by
  unfold hide at h
  split at h
  · cases h
  · rename_i n; exact ⟨h, n⟩
theorem hide_none {a : Addr} (h : hide ρ σ H a = none) : H a = none ∨ OwnRoot ρ σ a := by
  unfold hide at h
  split at h
  · rename_i n; exact .inr n
  · exact .inl h
theorem hide_none' {a : Addr} (h : H a = none) : hide ρ σ H a = none := by
  unfold hide; split <;> first | rfl | exact h
theorem EnvOk.root (e : EnvOk K α Z H ρ σ) {a : Addr} (r : OwnRoot ρ σ a) : ∃ o w xs ws, H a = some o ∧ Shape o w xs ws ∧ a ∉ α ∧ ¬ Z a := by
  obtain ⟨i, w, h1, h2, h3⟩ := r
  obtain ⟨v, e1, r1⟩ := e.slot i w _ h1
  obtain ⟨p, o, xs, ws, rfl, h0, s, rl, hn, c1, c2⟩ := r1.muE h2
  rw [h3] at e1
  cases e1
  exact ⟨o, w, xs, ws, h0, s, hn, c1 rfl⟩
mutual
theorem Rep.there (ht : ∀ a xs, H a = some (.tup xs) → H' a = some (.tup xs)) (hz : ∀ a o, Z a → H a = some o → H' a = some o) (hf : ∀ a o u, H a = some (.frz o u) → H' a = some (.frz o u)) : ∀ {v : V} {w : W}, Rep K α Z H v w → Rep K α Z H' v w
  | _, _, .non => .non
  | _, _, .bl b => .bl b
  | _, _, .int i => .int i
  | _, _, .str x => .str x
  | _, _, .ty n => .ty n
  | _, _, .tup h r => .tup (ht _ _ h) (RepL.there ht hz hf r)
  | _, _, .mu h z s r => .mu (hz _ _ z h) z s (RepL.there ht hz hf r)
  | _, _, .scr h => .scr (by
      rcases h with ⟨o, h⟩ | h
      · exact .inl ⟨o, hf _ _ _ h⟩
      · exact .inr h)
  | _, _, .cel h => .cel h
theorem RepL.there (ht : ∀ a xs, H a = some (.tup xs) → H' a = some (.tup xs)) (hz : ∀ a o, Z a → H a = some o → H' a = some o) (hf : ∀ a o u, H a = some (.frz o u) → H' a = some (.frz o u)) : ∀ {vs : List V} {ws : List W}, RepL K α Z H vs ws → RepL K α Z H' vs ws
  | _, _, .nil => .nil
  | _, _, .cons r t => .cons (Rep.there ht hz hf r) (RepL.there ht hz hf t)
end
theorem EnvOk.hideL (e : EnvOk K α Z H ρ σ) {vs : List V} {ws : List W} (r : RepL K α Z H vs ws) : RepL K α Z (hide ρ σ H) vs ws :=
  r.there (fun a xs h => hide_some h fun q => by
    obtain ⟨o, w, xs', ws', h0, s, _⟩ := e.root q
    rw [h] at h0; cases h0; exact s.ntup _ rfl) (fun a o z h => hide_some h fun q => by
    obtain ⟨o, w, xs', ws', h0, s, _, n⟩ := e.root q
    exact n z) (fun a o u h => hide_some h fun q => by
    obtain ⟨o, w, xs', ws', h0, s, _⟩ := e.root q
    rw [h] at h0; cases h0; cases s)
theorem EnvOk.hideW (e : EnvOk K α Z H ρ σ) (w : WOk K H S α Z) : WOk K (hide ρ σ H) S α Z :=
  ⟨w.nd, Paired.impM w.cells fun a ws ha ⟨xs, h, r⟩ => ⟨xs, hide_some h fun q => by
    obtain ⟨o, w, xs', ws', h0, s, n, _⟩ := e.root q
    exact n ha, e.hideL r⟩, w.zα, fun a z h => by
    rcases hide_none h with h | q
    · exact w.zH a z h
    · obtain ⟨o, w, xs', ws', h0, s, _, n⟩ := e.root q
      exact n z⟩
theorem Keep.unhide : Keep (hide ρ σ H) α Z H α Z := ⟨⟨[], by simp, by simp⟩, fun a o h _ => (of_hide h).1, fun a h => hide_none' h, fun _ h => h, fun _ h => .inl h⟩
theorem At.keepHide (a : At K B ρ S σ H α Z) : Keep B.H B.α B.Z (hide ρ σ H) α Z := by
  have nr : ∀ b, B.H b ≠ none → ¬ OwnRoot ρ σ b := fun b hb q => by
    obtain ⟨i, w, h1, h2, h3⟩ := q
    exact hb (a.o i w h1 h2 b h3)
  refine ⟨a.k.al, fun b o h hn => hide_some (a.k.h b o h hn) (nr b (by rw [h]; simp)), fun b h => ?_, a.k.z, a.k.z'⟩
  rcases hide_none h with h | ⟨i, w, h1, h2, h3⟩
  · exact a.k.d b h
  · exact a.o i w h1 h2 b h3
theorem At.rebase (a : At K B ρ S σ H α Z) : At K ⟨hide ρ σ H, α, Z⟩ ρ S σ H α Z :=
  ⟨a.w, Keep.unhide, a.e, fun i w h1 h2 b h3 => by
    show hide ρ σ H b = none
    unfold hide
    exact if_pos ⟨i, w, h1, h2, h3⟩⟩
/-- what stands over the narrower base stands over the wider -/
theorem SOk.wide {ρ' : Env} {S1 : Store} {σ' : L2.St} (a : At K B ρ S σ H α Z) (s : SOk K ⟨hide ρ σ H, α, Z⟩ ρ' S1 σ' H') : SOk K B ρ' S1 σ' H' := by
  obtain ⟨α1, Z1, b⟩ := s
  exact ⟨α1, Z1, b.w, a.keepHide.trans b.k, b.e, fun i w h1 h2 c h3 => a.keepHide.d c (b.o i w h1 h2 c h3)⟩
end
def Walks (K : PySem.W.Frag) (J : It) (ws : List W) (H1 : Hp) (α1 : List Addr) (Z1 : Addr → Prop) : Prop := ∀ H α Z S, Keep H1 α1 Z1 H α Z → WOk K H S α Z → ∀ i,
  (∀ w, ws[i]? = some w → J.go i H ∧ ∀ x H', J.yld i H x H' → (H' = H ∨ ∃ p u, H p = none ∧ H' = upd H p u) ∧ Rep K α Z H' x w) ∧ (i = ws.length → J.stop i H)
abbrev CI := Env → Store → Option (List W × Store)
def semI (K : PySem.W.Frag) (f : CI) : TI := fun σ H R => ∃ ρ S α Z ws S', WOk K H S α Z ∧ EnvOk K α Z H ρ σ ∧ f ρ S = some (ws, S') ∧
  ∀ J H1 α1 Z1, Keep H α Z H1 α1 Z1 → WOk K H1 S' α1 Z1 → Walks K J ws (hide ρ σ H1) α1 Z1 → R J H1
abbrev EI (X : Cx) (tg it : Expr) (f : CI) : Prop := PI X tg it (semI X.K f)
theorem PI.cons {X : Cx} {tg it : Expr} {t t' : TI} (h : PI X tg it t) (i : ∀ σ H Q, t' σ H Q → t σ H Q) : PI X tg it t' := ⟨fun pins s σ H R I q => h.run pins s σ H R I (i σ H R q)⟩
section
variable {X : Cx} {K : PySem.W.Frag} {α : List Addr} {Z : Addr → Prop} {H : Hp} {S : Store} {ρ : Env} {σ : L2.St} {a : Addr} {xs : List V} {ws : List W} {tg it : Expr}
theorem walks_list (w : WOk K H S α Z) (e : EnvOk K α Z H ρ σ) (h : H a = some (.lst xs)) (hn : a ∉ α) (no : ¬ OwnRoot ρ σ a) (r : RepL K α Z H xs ws) : Walks K (Itl K a) ws (hide ρ σ H) α Z := by
  intro H2 α2 Z2 S2 k w2 i
  have h2 : H2 a = some (.lst xs) := k.h _ _ (hide_some h no) hn
  have r2 : RepL K α2 Z2 H2 xs ws := (e.hideL r).keep (e.hideW w) k
  refine ⟨fun u hu => ?_, fun hu => ⟨xs, .of h2, by rw [r2.length, hu]; exact Nat.le_refl _⟩⟩
  obtain ⟨v, hv, rv⟩ := r2.get hu
  refine ⟨⟨xs, v, .of h2, hv⟩, fun x H' y => ?_⟩
  obtain ⟨rfl, y⟩ := y
  have := y xs (.of h2)
  rw [hv] at this
  cases this
  exact ⟨.inl rfl, rv⟩
theorem walks_tup (w : WOk K H S α Z) (e : EnvOk K α Z H ρ σ) (h : H a = some (.tup xs)) (r : RepL K α Z H xs ws) : Walks K (Itt K a) ws (hide ρ σ H) α Z := by
  intro H2 α2 Z2 S2 k w2 i
  have hh : hide ρ σ H a = some (.tup xs) := hide_some h fun q => by
    obtain ⟨o, w, xs', ws', h0, s, _⟩ := e.root q
    rw [h] at h0; cases h0; exact s.ntup _ rfl
  have h2 : H2 a = some (.tup xs) := k.tup (fun _ h => (e.hideW w).cell h) hh
  have r2 : RepL K α2 Z2 H2 xs ws := (e.hideL r).keep (e.hideW w) k
  refine ⟨fun u hu => ?_, fun hu => ⟨xs, .of h2, by rw [r2.length, hu]; exact Nat.le_refl _⟩⟩
  obtain ⟨v, hv, rv⟩ := r2.get hu
  refine ⟨⟨xs, v, .of h2, hv⟩, fun x H' y => ?_⟩
  obtain ⟨rfl, y⟩ := y
  have := y xs (.of h2)
  rw [hv] at this
  cases this
  exact ⟨.inl rfl, rv⟩
def rangeW (lo : Int) (n : Nat) : List W := (List.range n).map fun i => .int (lo + (i : Nat))
theorem rangeW_get (lo : Int) (n i : Nat) : (rangeW lo n)[i]? = if i < n then some (.int (lo + (i : Nat))) else none := by
  unfold rangeW
  rw [List.getElem?_map]
  split
  · rename_i h; rw [List.getElem?_range h]; rfl
  · rename_i h; rw [List.getElem?_eq_none (by simpa using h)]; rfl
theorem walks_range (lo : Int) (n : Nat) : Walks K (Itr lo n) (rangeW lo n) H α Z := by
  intro H2 α2 Z2 S2 k w2 i
  rw [rangeW_get]
  refine ⟨fun u hu => ?_, fun hu => ?_⟩
  · split at hu
    · rename_i hi
      cases hu
      refine ⟨hi, fun x H' y => ?_⟩
      obtain ⟨rfl, rfl⟩ := y
      exact ⟨.inl rfl, .int _⟩
    · cases hu
  · unfold rangeW at hu
    rw [List.length_map, List.length_range] at hu
    exact Nat.le_of_eq hu.symm
/-- an item's source: which of the two -/
theorem PI.or {t u : TI} (h1 : PI X tg it t) (h2 : PI X tg it u) : PI X tg it (fun σ H R => t σ H R ∨ u σ H R) := ⟨fun pins s σ H R I q => by
  rcases q with q | q
  · exact h1.run pins s σ H R I q
  · exact h2.run pins s σ H R I q⟩
def itemsOf : W → Option (List W)
  | .tup ws => some ws
  | .lst ws => some ws
  | _ => none
/-- for x in e, e no bare name: what came is nobody's -/
def iExp (f : CE) : CI := fun ρ S => bnd (f ρ S) fun r S => if sto r = true then (itemsOf r.1).map fun ws => (ws, S) else none
/-- for x in a name's list (which the loop does not write) -/
def iVar (i : Nat) : CI := fun ρ S => match ρ[i]? with
  | some (some (w, m)) => if w.mut = true ∧ m = .own then none else (itemsOf w).map fun ws => (ws, S)
  | _ => none
theorem i_exp {e : Expr} {f : CE} (h : EE X e f) : EI X tg e (iExp f) := PI.cons (PI.or (pi_list (tg := tg) h) (pi_tup (tg := tg) h)) fun σ H R ⟨ρ, S, α, Z, ws, S', wo, en, h, q⟩ => by
  obtain ⟨r, S1, h1, h⟩ := of_bnd h
  split at h
  · rename_i hs
    obtain ⟨ws', hw, e⟩ := Option.map_eq_some_iff.mp h
    cases e
    obtain ⟨w, m⟩ := r
    cases w with
    | tup us =>
      cases hw
      refine .inr ⟨ρ, S, α, Z, _, _, wo, en, h1, fun v H1 α1 Z1 k w g => ?_⟩
      obtain ⟨a, xs, rfl, h0, rl⟩ := g.rep.ofTup
      exact ⟨a, rfl, ⟨xs, .of h0⟩, q _ _ _ _ k w (walks_tup w (en.keep wo k) h0 rl)⟩
    | lst us =>
      cases hw
      refine .inl ⟨ρ, S, α, Z, _, _, wo, en, h1, fun v H1 α1 Z1 k w g => ?_⟩
      obtain ⟨a, xs, rfl, h0, rl, hn, c1, c2⟩ := g.rep.ofLst
      refine ⟨a, rfl, ⟨xs, .of h0⟩, q _ _ _ _ k w (walks_list w (en.keep wo k) h0 hn (fun ro => ?_) rl)⟩
      cases m with
      | own =>
        have := g.fr rfl rfl a rfl
        obtain ⟨o, _, _, _, h0', _⟩ := en.root ro
        rw [this] at h0'; cases h0'
      | frz =>
        obtain ⟨o, _, _, _, _, _, _, nz⟩ := (en.keep wo k).root ro
        exact nz (c2 rfl)
      | brw => cases hs
    | _ => cases hw
  · cases h
theorem i_var (i : Nat) {x : Str} {pos : Pos} (hN : X.N[i]? = some x := by rfl) (hv : Vis X.env.scope x := by first | exact Or.inl rfl | exact Or.inr (Or.inl rfl) | exact Or.inr (Or.inr rfl)) (hd : (x == ("__debug__" : Str)) = false := by decide)
    (hcd : (x == ("__classdict__" : Str)) = false := by decide) : EI X tg (.Name x pos) (iVar i) := PI.cons (PI.or (pi_list (tg := tg) (pe_var hN hv hd hcd)) (pi_tup (tg := tg) (pe_var hN hv hd hcd))) fun σ H R ⟨ρ, S, α, Z, ws, S', wo, en, h, q⟩ => by
  unfold iVar at h
  split at h
  · rename_i w m hr
    split at h
    · cases h
    · rename_i hno
      obtain ⟨ws', hw, e⟩ := Option.map_eq_some_iff.mp h
      cases e
      obtain ⟨v, e1, r1⟩ := en.slot i w m hr
      cases w with
      | tup us =>
        cases hw
        obtain ⟨a, xs, rfl, h0, rl⟩ := r1.ofTup
        exact .inr ⟨_, e1, a, rfl, ⟨xs, .of h0⟩, q _ _ _ _ Keep.refl wo (walks_tup wo en h0 rl)⟩
      | lst us =>
        cases hw
        obtain ⟨a, xs, rfl, h0, rl, hn, c1, c2⟩ := r1.ofLst
        refine .inl ⟨_, e1, a, rfl, ⟨xs, .of h0⟩, q _ _ _ _ Keep.refl wo (walks_list wo en h0 hn (fun ro => ?_) rl)⟩
        obtain ⟨j, w', g1, g2, g3⟩ := ro
        by_cases hij : j = i
        · subst hij
          rw [hr] at g1
          cases g1
          exact hno ⟨rfl, rfl⟩
        · exact en.sep j i w' _ m hij g1 g2 hr rfl (g3.trans e1.symm)
      | _ => cases hw
  · cases h
def iRange1 (f : CE) : CI := fun ρ S => bnd (f ρ S) fun r S => match r.1 with
  | .int j => if j.natAbs < 1073741824 then some (rangeW 0 j.toNat, S) else none
  | _ => none
def iRange2 (f g : CE) : CI := fun ρ S => bnd (f ρ S) fun a S => bnd (g ρ S) fun b S => match a.1, b.1 with
  | .int i, .int j => if i.natAbs < 1073741824 ∧ j.natAbs < 1073741824 then some (rangeW i (j - i).toNat, S) else none
  | _, _ => none
theorem i_range1 {e : Expr} {f : CE} {p pos : Pos} (hm : X.mg "range" = none) (h : EE X e f) (hg : Gl X "range" := by rfl) (hs : starEach [e] X.env = [(false, eval e X.env)] := by rfl) (hs2 : starEach (e :: []) X.env = (false, eval e X.env) :: starEach [] X.env := by rfl) : EI X tg (.Call (.Name "range" p) [e] [] pos) (iRange1 f) :=
  PI.cons (pi_range1 hg hm (a_cons h a_nil hs2) hs) fun σ H R ⟨ρ, S, α, Z, ws, S', wo, en, h, q⟩ => by
    obtain ⟨r, S1, h1, h⟩ := of_bnd h
    obtain ⟨w, m⟩ := r
    cases w with
    | int j =>
      have h : (if j.natAbs < 1073741824 then some (rangeW 0 j.toNat, S1) else none) = some (ws, S') := h
      split at h
      · rename_i hb
        cases h
        refine ⟨ρ, S, α, Z, _, _, wo, en, (by unfold cCons; rw [h1]; rfl), fun vs H1 α1 Z1 k w g => ?_⟩
        cases g with
        | cons g gt =>
          cases gt
          exact ⟨j, by rw [g.rep.ofInt], by omega, by omega, q _ _ _ _ k w (walks_range 0 _)⟩
      · cases h
    | _ => cases h
theorem i_range2 {e e2 : Expr} {f g : CE} {p pos : Pos} (hm : X.mg "range" = none) (h : EE X e f) (h2 : EE X e2 g) (hg : Gl X "range" := by rfl) (hs : starEach [e, e2] X.env = [(false, eval e X.env), (false, eval e2 X.env)] := by rfl) (hs2 : starEach [e2] X.env = [(false, eval e2 X.env)] := by rfl)
    (hs3 : starEach (e :: [e2]) X.env = (false, eval e X.env) :: starEach [e2] X.env := by rfl) (hs4 : starEach (e2 :: []) X.env = (false, eval e2 X.env) :: starEach [] X.env := by rfl) : EI X tg (.Call (.Name "range" p) [e, e2] [] pos) (iRange2 f g) :=
  PI.cons (pi_range2 hg hm (a_cons h (a_cons h2 a_nil hs4) hs3) hs hs2) fun σ H R ⟨ρ, S, α, Z, ws, S', wo, en, h, q⟩ => by
    obtain ⟨r, S1, h1, h⟩ := of_bnd h
    obtain ⟨r2, S2, h2, h⟩ := of_bnd h
    obtain ⟨w, m⟩ := r
    obtain ⟨w2, m2⟩ := r2
    cases w with
    | int i =>
      cases w2 with
      | int j =>
        have h : (if i.natAbs < 1073741824 ∧ j.natAbs < 1073741824 then some (rangeW i (j - i).toNat, S2) else none) = some (ws, S') := h
        split at h
        · rename_i hb
          cases h
          refine ⟨ρ, S, α, Z, _, _, wo, en, (by unfold cCons; rw [h1]; simp only [bnd_some]; rw [h2]; rfl), fun vs H1 α1 Z1 k w g => ?_⟩
          cases g with
          | cons g gt =>
            cases gt with
            | cons g2 gt =>
              cases gt
              exact ⟨i, j, by rw [g.rep.ofInt, g2.rep.ofInt], ⟨by omega, by omega, by omega, by omega⟩, q _ _ _ _ k w (walks_range i _)⟩
        · cases h
      | _ => cases h
    | _ => cases h
end

/-! ### for -/
def cForL (t : CG) (body : CS) : List W → Env → Store → Option SOut
  | [], ρ, S => some (.nx ρ S)
  | w :: ws, ρ, S => match t (w, .frz) ρ with
    | none => none
    | some ρ1 => match body ρ1 S with
      | some (.nx ρ2 S2) => cForL t body ws ρ2 S2
      | some (.ct ρ2 S2) => cForL t body ws ρ2 S2
      | some (.bk ρ2 S2) => some (.nx ρ2 S2)
      | some (.rt r S2) => some (.rt r S2)
      | none => none
def cFor (t : CG) (it : CI) (body : CS) : CS := fun ρ S => bnd (it ρ S) fun ws S => cForL t body ws ρ S
section
variable {X : Cx} {tg iter : Expr} {body : List Stmt} {is : List Nat} {t : CG} {it : CI} {f : CS} {pos : Pos}
/-- a turn's item, come -/
theorem At.item {K : PySem.W.Frag} {B : Bs} {ρ : Env} {S : Store} {σ : L2.St} {H H' : Hp} {α : List Addr} {Z : Addr → Prop} (a : At K B ρ S σ H α Z) (h : H' = H ∨ ∃ p u, H p = none ∧ H' = upd H p u) : At K B ρ S σ H' α Z := by
  rcases h with rfl | ⟨p, u, hp, rfl⟩
  · exact a
  · exact a.go (Keep.new hp) (a.w.new hp)
theorem s_for (hc : X.calm = true) (hg : EG X tg is t) (hi : EI X tg iter it) (hb : ESs X body f) (hp : PassesOwn (model X.prog X.w) X.A X.env X.xe := by exact PassesOwn.never) (hs : ∀ x, foldedSetIterable iter X.env x = pure x := by intro _; rfl) : ES X (.For tg iter body [] pos) (cFor t it f) :=
  PS.cons (ps_for hp hc hi hg hb hs) fun D σ H ⟨B, ρ, S, o, ⟨α, Z, at_⟩, h, q⟩ => by
    obtain ⟨ws, S1, h1, h⟩ := of_bnd h
    refine ⟨ρ, S, α, Z, ws, S1, at_.w, at_.e, h1, fun J H1 α1 Z1 k w wk => ?_⟩
    have a1 := at_.go k w
    have rb := a1.rebase
    refine ⟨fun i m σ' H' => m = ws.length - i ∧ i ≤ ws.length ∧ ∃ ρ' S', SOk X.K ⟨hide ρ σ H1, α1, Z1⟩ ρ' S' σ' H' ∧ cForL t f (ws.drop i) ρ' S' = some o, ⟨ws.length, by simp, Nat.zero_le _, ρ, S1, ⟨α1, Z1, rb⟩, h⟩, ?_⟩
    rintro i m σ' H' ⟨rfl, hi, ρ', S', ⟨α', Z', a'⟩, h'⟩
    obtain ⟨w1, w2⟩ := wk H' α' Z' S' a'.k a'.w i
    by_cases hlt : i < ws.length
    · have hw : ws[i]? = some ws[i] := List.getElem?_eq_getElem hlt
      obtain ⟨go, yl⟩ := w1 _ hw
      rw [List.drop_eq_getElem_cons hlt] at h'
      refine .inr ⟨go, fun σ2 H2 => ∃ ρ2 S2, SOk X.K ⟨hide ρ σ H1, α1, Z1⟩ ρ2 S2 σ2 H2 ∧ cForL t f (ws.drop (i + 1)) ρ2 S2 = some o, fun σ2 H2 ⟨ρ2, S2, s2, e2⟩ => ⟨ws.length - (i + 1), by omega, rfl, hlt, ρ2, S2, s2, e2⟩, fun x H2 y => ?_⟩
      obtain ⟨ext, rx⟩ := yl x H2 y
      have a2 := a'.item ext
      unfold cForL at h'
      cases ht : t (ws[i], .frz) ρ' with
      | none => rw [ht] at h'; cases h'
      | some ρ3 =>
        rw [ht] at h'
        refine ⟨_, ρ', S', α', Z', _, ρ3, a2, Fits.frz a2.w rx, ht, fun σ3 a3 _ => ?_⟩
        dsimp only at h'
        cases hf : f ρ3 S' with
        | none => rw [hf] at h'; cases h'
        | some o1 =>
          rw [hf] at h'
          refine ⟨_, ρ3, S', o1, ⟨α', Z', a3⟩, hf, ?_⟩
          cases o1 with
          | nx ρ4 S4 => exact fun σ4 H4 s4 => ⟨ρ4, S4, s4, h'⟩
          | ct ρ4 S4 => exact fun σ4 H4 s4 => ⟨ρ4, S4, s4, h'⟩
          | bk ρ4 S4 =>
            cases h'
            exact fun σ4 H4 s4 => q σ4 H4 (s4.wide a1)
          | rt r S4 =>
            cases h'
            exact ⟨q.1, fun v H4 α4 Z4 k4 w4 g4 => q.2 v H4 α4 Z4 (a1.keepHide.trans k4) w4 (g4.back a1.keepHide.d)⟩
    · have e : ws.drop i = [] := List.drop_eq_nil_of_le (by omega)
      rw [e] at h'
      cases h'
      exact .inl ⟨w2 (by omega), q σ' H' (SOk.wide a1 ⟨α', Z', a'⟩)⟩
end

/-! ### list comprehensions -/
def wipeE (ρ : Env) : List Nat → Env
  | [] => ρ
  | v :: vs => (wipeE ρ vs).set v none
abbrev CC := Env → Store → Option (Bool × Store)
def lcL (t : CG) (c : CT) (f : CE) (ρ : Env) : List W → Store → Option (List W × Store)
  | [], S => some ([], S)
  | w :: ws, S => match t (w, .frz) ρ with
    | none => none
    | some ρ1 => bnd (c ρ1 S) fun b S1 => if b = true then bnd (f ρ1 S1) fun r S2 => if sto r = true then bnd (lcL t c f ρ ws S2) fun rs S3 => some (r.1 :: rs, S3) else none
        else lcL t c f ρ ws S1
def cLc (t : CG) (it : CI) (c : CT) (f : CE) (vs : List Nat) : CE := fun ρ S => bnd (it ρ S) fun ws S => if ws.length ≤ sizeLine then bnd (lcL t c f (wipeE ρ vs) ws S) fun rs S => some ((.lst rs, .own), S) else none
def tYesT : CT := fun _ S => some (true, S)
theorem wipeE_get {ρ : Env} {i : Nat} {x : Wm} : ∀ {vs : List Nat}, (wipeE ρ vs)[i]? = some (some x) → ρ[i]? = some (some x) ∧ i ∉ vs
  | [], h => ⟨h, by simp⟩
  | v :: vs, h => by
    unfold wipeE at h
    by_cases hi : v = i
    · subst hi
      by_cases hv : v < (wipeE ρ vs).length
      · rw [List.getElem?_set_self hv] at h; cases h
      · rw [List.getElem?_eq_none (by simpa using hv)] at h; cases h
    · rw [List.getElem?_set_ne hi] at h
      obtain ⟨h1, h2⟩ := wipeE_get h
      exact ⟨h1, by simp only [List.mem_cons, not_or]; exact ⟨fun e => hi e.symm, h2⟩⟩
theorem wipeE_len (ρ : Env) : ∀ vs : List Nat, (wipeE ρ vs).length = ρ.length
  | [] => rfl
  | v :: vs => by unfold wipeE; rw [List.length_set, wipeE_len ρ vs]
theorem wipe_out {σ : L2.St} {i : Nat} : ∀ {vs : List Nat}, i ∉ vs → (wipe σ vs)[i]? = σ[i]?
  | [], _ => rfl
  | v :: vs, h => by
    unfold wipe
    rw [List.getElem?_set_ne (fun e => h (by simp [e]))]
    exact wipe_out fun q => h (List.mem_cons_of_mem _ q)
theorem wipe_in {σ : L2.St} {i : Nat} (hl : i < σ.length) : ∀ {vs : List Nat}, i ∈ vs → (wipe σ vs)[i]? = some none
  | v :: vs, h => by
    unfold wipe
    by_cases e : v = i
    · subst e
      rw [List.getElem?_set_self (by rw [wipe_length]; exact hl)]
    · rw [List.getElem?_set_ne e]
      rcases List.mem_cons.mp h with q | q
      · exact absurd q.symm e
      · exact wipe_in hl q
theorem wipe_eq {σ σ2 : L2.St} {is vs : List Nat} (s : Slots is (wipe σ vs) σ2) (hs : ∀ j ∈ is, j ∈ vs) : wipe σ2 vs = wipe σ vs := by
  have hl : σ2.length = σ.length := s.1.trans (wipe_length σ vs)
  refine List.ext_getElem? fun i => ?_
  by_cases hi : i < σ.length
  · by_cases hv : i ∈ vs
    · rw [wipe_in (by rw [hl]; exact hi) hv, wipe_in hi hv]
    · rw [wipe_out hv, s.2 i fun q => hv (hs i q)]
  · rw [List.getElem?_eq_none (by rw [wipe_length, hl]; omega), List.getElem?_eq_none (by rw [wipe_length]; omega)]
theorem EnvOk.wipe {K : PySem.W.Frag} {α : List Addr} {Z : Addr → Prop} {H : Hp} {ρ : Env} {σ : L2.St} (e : EnvOk K α Z H ρ σ) (vs : List Nat) : EnvOk K α Z H (wipeE ρ vs) (wipe σ vs) := by
  refine ⟨by rw [wipeE_len, wipe_length]; exact e.len, fun i w m h => ?_, fun i j w w' m' hne h1 h2 h3 h4 => ?_⟩
  · obtain ⟨q1, q2⟩ := wipeE_get h
    rw [wipe_out q2]; exact e.slot i w m q1
  · obtain ⟨q1, q2⟩ := wipeE_get h1
    obtain ⟨q3, q4⟩ := wipeE_get h3
    rw [wipe_out q2, wipe_out q4]; exact e.sep i j w w' m' hne q1 h2 q3 h4
abbrev ETs (X : Cx) (cs : List Expr) (f : CT) : Prop := PTs X cs (semT X.K f)
theorem ts_nil {X : Cx} : ETs X [] tYesT := ⟨fun pins s σ H Q I h => pts_nil.run pins s σ H Q I (by
  obtain ⟨ρ, S, α, Z, b, S', wo, en, h, q⟩ := h
  cases h
  exact q H α Z Keep.refl wo)⟩
theorem ts_one {X : Cx} {c : Expr} {f : CT} (h : ET X c f) : ETs X [c] f := pts_one h
section
variable {X : Cx} {tg iter elt : Expr} {ifs : List Expr} {scope : Scope} {own : List (Str × Nat)} {is : List Nat} {t : CG} {it : CI} {c : CT} {f : CE} {pos : Pos}
theorem lc_ok {σ : L2.St} {H : Hp} {Q : VK} {vs : List Nat} (hs : ∀ j ∈ is, j ∈ vs) (h : semE X.K (cLc t it c f vs) σ H Q) : tLc (semI X.K it) (semG X.K is t) (semT X.K c) (semE X.K f) vs σ H Q := by
  obtain ⟨ρ, S, α, Z, r', S', wo, en, h, q⟩ := h
  obtain ⟨ws, S1, h1, h⟩ := of_bnd h
  split at h
  · rename_i hsz
    obtain ⟨rs, S2, h2, h⟩ := of_bnd h
    cases h
    refine ⟨ρ, S, α, Z, ws, S1, wo, en, h1, fun J H1 α1 Z1 k w wk D hD => ?_⟩
    have en1 := en.keep wo k
    have k0 : Keep H1 α1 Z1 (upd H1 D (.lst [])) α1 Z1 := Keep.new hD
    have e2 : EnvOk X.K α1 Z1 (upd H1 D (.lst [])) (wipeE ρ vs) (wipe σ vs) := (en1.keep w k0).wipe vs
    refine ⟨fun i m H' => m = ws.length - i ∧ i ≤ ws.length ∧ ∃ S3 α3 Z3 acc accW tl, H' D = some (.lst acc) ∧ acc.length ≤ i ∧ Keep H1 α1 Z1 (fun a => if a = D then none else H' a) α3 Z3 ∧ WOk X.K H' S3 α3 Z3 ∧ ¬ Z3 D ∧ D ∉ α3 ∧ RepL X.K α3 Z3 H' acc accW ∧
        lcL t c f (wipeE ρ vs) (ws.drop i) S3 = some (tl, S') ∧ rs = accW ++ tl, ⟨ws.length, by simp, Nat.zero_le _, S1, α1, Z1, [], [], rs, upd_same, Nat.le_refl _, ?_, w.new hD, w.nZ hD, w.nα hD, .nil, h2, rfl⟩, ?_⟩
    · have : (fun a => if a = D then none else upd H1 D (.lst []) a) = H1 := by
        funext a
        by_cases e : a = D
        · rw [if_pos e, e, hD]
        · rw [if_neg e, upd_ne e]
      rw [this]; exact Keep.refl
    rintro i m H' ⟨rfl, hi, S3, α3, Z3, acc, accW, tl, hacc, hal, kk, wo3, nz, nα, rl, hl, hrs⟩
    -- the world behind the start of the walk
    have kk' : Keep H1 α1 Z1 H' α3 Z3 := ⟨kk.al, fun a o h hn => by
      have := kk.h a o h hn
      split at this
      · cases this
      · exact this, fun a h => by
      refine kk.d a ?_
      show (if a = D then none else H' a) = none
      rw [h]; simp, kk.z, kk.z'⟩
    have wk' := wk H' α3 Z3 S3 ((Keep.unhide (ρ := ρ) (σ := σ)).trans kk') wo3 i
    have en3 : EnvOk X.K α3 Z3 H' (wipeE ρ vs) (wipe σ vs) := (en1.keep w kk').wipe vs
    by_cases hlt : i < ws.length
    · have hw : ws[i]? = some ws[i] := List.getElem?_eq_getElem hlt
      obtain ⟨go, yl⟩ := wk'.1 _ hw
      rw [List.drop_eq_getElem_cons hlt] at hl
      refine .inr ⟨go, fun H2 => i + 1 ≤ ws.length ∧ ∃ S3 α3 Z3 acc accW tl, H2 D = some (.lst acc) ∧ acc.length ≤ i + 1 ∧ Keep H1 α1 Z1 (fun a => if a = D then none else H2 a) α3 Z3 ∧ WOk X.K H2 S3 α3 Z3 ∧ ¬ Z3 D ∧ D ∉ α3 ∧ RepL X.K α3 Z3 H2 acc accW ∧
        lcL t c f (wipeE ρ vs) (ws.drop (i + 1)) S3 = some (tl, S') ∧ rs = accW ++ tl, fun H2 h2 => ⟨ws.length - (i + 1), by omega, rfl, h2⟩, fun x H2 y => ?_⟩
      obtain ⟨ext, rx⟩ := yl x H2 y
      have k4 : Keep H' α3 Z3 H2 α3 Z3 := by
        rcases ext with rfl | ⟨p, u, hp, rfl⟩
        · exact Keep.refl
        · exact Keep.new hp
      have w4 : WOk X.K H2 S3 α3 Z3 := by
        rcases ext with rfl | ⟨p, u, hp, rfl⟩
        · exact wo3
        · exact wo3.new hp
      have en4 := en3.keep wo3 k4
      unfold lcL at hl
      cases ht : t (ws[i], .frz) (wipeE ρ vs) with
      | none => rw [ht] at hl; cases hl
      | some ρ1 =>
        rw [ht] at hl
        dsimp only at hl
        obtain ⟨b, S5, hb, hl⟩ := of_bnd hl
        -- the block's frame over what stands now
        have a4 : At X.K ⟨hide (wipeE ρ vs) (wipe σ vs) H2, α3, Z3⟩ (wipeE ρ vs) S3 (wipe σ vs) H2 α3 Z3 := ⟨w4, Keep.unhide, en4, fun i w h1 h2 b h3 => by
          show hide _ _ H2 b = none
          unfold hide
          exact if_pos ⟨i, w, h1, h2, h3⟩⟩
        refine ⟨_, _, S3, α3, Z3, _, ρ1, a4, Fits.frz w4 rx, ht, fun σ2 a5 sl => ⟨wipe_eq sl hs, ρ1, S3, α3, Z3, b, S5, w4, a5.e, hb, fun H3 α5 Z5 k5 w5 => ?_⟩⟩
        -- D through a step
        have stay : ∀ {Ha Hb : Hp} {αa αb : List Addr} {Za Zb : Addr → Prop} {acc : List V}, Keep Ha αa Za Hb αb Zb → Ha D = some (.lst acc) → ¬ Za D → D ∉ αa → Hb D = some (.lst acc) ∧ ¬ Zb D ∧ D ∉ αb := fun {Ha Hb αa αb Za Zb acc} k h n1 n2 =>
          ⟨k.h _ _ h n2, (fun z => by
            rcases k.z' _ z with z | z
            · exact n1 z
            · rw [h] at z; cases z), k.notin h n2⟩
        obtain ⟨d4, nz4, nα4⟩ := stay k4 hacc nz nα
        obtain ⟨d5, nz5, nα5⟩ := stay k5 d4 nz4 nα4
        have keepD : ∀ {Hb : Hp} {αb : List Addr} {Zb : Addr → Prop}, Keep H' α3 Z3 Hb αb Zb → ¬ Zb D → D ∉ αb → Keep H1 α1 Z1 (fun a => if a = D then none else Hb a) αb Zb := fun {Hb αb Zb} k n1 n2 => by
          have kt := kk'.trans k
          refine ⟨kt.al, fun a o h hn => ?_, fun a h => ?_, kt.z, kt.z'⟩
          · show (if a = D then none else Hb a) = some o
            by_cases e : a = D
            · rw [e] at h; rw [hD] at h; cases h
            · rw [if_neg e]; exact kt.h a o h hn
          · have h : (if a = D then none else Hb a) = none := h
            by_cases e : a = D
            · rw [e]; exact hD
            · rw [if_neg e] at h; exact kt.d a h
        cases b with
        | false =>
          rw [if_neg Bool.false_ne_true] at hl
          refine iteF ⟨hlt, S5, α5, Z5, acc, accW, tl, d5, Nat.le_succ_of_le hal, keepD (k4.trans k5) nz5 nα5, w5, nz5, nα5, (rl.keep wo3 k4).keep w4 k5, hl, hrs⟩
        | true =>
          rw [if_pos rfl] at hl
          obtain ⟨r, S6, hf, hl⟩ := of_bnd hl
          split at hl
          · rename_i hst
            obtain ⟨rs', S7, hl, he⟩ := of_bnd hl
            cases he
            refine iteT ⟨ρ1, S5, α5, Z5, r, S6, w5, a5.e.keep w4 k5, hf, fun v H6 α6 Z6 k6 w6 g6 => ?_⟩
            obtain ⟨d6, nz6, nα6⟩ := stay k6 d5 nz5 nα5
            obtain ⟨Z7, zz, k7, w7, r7⟩ := freeze_all (rs := [r]) (vs := [v]) w6 k6 (.cons g6 .nil) (by simp [hst])
            have nz7 : ¬ Z7 D := fun z => by
              rcases k7.z' _ z with z | z
              · exact nz5 z
              · rw [d5] at z; cases z
            refine ⟨acc, d6, Nat.lt_of_le_of_lt hal (Nat.lt_of_lt_of_le hlt hsz), hlt, S6, α6, Z7, acc ++ [v], accW ++ [r.1], rs', upd_same, by rw [List.length_append]; simp; exact hal, ?_, ?_, nz7, nα6, ?_, hl, by rw [hrs, List.append_assoc]; rfl⟩
            · have := keepD ((k4.trans k5).trans k7) nz7 nα6
              have e : (fun a => if a = D then none else upd H6 D (.lst (acc ++ [v])) a) = fun a => if a = D then none else H6 a := by
                funext a
                by_cases e : a = D
                · rw [if_pos e, if_pos e]
                · rw [if_neg e, if_neg e, upd_ne e]
              rw [e]; exact this
            · exact w7.put nz7 nα6 d6 (.lst _ [])
            · exact RepL.put w7 nz7 d6 (.lst _ []) ((((rl.keep wo3 k4).keep w4 k5).keep w5 k7).append r7)
          · cases hl
    · have e : ws.drop i = [] := List.drop_eq_nil_of_le (by omega)
      rw [e] at hl
      cases hl
      rw [List.append_nil] at hrs
      subst hrs
      exact .inl ⟨wk'.2 (by omega), q _ _ _ _ (k.trans kk') wo3 ⟨.mu hacc (.lst _ _) rl nα (fun _ => nz) (fun e => by cases e), fun _ _ a e => by cases e; exact k.d _ hD⟩⟩
  · cases h
end

section
variable {X : Cx} {tg iter elt : Expr} {ifs : List Expr} {scope : Scope} {own : List (Str × Nat)} {is : List Nat} {t : CG} {it : CI} {c : CT} {f : CE} {pos : Pos}
theorem e_lc (hc : X.calm = true) (hN : X.N.Nodup) (hi : EI X tg iter it) (ok : BlkOk X.N X.env.scope scope own) (hj : (is.all fun j => (own.map (·.2)).contains j) = true)
    (hg : ∀ (s : Shared) (H : Hp) (C : Addr) (cl : List (Str × Addr)) (fp : List Addr), EG (X.blk s H scope (compEnvC scope cl C X.env) fp) tg is t)
    (ht : ∀ (s : Shared) (H : Hp) (C : Addr) (cl : List (Str × Addr)) (fp : List Addr), ETs (X.blk s H scope (compEnvC scope cl C X.env) fp) ifs c)
    (he : ∀ (s : Shared) (H : Hp) (C : Addr) (cl : List (Str × Addr)) (fp : List Addr), EE (X.blk s H scope (compEnvC scope cl C X.env) fp) elt f) (hs : ∀ x, foldedSetIterable iter X.env x = pure x := by intro _; rfl) :
    EE X (.ListComp elt [⟨tg, iter, ifs, 0⟩] scope pos) (cLc t it c f (own.map (·.2))) :=
  PE.cons (pe_lc hc hN hi ok hg ht he hs) fun _ _ _ h => lc_ok (fun j hj' => by simpa using List.all_eq_true.mp hj j hj') h
theorem asg_name {K : PySem.W.Frag} {f : CE} {i : Nat} {D : Ends} {σ : L2.St} {H : Hp} (h : semS K (cAsg (tName i) f) D σ H) : semE K f σ H fun x H1 => gName i x σ H1 D.nx := by
  obtain ⟨B, ρ, S, o, ⟨α, Z, at_⟩, h, q⟩ := h
  obtain ⟨r, S1, h1, h⟩ := of_bnd h
  obtain ⟨ρ', e1, rfl⟩ := Option.map_eq_some_iff.mp h
  refine ⟨ρ, S, α, Z, r, S1, at_.w, at_.e, h1, fun v H1 α1 Z1 k1 w1 g => ?_⟩
  unfold tName at e1
  split at e1
  · rename_i hs
    cases e1
    exact q _ H1 ⟨α1, Z1, (at_.go k1 w1).set i (g.fits at_) hs⟩
  · cases e1
theorem s_setLc {i : Nat} {y : Str} {py spos : Pos} (hc : X.calm = true) (hN : X.N.Nodup) (hi : EI X tg iter it) (ok : BlkOk X.N X.env.scope scope own) (hj : (is.all fun j => (own.map (·.2)).contains j) = true)
    (hg : ∀ (s : Shared) (H : Hp) (C : Addr) (cl : List (Str × Addr)) (fp : List Addr), EG (X.blk s H scope (compEnvC scope cl C X.env) fp) tg is t)
    (ht : ∀ (s : Shared) (H : Hp) (C : Addr) (cl : List (Str × Addr)) (fp : List Addr), ETs (X.blk s H scope (compEnvC scope cl C X.env) fp) ifs c)
    (he : ∀ (s : Shared) (H : Hp) (C : Addr) (cl : List (Str × Addr)) (fp : List Addr), EE (X.blk s H scope (compEnvC scope cl C X.env) fp) elt f)
    (hy : X.N[i]? = some y := by rfl) (hyl : X.env.scope.names.lookup y = some .local := by rfl) (hk : X.env.scope.kind = .function := by rfl) (hl : (py.line == pos.line) = true := by rfl)
    (ha : (scope.names.any fun (n, k) => n == y && (k == .local || k == .cell)) = false := by decide +kernel) (hs : ∀ x, foldedSetIterable iter X.env x = pure x := by intro _; rfl) :
    ES X (.Assign [.Name y py] (.ListComp elt [⟨tg, iter, ifs, 0⟩] scope pos) spos) (cAsg (tName i) (cLc t it c f (own.map (·.2)))) :=
  PS.cons (ps_setLc hc hN hy hyl (sw_true hk hyl hl ha) hi ok hg ht he hs) fun D σ H h => lc_ok (fun j hj' => by simpa using List.all_eq_true.mp hj j hj') (asg_name h)
end

/-! ### calls of defs -/
abbrev FnSem := List W → Store → Option (Wm × Store)
def spF (K : PySem.W.Frag) (n : Nat) (m : FnSem) : Sp := fun vs H Q _ => ∃ ws S α Z r S', WOk K H S α Z ∧ ws.length = n ∧ Paired (fun v w => RepM K α Z H .brw v w) vs ws ∧ m ws S = some (r, S') ∧
  ∀ v H' α' Z', Keep H α Z H' α' Z' → WOk K H' S' α' Z' → Got K H α' Z' H' r v → Q v H'
def cFn (n N : Nat) (c : CS) : FnSem := fun ws S => if ws.length = n then (match c (ws.map (fun w => some (w, Md.brw)) ++ List.replicate (N - n) none) S with
  | some (.rt r S') => if sto r = true then some (r, S') else none
  | some (.nx _ S') => some ((.non, .own), S')
  | _ => none) else none
def cCall (m : FnSem) (fs : CA) : CE := fun ρ S => bnd (fs ρ S) fun rs S => m (rs.map (·.1)) S
section
variable {P : Program} {w : World} {K : PySem.W.Frag} {mg : Str → Option Value} {base : Heap}
theorem fn_ok {x qual : Str} {st : Stmt} {f : Addr} {fd : FuncData} {N ps : List Str} {k : Nat} {c : CS} (F : Fun K x qual st f fd) (sc : FnScope N ps (defScope st)) (hn : ps.length ≤ N.length)
    (hb : ∀ (cdv : Value) (A : Around) (outer : List PySem.Env) (s : Shared) (H : Hp) (E : XK), Room k (A.deeper (envOfC qual (defScope st) s.heap.objs.size f cdv)) → ESs (cxOf CX0 P w K mg base N qual (defScope st) f cdv A outer s H E).nox (defBody st) c) :
    FnOk P w K mg base CX0 (k + 1) f fd ps (spF K ps.length (cFn ps.length N.length c)) := by
  refine F.ok sc (fun vs H Q E h => ?_) (fun cdv A outer s H vs Q E hr h => ⟨_, hb cdv A outer s H E hr, ?_⟩)
  · obtain ⟨ws, S, α, Z, r, S', wo, hl, p, _⟩ := h
    rw [← hl]; exact Paired.length p
  · obtain ⟨ws, S, α, Z, r, S', wo, hl, p, h, q⟩ := h
    unfold cFn at h
    rw [if_pos hl] at h
    have slot : ∀ {vs : List V} {ws : List W} {i : Nat} {w : W} {m : Md}, Paired (fun v w => RepM K α Z H .brw v w) vs ws → (ws.map (fun w => some (w, Md.brw)))[i]? = some (some (w, m)) → ∃ v, (vs.map some)[i]? = some (some v) ∧ m = .brw ∧ RepM K α Z H .brw v w := by
      intro vs ws i w m p
      induction p generalizing i with
      | nil => intro h; simp at h
      | cons r t ih =>
        intro h
        cases i with
        | zero => simp at h; obtain ⟨rfl, rfl⟩ := h; exact ⟨_, rfl, rfl, r⟩
        | succ i => exact ih (by simpa using h)
    have get : ∀ (i : Nat) (w : W) (m : Md), (ws.map (fun w => some (w, Md.brw)) ++ List.replicate (N.length - ps.length) none)[i]? = some (some (w, m)) → ∃ v, (L2.start N vs)[i]? = some (some v) ∧ m = .brw ∧ RepM K α Z H .brw v w := by
      intro i w m h
      have hlv := Paired.length p
      by_cases hi : i < ws.length
      · rw [List.getElem?_append_left (by simpa using hi)] at h
        obtain ⟨v, e1, e2, e3⟩ := slot p h
        refine ⟨v, ?_, e2, e3⟩
        unfold L2.start
        rw [List.getElem?_append_left (by rw [List.length_map, hlv]; exact hi)]
        exact e1
      · rw [List.getElem?_append_right (by simpa using Nat.le_of_not_lt hi)] at h
        rw [List.getElem?_replicate] at h
        split at h <;> cases h
    have en : EnvOk K α Z H (ws.map (fun w => some (w, Md.brw)) ++ List.replicate (N.length - ps.length) none) (L2.start N vs) := by
      refine ⟨?_, fun i w m h => ?_, fun i j w w' m' _ h => ?_⟩
      · have hlv := Paired.length p
        unfold L2.start
        simp only [List.length_append, List.length_map, List.length_replicate, hlv, hl]
      · obtain ⟨v, e1, e2, e3⟩ := get i w m h
        exact ⟨v, e1, by rw [e2]; exact e3⟩
      · obtain ⟨v, e1, e2, e3⟩ := get i w _ h
        cases e2
    have so : At K ⟨H, α, Z⟩ (ws.map (fun w => some (w, Md.brw)) ++ List.replicate (N.length - ps.length) none) S (L2.start N vs) H α Z := ⟨wo, Keep.refl, en, fun i w h => by
      obtain ⟨v, e1, e2, e3⟩ := get i w _ h
      cases e2⟩
    cases hc : c (ws.map (fun w => some (w, Md.brw)) ++ List.replicate (N.length - ps.length) none) S with
    | none => rw [hc] at h; cases h
    | some o =>
      rw [hc] at h
      refine ⟨⟨H, α, Z⟩, _, S, o, ⟨α, Z, so⟩, hc, ?_⟩
      cases o with
      | rt r1 S1 =>
        have h : (if sto r1 = true then some (r1, S1) else none) = some (r, S') := h
        split at h
        · rename_i hs
          cases h
          exact ⟨hs, fun v H' α' Z' k w g => q v H' α' Z' k w g⟩
        · cases h
      | nx ρ1 S1 =>
        cases h
        exact fun σ' H' ⟨α', Z', a⟩ => q .non H' α' Z' a.k a.w (Got.im .non rfl)
      | bk ρ1 S1 => cases h
      | ct ρ1 S1 => cases h
end

section
variable {X : Cx} {a b e : Expr} {es : List Expr} {fa fb fe : CE} {fs : CA} {pos p : Pos} {x : Str}
theorem got_vals {K : PySem.W.Frag} {H0 H : Hp} {α : List Addr} {Z : Addr → Prop} {rs : List Wm} {vs : List V} (g : Paired (Got K H0 α Z H) rs vs) : Paired (fun v w => RepM K α Z H .brw v w) vs (rs.map (·.1)) := by
  induction g with
  | nil => exact .nil
  | cons r t ih => exact .cons r.rep.brw ih
theorem cFn_len {n N : Nat} {c : CS} {ws : List W} {S : Store} {r : Wm × Store} (h : cFn n N c ws S = some r) : ws.length = n := by
  unfold cFn at h
  split at h
  · assumption
  · cases h
theorem e_call {k j n : Nat} {f : Addr} {fd : FuncData} {ps : List Str} {m : FnSem} (F : FnOk X.prog X.w X.K X.mg X.base CX0 k f fd ps (spF X.K n m)) (hr : Room j X.A) (hj : k ≤ j) (hm : X.mg x = some (.ref f)) (hk : PySem.W.keepIn X.K (.ref f) = true) (hb : Binds X.K fd ps [])
    (hlen : ∀ ws S r, m ws S = some r → ws.length = n) (ha : EA X (e :: es) fs) (hg : Gl X x := by rfl) (hdb : (x == ("__debug__" : Str)) = false := by decide) (he : starEach (e :: es) X.env = (false, eval e X.env) :: starEach es X.env := by rfl) (hpl : (backTo pos (starEach es X.env)).any (·.1) = false := by rfl) :
    EE X (.Call (.Name x p) (e :: es) [] pos) (cCall m fs) :=
  PE.cons (pe_call F (hr.mono hj) hg hm hk hb .nil pass0 ha hdb he hpl) fun σ H Q ⟨ρ, S, α, Z, r', S', wo, en, h, q⟩ => by
    obtain ⟨rs, S1, h1, h⟩ := of_bnd h
    refine ⟨ρ, S, α, Z, rs, S1, wo, en, h1, fun vs H1 α1 Z1 k1 w1 g1 => ?_⟩
    show spF X.K n m (vs ++ []) H1 Q E0
    rw [List.append_nil]
    exact ⟨rs.map (·.1), S1, α1, Z1, r', S', w1, hlen _ _ _ h, got_vals g1, h, fun v H2 α2 Z2 k2 w2 g2 => q v H2 α2 Z2 (k1.trans k2) w2 (g2.back k1.d)⟩

/-! ### built-ins by values -/
def CO (K : PySem.W.Frag) (r : List V → Hp → VK → Prop) (g : Store → List W → Option W) : Prop := ∀ {α : List Addr} {Z : Addr → Prop} {H : Hp} {S : Store} {vs : List V} {ws : List W} {c : W}, WOk K H S α Z → Paired (fun v w => RepM K α Z H .brw v w) vs ws → g S ws = some c →
  ∀ Q : VK, (∀ v H', Keep H α Z H' α Z → WOk K H' S α Z → Got K H α Z H' (c, .own) v → Q v H') → r vs H Q
def cBi (g : Store → List W → Option W) (fs : CA) : CE := fun ρ S => bnd (fs ρ S) fun rs S => (g S (rs.map (·.1))).map fun c => ((c, .own), S)
theorem bi_ok {K : PySem.W.Frag} {r : List V → Hp → VK → Prop} {g : Store → List W → Option W} (ho : CO K r g) {σ : L2.St} {H : Hp} {Q : VK} (h : semE K (cBi g fs) σ H Q) : tCB r (semA K fs) σ H Q := by
  obtain ⟨ρ, S, α, Z, r', S', wo, en, h, q⟩ := h
  obtain ⟨rs, S1, h1, h⟩ := of_bnd h
  obtain ⟨c, hc, e⟩ := Option.map_eq_some_iff.mp h
  cases e
  exact ⟨ρ, S, α, Z, rs, _, wo, en, h1, fun vs H1 α1 Z1 k1 w1 g1 => ho w1 (got_vals g1) hc _ fun v H2 k2 w2 g2 => q v H2 α1 Z1 (k1.trans k2) w2 (g2.back k1.d)⟩
theorem e_bi {id : String} {r : List V → Hp → VK → Prop} {g : Store → List W → Option W} (hc : CallR X (.builtin id) r) (ho : CO X.K r g) (hm : X.mg x = none) (ha : EA X (e :: es) fs) (hv : bootBuiltins x = some (.builtin id)) (hg : Gl X x := by rfl) (hn : x ≠ "__name__" := by decide) (hdb : (x == ("__debug__" : Str)) = false := by decide)
    (he : starEach (e :: es) X.env = (false, eval e X.env) :: starEach es X.env := by rfl) (hpl : (backTo pos (starEach es X.env)).any (·.1) = false := by rfl) : EE X (.Call (.Name x p) (e :: es) [] pos) (cBi g fs) :=
  PE.cons (pe_callB hc hg hm hv ha hn hdb he hpl) fun _ _ _ h => bi_ok ho h
theorem e_ty {T : String} {r : List V → Hp → VK → Prop} {g : Store → List W → Option W} (hc : CallR X (.type T) r) (ho : CO X.K r g) (hm : X.mg x = none) (ha : EA X (e :: es) fs) (hv : bootBuiltins x = some (.type T)) (hg : Gl X x := by rfl) (hn : x ≠ "__name__" := by decide) (hdb : (x == ("__debug__" : Str)) = false := by decide)
    (he : starEach (e :: es) X.env = (false, eval e X.env) :: starEach es X.env := by rfl) (hpl : (backTo pos (starEach es X.env)).any (·.1) = false := by rfl) : EE X (.Call (.Name x p) (e :: es) [] pos) (cBi g fs) :=
  PE.cons (pe_callTy hc hg hm hv ha hn hdb he hpl) fun _ _ _ h => bi_ok ho h
end
section
variable {K : PySem.W.Frag} {α : List Addr} {Z : Addr → Prop} {H : Hp}
theorem one_of {vs : List V} {w : W} (p : Paired (fun v w => RepM K α Z H .brw v w) vs [w]) : ∃ v, vs = [v] ∧ RepM K α Z H .brw v w := by
  cases p with
  | cons r t => cases t; exact ⟨_, rfl, r⟩
theorem two_of {vs : List V} {w u : W} (p : Paired (fun v w => RepM K α Z H .brw v w) vs [w, u]) : ∃ v x, vs = [v, x] ∧ RepM K α Z H .brw v w ∧ RepM K α Z H .brw x u := by
  cases p with
  | cons r t =>
    obtain ⟨v, rfl, r2⟩ := one_of t
    exact ⟨_, _, rfl, r, r2⟩
/-- len -/
def gLen : Store → List W → Option W := fun S ws => match ws with
  | [.tup us] => some (.int us.length)
  | [.lst us] => some (.int us.length)
  | [.dk kvs] => some (.int kvs.length)
  | [.str x] => if x.length ≤ sizeLine then some (.int x.length) else none
  | [.scr ns] => some (.int ns.length)
  | [.cel n] => (S[n]?).map fun us => .int us.length
  | _ => none
def rLenW (K : PySem.W.Frag) : List V → Hp → VK → Prop := fun xs H Q => ((∃ p ys, xs = [V.ref p] ∧ (SqL K H p ys ∨ SqT K H p ys) ∧ Q (.int ys.length) H) ∨ (∃ z, xs = [V.str z] ∧ z.length ≤ sizeLine ∧ Q (.int z.length) H)) ∨ (∃ a kvs, xs = [V.ref a] ∧ H a = some (.dK kvs) ∧ Q (.int kvs.length) H)
theorem call_lenW {X : Cx} : CallR X (.builtin "len") (rLenW X.K) := (call_len_seq.or call_len_str).or call_lenD
theorem co_len : CO K (rLenW K) gLen := by
  intro α Z H S vs ws c wo p hg Q q
  have fin : ∀ i, c = .int i → Q (.int i) H := fun i e => by subst e; exact q _ _ Keep.refl wo (Got.im (.int i) rfl)
  unfold gLen at hg
  split at hg
  · obtain ⟨v, rfl, r⟩ := one_of p
    obtain ⟨a, xs, rfl, h0, rl⟩ := r.ofTup
    cases hg
    exact .inl (.inl ⟨a, xs, rfl, .inr (.of h0), by rw [rl.length]; exact fin _ rfl⟩)
  · obtain ⟨v, rfl, r⟩ := one_of p
    obtain ⟨a, xs, rfl, h0, rl, _⟩ := r.ofLst
    cases hg
    exact .inl (.inl ⟨a, xs, rfl, .inl (.of h0), by rw [rl.length]; exact fin _ rfl⟩)
  · obtain ⟨v, rfl, r⟩ := one_of p
    obtain ⟨a, o, xs, us, rfl, h0, s, rl, _⟩ := r.muE rfl
    cases hg
    cases s with
    | @dk kvs kws e =>
      have hl := congrArg List.length e
      rw [List.length_map, List.length_map] at hl
      exact .inr ⟨a, _, rfl, h0, by rw [hl]; exact fin _ rfl⟩
  · obtain ⟨v, rfl, r⟩ := one_of p
    split at hg
    · rename_i hl
      cases hg
      rw [r.ofStr]
      exact .inl (.inr ⟨_, rfl, hl, fin _ rfl⟩)
    · cases hg
  · obtain ⟨v, rfl, r⟩ := one_of p
    obtain ⟨a, rfl, h0⟩ := r.ofScr
    cases hg
    exact .inl (.inl ⟨a, _, rfl, .inl h0, by rw [List.length_map]; exact fin _ rfl⟩)
  · obtain ⟨v, rfl, r⟩ := one_of p
    obtain ⟨a, rfl, h0⟩ := r.ofCel
    obtain ⟨us, h1, e⟩ := Option.map_eq_some_iff.mp hg
    subst e
    obtain ⟨xs, h2, rl⟩ := wo.at h0 h1
    exact .inl (.inl ⟨a, xs, rfl, .inl (.of h2), by rw [rl.length]; exact fin _ rfl⟩)
  · cases hg
theorem RepL.ints {ns : List Int} : RepL K α Z H (ns.map V.int) (ns.map W.int) := by
  induction ns with
  | nil => exact .nil
  | cons n ns ih => exact .cons (.int n) ih
theorem new_list {S : Store} {Q : VK} {xs : List V} {ws : List W} {m : Md} (wo : WOk K H S α Z) (rl : RepL K α Z H xs ws) (q : ∀ v H', Keep H α Z H' α Z → WOk K H' S α Z → Got K H α Z H' (.lst ws, .own) v → Q v H') : ∀ l, H l = none → Q (.ref l) (upd H l (.lst xs)) := fun l hl => by
  have k : Keep H α Z (upd H l (.lst xs)) α Z := Keep.new hl
  exact q _ _ k (wo.new hl) ⟨.mu upd_same (.lst _ _) (rl.keep wo k) (wo.nα hl) (fun _ => wo.nZ hl) (fun e => by cases e), fun _ _ a e => by cases e; exact hl⟩
theorem new_tup {S : Store} {Q : VK} {xs : List V} {ws : List W} {m : Md} (wo : WOk K H S α Z) (rl : RepL K α Z H xs ws) (q : ∀ v H', Keep H α Z H' α Z → WOk K H' S α Z → Got K H α Z H' (.tup ws, .own) v → Q v H') : ∀ l, H l = none → Q (.ref l) (upd H l (.tup xs)) := fun l hl => by
  have k : Keep H α Z (upd H l (.tup xs)) α Z := Keep.new hl
  exact q _ _ k (wo.new hl) (Got.im (.tup upd_same (rl.keep wo k)) rfl)
/-- list(x), tuple(x) -/
def gList : Store → List W → Option W := fun S ws => match ws with
  | [.tup us] => some (.lst us)
  | [.lst us] => some (.lst us)
  | [.scr ns] => some (.lst (ns.map .int))
  | _ => none
theorem co_list : CO K (fun xs H Q => ∃ p ys, xs = [V.ref p] ∧ (SqL K H p ys ∨ SqT K H p ys) ∧ ∀ l, H l = none → Q (.ref l) (upd H l (.lst ys))) gList := by
  intro α Z H S vs ws c wo p hg Q q
  unfold gList at hg
  split at hg
  · obtain ⟨v, rfl, r⟩ := one_of p
    obtain ⟨a, xs, rfl, h0, rl⟩ := r.ofTup
    cases hg
    exact ⟨a, xs, rfl, .inr (.of h0), new_list (m := .own) wo rl q⟩
  · obtain ⟨v, rfl, r⟩ := one_of p
    obtain ⟨a, xs, rfl, h0, rl, _⟩ := r.ofLst
    cases hg
    exact ⟨a, xs, rfl, .inl (.of h0), new_list (m := .own) wo rl q⟩
  · obtain ⟨v, rfl, r⟩ := one_of p
    obtain ⟨a, rfl, h0⟩ := r.ofScr
    cases hg
    exact ⟨a, _, rfl, .inl h0, new_list (m := .own) wo RepL.ints q⟩
  · cases hg
def gTuple : Store → List W → Option W := fun S ws => match ws with
  | [.tup us] => some (.tup us)
  | [.lst us] => some (.tup us)
  | _ => none
theorem co_tuple : CO K (fun xs H Q => ∃ p ys, xs = [V.ref p] ∧ ((SqL K H p ys ∧ ∀ l, H l = none → Q (.ref l) (upd H l (.tup ys))) ∨ (SqT K H p ys ∧ Q (.ref p) H))) gTuple := by
  intro α Z H S vs ws c wo p hg Q q
  unfold gTuple at hg
  split at hg
  · obtain ⟨v, rfl, r⟩ := one_of p
    obtain ⟨a, xs, rfl, h0, rl⟩ := r.ofTup
    cases hg
    exact ⟨a, xs, rfl, .inr ⟨.of h0, q _ _ Keep.refl wo (Got.im (.tup h0 rl) rfl)⟩⟩
  · obtain ⟨v, rfl, r⟩ := one_of p
    obtain ⟨a, xs, rfl, h0, rl, _⟩ := r.ofLst
    cases hg
    exact ⟨a, xs, rfl, .inl ⟨.of h0, new_tup (m := .own) wo rl q⟩⟩
  · cases hg
/-- int(n), int(flag) -/
def gInt : Store → List W → Option W := fun _ ws => match ws with
  | [.int i] => some (.int i)
  | [.bl k] => some (.int (if k then 1 else 0))
  | _ => none
theorem co_int : CO K (fun xs H Q => (∃ i, xs = [V.int i] ∧ Q (.int i) H) ∨ ∃ k, xs = [V.bl k] ∧ Q (.int (if k then 1 else 0)) H) gInt := by
  intro α Z H S vs ws c wo p hg Q q
  unfold gInt at hg
  split at hg
  · obtain ⟨v, rfl, r⟩ := one_of p
    cases hg
    rw [r.ofInt]
    exact .inl ⟨_, rfl, q _ _ Keep.refl wo (Got.im (.int _) rfl)⟩
  · obtain ⟨v, rfl, r⟩ := one_of p
    cases hg
    rw [r.ofBl]
    exact .inr ⟨_, rfl, q _ _ Keep.refl wo (Got.im (.int _) rfl)⟩
  · cases hg
def gAbs : Store → List W → Option W := fun _ ws => match ws with
  | [.int i] => some (.int (if i < 0 then -i else i))
  | _ => none
theorem co_abs : CO K (fun xs H Q => ∃ i, xs = [V.int i] ∧ Q (.int (if i < 0 then -i else i)) H) gAbs := by
  intro α Z H S vs ws c wo p hg Q q
  unfold gAbs at hg
  split at hg
  · obtain ⟨v, rfl, r⟩ := one_of p
    cases hg
    rw [r.ofInt]
    exact ⟨_, rfl, q _ _ Keep.refl wo (Got.im (.int _) rfl)⟩
  · cases hg
def gMin2 : Store → List W → Option W := fun _ ws => match ws with
  | [.int i, .int j] => some (.int (if j < i then j else i))
  | _ => none
def gMax2 : Store → List W → Option W := fun _ ws => match ws with
  | [.int i, .int j] => some (.int (if j > i then j else i))
  | _ => none
theorem co_min2 : CO K (fun xs H Q => ∃ i j, xs = [V.int i, V.int j] ∧ Q (.int (if j < i then j else i)) H) gMin2 := by
  intro α Z H S vs ws c wo p hg Q q
  unfold gMin2 at hg
  split at hg
  · obtain ⟨v, u, rfl, r, r2⟩ := two_of p
    cases hg
    rw [r.ofInt, r2.ofInt]
    exact ⟨_, _, rfl, q _ _ Keep.refl wo (Got.im (.int _) rfl)⟩
  · cases hg
theorem co_max2 : CO K (fun xs H Q => ∃ i j, xs = [V.int i, V.int j] ∧ Q (.int (if j > i then j else i)) H) gMax2 := by
  intro α Z H S vs ws c wo p hg Q q
  unfold gMax2 at hg
  split at hg
  · obtain ⟨v, u, rfl, r, r2⟩ := two_of p
    cases hg
    rw [r.ofInt, r2.ofInt]
    exact ⟨_, _, rfl, q _ _ Keep.refl wo (Got.im (.int _) rfl)⟩
  · cases hg
end
section
variable {X : Cx} {a b e : Expr} {es : List Expr} {fa fb fe : CE} {fs : CA} {pos p : Pos} {x : Str}
theorem e_len (hm : X.mg "len" = none) (h : EE X e fe) (hg : Gl X "len" := by rfl) (hs : starEach [e] X.env = (false, eval e X.env) :: starEach [] X.env := by rfl) : EE X (.Call (.Name "len" p) [e] [] pos) (cBi gLen (cCons fe cNil)) :=
  e_bi call_lenW co_len hm (a_cons h a_nil hs) PySem.boot_len hg (by decide) (by decide) hs
theorem e_list (hm : X.mg "list" = none) (h : EE X e fe) (hg : Gl X "list" := by rfl) (hs : starEach [e] X.env = (false, eval e X.env) :: starEach [] X.env := by rfl) : EE X (.Call (.Name "list" p) [e] [] pos) (cBi gList (cCons fe cNil)) :=
  e_ty call_list_of co_list hm (a_cons h a_nil hs) (by decide +kernel) hg (by decide) (by decide) hs
theorem e_tuple (hm : X.mg "tuple" = none) (h : EE X e fe) (hg : Gl X "tuple" := by rfl) (hs : starEach [e] X.env = (false, eval e X.env) :: starEach [] X.env := by rfl) : EE X (.Call (.Name "tuple" p) [e] [] pos) (cBi gTuple (cCons fe cNil)) :=
  e_ty call_tuple_of co_tuple hm (a_cons h a_nil hs) (by decide +kernel) hg (by decide) (by decide) hs
theorem e_intf (hm : X.mg "int" = none) (h : EE X e fe) (hg : Gl X "int" := by rfl) (hs : starEach [e] X.env = (false, eval e X.env) :: starEach [] X.env := by rfl) : EE X (.Call (.Name "int" p) [e] [] pos) (cBi gInt (cCons fe cNil)) :=
  e_ty call_int1 co_int hm (a_cons h a_nil hs) (by decide +kernel) hg (by decide) (by decide) hs
theorem e_abs (hm : X.mg "abs" = none) (h : EE X e fe) (hg : Gl X "abs" := by rfl) (hs : starEach [e] X.env = (false, eval e X.env) :: starEach [] X.env := by rfl) : EE X (.Call (.Name "abs" p) [e] [] pos) (cBi gAbs (cCons fe cNil)) :=
  e_bi call_abs co_abs hm (a_cons h a_nil hs) (by decide +kernel) hg (by decide) (by decide) hs

/-! ### a name's own list, dict is written -/
theorem At.write {K : PySem.W.Frag} {B : Bs} {ρ : Env} {S : Store} {σ : L2.St} {H : Hp} {α : List Addr} {Z : Addr → Prop} {i : Nat} {c : Addr} {u : HO} {w w' : W} {xs' : List V} {ws' : List W} (at_ : At K B ρ S σ H α Z)
    (hr : ρ[i]? = some (some (w, .own))) (hm : w.mut = true) (hσ : σ[i]? = some (some (.ref c))) (s : Shape u w' xs' ws') (r : RepL K α Z H xs' ws') : At K B (ρ.set i (some (w', .own))) S σ (upd H c u) α Z := by
  have hi : i < ρ.length := (List.getElem?_eq_some_iff.mp hr).1
  obtain ⟨o, w0, xs0, ws0, h0, s0, nα, nz⟩ := at_.e.root ⟨i, w, hr, hm, hσ⟩
  have hB := at_.o i w hr hm c hσ
  have get : ∀ (j : Nat) w1 m1, (ρ.set i (some (w', Md.own)))[j]? = some (some (w1, m1)) → (i = j ∧ w1 = w' ∧ m1 = .own) ∨ (i ≠ j ∧ ρ[j]? = some (some (w1, m1))) := by
    intro j w1 m1 h
    by_cases e : i = j
    · subst e
      rw [List.getElem?_set_self hi] at h
      cases h
      exact .inl ⟨rfl, rfl, rfl⟩
    · rw [List.getElem?_set_ne e] at h
      exact .inr ⟨e, h⟩
  refine ⟨at_.w.put nz nα h0 s0, ⟨at_.k.al, fun b t hb hn => ?_, fun b hb => ?_, at_.k.z, at_.k.z'⟩, ⟨by rw [List.length_set]; exact at_.e.len, fun j w1 m1 hj => ?_, fun j j' w1 w2 m2 hne h1 h2 h3 h4 => ?_⟩, fun j w1 hj hm1 b hb => ?_⟩
  · rw [upd_ne (by rintro rfl; rw [hB] at hb; cases hb)]
    exact at_.k.h b t hb hn
  · by_cases e : b = c
    · rw [e]; exact hB
    · rw [upd_ne e] at hb; exact at_.k.d b hb
  · rcases get j w1 m1 hj with ⟨e, rfl, rfl⟩ | ⟨e, h⟩
    · subst e
      exact ⟨_, hσ, .mu upd_same s (RepL.put at_.w nz h0 s0 r) nα (fun _ => nz) (fun e => by cases e)⟩
    · obtain ⟨v, q1, q2⟩ := at_.e.slot j w1 m1 h
      refine ⟨v, q1, ?_⟩
      cases q2 with
      | im e r2 => exact .im e (r2.put0 (fun ys e => by rw [h0] at e; cases e; exact s0.ntup _ rfl) (fun a t e => by rw [h0] at e; cases e; cases s0) nz)
      | mu c0 c1 c2 c3 c4 c5 =>
        refine .mu ?_ c1 (RepL.put at_.w nz h0 s0 c2) c3 c4 c5
        rw [upd_ne (by rintro rfl; exact at_.e.sep i j w w1 m1 e hr hm h c1.mut (hσ.trans q1.symm))]
        exact c0
  · rcases get j w1 _ h1 with ⟨e, rfl, _⟩ | ⟨e, h⟩ <;> rcases get j' w2 m2 h3 with ⟨e', rfl, rfl⟩ | ⟨e', h'⟩
    · exact absurd (e.symm.trans e') hne
    · subst e; exact at_.e.sep _ j' w w2 m2 hne hr hm h' h4
    · subst e'
      exact at_.e.sep j _ w1 w .own hne h h2 hr hm
    · exact at_.e.sep j j' w1 w2 m2 hne h h2 h' h4
  · rcases get j w1 _ hj with ⟨e, rfl, _⟩ | ⟨e, h⟩
    · subst e; exact at_.o _ w hr hm b hb
    · exact at_.o j w1 h hm1 b hb
/-- a cell is written -/
theorem At.cell {K : PySem.W.Frag} {B : Bs} {ρ : Env} {S : Store} {σ : L2.St} {H : Hp} {α : List Addr} {Z : Addr → Prop} {n : Nat} {c : Addr} {xs' : List V} {ws' : List W} (at_ : At K B ρ S σ H α Z)
    (hc : α[n]? = some c) (r : RepL K α Z H xs' ws') : At K B ρ (S.set n ws') σ (upd H c (.lst xs')) α Z := by
  have hmem : c ∈ α := List.mem_of_getElem? hc
  obtain ⟨xs0, h0⟩ := at_.w.cell hmem
  have nz : ¬ Z c := fun z => at_.w.zα c z hmem
  have k : Keep H α Z (upd H c (.lst xs')) α Z := ⟨⟨[], by simp, by simp⟩, fun b t hb hn => by
    rw [upd_ne (by rintro rfl; exact hn hmem)]; exact hb, fun b hb => by
    by_cases e : b = c
    · rw [e, upd_same] at hb; cases hb
    · rw [upd_ne e] at hb; exact hb, fun _ h => h, fun _ h => .inl h⟩
  refine at_.go k ⟨at_.w.nd, ?_, at_.w.zα, fun b z => by rw [upd_ne (by rintro rfl; exact nz z)]; exact at_.w.zH b z⟩
  have go : ∀ {l₁ : List Addr} {l₂ : Store} {n : Nat}, l₁.Nodup → Paired (fun a ws => ∃ xs, H a = some (.lst xs) ∧ RepL K α Z H xs ws) l₁ l₂ → l₁[n]? = some c →
      Paired (fun a ws => ∃ xs, upd H c (.lst xs') a = some (.lst xs) ∧ RepL K α Z (upd H c (.lst xs')) xs ws) l₁ (l₂.set n ws') := by
    intro l₁ l₂ n nd p
    induction p generalizing n with
    | nil => intro h; simp at h
    | @cons a ws l₁ l₂ r1 t ih =>
      intro h
      rw [List.nodup_cons] at nd
      cases n with
      | zero =>
        have e : a = c := by simpa using h
        subst e
        refine .cons ⟨xs', upd_same, RepL.put at_.w nz h0 (.lst _ []) r⟩ (Paired.impM t fun b us hb ⟨xs, h1, r2⟩ => ⟨xs, ?_, RepL.put at_.w nz h0 (.lst _ []) r2⟩)
        rw [upd_ne (by rintro rfl; exact nd.1 hb)]; exact h1
      | succ n =>
        have h : l₁[n]? = some c := by simpa using h
        obtain ⟨xs, h1, r2⟩ := r1
        refine .cons ⟨xs, ?_, RepL.put at_.w nz h0 (.lst _ []) r2⟩ (ih nd.2 h)
        rw [upd_ne (by rintro rfl; exact nd.1 (List.mem_of_getElem? h))]; exact h1
  exact go at_.w.nd at_.w.cells hc
/-- xs.append(e) -/
def cApp (i : Nat) (f : CE) : CS := fun ρ S => bnd (f ρ S) fun r S => if sto r = true then (match ρ[i]? with
  | some (some (.lst ws, .own)) => if ws.length < sizeLine then some (.nx (ρ.set i (some (.lst (ws ++ [r.1]), .own))) S) else none
  | _ => none) else none
theorem s_app {apos cpos p : Pos} (i : Nat) (he : EE X e fe) (hN : X.N[i]? = some x := by rfl) (hv : Vis X.env.scope x := by first | exact Or.inl rfl | exact Or.inr (Or.inl rfl) | exact Or.inr (Or.inr rfl)) (hd : (x == ("__debug__" : Str)) = false := by decide)
    (hcd : (x == ("__classdict__" : Str)) = false := by decide) (hbase : attributeBase (.Name x p) "append" X.env (eval (.Name x p) X.env) = eval (.Name x p) X.env := by rfl)
    (hfew : ((backTo cpos (starEach [e] X.env)).all (fun x => !x.1) && (backToKw cpos (keywordEach [] X.env)).all (fun x => x.1.isSome)
      && decide (([e] : List Expr).length + ([] : List Keyword).length + (if ([] : List Keyword).isEmpty then 0 else 1) < 30)) = true := by rfl)
    (hline : (apos.endLine == cpos.line) = true := by rfl) (hs : starEach [e] X.env = (false, eval e X.env) :: starEach [] X.env := by rfl) (hplain : (backTo cpos (starEach [] X.env)).any (·.1) = false := by rfl)
    (hsw : swapsWith (.Call (.Attribute (.Name x p) "append" apos) [e] [] cpos) none pos.line X.env = pure false := by rfl) :
    ES X (.Expr (.Call (.Attribute (.Name x p) "append" apos) [e] [] cpos) pos) (cApp i fe) :=
  PS.cons (ps_expr (pe_bm PySem.F.plainAttrs_list PySem.F.slot_list_append PySem.F.type_list_append mt_append (pe_var hN hv hd hcd) (a_cons he a_nil hs) hbase hfew hline hs hplain) hsw) fun D σ H ⟨B, ρ, S, o, ⟨α, Z, at_⟩, h, q⟩ => by
    obtain ⟨r, S1, h1, h⟩ := of_bnd h
    split at h
    · rename_i hst
      split at h
      · rename_i ws hr
        split at h
        · rename_i hl
          cases h
          obtain ⟨v, e1, r1⟩ := at_.e.slot i _ _ hr
          obtain ⟨c, xs, rfl, h0, rl, nα, c1, _⟩ := r1.ofLst
          refine ⟨_, e1, .inl ⟨rfl, xs, .of h0⟩, ρ, S, α, Z, [r], S1, at_.w, at_.e, (by unfold cCons; rw [h1]; rfl), fun vs H1 α1 Z1 k1 w1 g1 => ?_⟩
          have h3 : H1 c = some (.lst xs) := k1.h _ _ h0 nα
          obtain ⟨Z2, zz, k2, w2, r2⟩ := freeze_all w1 k1 g1 (by simp [hst])
          have rl2 : RepL X.K α1 Z2 H1 xs ws := (rl.keep at_.w k1).mono zz
          cases g1 with
          | cons g gt =>
            cases gt
            exact ⟨c, xs, _, rfl, rfl, h3, by rw [rl.length]; exact hl, q _ _ ⟨α1, Z2, (at_.go k2 w2).write hr rfl e1 (.lst _ _) (rl2.append r2)⟩⟩
        · cases h
      · cases h
    · cases h

/-- o[k] = e, o a name -/
def setAt (ρ : Env) (S : Store) (i : Nat) (k w : W) : Option SOut := match ρ[i]? with
  | some (some (.lst ws, .own)) => (match k with
    | .int n => (ixN ws.length n).map fun j => .nx (ρ.set i (some (.lst (ws.set j w), .own))) S
    | _ => none)
  | some (some (.cel c, _)) => (match k, S[c]? with
    | .int n, some ws => (ixN ws.length n).map fun j => .nx ρ (S.set c (ws.set j w))
    | _, _ => none)
  | some (some (.dk kvs, .own)) => (dkPut kvs k w).map fun d => .nx (ρ.set i (some (d, .own))) S
  | some (some (.dt kvs, .own)) => (dtPut kvs k w).map fun d => .nx (ρ.set i (some (d, .own))) S
  | _ => none
def cSetIx (i : Nat) (fk fe : CE) : CS := fun ρ S => bnd (fe ρ S) fun r S => bnd (fk ρ S) fun k S => if sto r = true then setAt ρ S i k.1 r.1 else none
def rSetD : V → V → V → Hp → (Hp → Prop) → Prop := fun o i v H Q => ∃ p H', o = .ref p ∧ DPut H p i v H' ∧ Q H'
theorem set_dict (hu : X.A.units + 1 < cLine) : PSet X rSetD := by
  intro pins s σ H o i v ov iv u Q I ro ri rv h
  obtain ⟨p, H', rfl, g, q⟩ := h
  cases ro
  exact d_setItem hu I g ri rv fun s4 I4 => ⟨H', I4, q⟩
theorem PSet.or {t u : TSet} (h1 : PSet X t) (h2 : PSet X u) : PSet X (fun o i v H Q => t o i v H Q ∨ u o i v H Q) := by
  intro pins s σ H o i v ov iv w Q I ro ri rv h
  rcases h with h | h
  · exact h1 pins s σ H o i v ov iv w Q I ro ri rv h
  · exact h2 pins s σ H o i v ov iv w Q I ro ri rv h
theorem s_setIx {k : Nat} {idx : Expr} {fk : CE} {p p2 : Pos} (i : Nat) (hr : Room k X.A) (hk : EE X idx fk) (he : EE X e fe) (hN : X.N[i]? = some x := by rfl) (hv : Vis X.env.scope x := by first | exact Or.inl rfl | exact Or.inr (Or.inl rfl) | exact Or.inr (Or.inr rfl)) (hd : (x == ("__debug__" : Str)) = false := by decide)
    (hcd : (x == ("__classdict__" : Str)) = false := by decide)
    (ha : ∀ v, assign (.Subscript (.Name x p) idx p2) X.env v = (do
      let ov ← holding [v] (eval (.Name x p) X.env)
      let iv ← holding [v, ov] (eval idx X.env)
      standAt p2
      holding [v, ov, iv] (setItem ov iv v)
      release [v, ov, iv] []) := by intro _; rfl)
    (hs : swapsWithSole [.Subscript (.Name x p) idx p2] e pos.line X.env = pure false := by rfl) (hw : swappedStores [.Subscript (.Name x p) idx p2] e X.env = pure none := by rfl)
    (h1 : (assignEach [.Subscript (.Name x p) idx p2] X.env).map (·.2) = [assign (.Subscript (.Name x p) idx p2) X.env] := by rfl) : ES X (.Assign [.Subscript (.Name x p) idx p2] e pos) (cSetIx i fk fe) :=
  PS.cons (ps_asg he (pg_sub (pe_var hN hv hd hcd) hk (PSet.or set_list (set_dict (hu_of hr))) ha) hs hw h1) fun D σ H ⟨B, ρ, S, o, ⟨α, Z, at_⟩, h, q⟩ => by
    obtain ⟨r, S1, h1, h⟩ := of_bnd h
    obtain ⟨k, S2, h2, h⟩ := of_bnd h
    split at h
    · rename_i hst
      refine ⟨ρ, S, α, Z, r, S1, at_.w, at_.e, h1, fun v H1 α1 Z1 k1 w1 g1 => ?_⟩
      have main : ∀ ov, σ[i]? = some (some ov) → (∀ y H2 α2 Z2, Keep H1 α1 Z1 H2 α2 Z2 → WOk X.K H2 S2 α2 Z2 → Got X.K H1 α2 Z2 H2 k y → rSetL ov y v H2 (fun H3 => D.nx σ H3) ∨ rSetD ov y v H2 (fun H3 => D.nx σ H3)) →
          L2.gSub (tVar i) (semE X.K fk) (fun o i v H Q => rSetL o i v H Q ∨ rSetD o i v H Q) v σ H1 D.nx := fun ov hov hh =>
        ⟨ov, hov, ρ, S1, α1, Z1, k, S2, w1, at_.e.keep at_.w k1, h2, fun y H2 α2 Z2 k2 w2 g2 => hh y H2 α2 Z2 k2 w2 g2⟩
      have prep : ∀ {H2 α2 Z2}, Keep H1 α1 Z1 H2 α2 Z2 → WOk X.K H2 S2 α2 Z2 → ∃ Z3, At X.K B ρ S2 σ H2 α2 Z3 ∧ Rep X.K α2 Z3 H2 v r.1 := fun {H2 α2 Z2} k2 w2 => by
        obtain ⟨Z3, zz, k3, w3, r3⟩ := freeze_all (rs := [r]) (vs := [v]) w2 (k1.trans k2) (.cons (g1.keep w1 k2) .nil) (by simp [hst])
        cases r3 with
        | cons r3 _ => exact ⟨Z3, at_.go k3 w3, r3⟩
      unfold setAt at h
      split at h
      · rename_i ws hr
        obtain ⟨u, e1, r1⟩ := at_.e.slot i _ _ hr
        obtain ⟨c, xs, rfl, h0, rl, nα, c1, _⟩ := r1.ofLst
        split at h
        · rename_i n hkn
          obtain ⟨j, hj, e⟩ := Option.map_eq_some_iff.mp h
          subst e
          refine main _ e1 fun y H2 α2 Z2 k2 w2 g2 => ?_
          obtain ⟨Z3, a3, r3⟩ := prep k2 w2
          have gy := g2.rep
          rw [hkn] at gy
          have kk := k1.trans k2
          have h3 : H2 c = some (.lst xs) := kk.h _ _ h0 nα
          have rl3 : RepL X.K α2 Z3 H2 xs ws := by
            obtain ⟨v', e1', r1'⟩ := a3.e.slot i _ _ hr
            rw [e1] at e1'
            cases e1'
            obtain ⟨c', xs', e', h0', rl', _⟩ := r1'.ofLst
            cases e'
            rw [h3] at h0'
            cases h0'
            exact rl'
          refine .inl ⟨c, xs, n, j, rfl, gy.ofInt, h3, by rw [rl.length]; exact hj, q _ _ ⟨α2, Z3, a3.write hr rfl e1 (.lst _ _) (rl3.set r3 j)⟩⟩
        · cases h
      · rename_i n m hr
        obtain ⟨u, e1, r1⟩ := at_.e.slot i _ _ hr
        obtain ⟨c, rfl, hc⟩ := r1.ofCel
        split at h
        · rename_i z ws hkn hSn
          obtain ⟨j, hj, e⟩ := Option.map_eq_some_iff.mp h
          subst e
          refine main _ e1 fun y H2 α2 Z2 k2 w2 g2 => ?_
          obtain ⟨Z3, a3, r3⟩ := prep k2 w2
          have gy := g2.rep
          rw [hkn] at gy
          obtain ⟨nw, eα, _⟩ := (k1.trans k2).al
          have hc2 : α2[n]? = some c := by
            rw [eα, List.getElem?_append_left (List.getElem?_eq_some_iff.mp hc).1]; exact hc
          obtain ⟨xs, h3, rl3⟩ := a3.w.at hc2 hSn
          exact .inl ⟨c, xs, z, j, rfl, gy.ofInt, h3, by rw [rl3.length]; exact hj, q _ _ ⟨α2, Z3, a3.cell hc2 (rl3.set r3 j)⟩⟩
        · cases h
      · rename_i kvs hr
        obtain ⟨u, e1, r1⟩ := at_.e.slot i _ _ hr
        obtain ⟨d, hd, e⟩ := Option.map_eq_some_iff.mp h
        subst e
        unfold dkPut at hd
        split at hd
        · rename_i κ hκ
          split at hd
          · rename_i hl
            cases hd
            refine main _ e1 fun y H2 α2 Z2 k2 w2 g2 => ?_
            obtain ⟨Z3, a3, r3⟩ := prep k2 w2
            obtain ⟨v', e1', r1'⟩ := a3.e.slot i _ _ hr
            rw [e1] at e1'
            cases e1'
            obtain ⟨c', o2, xs', us', e', h0', s', rl', _⟩ := r1'.muE rfl
            subst e'
            cases s' with
            | @dk vkvs _ ek =>
              have hlen := congrArg List.length ek
              rw [List.length_map, List.length_map] at hlen
              obtain ⟨p1, p2⟩ := dk_put κ r3 ek rl'
              exact .inr ⟨_, _, rfl, .inl ⟨vkvs, κ, h0', keyOf_ok g2.rep hκ, by rw [hlen]; exact hl, rfl⟩, q _ _ ⟨α2, Z3, a3.write hr rfl e1 (.dk p1) p2⟩⟩
          · cases hd
        · cases hd
      · rename_i kvs hr
        obtain ⟨u, e1, r1⟩ := at_.e.slot i _ _ hr
        obtain ⟨d, hd, e⟩ := Option.map_eq_some_iff.mp h
        subst e
        unfold dtPut at hd
        split at hd
        · rename_i κ hκ
          split at hd
          · rename_i hl
            cases hd
            refine main _ e1 fun y H2 α2 Z2 k2 w2 g2 => ?_
            obtain ⟨Z3, a3, r3⟩ := prep k2 w2
            obtain ⟨v', e1', r1'⟩ := a3.e.slot i _ _ hr
            rw [e1] at e1'
            cases e1'
            obtain ⟨c', o2, xs', us', e', h0', s', rl', _⟩ := r1'.muE rfl
            subst e'
            cases s' with
            | @dt vkvs _ ek =>
              have hlen := congrArg List.length ek
              rw [List.length_map, List.length_map] at hlen
              obtain ⟨p1, p2⟩ := dk_put κ r3 ek rl'
              obtain ⟨b, eb, hb⟩ := tkOf_ok g2.rep hκ
              exact .inr ⟨_, _, rfl, .inr ⟨vkvs, κ, b, h0', eb, hb, by rw [hlen]; exact hl, rfl⟩, q _ _ ⟨α2, Z3, a3.write hr rfl e1 (.dt p1) p2⟩⟩
          · cases hd
        · cases hd
      · cases h
    · cases h
end

/-! ### slices -/
abbrev CO1 := Env → Store → Option (Option Int × Store)
def semO (K : PySem.W.Frag) (f : CO1) : TO := fun σ H Q => ∃ ρ S α Z r S', WOk K H S α Z ∧ EnvOk K α Z H ρ σ ∧ f ρ S = some (r, S') ∧ ∀ H' α' Z', Keep H α Z H' α' Z' → WOk K H' S' α' Z' → Q r H'
abbrev EO (X : Cx) (e : Option Expr) (f : CO1) : Prop := PO X e (semO X.K f)
theorem PO.cons {X : Cx} {e : Option Expr} {t t' : TO} (h : PO X e t) (i : ∀ σ H Q, t' σ H Q → t σ H Q) : PO X e t' := ⟨fun pins s σ H Q I q => h.run pins s σ H Q I (i σ H Q q)⟩
def oNone : CO1 := fun _ S => some (none, S)
def oSome (f : CE) : CO1 := fun ρ S => bnd (f ρ S) fun r S => match r.1 with
  | .int i => some (some i, S)
  | _ => none
def cutW {A : Type} (xs : List A) (lo hi : Option Int) : List A := (xs.drop (HT.sIx xs.length 0 lo)).take (HT.sIx xs.length xs.length hi - HT.sIx xs.length 0 lo)
def gSl (w : W) (lo hi : Option Int) : Option W := match w with
  | .tup us => some (.tup (cutW us lo hi))
  | .lst us => some (.lst (cutW us lo hi))
  | .str x => if x.length ≤ sizeLine then some (.str (cutS x lo hi)) else none
  | _ => none
def cSl (f : CE) (lo hi : CO1) : CE := fun ρ S => bnd (f ρ S) fun r S => bnd (lo ρ S) fun l S => bnd (hi ρ S) fun h S => (gSl r.1 l h).map fun c => ((c, .own), S)
section
variable {X : Cx} {e : Expr} {f : CE} {lo hi : Option Expr} {fl fh : CO1} {pos p2 : Pos}
theorem o_none : EO X none oNone := PO.cons po_none fun σ H Q ⟨ρ, S, α, Z, r, S', wo, en, h, q⟩ => by
  cases h
  exact q H α Z Keep.refl wo
theorem o_some (h : EE X e f) : EO X (some e) (oSome f) := PO.cons (po_some h) fun σ H Q ⟨ρ, S, α, Z, r, S', wo, en, h, q⟩ => by
  obtain ⟨r1, S1, h1, h⟩ := of_bnd h
  obtain ⟨w, m⟩ := r1
  cases w with
  | int i =>
    cases h
    exact ⟨ρ, S, α, Z, _, _, wo, en, h1, fun v H1 α1 Z1 k w g => ⟨i, g.rep.ofInt, q H1 α1 Z1 k w⟩⟩
  | _ => cases h
theorem cut_whole {A : Type} {xs : List A} {lo hi : Option Int} (h : HT.sIx xs.length 0 lo = 0 ∧ HT.sIx xs.length xs.length hi = xs.length) : cutW xs lo hi = xs := by
  unfold cutW
  rw [h.1, h.2, List.drop_zero, Nat.sub_zero, List.take_length]
theorem e_sl (h : EE X e f) (hl : EO X lo fl) (hu : EO X hi fh) : EE X (.Subscript e (.Slice lo hi none p2) pos) (cSl f fl fh) :=
  PE.cons (pe_slice (sl_tupA.or (sl_list.or sl_str)) h hl hu) fun σ H Q ⟨ρ, S, α, Z, r', S', wo, en, h, q⟩ => by
    obtain ⟨r, S1, h1, h⟩ := of_bnd h
    obtain ⟨l, S2, h2, h⟩ := of_bnd h
    obtain ⟨u, S3, h3, h⟩ := of_bnd h
    obtain ⟨c, hc, e⟩ := Option.map_eq_some_iff.mp h
    cases e
    refine ⟨ρ, S, α, Z, r, S1, wo, en, h1, fun v H1 α1 Z1 k1 w1 g1 => ⟨ρ, S1, α1, Z1, l, S2, w1, en.keep wo k1, h2, fun H2 α2 Z2 k2 w2 => ⟨ρ, S2, α2, Z2, u, _, w2, en.keep wo (k1.trans k2), h3, fun H3 α3 Z3 k3 w3 => ?_⟩⟩⟩
    have rp := g1.rep.keep w1 (k2.trans k3)
    have kk := (k1.trans k2).trans k3
    have cut : ∀ {xs : List V} {ws : List W}, RepL X.K α3 Z3 H3 xs ws → RepL X.K α3 Z3 H3 (cutV xs l u) (cutW ws l u) := fun {xs ws} r => by
      unfold cutV cutW
      rw [r.length]
      exact (r.drop _).take _
    obtain ⟨w, m⟩ := r
    have qq : ∀ v H', Keep H3 α3 Z3 H' α3 Z3 → WOk X.K H' S' α3 Z3 → Got X.K H3 α3 Z3 H' (c, .own) v → Q v H' := fun v H' k w g => q v H' α3 Z3 (kk.trans k) w (g.back kk.d)
    cases w with
    | tup us =>
      cases hc
      obtain ⟨a, xs, rfl, h0, rl⟩ := rp.ofTup
      refine .inl ⟨a, xs, rfl, .of h0, fun hw => ?_, fun _ => new_tup (m := .own) w3 (cut rl) qq⟩
      rw [rl.length] at hw
      rw [cut_whole hw] at qq
      exact qq _ _ Keep.refl w3 (Got.im (.tup h0 rl) rfl)
    | lst us =>
      cases hc
      obtain ⟨a, xs, rfl, h0, rl, _⟩ := rp.ofLst
      exact .inr (.inl ⟨a, xs, rfl, .of h0, new_list (m := .own) w3 (cut rl) qq⟩)
    | str x =>
      have hc : (if x.length ≤ sizeLine then some (W.str (cutS x l u)) else none) = some c := hc
      split at hc
      · rename_i hl
        cases hc
        exact .inr (.inr ⟨x, rp.ofStr, hl, qq _ _ Keep.refl w3 (Got.im (.str _) rfl)⟩)
      · cases hc
    | _ => cases hc
end

/-! ### isinstance(x, a built-in type) -/
def tyName : W → Option String
  | .non => some "NoneType"
  | .bl _ => some "bool"
  | .int _ => some "int"
  | .str _ => some "str"
  | .tup _ => some "tuple"
  | .lst _ => some "list"
  | .dk _ => some "dict"
  | .dt _ => some "dict"
  | _ => none
def gIsi : Store → List W → Option W := fun _ ws => match ws with
  | [w, .ty n] => (match tyName w with
    | some t => (kitB t n).map .bl
    | none => none)
  | _ => none
theorem RepM.ofTy {K : PySem.W.Frag} {α : List Addr} {Z : Addr → Prop} {H : Hp} {m : Md} {v : V} {n : String} (r : RepM K α Z H m v (.ty n)) : v = .ty n := by
  have r := r.repI rfl
  cases r with
  | ty => rfl
  | mu _ _ s _ => cases s
theorem tyX_of {K : PySem.W.Frag} {α : List Addr} {Z : Addr → Prop} {H : Hp} {m : Md} {v : V} {w : W} {t : String} (r : RepM K α Z H m v w) (h : tyName w = some t) : TyX K H v (.type t) := by
  cases w with
  | non => cases h; rw [r.ofNon]; exact .base .non
  | bl b => cases h; rw [r.ofBl]; exact .base (.bl b)
  | int b => cases h; rw [r.ofInt]; exact .base (.int b)
  | str b => cases h; rw [r.ofStr]; exact .base (.str b)
  | tup us => cases h; obtain ⟨a, xs, rfl, h0, rl⟩ := r.ofTup; exact .base (.tup h0)
  | lst us => cases h; obtain ⟨a, xs, rfl, h0, rl, _⟩ := r.ofLst; exact .base (.lst h0)
  | dk us =>
    cases h
    obtain ⟨a, o, xs, ws, rfl, h0, s, _⟩ := r.muE rfl
    cases s
    exact .base (.dK h0)
  | dt us =>
    cases h
    obtain ⟨a, o, xs, ws, rfl, h0, s, _⟩ := r.muE rfl
    cases s
    exact .base (.dT h0)
  | _ => cases h
theorem co_isi {K : PySem.W.Frag} : CO K (rIsi K) gIsi := by
  intro α Z H S vs ws c wo p hg Q q
  unfold gIsi at hg
  split at hg
  · rename_i w n
    split at hg
    · rename_i t ht
      obtain ⟨b, hb, rfl⟩ := Option.map_eq_some_iff.mp hg
      obtain ⟨v, u, rfl, r1, r2⟩ := two_of p
      rw [r2.ofTy]
      exact ⟨v, .ty n, .type t, .type n, b, rfl, .ty n, tyX_of r1 ht, kit_ty hb, q _ _ Keep.refl wo (Got.im (.bl b) rfl)⟩
    · cases hg
  · cases hg
section
variable {X : Cx} {a b e : Expr} {es : List Expr} {fa fb fe : CE} {fs : CA} {pos p : Pos} {x : Str}
theorem e_tyN {n : String} (hm : X.mg x = none) (hv : bootBuiltins x = some (.type n)) (hg : Gl X x := by rfl) (hn : x ≠ "__name__" := by decide) (hd : (x == ("__debug__" : Str)) = false := by decide) : EE X (.Name x pos) (cLit (.ty n)) :=
  e_c (pe_bltn (v := .ty n) hg hm hv rfl hn hd) (fun _ _ _ => .ty n) rfl
theorem e_isi (hm : X.mg "isinstance" = none) (h : EE X e fe) (h2 : EE X b fb) (hg : Gl X "isinstance" := by rfl) (hs : starEach (e :: [b]) X.env = (false, eval e X.env) :: starEach [b] X.env := by rfl) (hs2 : starEach [b] X.env = (false, eval b X.env) :: starEach [] X.env := by rfl)
    (hpl : (backTo pos (starEach [b] X.env)).any (·.1) = false := by rfl) : EE X (.Call (.Name "isinstance" p) [e, b] [] pos) (cBi gIsi (cCons fe (cCons fb cNil))) :=
  e_bi call_isi co_isi hm (a_cons h (a_cons h2 a_nil hs2) hs) (by decide +kernel) hg (by decide) (by decide) hs hpl

/-! ### sorted(d), d a dict with ints as keys -/
def intKeys : List Key → Option (List Int)
  | [] => some []
  | .inl i :: ks => (intKeys ks).map (i :: ·)
  | .inr _ :: _ => none
theorem intKeys_ok : ∀ {ks : List Key} {is : List Int}, intKeys ks = some is → ks = is.map Sum.inl
  | [], _, h => by cases h; rfl
  | .inl i :: ks, _, h => by
    obtain ⟨js, h1, rfl⟩ := Option.map_eq_some_iff.mp h
    rw [intKeys_ok h1]; rfl
  | .inr _ :: _, _, h => by cases h
def sortI (is : List Int) : List Int := is.mergeSort fun a b => decide (a ≤ b)
theorem sortI_perm (is : List Int) : (sortI is).Perm is := List.mergeSort_perm _ _
theorem sortI_sorted (is : List Int) : (sortI is).Pairwise (· ≤ ·) := by
  have h := List.pairwise_mergeSort (le := fun a b : Int => decide (a ≤ b)) (fun a b c h1 h2 => by simp at *; omega) (fun a b => by simp; omega) is
  exact h.imp fun h => by simpa using h
def gSortD : Store → List W → Option W := fun _ ws => match ws with
  | [.dk kvs] => (match intKeys (kvs.map (·.1)) with
    | some is => if is.length < 64 then some (.lst ((sortI is).map .int)) else none
    | none => none)
  | _ => none
theorem co_sortD {K : PySem.W.Frag} : CO K (fun xs H Q => ∃ (a : Addr) (kvs : List (Key × V)) (ks : List Int), xs = [V.ref a] ∧ Rd H a (.dK kvs) ∧ kvs.map (·.1) = ks.map Sum.inl ∧ ks.length < 64 ∧
    ∀ (ys : List Int) (p : Addr), ys.Perm ks → ys.Pairwise (· ≤ ·) → H p = none → Q (.ref p) (upd H p (.lst (ys.map V.int)))) gSortD := by
  intro α Z H S vs ws c wo p hg Q q
  unfold gSortD at hg
  split at hg
  · rename_i kvs
    split at hg
    · rename_i is his
      split at hg
      · rename_i h64
        cases hg
        obtain ⟨v, rfl, r⟩ := one_of p
        obtain ⟨a, o, xs, ws, rfl, h0, s, rl, _⟩ := r.muE rfl
        cases s with
        | @dk vkvs _ e =>
          refine ⟨a, vkvs, is, rfl, .inl h0, by rw [e]; exact intKeys_ok his, h64, fun ys p hp hs hn => ?_⟩
          have e2 : ys = sortI is := PySem.W.ksm_same (hp.trans (sortI_perm is).symm) hs (sortI_sorted is)
          subst e2
          exact new_list (m := .own) wo RepL.ints q p hn
      · cases hg
    · cases hg
  · cases hg
theorem e_sortD (hc : X.calm = true) (hm : X.mg "sorted" = none) (h : EE X e fe) (hg : Gl X "sorted" := by rfl) (hs : starEach [e] X.env = (false, eval e X.env) :: starEach [] X.env := by rfl) : EE X (.Call (.Name "sorted" p) [e] [] pos) (cBi gSortD (cCons fe cNil)) :=
  e_bi (call_sortedDI hc) co_sortD hm (a_cons h a_nil hs) (by decide +kernel) hg (by decide) (by decide) hs
end

/-! ### enumerate(tuple) -/
set_option maxHeartbeats 1000000 in
theorem meets_enumOne {val : Value} {itO : Obj} {Hs : Heap → Prop} (Bg : Begins val itO Hs) :
    Meets (Builtin.«enumerate.__new__» ⟨[.type "enumerate", val], []⟩) (fun _ R st => Hs st.heap ∧
      R (.ok (.ret (.ref (st.heap.push itO).objs.size))) { st with heap := (st.heap.push itO).push { cls := .type "enumerate", data := .fields #[.none, .bool false, .ref st.heap.objs.size, rawInt 0, .none, .none] } }) :=
  .of_wp fun prog w A R st hyp => by
    obtain ⟨hp, g, d, tk, os⟩ := st
    obtain ⟨hb1, hb2⟩ := hyp
    have hsub := sub_enumerate
    have begin_ : ∀ {A' : Around} {E : Value → Shared → Prop} {Q : Value → Shared → Prop}, Q (.ref hp.objs.size) ⟨hp.push itO, g, d, tk, os⟩ → wpAny (model prog w) A' (pyIter val) Q E ⟨hp, g, d, tk, os⟩ :=
      fun k => Bg.iter prog w _ _ ⟨hp, g, d, tk, os⟩ _ hb1 k
    wp_walk using begin_
    refine wpAny_stack_any fun stk => wpAny_pure ?_
    split
    · rename_i cc _ _ _ _ _
      cases (cc == Value.type "enumerate")
      · wp_walk using begin_
        exact ⟨_, rfl, hb2⟩
      · wp_walk using begin_
        exact ⟨_, rfl, hb2⟩
    · wp_walk using begin_
      exact ⟨_, rfl, hb2⟩
theorem enumOne_begins {prog : Program} {w : World} {A : Around} {E : Value → Shared → Prop} {s : Shared} {val : Value} {itO : Obj} {Hs : Heap → Prop} {Q : Value → Shared → Prop} (Bg : Begins val itO Hs) (h1 : Hs s.heap)
    (h : ∀ h', IsEnum h' (s.heap.objs.size + 1) s.heap.objs.size 0 .none → h'.get? s.heap.objs.size = some itO → h'.objs.size = s.heap.objs.size + 2 →
      (∀ b o, s.heap.get? b = some o → h'.get? b = some o) → Q (.ref (s.heap.objs.size + 1)) { s with heap := h' }) :
    wpAny (model prog w) A (call (.type "enumerate") [val]) Q E s := by
  refine callType_new F.called_enumerate (by decide) (F.typeCall_enumerate_1 _) (F.newCall_enumerate_1 _) (fun obj => F.args_object_init_2 obj _) F.entry_enumerate_new (meets_enumOne Bg) ⟨h1, ?_⟩
  have hz : (s.heap.push itO).objs.size = s.heap.objs.size + 1 := Heap.size_push ..
  show _ ∧ _
  rw [hz]
  have he : IsEnum ((s.heap.push itO).push { cls := .type "enumerate", data := .fields #[.none, .bool false, .ref s.heap.objs.size, rawInt 0, .none, .none] }) (s.heap.objs.size + 1) s.heap.objs.size 0 .none := by
    have q := Heap.get?_push_size (s.heap.push itO) (o := { cls := .type "enumerate", data := .fields #[.none, .bool false, .ref s.heap.objs.size, rawInt 0, .none, .none] }) rfl
    rw [hz] at q; exact q
  exact ⟨⟨_, he, rfl⟩, h _ he (Heap.get?_push_of_some _ (Heap.get?_push_size _ Bg.free)) (by rw [Heap.size_push, hz]) fun b o x => Heap.get?_push_of_some _ (Heap.get?_push_of_some _ x)⟩
/-- the tuple at a, each item in a new pair -/
def IteT (K : PySem.W.Frag) (a : Addr) : It :=
  ⟨fun i H => ∃ (xs : List V) (x : V), SqT K H a xs ∧ xs[i]? = some x, fun i H v H' => ∃ T x, v = .ref T ∧ H T = none ∧ H' = upd H T (.tup [.int (i : Nat), x]) ∧ ∀ xs, SqT K H a xs → xs[i]? = some x, fun i H => ∃ xs : List V, SqT K H a xs ∧ i = xs.length⟩
theorem turn_enumT {P : Program} {w : World} {K : PySem.W.Frag} {elts : List Expr} {kk : Nat} {tpos : Pos} (a en it : Addr) :
    Turn P w K (.Tuple elts kk tpos) (IteT K a) [en, it] en (fun i h => (∃ old, IsEnum h en it ((i : Nat) : Int) old) ∧ h.IsTupleIter it a i ∧ en ≠ it ∧ a ≠ it ∧ a ≠ en) where
  mem := by simp
  obj := fun i h st b hb => by
    obtain ⟨⟨old, hen⟩, ⟨ob, hob, hcls, hdat⟩, _⟩ := st
    rcases (show b = en ∨ b = it by simpa using hb) with rfl | rfl
    · exact ⟨_, hen, fun v q => nomatch q⟩
    · exact ⟨ob, hob, fun v q => by rw [hdat] at q; cases q⟩
  keep := fun i h h' st k => by
    obtain ⟨⟨old, hen⟩, hi, r⟩ := st
    exact ⟨⟨old, k en (by simp) _ hen⟩, hi.at fun o q => k it (by simp) o q, r⟩
  item := by
    intro X hP hw hK hc i pins s σ H E I hf st hg
    subst hP hw hK
    obtain ⟨⟨old, hen⟩, hti, hne, hai, hae⟩ := st
    obtain ⟨xs, x, hq, hx⟩ := hg
    obtain ⟨its, rv, tp, hz⟩ := I.tuple hq
    have lt1 : en < s.heap.objs.size := Heap.lt_size hen
    have lt2 : it < s.heap.objs.size := by obtain ⟨_, q, _⟩ := hti; exact Heap.lt_size q
    have D := Draws.tuple (prog := X.prog) (w := X.w) (A := X.A.in1) (I.ok.hd hc) it a hai its.toArray
    have hlen : i < its.toArray.size := by
      obtain ⟨hlt, _⟩ := List.getElem?_eq_some_iff.mp hx
      rw [List.size_toArray, ← rv.length]; exact hlt
    refine wpAny_pyNext_enum_itemC D hen ⟨hti, tp⟩ hlen hne (by simp only [List.mem_cons, List.not_mem_nil, or_false, not_or]; exact ⟨hne, hae.symm⟩) fun u h' tk hu hout hst' hT hsz hk => ?_
    have hu : its[i]? = some u := by simpa using hu
    obtain ⟨u', hu', ru⟩ := rv.get hx
    rw [hu] at hu'
    cases hu'
    refine ⟨_, rfl, wpAny_letOwnedTupleGo_enum (s := { s with heap := h', toks := tk + 1 }) hout fun h2 he2 sb => ?_⟩
    have hT2 : h2.get? s.heap.objs.size = some { cls := .type "tuple", data := .seq #[.int i tk, u] } := (sb.2 _ (Nat.ne_of_gt lt1)).trans hT
    have new : ObjOk X.prog X.w (upd H s.heap.objs.size (.tup [.int (i : Nat), x])) h2 s.heap.objs.size (.tup [.int (i : Nat), x]) :=
      ⟨by show 2 ≤ sizeLine; decide, [.int i tk, u], .cons ⟨_, rfl⟩ (.cons ru .nil), ⟨_, hT2, rfl, _, rfl⟩⟩
    have I2 := I.turnedNew (t' := tk + 1) (ch := [en, it]) (fun b ob hb q => (sb.2 b (fun z => hb (by simp [z]))).trans (hk b ob (fun z => hb (by simp [z])) (fun z => hb (by simp [z])) q)) hf (Nat.le_refl _) new
    refine ⟨.ref s.heap.objs.size, _, I2, rfl, ⟨_, x, rfl, I.hok.fresh (Nat.le_refl _), rfl, fun ys hy => by rw [I.tuple_inj hy hq]; exact hx⟩, ⟨⟨u, ?_⟩, hst'.1.at fun o q => (sb.2 it (Ne.symm hne)).trans q, hne, hai, hae⟩, fun b hb => ?_⟩
    · have e1 : ((i + 1 : Nat) : Int) = (i : Int) + 1 := by omega
      rw [e1]; exact he2
    · have hlt : b < s.heap.objs.size := by
        rcases (show b = en ∨ b = it by simpa using hb) with rfl | rfl
        · exact lt1
        · exact lt2
      rw [upd_ne (Nat.ne_of_lt hlt)]
      exact (hf b hb).1
  done := by
    intro X hP hw hK hc i pins s σ H E I hf st hg
    subst hP hw hK
    obtain ⟨⟨old, hen⟩, hti, hne, hai, hae⟩ := st
    obtain ⟨xs, hq, hx⟩ := hg
    obtain ⟨its, rv, tp, hz⟩ := I.tuple hq
    obtain ⟨f0, f1, f2, f3, f4, f5⟩ := hf it (by simp)
    have D := Draws.tuple (prog := X.prog) (w := X.w) (A := X.A.in1) (I.ok.hd hc) it a hai its.toArray
    have hi : i = its.toArray.size := by rw [hx, List.size_toArray, ← rv.length]
    exact wpAny_pyNext_enum_endD D hen ⟨by rw [← hi]; exact hti, tp⟩ fun h' eb => ⟨rfl, I.turned (t' := s.toks) (fun b o hb q => eb b o hb q) f0 f1 f3 f4 f5⟩
  self := fun A i s Q E st h => let ⟨⟨_, hen⟩, _⟩ := st; wpAny_pyIter_enum hen h
def iEnumA (K : PySem.W.Frag) (ta : TA) : TI := fun σ H R => ta σ H fun vs H1 => ∃ a xs, vs = [V.ref a] ∧ SqT K H1 a xs ∧ R (IteT K a) H1
theorem pi_enumT {X : Cx} {e : Expr} {ta : TA} {p pos tpos : Pos} {elts : List Expr} {kk : Nat} (hg : Gl X "enumerate") (hm : X.mg "enumerate" = none) (ha : PA X [e] ta) (hs : starEach [e] X.env = [(false, eval e X.env)]) :
    PI X (.Tuple elts kk tpos) (.Call (.Name "enumerate" p) [e] [] pos) (iEnumA X.K ta) := by
  refine ⟨fun pins s σ H R I h => ?_⟩
  refine Call_ (ld_blt I hg hm boot_enumerate (PyProof.Rows.callWith_type1 (thn (ha.run pos pins s σ H _ I h) fun us s1 ⟨vs, H1, I1, rs, hh⟩ => ?_) hs rfl))
  obtain ⟨a, xs, ex, hq, q⟩ := hh
  subst ex
  cases rs with
  | cons r rr =>
    cases rr
    cases r
    obtain ⟨its, rv, tp, hz⟩ := I1.tuple hq
    have hlt : a < s1.heap.objs.size := tp.lt
    refine enumOne_begins (begins_tuple a its.toArray) tp fun h' hen hit hsz hk => wpAny_pyIter_enum hen ?_
    have I2 : Inv X pins σ H1 { s1 with heap := h' } := I1.kept (t' := s1.toks) hk
    refine ⟨s1.heap.objs.size + 1, [s1.heap.objs.size + 1, s1.heap.objs.size], _, _, H1, rfl, I2, turn_enumT a (s1.heap.objs.size + 1) s1.heap.objs.size, ⟨⟨.none, hen⟩, ⟨_, hit, rfl, rfl⟩, Nat.succ_ne_self _, Nat.ne_of_lt hlt, Nat.ne_of_lt (Nat.lt_succ_of_lt hlt)⟩, fun b hb => ?_, q⟩
    have hle : s1.heap.objs.size ≤ b := by
      rcases (show b = s1.heap.objs.size + 1 ∨ b = s1.heap.objs.size by simpa using hb) with rfl | rfl
      · exact Nat.le_succ _
      · exact Nat.le_refl _
    exact I1.fpOk hle (I1.hok.fresh hle)
def enumW (ws : List W) : List W := ws.zipIdx.map fun p => .tup [.int (p.2 : Nat), p.1]
theorem enumW_get (ws : List W) (i : Nat) : (enumW ws)[i]? = (ws[i]?).map fun w => .tup [.int (i : Nat), w] := by
  unfold enumW
  rw [List.getElem?_map, List.getElem?_zipIdx]
  cases ws[i]? with
  | none => rfl
  | some w => simp
theorem enumW_len (ws : List W) : (enumW ws).length = ws.length := by
  unfold enumW
  rw [List.length_map, List.length_zipIdx]
section
variable {X : Cx} {K : PySem.W.Frag} {α : List Addr} {Z : Addr → Prop} {H : Hp} {S : Store} {ρ : Env} {σ : L2.St} {a : Addr} {xs : List V} {ws : List W} {elts : List Expr} {kk : Nat} {tpos p pos : Pos} {e : Expr}
theorem pair_new {H2 : Hp} {α2 : List Addr} {Z2 : Addr → Prop} {S2 : Store} {i : Nat} {T : Addr} {x : V} {w : W} (w2 : WOk K H2 S2 α2 Z2) (hT : H2 T = none) (r : Rep K α2 Z2 H2 x w) : Rep K α2 Z2 (upd H2 T (.tup [.int (i : Nat), x])) (.ref T) (.tup [.int (i : Nat), w]) :=
  .tup upd_same (.cons (.int _) (.cons (r.keep w2 (Keep.new hT)) .nil))
theorem walks_enum (w : WOk K H S α Z) (en : EnvOk K α Z H ρ σ) (h : H a = some (.lst xs)) (hn : a ∉ α) (no : ¬ OwnRoot ρ σ a) (r : RepL K α Z H xs ws) : Walks K (Ite K a) (enumW ws) (hide ρ σ H) α Z := by
  intro H2 α2 Z2 S2 k w2 i
  have h2 : H2 a = some (.lst xs) := k.h _ _ (hide_some h no) hn
  have r2 : RepL K α2 Z2 H2 xs ws := (en.hideL r).keep (en.hideW w) k
  rw [enumW_get, enumW_len]
  refine ⟨fun u hu => ?_, fun hu => ⟨xs, .of h2, by rw [r2.length, hu]; exact Nat.le_refl _⟩⟩
  obtain ⟨w0, hw0, rfl⟩ := Option.map_eq_some_iff.mp hu
  obtain ⟨v, hv, rv⟩ := r2.get hw0
  refine ⟨⟨xs, v, .of h2, hv⟩, fun x H' y => ?_⟩
  obtain ⟨T, x', rfl, hT, rfl, y⟩ := y
  have q := y xs (.of h2)
  rw [hv] at q
  cases q
  exact ⟨.inr ⟨T, _, hT, rfl⟩, pair_new w2 hT rv⟩
theorem walks_enumT (w : WOk K H S α Z) (en : EnvOk K α Z H ρ σ) (h : H a = some (.tup xs)) (r : RepL K α Z H xs ws) : Walks K (IteT K a) (enumW ws) (hide ρ σ H) α Z := by
  intro H2 α2 Z2 S2 k w2 i
  have hh : hide ρ σ H a = some (.tup xs) := hide_some h fun q => by
    obtain ⟨o, w, xs', ws', h0, s, _⟩ := en.root q
    rw [h] at h0; cases h0; exact s.ntup _ rfl
  have h2 : H2 a = some (.tup xs) := k.tup (fun _ h => (en.hideW w).cell h) hh
  have r2 : RepL K α2 Z2 H2 xs ws := (en.hideL r).keep (en.hideW w) k
  rw [enumW_get, enumW_len]
  refine ⟨fun u hu => ?_, fun hu => ⟨xs, .of h2, by rw [r2.length, hu]⟩⟩
  obtain ⟨w0, hw0, rfl⟩ := Option.map_eq_some_iff.mp hu
  obtain ⟨v, hv, rv⟩ := r2.get hw0
  refine ⟨⟨xs, v, .of h2, hv⟩, fun x H' y => ?_⟩
  obtain ⟨T, x', rfl, hT, rfl, y⟩ := y
  have q := y xs (.of h2)
  rw [hv] at q
  cases q
  exact ⟨.inr ⟨T, _, hT, rfl⟩, pair_new w2 hT rv⟩
/-- for k, x in enumerate(name) -/
def iEnV (i : Nat) : CI := fun ρ S => bnd (iVar i ρ S) fun ws S => some (enumW ws, S)
theorem i_enumV (i : Nat) {x : Str} {p1 : Pos} (hm : X.mg "enumerate" = none) (hg : Gl X "enumerate" := by rfl) (hN : X.N[i]? = some x := by rfl) (hv : Vis X.env.scope x := by first | exact Or.inl rfl | exact Or.inr (Or.inl rfl) | exact Or.inr (Or.inr rfl)) (hd : (x == ("__debug__" : Str)) = false := by decide)
    (hcd : (x == ("__classdict__" : Str)) = false := by decide) (hs : starEach [.Name x p1] X.env = [(false, eval (.Name x p1) X.env)] := by rfl) (hs2 : starEach (Expr.Name x p1 :: []) X.env = (false, eval (.Name x p1) X.env) :: starEach [] X.env := by rfl) :
    EI X (.Tuple elts kk tpos) (.Call (.Name "enumerate" p) [.Name x p1] [] pos) (iEnV i) :=
  PI.cons (PI.or (pi_enum hg hm (pa_cons (pe_var hN hv hd hcd) pa_nil hs2) hs) (pi_enumT hg hm (pa_cons (pe_var hN hv hd hcd) pa_nil hs2) hs)) fun σ H R ⟨ρ, S, α, Z, ws, S', wo, en, h, q⟩ => by
    obtain ⟨ws0, S1, h, h9⟩ := of_bnd h
    cases h9
    unfold iVar at h
    split at h
    · rename_i w m hr
      split at h
      · cases h
      · rename_i hno
        obtain ⟨ws', hw, e⟩ := Option.map_eq_some_iff.mp h
        cases e
        obtain ⟨v, e1, r1⟩ := en.slot i w m hr
        cases w with
        | tup us =>
          cases hw
          obtain ⟨a, xs, rfl, h0, rl⟩ := r1.ofTup
          exact .inr ⟨_, e1, a, xs, rfl, .of h0, q _ _ _ _ Keep.refl wo (walks_enumT wo en h0 rl)⟩
        | lst us =>
          cases hw
          obtain ⟨a, xs, rfl, h0, rl, hn, c1, c2⟩ := r1.ofLst
          refine .inl ⟨_, e1, a, xs, rfl, .of h0, q _ _ _ _ Keep.refl wo (walks_enum wo en h0 hn (fun ro => ?_) rl)⟩
          obtain ⟨j, w', g1, g2, g3⟩ := ro
          by_cases hij : j = i
          · subst hij
            rw [hr] at g1
            cases g1
            exact hno ⟨rfl, rfl⟩
          · exact en.sep j i w' _ m hij g1 g2 hr rfl (g3.trans e1.symm)
        | _ => cases hw
    · cases h
end
end Mp
/-! reckoning with the evaluator's functions -/
namespace Mp
open PySem PySem.Spec PyProof.Rows L2

/-! ### values -/
section
variable (b : Bool) (i : Int) (x : Str) (ws : List W) (kvs : List (Key × W)) (tvs : List (List Key × W)) (ns : List Int) (n : Nat) (m : Md) (t : String)
@[simp] theorem mut_non : W.mut .non = false := rfl
@[simp] theorem mut_bl : W.mut (.bl b) = false := rfl
@[simp] theorem mut_int : W.mut (.int i) = false := rfl
@[simp] theorem mut_str : W.mut (.str x) = false := rfl
@[simp] theorem mut_tup : W.mut (.tup ws) = false := rfl
@[simp] theorem mut_lst : W.mut (.lst ws) = true := rfl
@[simp] theorem mut_dk : W.mut (.dk kvs) = true := rfl
@[simp] theorem mut_dt : W.mut (.dt tvs) = true := rfl
@[simp] theorem mut_scr : W.mut (.scr ns) = false := rfl
@[simp] theorem mut_cel : W.mut (.cel n) = false := rfl
@[simp] theorem sto_non : sto (.non, m) = true := rfl
@[simp] theorem sto_bl : sto (.bl b, m) = true := rfl
@[simp] theorem sto_int : sto (.int i, m) = true := rfl
@[simp] theorem sto_str : sto (.str x, m) = true := rfl
@[simp] theorem sto_tup : sto (.tup ws, m) = true := rfl
@[simp] theorem sto_scr : sto (.scr ns, m) = true := rfl
@[simp] theorem sto_cel : sto (.cel n, m) = true := rfl
@[simp] theorem sto_own (w : W) : sto (w, .own) = true := by unfold sto; simp
@[simp] theorem sto_frz (w : W) : sto (w, .frz) = true := by unfold sto; simp
theorem sto_im {w : W} (h : w.mut = false) : sto (w, m) = true := by unfold sto; simp [h]
@[simp] theorem md_non : md (.non, m) = (.non, .frz) := rfl
@[simp] theorem md_bl : md (.bl b, m) = (.bl b, .frz) := rfl
@[simp] theorem md_int : md (.int i, m) = (.int i, .frz) := rfl
@[simp] theorem md_str : md (.str x, m) = (.str x, .frz) := rfl
@[simp] theorem md_tup : md (.tup ws, m) = (.tup ws, .frz) := rfl
@[simp] theorem md_lst : md (.lst ws, m) = (.lst ws, m) := rfl
@[simp] theorem md_dk : md (.dk kvs, m) = (.dk kvs, m) := rfl
@[simp] theorem md_dt : md (.dt tvs, m) = (.dt tvs, m) := rfl
@[simp] theorem md_scr : md (.scr ns, m) = (.scr ns, .frz) := rfl
@[simp] theorem md_cel : md (.cel n, m) = (.cel n, .frz) := rfl
theorem md_im {w : W} (h : w.mut = false) : md (w, m) = (w, .frz) := by unfold md; simp [h]
end

/-! ### the combinators' equations -/
section
variable (ρ : Env) (S : Store)
@[simp] theorem q_lit (w : W) : cLit w ρ S = some ((w, .frz), S) := rfl
@[simp] theorem q_nil : cNil ρ S = some ([], S) := rfl
@[simp] theorem q_cons (f : CE) (g : CA) : cCons f g ρ S = bnd (f ρ S) fun r S => bnd (g ρ S) fun rs S => some (r :: rs, S) := rfl
theorem q_var (i : Nat) : cVar i ρ S = match ρ[i]? with
  | some (some (w, m)) => some ((w, if m = .own then .brw else m), S)
  | _ => none := rfl
@[simp] theorem q_bin (g : W → W → Option W) (fa fb : CE) : cBin g fa fb ρ S = bnd (fa ρ S) fun a S => bnd (fb ρ S) fun b S => (g a.1 b.1).map fun c => ((c, .own), S) := rfl
@[simp] theorem q_tup (f : CA) : cTup f ρ S = bnd (f ρ S) fun rs S => if rs.all sto = true ∧ rs.length ≤ sizeLine then some ((.tup (rs.map (·.1)), .own), S) else none := rfl
@[simp] theorem q_lst (f : CA) : cLst f ρ S = bnd (f ρ S) fun rs S => if rs.all sto = true ∧ rs.length ≤ sizeLine then some ((.lst (rs.map (·.1)), .own), S) else none := rfl
@[simp] theorem q_box (f : CA) : cBox f ρ S = bnd (f ρ S) fun rs S => if rs.all sto = true ∧ rs.length ≤ sizeLine then some ((.cel S.length, .own), S ++ [rs.map (·.1)]) else none := rfl
@[simp] theorem q_neg (f : CE) : cNeg f ρ S = bnd (f ρ S) fun r S => match r.1 with | .int i => some ((.int (-i), .own), S) | _ => none := rfl
@[simp] theorem q_notT (f : CT) : cNotT f ρ S = bnd (f ρ S) fun b S => some (!b, S) := rfl
@[simp] theorem q_andT (f g : CT) : cAndT f g ρ S = bnd (f ρ S) fun b S => if b = true then g ρ S else some (false, S) := rfl
@[simp] theorem q_orT (f g : CT) : cOrT f g ρ S = bnd (f ρ S) fun b S => if b = true then some (true, S) else g ρ S := rfl
@[simp] theorem q_notV (f : CE) : cNotV f ρ S = bnd (f ρ S) fun r S => match r.1 with | .bl b => some ((.bl (!b), .own), S) | _ => none := rfl
@[simp] theorem q_andV (f g : CE) : cAndV f g ρ S = bnd (f ρ S) fun r S => match r.1 with | .bl b => if b = true then g ρ S else some ((.bl false, .own), S) | _ => none := rfl
@[simp] theorem q_orV (f g : CE) : cOrV f g ρ S = bnd (f ρ S) fun r S => match r.1 with | .bl b => if b = true then some ((.bl true, .own), S) else g ρ S | _ => none := rfl
@[simp] theorem q_if (c : CT) (f g : CE) : cIf c f g ρ S = bnd (c ρ S) fun b S => if b = true then f ρ S else g ρ S := rfl
@[simp] theorem q_B (f : CE) : cB f ρ S = bnd (f ρ S) fun r S => match r.1 with | .bl b => some (b, S) | _ => none := rfl
@[simp] theorem q_ix (fa fb : CE) : cIx fa fb ρ S = bnd (fa ρ S) fun a S => bnd (fb ρ S) fun b S => (gIx S a.1 b.1).map fun c => ((c, .frz), S) := rfl
@[simp] theorem q_call (m : FnSem) (fs : CA) : cCall m fs ρ S = bnd (fs ρ S) fun rs S => m (rs.map (·.1)) S := rfl
@[simp] theorem q_bi (g : Store → List W → Option W) (fs : CA) : cBi g fs ρ S = bnd (fs ρ S) fun rs S => (g S (rs.map (·.1))).map fun c => ((c, .own), S) := rfl
@[simp] theorem q_sl (f : CE) (lo hi : CO1) : cSl f lo hi ρ S = bnd (f ρ S) fun r S => bnd (lo ρ S) fun l S => bnd (hi ρ S) fun h S => (gSl r.1 l h).map fun c => ((c, .own), S) := rfl
@[simp] theorem q_oNone : oNone ρ S = some (none, S) := rfl
@[simp] theorem q_oSome (f : CE) : oSome f ρ S = bnd (f ρ S) fun r S => match r.1 with | .int i => some (some i, S) | _ => none := rfl
@[simp] theorem q_dk : cDk ρ S = some ((.dk [], .own), S) := rfl
@[simp] theorem q_dt : cDt ρ S = some ((.dt [], .own), S) := rfl
@[simp] theorem q_yesT : tYesT ρ S = some (true, S) := rfl
@[simp] theorem q_get2 (fd fk fx : CE) : cGet2 fd fk fx ρ S = bnd (fd ρ S) fun d S => bnd (fk ρ S) fun k S => bnd (fx ρ S) fun x S => match dicAt d.1 k.1 with
  | some (some w) => some ((w, .frz), S)
  | some none => some (x, S)
  | none => none := rfl
@[simp] theorem q_lc (t : CG) (it : CI) (c : CT) (f : CE) (vs : List Nat) : cLc t it c f vs ρ S = bnd (it ρ S) fun ws S => if ws.length ≤ sizeLine then bnd (lcL t c f (wipeE ρ vs) ws S) fun rs S => some ((.lst rs, .own), S) else none := rfl
@[simp] theorem q_iExp (f : CE) : iExp f ρ S = bnd (f ρ S) fun r S => if sto r = true then (itemsOf r.1).map fun ws => (ws, S) else none := rfl
theorem q_iVar (i : Nat) : iVar i ρ S = match ρ[i]? with
  | some (some (w, m)) => if w.mut = true ∧ m = .own then none else (itemsOf w).map fun ws => (ws, S)
  | _ => none := rfl
@[simp] theorem q_iEnV (i : Nat) : iEnV i ρ S = bnd (iVar i ρ S) fun ws S => some (enumW ws, S) := rfl
@[simp] theorem q_range1 (f : CE) : iRange1 f ρ S = bnd (f ρ S) fun r S => match r.1 with
  | .int j => if j.natAbs < 1073741824 then some (rangeW 0 j.toNat, S) else none
  | _ => none := rfl
@[simp] theorem q_range2 (f g : CE) : iRange2 f g ρ S = bnd (f ρ S) fun a S => bnd (g ρ S) fun b S => match a.1, b.1 with
  | .int i, .int j => if i.natAbs < 1073741824 ∧ j.natAbs < 1073741824 then some (rangeW i (j - i).toNat, S) else none
  | _, _ => none := rfl
@[simp] theorem items_tup (ws : List W) : itemsOf (.tup ws) = some ws := rfl
@[simp] theorem items_lst (ws : List W) : itemsOf (.lst ws) = some ws := rfl
-- statements
theorem q_seq (f g : CS) : cSeq f g ρ S = match f ρ S with
  | some (.nx ρ' S') => g ρ' S'
  | o => o := rfl
@[simp] theorem q_skip : cSkip ρ S = some (.nx ρ S) := rfl
@[simp] theorem q_ret (f : CE) : cRet f ρ S = bnd (f ρ S) fun r S => if sto r = true then some (.rt r S) else none := rfl
theorem q_retV (i : Nat) : cRetV i ρ S = match ρ[i]? with
  | some (some r) => if sto r = true then some (.rt r S) else none
  | _ => none := rfl
@[simp] theorem q_ifS (t : CT) (f g : CS) : cIfS t f g ρ S = bnd (t ρ S) fun b S => if b = true then f ρ S else g ρ S := rfl
@[simp] theorem q_asg (t : CG) (f : CE) : cAsg t f ρ S = bnd (f ρ S) fun r S => (t r ρ).map fun ρ' => .nx ρ' S := rfl
@[simp] theorem q_drop (f : CE) : cDrop f ρ S = bnd (f ρ S) fun _ S => some (.nx ρ S) := rfl
@[simp] theorem q_for (t : CG) (it : CI) (b : CS) : cFor t it b ρ S = bnd (it ρ S) fun ws S => cForL t b ws ρ S := rfl
@[simp] theorem q_tName (i : Nat) (r : Wm) : tName i r ρ = if sto r = true then some (ρ.set i (some (md r))) else none := rfl
@[simp] theorem q_tTup (n : Nat) (t : List W → Env → Option Env) (ws : List W) (m : Md) : tTup n t (.tup ws, m) ρ = if ws.length = n then t ws ρ else none := rfl
@[simp] theorem q_tCons (t : CG) (u : List W → Env → Option Env) (w : W) (ws : List W) : tCons t u (w :: ws) ρ = (t (w, .frz) ρ).bind (u ws) := rfl
@[simp] theorem q_tNil : tNil [] ρ = some ρ := rfl
@[simp] theorem q_fz (is : List Nat) (f : CS) : cFz is f ρ S = f (is.foldl frzE ρ) S := rfl
theorem q_frzE (i : Nat) : frzE ρ i = match ρ[i]? with
  | some (some (w, .own)) => ρ.set i (some (w, .frz))
  | _ => ρ := rfl
theorem q_app (i : Nat) (f : CE) : cApp i f ρ S = bnd (f ρ S) fun r S => if sto r = true then (match ρ[i]? with
  | some (some (.lst ws, .own)) => if ws.length < sizeLine then some (.nx (ρ.set i (some (.lst (ws ++ [r.1]), .own))) S) else none
  | _ => none) else none := rfl
theorem q_aug (i : Nat) (g : W → W → Option W) (f : CE) : cAug i g f ρ S = bnd (f ρ S) fun r S => match ρ[i]? with
  | some (some (w, _)) => (match g w r.1 with
    | some (.int z) => some (.nx (ρ.set i (some (.int z, .frz))) S)
    | _ => none)
  | _ => none := rfl
@[simp] theorem q_setIx (i : Nat) (fk fe : CE) : cSetIx i fk fe ρ S = bnd (fe ρ S) fun r S => bnd (fk ρ S) fun k S => if sto r = true then setAt ρ S i k.1 r.1 else none := rfl
@[simp] theorem q_wipe0 : wipeE ρ [] = ρ := rfl
@[simp] theorem q_wipe (v : Nat) (vs : List Nat) : wipeE ρ (v :: vs) = (wipeE ρ vs).set v none := rfl
end
@[simp] theorem lc_nil (t : CG) (c : CT) (f : CE) (ρ : Env) (S : Store) : lcL t c f ρ [] S = some ([], S) := rfl
theorem lc_cons (t : CG) (c : CT) (f : CE) (ρ : Env) (w : W) (ws : List W) (S : Store) : lcL t c f ρ (w :: ws) S = match t (w, .frz) ρ with
    | none => none
    | some ρ1 => bnd (c ρ1 S) fun b S1 => if b = true then bnd (f ρ1 S1) fun r S2 => if sto r = true then bnd (lcL t c f ρ ws S2) fun rs S3 => some (r.1 :: rs, S3) else none
        else lcL t c f ρ ws S1 := rfl
@[simp] theorem for_nil (t : CG) (b : CS) (ρ : Env) (S : Store) : cForL t b [] ρ S = some (.nx ρ S) := rfl
theorem for_cons (t : CG) (b : CS) (w : W) (ws : List W) (ρ : Env) (S : Store) : cForL t b (w :: ws) ρ S = match t (w, .frz) ρ with
  | none => none
  | some ρ1 => match b ρ1 S with
    | some (.nx ρ2 S2) => cForL t b ws ρ2 S2
    | some (.ct ρ2 S2) => cForL t b ws ρ2 S2
    | some (.bk ρ2 S2) => some (.nx ρ2 S2)
    | some (.rt r S2) => some (.rt r S2)
    | none => none := rfl

/-- how a def's body ends -/
def fin (o : Option SOut) : Option (Wm × Store) := match o with
  | some (.rt r S') => if sto r = true then some (r, S') else none
  | some (.nx _ S') => some ((.non, .own), S')
  | _ => none
theorem cFn_run {n N : Nat} {c : CS} {ws : List W} {S : Store} (h : ws.length = n) : cFn n N c ws S = fin (c (ws.map (fun w => some (w, Md.brw)) ++ List.replicate (N - n) none) S) := by
  unfold cFn
  rw [if_pos h]
  rfl
@[simp] theorem fin_rt (r : Wm) (S : Store) : fin (some (.rt r S)) = if sto r = true then some (r, S) else none := rfl
@[simp] theorem fin_nx (ρ : Env) (S : Store) : fin (some (.nx ρ S)) = some ((.non, .own), S) := rfl

/-! ### loops -/
/-- a comprehension whose turns are f x, the store kept -/
theorem lc_map {A : Type} {t : CG} {c : CT} {f : CE} {ρ : Env} {S : Store} {enc : A → W} {g : A → W} : ∀ {xs : List A},
    (∀ x ∈ xs, ∃ ρ1 m, t (enc x, .frz) ρ = some ρ1 ∧ c ρ1 S = some (true, S) ∧ f ρ1 S = some ((g x, m), S) ∧ sto (g x, m) = true) → lcL t c f ρ (xs.map enc) S = some (xs.map g, S)
  | [], _ => rfl
  | x :: xs, h => by
    obtain ⟨ρ1, m, h1, h2, h3, h4⟩ := h x List.mem_cons_self
    rw [List.map_cons, lc_cons, h1]
    simp only [h2, bnd_some, if_true, h3, h4]
    rw [lc_map fun y hy => h y (List.mem_cons_of_mem _ hy)]
    rfl
theorem lc_filter {A : Type} {t : CG} {c : CT} {f : CE} {ρ : Env} {S : Store} {enc : A → W} {g : A → W} {p : A → Bool} : ∀ {xs : List A},
    (∀ x ∈ xs, ∃ ρ1 m, t (enc x, .frz) ρ = some ρ1 ∧ c ρ1 S = some (p x, S) ∧ (p x = true → f ρ1 S = some ((g x, m), S) ∧ sto (g x, m) = true)) → lcL t c f ρ (xs.map enc) S = some ((xs.filter p).map g, S)
  | [], _ => rfl
  | x :: xs, h => by
    obtain ⟨ρ1, m, h1, h2, h3⟩ := h x List.mem_cons_self
    have ih := lc_filter fun y hy => h y (List.mem_cons_of_mem _ hy)
    rw [List.map_cons, lc_cons, h1]
    simp only [h2, bnd_some]
    by_cases hp : p x = true
    · obtain ⟨h4, h5⟩ := h3 hp
      rw [if_pos hp, List.filter_cons_of_pos hp]
      simp only [h4, bnd_some, h5, if_true]
      rw [ih]; rfl
    · rw [if_neg hp, List.filter_cons_of_neg hp]
      exact ih
/-- a comprehension that draws: what each turn gives is R -/
theorem lc_ex {t : CG} {c : CT} {f : CE} {ρ : Env} {I : Store → Prop} {R : W → W → Prop} : ∀ {ws : List W} {S : Store}, I S →
    (∀ w ∈ ws, ∀ S, I S → ∃ ρ1 g m S2, t (w, .frz) ρ = some ρ1 ∧ c ρ1 S = some (true, S) ∧ f ρ1 S = some ((g, m), S2) ∧ sto (g, m) = true ∧ I S2 ∧ R w g) → ∃ gs S2, lcL t c f ρ ws S = some (gs, S2) ∧ I S2 ∧ Paired R ws gs
  | [], S, hI, _ => ⟨[], S, rfl, hI, .nil⟩
  | w :: ws, S, hI, h => by
    obtain ⟨ρ1, g, m, S2, h1, h2, h3, h4, h5, h6⟩ := h w List.mem_cons_self S hI
    obtain ⟨gs, S3, h7, h8, h9⟩ := lc_ex h5 fun y hy => h y (List.mem_cons_of_mem _ hy)
    refine ⟨g :: gs, S3, ?_, h8, .cons h6 h9⟩
    rw [lc_cons, h1]
    simp only [h2, bnd_some, if_true, h3, h4]
    rw [h7]; rfl
/-- a loop whose turns all go on -/
theorem for_inv {t : CG} {b : CS} {ws : List W} (I : Nat → Env → Store → Prop) (step : ∀ i w ρ S, ws[i]? = some w → I i ρ S → ∃ ρ1 ρ2 S2, t (w, .frz) ρ = some ρ1 ∧ b ρ1 S = some (.nx ρ2 S2) ∧ I (i + 1) ρ2 S2)
    {ρ : Env} {S : Store} (h0 : I 0 ρ S) : ∃ ρ2 S2, cForL t b ws ρ S = some (.nx ρ2 S2) ∧ I ws.length ρ2 S2 := by
  have go : ∀ (us : List W) (i : Nat) (ρ : Env) (S : Store), ws.drop i = us → i ≤ ws.length → I i ρ S → ∃ ρ2 S2, cForL t b us ρ S = some (.nx ρ2 S2) ∧ I ws.length ρ2 S2 := by
    intro us
    induction us with
    | nil =>
      intro i ρ S e hi h
      have : i = ws.length := by
        have := congrArg List.length e
        rw [List.length_drop, List.length_nil] at this
        omega
      subst this
      exact ⟨ρ, S, rfl, h⟩
    | cons u us ih =>
      intro i ρ S e hi h
      have hlt : i < ws.length := by
        have := congrArg List.length e
        rw [List.length_drop, List.length_cons] at this
        omega
      rw [List.drop_eq_getElem_cons hlt] at e
      injection e with e1 e2
      obtain ⟨ρ1, ρ2, S2, h1, h2, h3⟩ := step i u ρ S (by rw [← e1]; exact List.getElem?_eq_getElem hlt) h
      obtain ⟨ρ3, S3, h4, h5⟩ := ih (i + 1) ρ2 S2 e2 hlt h3
      refine ⟨ρ3, S3, ?_, h5⟩
      rw [for_cons, h1]
      simp only [h2]
      exact h4
  exact go ws 0 ρ S (List.drop_zero) (Nat.zero_le _) h0
/-- over encoded items, by a state that each turn changes -/
theorem for_fold {A B : Type} {t : CG} {b : CS} {enc : A → W} {st : B → A → B} (I : B → Env → Store → Prop) : ∀ {xs : List A} {s : B} {ρ : Env} {S : Store},
    (∀ x ∈ xs, ∀ s ρ S, I s ρ S → ∃ ρ1 ρ2 S2, t (enc x, .frz) ρ = some ρ1 ∧ b ρ1 S = some (.nx ρ2 S2) ∧ I (st s x) ρ2 S2) → I s ρ S → ∃ ρ2 S2, cForL t b (xs.map enc) ρ S = some (.nx ρ2 S2) ∧ I (xs.foldl st s) ρ2 S2
  | [], s, ρ, S, _, h => ⟨ρ, S, rfl, h⟩
  | x :: xs, s, ρ, S, h, hi => by
    obtain ⟨ρ1, ρ2, S2, h1, h2, h3⟩ := h x List.mem_cons_self s ρ S hi
    obtain ⟨ρ3, S3, h4, h5⟩ := for_fold I (fun y hy => h y (List.mem_cons_of_mem _ hy)) h3
    refine ⟨ρ3, S3, ?_, h5⟩
    rw [List.map_cons, for_cons, h1]
    simp only [h2]
    exact h4
/-- a loop that may leave by a return of one value: p tells the items that leave -/
theorem for_search {A : Type} {t : CG} {b : CS} {enc : A → W} {p : A → Bool} {r : Wm} {S : Store} (I : Env → Prop) : ∀ {xs : List A} {ρ : Env},
    (∀ x ∈ xs, ∀ ρ, I ρ → ∃ ρ1, t (enc x, .frz) ρ = some ρ1 ∧ ((p x = true ∧ b ρ1 S = some (.rt r S)) ∨ (p x = false ∧ ∃ ρ2, b ρ1 S = some (.nx ρ2 S) ∧ I ρ2))) → I ρ →
      (xs.any p = true ∧ cForL t b (xs.map enc) ρ S = some (.rt r S)) ∨ (xs.any p = false ∧ ∃ ρ2, cForL t b (xs.map enc) ρ S = some (.nx ρ2 S) ∧ I ρ2)
  | [], ρ, _, h => .inr ⟨rfl, ρ, rfl, h⟩
  | x :: xs, ρ, h, hi => by
    obtain ⟨ρ1, h1, h2⟩ := h x List.mem_cons_self ρ hi
    rw [List.any_cons, List.map_cons, for_cons, h1]
    rcases h2 with ⟨hp, h2⟩ | ⟨hp, ρ2, h2, h3⟩
    · exact .inl ⟨by rw [hp]; rfl, by simp only [h2]⟩
    · simp only [h2, hp, Bool.false_or]
      exact for_search I (fun y hy => h y (List.mem_cons_of_mem _ hy)) h3

/-! ### == -/
mutual
/-- data of at most that depth: what == asks -/
def okD : W → Nat → Bool
  | .non, _ => true
  | .bl _, _ => true
  | .int _, _ => true
  | .str x, _ => PyData.strOk x
  | .tup ws, n => decide (0 < n) && okDs ws (n - 1)
  | .lst ws, n => decide (0 < n) && okDs ws (n - 1)
  | .dk _, _ => false
  | .dt _, _ => false
  | .scr _, _ => false
  | .cel _, _ => false
  | .ty _, _ => false
def okDs : List W → Nat → Bool
  | [], _ => true
  | w :: ws, n => okD w n && okDs ws n
end
def eqW (a b : W) : Bool := match toD a, toD b with
  | some d, some e => PyData.eqv d e
  | _, _ => false
def eqWs (a b : List W) : Bool := match toDs a, toDs b with
  | some d, some e => PyData.eqvAll d e
  | _, _ => false
mutual
theorem okD_ok : ∀ (w : W) (n : Nat), okD w n = true → ∃ d, toD w = some d ∧ d.canLay0 = true ∧ d.depth ≤ n
  | .non, _, _ => ⟨_, rfl, rfl, Nat.zero_le _⟩
  | .bl _, _, _ => ⟨_, rfl, rfl, Nat.zero_le _⟩
  | .int _, _, _ => ⟨_, rfl, rfl, Nat.zero_le _⟩
  | .str x, _, h => ⟨_, rfl, h, Nat.zero_le _⟩
  | .tup ws, n, h => by
    unfold okD at h
    rw [Bool.and_eq_true, decide_eq_true_eq] at h
    obtain ⟨ds, h1, h2, h3⟩ := okDs_ok ws (n - 1) h.2
    refine ⟨.tuple ds, by unfold toD; rw [h1]; rfl, h2, ?_⟩
    have := h.1
    show PyData.depthAll ds + 1 ≤ n
    omega
  | .lst ws, n, h => by
    unfold okD at h
    rw [Bool.and_eq_true, decide_eq_true_eq] at h
    obtain ⟨ds, h1, h2, h3⟩ := okDs_ok ws (n - 1) h.2
    refine ⟨.list ds, by unfold toD; rw [h1]; rfl, h2, ?_⟩
    have := h.1
    show PyData.depthAll ds + 1 ≤ n
    omega
  | .dk _, _, h => by cases h
  | .dt _, _, h => by cases h
  | .scr _, _, h => by cases h
  | .cel _, _, h => by cases h
  | .ty _, _, h => by cases h
theorem okDs_ok : ∀ (ws : List W) (n : Nat), okDs ws n = true → ∃ ds, toDs ws = some ds ∧ PyData.canLayAll0 ds = true ∧ PyData.depthAll ds ≤ n
  | [], _, _ => ⟨[], rfl, rfl, Nat.zero_le _⟩
  | w :: ws, n, h => by
    unfold okDs at h
    rw [Bool.and_eq_true] at h
    obtain ⟨d, h1, h2, h3⟩ := okD_ok w n h.1
    obtain ⟨ds, h4, h5, h6⟩ := okDs_ok ws n h.2
    refine ⟨d :: ds, by unfold toDs; rw [h1, h4], ?_, ?_⟩
    · show (d.canLay0 && PyData.canLayAll0 ds) = true
      rw [h2, h5]; rfl
    · show max d.depth (PyData.depthAll ds) ≤ n
      omega
end
theorem gEq_ok {neg : Bool} {a b : W} (ha : okD a 64 = true) (hb : okD b 64 = true) : gEq neg a b = some (.bl (neg != eqW a b)) := by
  obtain ⟨d, h1, h2, h3⟩ := okD_ok a 64 ha
  obtain ⟨e, h4, h5, h6⟩ := okD_ok b 64 hb
  unfold gEq eqW
  rw [h1, h4]
  have s1 : SeqAt.shaped d = true := by unfold SeqAt.shaped; rw [h2, Bool.true_and, decide_eq_true_eq]; exact h3
  have s2 : SeqAt.shaped e = true := by unfold SeqAt.shaped; rw [h5, Bool.true_and, decide_eq_true_eq]; exact h6
  simp only [s1, s2, and_self, if_true]
theorem eqW_refl {a : W} {n : Nat} (h : okD a n = true) : eqW a a = true := by
  obtain ⟨d, h1, h2, _⟩ := okD_ok a n h
  unfold eqW
  rw [h1]
  exact SeqAt.eqv_refl d h2
@[simp] theorem eqW_int (i j : Int) : eqW (.int i) (.int j) = decide (i = j) := by
  show (i == j) = decide (i = j)
  by_cases h : i = j <;> simp [h]
@[simp] theorem eqW_str (x y : Str) : eqW (.str x) (.str y) = decide (x = y) := by
  show (x == y) = decide (x = y)
  by_cases h : x = y <;> simp [h]
@[simp] theorem eqW_bl (x y : Bool) : eqW (.bl x) (.bl y) = (x == y) := rfl
@[simp] theorem gEq_int (neg : Bool) (i j : Int) : gEq neg (.int i) (.int j) = some (.bl (neg != decide (i = j))) := by rw [gEq_ok rfl rfl, eqW_int]
@[simp] theorem gEq_bl (neg : Bool) (i j : Bool) : gEq neg (.bl i) (.bl j) = some (.bl (neg != (i == j))) := by rw [gEq_ok rfl rfl, eqW_bl]
theorem gEq_str {neg : Bool} {x y : Str} (hx : PyData.strOk x = true) (hy : PyData.strOk y = true) : gEq neg (.str x) (.str y) = some (.bl (neg != decide (x = y))) := by rw [gEq_ok (by unfold okD; exact hx) (by unfold okD; exact hy), eqW_str]
theorem gEq_same {neg : Bool} {a : W} (h : okD a 64 = true) : gEq neg a a = some (.bl (neg != true)) := by rw [gEq_ok h h, eqW_refl h]
theorem okDs_all : ∀ {ws : List W} {n : Nat}, (∀ w ∈ ws, okD w n = true) → okDs ws n = true
  | [], _, _ => rfl
  | w :: ws, n, h => by
    unfold okDs
    rw [h w List.mem_cons_self, okDs_all fun u hu => h u (List.mem_cons_of_mem _ hu)]
    rfl
theorem okD_tup {ws : List W} {n : Nat} (h : ∀ w ∈ ws, okD w n = true) : okD (.tup ws) (n + 1) = true := by
  unfold okD
  rw [Nat.add_sub_cancel, okDs_all h]
  simp
theorem okD_lst {ws : List W} {n : Nat} (h : ∀ w ∈ ws, okD w n = true) : okD (.lst ws) (n + 1) = true := by
  unfold okD
  rw [Nat.add_sub_cancel, okDs_all h]
  simp
/-! ### arithmetic that walks -/
@[simp] theorem gAdd_int (i j : Int) : gAdd (.int i) (.int j) = some (.int (i + j)) := rfl
@[simp] theorem gAddI_int (i j : Int) : gAddI (.int i) (.int j) = some (.int (i + j)) := rfl
@[simp] theorem gSub_int (i j : Int) : Mp.gSub (.int i) (.int j) = some (.int (i - j)) := rfl
@[simp] theorem gLt_int (i j : Int) : gLt (.int i) (.int j) = some (.bl (decide (i < j))) := rfl
@[simp] theorem gLe_int (i j : Int) : gLe (.int i) (.int j) = some (.bl (decide (i ≤ j))) := rfl
@[simp] theorem gGt_int (i j : Int) : gGt (.int i) (.int j) = some (.bl (decide (j < i))) := rfl
@[simp] theorem gGe_int (i j : Int) : gGe (.int i) (.int j) = some (.bl (decide (j ≤ i))) := rfl
theorem gMul_int {i j : Int} (h : (-(2 ^ 64) < i ∧ i < 2 ^ 64) ∨ (-(2 ^ 64) < j ∧ j < 2 ^ 64)) : gMul (.int i) (.int j) = some (.int (i * j)) := by
  show (if _ then _ else _) = _
  rw [if_pos h]
theorem gDiv_int {i j : Int} (h : 0 < j) (h2 : j < 1073741824) : gDiv (.int i) (.int j) = some (.int (i / j)) := by
  show (if _ then _ else _) = _
  rw [if_pos ⟨by omega, by omega⟩, Int.fdiv_eq_ediv_of_nonneg _ (by omega)]
theorem gMod_int {i j : Int} (h : 0 < j) : gMod (.int i) (.int j) = some (.int (i % j)) := by
  show (if _ then _ else _) = _
  rw [if_pos (by omega), Int.fmod_eq_emod_of_nonneg _ (by omega)]
@[simp] theorem gInt_int (S : Store) (i : Int) : gInt S [.int i] = some (.int i) := rfl
@[simp] theorem gInt_bl (S : Store) (b : Bool) : gInt S [.bl b] = some (.int (if b then 1 else 0)) := rfl
@[simp] theorem gLen_tup (S : Store) (ws : List W) : gLen S [.tup ws] = some (.int ws.length) := rfl
@[simp] theorem gLen_lst (S : Store) (ws : List W) : gLen S [.lst ws] = some (.int ws.length) := rfl
@[simp] theorem gTuple_lst (S : Store) (ws : List W) : gTuple S [.lst ws] = some (.tup ws) := rfl
@[simp] theorem gTuple_tup (S : Store) (ws : List W) : gTuple S [.tup ws] = some (.tup ws) := rfl
@[simp] theorem gList_scr (S : Store) (ns : List Int) : gList S [.scr ns] = some (.lst (ns.map .int)) := rfl
@[simp] theorem gList_lst (S : Store) (ws : List W) : gList S [.lst ws] = some (.lst ws) := rfl
@[simp] theorem gList_tup (S : Store) (ws : List W) : gList S [.tup ws] = some (.lst ws) := rfl
@[simp] theorem gIx_tup (S : Store) (ws : List W) (i : Int) : gIx S (.tup ws) (.int i) = atI ws i := rfl
@[simp] theorem gIx_lst (S : Store) (ws : List W) (i : Int) : gIx S (.lst ws) (.int i) = atI ws i := rfl
theorem atI_of {A : Type} {xs : List A} {i : Int} (h : 0 ≤ i) : atI xs i = xs[i.toNat]? := by
  unfold atI ixN
  rw [if_pos h]
  split
  · rfl
  · rename_i h2
    rw [List.getElem?_eq_none (by omega)]
    rfl
@[simp] theorem atI_0 {A : Type} (x : A) (xs : List A) : atI (x :: xs) 0 = some x := by rw [atI_of (by omega)]; rfl
@[simp] theorem atI_1 {A : Type} (x y : A) (xs : List A) : atI (x :: y :: xs) 1 = some y := by rw [atI_of (by omega)]; rfl
@[simp] theorem atI_2 {A : Type} (x y z : A) (xs : List A) : atI (x :: y :: z :: xs) 2 = some z := by rw [atI_of (by omega)]; rfl
theorem size_ok {n : Nat} (h : n ≤ 10000000) : n ≤ sizeLine := by rw [sizeLine_eq]; omega
theorem size_lt {n : Nat} (h : n ≤ 10000000) : n < sizeLine := by rw [sizeLine_eq]; omega
end Mp
/-! what every law of this family begins with: the tape and its draws -/
namespace Mp
open PySem PySem.Spec PyProof.Rows L2
def cDrawA : CS := cSeq (cIfS (cB (cBin gLt (cVar 4) (cBi gLen (cCons (cVar 3) cNil)))) (cAsg (tName 5) (cIx (cVar 3) (cVar 4))) (cSkip))
  (cSeq (cIfS (cB (cBin gLt (cVar 5) (cLit (.int 0)))) (cAsg (tName 5) (cBin Mp.gSub (cBin gMul (cNeg (cLit (.int 2))) (cVar 5)) (cLit (.int 1)))) (cSkip))
  (cSeq (cIfS (cB (cBin gLt (cVar 5) (cBin gPow (cLit (.int 10)) (cLit (.int 9))))) (cSeq (cAsg (tName 5) (cBin gMod (cBi gInt (cCons (cBin gAdd (cBin gAdd (cBin gMul (cVar 5) (cLit (.int 48271))) (cBin gMul (cVar 4) (cLit (.int 69621)))) (cLit (.int 12345))) cNil)) (cLit (.int 2147483647))))
  (cAsg (tName 5) (cBin gMod (cBi gInt (cCons (cBin gAdd (cBin gAdd (cBin gMul (cVar 5) (cLit (.int 16807))) (cBin gMul (cVar 4) (cLit (.int 39373)))) (cLit (.int 6789))) cNil)) (cLit (.int 2147483629))))) (cSkip))
  (cSeq (cSetIx 0 (cLit (.int 1)) (cBin gAdd (cVar 4) (cLit (.int 1))))
  (cSetIx 0 (cLit (.int 2)) (cVar 5)))))
def cDraw : CS :=
  cSeq (cIfS (cB (cBin gLt (cIx (cVar 0) (cLit (.int 2))) (cVar 1))) (cSeq (cAsg (tName 3) (cIx (cVar 0) (cLit (.int 0))))
  (cSeq (cAsg (tName 4) (cIx (cVar 0) (cLit (.int 1))))
  (cSeq (cAsg (tName 5) (cLit (.int 0)))
  cDrawA))) (cSkip))
  (cSeq (cAsg (tName 2) (cBin gMod (cBi gInt (cCons (cIx (cVar 0) (cLit (.int 2))) cNil)) (cVar 1)))
  (cSeq (cSetIx 0 (cLit (.int 2)) (cBin gDiv (cIx (cVar 0) (cLit (.int 2))) (cVar 1)))
  (cRetV 2)))
def mDraw : FnSem := cFn 2 6 cDraw
/-- the tape stands in cell n -/
def TapeAt (n : Nat) (S : Store) : Prop := ∃ (cells : List Int) (k c : Int), S[n]? = some [.lst (cells.map .int), .int k, .int c] ∧ 0 ≤ k ∧ 0 ≤ c
@[simp] theorem gIx_cel (S : Store) (n : Nat) (i : Int) : gIx S (.cel n) (.int i) = match S[n]? with
    | some ws => atI ws i
    | none => none := rfl
theorem set_cel {ρ : Env} {S : Store} {i n : Nat} {m : Md} {ws : List W} {j : Nat} {k : Int} (w : W) (hr : ρ[i]? = some (some (.cel n, m))) (hS : S[n]? = some ws) (hk : k = (j : Int)) (hj : j < ws.length) : setAt ρ S i (.int k) w = some (.nx ρ (S.set n (ws.set j w))) := by
  unfold setAt
  rw [hr]
  simp only [hS]
  unfold ixN
  rw [if_pos (by omega), if_pos (by omega)]
  subst hk
  rfl
/-- the store but for one cell is as it was -/
def SameBut (n : Nat) (S S' : Store) : Prop := S'.length = S.length ∧ ∀ j, j ≠ n → S'[j]? = S[j]?
theorem SameBut.refl {n : Nat} {S : Store} : SameBut n S S := ⟨rfl, fun _ _ => rfl⟩
theorem SameBut.trans {n : Nat} {S S1 S2 : Store} (a : SameBut n S S1) (b : SameBut n S1 S2) : SameBut n S S2 := ⟨b.1.trans a.1, fun j h => (b.2 j h).trans (a.2 j h)⟩
theorem SameBut.set {n : Nat} {S : Store} {ws : List W} : SameBut n S (S.set n ws) := ⟨List.length_set, fun j h => List.getElem?_set_ne (Ne.symm h)⟩
theorem set_at {n : Nat} {S : Store} {ws us : List W} (h : S[n]? = some us) : (S.set n ws)[n]? = some ws := List.getElem?_set_self (List.getElem?_eq_some_iff.mp h).1
theorem draw_a {n : Nat} {S : Store} {cells : List Int} {k c : Int} {a b : Option Wm} {mn : Md} (hS : S[n]? = some [.lst (cells.map .int), .int k, .int c]) (hk : 0 ≤ k) :
    ∃ c' x5, 0 ≤ c' ∧ cDrawA [some (.cel n, mn), a, b, some (.lst (cells.map .int), .frz), some (.int k, .frz), some (.int 0, .frz)] S =
      some (.nx [some (.cel n, mn), a, b, some (.lst (cells.map .int), .frz), some (.int k, .frz), x5] (S.set n [.lst (cells.map .int), .int (k + 1), .int c'])) := by
  obtain ⟨v, hv⟩ : ∃ v : Int, (cIfS (cB (cBin gLt (cVar 4) (cBi gLen (cCons (cVar 3) cNil)))) (cAsg (tName 5) (cIx (cVar 3) (cVar 4))) (cSkip)) [some (.cel n, mn), a, b, some (.lst (cells.map .int), .frz), some (.int k, .frz), some (.int 0, .frz)] S =
      some (.nx [some (.cel n, mn), a, b, some (.lst (cells.map .int), .frz), some (.int k, .frz), some (.int v, .frz)] S) := by
    simp only [q_ifS, q_B, q_bin, q_var, q_bi, q_cons, q_nil, q_asg, q_ix, q_skip, bnd_some, List.getElem?_cons_succ, List.getElem?_cons_zero, reduceCtorEq, if_false, List.map_cons, List.map_nil, gLen_lst, Option.map_some, gLt_int, List.length_map, decide_eq_true_eq]
    by_cases h : k < (cells.length : Int)
    · rw [if_pos h]
      have e : atI (cells.map W.int) k = some (.int (cells[k.toNat]'(by omega))) := by
        rw [atI_of hk, List.getElem?_map, List.getElem?_eq_getElem (by omega)]; rfl
      exact ⟨_, by simp only [gIx_lst, e, Option.map_some, bnd_some, q_tName, sto_frz, if_true, md_int]; rfl⟩
    · rw [if_neg h]
      exact ⟨0, rfl⟩
  obtain ⟨u, hu, h2⟩ : ∃ u : Int, 0 ≤ u ∧ (cIfS (cB (cBin gLt (cVar 5) (cLit (.int 0)))) (cAsg (tName 5) (cBin Mp.gSub (cBin gMul (cNeg (cLit (.int 2))) (cVar 5)) (cLit (.int 1)))) (cSkip)) [some (.cel n, mn), a, b, some (.lst (cells.map .int), .frz), some (.int k, .frz), some (.int v, .frz)] S =
      some (.nx [some (.cel n, mn), a, b, some (.lst (cells.map .int), .frz), some (.int k, .frz), some (.int u, .frz)] S) := by
    simp only [q_ifS, q_B, q_bin, q_var, q_lit, q_neg, q_asg, q_skip, bnd_some, List.getElem?_cons_succ, List.getElem?_cons_zero, reduceCtorEq, if_false, Option.map_some, gLt_int, decide_eq_true_eq]
    by_cases h : v < 0
    · rw [if_pos h]
      refine ⟨-2 * v - 1, by omega, ?_⟩
      rw [gMul_int (.inl (by decide))]
      rfl
    · rw [if_neg h]
      exact ⟨v, by omega, rfl⟩
  obtain ⟨u3, hu3, h3⟩ : ∃ u3 : Int, 0 ≤ u3 ∧ (cIfS (cB (cBin gLt (cVar 5) (cBin gPow (cLit (.int 10)) (cLit (.int 9))))) (cSeq (cAsg (tName 5) (cBin gMod (cBi gInt (cCons (cBin gAdd (cBin gAdd (cBin gMul (cVar 5) (cLit (.int 48271))) (cBin gMul (cVar 4) (cLit (.int 69621)))) (cLit (.int 12345))) cNil)) (cLit (.int 2147483647))))
  (cAsg (tName 5) (cBin gMod (cBi gInt (cCons (cBin gAdd (cBin gAdd (cBin gMul (cVar 5) (cLit (.int 16807))) (cBin gMul (cVar 4) (cLit (.int 39373)))) (cLit (.int 6789))) cNil)) (cLit (.int 2147483629))))) (cSkip)) [some (.cel n, mn), a, b, some (.lst (cells.map .int), .frz), some (.int k, .frz), some (.int u, .frz)] S =
      some (.nx [some (.cel n, mn), a, b, some (.lst (cells.map .int), .frz), some (.int k, .frz), some (.int u3, .frz)] S) := by
    have hp : gPow (.int 10) (.int 9) = some (.int 1000000000) := by
      unfold gPow
      dsimp only
      rw [if_pos (show (0 : Int) ≤ 9 ∧ (9 : Int) ≤ 1000000 ∧ (10 : Int).natAbs < 2 ^ 64 by decide)]
      rfl
    simp only [q_ifS, q_B, q_bin, q_var, q_lit, q_seq, q_cons, q_nil, q_bi, q_asg, q_skip, bnd_some, List.getElem?_cons_succ, List.getElem?_cons_zero, reduceCtorEq, if_false, Option.map_some, gLt_int, decide_eq_true_eq, hp]
    by_cases h : u < 1000000000
    · rw [if_pos h]
      rw [gMul_int (.inr (by decide)), gMul_int (.inr (by decide))]
      simp only [Option.map_some, bnd_some, gAdd_int, List.map_cons, List.map_nil, gInt_int, gMod_int (show (0 : Int) < 2147483647 by decide), q_tName, sto_own, if_true, md_int, List.set_cons_succ, List.set_cons_zero, List.getElem?_cons_succ, List.getElem?_cons_zero, reduceCtorEq, if_false]
      rw [gMul_int (.inr (by decide)), gMul_int (.inr (by decide))]
      simp only [Option.map_some, bnd_some, gAdd_int, List.map_cons, List.map_nil, gInt_int, gMod_int (show (0 : Int) < 2147483629 by decide), q_tName, sto_own, if_true, md_int, List.set_cons_succ, List.set_cons_zero, List.getElem?_cons_succ, List.getElem?_cons_zero]
      exact ⟨_, Int.emod_nonneg _ (by decide), rfl⟩
    · rw [if_neg h]
      exact ⟨u, by omega, rfl⟩
  refine ⟨u3, some (.int u3, .frz), hu3, ?_⟩
  unfold cDrawA
  rw [q_seq, hv]
  dsimp only
  rw [q_seq, h2]
  dsimp only
  rw [q_seq, h3]
  dsimp only
  simp only [q_seq, q_setIx, q_bin, q_var, q_lit, bnd_some, List.getElem?_cons_succ, List.getElem?_cons_zero, reduceCtorEq, if_false, Option.map_some, gAdd_int, sto_own, sto_frz, if_true]
  rw [set_cel (k := 1) (j := 1) (ws := [.lst (cells.map .int), .int k, .int c]) _ rfl hS rfl (by simp)]
  dsimp only
  simp only [List.set_cons_succ, List.set_cons_zero]
  simp only [bnd_some, sto_frz, if_true, List.getElem?_cons_succ, List.getElem?_cons_zero, reduceCtorEq, if_false]
  rw [set_cel (k := 2) (j := 2) (ws := [.lst (cells.map .int), .int (k + 1), .int c]) _ rfl (set_at hS) rfl (by simp)]
  rw [List.set_set]
  rfl
theorem draw_ok {n : Nat} {S : Store} {many : Int} (t : TapeAt n S) (h0 : 0 < many) (h1 : many < 1073741824) :
    ∃ d S', mDraw [.cel n, .int many] S = some ((.int d, .frz), S') ∧ 0 ≤ d ∧ d < many ∧ TapeAt n S' ∧ SameBut n S S' := by
  obtain ⟨cells, k, c, hS, hk, hc⟩ := t
  -- the refilled tape
  obtain ⟨k', c', x3, x4, x5, S1, hk', hc', hS1, hsb, hfill⟩ : ∃ k' c' x3 x4 x5 S1, 0 ≤ k' ∧ 0 ≤ c' ∧ S1[n]? = some [.lst (cells.map .int), .int k', .int c'] ∧ SameBut n S S1 ∧
      (cIfS (cB (cBin gLt (cIx (cVar 0) (cLit (.int 2))) (cVar 1))) (cSeq (cAsg (tName 3) (cIx (cVar 0) (cLit (.int 0)))) (cSeq (cAsg (tName 4) (cIx (cVar 0) (cLit (.int 1)))) (cSeq (cAsg (tName 5) (cLit (.int 0))) cDrawA))) (cSkip))
        [some (.cel n, .brw), some (.int many, .brw), none, none, none, none] S = some (.nx [some (.cel n, .brw), some (.int many, .brw), none, x3, x4, x5] S1) := by
    simp only [q_ifS, q_B, q_bin, q_ix, q_var, q_lit, q_seq, q_asg, q_skip, bnd_some, List.getElem?_cons_succ, List.getElem?_cons_zero, reduceCtorEq, if_false, Option.map_some, gIx_cel, hS, atI_2, atI_1, atI_0, gLt_int, decide_eq_true_eq]
    by_cases h : c < many
    · rw [if_pos h]
      simp only [q_tName, sto_frz, if_true, md_lst, md_int, Option.map_some, List.set_cons_succ, List.set_cons_zero, bnd_some, List.getElem?_cons_succ, List.getElem?_cons_zero, reduceCtorEq, if_false, gIx_cel, hS, atI_1]
      obtain ⟨c', x5, hc', e⟩ := draw_a (mn := .brw) (a := some (.int many, .brw)) (b := none) hS hk
      exact ⟨k + 1, c', _, _, x5, _, by omega, hc', set_at hS, SameBut.set, e⟩
    · rw [if_neg h]
      exact ⟨k, c, _, _, _, S, hk, hc, hS, SameBut.refl, rfl⟩
  refine ⟨c' % many, S1.set n [.lst (cells.map .int), .int k', .int (c' / many)], ?_, Int.emod_nonneg _ (by omega), Int.emod_lt_of_pos _ h0, ⟨cells, k', c' / many, set_at hS1, hk', Int.ediv_nonneg hc' (by omega)⟩, hsb.trans SameBut.set⟩
  unfold mDraw
  rw [cFn_run (by rfl)]
  show fin (cDraw [some (.cel n, .brw), some (.int many, .brw), none, none, none, none] S) = _
  unfold cDraw
  rw [q_seq, hfill]
  dsimp only
  simp only [q_seq, q_asg, q_bin, q_bi, q_cons, q_nil, q_ix, q_var, q_lit, q_setIx, bnd_some, List.getElem?_cons_succ, List.getElem?_cons_zero, reduceCtorEq, if_false, Option.map_some, gIx_cel, hS1, atI_2, List.map_cons, List.map_nil, gInt_int, gMod_int h0, gDiv_int h0 h1, q_tName, sto_own, if_true, md_int, List.set_cons_succ, List.set_cons_zero]
  rw [set_cel (k := 2) (j := 2) (ws := [.lst (cells.map .int), .int k', .int c']) _ rfl hS1 rfl (by simp)]
  rfl
/-- the tape's making -/
def cTape : CS := cRet (cBox (cCons (cBi gList (cCons (cVar 0) cNil)) (cCons (cLit (.int 0)) (cCons (cLit (.int 0)) cNil))))
def mTape : FnSem := cFn 1 1 cTape
theorem tape_ok (ns : List Int) (S : Store) : ∃ S', mTape [.scr ns] S = some ((.cel S.length, .own), S') ∧ TapeAt S.length S' ∧ S' = S ++ [[.lst (ns.map .int), .int 0, .int 0]] := by
  refine ⟨S ++ [[.lst (ns.map .int), .int 0, .int 0]], ?_, ⟨ns, 0, 0, ?_, Int.le_refl _, Int.le_refl _⟩, rfl⟩
  · unfold mTape
    rw [cFn_run (by rfl)]
    show fin (cTape [some (.scr ns, .brw)] S) = _
    unfold cTape
    simp only [q_ret, q_box, q_cons, q_nil, q_bi, q_var, q_lit, bnd_some, List.getElem?_cons_zero, reduceCtorEq, if_false, List.map_cons, List.map_nil, gList_scr, Option.map_some]
    rw [if_pos ⟨rfl, by rw [sizeLine_eq]; simp⟩]
    rfl
  · rw [List.getElem?_append_right (Nat.le_refl _), Nat.sub_self]; rfl
end Mp
/-! more of the evaluator: in, chains, any, all, min, max, str -/
namespace Mp
open PySem PySem.Spec PyProof.Rows L2

/-! ### in -/
def anyEq (d : PyData) (ds : List PyData) : Bool := ds.any fun z => PyData.eqv z d
def gIn (neg : Bool) : W → W → Option W := fun a b => match toD a, toD b with
  | some d, some (.list ds) => if SeqAt.shaped d = true ∧ SeqAt.shaped (.list ds) = true then some (.bl (neg != anyEq d ds)) else none
  | some d, some (.tuple ds) => if SeqAt.shaped d = true ∧ SeqAt.shaped (.tuple ds) = true then some (.bl (neg != anyEq d ds)) else none
  | _, _ => none
def rMem (K : PySem.W.Frag) (neg : Bool) : R2 := fun x y H Q => ∃ d ds, Dp K H x d ∧ (Dp K H y (.list ds) ∧ SeqAt.shaped (.list ds) = true ∨ Dp K H y (.tuple ds) ∧ SeqAt.shaped (.tuple ds) = true) ∧ SeqAt.shaped d = true ∧ Q (.bl (neg != anyEq d ds)) H
section
variable {X : Cx}
theorem op_mem (hu : X.A.units + 65 < cLine) : OpR X (compareOp .In) (rMem X.K false) := fun pins s σ H x y v u Q I rx ry h => by
  obtain ⟨d, ds, hd, he, sd, q⟩ := h
  rw [Bool.false_bne] at q
  obtain ⟨as, r1⟩ := Dp.reads I d x v hd rx
  rcases he with ⟨he, se⟩ | ⟨he, se⟩
  · exact op_inD hu pins s σ H x y v u Q I rx ry ⟨d, ds, hd, he, sd, se, q⟩
  · obtain ⟨bs, r2⟩ := Dp.reads I (.tuple ds) y u he ry
    exact SeqAt.in_tuple_reads r2 r1 (SeqAt.canLay_of_shaped se) (SeqAt.canLay_of_shaped sd) (room_in_shaped sd hu) ⟨.bl _, H, I, rfl, q⟩
theorem op_nmem (hu : X.A.units + 65 < cLine) : OpR X (compareOp .NotIn) (rMem X.K true) := fun pins s σ H x y v u Q I rx ry h => by
  obtain ⟨d, ds, hd, he, sd, q⟩ := h
  rw [Bool.true_bne] at q
  obtain ⟨as, r1⟩ := Dp.reads I d x v hd rx
  rcases he with ⟨he, se⟩ | ⟨he, se⟩
  · exact op_notInD hu pins s σ H x y v u Q I rx ry ⟨d, ds, hd, he, sd, se, q⟩
  · obtain ⟨bs, r2⟩ := Dp.reads I (.tuple ds) y u he ry
    exact SeqAt.notIn_tuple_reads r2 r1 (SeqAt.canLay_of_shaped se) (SeqAt.canLay_of_shaped sd) (room_in_shaped sd hu) ⟨.bl _, H, I, rfl, q⟩
end
theorem os_mem {K : PySem.W.Frag} {neg : Bool} : OS K (rMem K neg) (gIn neg) := by
  intro α Z H S x y a b c m1 m2 wo ra rb hg Q q
  unfold gIn at hg
  split at hg
  · rename_i d ds h1 h2
    split at hg
    · rename_i hs
      cases hg
      exact ⟨d, ds, ra.dp h1, .inl ⟨rb.dp h2, hs.2⟩, hs.1, q _ H Keep.refl wo (Got.im (.bl _) rfl)⟩
    · cases hg
  · rename_i d ds h1 h2
    split at hg
    · rename_i hs
      cases hg
      exact ⟨d, ds, ra.dp h1, .inr ⟨rb.dp h2, hs.2⟩, hs.1, q _ H Keep.refl wo (Got.im (.bl _) rfl)⟩
    · cases hg
  · cases hg
section
variable {X : Cx} {a b c : Expr} {fa fb fc : CE} {pos : Pos}
theorem Room.u65 {k : Nat} {A : Around} (r : Room k A) : A.units + 65 < cLine := by have := r.un; omega
theorem e_in {k : Nat} (hr : Room k X.A) (ha : EE X a fa) (hb : EE X b fb) (hm : behindInMarks .In b = false := by with_unfolding_all rfl) : EE X (.Compare a [.In] [b] pos) (cBin (gIn false) fa fb) := e_cmp (op_mem (Room.u65 hr)) os_mem ha hb hm
theorem e_nin {k : Nat} (hr : Room k X.A) (ha : EE X a fa) (hb : EE X b fb) (hm : behindInMarks .NotIn b = false := by with_unfolding_all rfl) : EE X (.Compare a [.NotIn] [b] pos) (cBin (gIn true) fa fb) := e_cmp (op_nmem (Room.u65 hr)) os_mem ha hb hm
theorem t_in {k : Nat} (hr : Room k X.A) (ha : EE X a fa) (hb : EE X b fb) (hm : behindInMarks .In b = false := by with_unfolding_all rfl) : ET X (.Compare a [.In] [b] pos) (cB (cBin (gIn false) fa fb)) := t_cmp (op_mem (Room.u65 hr)) os_mem ha hb hm
theorem t_nin {k : Nat} (hr : Room k X.A) (ha : EE X a fa) (hb : EE X b fb) (hm : behindInMarks .NotIn b = false := by with_unfolding_all rfl) : ET X (.Compare a [.NotIn] [b] pos) (cB (cBin (gIn true) fa fb)) := t_cmp (op_nmem (Room.u65 hr)) os_mem ha hb hm

/-! ### a op b op c -/
def cChain (g g' : W → W → Option W) (fa fb fc : CE) : CE := fun ρ S => bnd (fa ρ S) fun a S => bnd (fb ρ S) fun b S => match g a.1 b.1 with
  | some (.bl t) => if t = true then bnd (fc ρ S) fun c S => (g' b.1 c.1).map fun z => ((z, .own), S) else some ((.bl false, .own), S)
  | _ => none
theorem chain_ok {r r' : R2} {g g' : W → W → Option W} (hs : OS X.K r g) (hs' : OS X.K r' g') {σ : L2.St} {H : Hp} {Q : VK} (h : semE X.K (cChain g g' fa fb fc) σ H Q) : tChain r r' (semE X.K fa) (semE X.K fb) (semE X.K fc) σ H Q := by
  obtain ⟨ρ, S, α, Z, r0, S', wo, en, h, q⟩ := h
  obtain ⟨ra, S1, h1, h⟩ := of_bnd h
  obtain ⟨rb, S2, h2, h⟩ := of_bnd h
  refine ⟨ρ, S, α, Z, ra, S1, wo, en, h1, fun v1 H1 α1 Z1 k1 w1 g1 => ⟨ρ, S1, α1, Z1, rb, S2, w1, en.keep wo k1, h2, fun v2 H2 α2 Z2 k2 w2 g2 => ?_⟩⟩
  cases hc : g ra.1 rb.1 with
  | none => rw [hc] at h; cases h
  | some t =>
    refine hs w2 (g1.rep.keep w1 k2) g2.rep hc _ fun v H3 k3 w3 g3 => ?_
    rw [hc] at h
    cases t with
    | bl t =>
      have h : (if t = true then bnd (fc ρ S2) fun c S => (g' rb.1 c.1).map fun z => ((z, Md.own), S) else some ((.bl false, .own), S2)) = some (r0, S') := h
      refine ⟨t, g3.rep.ofBl, ?_⟩
      cases t with
      | true =>
        rw [if_pos rfl] at h ⊢
        obtain ⟨rc, S3, h3, h⟩ := of_bnd h
        obtain ⟨z, hz, e⟩ := Option.map_eq_some_iff.mp h
        cases e
        exact ⟨ρ, S2, α2, Z2, rc, _, w3, ((en.keep wo k1).keep w1 k2).keep w2 k3, h3, fun v4 H4 α4 Z4 k4 w4 g4 =>
          hs' w4 ((g2.rep.keep w2 k3).keep w3 k4) g4.rep hz _ fun v5 H5 k5 w5 g5 => q v5 H5 α4 Z4 ((((k1.trans k2).trans k3).trans k4).trans k5) w5 (g5.back (((k1.trans k2).trans k3).trans k4).d)⟩
      | false =>
        rw [if_neg Bool.false_ne_true] at h ⊢
        cases h
        exact q (.bl false) H3 α2 Z2 ((k1.trans k2).trans k3) w3 (Got.im (.bl _) rfl)
    | _ => cases h
theorem e_chain {op op' : CmpOp} {r r' : R2} {g g' : W → W → Option W} (ho : OpR X (compareOp op) r) (hs : OS X.K r g) (ho' : OpR X (compareOp op') r') (hs' : OS X.K r' g') (ha : EE X a fa) (hb : EE X b fb) (hc : EE X c fc)
    (hm : lastMarks [op, op'] [b, c] = false := by with_unfolding_all rfl) : EE X (.Compare a [op, op'] [b, c] pos) (cChain g g' fa fb fc) :=
  PE.cons (pe_chain ho ho' ha hb hc hm) fun _ _ _ h => chain_ok hs hs' h
theorem t_chain {op op' : CmpOp} {r r' : R2} {g g' : W → W → Option W} (ho : OpR X (compareOp op) r) (hs : OS X.K r g) (ho' : OpR X (compareOp op') r') (hs' : OS X.K r' g') (ha : EE X a fa) (hb : EE X b fb) (hc : EE X c fc)
    (hm : lastMarks [op, op'] [b, c] = false := by with_unfolding_all rfl) : ET X (.Compare a [op, op'] [b, c] pos) (cB (cChain g g' fa fb fc)) :=
  PT.cons (pt_chain ho ho' ha hb hc hm) fun _ _ _ h => chain_ok hs hs' (test_ok h)
end

/-! ### any, all -/
def blsOf : List W → Option (List Bool)
  | [] => some []
  | .bl b :: ws => (blsOf ws).map (b :: ·)
  | _ :: _ => none
def gAny : Store → List W → Option W := fun _ ws => match ws with
  | [.lst us] => (blsOf us).map fun bs => .bl (bs.any id)
  | _ => none
def gAll : Store → List W → Option W := fun _ ws => match ws with
  | [.lst us] => (blsOf us).map fun bs => .bl (bs.all id)
  | _ => none
def gStr : Store → List W → Option W := fun _ ws => match ws with
  | [.int i] => if i.natAbs < 1073741824 then some (.str (toString i)) else none
  | _ => none
section
variable {K : PySem.W.Frag} {α : List Addr} {Z : Addr → Prop} {H : Hp}
theorem RepL.bls : ∀ {us : List W} {vs : List V} {bs : List Bool}, RepL K α Z H vs us → blsOf us = some bs → vs = bs.map V.bl
  | [], _, _, r, e => by
    cases e; cases r; rfl
  | .bl b :: us, _, _, r, e => by
    obtain ⟨cs, h, rfl⟩ := Option.map_eq_some_iff.mp e
    cases r with
    | cons r t => rw [(r.im (m := .frz) rfl).ofBl, RepL.bls t h]; rfl
theorem co_any : CO K (rAny K) gAny := by
  intro α Z H S vs ws c wo p hg Q q
  unfold gAny at hg
  split at hg
  · obtain ⟨v, rfl, r⟩ := one_of p
    obtain ⟨a, xs, rfl, h0, rl, _⟩ := r.ofLst
    obtain ⟨bs, h1, e⟩ := Option.map_eq_some_iff.mp hg
    subst e
    exact ⟨a, bs, rfl, by rw [← rl.bls h1]; exact .inl (.inl h0), q _ _ Keep.refl wo (Got.im (.bl _) rfl)⟩
  · cases hg
theorem co_all : CO K (rAll K) gAll := by
  intro α Z H S vs ws c wo p hg Q q
  unfold gAll at hg
  split at hg
  · obtain ⟨v, rfl, r⟩ := one_of p
    obtain ⟨a, xs, rfl, h0, rl, _⟩ := r.ofLst
    obtain ⟨bs, h1, e⟩ := Option.map_eq_some_iff.mp hg
    subst e
    exact ⟨a, bs, rfl, by rw [← rl.bls h1]; exact .inl (.inl h0), q _ _ Keep.refl wo (Got.im (.bl _) rfl)⟩
  · cases hg
theorem log_small {n : Nat} (h : n < 1073741824) : n.log2 < 1920 := by
  by_cases h0 : n = 0
  · subst h0; decide
  · have := (Nat.log2_lt h0 (k := 30)).mpr (by omega)
    omega
theorem co_str : CO K (fun xs H Q => ∃ i, xs = [V.int i] ∧ i.natAbs.log2 < 1920 ∧ Q (.str (toString i)) H) gStr := by
  intro α Z H S vs ws c wo p hg Q q
  unfold gStr at hg
  split at hg
  · obtain ⟨v, rfl, r⟩ := one_of p
    split at hg
    · rename_i hz
      cases hg
      rw [r.ofInt]
      exact ⟨_, rfl, log_small hz, q _ _ Keep.refl wo (Got.im (.str _) rfl)⟩
    · cases hg
  · cases hg
end
section
variable {X : Cx} {a b e : Expr} {fa fb fe : CE} {pos p : Pos}
theorem e_any (hc : X.calm = true) (hm : X.mg "any" = none) (h : EE X e fe) (hg : Gl X "any" := by rfl) (hs : starEach [e] X.env = (false, eval e X.env) :: starEach [] X.env := by rfl) : EE X (.Call (.Name "any" p) [e] [] pos) (cBi gAny (cCons fe cNil)) :=
  e_bi (cr_any hc) co_any hm (a_cons h a_nil hs) (by decide +kernel) hg (by decide) (by decide) hs
theorem e_all (hc : X.calm = true) (hm : X.mg "all" = none) (h : EE X e fe) (hg : Gl X "all" := by rfl) (hs : starEach [e] X.env = (false, eval e X.env) :: starEach [] X.env := by rfl) : EE X (.Call (.Name "all" p) [e] [] pos) (cBi gAll (cCons fe cNil)) :=
  e_bi (cr_all hc) co_all hm (a_cons h a_nil hs) (by decide +kernel) hg (by decide) (by decide) hs
theorem e_strI (hm : X.mg "str" = none) (h : EE X e fe) (hg : Gl X "str" := by rfl) (hs : starEach [e] X.env = (false, eval e X.env) :: starEach [] X.env := by rfl) : EE X (.Call (.Name "str" p) [e] [] pos) (cBi gStr (cCons fe cNil)) :=
  e_ty call_str_int co_str hm (a_cons h a_nil hs) (by decide +kernel) hg (by decide) (by decide) hs
theorem e_min2 (hc : X.calm = true) (hm : X.mg "min" = none) (ha : EE X a fa) (hb : EE X b fb) (hg : Gl X "min" := by rfl) (hs : starEach (a :: [b]) X.env = (false, eval a X.env) :: starEach [b] X.env := by rfl) (hs2 : starEach [b] X.env = (false, eval b X.env) :: starEach [] X.env := by rfl) (hpl : (backTo pos (starEach [b] X.env)).any (·.1) = false := by rfl) :
    EE X (.Call (.Name "min" p) [a, b] [] pos) (cBi gMin2 (cCons fa (cCons fb cNil))) :=
  e_bi (call_min2 hc) co_min2 hm (a_cons ha (a_cons hb a_nil hs2) hs) (by decide +kernel) hg (by decide) (by decide) hs hpl
theorem e_max2 (hc : X.calm = true) (hm : X.mg "max" = none) (ha : EE X a fa) (hb : EE X b fb) (hg : Gl X "max" := by rfl) (hs : starEach (a :: [b]) X.env = (false, eval a X.env) :: starEach [b] X.env := by rfl) (hs2 : starEach [b] X.env = (false, eval b X.env) :: starEach [] X.env := by rfl) (hpl : (backTo pos (starEach [b] X.env)).any (·.1) = false := by rfl) :
    EE X (.Call (.Name "max" p) [a, b] [] pos) (cBi gMax2 (cCons fa (cCons fb cNil))) :=
  e_bi (call_max2 hc) co_max2 hm (a_cons ha (a_cons hb a_nil hs2) hs) (by decide +kernel) hg (by decide) (by decide) hs hpl
end

/-! ### found.append(rest.pop(e)) -/
def cAppPop (i j : Nat) (f : CE) : CS := fun ρ S => bnd (f ρ S) fun r S => match r.1, ρ[j]?, ρ[i]? with
  | .int k, some (some (.lst us, .own)), some (some (.lst ws, .own)) => if i ≠ j ∧ 0 ≤ k ∧ k < 1000000 ∧ ws.length < sizeLine then (match us[k.toNat]? with
    | some u => some (.nx ((ρ.set j (some (.lst (us.eraseIdx k.toNat), .own))).set i (some (.lst (ws ++ [u]), .own))) S)
    | none => none) else none
  | _, _, _ => none
theorem RepL.erase {K : PySem.W.Frag} {α : List Addr} {Z : Addr → Prop} {H : Hp} : ∀ {vs : List V} {ws : List W} (n : Nat), RepL K α Z H vs ws → RepL K α Z H (vs.eraseIdx n) (ws.eraseIdx n)
  | _, _, _, .nil => .nil
  | _, _, 0, .cons _ t => t
  | _, _, n + 1, .cons r t => .cons r (RepL.erase n t)
section
variable {X : Cx} {e : Expr} {fe : CE} {pos p : Pos} {x : Str}
theorem s_appPop {apos cpos apos2 cpos2 p2 : Pos} {y : Str} (i j : Nat) (he : EE X e fe) (hN : X.N[i]? = some x := by rfl) (hv : Vis X.env.scope x := by first | exact Or.inl rfl | exact Or.inr (Or.inl rfl) | exact Or.inr (Or.inr rfl)) (hd : (x == ("__debug__" : Str)) = false := by decide)
    (hcd : (x == ("__classdict__" : Str)) = false := by decide) (hN2 : X.N[j]? = some y := by rfl) (hv2 : Vis X.env.scope y := by first | exact Or.inl rfl | exact Or.inr (Or.inl rfl) | exact Or.inr (Or.inr rfl)) (hd2 : (y == ("__debug__" : Str)) = false := by decide)
    (hcd2 : (y == ("__classdict__" : Str)) = false := by decide)
    (hbase : attributeBase (.Name x p) "append" X.env (eval (.Name x p) X.env) = eval (.Name x p) X.env := by rfl) (hbase2 : attributeBase (.Name y p2) "pop" X.env (eval (.Name y p2) X.env) = eval (.Name y p2) X.env := by rfl)
    (hfew : ((backTo cpos (starEach [.Call (.Attribute (.Name y p2) "pop" apos2) [e] [] cpos2] X.env)).all (fun x => !x.1) && (backToKw cpos (keywordEach [] X.env)).all (fun x => x.1.isSome)
      && decide (([Expr.Call (.Attribute (.Name y p2) "pop" apos2) [e] [] cpos2] : List Expr).length + ([] : List Keyword).length + (if ([] : List Keyword).isEmpty then 0 else 1) < 30)) = true := by rfl)
    (hfew2 : ((backTo cpos2 (starEach [e] X.env)).all (fun x => !x.1) && (backToKw cpos2 (keywordEach [] X.env)).all (fun x => x.1.isSome)
      && decide (([e] : List Expr).length + ([] : List Keyword).length + (if ([] : List Keyword).isEmpty then 0 else 1) < 30)) = true := by rfl)
    (hline : (apos.endLine == cpos.line) = true := by rfl) (hline2 : (apos2.endLine == cpos2.line) = true := by rfl)
    (hs : starEach [.Call (.Attribute (.Name y p2) "pop" apos2) [e] [] cpos2] X.env = (false, eval (.Call (.Attribute (.Name y p2) "pop" apos2) [e] [] cpos2) X.env) :: starEach [] X.env := by rfl)
    (hs2 : starEach [e] X.env = (false, eval e X.env) :: starEach [] X.env := by rfl) (hplain : (backTo cpos (starEach [] X.env)).any (·.1) = false := by rfl) (hplain2 : (backTo cpos2 (starEach [] X.env)).any (·.1) = false := by rfl)
    (hsw : swapsWith (.Call (.Attribute (.Name x p) "append" apos) [.Call (.Attribute (.Name y p2) "pop" apos2) [e] [] cpos2] [] cpos) none pos.line X.env = pure false := by rfl) :
    ES X (.Expr (.Call (.Attribute (.Name x p) "append" apos) [.Call (.Attribute (.Name y p2) "pop" apos2) [e] [] cpos2] [] cpos) pos) (cAppPop i j fe) :=
  PS.cons (ps_expr (pe_bm PySem.F.plainAttrs_list PySem.F.slot_list_append PySem.F.type_list_append mt_append (pe_var hN hv hd hcd)
    (pa_cons (pe_bm PySem.F.plainAttrs_list PySem.F.slot_list_pop PySem.F.type_list_pop mt_popAt (pe_var hN2 hv2 hd2 hcd2) (a_cons he a_nil hs2) hbase2 hfew2 hline2 hs2 hplain2) pa_nil hs) hbase hfew hline hs hplain) hsw) fun D σ H ⟨B, ρ, S, o, ⟨α, Z, at_⟩, h, q⟩ => by
    obtain ⟨r, S1, h1, h⟩ := of_bnd h
    obtain ⟨w, m⟩ := r
    dsimp only at h
    split at h
    · rename_i k us ws hrj hri
      split at h
      · rename_i hk
        obtain ⟨hij, hk0, hk1, hwl⟩ := hk
        split at h
        · rename_i u hu
          cases h
          obtain ⟨v, e1, r1⟩ := at_.e.slot i _ _ hri
          obtain ⟨c, xs, rfl, h0, rl, nα, c1, _⟩ := r1.ofLst
          obtain ⟨v2, e2, r2⟩ := at_.e.slot j _ _ hrj
          obtain ⟨c2, ys, rfl, h02, rl2, nα2, c12, _⟩ := r2.ofLst
          have hne : c ≠ c2 := fun e => at_.e.sep i j _ _ _ hij hri rfl hrj rfl (by rw [e1, e2, e])
          refine ⟨_, e1, .inl ⟨rfl, xs, .of h0⟩, _, e2, .inl ⟨rfl, ys, .of h02⟩, ρ, S, α, Z, [(.int k, m)], S1, at_.w, at_.e, (by unfold cCons; rw [h1]; rfl), fun vs H1 α1 Z1 k1 w1 g1 => ?_⟩
          cases g1 with
          | cons g gt =>
            cases gt
            have h3 : H1 c = some (.lst xs) := k1.h _ _ h0 nα
            have h4 : H1 c2 = some (.lst ys) := k1.h _ _ h02 nα2
            have rlk : RepL X.K α1 Z1 H1 xs ws := rl.keep at_.w k1
            have rlk2 : RepL X.K α1 Z1 H1 ys us := rl2.keep at_.w k1
            obtain ⟨yv, hy, ry⟩ := rlk2.get hu
            have hlen : k.toNat < ys.length := (List.getElem?_eq_some_iff.mp hy).1
            have at1 := at_.go k1 w1
            have at2 := at1.write hrj rfl e2 (.lst (ys.eraseIdx k.toNat) (us.eraseIdx k.toNat)) (rlk2.erase k.toNat)
            obtain ⟨o2, w02, xs02, ws02, h02', s02, nα2', nz2⟩ := at1.e.root ⟨j, _, hrj, rfl, e2⟩
            have put2 : ∀ {vs : List V} {wl : List W}, RepL X.K α1 Z1 H1 vs wl → RepL X.K α1 Z1 (upd H1 c2 (.lst (ys.eraseIdx k.toNat))) vs wl := fun r => RepL.put w1 nz2 h02' s02 r
            have hri2 : (ρ.set j (some (.lst (us.eraseIdx k.toNat), .own)))[i]? = some (some (.lst ws, .own)) := by rw [List.getElem?_set_ne (Ne.symm hij)]; exact hri
            refine ⟨c2, ys, k, k.toNat, yv, rfl, by rw [g.rep.ofInt], h4, by omega, by omega, ?_, hy, ?_⟩
            · unfold seqIndex?
              simp only [if_neg (show ¬ k < 0 by omega)]
              rw [if_pos (by simp; omega)]
            · refine ⟨c, xs, yv, rfl, rfl, by rw [upd_ne hne]; exact h3, by rw [rlk.length]; exact hwl, q _ _ ⟨α1, Z1, at2.write hri2 rfl e1 (.lst _ _) ((put2 rlk).append (put2 (.cons ry .nil)))⟩⟩
        · cases h
      · cases h
    · cases h
end
end Mp
/-! sorted(set(xs)) of a list of ints; code that no run reaches -/
namespace Mp
open PySem PySem.Spec PyProof.Rows L2

/-! ### set(xs) -/
section
variable {P : Program} {w : World} {A : Around} {E : Value → Shared → Prop} {s : Shared}
/-- an empty set -/
def eSet (w : World) : Obj := { cls := .type "set", dict := none, data := .set #[] 0 (.fresh 0 0 (!w.params.followText "set-order")) }
/-- what set(l) leaves -/
def SetGot (w : World) (s : Shared) (ns : List Int) (s' : Shared) : Prop := ∃ (h : Heap) (tk c : Nat), s' = { s with heap := h, toks := tk } ∧ SetR w h s.heap.objs.size (fun j => decide (j ∈ ns)) c ∧ c ≤ ns.length ∧ ∀ b o, s.heap.get? b = some o → h.get? b = some o
theorem new_get {h : Heap} {w : World} : (h.push (eSet w)).get? h.objs.size = some (eSet w) := Heap.get?_push_size _ rfl
theorem set_filled {l : Addr} {xs : Array Value} {ns : List Int} (hh : A.handled = none) (hl : s.heap.IsList l xs) (hi : IntsAre xs.toList ns) (hb : ns.length + 1 < scanBound) :
    codeAny (model P w) A (.call (.builtin "set.__init__") ⟨[.ref s.heap.objs.size, .ref l], []⟩) (wants (fun r s2 => r = .none ∧ SetGot w s ns s2) E) { s with heap := s.heap.push (eSet w) } := by
  have hn : xs.size = ns.length := (Array.length_toList (xs := xs)).symm.trans (IntsAre.length hi)
  have hT : Shared.TypeIs { s with heap := s.heap.push (eSet w) } (.ref s.heap.objs.size) "set" := ⟨_, new_get, rfl⟩
  have hl1 : (s.heap.push (eSet w)).IsList l xs := hl.push _
  have lS : l < s.heap.objs.size := by
    obtain ⟨_, e, _⟩ := hl
    exact Heap.lt_size e
  have zs : (s.heap.push (eSet w)).objs.size = s.heap.objs.size + 1 := Heap.size_push ..
  refine codeAny_call_builtin PySem.F.called_set.init.plain PySem.F.entry_set_init (check_set_init_1 hT ?_)
  obtain ⟨⟨cls, dd, data, sl⟩, hol, hc, n0, hd⟩ := id hl
  simp only at hc hd
  subst hc hd
  have hol1 : (s.heap.push (eSet w)).get? l = some ⟨_, dd, _, sl⟩ := Heap.get?_push_of_some _ hol
  have f1 := PySem.F.sub_list_set
  have f2 := PySem.F.sub_list_frozenset
  have f3 : (Value.type "list" == Value.type "dict") = false := by decide
  unfold Builtin.«set.__init__» noKeywords Builtin.Frozenset.updateFrom
  generalize hg : pyIter = pit
  wp_walk
  subst hg
  refine wpAny_pyIter_list hl1 (wpAny_bind (wpAny_runValue ?_))
  have dI : l ≠ (s.heap.push (eSet w)).objs.size := by
    rw [zs]
    exact Nat.ne_of_lt (Nat.lt_succ_of_lt lS)
  have aI : s.heap.objs.size ∉ [(s.heap.push (eSet w)).objs.size, l] := by
    intro h
    simp only [List.mem_cons, List.not_mem_nil, or_false] at h
    rcases h with h | h
    · rw [zs] at h
      exact Nat.ne_of_lt (Nat.lt_succ_self _) h
    · exact Nat.ne_of_gt lS h
  have vals : ∀ (i : Nat) (v : Value), xs[i]? = some v → ∃ k t, ns[i]? = some k ∧ v = .int k t := fun i v e => by
    obtain ⟨k, t, e1, e2⟩ := IntsAre.at hi i v (by rw [Array.getElem?_toList]; exact e)
    exact ⟨k, t, e2, e1⟩
  refine set_update_ints ((Walks.list (A := A.in1.in1) (by simp [hh]) _ l dI xs).toS) s.heap.objs.size aI ns hn hb vals (xs.size - 0) 0 _ (by omega) (Nat.zero_le _) ?st ?s0 fun s' c hm hc' hS' => ?_
  case st => exact ⟨⟨_, Heap.get?_push_size _ rfl, rfl, rfl⟩, hl1.push _⟩
  case s0 => exact ⟨0, Nat.le_refl 0, setR_new_at (Heap.get?_push_of_some _ new_get)⟩
  obtain ⟨h', g2, d', tk', os'⟩ := s'
  have eg : g2 = s.gens := hm.gens
  have ed : d' = s.drawn := hm.drawn
  have eo : os' = s.os := hm.os
  subst eg ed eo
  refine wpAny_pure (wpAny_pure ⟨rfl, h', tk', c, rfl, hS', by omega, fun b o e => ?_⟩)
  have hb0 : b < s.heap.objs.size := Heap.lt_size e
  refine hm.heap b o ?_ (Heap.get?_push_of_some _ (Heap.get?_push_of_some _ e))
  intro h
  simp only [List.mem_cons, List.not_mem_nil, or_false] at h
  rcases h with h | h
  · exact Nat.ne_of_lt hb0 h
  · rw [zs] at h
    exact Nat.ne_of_lt (Nat.lt_succ_of_lt hb0) h
theorem set_call {l : Addr} {xs : Array Value} {ns : List Int} {Q : Value → Shared → Prop} (hh : A.handled = none) (hl : s.heap.IsList l xs) (hi : IntsAre xs.toList ns) (hb : ns.length + 1 < scanBound)
    (h : ∀ s', SetGot w s ns s' → Q (.ref s.heap.objs.size) s') : wpAny (model P w) A (call (.type "set") [.ref l]) Q E s := by
  obtain ⟨c, tl, mro⟩ := PySem.F.called_set.mro
  have m1 := PySem.F.called_set.made
  have m2 := PySem.F.called_set.sub
  have m3 := PySem.F.called_set.notType
  have m4 := PySem.F.called_set.canCreate
  have m5 := PySem.F.typeCall_set_1 (.ref l)
  refine wpAny_call (codeAny_of_tree (show wpAny _ _ (callAny (.type "set") _) _ _ _ from wpAny_pure ⟨Code.quiet_builtin _ (by decide +kernel), codeAny_builtin PySem.F.entry_type_call ?_⟩))
  rw [Around.under_plain (weight_type_call_type "set" [Value.ref l] []) rfl]
  repeat (any_goals (first | assumption | wp_step))
  refine codeAny_mono (code_set_led1 (.ref l) (E := E) (Q₁ := fun z t => z = .ref s.heap.objs.size ∧ t = { s with heap := s.heap.push (eSet w) }) ⟨rfl, rfl⟩) fun r t ht => ?_
  match r, ht with
  | .error _, ht => exact ht
  | .ok (.ret z), ht =>
    obtain ⟨rfl, rfl⟩ := ht
    have i0 : Shared.TypeIs { s with heap := s.heap.push (eSet w) } (.ref s.heap.objs.size) "set" := ⟨_, new_get, rfl⟩
    have i1 := PySem.F.called_set.init.lookup
    have i2 := PySem.F.called_set.init.bind (.ref s.heap.objs.size)
    repeat (any_goals (first | assumption | wp_step))
    refine codeAny_mono (set_filled (P := P) (E := E) (by simp [hh]) hl hi hb) fun r t ht => ?_
    match r, ht with
    | .error _, ht => exact ht
    | .ok (.ret z), ht =>
      obtain ⟨rfl, ht⟩ := ht
      repeat (any_goals (first | assumption | wp_step))
      exact h _ ht
end

section
variable {X : Cx}
def rSetL (w : World) (K : PySem.W.Frag) : List V → Hp → VK → Prop := fun xs H Q => ∃ (a : Addr) (ns : List Int), xs = [V.ref a] ∧ SqL K H a (ns.map V.int) ∧ ns.length + 1 < scanBound ∧ ∀ p c, c ≤ ns.length → H p = none → Q (.ref p) (upd H p (SetO w p (fun j => decide (j ∈ ns)) c))
theorem cr_setL (hc : X.calm = true) : CallR X (.type "set") (rSetL X.w X.K) := fun pins s σ H xs us Q I r h => by
  obtain ⟨a, ns, rfl, hs, hb, q⟩ := h
  obtain ⟨its, rv, hl, _⟩ := I.list hs
  rw [Vals.ref1 r]
  refine set_call (I.ok.hd hc) hl.isList (by simpa using rv.ints) hb fun s' g => ?_
  obtain ⟨h', tk, c, rfl, R, hcn, hk⟩ := g
  exact ⟨.ref _, _, I.laid (t' := tk) (fun b u e => hk b u e) (Nat.le_refl _) (setO_new R), rfl, q _ _ hcn (I.hok.fresh (Nat.le_refl _))⟩
end
/-- the members, rising -/
def insU (x : Int) : List Int → List Int
  | [] => [x]
  | y :: ys => if x < y then x :: y :: ys else if x = y then y :: ys else y :: insU x ys
def sortU (ns : List Int) : List Int := ns.foldr insU []
theorem insU_mem (x z : Int) : ∀ ys : List Int, z ∈ insU x ys ↔ z = x ∨ z ∈ ys
  | [] => by simp [insU]
  | y :: ys => by
    unfold insU
    split
    · simp
    · split
      · rename_i e
        subst e
        simp
      · rw [List.mem_cons, insU_mem x z ys, List.mem_cons]
        constructor <;> (rintro (h | h | h) <;> simp [h])
theorem insU_rise (x : Int) : ∀ {ys : List Int}, ys.Pairwise (· < ·) → (insU x ys).Pairwise (· < ·)
  | [], _ => by simp [insU]
  | y :: ys, h => by
    obtain ⟨h1, h2⟩ := List.pairwise_cons.mp h
    unfold insU
    split
    · rename_i hx
      exact List.pairwise_cons.mpr ⟨fun z hz => by
        rcases List.mem_cons.mp hz with e | e
        · rw [e]; exact hx
        · have := h1 z e; omega, h⟩
    · split
      · exact h
      · refine List.pairwise_cons.mpr ⟨fun z hz => ?_, insU_rise x h2⟩
        rcases (insU_mem x z ys).mp hz with e | e
        · subst e; omega
        · exact h1 z e
theorem sortU_mem (z : Int) : ∀ ns : List Int, z ∈ sortU ns ↔ z ∈ ns
  | [] => by simp [sortU]
  | n :: ns => by
    show z ∈ insU n (sortU ns) ↔ _
    rw [insU_mem, sortU_mem z ns, List.mem_cons]
theorem sortU_rise : ∀ ns : List Int, (sortU ns).Pairwise (· < ·)
  | [] => .nil
  | n :: ns => insU_rise n (sortU_rise ns)
/-- strictly rising lists of the same members are the same -/
theorem rise_eq : ∀ {xs ys : List Int}, xs.Pairwise (· < ·) → ys.Pairwise (· < ·) → (∀ z, z ∈ xs ↔ z ∈ ys) → xs = ys
  | [], [], _, _, _ => rfl
  | [], y :: ys, _, _, h => absurd ((h y).mpr List.mem_cons_self) List.not_mem_nil
  | x :: xs, [], _, _, h => absurd ((h x).mp List.mem_cons_self) List.not_mem_nil
  | x :: xs, y :: ys, hx, hy, h => by
    obtain ⟨hx1, hx2⟩ := List.pairwise_cons.mp hx
    obtain ⟨hy1, hy2⟩ := List.pairwise_cons.mp hy
    have e : x = y := by
      rcases List.mem_cons.mp ((h x).mp List.mem_cons_self) with e | e
      · exact e
      · rcases List.mem_cons.mp ((h y).mpr List.mem_cons_self) with e2 | e2
        · exact e2.symm
        · have := hx1 y e2
          have := hy1 x e
          omega
    subst e
    congr 1
    refine rise_eq hx2 hy2 fun z => ⟨fun hz => ?_, fun hz => ?_⟩
    · rcases List.mem_cons.mp ((h z).mp (List.mem_cons_of_mem _ hz)) with e | e
      · have := hx1 z hz; omega
      · exact e
    · rcases List.mem_cons.mp ((h z).mpr (List.mem_cons_of_mem _ hz)) with e | e
      · have := hy1 z hz; omega
      · exact e
def intsOf : List W → Option (List Int)
  | [] => some []
  | .int i :: ws => (intsOf ws).map (i :: ·)
  | _ :: _ => none
theorem intsOf_map (ns : List Int) : intsOf (ns.map .int) = some ns := by
  induction ns with
  | nil => rfl
  | cons n ns ih =>
    rw [List.map_cons]
    unfold intsOf
    rw [ih]
    rfl
theorem RepL.ofInts {K : PySem.W.Frag} {α : List Addr} {Z : Addr → Prop} {H : Hp} : ∀ {us : List W} {vs : List V} {ns : List Int}, RepL K α Z H vs us → intsOf us = some ns → vs = ns.map V.int
  | [], _, _, r, e => by
    cases e; cases r; rfl
  | .int b :: us, _, _, r, e => by
    obtain ⟨cs, h, rfl⟩ := Option.map_eq_some_iff.mp e
    cases r with
    | cons r t => rw [(r.im (m := .frz) rfl).ofInt, RepL.ofInts t h]; rfl
/-- sorted(set(xs)) -/
def gSortSet : Store → List W → Option W := fun _ ws => match ws with
  | [.lst us] => (match intsOf us with
    | some ns => if ns.length < 64 then some (.lst ((sortU ns).map .int)) else none
    | none => none)
  | _ => none
section
variable {X : Cx} {e : Expr} {fe : CE} {pos p pos2 p2 : Pos}
theorem scan64 {n : Nat} (h : n < 64) : n + 1 < scanBound := by
  have : 100 < scanBound := by decide +kernel
  omega
theorem e_sortSet (hc : X.calm = true) (hm : X.mg "sorted" = none) (hm2 : X.mg "set" = none) (h : EE X e fe) (hg : Gl X "sorted" := by rfl) (hg2 : Gl X "set" := by rfl)
    (hs2 : starEach [e] X.env = (false, eval e X.env) :: starEach [] X.env := by rfl) (hpl2 : (backTo pos2 (starEach [] X.env)).any (·.1) = false := by rfl)
    (hs : starEach [.Call (.Name "set" p2) [e] [] pos2] X.env = (false, eval (.Call (.Name "set" p2) [e] [] pos2) X.env) :: starEach [] X.env := by rfl) (hpl : (backTo pos (starEach [] X.env)).any (·.1) = false := by rfl) :
    EE X (.Call (.Name "sorted" p) [.Call (.Name "set" p2) [e] [] pos2] [] pos) (cBi gSortSet (cCons fe cNil)) :=
  PE.cons (pe_callB (cr_sortedSet hc) hg hm (by decide +kernel) (pa_cons (pe_callTy (cr_setL hc) hg2 hm2 (by decide +kernel) (a_cons h a_nil hs2) (by decide) (by decide) hs2 hpl2) pa_nil hs) (by decide) (by decide) hs hpl) fun σ H Q ⟨ρ, S, α, Z, r', S', wo, en, h, q⟩ => by
    obtain ⟨rs, S1, h1, h⟩ := of_bnd h
    obtain ⟨c, hg, e⟩ := Option.map_eq_some_iff.mp h
    cases e
    refine ⟨ρ, S, α, Z, rs, _, wo, en, h1, fun vs H1 α1 Z1 k1 w1 g1 => ?_⟩
    have gv := got_vals g1
    unfold gSortSet at hg
    split at hg
    · rename_i us hus
      rw [hus] at gv
      obtain ⟨v, rfl, r⟩ := one_of gv
      obtain ⟨a, xs, rfl, h0, rl, _⟩ := r.ofLst
      split at hg
      · rename_i ns hns
        split at hg
        · rename_i hl
          cases hg
          refine ⟨a, ns, rfl, by rw [← rl.ofInts hns]; exact .inl (.inl h0), scan64 hl, fun p c hcn hp => ?_⟩
          refine ⟨p, _, c, rfl, upd_same, by omega, fun ks l hr hm hkl hl2 => ?_⟩
          have ek : ks = sortU ns := rise_eq hr (sortU_rise ns) fun z => by
            rw [hm z, sortU_mem]
            simp
          subst ek
          have k2 : Keep H1 α1 Z1 (upd H1 p (SetO X.w p (fun j => decide (j ∈ ns)) c)) α1 Z1 := Keep.new hp
          have w2 := w1.new (u := SetO X.w p (fun j => decide (j ∈ ns)) c) hp
          exact new_list (m := .own) w2 (RepL.ints (ns := sortU ns)) (fun v H3 k3 w3 g3 => q v H3 α1 Z1 ((k1.trans k2).trans k3) w3 (g3.back (k1.trans k2).d)) l hl2
        · cases hg
      · cases hg
    · cases hg

/-! ### code that no run reaches -/
def cStopE : CE := fun _ _ => none
def cStopS : CS := fun _ _ => none
theorem e_stop {e : Expr} : EE X e cStopE := ⟨fun pins s σ H Q I ⟨_, _, _, _, _, _, _, _, h, _⟩ => by cases h⟩
theorem t_stop {e : Expr} : ET X e (fun _ _ => none) := ⟨fun pins s σ H Q I ⟨_, _, _, _, _, _, _, _, h, _⟩ => by cases h⟩
theorem s_stop {st : Stmt} : ES X st cStopS := ⟨fun pins s σ H D I h0 => by
  obtain ⟨_, _, _, _, _, h, _⟩ := h0
  cases h⟩
end
end Mp
/-! list(range(n)) -/
namespace Mp
open PySem PySem.Spec PyProof.Rows L2
section
variable {X : Cx}
theorem cr_rangeN : CallR X (.type "range") (fun vs H Q => ∃ j, vs = [V.int j] ∧ ∀ p, H p = none → Q (.ref p) (upd H p (.rng 0 j))) := fun pins s σ H vs us Q I r h => by
  obtain ⟨j, rfl, q⟩ := h
  obtain ⟨u1, rfl, t, rfl⟩ := vals1 r
  refine call_range_1 ⟨.ref s.heap.objs.size, _, I.laid (t' := s.toks + 1 + 1) (fun b o e => Heap.get?_push_of_some _ e) (Nat.le_refl _) (show ObjOk X.prog X.w _ _ _ (.rng 0 j) from ⟨_, _, _, Heap.get?_push_size _ rfl⟩), rfl, q _ (I.hok.fresh (Nat.le_refl _))⟩
theorem vals_ofItems : ∀ {xs : List Value} {n : Nat} (k : Nat), xs.length = n → (∀ i v, xs[i]? = some v → ∃ t, v = Value.int (((k + i : Nat)) : Int) t) → Vals ((List.range' k n).map fun i : Nat => V.int ((i : Nat) : Int)) xs
  | [], n, k, h, _ => by
    subst h; exact .nil
  | x :: xs, n, k, h, hv => by
    subst h
    rw [List.length_cons, List.range'_succ, List.map_cons]
    obtain ⟨t, e⟩ := hv 0 x rfl
    subst e
    refine .cons ⟨t, rfl⟩ (vals_ofItems (k + 1) rfl fun i v e => ?_)
    obtain ⟨t2, e2⟩ := hv (i + 1) v (by simpa using e)
    exact ⟨t2, by rw [e2]; congr 2; omega⟩
theorem rsz (n : Nat) : Builtin.Range.rangeSize 0 ((n : Nat) : Int) 1 = ((n : Nat) : Int) := by
  unfold Builtin.Range.rangeSize
  rw [if_pos (by omega)]
  split <;> omega
theorem fitL {n : Nat} (h : n ≤ 1000000) : Builtin.Range.rangeFitsLong ((n : Nat) : Int) = true := by
  unfold Builtin.Range.rangeFitsLong
  simp
  omega
theorem fitL0 : Builtin.Range.rangeFitsLong 0 = true := fitL (n := 0) (by omega)
theorem fitL1 : Builtin.Range.rangeFitsLong 1 = true := fitL (n := 1) (by omega)
theorem cr_listRng (hc : X.calm = true) : CallR X (.type "list") (fun vs H Q => ∃ (p : Addr) (n : Nat), vs = [V.ref p] ∧ H p = some (.rng 0 ((n : Nat) : Int)) ∧ n ≤ 1000000 ∧ ∀ l, H l = none → Q (.ref l) (upd H l (.lst ((List.range n).map fun i : Nat => V.int ((i : Nat) : Int))))) := fun pins s σ H vs us Q I r h => by
  obtain ⟨p, n, rfl, hp, hn, q⟩ := h
  rw [Vals.ref1 r]
  obtain ⟨t, u, v, e⟩ := I.hok p _ hp
  refine call_list_range (n := n) (I.ok.hd hc) e ?_ ?_ (by omega) fun h' tk acc c' hk hS hacc => ?_
  · unfold Builtin.Range.small
    simp only [rsz n, fitL0, fitL1, fitL (by omega), Bool.and_true, Bool.true_and, Bool.or_true]
    rw [if_pos (by decide), show ((n : Nat) : Int) + (1 - 1) = ((n : Nat) : Int) by omega, fitL (by omega), Bool.or_true]
  · exact rsz n
  · have hv : Vals ((List.range n).map fun i : Nat => V.int ((i : Nat) : Int)) acc.toList := by
      rw [List.range_eq_range']
      refine vals_ofItems 0 (by rw [Array.length_toList]; exact hacc.1) fun i v e => ?_
      obtain ⟨t, e2⟩ := hacc.2 i v (by simpa using e)
      exact ⟨t, by rw [e2]; congr 1; omega⟩
    have hz : ((List.range n).map fun i : Nat => V.int ((i : Nat) : Int)).length ≤ sizeLine := by rw [List.length_map, List.length_range]; exact size_ok (by omega)
    exact ⟨.ref _, _, I.laid (t' := tk) hk (Nat.le_refl _) (show ObjOk X.prog X.w _ _ _ (.lst _) from ⟨hz, acc.toList, c', hv, by simpa using hS⟩), rfl, q _ (I.hok.fresh (Nat.le_refl _))⟩
/-- list(range(e)) -/
def gListRange : Store → List W → Option W := fun _ ws => match ws with
  | [.int j] => if j.natAbs ≤ 1000000 ∧ 0 ≤ j then some (.lst ((List.range j.toNat).map fun i : Nat => W.int ((i : Nat) : Int))) else none
  | _ => none
variable {e : Expr} {fe : CE} {pos p pos2 p2 : Pos}
theorem RepL.rng {K : PySem.W.Frag} {α : List Addr} {Z : Addr → Prop} {H : Hp} : ∀ l : List Nat, RepL K α Z H (l.map fun i : Nat => V.int ((i : Nat) : Int)) (l.map fun i : Nat => W.int ((i : Nat) : Int))
  | [] => .nil
  | x :: xs => .cons (.int _) (RepL.rng xs)
theorem e_listRange (hc : X.calm = true) (hm : X.mg "list" = none) (hm2 : X.mg "range" = none) (h : EE X e fe) (hg : Gl X "list" := by rfl) (hg2 : Gl X "range" := by rfl)
    (hs2 : starEach [e] X.env = (false, eval e X.env) :: starEach [] X.env := by rfl) (hpl2 : (backTo pos2 (starEach [] X.env)).any (·.1) = false := by rfl)
    (hs : starEach [.Call (.Name "range" p2) [e] [] pos2] X.env = (false, eval (.Call (.Name "range" p2) [e] [] pos2) X.env) :: starEach [] X.env := by rfl) (hpl : (backTo pos (starEach [] X.env)).any (·.1) = false := by rfl) :
    EE X (.Call (.Name "list" p) [.Call (.Name "range" p2) [e] [] pos2] [] pos) (cBi gListRange (cCons fe cNil)) :=
  PE.cons (pe_callTy (cr_listRng hc) hg hm (by decide +kernel) (pa_cons (pe_callTy cr_rangeN hg2 hm2 (by decide +kernel) (a_cons h a_nil hs2) (by decide) (by decide) hs2 hpl2) pa_nil hs) (by decide) (by decide) hs hpl) fun σ H Q ⟨ρ, S, α, Z, r', S', wo, en, h, q⟩ => by
    obtain ⟨rs, S1, h1, h⟩ := of_bnd h
    obtain ⟨c, hg, e⟩ := Option.map_eq_some_iff.mp h
    cases e
    refine ⟨ρ, S, α, Z, rs, _, wo, en, h1, fun vs H1 α1 Z1 k1 w1 g1 => ?_⟩
    have gv := got_vals g1
    unfold gListRange at hg
    split at hg
    · rename_i j hj
      rw [hj] at gv
      obtain ⟨v, rfl, r⟩ := one_of gv
      split at hg
      · rename_i hl
        cases hg
        rw [r.ofInt]
        refine ⟨j, rfl, fun p hp => ⟨p, j.toNat, rfl, by rw [upd_same, Int.toNat_of_nonneg hl.2], by omega, fun l hl2 => ?_⟩⟩
        have k2 : Keep H1 α1 Z1 (upd H1 p (.rng 0 j)) α1 Z1 := Keep.new hp
        have w2 := w1.new (u := .rng 0 j) hp
        exact new_list (m := .own) w2 (RepL.rng (List.range j.toNat)) (fun v H3 k3 w3 g3 => q v H3 α1 Z1 ((k1.trans k2).trans k3) w3 (g3.back (k1.trans k2).d)) l hl2
      · cases hg
    · cases hg
end
end Mp
/-! what many laws share: their drawing of literals, bodies, models (the combinators are printed by mkg.py out of g76.txt) -/
namespace Lg
open PySem PySem.Spec PyProof.Rows L2 Mp
def c_law_terms : CS :=
  cSeq (cAsg (tName 2) (cLst cNil))
  (cSeq (cFor (tName 3) (iRange1 (cVar 1)) (cSeq (cAsg (tName 4) (cBin Mp.gSub (cCall mDraw (cCons (cVar 0) (cCons (cLit (.int 7)) cNil))) (cLit (.int 3))))
  (cIfS (cB (cBin (gEq true) (cVar 4) (cLit (.int 0)))) (cApp 2 (cTup (cCons (cVar 3) (cCons (cVar 4) cNil)))) (cSkip))))
  (cRet (cBi gTuple (cCons (cVar 2) cNil))))
def m_law_terms : FnSem := cFn 2 5 c_law_terms
def c_law_literal : CS :=
  cSeq (cAsg (tName 2) (cIx (cLst (cCons (cLit (.str "<=")) (cCons (cLit (.str ">=")) (cCons (cLit (.str "=")) (cCons (cLit (.str "!=")) cNil))))) (cCall mDraw (cCons (cVar 0) (cCons (cLit (.int 4)) cNil)))))
  (cRet (cTup (cCons (cCall mDraw (cCons (cVar 0) (cCons (cVar 1) cNil))) (cCons (cVar 2) (cCons (cBin Mp.gSub (cCall mDraw (cCons (cVar 0) (cCons (cLit (.int 9)) cNil))) (cLit (.int 3))) cNil)))))
def m_law_literal : FnSem := cFn 2 3 c_law_literal
def c_law_some : CS :=
  cSeq (cAsg (tName 3) (cBi gListRange (cCons (cVar 1) cNil)))
  (cSeq (cAsg (tName 4) (cLst cNil))
  (cSeq (cFor (tName 5) (iRange1 (cBin gAdd (cVar 2) (cCall mDraw (cCons (cVar 0) (cCons (cBin gAdd (cBin Mp.gSub (cVar 1) (cVar 2)) (cLit (.int 1))) cNil))))) (cAppPop 4 3 (cCall mDraw (cCons (cVar 0) (cCons (cBi gLen (cCons (cVar 3) cNil)) cNil)))))
  (cRet (cBi gTuple (cCons (cVar 4) cNil)))))
def m_law_some : FnSem := cFn 3 6 c_law_some
def c_law_body : CS :=
  cSeq (cAsg (tName 2) (cCall mDraw (cCons (cVar 0) (cCons (cLit (.int 8)) cNil))))
  (cSeq (cAsg (tName 3) (cIx (cLst (cCons (cLit (.str "<=")) (cCons (cLit (.str ">=")) (cCons (cLit (.str "=")) cNil)))) (cCall mDraw (cCons (cVar 0) (cCons (cLit (.int 3)) cNil)))))
  (cSeq (cIfS (cB (cBin (gEq false) (cVar 2) (cLit (.int 2)))) (cSeq (cAsg (tName 4) (cLst cNil))
  (cSeq (cFor (tName 5) (iRange1 (cBin gAdd (cLit (.int 1)) (cCall mDraw (cCons (cVar 0) (cCons (cLit (.int 3)) cNil))))) (cSeq (cAsg (tName 6) (cCall m_law_literal (cCons (cVar 0) (cCons (cVar 1) cNil))))
  (cIfS (cB (cBin (gIn true) (cVar 6) (cVar 4))) (cApp 4 (cVar 6)) (cSkip))))
  (cRet (cTup (cCons (cLit (.str "any")) (cCons (cBi gTuple (cCons (cVar 4) cNil)) cNil)))))) (cSkip))
  (cSeq (cIfS (cB (cBin (gEq false) (cVar 2) (cLit (.int 3)))) (cSeq (cAsg (tName 6) (cCall m_law_literal (cCons (cVar 0) (cCons (cVar 1) cNil))))
  (cRet (cTup (cCons (cLit (.str "when")) (cCons (cVar 6) (cCons (cCall m_law_terms (cCons (cVar 0) (cCons (cVar 1) cNil))) (cCons (cVar 3) (cCons (cBin Mp.gSub (cCall mDraw (cCons (cVar 0) (cCons (cLit (.int 16)) cNil))) (cLit (.int 6))) cNil)))))))) (cSkip))
  (cSeq (cIfS ((cAndT (cB (cBin (gEq false) (cVar 2) (cLit (.int 4)))) (cB (cBin gGt (cVar 1) (cLit (.int 1)))))) (cRet (cTup (cCons (cLit (.str "different")) (cCons (cCall m_law_some (cCons (cVar 0) (cCons (cVar 1) (cCons (cLit (.int 2)) cNil)))) cNil)))) (cSkip))
  (cSeq (cIfS (cB (cBin (gEq false) (cVar 2) (cLit (.int 5)))) (cSeq (cAsg (tName 7) (cSl (cCall m_law_some (cCons (cVar 0) (cCons (cVar 1) (cCons (cLit (.int 1)) cNil)))) oNone (oSome (cLit (.int 3)))))
  (cSeq (cAsg (tName 8) (cLst cNil))
  (cSeq (cFor (tName 5) (iRange1 (cBin gAdd (cLit (.int 1)) (cCall mDraw (cCons (cVar 0) (cCons (cLit (.int 4)) cNil))))) (cApp 8 (cBi gTuple (cCons (cLc (tName 10) (iVar 7) tYesT (cBin Mp.gSub (cCall mDraw (cCons (cVar 0) (cCons (cLit (.int 7)) cNil))) (cLit (.int 2))) [10]) cNil))))
  (cRet (cTup (cCons (cLit (.str "table")) (cCons (cVar 7) (cCons (cBi gTuple (cCons (cVar 8) cNil)) cNil)))))))) (cSkip))
  (cSeq (cIfS (cB (cBin (gEq false) (cVar 2) (cLit (.int 6)))) (cSeq (cAsg (tName 9) (cLc (tName 5) (iRange1 (cBin gAdd (cLit (.int 1)) (cCall mDraw (cCons (cVar 0) (cCons (cLit (.int 4)) cNil))))) tYesT (cBin Mp.gSub (cCall mDraw (cCons (cVar 0) (cCons (cLit (.int 7)) cNil))) (cLit (.int 2))) [5]))
  (cRet (cTup (cCons (cLit (.str "element")) (cCons (cCall mDraw (cCons (cVar 0) (cCons (cVar 1) cNil))) (cCons (cBi gTuple (cCons (cVar 9) cNil)) (cCons (cCall mDraw (cCons (cVar 0) (cCons (cVar 1) cNil))) cNil))))))) (cSkip))
  (cSeq (cIfS (cB (cBin (gEq false) (cVar 2) (cLit (.int 7)))) (cRet (cTup (cCons (cLit (.str "times")) (cCons (cCall mDraw (cCons (cVar 0) (cCons (cVar 1) cNil))) (cCons (cCall mDraw (cCons (cVar 0) (cCons (cVar 1) cNil))) (cCons (cCall mDraw (cCons (cVar 0) (cCons (cVar 1) cNil))) cNil)))))) (cSkip))
  (cRet (cTup (cCons (cLit (.str "row")) (cCons (cCall m_law_terms (cCons (cVar 0) (cCons (cVar 1) cNil))) (cCons (cVar 3) (cCons (cBin Mp.gSub (cCall mDraw (cCons (cVar 0) (cCons (cLit (.int 16)) cNil))) (cLit (.int 6))) cNil)))))))))))))
def m_law_body : FnSem := cFn 2 11 c_law_body
def c_law_world : CS :=
  cSeq (cAsg (tName 4) (cLst cNil))
  (cSeq (cFor (tName 5) (iRange1 (cBin gAdd (cLit (.int 1)) (cCall mDraw (cCons (cVar 0) (cCons (cVar 1) cNil))))) (cSeq (cAsg (tName 9) (cBin Mp.gSub (cCall mDraw (cCons (cVar 0) (cCons (cLit (.int 5)) cNil))) (cLit (.int 2))))
  (cApp 4 (cTup (cCons (cIx (cLst (cCons (cLit (.str "x")) (cCons (cLit (.str "y")) (cCons (cLit (.str "z")) (cCons (cLit (.str "u")) (cCons (cLit (.str "w")) cNil)))))) (cVar 5)) (cCons (cVar 9) (cCons (cBin gAdd (cVar 9) (cCall mDraw (cCons (cVar 0) (cCons (cVar 2) cNil)))) cNil)))))))
  (cSeq (cAsg (tName 6) (cBi gLen (cCons (cVar 4) cNil)))
  (cSeq (cAsg (tName 7) (cLc (tName 10) (iRange1 (cCall mDraw (cCons (cVar 0) (cCons (cBin gAdd (cVar 3) (cLit (.int 1))) cNil)))) tYesT (cTup (cCons (cBin gAdd (cLit (.str "c")) (cBi gStr (cCons (cVar 10) cNil))) (cCons (cCall m_law_body (cCons (cVar 0) (cCons (cVar 6) cNil))) cNil))) [10]))
  (cSeq (cAsg (tName 8) (cTup (cCons (cIx (cLst (cCons (cLit (.str "max")) (cCons (cLit (.str "min")) cNil))) (cCall mDraw (cCons (cVar 0) (cCons (cLit (.int 2)) cNil)))) (cCons (cCall m_law_terms (cCons (cVar 0) (cCons (cVar 6) cNil))) (cCons (cBin Mp.gSub (cCall mDraw (cCons (cVar 0) (cCons (cLit (.int 5)) cNil))) (cLit (.int 2))) cNil)))))
  (cSeq (cIfS (cB (cBin (gEq false) (cCall mDraw (cCons (cVar 0) (cCons (cLit (.int 5)) cNil))) (cLit (.int 0)))) (cAsg (tName 8) (cTup (cCons (cLit (.str "max")) (cCons (cTup cNil) (cCons (cLit (.int 0)) cNil))))) (cSkip))
  (cFz [4, 7] (cRet (cLst (cCons (cVar 4) (cCons (cVar 7) (cCons (cVar 8) cNil)))))))))))
def m_law_world : FnSem := cFn 4 11 c_law_world
def c_law_rel : CS :=
  cSeq (cIfS (cB (cBin (gEq false) (cVar 0) (cLit (.str "<=")))) (cRet (cBin gLe (cVar 1) (cVar 2))) (cSkip))
  (cSeq (cIfS (cB (cBin (gEq false) (cVar 0) (cLit (.str ">=")))) (cRet (cBin gGe (cVar 1) (cVar 2))) (cSkip))
  (cRet (cBin (gEq false) (cBin (gEq false) (cVar 1) (cVar 2)) (cBin (gEq false) (cVar 0) (cLit (.str "="))))))
def m_law_rel : FnSem := cFn 3 3 c_law_rel
def c_law_sum : CS :=
  cSeq (cAsg (tName 2) (cLit (.int 0)))
  (cSeq (cFor (tTup 2 (tCons (tName 3) (tCons (tName 4) tNil))) (iVar 0) (cAsg (tName 2) (cBin gAdd (cVar 2) (cBin gMul (cVar 4) (cIx (cVar 1) (cVar 3))))))
  (cRetV 2))
def m_law_sum : FnSem := cFn 2 5 c_law_sum
def c_law_lit : CS :=
  cRet (cCall m_law_rel (cCons (cIx (cVar 0) (cLit (.int 1))) (cCons (cIx (cVar 1) (cIx (cVar 0) (cLit (.int 0)))) (cCons (cIx (cVar 0) (cLit (.int 2))) cNil))))
def m_law_lit : FnSem := cFn 2 2 c_law_lit
def c_law_holds : CS :=
  cSeq (cIfS (cB (cBin (gEq false) (cIx (cVar 0) (cLit (.int 0))) (cLit (.str "row")))) (cRet (cCall m_law_rel (cCons (cIx (cVar 0) (cLit (.int 2))) (cCons (cCall m_law_sum (cCons (cIx (cVar 0) (cLit (.int 1))) (cCons (cVar 1) cNil))) (cCons (cIx (cVar 0) (cLit (.int 3))) cNil))))) (cSkip))
  (cSeq (cIfS (cB (cBin (gEq false) (cIx (cVar 0) (cLit (.int 0))) (cLit (.str "any")))) (cRet (cBin (gIn false) (cLit (.bl true)) (cLc (tName 5) (iExp (cIx (cVar 0) (cLit (.int 1)))) tYesT (cCall m_law_lit (cCons (cVar 5) (cCons (cVar 1) cNil))) [5]))) (cSkip))
  (cSeq (cIfS (cB (cBin (gEq false) (cIx (cVar 0) (cLit (.int 0))) (cLit (.str "when")))) (cRet ((cOrV (cNotV (cCall m_law_lit (cCons (cIx (cVar 0) (cLit (.int 1))) (cCons (cVar 1) cNil)))) (cCall m_law_rel (cCons (cIx (cVar 0) (cLit (.int 3))) (cCons (cCall m_law_sum (cCons (cIx (cVar 0) (cLit (.int 2))) (cCons (cVar 1) cNil))) (cCons (cIx (cVar 0) (cLit (.int 4))) cNil))))))) (cSkip))
  (cSeq (cIfS (cB (cBin (gEq false) (cIx (cVar 0) (cLit (.int 0))) (cLit (.str "different")))) (cSeq (cAsg (tName 2) (cLst cNil))
  (cSeq (cFor (tName 3) (iExp (cIx (cVar 0) (cLit (.int 1)))) (cSeq (cIfS (cB (cBin (gIn false) (cIx (cVar 1) (cVar 3)) (cVar 2))) (cRet (cLit (.bl false))) (cSkip))
  (cApp 2 (cIx (cVar 1) (cVar 3)))))
  (cRet (cLit (.bl true))))) (cSkip))
  (cSeq (cIfS (cB (cBin (gEq false) (cIx (cVar 0) (cLit (.int 0))) (cLit (.str "table")))) (cRet (cBin (gIn false) (cBi gTuple (cCons (cLc (tName 3) (iExp (cIx (cVar 0) (cLit (.int 1)))) tYesT (cIx (cVar 1) (cVar 3)) [3]) cNil)) (cIx (cVar 0) (cLit (.int 2))))) (cSkip))
  (cSeq (cIfS (cB (cBin (gEq false) (cIx (cVar 0) (cLit (.int 0))) (cLit (.str "element")))) (cSeq (cAsg (tName 4) (cIx (cVar 1) (cIx (cVar 0) (cLit (.int 1)))))
  (cRet ((cAndV (cBin gGe (cVar 4) (cLit (.int 0))) (cAndV (cBin gLt (cVar 4) (cBi gLen (cCons (cIx (cVar 0) (cLit (.int 2))) cNil))) (cBin (gEq false) (cIx (cIx (cVar 0) (cLit (.int 2))) (cVar 4)) (cIx (cVar 1) (cIx (cVar 0) (cLit (.int 3)))))))))) (cSkip))
  (cRet (cBin (gEq false) (cBin gMul (cIx (cVar 1) (cIx (cVar 0) (cLit (.int 1)))) (cIx (cVar 1) (cIx (cVar 0) (cLit (.int 2))))) (cIx (cVar 1) (cIx (cVar 0) (cLit (.int 3)))))))))))
def m_law_holds : FnSem := cFn 2 6 c_law_holds
end Lg
/-! what the shared defs of the laws draw and compute -/
namespace Lg
open PySem PySem.Spec PyProof.Rows L2 Mp
theorem gIn_ok {neg : Bool} {a : W} {ws : List W} (ha : okD a 64 = true) (hb : okD (.lst ws) 64 = true) : gIn neg a (.lst ws) = some (.bl (neg != ws.any fun z => eqW z a)) := by
  obtain ⟨d, h1, h2, h3⟩ := okD_ok a 64 ha
  obtain ⟨e, h4, h5, h6⟩ := okD_ok (.lst ws) 64 hb
  obtain ⟨ds, h7, rfl⟩ : ∃ ds, toDs ws = some ds ∧ e = .list ds := by
    unfold toD at h4
    obtain ⟨ds, h, e2⟩ := Option.map_eq_some_iff.mp h4
    exact ⟨ds, h, e2.symm⟩
  unfold gIn
  rw [h1, h4]
  have s1 : SeqAt.shaped d = true := by unfold SeqAt.shaped; rw [h2, Bool.true_and, decide_eq_true_eq]; exact h3
  have s2 : SeqAt.shaped (.list ds) = true := by unfold SeqAt.shaped; rw [h5, Bool.true_and, decide_eq_true_eq]; exact h6
  simp only [s1, s2, and_self, if_true]
  have : anyEq d ds = ws.any fun z => eqW z a := by
    clear h4 h5 h6 s2
    induction ws generalizing ds with
    | nil => cases h7; rfl
    | cons w ws ih =>
      unfold toDs at h7
      split at h7
      · rename_i x xs hx hxs
        cases h7
        have hb2 : okD (.lst ws) 64 = true := by
          unfold okD at hb ⊢
          unfold okDs at hb
          simp only [Bool.and_eq_true] at hb ⊢
          exact ⟨hb.1, hb.2.2⟩
        rw [List.any_cons, ← ih hb2 xs hxs]
        show (PyData.eqv x d || anyEq d xs) = _
        unfold eqW
        rw [hx, h1]
      · cases h7
  rw [this]
theorem gIn_tup {neg : Bool} {a : W} {ws : List W} (ha : okD a 64 = true) (hb : okD (.tup ws) 64 = true) : gIn neg a (.tup ws) = some (.bl (neg != ws.any fun z => eqW z a)) := by
  obtain ⟨d, h1, h2, h3⟩ := okD_ok a 64 ha
  obtain ⟨e, h4, h5, h6⟩ := okD_ok (.tup ws) 64 hb
  obtain ⟨ds, h7, rfl⟩ : ∃ ds, toDs ws = some ds ∧ e = .tuple ds := by
    unfold toD at h4
    obtain ⟨ds, h, e2⟩ := Option.map_eq_some_iff.mp h4
    exact ⟨ds, h, e2.symm⟩
  have hl : okD (.lst ws) 64 = true := hb
  have h := gIn_ok (neg := neg) ha hl
  unfold gIn at h ⊢
  rw [h1, h4]
  have e2 : toD (.lst ws) = some (.list ds) := by unfold toD; rw [h7]; rfl
  rw [h1, e2] at h
  exact h
end Lg
/-! literals, terms, choices as the laws draw them -/
namespace Lg
open PySem PySem.Spec PyProof.Rows L2 Mp
theorem size_le {n : Nat} (h : n ≤ 10000000) : (n ≤ sizeLine) = True := eq_true (size_ok h)
theorem size_lt' {n : Nat} (h : n ≤ 10000000) : (n < sizeLine) = True := eq_true (size_lt h)
local macro_rules | `(tactic| walk_at "ev") => `(tactic| simp -implicitDefEqProofs only [q_lit, q_nil, q_cons, q_var, q_bin, q_tup, q_lst, q_box, q_neg, q_notT, q_andT, q_orT, q_notV, q_andV, q_orV, q_if, q_B, q_ix, q_call, q_bi, q_sl, q_oNone, q_oSome, q_dk, q_dt, q_yesT, q_get2,
  q_lc, q_iExp, q_iVar, q_iEnV, items_tup, items_lst, q_seq, q_skip, q_ret, q_retV, q_ifS, q_asg, q_drop, q_for, q_tName, q_tTup, q_tCons, q_tNil, q_fz, q_frzE, q_app, q_aug, q_setIx, q_wipe0, q_wipe, fin_rt, fin_nx,
  mut_non, mut_bl, mut_int, mut_str, mut_tup, mut_lst, mut_dk, mut_dt, mut_scr, mut_cel, sto_non, sto_bl, sto_int, sto_str, sto_tup, sto_scr, sto_cel, sto_own, sto_frz, md_non, md_bl, md_int, md_str, md_tup, md_lst, md_dk, md_dt, md_scr, md_cel,
  gAdd_int, gAddI_int, gSub_int, gLt_int, gLe_int, gGt_int, gGe_int, gInt_int, gInt_bl, gLen_tup, gLen_lst, gTuple_lst, gTuple_tup, gList_scr, gList_lst, gList_tup, gIx_tup, gIx_lst, gEq_int, gEq_bl, atI_0, atI_1, atI_2,
  bnd_some, Option.map_some, Option.bind_some, List.getElem?_cons_succ, List.getElem?_cons_zero, List.set_cons_succ, List.set_cons_zero, List.foldl_cons, List.foldl_nil, List.map_cons, List.map_nil, List.length_map, List.length_cons, List.length_nil, List.all_cons, List.all_nil, Bool.and_true, Bool.true_and, and_true, true_and, false_and, and_false,
  size_le, size_lt', Nat.reduceAdd, Nat.reduceLeDiff, Nat.zero_add, ne_eq, decide_eq_true_eq, reduceCtorEq, if_false, if_true, ite_true, ite_false, Bool.false_eq_true])
local macro_rules | `(tactic| walk_at "go") => `(tactic| simp -implicitDefEqProofs only [q_lit, q_nil, q_cons, q_var, q_bin, q_tup, q_lst, q_box, q_neg, q_notT, q_andT, q_orT, q_notV, q_andV, q_orV, q_if, q_B, q_ix, q_call, q_bi, q_sl, q_oNone, q_oSome, q_dk, q_dt, q_yesT, q_get2,
  q_lc, q_iExp, q_iVar, q_iEnV, items_tup, items_lst, q_seq, q_skip, q_ret, q_retV, q_ifS, q_asg, q_drop, q_for, q_tName, q_tTup, q_tCons, q_tNil, q_fz, q_frzE, q_app, q_aug, q_setIx, q_wipe0, q_wipe, fin_rt, fin_nx,
  mut_non, mut_bl, mut_int, mut_str, mut_tup, mut_lst, mut_dk, mut_dt, mut_scr, mut_cel, sto_non, sto_bl, sto_int, sto_str, sto_tup, sto_scr, sto_cel, sto_own, sto_frz, md_non, md_bl, md_int, md_str, md_tup, md_lst, md_dk, md_dt, md_scr, md_cel,
  gAdd_int, gAddI_int, gSub_int, gLt_int, gLe_int, gGt_int, gGe_int, gInt_int, gInt_bl, gLen_tup, gLen_lst, gTuple_lst, gTuple_tup, gList_scr, gList_lst, gList_tup, gIx_tup, gIx_lst, gEq_int, gEq_bl, atI_0, atI_1, atI_2,
  bnd_some, Option.map_some, Option.bind_some, List.getElem?_cons_succ, List.getElem?_cons_zero, List.set_cons_succ, List.set_cons_zero, List.foldl_cons, List.foldl_nil, List.map_cons, List.map_nil, List.length_map, List.length_cons, List.length_nil, List.all_cons, List.all_nil, Bool.and_true, Bool.true_and, and_true, true_and, false_and, and_false,
  size_le, size_lt', Nat.reduceAdd, Nat.reduceLeDiff, Nat.zero_add, ne_eq, decide_eq_true_eq, reduceCtorEq, if_false, if_true, ite_true, ite_false, Bool.false_eq_true, *])
/-! ### relations -/
inductive Rl where | le | ge | eq | ne
deriving DecidableEq
def rlS : Rl → Str
  | .le => "<=" | .ge => ">=" | .eq => "=" | .ne => "!="
def rlH : Rl → Int → Int → Bool
  | .le, a, b => decide (a ≤ b) | .ge, a, b => decide (b ≤ a) | .eq, a, b => decide (a = b) | .ne, a, b => !decide (a = b)
theorem rl_le (r : Rl) : gEq false (.str (rlS r)) (.str "<=") = some (.bl (decide (r = .le))) := by
  cases r <;> rw [gEq_str (by decide +kernel) (by decide +kernel)] <;> rfl
theorem rl_ge (r : Rl) : gEq false (.str (rlS r)) (.str ">=") = some (.bl (decide (r = .ge))) := by
  cases r <;> rw [gEq_str (by decide +kernel) (by decide +kernel)] <;> rfl
theorem rl_eq (r : Rl) : gEq false (.str (rlS r)) (.str "=") = some (.bl (decide (r = .eq))) := by
  cases r <;> rw [gEq_str (by decide +kernel) (by decide +kernel)] <;> rfl
theorem rel_ok (r : Rl) (a b : Int) (S : Store) : m_law_rel [.str (rlS r), .int a, .int b] S = some ((.bl (rlH r a b), .own), S) := by
  unfold m_law_rel
  rw [cFn_run (by rfl)]
  show fin (c_law_rel [some (.str (rlS r), .brw), some (.int a, .brw), some (.int b, .brw)] S) = _
  unfold c_law_rel
  walk_at "ev"
  rw [rl_le]
  walk_at "ev"
  cases r with
  | le => walk_at "ev"; rfl
  | ge => walk_at "ev"; rw [rl_ge]; walk_at "ev"; rfl
  | eq => walk_at "ev"; rw [rl_ge]; walk_at "ev"; rw [rl_eq]; walk_at "ev"; simp [rlH]
  | ne => walk_at "ev"; rw [rl_ge]; walk_at "ev"; rw [rl_eq]; walk_at "ev"; simp [rlH]
theorem rl_ix3 (d : Int) (h0 : 0 ≤ d) (h1 : d < 3) : ∃ r : Rl, r ≠ .ne ∧ atI [W.str "<=", W.str ">=", W.str "="] d = some (.str (rlS r)) := by
  have : d = 0 ∨ d = 1 ∨ d = 2 := by omega
  rcases this with rfl | rfl | rfl
  · exact ⟨.le, by decide, by rw [atI_0]; rfl⟩
  · exact ⟨.ge, by decide, by rw [atI_1]; rfl⟩
  · exact ⟨.eq, by decide, by rw [atI_2]; rfl⟩
theorem rl_ix4 (d : Int) (h0 : 0 ≤ d) (h1 : d < 4) : ∃ r : Rl, atI [W.str "<=", W.str ">=", W.str "=", W.str "!="] d = some (.str (rlS r)) := by
  have : d = 0 ∨ d = 1 ∨ d = 2 ∨ d = 3 := by omega
  rcases this with rfl | rfl | rfl | rfl
  · exact ⟨.le, by rw [atI_0]; rfl⟩
  · exact ⟨.ge, by rw [atI_1]; rfl⟩
  · exact ⟨.eq, by rw [atI_2]; rfl⟩
  · exact ⟨.ne, by rw [atI_of (by omega)]; rfl⟩
/-! ### literals -/
structure Ltl where
  v : Int
  r : Rl
  a : Int
deriving DecidableEq
def encL (l : Ltl) : W := .tup [.int l.v, .str (rlS l.r), .int l.a]
def LOk (n : Nat) (l : Ltl) : Prop := 0 ≤ l.v ∧ l.v < n
theorem literal_ok {n many : Nat} {S : Store} (tp : TapeAt n S) (h1 : 1 ≤ many) (hm : many ≤ 60) : ∃ l S2, m_law_literal [.cel n, .int ((many : Nat) : Int)] S = some ((encL l, .own), S2) ∧ LOk many l ∧ -3 ≤ l.a ∧ l.a ≤ 5 ∧ TapeAt n S2 ∧ SameBut n S S2 := by
  obtain ⟨d, S2, e, hd0, hd1, tp2, sb2⟩ := draw_ok (many := 4) tp (by decide) (by decide)
  obtain ⟨v, S3, e3, hv0, hv1, tp3, sb3⟩ := draw_ok (many := ((many : Nat) : Int)) tp2 (by omega) (by omega)
  obtain ⟨a, S4, e4, ha0, ha1, tp4, sb4⟩ := draw_ok (many := 9) tp3 (by decide) (by decide)
  obtain ⟨r, hr⟩ := rl_ix4 d hd0 hd1
  refine ⟨⟨v, r, a - 3⟩, S4, ?_, ⟨hv0, hv1⟩, by simp only; omega, by simp only; omega, tp4, (sb2.trans sb3).trans sb4⟩
  unfold m_law_literal
  rw [cFn_run (by rfl)]
  show fin (c_law_literal [some (.cel n, .brw), some (.int ((many : Nat) : Int), .brw), none] S) = _
  unfold c_law_literal
  walk_at "go"
  rfl
end Lg
/-! terms, choices and bodies as the laws draw them -/
namespace Lg
open PySem PySem.Spec PyProof.Rows L2 Mp
local macro_rules | `(tactic| walk_at "ev") => `(tactic| simp -implicitDefEqProofs only [q_lit, q_nil, q_cons, q_var, q_bin, q_tup, q_lst, q_box, q_neg, q_notT, q_andT, q_orT, q_notV, q_andV, q_orV, q_if, q_B, q_ix, q_call, q_bi, q_sl, q_oNone, q_oSome, q_dk, q_dt, q_yesT, q_get2,
  q_lc, q_iExp, q_iVar, q_iEnV, items_tup, items_lst, q_seq, q_skip, q_ret, q_retV, q_ifS, q_asg, q_drop, q_for, q_tName, q_tTup, q_tCons, q_tNil, q_fz, q_frzE, q_app, q_aug, q_setIx, q_wipe0, q_wipe, fin_rt, fin_nx,
  mut_non, mut_bl, mut_int, mut_str, mut_tup, mut_lst, mut_dk, mut_dt, mut_scr, mut_cel, sto_non, sto_bl, sto_int, sto_str, sto_tup, sto_scr, sto_cel, sto_own, sto_frz, md_non, md_bl, md_int, md_str, md_tup, md_lst, md_dk, md_dt, md_scr, md_cel,
  gAdd_int, gAddI_int, gSub_int, gLt_int, gLe_int, gGt_int, gGe_int, gInt_int, gInt_bl, gLen_tup, gLen_lst, gTuple_lst, gTuple_tup, gList_scr, gList_lst, gList_tup, gIx_tup, gIx_lst, gEq_int, gEq_bl, atI_0, atI_1, atI_2,
  bnd_some, Option.map_some, Option.bind_some, List.getElem?_cons_succ, List.getElem?_cons_zero, List.set_cons_succ, List.set_cons_zero, List.foldl_cons, List.foldl_nil, List.map_cons, List.map_nil, List.length_map, List.length_cons, List.length_nil, List.all_cons, List.all_nil, Bool.and_true, Bool.true_and, and_true, true_and, false_and, and_false,
  size_le, size_lt', Nat.reduceAdd, Nat.reduceLeDiff, Nat.zero_add, ne_eq, decide_eq_true_eq, reduceCtorEq, if_false, if_true, ite_true, ite_false, Bool.false_eq_true])
local macro_rules | `(tactic| walk_at "go") => `(tactic| simp -implicitDefEqProofs only [q_lit, q_nil, q_cons, q_var, q_bin, q_tup, q_lst, q_box, q_neg, q_notT, q_andT, q_orT, q_notV, q_andV, q_orV, q_if, q_B, q_ix, q_call, q_bi, q_sl, q_oNone, q_oSome, q_dk, q_dt, q_yesT, q_get2,
  q_lc, q_iExp, q_iVar, q_iEnV, items_tup, items_lst, q_seq, q_skip, q_ret, q_retV, q_ifS, q_asg, q_drop, q_for, q_tName, q_tTup, q_tCons, q_tNil, q_fz, q_frzE, q_app, q_aug, q_setIx, q_wipe0, q_wipe, fin_rt, fin_nx,
  mut_non, mut_bl, mut_int, mut_str, mut_tup, mut_lst, mut_dk, mut_dt, mut_scr, mut_cel, sto_non, sto_bl, sto_int, sto_str, sto_tup, sto_scr, sto_cel, sto_own, sto_frz, md_non, md_bl, md_int, md_str, md_tup, md_lst, md_dk, md_dt, md_scr, md_cel,
  gAdd_int, gAddI_int, gSub_int, gLt_int, gLe_int, gGt_int, gGe_int, gInt_int, gInt_bl, gLen_tup, gLen_lst, gTuple_lst, gTuple_tup, gList_scr, gList_lst, gList_tup, gIx_tup, gIx_lst, gEq_int, gEq_bl, atI_0, atI_1, atI_2,
  bnd_some, Option.map_some, Option.bind_some, List.getElem?_cons_succ, List.getElem?_cons_zero, List.set_cons_succ, List.set_cons_zero, List.foldl_cons, List.foldl_nil, List.map_cons, List.map_nil, List.length_map, List.length_cons, List.length_nil, List.all_cons, List.all_nil, Bool.and_true, Bool.true_and, and_true, true_and, false_and, and_false,
  size_le, size_lt', Nat.reduceAdd, Nat.reduceLeDiff, Nat.zero_add, ne_eq, decide_eq_true_eq, reduceCtorEq, if_false, if_true, ite_true, ite_false, Bool.false_eq_true, *])
abbrev Tm := List (Int × Int)
def encT (ts : Tm) : W := .tup (ts.map fun p => .tup [.int p.1, .int p.2])
def encP (p : List Int) : W := .tup (p.map .int)
theorem seq_ret {c : CT} {b : Bool} {w : W} {g : CS} {ρ : Mp.Env} {S S2 : Store} (h : c ρ S = some (b, S2)) (hw : sto (w, .frz) = true) : cSeq (cIfS c (cRet (cLit w)) cSkip) g ρ S = if b = true then some (.rt (w, .frz) S2) else g ρ S2 := by
  rw [q_seq, q_ifS, h]
  cases b with
  | true => simp only [bnd_some, if_true, q_ret, q_lit, hw]
  | false => simp only [bnd_some, Bool.false_eq_true, if_false, q_skip]
theorem if_ret {c : CT} {b : Bool} {w : W} {ρ : Mp.Env} {S S2 : Store} (h : c ρ S = some (b, S2)) (hw : sto (w, .frz) = true) : cIfS c (cRet (cLit w)) cSkip ρ S = if b = true then some (.rt (w, .frz) S2) else some (.nx ρ S2) := by
  rw [q_ifS, h]
  cases b with
  | true => simp only [bnd_some, if_true, q_ret, q_lit, hw]
  | false => simp only [bnd_some, Bool.false_eq_true, if_false, q_skip]
theorem rng_ok {f : CE} {ρ : Mp.Env} {S S2 : Store} {n : Nat} {m : Md} (h : f ρ S = some ((.int ((n : Nat) : Int), m), S2)) (hn : n ≤ 1000000) : iRange1 f ρ S = some ((List.range n).map fun k : Nat => W.int ((k : Nat) : Int), S2) := by
  rw [q_range1, h]
  dsimp only [bnd_some]
  rw [if_pos (by omega)]
  unfold rangeW
  simp only [Int.toNat_natCast, Int.zero_add]
theorem seq_nx {f g : CS} {ρ ρ2 : Mp.Env} {S S2 : Store} (h : f ρ S = some (.nx ρ2 S2)) : cSeq f g ρ S = g ρ2 S2 := by rw [q_seq, h]
theorem paired_pts {A : Type} {enc : A → W} {P : A → Prop} {ws gs : List W} (h : Paired (fun _ g => ∃ p, g = enc p ∧ P p) ws gs) : ∃ pts : List A, gs = pts.map enc ∧ pts.length = ws.length ∧ ∀ p ∈ pts, P p := by
  induction h with
  | nil => exact ⟨[], rfl, rfl, fun _ h => absurd h List.not_mem_nil⟩
  | cons h1 _ ih =>
    obtain ⟨p, rfl, hp⟩ := h1
    obtain ⟨pts, rfl, hl, ha⟩ := ih
    refine ⟨p :: pts, rfl, by rw [List.length_cons, List.length_cons, hl], fun q hq => ?_⟩
    rcases List.mem_cons.mp hq with rfl | hq
    · exact hp
    · exact ha q hq
/-- terms as the law draws them -/
def TOk3 (n : Nat) (ts : Tm) : Prop := ts.length ≤ n ∧ ∀ t ∈ ts, 0 ≤ t.1 ∧ t.1 < n ∧ -3 ≤ t.2 ∧ t.2 ≤ 3
theorem law_terms_ok {n many : Nat} {S : Store} (tp : TapeAt n S) (hm : many ≤ 60) : ∃ ts S2, m_law_terms [.cel n, .int ((many : Nat) : Int)] S = some ((encT ts, .own), S2) ∧ TOk3 many ts ∧ TapeAt n S2 ∧ SameBut n S S2 := by
  unfold m_law_terms
  rw [cFn_run (by rfl)]
  show ∃ ts S2, fin (c_law_terms [some (.cel n, .brw), some (.int ((many : Nat) : Int), .brw), none, none, none] S) = _ ∧ _
  unfold c_law_terms
  walk_at "ev"
  rw [rng_ok (n := many) (S2 := S) (m := .brw) (by walk_at "ev") (by omega)]
  walk_at "ev"
  obtain ⟨ρ2, S2, e, ts, x3, x4, rfl, hl, hts, tp2, sb⟩ := for_inv (ws := (List.range many).map fun k : Nat => W.int ((k : Nat) : Int)) (t := tName 3) (b := cSeq (cAsg (tName 4) (cBin Mp.gSub (cCall mDraw (cCons (cVar 0) (cCons (cLit (.int 7)) cNil))) (cLit (.int 3))))
  (cIfS (cB (cBin (gEq true) (cVar 4) (cLit (.int 0)))) (cApp 2 (cTup (cCons (cVar 3) (cCons (cVar 4) cNil)))) (cSkip)))
    (fun i ρ S2 => ∃ (ts : Tm) (x3 x4 : Option (W × Md)), ρ = [some (.cel n, .brw), some (.int ((many : Nat) : Int), .brw), some (.lst (ts.map fun p => .tup [.int p.1, .int p.2]), .own), x3, x4] ∧ ts.length ≤ i ∧ (∀ t ∈ ts, 0 ≤ t.1 ∧ t.1 < many ∧ -3 ≤ t.2 ∧ t.2 ≤ 3) ∧ TapeAt n S2 ∧ SameBut n S S2)
    (fun i w ρ S1 hw hI => by
      obtain ⟨ts, x3, x4, rfl, hl, hts, tp1, sb⟩ := hI
      have hi : i < many := by
        have := (List.getElem?_eq_some_iff.mp hw).1
        simpa using this
      rw [List.getElem?_map, List.getElem?_range hi] at hw
      injection hw with hw
      subst hw
      obtain ⟨d, S2, e, hd0, hd1, tp2, sb2⟩ := draw_ok (many := 7) tp1 (by decide) (by decide)
      by_cases hd : d - 3 = 0
      · refine ⟨_, _, S2, by walk_at "ev"; rfl, by
          walk_at "ev"
          rw [e]
          walk_at "ev"
          simp only [decide_eq_true hd, Bool.bne_true, Bool.not_true, Bool.false_eq_true, if_false], ts, some (.int ((i : Nat) : Int), .frz), some (.int (d - 3), .frz), rfl, by omega, hts, tp2, sb.trans sb2⟩
      · refine ⟨_, _, S2, by walk_at "ev"; rfl, by
          walk_at "ev"
          rw [e]
          walk_at "ev"
          simp only [decide_eq_false hd, Bool.bne_false, if_true]
          rw [if_pos (size_lt (by omega))], ts ++ [(((i : Nat) : Int), d - 3)], some (.int ((i : Nat) : Int), .frz), some (.int (d - 3), .frz), by rw [List.map_append]; rfl, by rw [List.length_append]; simp only [List.length_singleton]; omega, fun t ht => ?_, tp2, sb.trans sb2⟩
        rcases List.mem_append.mp ht with h | h
        · exact hts t h
        · rw [List.mem_singleton.mp h]
          simp only
          omega)
    (ρ := [some (.cel n, .brw), some (.int ((many : Nat) : Int), .brw), some (.lst [], .own), none, none]) (S := S) ⟨[], none, none, rfl, Nat.le_refl _, fun _ h => (by cases h), tp, .refl⟩
  rw [e]
  walk_at "ev"
  refine ⟨ts, S2, rfl, ⟨?_, hts⟩, tp2, sb⟩
  simpa using hl

theorem erase_map {A B : Type} (f : A → B) : ∀ (xs : List A) (i : Nat), (xs.map f).eraseIdx i = (xs.eraseIdx i).map f
  | [], _ => rfl
  | _ :: _, 0 => rfl
  | x :: xs, i + 1 => by simp [erase_map f xs i]
theorem erase_perm : ∀ (us : List Int) (k : Nat) (h : k < us.length), (us[k] :: us.eraseIdx k).Perm us
  | [], k, h => absurd h (Nat.not_lt_zero _)
  | u :: us, 0, _ => List.Perm.refl _
  | u :: us, k + 1, h => (List.Perm.swap _ _ _).trans ((erase_perm us k (by simpa using h)).cons u)
def idx (n : Nat) : List Int := (List.range n).map fun k : Nat => ((k : Nat) : Int)
theorem some_ok {n many : Nat} {least : Int} {S : Store} (tp : TapeAt n S) (hm : many ≤ 60) (h0 : 0 ≤ least) (h1 : least ≤ many) : ∃ (vs : List Int) (S2 : Store), m_law_some [.cel n, .int ((many : Nat) : Int), .int least] S = some ((encP vs, .own), S2) ∧
    (∃ us, (us ++ vs).Perm (idx many)) ∧ least ≤ vs.length ∧ TapeAt n S2 ∧ SameBut n S S2 := by
  obtain ⟨d, S1, e, hd0, hd1, tp1, sb1⟩ := draw_ok (many := ((many : Nat) : Int) - least + 1) tp (by omega) (by omega)
  obtain ⟨c, hc⟩ : ∃ c : Nat, least + d = ((c : Nat) : Int) := ⟨(least + d).toNat, by omega⟩
  have hr : iRange1 (cBin gAdd (cVar 2) (cCall mDraw (cCons (cVar 0) (cCons (cBin gAdd (cBin Mp.gSub (cVar 1) (cVar 2)) (cLit (.int 1))) cNil)))) [some (.cel n, .brw), some (.int ((many : Nat) : Int), .brw), some (.int least, .brw), some (.lst ((idx many).map .int), .own), some (.lst [], .own), none] S = some ((List.range c).map fun k : Nat => W.int ((k : Nat) : Int), S1) := by
    refine rng_ok (m := .own) ?_ (by omega)
    walk_at "go"
  unfold m_law_some
  rw [cFn_run (by rfl)]
  show ∃ vs S2, fin (c_law_some [some (.cel n, .brw), some (.int ((many : Nat) : Int), .brw), some (.int least, .brw), none, none, none] S) = _ ∧ _
  unfold c_law_some
  have e0 : gListRange S [.int ((many : Nat) : Int)] = some (.lst ((idx many).map .int)) := by
    unfold gListRange
    simp only
    rw [if_pos (by omega), Int.toNat_natCast]
    unfold idx
    rw [List.map_map]
    rfl
  rw [seq_nx (ρ2 := [some (.cel n, .brw), some (.int ((many : Nat) : Int), .brw), some (.int least, .brw), some (.lst ((idx many).map .int), .own), none, none]) (S2 := S) (by walk_at "go"),
    seq_nx (ρ2 := [some (.cel n, .brw), some (.int ((many : Nat) : Int), .brw), some (.int least, .brw), some (.lst ((idx many).map .int), .own), some (.lst [], .own), none]) (S2 := S) (by walk_at "go")]
  obtain ⟨ρ2, S2, e2, us, vs, x5, rfl, hl, hp, tp2, sb⟩ := for_inv (ws := (List.range c).map fun k : Nat => W.int ((k : Nat) : Int)) (t := tName 5) (b := (cAppPop 4 3 (cCall mDraw (cCons (cVar 0) (cCons (cBi gLen (cCons (cVar 3) cNil)) cNil)))))
    (fun i ρ S2 => ∃ (us vs : List Int) (x5 : Option (W × Md)), ρ = [some (.cel n, .brw), some (.int ((many : Nat) : Int), .brw), some (.int least, .brw), some (.lst (us.map .int), .own), some (.lst (vs.map .int), .own), x5] ∧ vs.length = i ∧ (us ++ vs).Perm (idx many) ∧ TapeAt n S2 ∧ SameBut n S S2)
    (fun i w ρ S3 hw hI => by
      obtain ⟨us, vs, x5, rfl, hl, hp, tp3, sb3⟩ := hI
      have hi : i < c := by
        have := (List.getElem?_eq_some_iff.mp hw).1
        simpa using this
      have hlen := hp.length_eq
      unfold idx at hlen
      rw [List.length_append, List.length_map, List.length_range] at hlen
      obtain ⟨k, S4, e4, hk0, hk1, tp4, sb4⟩ := draw_ok (many := ((us.length : Nat) : Int)) tp3 (by omega) (by omega)
      have hk2 : k.toNat < us.length := by omega
      rw [List.getElem?_map, List.getElem?_range hi] at hw
      injection hw with hw
      subst hw
      refine ⟨_, [some (.cel n, .brw), some (.int ((many : Nat) : Int), .brw), some (.int least, .brw), some (.lst ((us.eraseIdx k.toNat).map .int), .own), some (.lst ((vs ++ [us[k.toNat]]).map .int), .own), some (.int ((i : Nat) : Int), .frz)], S4, by walk_at "ev"; rfl, ?_, us.eraseIdx k.toNat, vs ++ [us[k.toNat]], _, rfl, by rw [List.length_append, hl]; rfl, ?_, tp4, sb3.trans sb4⟩
      · unfold cAppPop
        walk_at "go"
        rw [if_pos ⟨by decide, by omega, by rw [sizeLine_eq]; omega⟩]
        simp only [List.getElem?_map, List.getElem?_eq_getElem hk2, Option.map_some]
        rw [erase_map, List.map_append]
        rfl
      · refine List.Perm.trans ?_ hp
        refine List.Perm.trans ?_ ((erase_perm us k.toNat hk2).append_right vs)
        rw [← List.append_assoc]
        exact List.perm_append_singleton _ _)
    (ρ := [some (.cel n, .brw), some (.int ((many : Nat) : Int), .brw), some (.int least, .brw), some (.lst ((idx many).map .int), .own), some (.lst [], .own), none]) (S := S1) ⟨idx many, [], none, rfl, rfl, by rw [List.append_nil], tp1, sb1⟩
  rw [List.length_map, List.length_range] at hl
  refine ⟨vs, S2, ?_, ⟨us, hp⟩, by omega, tp2, sb⟩
  rw [seq_nx (ρ2 := [some (.cel n, .brw), some (.int ((many : Nat) : Int), .brw), some (.int least, .brw), some (.lst (us.map .int), .own), some (.lst (vs.map .int), .own), x5]) (S2 := S2) (by
    rw [q_for, hr]
    exact e2)]
  walk_at "go"
  rfl
end Lg
/-! bodies as the laws draw them (printed by mklk.py) -/
namespace Lg
open PySem PySem.Spec PyProof.Rows L2 Mp
local macro_rules | `(tactic| walk_at "ev") => `(tactic| simp -implicitDefEqProofs only [q_lit, q_nil, q_cons, q_var, q_bin, q_tup, q_lst, q_box, q_neg, q_notT, q_andT, q_orT, q_notV, q_andV, q_orV, q_if, q_B, q_ix, q_call, q_bi, q_sl, q_oNone, q_oSome, q_dk, q_dt, q_yesT, q_get2,
  q_lc, q_iExp, q_iVar, q_iEnV, items_tup, items_lst, q_seq, q_skip, q_ret, q_retV, q_ifS, q_asg, q_drop, q_for, q_tName, q_tTup, q_tCons, q_tNil, q_fz, q_frzE, q_app, q_aug, q_setIx, q_wipe0, q_wipe, fin_rt, fin_nx,
  mut_non, mut_bl, mut_int, mut_str, mut_tup, mut_lst, mut_dk, mut_dt, mut_scr, mut_cel, sto_non, sto_bl, sto_int, sto_str, sto_tup, sto_scr, sto_cel, sto_own, sto_frz, md_non, md_bl, md_int, md_str, md_tup, md_lst, md_dk, md_dt, md_scr, md_cel,
  gAdd_int, gAddI_int, gSub_int, gLt_int, gLe_int, gGt_int, gGe_int, gInt_int, gInt_bl, gLen_tup, gLen_lst, gTuple_lst, gTuple_tup, gList_scr, gList_lst, gList_tup, gIx_tup, gIx_lst, gEq_int, gEq_bl, atI_0, atI_1, atI_2,
  bnd_some, Option.map_some, Option.bind_some, List.getElem?_cons_succ, List.getElem?_cons_zero, List.set_cons_succ, List.set_cons_zero, List.foldl_cons, List.foldl_nil, List.map_cons, List.map_nil, List.length_map, List.length_cons, List.length_nil, List.all_cons, List.all_nil, Bool.and_true, Bool.true_and, and_true, true_and, false_and, and_false,
  size_le, size_lt', Nat.reduceAdd, Nat.reduceLeDiff, Nat.zero_add, ne_eq, decide_eq_true_eq, Int.reduceEq, Int.reduceLT, Int.reduceLE, Int.reduceNeg, decide_true, decide_false, Bool.false_bne, Bool.true_bne, Bool.not_true, Bool.not_false, reduceCtorEq, if_false, if_true, ite_true, ite_false, Bool.false_eq_true])
local macro_rules | `(tactic| walk_at "go") => `(tactic| simp -implicitDefEqProofs only [q_lit, q_nil, q_cons, q_var, q_bin, q_tup, q_lst, q_box, q_neg, q_notT, q_andT, q_orT, q_notV, q_andV, q_orV, q_if, q_B, q_ix, q_call, q_bi, q_sl, q_oNone, q_oSome, q_dk, q_dt, q_yesT, q_get2,
  q_lc, q_iExp, q_iVar, q_iEnV, items_tup, items_lst, q_seq, q_skip, q_ret, q_retV, q_ifS, q_asg, q_drop, q_for, q_tName, q_tTup, q_tCons, q_tNil, q_fz, q_frzE, q_app, q_aug, q_setIx, q_wipe0, q_wipe, fin_rt, fin_nx,
  mut_non, mut_bl, mut_int, mut_str, mut_tup, mut_lst, mut_dk, mut_dt, mut_scr, mut_cel, sto_non, sto_bl, sto_int, sto_str, sto_tup, sto_scr, sto_cel, sto_own, sto_frz, md_non, md_bl, md_int, md_str, md_tup, md_lst, md_dk, md_dt, md_scr, md_cel,
  gAdd_int, gAddI_int, gSub_int, gLt_int, gLe_int, gGt_int, gGe_int, gInt_int, gInt_bl, gLen_tup, gLen_lst, gTuple_lst, gTuple_tup, gList_scr, gList_lst, gList_tup, gIx_tup, gIx_lst, gEq_int, gEq_bl, atI_0, atI_1, atI_2,
  bnd_some, Option.map_some, Option.bind_some, List.getElem?_cons_succ, List.getElem?_cons_zero, List.set_cons_succ, List.set_cons_zero, List.foldl_cons, List.foldl_nil, List.map_cons, List.map_nil, List.length_map, List.length_cons, List.length_nil, List.all_cons, List.all_nil, Bool.and_true, Bool.true_and, and_true, true_and, false_and, and_false,
  size_le, size_lt', Nat.reduceAdd, Nat.reduceLeDiff, Nat.zero_add, ne_eq, decide_eq_true_eq, Int.reduceEq, Int.reduceLT, Int.reduceLE, Int.reduceNeg, decide_true, decide_false, Bool.false_bne, Bool.true_bne, Bool.not_true, Bool.not_false, reduceCtorEq, if_false, if_true, ite_true, ite_false, Bool.false_eq_true, *])

inductive Bd where
  | row (ts : Tm) (r : Rl) (rhs : Int)
  | any (ls : List Ltl)
  | whn (l : Ltl) (ts : Tm) (r : Rl) (rhs : Int)
  | dif (vs : List Int)
  | tab (vs : List Int) (rows : List (List Int))
  | ele (i : Int) (es : List Int) (j : Int)
  | tim (x y z : Int)
def encB : Bd → W
  | .row ts r b => .tup [.str "row", encT ts, .str (rlS r), .int b]
  | .any ls => .tup [.str "any", .tup (ls.map encL)]
  | .whn l ts r b => .tup [.str "when", encL l, encT ts, .str (rlS r), .int b]
  | .dif vs => .tup [.str "different", encP vs]
  | .tab vs rows => .tup [.str "table", encP vs, .tup (rows.map encP)]
  | .ele i es j => .tup [.str "element", .int i, encP es, .int j]
  | .tim x y z => .tup [.str "times", .int x, .int y, .int z]
/-- unknowns and coefficients that fit -/
def TmOk (n : Nat) (ts : Tm) : Prop := ts.length ≤ 60 ∧ ∀ t ∈ ts, 0 ≤ t.1 ∧ t.1 < n ∧ -1000 ≤ t.2 ∧ t.2 ≤ 1000
def VsOk (n : Nat) (vs : List Int) : Prop := vs.length ≤ 60 ∧ vs.Nodup ∧ ∀ v ∈ vs, 0 ≤ v ∧ v < n
def BOk (n : Nat) : Bd → Prop
  | .row ts r _ => TmOk n ts ∧ r ≠ .ne
  | .any ls => ls ≠ [] ∧ ls.length ≤ 60 ∧ ∀ l ∈ ls, LOk n l
  | .whn l ts r _ => LOk n l ∧ TmOk n ts ∧ r ≠ .ne
  | .dif vs => VsOk n vs
  | .tab vs rows => VsOk n vs ∧ rows.length ≤ 1000 ∧ ∀ row ∈ rows, row.length = vs.length
  | .ele i es j => (0 ≤ i ∧ i < n) ∧ (0 ≤ j ∧ j < n) ∧ es.length ≤ 60
  | .tim x y z => (0 ≤ x ∧ x < n) ∧ (0 ≤ y ∧ y < n) ∧ (0 ≤ z ∧ z < n)
theorem TOk3.ok {n : Nat} {ts : Tm} (h : TOk3 n ts) (hn : n ≤ 60) : TmOk n ts := ⟨by have := h.1; omega, fun t ht => by
  obtain ⟨h1, h2, h3, h4⟩ := h.2 t ht
  exact ⟨h1, h2, by omega, by omega⟩⟩
theorem idx_nodup (n : Nat) : (idx n).Nodup := by
  unfold idx
  exact List.Pairwise.map _ (fun a b h => by omega) (List.nodup_range (n := n))
theorem idx_mem {n : Nat} {v : Int} (h : v ∈ idx n) : 0 ≤ v ∧ v < n := by
  obtain ⟨k, hk, rfl⟩ := List.mem_map.mp h
  have := List.mem_range.mp hk
  omega
theorem VsOk.of {n : Nat} {us vs : List Int} (h : (us ++ vs).Perm (idx n)) (hn : n ≤ 60) : VsOk n vs := by
  have h1 := h.nodup_iff.mpr (idx_nodup n)
  have h2 := h.length_eq
  unfold idx at h2
  rw [List.length_append, List.length_map, List.length_range] at h2
  exact ⟨by omega, (List.nodup_append.mp h1).2.1, fun v hv => idx_mem (h.mem_iff.mp (List.mem_append.mpr (.inr hv)))⟩
theorem seq_if_f {t : CT} {A g : CS} {ρ : Mp.Env} {S : Store} (h : t ρ S = some (false, S)) : cSeq (cIfS t A cSkip) g ρ S = g ρ S := by
  rw [q_seq, q_ifS, h]
  simp only [bnd_some, Bool.false_eq_true, if_false, q_skip]
theorem seq_if_t {t : CT} {A g : CS} {ρ : Mp.Env} {S S2 : Store} {r : Wm} (h : t ρ S = some (true, S)) (h2 : A ρ S = some (.rt r S2)) : cSeq (cIfS t A cSkip) g ρ S = some (.rt r S2) := by
  rw [q_seq, q_ifS, h]
  simp only [bnd_some, if_true, h2]
def bb1 : CS :=
  cAsg (tName 2) (cCall mDraw (cCons (cVar 0) (cCons (cLit (.int 8)) cNil)))
def bb2 : CS :=
  cAsg (tName 3) (cIx (cLst (cCons (cLit (.str "<=")) (cCons (cLit (.str ">=")) (cCons (cLit (.str "=")) cNil)))) (cCall mDraw (cCons (cVar 0) (cCons (cLit (.int 3)) cNil))))
def bt3 : CT :=
  (cB (cBin (gEq false) (cVar 2) (cLit (.int 2))))
def bb3 : CS :=
  cSeq (cAsg (tName 4) (cLst cNil))
  (cSeq (cFor (tName 5) (iRange1 (cBin gAdd (cLit (.int 1)) (cCall mDraw (cCons (cVar 0) (cCons (cLit (.int 3)) cNil))))) (cSeq (cAsg (tName 6) (cCall m_law_literal (cCons (cVar 0) (cCons (cVar 1) cNil))))
  (cIfS (cB (cBin (gIn true) (cVar 6) (cVar 4))) (cApp 4 (cVar 6)) (cSkip))))
  (cRet (cTup (cCons (cLit (.str "any")) (cCons (cBi gTuple (cCons (cVar 4) cNil)) cNil)))))
def bt4 : CT :=
  (cB (cBin (gEq false) (cVar 2) (cLit (.int 3))))
def bb4 : CS :=
  cSeq (cAsg (tName 6) (cCall m_law_literal (cCons (cVar 0) (cCons (cVar 1) cNil))))
  (cRet (cTup (cCons (cLit (.str "when")) (cCons (cVar 6) (cCons (cCall m_law_terms (cCons (cVar 0) (cCons (cVar 1) cNil))) (cCons (cVar 3) (cCons (cBin Mp.gSub (cCall mDraw (cCons (cVar 0) (cCons (cLit (.int 16)) cNil))) (cLit (.int 6))) cNil)))))))
def bt5 : CT :=
  ((cAndT (cB (cBin (gEq false) (cVar 2) (cLit (.int 4)))) (cB (cBin gGt (cVar 1) (cLit (.int 1))))))
def bb5 : CS :=
  cRet (cTup (cCons (cLit (.str "different")) (cCons (cCall m_law_some (cCons (cVar 0) (cCons (cVar 1) (cCons (cLit (.int 2)) cNil)))) cNil)))
def bt6 : CT :=
  (cB (cBin (gEq false) (cVar 2) (cLit (.int 5))))
def bb6 : CS :=
  cSeq (cAsg (tName 7) (cSl (cCall m_law_some (cCons (cVar 0) (cCons (cVar 1) (cCons (cLit (.int 1)) cNil)))) oNone (oSome (cLit (.int 3)))))
  (cSeq (cAsg (tName 8) (cLst cNil))
  (cSeq (cFor (tName 5) (iRange1 (cBin gAdd (cLit (.int 1)) (cCall mDraw (cCons (cVar 0) (cCons (cLit (.int 4)) cNil))))) (cApp 8 (cBi gTuple (cCons (cLc (tName 10) (iVar 7) tYesT (cBin Mp.gSub (cCall mDraw (cCons (cVar 0) (cCons (cLit (.int 7)) cNil))) (cLit (.int 2))) [10]) cNil))))
  (cRet (cTup (cCons (cLit (.str "table")) (cCons (cVar 7) (cCons (cBi gTuple (cCons (cVar 8) cNil)) cNil)))))))
def bt7 : CT :=
  (cB (cBin (gEq false) (cVar 2) (cLit (.int 6))))
def bb7 : CS :=
  cSeq (cAsg (tName 9) (cLc (tName 5) (iRange1 (cBin gAdd (cLit (.int 1)) (cCall mDraw (cCons (cVar 0) (cCons (cLit (.int 4)) cNil))))) tYesT (cBin Mp.gSub (cCall mDraw (cCons (cVar 0) (cCons (cLit (.int 7)) cNil))) (cLit (.int 2))) [5]))
  (cRet (cTup (cCons (cLit (.str "element")) (cCons (cCall mDraw (cCons (cVar 0) (cCons (cVar 1) cNil))) (cCons (cBi gTuple (cCons (cVar 9) cNil)) (cCons (cCall mDraw (cCons (cVar 0) (cCons (cVar 1) cNil))) cNil))))))
def bt8 : CT :=
  (cB (cBin (gEq false) (cVar 2) (cLit (.int 7))))
def bb8 : CS :=
  cRet (cTup (cCons (cLit (.str "times")) (cCons (cCall mDraw (cCons (cVar 0) (cCons (cVar 1) cNil))) (cCons (cCall mDraw (cCons (cVar 0) (cCons (cVar 1) cNil))) (cCons (cCall mDraw (cCons (cVar 0) (cCons (cVar 1) cNil))) cNil)))))
def bb9 : CS :=
  cRet (cTup (cCons (cLit (.str "row")) (cCons (cCall m_law_terms (cCons (cVar 0) (cCons (cVar 1) cNil))) (cCons (cVar 3) (cCons (cBin Mp.gSub (cCall mDraw (cCons (cVar 0) (cCons (cLit (.int 16)) cNil))) (cLit (.int 6))) cNil)))))
theorem body_seq : c_law_body = cSeq bb1 (cSeq bb2 (cSeq (cIfS bt3 bb3 cSkip) (cSeq (cIfS bt4 bb4 cSkip) (cSeq (cIfS bt5 bb5 cSkip) (cSeq (cIfS bt6 bb6 cSkip) (cSeq (cIfS bt7 bb7 cSkip) (cSeq (cIfS bt8 bb8 cSkip) (bb9)))))))) := rfl
theorem row_ok {n many : Nat} {S : Store} (r : Rl) (hr : r ≠ .ne) (tp : TapeAt n S) (h1 : 1 ≤ many) (hm : many ≤ 60) (k : Int) : ∃ b S2, bb9 [some (.cel n, .brw), some (.int ((many : Nat) : Int), .brw), some (.int k, .frz), some (.str (rlS r), .frz), none, none, none, none, none, none, none] S = some (.rt (encB b, .own) S2) ∧ BOk many b ∧ TapeAt n S2 ∧ SameBut n S S2 := by
  obtain ⟨ts, S2, e, hts, tp2, sb2⟩ := law_terms_ok tp hm
  obtain ⟨d, S3, e3, hd0, hd1, tp3, sb3⟩ := draw_ok (many := 16) tp2 (by decide) (by decide)
  refine ⟨.row ts r (d - 6), S3, ?_, ⟨hts.ok hm, hr⟩, tp3, sb2.trans sb3⟩
  unfold bb9
  have hs : sto (encT ts, .own) = true := rfl
  walk_at "go"
  rfl
theorem tim_ok {n many : Nat} {S : Store} (r : Rl) (hr : r ≠ .ne) (tp : TapeAt n S) (h1 : 1 ≤ many) (hm : many ≤ 60) : ∃ b S2, bb8 [some (.cel n, .brw), some (.int ((many : Nat) : Int), .brw), some (.int 7, .frz), some (.str (rlS r), .frz), none, none, none, none, none, none, none] S = some (.rt (encB b, .own) S2) ∧ BOk many b ∧ TapeAt n S2 ∧ SameBut n S S2 := by
  obtain ⟨x, S2, e, hx0, hx1, tp2, sb2⟩ := draw_ok (many := ((many : Nat) : Int)) tp (by omega) (by omega)
  obtain ⟨y, S3, e3, hy0, hy1, tp3, sb3⟩ := draw_ok (many := ((many : Nat) : Int)) tp2 (by omega) (by omega)
  obtain ⟨z, S4, e4, hz0, hz1, tp4, sb4⟩ := draw_ok (many := ((many : Nat) : Int)) tp3 (by omega) (by omega)
  refine ⟨.tim x y z, S4, ?_, ⟨⟨hx0, hx1⟩, ⟨hy0, hy1⟩, ⟨hz0, hz1⟩⟩, tp4, (sb2.trans sb3).trans sb4⟩
  unfold bb8
  walk_at "go"
  rfl
theorem whn_ok {n many : Nat} {S : Store} (r : Rl) (hr : r ≠ .ne) (tp : TapeAt n S) (h1 : 1 ≤ many) (hm : many ≤ 60) : ∃ b S2, bb4 [some (.cel n, .brw), some (.int ((many : Nat) : Int), .brw), some (.int 3, .frz), some (.str (rlS r), .frz), none, none, none, none, none, none, none] S = some (.rt (encB b, .own) S2) ∧ BOk many b ∧ TapeAt n S2 ∧ SameBut n S S2 := by
  obtain ⟨l, S2, e, hl, _, _, tp2, sb2⟩ := literal_ok tp h1 hm
  obtain ⟨ts, S3, e3, hts, tp3, sb3⟩ := law_terms_ok tp2 hm
  obtain ⟨d, S4, e4, hd0, hd1, tp4, sb4⟩ := draw_ok (many := 16) tp3 (by decide) (by decide)
  refine ⟨.whn l ts r (d - 6), S4, ?_, ⟨hl, hts.ok hm, hr⟩, tp4, (sb2.trans sb3).trans sb4⟩
  have hs : ∀ ts m, sto (encT ts, m) = true := fun _ _ => rfl
  have hs2 : ∀ l m, sto (encL l, m) = true := fun _ _ => rfl
  have hs3 : ∀ l m, md (encL l, m) = (encL l, .frz) := fun _ _ => rfl
  unfold bb4
  walk_at "go"
  rfl
theorem dif_ok {n many : Nat} {S : Store} (r : Rl) (hr : r ≠ .ne) (tp : TapeAt n S) (h1 : 1 ≤ many) (hm : many ≤ 60) (h2 : 2 ≤ many) : ∃ b S2, bb5 [some (.cel n, .brw), some (.int ((many : Nat) : Int), .brw), some (.int 4, .frz), some (.str (rlS r), .frz), none, none, none, none, none, none, none] S = some (.rt (encB b, .own) S2) ∧ BOk many b ∧ TapeAt n S2 ∧ SameBut n S S2 := by
  obtain ⟨vs, S2, e, ⟨us, hp⟩, hl, tp2, sb2⟩ := some_ok (least := 2) tp hm (by omega) (by omega)
  refine ⟨.dif vs, S2, ?_, VsOk.of hp hm, tp2, sb2⟩
  have hs : ∀ ts m, sto (encP ts, m) = true := fun _ _ => rfl
  unfold bb5
  walk_at "go"
  rfl
theorem lc_draws {n : Nat} {S : Store} {q o : Int} {j : Nat} {ρ : Mp.Env} {m0 : Md} (tp : TapeAt n S) (hq : 0 < q) (hq2 : q < 1073741824) (h0 : ρ[0]? = some (some (.cel n, m0))) (hj : j ≠ 0) (ws : List W) :
    ∃ (is : List Int) (S2 : Store), lcL (tName j) tYesT (cBin Mp.gSub (cCall mDraw (cCons (cVar 0) (cCons (cLit (.int q)) cNil))) (cLit (.int o))) ρ ws S = some (is.map .int, S2) ∧ is.length = ws.length ∧ TapeAt n S2 ∧ SameBut n S S2 := by
  obtain ⟨gs, S2, e, ⟨t2, sb⟩, hp⟩ := lc_ex (I := fun S' => TapeAt n S' ∧ SameBut n S S') (R := fun _ g => ∃ i : Int, g = .int i ∧ True) (ws := ws) (t := tName j) (c := tYesT) (f := cBin Mp.gSub (cCall mDraw (cCons (cVar 0) (cCons (cLit (.int q)) cNil))) (cLit (.int o))) (ρ := ρ) ⟨tp, .refl⟩ (fun w hw S1 ⟨t1, sb1⟩ => by
    obtain ⟨d, S2, e, _, _, t2, sb2⟩ := draw_ok t1 hq hq2
    refine ⟨ρ.set j (some (md (w, .frz))), .int (d - o), .own, S2, by rw [q_tName, sto_frz, if_pos rfl], rfl, ?_, rfl, ⟨t2, sb1.trans sb2⟩, _, rfl, trivial⟩
    have h2 : (ρ.set j (some (md (w, .frz))))[0]? = some (some (.cel n, m0)) := by rw [List.getElem?_set_ne hj]; exact h0
    walk_at "ev"
    rw [h2]
    walk_at "ev"
    rw [e]
    walk_at "ev")
  obtain ⟨is, rfl, hl, _⟩ := paired_pts hp
  exact ⟨is, S2, e, hl, t2, sb⟩
theorem ele_ok {n many : Nat} {S : Store} (r : Rl) (hr : r ≠ .ne) (tp : TapeAt n S) (h1 : 1 ≤ many) (hm : many ≤ 60) : ∃ b S2, bb7 [some (.cel n, .brw), some (.int ((many : Nat) : Int), .brw), some (.int 6, .frz), some (.str (rlS r), .frz), none, none, none, none, none, none, none] S = some (.rt (encB b, .own) S2) ∧ BOk many b ∧ TapeAt n S2 ∧ SameBut n S S2 := by
  obtain ⟨d, S2, e, hd0, hd1, tp2, sb2⟩ := draw_ok (many := 4) tp (by decide) (by decide)
  obtain ⟨c, hc⟩ : ∃ c : Nat, 1 + d = ((c : Nat) : Int) := ⟨(1 + d).toNat, by omega⟩
  have hr1 : iRange1 (cBin gAdd (cLit (.int 1)) (cCall mDraw (cCons (cVar 0) (cCons (cLit (.int 4)) cNil)))) [some (.cel n, .brw), some (.int ((many : Nat) : Int), .brw), some (.int 6, .frz), some (.str (rlS r), .frz), none, none, none, none, none, none, none] S = some ((List.range c).map fun k : Nat => W.int ((k : Nat) : Int), S2) := by
    refine rng_ok (m := .own) ?_ (by omega)
    walk_at "go"
  obtain ⟨es, S3, e3, hl, tp3, sb3⟩ := lc_draws (q := 7) (o := 2) (j := 5) (ρ := wipeE [some (.cel n, .brw), some (.int ((many : Nat) : Int), .brw), some (.int 6, .frz), some (.str (rlS r), .frz), none, none, none, none, none, none, none] [5]) (m0 := .brw) tp2 (by decide) (by decide) rfl (by decide) ((List.range c).map fun k : Nat => W.int ((k : Nat) : Int))
  rw [List.length_map, List.length_range] at hl
  obtain ⟨x, S4, e4, hx0, hx1, tp4, sb4⟩ := draw_ok (many := ((many : Nat) : Int)) tp3 (by omega) (by omega)
  obtain ⟨y, S5, e5, hy0, hy1, tp5, sb5⟩ := draw_ok (many := ((many : Nat) : Int)) tp4 (by omega) (by omega)
  refine ⟨.ele x es y, S5, ?_, ⟨⟨hx0, hx1⟩, ⟨hy0, hy1⟩, by omega⟩, tp5, ((sb2.trans sb3).trans sb4).trans sb5⟩
  unfold bb7
  rw [seq_nx (ρ2 := [some (.cel n, .brw), some (.int ((many : Nat) : Int), .brw), some (.int 6, .frz), some (.str (rlS r), .frz), none, none, none, none, none, some (.lst (es.map .int), .own), none]) (S2 := S3) (by
    rw [q_asg, q_lc, hr1]
    dsimp only [bnd_some]
    rw [if_pos (size_ok (by rw [List.length_map, List.length_range]; omega)), e3]
    walk_at "ev")]
  walk_at "go"
  rfl
theorem okL (l : Ltl) (n : Nat) : okD (encL l) (n + 1) = true := okD_tup fun w hw => by
  simp only [List.mem_cons, List.not_mem_nil, or_false] at hw
  rcases hw with rfl | rfl | rfl
  · rfl
  · unfold okD
    cases l.r <;> decide +kernel
  · rfl
theorem any_ok {n many : Nat} {S : Store} (r : Rl) (hr : r ≠ .ne) (tp : TapeAt n S) (h1 : 1 ≤ many) (hm : many ≤ 60) : ∃ b S2, bb3 [some (.cel n, .brw), some (.int ((many : Nat) : Int), .brw), some (.int 2, .frz), some (.str (rlS r), .frz), none, none, none, none, none, none, none] S = some (.rt (encB b, .own) S2) ∧ BOk many b ∧ TapeAt n S2 ∧ SameBut n S S2 := by
  obtain ⟨d, S2, e, hd0, hd1, tp2, sb2⟩ := draw_ok (many := 3) tp (by decide) (by decide)
  obtain ⟨c, hc⟩ : ∃ c : Nat, 1 + d = ((c : Nat) : Int) := ⟨(1 + d).toNat, by omega⟩
  have hr1 : iRange1 (cBin gAdd (cLit (.int 1)) (cCall mDraw (cCons (cVar 0) (cCons (cLit (.int 3)) cNil)))) ([some (.cel n, .brw), some (.int ((many : Nat) : Int), .brw), some (.int 2, .frz), some (.str (rlS r), .frz), some (.lst [], .own), none, none, none, none, none, none]) S = some ((List.range c).map fun k : Nat => W.int ((k : Nat) : Int), S2) := by
    refine rng_ok (m := .own) ?_ (by omega)
    walk_at "go"
  obtain ⟨ρ2, S3, e3, ls, x5, x6, rfl, hl0, hl1, hl2, tp3, sb3⟩ := for_inv (ws := (List.range c).map fun k : Nat => W.int ((k : Nat) : Int)) (t := (tName 5)) (b := (cSeq (cAsg (tName 6) (cCall m_law_literal (cCons (cVar 0) (cCons (cVar 1) cNil))))
  (cIfS (cB (cBin (gIn true) (cVar 6) (cVar 4))) (cApp 4 (cVar 6)) (cSkip))))
    (fun i ρ S3 => ∃ (ls : List Ltl) (x5 x6 : Option (W × Md)), ρ = [some (.cel n, .brw), some (.int ((many : Nat) : Int), .brw), some (.int 2, .frz), some (.str (rlS r), .frz), some (.lst (ls.map encL), .own), x5, x6, none, none, none, none] ∧ (0 < i → ls ≠ []) ∧ ls.length ≤ i ∧ (∀ l ∈ ls, LOk many l) ∧ TapeAt n S3 ∧ SameBut n S S3)
    (fun i w ρ S3 hw hI => by
      obtain ⟨ls, x5, x6, rfl, hl0, hl1, hl2, tp3, sb3⟩ := hI
      have hi : i < c := by
        have := (List.getElem?_eq_some_iff.mp hw).1
        simpa using this
      rw [List.getElem?_map, List.getElem?_range hi] at hw
      injection hw with hw
      subst hw
      obtain ⟨l, S4, e4, hl, _, _, tp4, sb4⟩ := literal_ok tp3 h1 hm
      have hs2 : ∀ l m, sto (encL l, m) = true := fun _ _ => rfl
      have hs3 : ∀ l m, md (encL l, m) = (encL l, .frz) := fun _ _ => rfl
      have hin := gIn_ok (neg := true) (okL l 63) (okD_lst (n := 63) (ws := ls.map encL) fun w hw => by
        obtain ⟨l, _, rfl⟩ := List.mem_map.mp hw
        exact okL l 62)
      by_cases hb : ((ls.map encL).any fun z => eqW z (encL l)) = true
      · refine ⟨_, [some (.cel n, .brw), some (.int ((many : Nat) : Int), .brw), some (.int 2, .frz), some (.str (rlS r), .frz), some (.lst (ls.map encL), .own), some (.int ((i : Nat) : Int), .frz), some (encL l, .frz), none, none, none, none], S4, by walk_at "ev"; rfl, ?_, ls, some (.int ((i : Nat) : Int), .frz), some (encL l, .frz), rfl, fun _ hn => ?_, by omega, hl2, tp4, sb3.trans sb4⟩
        · rw [hb] at hin
          walk_at "go"
        · subst hn
          cases hb
      · rw [Bool.not_eq_true] at hb
        refine ⟨_, [some (.cel n, .brw), some (.int ((many : Nat) : Int), .brw), some (.int 2, .frz), some (.str (rlS r), .frz), some (.lst ((ls ++ [l]).map encL), .own), some (.int ((i : Nat) : Int), .frz), some (encL l, .frz), none, none, none, none], S4, by walk_at "ev"; rfl, ?_, ls ++ [l], some (.int ((i : Nat) : Int), .frz), some (encL l, .frz), rfl, fun _ => by simp, by rw [List.length_append]; simp only [List.length_singleton]; omega, fun l' h' => ?_, tp4, sb3.trans sb4⟩
        · rw [hb] at hin
          walk_at "go"
          rw [if_pos (size_lt (by omega)), List.map_append]
          rfl
        · rcases List.mem_append.mp h' with h' | h'
          · exact hl2 l' h'
          · rw [List.mem_singleton.mp h']; exact hl)
    (ρ := [some (.cel n, .brw), some (.int ((many : Nat) : Int), .brw), some (.int 2, .frz), some (.str (rlS r), .frz), some (.lst [], .own), none, none, none, none, none, none]) (S := S2) ⟨[], none, none, rfl, fun h => absurd h (Nat.lt_irrefl _), Nat.le_refl _, fun _ h => (by cases h), tp2, sb2⟩
  rw [List.length_map, List.length_range] at hl0 hl1
  refine ⟨.any ls, S3, ?_, ⟨hl0 (by omega), by omega, hl2⟩, tp3, sb3⟩
  unfold bb3
  rw [seq_nx (ρ2 := [some (.cel n, .brw), some (.int ((many : Nat) : Int), .brw), some (.int 2, .frz), some (.str (rlS r), .frz), some (.lst [], .own), none, none, none, none, none, none]) (S2 := S) (by walk_at "go")]
  rw [seq_nx (ρ2 := [some (.cel n, .brw), some (.int ((many : Nat) : Int), .brw), some (.int 2, .frz), some (.str (rlS r), .frz), some (.lst (ls.map encL), .own), x5, x6, none, none, none, none]) (S2 := S3) (by rw [q_for, hr1]; exact e3)]
  walk_at "go"
  rfl
theorem cut_map {A B : Type} (f : A → B) (xs : List A) (lo hi : Option Int) : cutW (xs.map f) lo hi = (cutW xs lo hi).map f := by
  unfold cutW
  rw [List.length_map, List.map_take, List.map_drop]
theorem cut_take {A : Type} (xs : List A) (k : Nat) : cutW xs none (some ((k : Nat) : Int)) = xs.take k := by
  unfold cutW
  rw [HT.sIx_none, HT.sIx_nat, List.drop_zero, Nat.sub_zero]
  by_cases h : k ≤ xs.length
  · rw [Nat.min_eq_left h]
  · rw [Nat.min_eq_right (by omega), List.take_of_length_le (Nat.le_refl _), List.take_of_length_le (by omega)]
theorem sl_take (p : List Int) (k : Nat) : gSl (encP p) none (some ((k : Nat) : Int)) = some (encP (p.take k)) := by
  show some (W.tup _) = some (W.tup _)
  rw [cut_map, cut_take]
theorem VsOk.take {n : Nat} {vs : List Int} (h : VsOk n vs) (k : Nat) : VsOk n (vs.take k) :=
  ⟨by have := h.1; rw [List.length_take]; omega, (List.take_sublist k vs).nodup h.2.1, fun v hv => h.2.2 v (List.mem_of_mem_take hv)⟩
theorem tab_ok {n many : Nat} {S : Store} (r : Rl) (hr : r ≠ .ne) (tp : TapeAt n S) (h1 : 1 ≤ many) (hm : many ≤ 60) : ∃ b S2, bb6 [some (.cel n, .brw), some (.int ((many : Nat) : Int), .brw), some (.int 5, .frz), some (.str (rlS r), .frz), none, none, none, none, none, none, none] S = some (.rt (encB b, .own) S2) ∧ BOk many b ∧ TapeAt n S2 ∧ SameBut n S S2 := by
  obtain ⟨vs0, S2, e, ⟨us, hp⟩, hl0, tp2, sb2⟩ := some_ok (least := 1) tp hm (by omega) (by omega)
  have hvs := (VsOk.of hp hm).take 3
  have hsl : gSl (encP vs0) none (some 3) = some (encP (vs0.take 3)) := sl_take vs0 3
  generalize vs0.take 3 = vs at hvs hsl
  obtain ⟨d, S3, e3, hd0, hd1, tp3, sb3⟩ := draw_ok (many := 4) tp2 (by decide) (by decide)
  obtain ⟨c, hc⟩ : ∃ c : Nat, 1 + d = ((c : Nat) : Int) := ⟨(1 + d).toNat, by omega⟩
  have hr1 : iRange1 (cBin gAdd (cLit (.int 1)) (cCall mDraw (cCons (cVar 0) (cCons (cLit (.int 4)) cNil)))) ([some (.cel n, .brw), some (.int ((many : Nat) : Int), .brw), some (.int 5, .frz), some (.str (rlS r), .frz), none, none, none, some (encP vs, .frz), some (.lst [], .own), none, none]) S2 = some ((List.range c).map fun k : Nat => W.int ((k : Nat) : Int), S3) := by
    refine rng_ok (m := .own) ?_ (by omega)
    walk_at "go"
  obtain ⟨ρ2, S4, e4, rows, x5, rfl, hl1, hrows, tp4, sb4⟩ := for_inv (ws := (List.range c).map fun k : Nat => W.int ((k : Nat) : Int)) (t := (tName 5)) (b := (cApp 8 (cBi gTuple (cCons (cLc (tName 10) (iVar 7) tYesT (cBin Mp.gSub (cCall mDraw (cCons (cVar 0) (cCons (cLit (.int 7)) cNil))) (cLit (.int 2))) [10]) cNil))))
    (fun i ρ S4 => ∃ (rows : List (List Int)) (x5 : Option (W × Md)), ρ = [some (.cel n, .brw), some (.int ((many : Nat) : Int), .brw), some (.int 5, .frz), some (.str (rlS r), .frz), none, x5, none, some (encP vs, .frz), some (.lst (rows.map encP), .own), none, none] ∧ rows.length = i ∧ (∀ row ∈ rows, row.length = vs.length) ∧ TapeAt n S4 ∧ SameBut n S S4)
    (fun i w ρ S4 hw hI => by
      obtain ⟨rows, x5, rfl, hl1, hrows, tp4, sb4⟩ := hI
      have hi : i < c := by
        have := (List.getElem?_eq_some_iff.mp hw).1
        simpa using this
      rw [List.getElem?_map, List.getElem?_range hi] at hw
      injection hw with hw
      subst hw
      obtain ⟨is, S5, e5, hl5, tp5, sb5⟩ := lc_draws (q := 7) (o := 2) (j := 10) (ρ := wipeE [some (.cel n, .brw), some (.int ((many : Nat) : Int), .brw), some (.int 5, .frz), some (.str (rlS r), .frz), none, some (.int ((i : Nat) : Int), .frz), none, some (encP vs, .frz), some (.lst (rows.map encP), .own), none, none] [10]) (m0 := .brw) tp4 (by decide) (by decide) rfl (by decide) (vs.map .int)
      rw [List.length_map] at hl5
      have hit : itemsOf (encP vs) = some (vs.map .int) := rfl
      have him : (encP vs).mut = false := rfl
      refine ⟨[some (.cel n, .brw), some (.int ((many : Nat) : Int), .brw), some (.int 5, .frz), some (.str (rlS r), .frz), none, some (.int ((i : Nat) : Int), .frz), none, some (encP vs, .frz), some (.lst (rows.map encP), .own), none, none], [some (.cel n, .brw), some (.int ((many : Nat) : Int), .brw), some (.int 5, .frz), some (.str (rlS r), .frz), none, some (.int ((i : Nat) : Int), .frz), none, some (encP vs, .frz), some (.lst ((rows ++ [is]).map encP), .own), none, none], S5, by walk_at "ev", ?_, rows ++ [is], some (.int ((i : Nat) : Int), .frz), rfl, by rw [List.length_append, hl1]; rfl, fun row hrow => ?_, tp5, sb4.trans sb5⟩
      · have e6 : cLc (tName 10) (iVar 7) tYesT (cBin Mp.gSub (cCall mDraw (cCons (cVar 0) (cCons (cLit (.int 7)) cNil))) (cLit (.int 2))) [10] [some (.cel n, .brw), some (.int ((many : Nat) : Int), .brw), some (.int 5, .frz), some (.str (rlS r), .frz), none, some (.int ((i : Nat) : Int), .frz), none, some (encP vs, .frz), some (.lst (rows.map encP), .own), none, none] S4 = some ((.lst (is.map .int), .own), S5) := by
          rw [q_lc, q_iVar]
          simp only [List.getElem?_cons_succ, List.getElem?_cons_zero, him, Bool.false_eq_true, false_and, if_false, hit, Option.map_some, bnd_some]
          rw [if_pos (size_ok (by rw [List.length_map]; have := hvs.1; omega)), e5]
          rfl
        rw [q_app, q_bi, q_cons, e6]
        walk_at "go"
        rw [if_pos (size_lt (by omega)), List.map_append]
        rfl
      · rcases List.mem_append.mp hrow with h' | h'
        · exact hrows row h'
        · rw [List.mem_singleton.mp h']; exact hl5)
    (ρ := [some (.cel n, .brw), some (.int ((many : Nat) : Int), .brw), some (.int 5, .frz), some (.str (rlS r), .frz), none, none, none, some (encP vs, .frz), some (.lst [], .own), none, none]) (S := S3) ⟨[], none, rfl, rfl, fun _ h => (by cases h), tp3, sb2.trans sb3⟩
  rw [List.length_map, List.length_range] at hl1
  refine ⟨.tab vs rows, S4, ?_, ⟨hvs, by omega, hrows⟩, tp4, sb4⟩
  have hs : ∀ ts m, sto (encP ts, m) = true := fun _ _ => rfl
  have hs3 : ∀ l m, md (encP l, m) = (encP l, .frz) := fun _ _ => rfl
  unfold bb6
  rw [seq_nx (ρ2 := [some (.cel n, .brw), some (.int ((many : Nat) : Int), .brw), some (.int 5, .frz), some (.str (rlS r), .frz), none, none, none, some (encP vs, .frz), none, none, none]) (S2 := S2) (by walk_at "go")]
  rw [seq_nx (ρ2 := [some (.cel n, .brw), some (.int ((many : Nat) : Int), .brw), some (.int 5, .frz), some (.str (rlS r), .frz), none, none, none, some (encP vs, .frz), some (.lst [], .own), none, none]) (S2 := S2) (by walk_at "go")]
  rw [seq_nx (ρ2 := [some (.cel n, .brw), some (.int ((many : Nat) : Int), .brw), some (.int 5, .frz), some (.str (rlS r), .frz), none, x5, none, some (encP vs, .frz), some (.lst (rows.map encP), .own), none, none]) (S2 := S4) (by rw [q_for, hr1]; exact e4)]
  walk_at "go"
  rfl
theorem body_ok {n many : Nat} {S : Store} (tp : TapeAt n S) (h1 : 1 ≤ many) (hm : many ≤ 60) : ∃ b S2, m_law_body [.cel n, .int ((many : Nat) : Int)] S = some ((encB b, .own), S2) ∧ BOk many b ∧ TapeAt n S2 ∧ SameBut n S S2 := by
  suffices h : ∃ b S2, c_law_body [some (.cel n, .brw), some (.int ((many : Nat) : Int), .brw), none, none, none, none, none, none, none, none, none] S = some (.rt (encB b, .own) S2) ∧ BOk many b ∧ TapeAt n S2 ∧ SameBut n S S2 by
    obtain ⟨b, S2, e, hb, tp2, sb2⟩ := h
    refine ⟨b, S2, ?_, hb, tp2, sb2⟩
    unfold m_law_body
    rw [cFn_run (by rfl)]
    show fin (c_law_body [some (.cel n, .brw), some (.int ((many : Nat) : Int), .brw), none, none, none, none, none, none, none, none, none] S) = _
    rw [e, fin_rt, sto_own, if_pos rfl]
  obtain ⟨k, S2, e, hk0, hk1, tp2, sb2⟩ := draw_ok (many := 8) tp (by decide) (by decide)
  obtain ⟨d, S3, e3, hd0, hd1, tp3, sb3⟩ := draw_ok (many := 3) tp2 (by decide) (by decide)
  obtain ⟨r, hr, hrx⟩ := rl_ix3 d hd0 hd1
  rw [body_seq]
  rw [seq_nx (f := bb1) (ρ2 := [some (.cel n, .brw), some (.int ((many : Nat) : Int), .brw), some (.int k, .frz), none, none, none, none, none, none, none, none]) (S2 := S2) (by unfold bb1; walk_at "go")]
  rw [seq_nx (f := bb2) (ρ2 := [some (.cel n, .brw), some (.int ((many : Nat) : Int), .brw), some (.int k, .frz), some (.str (rlS r), .frz), none, none, none, none, none, none, none]) (S2 := S3) (by unfold bb2; walk_at "go")]
  have fin : ∀ (f : CS), (∃ b S2, f [some (.cel n, .brw), some (.int ((many : Nat) : Int), .brw), some (.int k, .frz), some (.str (rlS r), .frz), none, none, none, none, none, none, none] S3 = some (.rt (encB b, .own) S2) ∧ BOk many b ∧ TapeAt n S2 ∧ SameBut n S3 S2) → ∃ b S2, f [some (.cel n, .brw), some (.int ((many : Nat) : Int), .brw), some (.int k, .frz), some (.str (rlS r), .frz), none, none, none, none, none, none, none] S3 = some (.rt (encB b, .own) S2) ∧ BOk many b ∧ TapeAt n S2 ∧ SameBut n S S2 := fun f ⟨b, S4, e4, hb, tp4, sb4⟩ => ⟨b, S4, e4, hb, tp4, (sb2.trans sb3).trans sb4⟩
  refine fin _ ?_
  have hk : k = 0 ∨ k = 1 ∨ k = 2 ∨ k = 3 ∨ k = 4 ∨ k = 5 ∨ k = 6 ∨ k = 7 := by omega
  rcases hk with rfl | rfl | rfl | rfl | rfl | rfl | rfl | rfl
  · rw [seq_if_f (t := bt3) (by unfold bt3; walk_at "ev"), seq_if_f (t := bt4) (by unfold bt4; walk_at "ev"), seq_if_f (t := bt5) (by unfold bt5; walk_at "ev"), seq_if_f (t := bt6) (by unfold bt6; walk_at "ev"), seq_if_f (t := bt7) (by unfold bt7; walk_at "ev"), seq_if_f (t := bt8) (by unfold bt8; walk_at "ev")]
    exact row_ok r hr tp3 h1 hm _
  · rw [seq_if_f (t := bt3) (by unfold bt3; walk_at "ev"), seq_if_f (t := bt4) (by unfold bt4; walk_at "ev"), seq_if_f (t := bt5) (by unfold bt5; walk_at "ev"), seq_if_f (t := bt6) (by unfold bt6; walk_at "ev"), seq_if_f (t := bt7) (by unfold bt7; walk_at "ev"), seq_if_f (t := bt8) (by unfold bt8; walk_at "ev")]
    exact row_ok r hr tp3 h1 hm _
  · obtain ⟨b, S4, e4, h4⟩ := any_ok r hr tp3 h1 hm
    exact ⟨b, S4, seq_if_t (by unfold bt3; walk_at "ev") e4, h4⟩
  · rw [seq_if_f (t := bt3) (by unfold bt3; walk_at "ev")]
    obtain ⟨b, S4, e4, h4⟩ := whn_ok r hr tp3 h1 hm
    exact ⟨b, S4, seq_if_t (by unfold bt4; walk_at "ev") e4, h4⟩
  · rw [seq_if_f (t := bt3) (by unfold bt3; walk_at "ev"), seq_if_f (t := bt4) (by unfold bt4; walk_at "ev")]
    by_cases h2 : 2 ≤ many
    · obtain ⟨b, S4, e4, h4⟩ := dif_ok r hr tp3 h1 hm h2
      exact ⟨b, S4, seq_if_t (by unfold bt5; walk_at "ev"; rw [decide_eq_true (by omega)]) e4, h4⟩
    · rw [seq_if_f (t := bt5) (by unfold bt5; walk_at "ev"; rw [decide_eq_false (by omega)]), seq_if_f (t := bt6) (by unfold bt6; walk_at "ev"), seq_if_f (t := bt7) (by unfold bt7; walk_at "ev"), seq_if_f (t := bt8) (by unfold bt8; walk_at "ev")]
      exact row_ok r hr tp3 h1 hm _
  · rw [seq_if_f (t := bt3) (by unfold bt3; walk_at "ev"), seq_if_f (t := bt4) (by unfold bt4; walk_at "ev"), seq_if_f (t := bt5) (by unfold bt5; walk_at "ev")]
    obtain ⟨b, S4, e4, h4⟩ := tab_ok r hr tp3 h1 hm
    exact ⟨b, S4, seq_if_t (by unfold bt6; walk_at "ev") e4, h4⟩
  · rw [seq_if_f (t := bt3) (by unfold bt3; walk_at "ev"), seq_if_f (t := bt4) (by unfold bt4; walk_at "ev"), seq_if_f (t := bt5) (by unfold bt5; walk_at "ev"), seq_if_f (t := bt6) (by unfold bt6; walk_at "ev")]
    obtain ⟨b, S4, e4, h4⟩ := ele_ok r hr tp3 h1 hm
    exact ⟨b, S4, seq_if_t (by unfold bt7; walk_at "ev") e4, h4⟩
  · rw [seq_if_f (t := bt3) (by unfold bt3; walk_at "ev"), seq_if_f (t := bt4) (by unfold bt4; walk_at "ev"), seq_if_f (t := bt5) (by unfold bt5; walk_at "ev"), seq_if_f (t := bt6) (by unfold bt6; walk_at "ev"), seq_if_f (t := bt7) (by unfold bt7; walk_at "ev")]
    obtain ⟨b, S4, e4, h4⟩ := tim_ok r hr tp3 h1 hm
    exact ⟨b, S4, seq_if_t (by unfold bt8; walk_at "ev") e4, h4⟩
end Lg
/-! where a body holds -/
namespace Lg
open PySem PySem.Spec PyProof.Rows L2 Mp
theorem atI_3 {A : Type} (x y z w : A) (xs : List A) : atI (x :: y :: z :: w :: xs) 3 = some w := by rw [atI_of (by omega)]; rfl
theorem atI_4 {A : Type} (x y z w v : A) (xs : List A) : atI (x :: y :: z :: w :: v :: xs) 4 = some v := by rw [atI_of (by omega)]; rfl
local macro_rules | `(tactic| walk_at "ev") => `(tactic| simp -implicitDefEqProofs only [q_lit, q_nil, q_cons, q_var, q_bin, q_tup, q_lst, q_box, q_neg, q_notT, q_andT, q_orT, q_notV, q_andV, q_orV, q_if, q_B, q_ix, q_call, q_bi, q_sl, q_oNone, q_oSome, q_dk, q_dt, q_yesT, q_get2,
  q_lc, q_iExp, q_iVar, q_iEnV, items_tup, items_lst, q_seq, q_skip, q_ret, q_retV, q_ifS, q_asg, q_drop, q_for, q_tName, q_tTup, q_tCons, q_tNil, q_fz, q_frzE, q_app, q_aug, q_setIx, q_wipe0, q_wipe, fin_rt, fin_nx,
  mut_non, mut_bl, mut_int, mut_str, mut_tup, mut_lst, mut_dk, mut_dt, mut_scr, mut_cel, sto_non, sto_bl, sto_int, sto_str, sto_tup, sto_scr, sto_cel, sto_own, sto_frz, md_non, md_bl, md_int, md_str, md_tup, md_lst, md_dk, md_dt, md_scr, md_cel,
  gAdd_int, gAddI_int, gSub_int, gLt_int, gLe_int, gGt_int, gGe_int, gInt_int, gInt_bl, gLen_tup, gLen_lst, gTuple_lst, gTuple_tup, gList_scr, gList_lst, gList_tup, gIx_tup, gIx_lst, gEq_int, gEq_bl, atI_0, atI_1, atI_2, atI_3, atI_4,
  bnd_some, Option.map_some, Option.bind_some, List.getElem?_cons_succ, List.getElem?_cons_zero, List.set_cons_succ, List.set_cons_zero, List.foldl_cons, List.foldl_nil, List.map_cons, List.map_nil, List.length_map, List.length_cons, List.length_nil, List.all_cons, List.all_nil, Bool.and_true, Bool.true_and, and_true, true_and, false_and, and_false,
  size_le, size_lt', Nat.reduceAdd, Nat.reduceLeDiff, Nat.zero_add, ne_eq, decide_eq_true_eq, Int.reduceEq, Int.reduceLT, Int.reduceLE, Int.reduceNeg, decide_true, decide_false, Bool.false_bne, Bool.true_bne, Bool.not_true, Bool.not_false, reduceCtorEq, if_false, if_true, ite_true, ite_false, Bool.false_eq_true])
local macro_rules | `(tactic| walk_at "go") => `(tactic| simp -implicitDefEqProofs only [q_lit, q_nil, q_cons, q_var, q_bin, q_tup, q_lst, q_box, q_neg, q_notT, q_andT, q_orT, q_notV, q_andV, q_orV, q_if, q_B, q_ix, q_call, q_bi, q_sl, q_oNone, q_oSome, q_dk, q_dt, q_yesT, q_get2,
  q_lc, q_iExp, q_iVar, q_iEnV, items_tup, items_lst, q_seq, q_skip, q_ret, q_retV, q_ifS, q_asg, q_drop, q_for, q_tName, q_tTup, q_tCons, q_tNil, q_fz, q_frzE, q_app, q_aug, q_setIx, q_wipe0, q_wipe, fin_rt, fin_nx,
  mut_non, mut_bl, mut_int, mut_str, mut_tup, mut_lst, mut_dk, mut_dt, mut_scr, mut_cel, sto_non, sto_bl, sto_int, sto_str, sto_tup, sto_scr, sto_cel, sto_own, sto_frz, md_non, md_bl, md_int, md_str, md_tup, md_lst, md_dk, md_dt, md_scr, md_cel,
  gAdd_int, gAddI_int, gSub_int, gLt_int, gLe_int, gGt_int, gGe_int, gInt_int, gInt_bl, gLen_tup, gLen_lst, gTuple_lst, gTuple_tup, gList_scr, gList_lst, gList_tup, gIx_tup, gIx_lst, gEq_int, gEq_bl, atI_0, atI_1, atI_2, atI_3, atI_4,
  bnd_some, Option.map_some, Option.bind_some, List.getElem?_cons_succ, List.getElem?_cons_zero, List.set_cons_succ, List.set_cons_zero, List.foldl_cons, List.foldl_nil, List.map_cons, List.map_nil, List.length_map, List.length_cons, List.length_nil, List.all_cons, List.all_nil, Bool.and_true, Bool.true_and, and_true, true_and, false_and, and_false,
  size_le, size_lt', Nat.reduceAdd, Nat.reduceLeDiff, Nat.zero_add, ne_eq, decide_eq_true_eq, Int.reduceEq, Int.reduceLT, Int.reduceLE, Int.reduceNeg, decide_true, decide_false, Bool.false_bne, Bool.true_bne, Bool.not_true, Bool.not_false, reduceCtorEq, if_false, if_true, ite_true, ite_false, Bool.false_eq_true, *])
def at' (p : List Int) (v : Int) : Int := p.getD v.toNat 0
def tsum (ts : Tm) (p : List Int) : Int := ts.foldl (fun s t => s + t.2 * p.getD t.1.toNat 0) 0
def litH (l : Ltl) (p : List Int) : Bool := rlH l.r (at' p l.v) l.a
theorem at_pt {p : List Int} {v : Int} (h0 : 0 ≤ v) (h1 : v < p.length) : atI (p.map W.int) v = some (.int (p.getD v.toNat 0)) := by
  rw [atI_of h0, List.getElem?_map]
  have h : v.toNat < p.length := by omega
  rw [List.getElem?_eq_getElem h, List.getD_eq_getElem?_getD, List.getElem?_eq_getElem h]
  rfl
theorem law_sum_ok {ts : Tm} {p : List Int} (S : Store) (h : TmOk p.length ts) : m_law_sum [encT ts, encP p] S = some ((.int (tsum ts p), .frz), S) := by
  unfold m_law_sum
  rw [cFn_run (by rfl)]
  show fin (c_law_sum [some (encT ts, .brw), some (encP p, .brw), none, none, none] S) = _
  unfold c_law_sum encT encP
  walk_at "ev"
  obtain ⟨ρ2, S2, e, hI⟩ := for_fold (enc := fun p : Int × Int => .tup [.int p.1, .int p.2]) (st := fun s (t : Int × Int) => s + t.2 * p.getD t.1.toNat 0)
    (t := tTup 2 (tCons (tName 3) (tCons (tName 4) tNil))) (b := cAsg (tName 2) (cBin gAdd (cVar 2) (cBin gMul (cVar 4) (cIx (cVar 1) (cVar 3)))))
    (fun s ρ S' => S' = S ∧ ∃ x3 x4, ρ = [some (encT ts, .brw), some (encP p, .brw), some (.int s, .frz), x3, x4]) (xs := ts) (s := 0) (fun t ht s ρ S' hi => by
      obtain ⟨rfl, x3, x4, rfl⟩ := hi
      obtain ⟨h0, h1, h2, h3⟩ := h.2 t ht
      refine ⟨_, _, _, by walk_at "ev"; rfl, ?_, rfl, some (.int t.1, .frz), some (.int t.2, .frz), rfl⟩
      unfold encP
      walk_at "ev"
      rw [at_pt h0 h1]
      walk_at "ev"
      rw [gMul_int (.inl (by omega))]
      walk_at "ev") ⟨rfl, none, none, rfl⟩
  obtain ⟨rfl, x3, x4, rfl⟩ := hI
  unfold encT encP at e
  rw [e]
  walk_at "ev"
  rfl


theorem ix_P {p : List Int} {v : Int} (S : Store) (h0 : 0 ≤ v) (h1 : v < p.length) : gIx S (encP p) (.int v) = some (.int (at' p v)) := at_pt h0 h1
theorem lit_ok {l : Ltl} {p : List Int} (S : Store) (h : LOk p.length l) : m_law_lit [encL l, encP p] S = some ((.bl (litH l p), .own), S) := by
  have e1 : gIx S (encL l) (.int 0) = some (.int l.v) := rfl
  have e2 : gIx S (encL l) (.int 1) = some (.str (rlS l.r)) := rfl
  have e3 : gIx S (encL l) (.int 2) = some (.int l.a) := rfl
  have e4 := ix_P S h.1 h.2
  have e5 := rel_ok l.r (at' p l.v) l.a S
  unfold m_law_lit
  rw [cFn_run (by rfl)]
  show fin (c_law_lit [some (encL l, .brw), some (encP p, .brw)] S) = _
  unfold c_law_lit
  walk_at "go"
  rfl
theorem toDs_ints : ∀ p : List Int, toDs (p.map .int) = some (p.map .int)
  | [] => rfl
  | x :: p => by
    rw [List.map_cons, List.map_cons]
    unfold toDs
    rw [toDs_ints p]
    rfl
theorem eqvAll_ints : ∀ a b : List Int, PyData.eqvAll (a.map .int) (b.map .int) = decide (a = b)
  | [], [] => rfl
  | [], _ :: _ => rfl
  | _ :: _, [] => rfl
  | x :: a, y :: b => by
    rw [List.map_cons, List.map_cons]
    show (PyData.eqv (.int x) (.int y) && PyData.eqvAll _ _) = _
    rw [eqvAll_ints a b]
    show ((x == y) && _) = _
    by_cases h1 : x = y <;> by_cases h2 : a = b <;> simp [h1, h2]
theorem eqW_P (a b : List Int) : eqW (encP a) (encP b) = decide (a = b) := by
  unfold eqW encP toD
  rw [toDs_ints, toDs_ints]
  exact eqvAll_ints a b
/-- a loop that carries a state and may leave -/
def leaves {A B : Type} (st : B → A → B) (lv : B → A → Bool) : B → List A → Bool
  | _, [] => false
  | s, x :: xs => lv s x || leaves st lv (st s x) xs
theorem for_until {A B : Type} {t : CG} {b : CS} {enc : A → W} {st : B → A → B} {lv : B → A → Bool} {r : Wm} (I : B → List A → Mp.Env → Store → Prop)
    (h : ∀ x xs s ρ S, I s (x :: xs) ρ S → ∃ ρ1, t (enc x, .frz) ρ = some ρ1 ∧ ((lv s x = true ∧ b ρ1 S = some (.rt r S)) ∨ (lv s x = false ∧ ∃ ρ2 S2, b ρ1 S = some (.nx ρ2 S2) ∧ I (st s x) xs ρ2 S2))) : ∀ {xs : List A} {s : B} {ρ : Mp.Env} {S : Store}, I s xs ρ S →
      (leaves st lv s xs = true ∧ ∃ s2 us ρ2 S2, I s2 us ρ2 S2 ∧ cForL t b (xs.map enc) ρ S = some (.rt r S2)) ∨ (leaves st lv s xs = false ∧ ∃ ρ2 S2, cForL t b (xs.map enc) ρ S = some (.nx ρ2 S2) ∧ I (xs.foldl st s) [] ρ2 S2)
  | [], s, ρ, S, h => .inr ⟨rfl, ρ, S, rfl, h⟩
  | x :: xs, s, ρ, S, hi => by
    obtain ⟨ρ1, h1, h2⟩ := h x xs s ρ S hi
    rw [List.map_cons, for_cons, h1]
    unfold leaves
    rcases h2 with ⟨hp, h2⟩ | ⟨hp, ρ2, S2, h2, h3⟩
    · exact .inl ⟨by rw [hp]; rfl, s, x :: xs, ρ, S, hi, by simp only [h2]⟩
    · simp only [h2, hp, Bool.false_or]
      exact for_until I h h3
end Lg
/-! where a body holds, by the law's own reading (printed by mklm.py) -/
namespace Lg
open PySem PySem.Spec PyProof.Rows L2 Mp
theorem md_encT (ts : Tm) (m : Md) : md (encT ts, m) = (encT ts, .frz) := rfl
theorem md_encP (p : List Int) (m : Md) : md (encP p, m) = (encP p, .frz) := rfl
theorem md_encL (l : Ltl) (m : Md) : md (encL l, m) = (encL l, .frz) := rfl
theorem md_encB (b : Bd) (m : Md) : md (encB b, m) = (encB b, .frz) := by cases b <;> rfl
theorem sto_encT (ts : Tm) (m : Md) : sto (encT ts, m) = true := rfl
theorem sto_encP (p : List Int) (m : Md) : sto (encP p, m) = true := rfl
theorem sto_encL (l : Ltl) (m : Md) : sto (encL l, m) = true := rfl
theorem sto_encB (b : Bd) (m : Md) : sto (encB b, m) = true := by cases b <;> rfl
local macro_rules | `(tactic| walk_at "ev") => `(tactic| simp -implicitDefEqProofs only [q_lit, q_nil, q_cons, q_var, q_bin, q_tup, q_lst, q_box, q_neg, q_notT, q_andT, q_orT, q_notV, q_andV, q_orV, q_if, q_B, q_ix, q_call, q_bi, q_sl, q_oNone, q_oSome, q_dk, q_dt, q_yesT, q_get2,
  q_lc, q_iExp, q_iVar, q_iEnV, items_tup, items_lst, q_seq, q_skip, q_ret, q_retV, q_ifS, q_asg, q_drop, q_for, q_tName, q_tTup, q_tCons, q_tNil, q_fz, q_frzE, q_app, q_aug, q_setIx, q_wipe0, q_wipe, fin_rt, fin_nx,
  mut_non, mut_bl, mut_int, mut_str, mut_tup, mut_lst, mut_dk, mut_dt, mut_scr, mut_cel, sto_non, sto_bl, sto_int, sto_str, sto_tup, sto_scr, sto_cel, sto_own, sto_frz, md_non, md_bl, md_int, md_str, md_tup, md_lst, md_dk, md_dt, md_scr, md_cel,
  gAdd_int, gAddI_int, gSub_int, gLt_int, gLe_int, gGt_int, gGe_int, gInt_int, gInt_bl, gLen_tup, gLen_lst, gTuple_lst, gTuple_tup, gList_scr, gList_lst, gList_tup, gIx_tup, gIx_lst, gEq_int, gEq_bl, atI_0, atI_1, atI_2, atI_3, atI_4,
  bnd_some, Option.map_some, Option.bind_some, List.getElem?_cons_succ, List.getElem?_cons_zero, List.set_cons_succ, List.set_cons_zero, List.foldl_cons, List.foldl_nil, List.map_cons, List.map_nil, List.length_map, List.length_cons, List.length_nil, List.all_cons, List.all_nil, Bool.and_true, Bool.true_and, and_true, true_and, false_and, and_false,
  size_le, size_lt', Nat.reduceAdd, Nat.reduceLeDiff, Nat.zero_add, ne_eq, decide_eq_true_eq, Int.reduceEq, Int.reduceLT, Int.reduceLE, Int.reduceNeg, decide_true, decide_false, Bool.false_bne, Bool.true_bne, Bool.not_true, Bool.not_false, md_encT, md_encP, md_encL, md_encB, sto_encT, sto_encP, sto_encL, sto_encB, reduceCtorEq, if_false, if_true, ite_true, ite_false, Bool.false_eq_true])
local macro_rules | `(tactic| walk_at "go") => `(tactic| simp -implicitDefEqProofs only [q_lit, q_nil, q_cons, q_var, q_bin, q_tup, q_lst, q_box, q_neg, q_notT, q_andT, q_orT, q_notV, q_andV, q_orV, q_if, q_B, q_ix, q_call, q_bi, q_sl, q_oNone, q_oSome, q_dk, q_dt, q_yesT, q_get2,
  q_lc, q_iExp, q_iVar, q_iEnV, items_tup, items_lst, q_seq, q_skip, q_ret, q_retV, q_ifS, q_asg, q_drop, q_for, q_tName, q_tTup, q_tCons, q_tNil, q_fz, q_frzE, q_app, q_aug, q_setIx, q_wipe0, q_wipe, fin_rt, fin_nx,
  mut_non, mut_bl, mut_int, mut_str, mut_tup, mut_lst, mut_dk, mut_dt, mut_scr, mut_cel, sto_non, sto_bl, sto_int, sto_str, sto_tup, sto_scr, sto_cel, sto_own, sto_frz, md_non, md_bl, md_int, md_str, md_tup, md_lst, md_dk, md_dt, md_scr, md_cel,
  gAdd_int, gAddI_int, gSub_int, gLt_int, gLe_int, gGt_int, gGe_int, gInt_int, gInt_bl, gLen_tup, gLen_lst, gTuple_lst, gTuple_tup, gList_scr, gList_lst, gList_tup, gIx_tup, gIx_lst, gEq_int, gEq_bl, atI_0, atI_1, atI_2, atI_3, atI_4,
  bnd_some, Option.map_some, Option.bind_some, List.getElem?_cons_succ, List.getElem?_cons_zero, List.set_cons_succ, List.set_cons_zero, List.foldl_cons, List.foldl_nil, List.map_cons, List.map_nil, List.length_map, List.length_cons, List.length_nil, List.all_cons, List.all_nil, Bool.and_true, Bool.true_and, and_true, true_and, false_and, and_false,
  size_le, size_lt', Nat.reduceAdd, Nat.reduceLeDiff, Nat.zero_add, ne_eq, decide_eq_true_eq, Int.reduceEq, Int.reduceLT, Int.reduceLE, Int.reduceNeg, decide_true, decide_false, Bool.false_bne, Bool.true_bne, Bool.not_true, Bool.not_false, md_encT, md_encP, md_encL, md_encB, sto_encT, sto_encP, sto_encL, sto_encB, reduceCtorEq, if_false, if_true, ite_true, ite_false, Bool.false_eq_true, *])

inductive Kd where | row | any | whn | dif | tab | ele | tim
deriving DecidableEq
def kdS : Kd → Str
  | .row => "row" | .any => "any" | .whn => "when" | .dif => "different" | .tab => "table" | .ele => "element" | .tim => "times"
def kdOf : Bd → Kd
  | .row .. => .row | .any .. => .any | .whn .. => .whn | .dif .. => .dif | .tab .. => .tab | .ele .. => .ele | .tim .. => .tim
theorem kd_ok (k : Kd) : PyData.strOk (kdS k) = true := by cases k <;> decide +kernel
theorem kd_eq (k k' : Kd) : gEq false (.str (kdS k)) (.str (kdS k')) = some (.bl (decide (k = k'))) := by
  rw [gEq_str (kd_ok k) (kd_ok k')]
  have : decide (kdS k = kdS k') = decide (k = k') := by cases k <;> cases k' <;> decide +kernel
  rw [this, Bool.false_bne]
theorem g0 (S : Store) (b : Bd) : gIx S (encB b) (.int 0) = some (.str (kdS (kdOf b))) := by cases b <;> rfl
def bdH : Bd → List Int → Bool
  | .row ts r b, p => rlH r (tsum ts p) b
  | .any ls, p => ls.any fun l => litH l p
  | .whn l ts r b, p => !litH l p || rlH r (tsum ts p) b
  | .dif vs, p => !leaves (fun s v => s ++ [at' p v]) (fun s v => decide (at' p v ∈ s)) ([] : List Int) vs
  | .tab vs rows, p => decide (vs.map (at' p) ∈ rows)
  | .ele i es j, p => decide (0 ≤ at' p i) && (decide (at' p i < es.length) && decide (at' es (at' p i) = at' p j))
  | .tim x y z, p => decide (at' p x * at' p y = at' p z)
def POk (p : List Int) : Prop := ∀ v ∈ p, -1000000 ≤ v ∧ v ≤ 1000000
theorem at_small {p : List Int} (h : POk p) (v : Int) : -1000000 ≤ at' p v ∧ at' p v ≤ 1000000 := by
  unfold at'
  rw [List.getD_eq_getElem?_getD]
  by_cases hv : v.toNat < p.length
  · rw [List.getElem?_eq_getElem hv]
    exact h _ (List.getElem_mem hv)
  · rw [List.getElem?_eq_none (by omega)]
    simp
theorem lc_at {p : List Int} {vs : List Int} {ρ : Mp.Env} {S : Store} {i j : Nat} {m : Md} (h : ∀ v ∈ vs, 0 ≤ v ∧ v < p.length) (hi : ρ[i]? = some (some (encP p, m))) (hj : j ≠ i) (hl : j < ρ.length) :
    lcL (tName j) tYesT (cIx (cVar i) (cVar j)) ρ (vs.map .int) S = some ((vs.map (at' p)).map .int, S) := by
  rw [lc_map (enc := W.int) (g := fun v => W.int (at' p v)) fun v hv => ⟨ρ.set j (some (.int v, .frz)), .frz, by walk_at "ev", rfl, by
    have a1 : (ρ.set j (some (W.int v, Md.frz)))[i]? = some (some (encP p, m)) := by rw [List.getElem?_set_ne hj]; exact hi
    have a2 : (ρ.set j (some (W.int v, Md.frz)))[j]? = some (some (.int v, .frz)) := List.getElem?_set_self hl
    have a3 := ix_P S (h v hv).1 (h v hv).2
    rw [q_ix, q_var, a1]
    simp only [bnd_some, q_var, a2, a3, Option.map_some], rfl⟩]
  rw [List.map_map]
  rfl
def ht1 : CT :=
  (cB (cBin (gEq false) (cIx (cVar 0) (cLit (.int 0))) (cLit (.str "row"))))
def hb1 : CS :=
  cRet (cCall m_law_rel (cCons (cIx (cVar 0) (cLit (.int 2))) (cCons (cCall m_law_sum (cCons (cIx (cVar 0) (cLit (.int 1))) (cCons (cVar 1) cNil))) (cCons (cIx (cVar 0) (cLit (.int 3))) cNil))))
def ht2 : CT :=
  (cB (cBin (gEq false) (cIx (cVar 0) (cLit (.int 0))) (cLit (.str "any"))))
def hb2 : CS :=
  cRet (cBin (gIn false) (cLit (.bl true)) (cLc (tName 5) (iExp (cIx (cVar 0) (cLit (.int 1)))) tYesT (cCall m_law_lit (cCons (cVar 5) (cCons (cVar 1) cNil))) [5]))
def ht3 : CT :=
  (cB (cBin (gEq false) (cIx (cVar 0) (cLit (.int 0))) (cLit (.str "when"))))
def hb3 : CS :=
  cRet ((cOrV (cNotV (cCall m_law_lit (cCons (cIx (cVar 0) (cLit (.int 1))) (cCons (cVar 1) cNil)))) (cCall m_law_rel (cCons (cIx (cVar 0) (cLit (.int 3))) (cCons (cCall m_law_sum (cCons (cIx (cVar 0) (cLit (.int 2))) (cCons (cVar 1) cNil))) (cCons (cIx (cVar 0) (cLit (.int 4))) cNil))))))
def ht4 : CT :=
  (cB (cBin (gEq false) (cIx (cVar 0) (cLit (.int 0))) (cLit (.str "different"))))
def hb4 : CS :=
  cSeq (cAsg (tName 2) (cLst cNil))
  (cSeq (cFor (tName 3) (iExp (cIx (cVar 0) (cLit (.int 1)))) (cSeq (cIfS (cB (cBin (gIn false) (cIx (cVar 1) (cVar 3)) (cVar 2))) (cRet (cLit (.bl false))) (cSkip))
  (cApp 2 (cIx (cVar 1) (cVar 3)))))
  (cRet (cLit (.bl true))))
def ht5 : CT :=
  (cB (cBin (gEq false) (cIx (cVar 0) (cLit (.int 0))) (cLit (.str "table"))))
def hb5 : CS :=
  cRet (cBin (gIn false) (cBi gTuple (cCons (cLc (tName 3) (iExp (cIx (cVar 0) (cLit (.int 1)))) tYesT (cIx (cVar 1) (cVar 3)) [3]) cNil)) (cIx (cVar 0) (cLit (.int 2))))
def ht6 : CT :=
  (cB (cBin (gEq false) (cIx (cVar 0) (cLit (.int 0))) (cLit (.str "element"))))
def hb6 : CS :=
  cSeq (cAsg (tName 4) (cIx (cVar 1) (cIx (cVar 0) (cLit (.int 1)))))
  (cRet ((cAndV (cBin gGe (cVar 4) (cLit (.int 0))) (cAndV (cBin gLt (cVar 4) (cBi gLen (cCons (cIx (cVar 0) (cLit (.int 2))) cNil))) (cBin (gEq false) (cIx (cIx (cVar 0) (cLit (.int 2))) (cVar 4)) (cIx (cVar 1) (cIx (cVar 0) (cLit (.int 3)))))))))
def hb7 : CS :=
  cRet (cBin (gEq false) (cBin gMul (cIx (cVar 1) (cIx (cVar 0) (cLit (.int 1)))) (cIx (cVar 1) (cIx (cVar 0) (cLit (.int 2))))) (cIx (cVar 1) (cIx (cVar 0) (cLit (.int 3)))))
theorem holds_seq : c_law_holds = cSeq (cIfS ht1 hb1 cSkip) (cSeq (cIfS ht2 hb2 cSkip) (cSeq (cIfS ht3 hb3 cSkip) (cSeq (cIfS ht4 hb4 cSkip) (cSeq (cIfS ht5 hb5 cSkip) (cSeq (cIfS ht6 hb6 cSkip) (hb7)))))) := rfl
theorem ht1_ok (b : Bd) (p : List Int) (S : Store) : ht1 [some (encB b, .brw), some (encP p, .brw), none, none, none, none] S = some (decide (kdOf b = .row), S) := by
  have h := kd_eq (kdOf b) .row
  have h : gEq false (.str (kdS (kdOf b))) (.str "row") = _ := h
  have h0 := g0 S b
  unfold ht1
  walk_at "go"
theorem ht2_ok (b : Bd) (p : List Int) (S : Store) : ht2 [some (encB b, .brw), some (encP p, .brw), none, none, none, none] S = some (decide (kdOf b = .any), S) := by
  have h := kd_eq (kdOf b) .any
  have h : gEq false (.str (kdS (kdOf b))) (.str "any") = _ := h
  have h0 := g0 S b
  unfold ht2
  walk_at "go"
theorem ht3_ok (b : Bd) (p : List Int) (S : Store) : ht3 [some (encB b, .brw), some (encP p, .brw), none, none, none, none] S = some (decide (kdOf b = .whn), S) := by
  have h := kd_eq (kdOf b) .whn
  have h : gEq false (.str (kdS (kdOf b))) (.str "when") = _ := h
  have h0 := g0 S b
  unfold ht3
  walk_at "go"
theorem ht4_ok (b : Bd) (p : List Int) (S : Store) : ht4 [some (encB b, .brw), some (encP p, .brw), none, none, none, none] S = some (decide (kdOf b = .dif), S) := by
  have h := kd_eq (kdOf b) .dif
  have h : gEq false (.str (kdS (kdOf b))) (.str "different") = _ := h
  have h0 := g0 S b
  unfold ht4
  walk_at "go"
theorem ht5_ok (b : Bd) (p : List Int) (S : Store) : ht5 [some (encB b, .brw), some (encP p, .brw), none, none, none, none] S = some (decide (kdOf b = .tab), S) := by
  have h := kd_eq (kdOf b) .tab
  have h : gEq false (.str (kdS (kdOf b))) (.str "table") = _ := h
  have h0 := g0 S b
  unfold ht5
  walk_at "go"
theorem ht6_ok (b : Bd) (p : List Int) (S : Store) : ht6 [some (encB b, .brw), some (encP p, .brw), none, none, none, none] S = some (decide (kdOf b = .ele), S) := by
  have h := kd_eq (kdOf b) .ele
  have h : gEq false (.str (kdS (kdOf b))) (.str "element") = _ := h
  have h0 := g0 S b
  unfold ht6
  walk_at "go"
theorem hb1_ok {ts : Tm} {r : Rl} {c : Int} {p : List Int} (S : Store) (h : TmOk p.length ts) : hb1 [some (encB (.row ts r c), .brw), some (encP p, .brw), none, none, none, none] S = some (.rt (.bl (rlH r (tsum ts p) c), .own) S) := by
  have e1 := law_sum_ok S h
  have e2 := rel_ok r (tsum ts p) c S
  unfold hb1 encB
  walk_at "go"
theorem hb3_ok {l : Ltl} {ts : Tm} {r : Rl} {c : Int} {p : List Int} (S : Store) (h : TmOk p.length ts) (hl : LOk p.length l) : hb3 [some (encB (.whn l ts r c), .brw), some (encP p, .brw), none, none, none, none] S = some (.rt (.bl (!litH l p || rlH r (tsum ts p) c), .own) S) := by
  have e1 := law_sum_ok S h
  have e2 := rel_ok r (tsum ts p) c S
  have e3 := lit_ok S hl
  unfold hb3 encB
  cases hb : litH l p <;> walk_at "go"
  · rfl
  · rfl
theorem hb2_ok {ls : List Ltl} {p : List Int} (S : Store) (h : ∀ l ∈ ls, LOk p.length l) (hlen : ls.length ≤ 60) : hb2 [some (encB (.any ls), .brw), some (encP p, .brw), none, none, none, none] S = some (.rt (.bl (ls.any fun l => litH l p), .own) S) := by
  have e1 : ∀ ρ : Mp.Env, ρ[1]? = some (some (encP p, .brw)) → 5 < ρ.length → lcL (tName 5) tYesT (cCall m_law_lit (cCons (cVar 5) (cCons (cVar 1) cNil))) ρ (ls.map encL) S = some (ls.map fun l => W.bl (litH l p), S) := fun ρ h1 h2 =>
    lc_map (enc := encL) (g := fun l => W.bl (litH l p)) fun l hl => ⟨ρ.set 5 (some (encL l, .frz)), .own, by walk_at "ev", rfl, by
      have a1 : (ρ.set 5 (some (encL l, Md.frz)))[1]? = some (some (encP p, .brw)) := by rw [List.getElem?_set_ne (by decide)]; exact h1
      have a2 : (ρ.set 5 (some (encL l, Md.frz)))[5]? = some (some (encL l, .frz)) := List.getElem?_set_self h2
      have a3 := lit_ok S (h l hl)
      rw [q_call, q_cons, q_var, a2]
      simp only [bnd_some, q_cons, q_nil, q_var, a1, reduceCtorEq, if_false, List.map_cons, List.map_nil, a3], rfl⟩
  have e2 := gIn_ok (neg := false) (a := .bl true) (ws := ls.map fun l => W.bl (litH l p)) rfl (okD_lst (n := 63) fun w hw => by
    obtain ⟨l, _, rfl⟩ := List.mem_map.mp hw
    rfl)
  have e3 : ((ls.map fun l => W.bl (litH l p)).any fun z => eqW z (.bl true)) = ls.any fun l => litH l p := by
    rw [List.any_map]
    congr 1
    funext l
    show (litH l p == true) = litH l p
    cases litH l p <;> rfl
  rw [e3] at e2
  unfold hb2 encB
  walk_at "ev"
  rw [if_pos (size_ok (by omega)), e1 _ rfl (by simp)]
  walk_at "ev"
  rw [e2]
  walk_at "ev"
theorem hb7_ok {x y z : Int} {p : List Int} (S : Store) (hp : POk p) (hx : 0 ≤ x ∧ x < p.length) (hy : 0 ≤ y ∧ y < p.length) (hz : 0 ≤ z ∧ z < p.length) : hb7 [some (encB (.tim x y z), .brw), some (encP p, .brw), none, none, none, none] S = some (.rt (.bl (decide (at' p x * at' p y = at' p z)), .own) S) := by
  have e1 := ix_P S hx.1 hx.2
  have e2 := ix_P S hy.1 hy.2
  have e3 := ix_P S hz.1 hz.2
  have := at_small hp x
  have e4 := gMul_int (i := at' p x) (j := at' p y) (.inl (by omega))
  unfold hb7 encB
  clear this
  walk_at "go"
theorem hb5_ok {vs : List Int} {rows : List (List Int)} {p : List Int} (S : Store) (h : ∀ v ∈ vs, 0 ≤ v ∧ v < p.length) (hlen : vs.length ≤ 60) : hb5 [some (encB (.tab vs rows), .brw), some (encP p, .brw), none, none, none, none] S = some (.rt (.bl (decide (vs.map (at' p) ∈ rows)), .own) S) := by
  have e2 := gIn_tup (neg := false) (a := encP (vs.map (at' p))) (ws := rows.map encP) (okD_tup (n := 63) fun w hw => by
    obtain ⟨l, _, rfl⟩ := List.mem_map.mp hw
    rfl) (okD_tup (n := 63) fun w hw => by
    obtain ⟨l, _, rfl⟩ := List.mem_map.mp hw
    exact okD_tup (n := 62) fun w hw => by
      obtain ⟨l, _, rfl⟩ := List.mem_map.mp hw
      rfl)
  have e3 : ((rows.map encP).any fun z => eqW z (encP (vs.map (at' p)))) = decide (vs.map (at' p) ∈ rows) := by
    rw [List.any_map, Bool.eq_iff_iff, List.any_eq_true, decide_eq_true_eq]
    constructor
    · rintro ⟨x, hx, h⟩
      have h : eqW (encP x) (encP (vs.map (at' p))) = true := h
      rw [eqW_P, decide_eq_true_eq] at h
      rw [← h]; exact hx
    · intro hx
      exact ⟨_, hx, by show eqW (encP _) (encP _) = true; rw [eqW_P, decide_eq_true_eq]⟩
  rw [e3] at e2
  have e5 : itemsOf (encP vs) = some (vs.map .int) := rfl
  unfold hb5 encB
  walk_at "ev"
  rw [e5]
  walk_at "ev"
  rw [if_pos (size_ok (by omega)), lc_at (m := .brw) h rfl (by decide) (by simp)]
  walk_at "ev"
  have e6 : W.tup ((vs.map (at' p)).map .int) = encP (vs.map (at' p)) := rfl
  rw [e6, e2]
  walk_at "ev"
theorem okPs (s : List Int) : okD (.lst (s.map .int)) 64 = true := okD_lst (n := 63) fun w hw => by
  obtain ⟨l, _, rfl⟩ := List.mem_map.mp hw
  rfl
theorem in_ints (neg : Bool) (v : Int) (s : List Int) : gIn neg (.int v) (.lst (s.map .int)) = some (.bl (neg != decide (v ∈ s))) := by
  rw [gIn_ok rfl (okPs s)]
  have : ((s.map W.int).any fun z => eqW z (.int v)) = decide (v ∈ s) := by
    rw [List.any_map, Bool.eq_iff_iff, List.any_eq_true, decide_eq_true_eq]
    constructor
    · rintro ⟨x, hx, h⟩
      have h : eqW (.int x) (.int v) = true := h
      rw [eqW_int, decide_eq_true_eq] at h
      rw [← h]; exact hx
    · intro hx
      exact ⟨_, hx, by show eqW (.int _) (.int _) = true; rw [eqW_int, decide_eq_true_eq]⟩
  rw [this]
theorem hb4_ok {vs : List Int} {p : List Int} (S : Store) (h : ∀ v ∈ vs, 0 ≤ v ∧ v < p.length) (hlen : vs.length ≤ 60) : hb4 [some (encB (.dif vs), .brw), some (encP p, .brw), none, none, none, none] S = some (.rt (.bl (bdH (.dif vs) p), .frz) S) := by
  unfold hb4
  rw [seq_nx (ρ2 := [some (encB (.dif vs), .brw), some (encP p, .brw), some (.lst [], .own), none, none, none]) (S2 := S) (by walk_at "ev")]
  have hit : itemsOf (encP vs) = some (vs.map .int) := rfl
  have key := for_until (xs := vs) (enc := W.int) (st := fun (s : List Int) v => s ++ [at' p v]) (lv := fun s v => decide (at' p v ∈ s)) (s := []) (r := (.bl false, .frz)) (S := S) (ρ := [some (encB (.dif vs), .brw), some (encP p, .brw), some (.lst [], .own), none, none, none])
    (t := (tName 3)) (b := (cSeq (cIfS (cB (cBin (gIn false) (cIx (cVar 1) (cVar 3)) (cVar 2))) (cRet (cLit (.bl false))) (cSkip))
  (cApp 2 (cIx (cVar 1) (cVar 3)))))
    (fun s us ρ S2 => S2 = S ∧ s.length + us.length ≤ 60 ∧ (∀ v ∈ us, 0 ≤ v ∧ v < p.length) ∧ ∃ x3, ρ = [some (encB (.dif vs), .brw), some (encP p, .brw), some (.lst (s.map .int), .own), x3, none, none]) (fun v us s ρ S2 hI => by
      obtain ⟨rfl, hs, hus, x3, rfl⟩ := hI
      rw [List.length_cons] at hs
      obtain ⟨hv0, hv1⟩ := hus v List.mem_cons_self
      have e1 := ix_P S2 hv0 hv1
      have e2 := in_ints false (at' p v) s
      rw [Bool.false_bne] at e2
      refine ⟨[some (encB (.dif vs), .brw), some (encP p, .brw), some (.lst (s.map .int), .own), some (.int v, .frz), none, none], by walk_at "ev", ?_⟩
      by_cases hm : at' p v ∈ s
      · rw [decide_eq_true hm] at e2 ⊢
        refine .inl ⟨rfl, ?_⟩
        walk_at "go"
      · rw [decide_eq_false hm] at e2 ⊢
        refine .inr ⟨rfl, [some (encB (.dif vs), .brw), some (encP p, .brw), some (.lst ((s ++ [at' p v]).map .int), .own), some (.int v, .frz), none, none], S2, ?_, rfl, by rw [List.length_append]; simp only [List.length_singleton]; omega, fun w hw => hus w (List.mem_cons_of_mem _ hw), some (.int v, .frz), rfl⟩
        have hz : s.length < sizeLine := size_lt (by omega)
        clear hus hs
        walk_at "go"
        rw [List.map_append]
        rfl) ⟨rfl, by simpa using hlen, h, none, rfl⟩
  have hx : iExp (cIx (cVar 0) (cLit (.int 1))) [some (encB (.dif vs), .brw), some (encP p, .brw), some (.lst [], .own), none, none, none] S = some (vs.map .int, S) := by
    unfold encB
    walk_at "go"
  have hd : bdH (.dif vs) p = !leaves (fun s v => s ++ [at' p v]) (fun s v => decide (at' p v ∈ s)) ([] : List Int) vs := rfl
  rcases key with ⟨k1, s2, us, ρ2, S2, ⟨rfl, _⟩, k2⟩ | ⟨k1, ρ2, S2, k2, rfl, _, _, x3, rfl⟩
  · rw [hd, k1, q_seq, q_for, hx]
    dsimp only [bnd_some]
    rw [k2]
    rfl
  · rw [hd, k1, q_seq, q_for, hx]
    dsimp only [bnd_some]
    rw [k2]
    walk_at "ev"
theorem hb6_ok {i j : Int} {es : List Int} {p : List Int} (S : Store) (hi : 0 ≤ i ∧ i < p.length) (hj : 0 ≤ j ∧ j < p.length) : ∃ m, hb6 [some (encB (.ele i es j), .brw), some (encP p, .brw), none, none, none, none] S = some (.rt (.bl (bdH (.ele i es j) p), m) S) := by
  have e1 := ix_P S hi.1 hi.2
  have e2 := ix_P S hj.1 hj.2
  have e4 : gLen S [encP es] = some (.int es.length) := by
    unfold encP
    rw [gLen_tup, List.length_map]
  unfold hb6 encB
  by_cases h0 : 0 ≤ at' p i
  · by_cases h1 : at' p i < es.length
    · have e3 := ix_P (p := es) S h0 h1
      refine ⟨.own, ?_⟩
      walk_at "go"
      simp only [decide_eq_true h0, decide_eq_true h1, if_true, bdH, Bool.true_and]
    · refine ⟨.own, ?_⟩
      walk_at "go"
      simp only [decide_eq_true h0, decide_eq_false h1, if_true, Bool.false_eq_true, if_false, bdH, Bool.true_and, Bool.false_and]
  · refine ⟨.own, ?_⟩
    walk_at "go"
    simp only [decide_eq_false h0, Bool.false_eq_true, if_false, bdH, Bool.false_and]
theorem VsOk.in {n : Nat} {vs : List Int} (h : VsOk n vs) : ∀ v ∈ vs, 0 ≤ v ∧ v < n := h.2.2
theorem holds_ok {b : Bd} {p : List Int} (S : Store) (hb : BOk p.length b) (hp : POk p) : ∃ m, m_law_holds [encB b, encP p] S = some ((.bl (bdH b p), m), S) := by
  suffices h : ∃ m, c_law_holds [some (encB b, .brw), some (encP p, .brw), none, none, none, none] S = some (.rt (.bl (bdH b p), m) S) by
    obtain ⟨m, h⟩ := h
    refine ⟨m, ?_⟩
    unfold m_law_holds
    rw [cFn_run (by rfl)]
    show fin (c_law_holds [some (encB b, .brw), some (encP p, .brw), none, none, none, none] S) = _
    rw [h, fin_rt, sto_bl, if_pos rfl]
  rw [holds_seq]
  cases b with
  | row ts r c =>
    exact ⟨_, seq_if_t (t := ht1) (by rw [ht1_ok]; rfl) (hb1_ok S hb.1)⟩
  | any ls =>
    rw [seq_if_f (t := ht1) (by rw [ht1_ok]; rfl)]
    exact ⟨_, seq_if_t (t := ht2) (by rw [ht2_ok]; rfl) (hb2_ok S hb.2.2 hb.2.1)⟩
  | whn l ts r c =>
    rw [seq_if_f (t := ht1) (by rw [ht1_ok]; rfl), seq_if_f (t := ht2) (by rw [ht2_ok]; rfl)]
    exact ⟨_, seq_if_t (t := ht3) (by rw [ht3_ok]; rfl) (hb3_ok S hb.2.1 hb.1)⟩
  | dif vs =>
    rw [seq_if_f (t := ht1) (by rw [ht1_ok]; rfl), seq_if_f (t := ht2) (by rw [ht2_ok]; rfl), seq_if_f (t := ht3) (by rw [ht3_ok]; rfl)]
    exact ⟨_, seq_if_t (t := ht4) (by rw [ht4_ok]; rfl) (hb4_ok S hb.in hb.1)⟩
  | tab vs rows =>
    rw [seq_if_f (t := ht1) (by rw [ht1_ok]; rfl), seq_if_f (t := ht2) (by rw [ht2_ok]; rfl), seq_if_f (t := ht3) (by rw [ht3_ok]; rfl), seq_if_f (t := ht4) (by rw [ht4_ok]; rfl)]
    exact ⟨_, seq_if_t (t := ht5) (by rw [ht5_ok]; rfl) (hb5_ok S hb.1.in hb.1.1)⟩
  | ele i es j =>
    rw [seq_if_f (t := ht1) (by rw [ht1_ok]; rfl), seq_if_f (t := ht2) (by rw [ht2_ok]; rfl), seq_if_f (t := ht3) (by rw [ht3_ok]; rfl), seq_if_f (t := ht4) (by rw [ht4_ok]; rfl), seq_if_f (t := ht5) (by rw [ht5_ok]; rfl)]
    obtain ⟨m, e⟩ := hb6_ok (es := es) S hb.1 hb.2.1
    exact ⟨m, seq_if_t (t := ht6) (by rw [ht6_ok]; rfl) e⟩
  | tim x y z =>
    rw [seq_if_f (t := ht1) (by rw [ht1_ok]; rfl), seq_if_f (t := ht2) (by rw [ht2_ok]; rfl), seq_if_f (t := ht3) (by rw [ht3_ok]; rfl), seq_if_f (t := ht4) (by rw [ht4_ok]; rfl), seq_if_f (t := ht5) (by rw [ht5_ok]; rfl), seq_if_f (t := ht6) (by rw [ht6_ok]; rfl)]
    exact ⟨_, hb7_ok S hp hb.1 hb.2.1 hb.2.2⟩
end Lg
/-! models as the laws draw them (printed by mkln.py) -/
namespace Lg
open PySem PySem.Spec PyProof.Rows L2 Mp
structure Un where
  nm : Str
  lo : Int
  hi : Int
def encU (u : Un) : W := .tup [.str u.nm, .int u.lo, .int u.hi]
structure Con where
  lab : Str
  b : Bd
def encC (c : Con) : W := .tup [.str c.lab, encB c.b]
structure Gl where
  mx : Bool
  ts : Tm
  c : Int
def snse (b : Bool) : Str := if b then "max" else "min"
def encG (g : Gl) : W := .tup [.str (snse g.mx), encT g.ts, .int g.c]
theorem md_encU (u : Un) (m : Md) : md (encU u, m) = (encU u, .frz) := rfl
theorem md_encC (u : Con) (m : Md) : md (encC u, m) = (encC u, .frz) := rfl
theorem md_encG (u : Gl) (m : Md) : md (encG u, m) = (encG u, .frz) := rfl
theorem sto_encU (u : Un) (m : Md) : sto (encU u, m) = true := rfl
theorem sto_encC (u : Con) (m : Md) : sto (encC u, m) = true := rfl
theorem sto_encG (u : Gl) (m : Md) : sto (encG u, m) = true := rfl
local macro_rules | `(tactic| walk_at "ev") => `(tactic| simp -implicitDefEqProofs only [q_lit, q_nil, q_cons, q_var, q_bin, q_tup, q_lst, q_box, q_neg, q_notT, q_andT, q_orT, q_notV, q_andV, q_orV, q_if, q_B, q_ix, q_call, q_bi, q_sl, q_oNone, q_oSome, q_dk, q_dt, q_yesT, q_get2,
  q_lc, q_iExp, q_iVar, q_iEnV, items_tup, items_lst, q_seq, q_skip, q_ret, q_retV, q_ifS, q_asg, q_drop, q_for, q_tName, q_tTup, q_tCons, q_tNil, q_fz, q_frzE, q_app, q_aug, q_setIx, q_wipe0, q_wipe, fin_rt, fin_nx,
  mut_non, mut_bl, mut_int, mut_str, mut_tup, mut_lst, mut_dk, mut_dt, mut_scr, mut_cel, sto_non, sto_bl, sto_int, sto_str, sto_tup, sto_scr, sto_cel, sto_own, sto_frz, md_non, md_bl, md_int, md_str, md_tup, md_lst, md_dk, md_dt, md_scr, md_cel,
  gAdd_int, gAddI_int, gSub_int, gLt_int, gLe_int, gGt_int, gGe_int, gInt_int, gInt_bl, gLen_tup, gLen_lst, gTuple_lst, gTuple_tup, gList_scr, gList_lst, gList_tup, gIx_tup, gIx_lst, gEq_int, gEq_bl, atI_0, atI_1, atI_2, atI_3, atI_4,
  bnd_some, Option.map_some, Option.bind_some, List.getElem?_cons_succ, List.getElem?_cons_zero, List.set_cons_succ, List.set_cons_zero, List.foldl_cons, List.foldl_nil, List.map_cons, List.map_nil, List.length_map, List.length_cons, List.length_nil, List.all_cons, List.all_nil, Bool.and_true, Bool.true_and, and_true, true_and, false_and, and_false,
  size_le, size_lt', Nat.reduceAdd, Nat.reduceLeDiff, Nat.zero_add, ne_eq, decide_eq_true_eq, Int.reduceEq, Int.reduceLT, Int.reduceLE, Int.reduceNeg, decide_true, decide_false, Bool.false_bne, Bool.true_bne, Bool.not_true, Bool.not_false, md_encT, md_encP, md_encL, md_encB, sto_encT, sto_encP, sto_encL, sto_encB, md_encG, md_encU, md_encC, sto_encG, sto_encU, sto_encC, reduceCtorEq, if_false, if_true, ite_true, ite_false, Bool.false_eq_true])
local macro_rules | `(tactic| walk_at "go") => `(tactic| simp -implicitDefEqProofs only [q_lit, q_nil, q_cons, q_var, q_bin, q_tup, q_lst, q_box, q_neg, q_notT, q_andT, q_orT, q_notV, q_andV, q_orV, q_if, q_B, q_ix, q_call, q_bi, q_sl, q_oNone, q_oSome, q_dk, q_dt, q_yesT, q_get2,
  q_lc, q_iExp, q_iVar, q_iEnV, items_tup, items_lst, q_seq, q_skip, q_ret, q_retV, q_ifS, q_asg, q_drop, q_for, q_tName, q_tTup, q_tCons, q_tNil, q_fz, q_frzE, q_app, q_aug, q_setIx, q_wipe0, q_wipe, fin_rt, fin_nx,
  mut_non, mut_bl, mut_int, mut_str, mut_tup, mut_lst, mut_dk, mut_dt, mut_scr, mut_cel, sto_non, sto_bl, sto_int, sto_str, sto_tup, sto_scr, sto_cel, sto_own, sto_frz, md_non, md_bl, md_int, md_str, md_tup, md_lst, md_dk, md_dt, md_scr, md_cel,
  gAdd_int, gAddI_int, gSub_int, gLt_int, gLe_int, gGt_int, gGe_int, gInt_int, gInt_bl, gLen_tup, gLen_lst, gTuple_lst, gTuple_tup, gList_scr, gList_lst, gList_tup, gIx_tup, gIx_lst, gEq_int, gEq_bl, atI_0, atI_1, atI_2, atI_3, atI_4,
  bnd_some, Option.map_some, Option.bind_some, List.getElem?_cons_succ, List.getElem?_cons_zero, List.set_cons_succ, List.set_cons_zero, List.foldl_cons, List.foldl_nil, List.map_cons, List.map_nil, List.length_map, List.length_cons, List.length_nil, List.all_cons, List.all_nil, Bool.and_true, Bool.true_and, and_true, true_and, false_and, and_false,
  size_le, size_lt', Nat.reduceAdd, Nat.reduceLeDiff, Nat.zero_add, ne_eq, decide_eq_true_eq, Int.reduceEq, Int.reduceLT, Int.reduceLE, Int.reduceNeg, decide_true, decide_false, Bool.false_bne, Bool.true_bne, Bool.not_true, Bool.not_false, md_encT, md_encP, md_encL, md_encB, sto_encT, sto_encP, sto_encL, sto_encB, md_encG, md_encU, md_encC, sto_encG, sto_encU, sto_encC, reduceCtorEq, if_false, if_true, ite_true, ite_false, Bool.false_eq_true, *])
def w1 : CS :=
  cAsg (tName 4) (cLst cNil)
def w2 : CS :=
  cFor (tName 5) (iRange1 (cBin gAdd (cLit (.int 1)) (cCall mDraw (cCons (cVar 0) (cCons (cVar 1) cNil))))) (cSeq (cAsg (tName 9) (cBin Mp.gSub (cCall mDraw (cCons (cVar 0) (cCons (cLit (.int 5)) cNil))) (cLit (.int 2))))
  (cApp 4 (cTup (cCons (cIx (cLst (cCons (cLit (.str "x")) (cCons (cLit (.str "y")) (cCons (cLit (.str "z")) (cCons (cLit (.str "u")) (cCons (cLit (.str "w")) cNil)))))) (cVar 5)) (cCons (cVar 9) (cCons (cBin gAdd (cVar 9) (cCall mDraw (cCons (cVar 0) (cCons (cVar 2) cNil)))) cNil))))))
def w3 : CS :=
  cAsg (tName 6) (cBi gLen (cCons (cVar 4) cNil))
def w4 : CS :=
  cAsg (tName 7) (cLc (tName 10) (iRange1 (cCall mDraw (cCons (cVar 0) (cCons (cBin gAdd (cVar 3) (cLit (.int 1))) cNil)))) tYesT (cTup (cCons (cBin gAdd (cLit (.str "c")) (cBi gStr (cCons (cVar 10) cNil))) (cCons (cCall m_law_body (cCons (cVar 0) (cCons (cVar 6) cNil))) cNil))) [10])
def w5 : CS :=
  cAsg (tName 8) (cTup (cCons (cIx (cLst (cCons (cLit (.str "max")) (cCons (cLit (.str "min")) cNil))) (cCall mDraw (cCons (cVar 0) (cCons (cLit (.int 2)) cNil)))) (cCons (cCall m_law_terms (cCons (cVar 0) (cCons (cVar 6) cNil))) (cCons (cBin Mp.gSub (cCall mDraw (cCons (cVar 0) (cCons (cLit (.int 5)) cNil))) (cLit (.int 2))) cNil))))
def w6 : CS :=
  cIfS (cB (cBin (gEq false) (cCall mDraw (cCons (cVar 0) (cCons (cLit (.int 5)) cNil))) (cLit (.int 0)))) (cAsg (tName 8) (cTup (cCons (cLit (.str "max")) (cCons (cTup cNil) (cCons (cLit (.int 0)) cNil))))) (cSkip)
def w7 : CS :=
  cFz [4, 7] (cRet (cLst (cCons (cVar 4) (cCons (cVar 7) (cCons (cVar 8) cNil)))))
theorem world_seq : c_law_world = cSeq w1 (cSeq w2 (cSeq w3 (cSeq w4 (cSeq w5 (cSeq w6 (w7)))))) := rfl
def nms : List Str := ["x", "y", "z", "u", "w"]
theorem nm_ix {i : Nat} (h : i < 5) : atI [W.str "x", W.str "y", W.str "z", W.str "u", W.str "w"] ((i : Nat) : Int) = some (.str (nms.getD i "")) := by
  have : i = 0 ∨ i = 1 ∨ i = 2 ∨ i = 3 ∨ i = 4 := by omega
  rcases this with rfl | rfl | rfl | rfl | rfl <;> rw [atI_of (by omega)] <;> rfl
theorem snse_ix (d : Int) (h0 : 0 ≤ d) (h1 : d < 2) : atI [W.str "max", W.str "min"] d = some (.str (snse (decide (d = 0)))) := by
  have : d = 0 ∨ d = 1 := by omega
  rcases this with rfl | rfl
  · rw [atI_0]; rfl
  · rw [atI_1]; rfl
def UOk (width : Int) (u : Un) : Prop := -2 ≤ u.lo ∧ u.lo ≤ 2 ∧ u.lo ≤ u.hi ∧ u.hi < u.lo + width
theorem w2_ok {n : Nat} {most width bodies : Int} {S : Store} (tp : TapeAt n S) (hm : 1 ≤ most ∧ most ≤ 5) (hw : 1 ≤ width ∧ width ≤ 1000) :
    ∃ (us : List Un) (x5 x9 : Option (W × Md)) (S2 : Store), w2 [some (.cel n, .brw), some (.int most, .brw), some (.int width, .brw), some (.int bodies, .brw), some (.lst [], .own), none, none, none, none, none, none] S = some (.nx [some (.cel n, .brw), some (.int most, .brw), some (.int width, .brw), some (.int bodies, .brw), some (.lst (us.map encU), .own), x5, none, none, none, x9, none] S2) ∧ 1 ≤ us.length ∧ us.length ≤ most ∧ (∀ u ∈ us, UOk width u) ∧ (us.map (·.nm)) = nms.take us.length ∧ TapeAt n S2 ∧ SameBut n S S2 := by
  obtain ⟨d, S2, e, hd0, hd1, tp2, sb2⟩ := draw_ok (many := most) tp (by omega) (by omega)
  obtain ⟨c, hc⟩ : ∃ c : Nat, 1 + d = ((c : Nat) : Int) := ⟨(1 + d).toNat, by omega⟩
  have hr1 : iRange1 (cBin gAdd (cLit (.int 1)) (cCall mDraw (cCons (cVar 0) (cCons (cVar 1) cNil)))) [some (.cel n, .brw), some (.int most, .brw), some (.int width, .brw), some (.int bodies, .brw), some (.lst [], .own), none, none, none, none, none, none] S = some ((List.range c).map fun k : Nat => W.int ((k : Nat) : Int), S2) := by
    refine rng_ok (m := .own) ?_ (by omega)
    walk_at "go"
  obtain ⟨ρ2, S3, e3, us, x5, x9, rfl, hl, hus, hnm, tp3, sb3⟩ := for_inv (ws := (List.range c).map fun k : Nat => W.int ((k : Nat) : Int)) (t := (tName 5)) (b := (cSeq (cAsg (tName 9) (cBin Mp.gSub (cCall mDraw (cCons (cVar 0) (cCons (cLit (.int 5)) cNil))) (cLit (.int 2))))
  (cApp 4 (cTup (cCons (cIx (cLst (cCons (cLit (.str "x")) (cCons (cLit (.str "y")) (cCons (cLit (.str "z")) (cCons (cLit (.str "u")) (cCons (cLit (.str "w")) cNil)))))) (cVar 5)) (cCons (cVar 9) (cCons (cBin gAdd (cVar 9) (cCall mDraw (cCons (cVar 0) (cCons (cVar 2) cNil)))) cNil)))))))
    (fun i ρ S3 => ∃ (us : List Un) (x5 x9 : Option (W × Md)), ρ = [some (.cel n, .brw), some (.int most, .brw), some (.int width, .brw), some (.int bodies, .brw), some (.lst (us.map encU), .own), x5, none, none, none, x9, none] ∧ us.length = i ∧ (∀ u ∈ us, UOk width u) ∧ (us.map (·.nm)) = nms.take us.length ∧ TapeAt n S3 ∧ SameBut n S S3)
    (fun i w ρ S3 hw' hI => by
      obtain ⟨us, x5, x9, rfl, hl, hus, hnm, tp3, sb3⟩ := hI
      have hi : i < c := by
        have := (List.getElem?_eq_some_iff.mp hw').1
        simpa using this
      rw [List.getElem?_map, List.getElem?_range hi] at hw'
      injection hw' with hw'
      subst hw'
      obtain ⟨lo, S4, e4, hl0, hl1, tp4, sb4⟩ := draw_ok (many := 5) tp3 (by decide) (by decide)
      obtain ⟨wd, S5, e5, hw0, hw1, tp5, sb5⟩ := draw_ok (many := width) tp4 (by omega) (by omega)
      have hi5 : i < 5 := by omega
      have hnx := nm_ix hi5
      have hsz : us.length < sizeLine := size_lt (by omega)
      refine ⟨[some (.cel n, .brw), some (.int most, .brw), some (.int width, .brw), some (.int bodies, .brw), some (.lst (us.map encU), .own), some (.int ((i : Nat) : Int), .frz), none, none, none, x9, none], [some (.cel n, .brw), some (.int most, .brw), some (.int width, .brw), some (.int bodies, .brw), some (.lst ((us ++ [(⟨nms.getD i "", lo - 2, lo - 2 + wd⟩ : Un)]).map encU), .own), some (.int ((i : Nat) : Int), .frz), none, none, none, some (.int (lo - 2), .frz), none], S5, by walk_at "ev", ?_, us ++ [⟨nms.getD i "", lo - 2, lo - 2 + wd⟩], some (.int ((i : Nat) : Int), .frz), some (.int (lo - 2), .frz), rfl, by rw [List.length_append, hl]; rfl, fun u hu => ?_, ?_, tp5, (sb3.trans sb4).trans sb5⟩
      · clear hus hnm hl
        walk_at "go"
        rw [List.map_append]
        rfl
      · rcases List.mem_append.mp hu with h' | h'
        · exact hus u h'
        · rw [List.mem_singleton.mp h']
          exact ⟨by simp only; omega, by simp only; omega, by simp only; omega, by simp only; omega⟩
      · rw [List.map_append, hnm, List.length_append, hl]
        have : i = 0 ∨ i = 1 ∨ i = 2 ∨ i = 3 ∨ i = 4 := by omega
        rcases this with rfl | rfl | rfl | rfl | rfl <;> rfl)
    (ρ := [some (.cel n, .brw), some (.int most, .brw), some (.int width, .brw), some (.int bodies, .brw), some (.lst [], .own), none, none, none, none, none, none]) (S := S2) ⟨[], none, none, rfl, rfl, fun _ h => (by cases h), rfl, tp2, sb2⟩
  rw [List.length_map, List.length_range] at hl
  refine ⟨us, x5, x9, S3, ?_, by omega, by omega, hus, hnm, tp3, sb3⟩
  unfold w2
  rw [q_for, hr1]
  exact e3
theorem str_len : ∀ k < 61, (toString ((k : Nat) : Int) : Str).length ≤ 100 := by decide +kernel
def cLab (k : Nat) : Str := ("c" : Str) ++ (toString ((k : Nat) : Int) : Str)
theorem c_lab {k : Nat} (h : k < 61) : gAdd (.str "c") (.str (toString ((k : Nat) : Int))) = some (.str (cLab k)) := by
  have := str_len k h
  show (if ("c" : Str).length + (toString ((k : Nat) : Int) : Str).length ≤ sizeLine then some (W.str _) else none) = _
  have h1 : ("c" : Str).length = 1 := by decide +kernel
  rw [if_pos (size_ok (by omega))]
  rfl
theorem w4_ok {n : Nat} {most width bodies : Int} {us : List Un} {x5 x9 : Option (W × Md)} {S : Store} (tp : TapeAt n S) (h1 : 1 ≤ us.length) (h5 : us.length ≤ 60) (hb : 0 ≤ bodies ∧ bodies ≤ 60) :
    ∃ (cs : List Con) (S2 : Store), w4 [some (.cel n, .brw), some (.int most, .brw), some (.int width, .brw), some (.int bodies, .brw), some (.lst (us.map encU), .own), x5, some (.int ((us.length : Nat) : Int), .frz), none, none, x9, none] S = some (.nx [some (.cel n, .brw), some (.int most, .brw), some (.int width, .brw), some (.int bodies, .brw), some (.lst (us.map encU), .own), x5, some (.int ((us.length : Nat) : Int), .frz), some (.lst (cs.map encC), .own), none, x9, none] S2) ∧ cs.length ≤ bodies ∧ (∀ c ∈ cs, BOk us.length c.b) ∧ cs.map (·.lab) = (List.range cs.length).map cLab ∧ TapeAt n S2 ∧ SameBut n S S2 := by
  obtain ⟨d, S2, e, hd0, hd1, tp2, sb2⟩ := draw_ok (many := bodies + 1) tp (by omega) (by omega)
  obtain ⟨c, rfl⟩ : ∃ c : Nat, d = ((c : Nat) : Int) := ⟨d.toNat, by omega⟩
  have hr1 : iRange1 (cCall mDraw (cCons (cVar 0) (cCons (cBin gAdd (cVar 3) (cLit (.int 1))) cNil))) [some (.cel n, .brw), some (.int most, .brw), some (.int width, .brw), some (.int bodies, .brw), some (.lst (us.map encU), .own), x5, some (.int ((us.length : Nat) : Int), .frz), none, none, x9, none] S = some ((List.range c).map fun k : Nat => W.int ((k : Nat) : Int), S2) := by
    refine rng_ok (m := .frz) ?_ (by omega)
    walk_at "go"
  obtain ⟨gs, S3, e3, ⟨tp3, sb3⟩, hp⟩ := lc_ex (I := fun S' => TapeAt n S' ∧ SameBut n S S') (R := fun w g => ∃ k : Nat, w = .int ((k : Nat) : Int) ∧ ∃ b, g = encC ⟨cLab k, b⟩ ∧ BOk us.length b) (ws := (List.range c).map fun k : Nat => W.int ((k : Nat) : Int)) (t := (tName 10)) (c := tYesT) (f := (cTup (cCons (cBin gAdd (cLit (.str "c")) (cBi gStr (cCons (cVar 10) cNil))) (cCons (cCall m_law_body (cCons (cVar 0) (cCons (cVar 6) cNil))) cNil))))
    (ρ := wipeE [some (.cel n, .brw), some (.int most, .brw), some (.int width, .brw), some (.int bodies, .brw), some (.lst (us.map encU), .own), x5, some (.int ((us.length : Nat) : Int), .frz), none, none, x9, none] [10]) ⟨tp2, sb2⟩ (fun w hw S3 ⟨tp3, sb3⟩ => by
      obtain ⟨k, hk, rfl⟩ := List.mem_map.mp hw
      have hk := List.mem_range.mp hk
      obtain ⟨b, S4, e4, hb4, tp4, sb4⟩ := body_ok tp3 h1 h5
      have hl := c_lab (k := k) (by omega)
      have hs : gStr S3 [.int ((k : Nat) : Int)] = some (.str (toString ((k : Nat) : Int))) := by
        show (if _ then _ else none) = _
        rw [if_pos (by omega)]
      refine ⟨_, encC ⟨cLab k, b⟩, .own, S4, by walk_at "ev"; rfl, rfl, ?_, rfl, ⟨tp4, sb3.trans sb4⟩, k, rfl, b, rfl, hb4⟩
      clear hb4 hw hk
      walk_at "go"
      rfl)
  have hcs : ∀ (ks : List Nat) (gs : List W), Paired (fun w g => ∃ k : Nat, w = .int ((k : Nat) : Int) ∧ ∃ b, g = encC ⟨cLab k, b⟩ ∧ BOk us.length b) (ks.map fun k : Nat => W.int ((k : Nat) : Int)) gs → ∃ cs : List Con, gs = cs.map encC ∧ cs.map (·.lab) = ks.map cLab ∧ ∀ c ∈ cs, BOk us.length c.b := by
    intro ks
    induction ks with
    | nil => intro gs h; cases h; exact ⟨[], rfl, rfl, fun _ h => absurd h List.not_mem_nil⟩
    | cons k ks ih =>
      intro gs h
      cases h with
      | cons h1 h2 =>
        obtain ⟨k', ek, b, rfl, hb⟩ := h1
        obtain ⟨cs, rfl, e2, e3⟩ := ih _ h2
        have ek : k = k' := by
          injection ek with ek
          omega
        subst ek
        exact ⟨⟨cLab k, b⟩ :: cs, rfl, by rw [List.map_cons, List.map_cons, e2], fun c hc => by
          rcases List.mem_cons.mp hc with h | h
          · rw [h]; exact hb
          · exact e3 c h⟩
  obtain ⟨cs, rfl, hlab, hok⟩ := hcs _ _ hp
  have hcl : cs.length = c := by
    have := congrArg List.length hlab
    simpa using this
  refine ⟨cs, S3, ?_, by omega, hok, by rw [hcl]; exact hlab, tp3, sb3⟩
  unfold w4
  rw [q_asg, q_lc, hr1]
  dsimp only [bnd_some]
  rw [if_pos (size_ok (by rw [List.length_map, List.length_range]; omega)), e3]
  walk_at "ev"
theorem world_ok {n : Nat} {most width bodies : Int} {S : Store} (tp : TapeAt n S) (hm : 1 ≤ most ∧ most ≤ 5) (hw : 1 ≤ width ∧ width ≤ 1000) (hb : 0 ≤ bodies ∧ bodies ≤ 60) :
    ∃ (us : List Un) (cs : List Con) (g : Gl) (S2 : Store), m_law_world [.cel n, .int most, .int width, .int bodies] S = some ((.lst [.lst (us.map encU), .lst (cs.map encC), encG g], .own), S2) ∧ 1 ≤ us.length ∧ us.length ≤ most ∧ (∀ u ∈ us, UOk width u) ∧ (us.map (·.nm)) = nms.take us.length ∧
      cs.length ≤ bodies ∧ (∀ c ∈ cs, BOk us.length c.b) ∧ cs.map (·.lab) = (List.range cs.length).map cLab ∧ TmOk us.length g.ts ∧ -2 ≤ g.c ∧ g.c ≤ 2 ∧ TapeAt n S2 ∧ SameBut n S S2 := by
  obtain ⟨us, x5, x9, S2, e2, hu1, hu2, hus, hnm, tp2, sb2⟩ := w2_ok (bodies := bodies) tp hm hw
  obtain ⟨cs, S3, e3, hc1, hc2, hc3, tp3, sb3⟩ := w4_ok (most := most) (width := width) (x5 := x5) (x9 := x9) tp2 hu1 (by omega) hb
  obtain ⟨d, S4, e4, hd0, hd1, tp4, sb4⟩ := draw_ok (many := 2) tp3 (by decide) (by decide)
  obtain ⟨ts, S5, e5, hts, tp5, sb5⟩ := law_terms_ok (many := us.length) tp4 (by omega)
  obtain ⟨c, S6, e6, hcc0, hcc1, tp6, sb6⟩ := draw_ok (many := 5) tp5 (by decide) (by decide)
  obtain ⟨z, S7, e7, hz0, hz1, tp7, sb7⟩ := draw_ok (many := 5) tp6 (by decide) (by decide)
  have hx := snse_ix d hd0 hd1
  have hsb := ((((sb2.trans sb3).trans sb4).trans sb5).trans sb6).trans sb7
  obtain ⟨g, hg, hgc0, hgc1, e8⟩ : ∃ g : Gl, TmOk us.length g.ts ∧ -2 ≤ g.c ∧ g.c ≤ 2 ∧ w6 [some (.cel n, .brw), some (.int most, .brw), some (.int width, .brw), some (.int bodies, .brw), some (.lst (us.map encU), .own), x5, some (.int ((us.length : Nat) : Int), .frz), some (.lst (cs.map encC), .own), some (encG ⟨decide (d = 0), ts, c - 2⟩, .frz), x9, none] S6 = some (.nx [some (.cel n, .brw), some (.int most, .brw), some (.int width, .brw), some (.int bodies, .brw), some (.lst (us.map encU), .own), x5, some (.int ((us.length : Nat) : Int), .frz), some (.lst (cs.map encC), .own), some (encG g, .frz), x9, none] S7) := by
    by_cases h0 : z = 0
    · refine ⟨⟨true, [], 0⟩, ⟨by simp, fun _ h => absurd h List.not_mem_nil⟩, by simp, by simp, ?_⟩
      subst h0
      unfold w6
      clear hus hnm hc2 hc3 hsb
      walk_at "go"
      rfl
    · refine ⟨⟨decide (d = 0), ts, c - 2⟩, hts.ok (by omega), by simp only; omega, by simp only; omega, ?_⟩
      unfold w6
      clear hus hnm hc2 hc3 hsb
      have h0' : decide (z = 0) = false := decide_eq_false h0
      clear h0
      walk_at "go"
  refine ⟨us, cs, g, S7, ?_, hu1, hu2, hus, hnm, hc1, hc2, hc3, hg, hgc0, hgc1, tp7, hsb⟩
  unfold m_law_world
  rw [cFn_run (by rfl)]
  show fin (c_law_world [some (.cel n, .brw), some (.int most, .brw), some (.int width, .brw), some (.int bodies, .brw), none, none, none, none, none, none, none] S) = _
  rw [world_seq]
  rw [seq_nx (f := w1) (ρ2 := [some (.cel n, .brw), some (.int most, .brw), some (.int width, .brw), some (.int bodies, .brw), some (.lst [], .own), none, none, none, none, none, none]) (S2 := S) (by unfold w1; walk_at "ev"), seq_nx e2]
  rw [seq_nx (f := w3) (ρ2 := [some (.cel n, .brw), some (.int most, .brw), some (.int width, .brw), some (.int bodies, .brw), some (.lst (us.map encU), .own), x5, some (.int ((us.length : Nat) : Int), .frz), none, none, x9, none]) (S2 := S2) (by unfold w3; walk_at "ev"), seq_nx e3]
  rw [seq_nx (f := w5) (ρ2 := [some (.cel n, .brw), some (.int most, .brw), some (.int width, .brw), some (.int bodies, .brw), some (.lst (us.map encU), .own), x5, some (.int ((us.length : Nat) : Int), .frz), some (.lst (cs.map encC), .own), some (encG ⟨decide (d = 0), ts, c - 2⟩, .frz), x9, none]) (S2 := S6) (by unfold w5; clear hus hnm hc2 hc3 hsb e8; walk_at "go"; rfl), seq_nx e8]
  unfold w7
  rw [q_fz, show [4, 7].foldl frzE [some (.cel n, .brw), some (.int most, .brw), some (.int width, .brw), some (.int bodies, .brw), some (.lst (us.map encU), .own), x5, some (.int ((us.length : Nat) : Int), .frz), some (.lst (cs.map encC), .own), some (encG g, .frz), x9, none] = [some (.cel n, .brw), some (.int most, .brw), some (.int width, .brw), some (.int bodies, .brw), some (.lst (us.map encU), .frz), x5, some (.int ((us.length : Nat) : Int), .frz), some (.lst (cs.map encC), .frz), some (encG g, .frz), x9, none] from rfl]
  walk_at "ev"
end Lg
/-! big models as the laws draw them (printed by mklo.py) -/
namespace Lg
open PySem PySem.Spec PyProof.Rows L2 Mp
local macro_rules | `(tactic| walk_at "ev") => `(tactic| simp -implicitDefEqProofs only [q_lit, q_nil, q_cons, q_var, q_bin, q_tup, q_lst, q_box, q_neg, q_notT, q_andT, q_orT, q_notV, q_andV, q_orV, q_if, q_B, q_ix, q_call, q_bi, q_sl, q_oNone, q_oSome, q_dk, q_dt, q_yesT, q_get2,
  q_lc, q_iExp, q_iVar, q_iEnV, items_tup, items_lst, q_seq, q_skip, q_ret, q_retV, q_ifS, q_asg, q_drop, q_for, q_tName, q_tTup, q_tCons, q_tNil, q_fz, q_frzE, q_app, q_aug, q_setIx, q_wipe0, q_wipe, fin_rt, fin_nx,
  mut_non, mut_bl, mut_int, mut_str, mut_tup, mut_lst, mut_dk, mut_dt, mut_scr, mut_cel, sto_non, sto_bl, sto_int, sto_str, sto_tup, sto_scr, sto_cel, sto_own, sto_frz, md_non, md_bl, md_int, md_str, md_tup, md_lst, md_dk, md_dt, md_scr, md_cel,
  gAdd_int, gAddI_int, gSub_int, gLt_int, gLe_int, gGt_int, gGe_int, gInt_int, gInt_bl, gLen_tup, gLen_lst, gTuple_lst, gTuple_tup, gList_scr, gList_lst, gList_tup, gIx_tup, gIx_lst, gEq_int, gEq_bl, atI_0, atI_1, atI_2, atI_3, atI_4,
  bnd_some, Option.map_some, Option.bind_some, List.getElem?_cons_succ, List.getElem?_cons_zero, List.set_cons_succ, List.set_cons_zero, List.foldl_cons, List.foldl_nil, List.map_cons, List.map_nil, List.length_map, List.length_cons, List.length_nil, List.all_cons, List.all_nil, Bool.and_true, Bool.true_and, and_true, true_and, false_and, and_false,
  size_le, size_lt', Nat.reduceAdd, Nat.reduceLeDiff, Nat.zero_add, ne_eq, decide_eq_true_eq, Int.reduceEq, Int.reduceLT, Int.reduceLE, Int.reduceNeg, decide_true, decide_false, Bool.false_bne, Bool.true_bne, Bool.not_true, Bool.not_false, md_encT, md_encP, md_encL, md_encB, sto_encT, sto_encP, sto_encL, sto_encB, md_encG, md_encU, md_encC, sto_encG, sto_encU, sto_encC, reduceCtorEq, if_false, if_true, ite_true, ite_false, Bool.false_eq_true])
local macro_rules | `(tactic| walk_at "go") => `(tactic| simp -implicitDefEqProofs only [q_lit, q_nil, q_cons, q_var, q_bin, q_tup, q_lst, q_box, q_neg, q_notT, q_andT, q_orT, q_notV, q_andV, q_orV, q_if, q_B, q_ix, q_call, q_bi, q_sl, q_oNone, q_oSome, q_dk, q_dt, q_yesT, q_get2,
  q_lc, q_iExp, q_iVar, q_iEnV, items_tup, items_lst, q_seq, q_skip, q_ret, q_retV, q_ifS, q_asg, q_drop, q_for, q_tName, q_tTup, q_tCons, q_tNil, q_fz, q_frzE, q_app, q_aug, q_setIx, q_wipe0, q_wipe, fin_rt, fin_nx,
  mut_non, mut_bl, mut_int, mut_str, mut_tup, mut_lst, mut_dk, mut_dt, mut_scr, mut_cel, sto_non, sto_bl, sto_int, sto_str, sto_tup, sto_scr, sto_cel, sto_own, sto_frz, md_non, md_bl, md_int, md_str, md_tup, md_lst, md_dk, md_dt, md_scr, md_cel,
  gAdd_int, gAddI_int, gSub_int, gLt_int, gLe_int, gGt_int, gGe_int, gInt_int, gInt_bl, gLen_tup, gLen_lst, gTuple_lst, gTuple_tup, gList_scr, gList_lst, gList_tup, gIx_tup, gIx_lst, gEq_int, gEq_bl, atI_0, atI_1, atI_2, atI_3, atI_4,
  bnd_some, Option.map_some, Option.bind_some, List.getElem?_cons_succ, List.getElem?_cons_zero, List.set_cons_succ, List.set_cons_zero, List.foldl_cons, List.foldl_nil, List.map_cons, List.map_nil, List.length_map, List.length_cons, List.length_nil, List.all_cons, List.all_nil, Bool.and_true, Bool.true_and, and_true, true_and, false_and, and_false,
  size_le, size_lt', Nat.reduceAdd, Nat.reduceLeDiff, Nat.zero_add, ne_eq, decide_eq_true_eq, Int.reduceEq, Int.reduceLT, Int.reduceLE, Int.reduceNeg, decide_true, decide_false, Bool.false_bne, Bool.true_bne, Bool.not_true, Bool.not_false, md_encT, md_encP, md_encL, md_encB, sto_encT, sto_encP, sto_encL, sto_encB, md_encG, md_encU, md_encC, sto_encG, sto_encU, sto_encC, reduceCtorEq, if_false, if_true, ite_true, ite_false, Bool.false_eq_true, *])
def c_law_big_unknowns : CS :=
  cSeq (cAsg (tName 3) (cLst (cCons (cCall mDraw (cCons (cVar 0) (cCons (cLit (.int 58)) cNil))) (cCons (cCall mDraw (cCons (cVar 0) (cCons (cLit (.int 31)) cNil))) (cCons (cBin Mp.gSub (cCall mDraw (cCons (cVar 0) (cCons (cLit (.int 61)) cNil))) (cLit (.int 30))) (cCons (cLit (.int 0)) (cCons (cLit (.int 0)) cNil)))))))
  (cSeq (cSetIx 3 (cLit (.int 3)) (cBin gMul (cIx (cVar 3) (cLit (.int 1))) (cIx (cVar 3) (cLit (.int 2)))))
  (cSeq (cSetIx 3 (cLit (.int 4)) (cBin gMod (cBi gInt (cCons (cBin gMul (cIx (cVar 3) (cLit (.int 0))) (cLit (.int 7))) cNil)) (cLit (.int 11))))
  (cSeq (cFor (tName 4) (iRange2 (cLit (.int 5)) (cVar 1)) (cApp 3 (cBin Mp.gSub (cCall mDraw (cCons (cVar 0) (cCons (cLit (.int 1901)) cNil))) (cLit (.int 950)))))
  (cSeq (cAsg (tName 5) (cLc (tName 4) (iRange1 (cVar 1)) tYesT (cTup (cCons (cBin gAdd (cLit (.str "v")) (cBi gStr (cCons (cVar 4) cNil))) (cCons (cIx (cVar 3) (cVar 4)) (cCons (cIx (cVar 3) (cVar 4)) cNil)))) [4]))
  (cSeq (cFor (tName 6) (iRange1 (cBin gAdd (cLit (.int 1)) (cCall mDraw (cCons (cVar 0) (cCons (cVar 2) cNil))))) (cSeq (cAsg (tName 4) (cCall mDraw (cCons (cVar 0) (cCons (cIx (cLst (cCons (cLit (.int 5)) (cCons (cVar 1) cNil))) (cCall mDraw (cCons (cVar 0) (cCons (cLit (.int 2)) cNil)))) cNil))))
  (cSetIx 5 (cVar 4) (cTup (cCons (cIx (cIx (cVar 5) (cVar 4)) (cLit (.int 0))) (cCons (cIx (cVar 3) (cVar 4)) (cCons (cBin gAdd (cBin gAdd (cIx (cVar 3) (cVar 4)) (cLit (.int 1))) (cCall mDraw (cCons (cVar 0) (cCons (cLit (.int 2)) cNil)))) cNil)))))))
  (cSeq (cIfS (cB (cBin (gEq false) (cCall mDraw (cCons (cVar 0) (cCons (cLit (.int 2)) cNil))) (cLit (.int 0)))) (cSeq (cAsg (tName 7) (cBin Mp.gSub (cBin gAdd (cIx (cVar 3) (cCall mDraw (cCons (cVar 0) (cCons (cBin Mp.gSub (cVar 1) (cLit (.int 1))) cNil)))) (cCall mDraw (cCons (cVar 0) (cCons (cLit (.int 3)) cNil)))) (cLit (.int 1))))
  (cSetIx 5 (cBin Mp.gSub (cVar 1) (cLit (.int 1))) (cTup (cCons (cIx (cIx (cVar 5) (cBin Mp.gSub (cVar 1) (cLit (.int 1)))) (cLit (.int 0))) (cCons (cVar 7) (cCons (cVar 7) cNil)))))) (cSkip))
  (cRetV 5)))))))
def m_law_big_unknowns : FnSem := cFn 3 8 c_law_big_unknowns
def c_law_big_linear : CS :=
  cSeq (cAsg (tName 2) (cLst cNil))
  (cSeq (cAsg (tName 3) (cLit (.int 0)))
  (cSeq (cFor (tName 4) (iRange1 (cBi gLen (cCons (cVar 1) cNil))) (cSeq (cAsg (tName 6) (cIx (cLst (cCons (cLit (.int 1)) (cCons (cBin Mp.gSub (cLit (.int 0)) (cLit (.int 1))) (cCons (cLit (.int 3)) (cCons (cBin Mp.gSub (cLit (.int 0)) (cLit (.int 400))) (cCons (cLit (.int 0)) cNil)))))) (cCall mDraw (cCons (cVar 0) (cCons (cLit (.int 5)) cNil)))))
  (cIfS (cB (cBin (gEq true) (cVar 6) (cLit (.int 0)))) (cSeq (cApp 2 (cTup (cCons (cVar 4) (cCons (cVar 6) cNil))))
  (cAsg (tName 3) (cBin gAdd (cVar 3) (cBin gMul (cVar 6) (cIx (cIx (cVar 1) (cVar 4)) (cLit (.int 1))))))) (cSkip))))
  (cSeq (cAsg (tName 5) (cIx (cLst (cCons (cLit (.str "<=")) (cCons (cLit (.str ">=")) (cCons (cLit (.str "=")) cNil)))) (cCall mDraw (cCons (cVar 0) (cCons (cLit (.int 3)) cNil)))))
  (cRet (cTup (cCons (cBi gTuple (cCons (cVar 2) cNil)) (cCons (cVar 5) (cCons (cBin gAdd (cVar 3) (cIx (cLst (cCons (cLit (.int 0)) (cCons (cLit (.int 0)) (cCons (cLit (.int 1)) (cCons (cBin Mp.gSub (cLit (.int 0)) (cLit (.int 1))) (cCons (cLit (.int 400)) cNil)))))) (cCall mDraw (cCons (cVar 0) (cCons (cLit (.int 5)) cNil))))) cNil))))))))
def m_law_big_linear : FnSem := cFn 2 7 c_law_big_linear
def c_law_big_any : CS :=
  cSeq (cAsg (tName 2) (cLst cNil))
  (cSeq (cFor (tName 3) (iRange1 (cBin gAdd (cLit (.int 20)) (cCall mDraw (cCons (cVar 0) (cCons (cLit (.int 21)) cNil))))) (cSeq (cAsg (tName 4) (cCall mDraw (cCons (cVar 0) (cCons (cBi gLen (cCons (cVar 1) cNil)) cNil))))
  (cSeq (cAsg (tName 5) (cIx (cIx (cVar 1) (cVar 4)) (cLit (.int 1))))
  (cSeq (cAsg (tName 6) (cIx (cLst (cCons (cTup (cCons (cVar 4) (cCons (cLit (.str "=")) (cCons (cBin gAdd (cVar 5) (cLit (.int 1))) cNil)))) (cCons (cTup (cCons (cVar 4) (cCons (cLit (.str ">=")) (cCons (cBin gAdd (cVar 5) (cLit (.int 1))) cNil)))) (cCons (cTup (cCons (cVar 4) (cCons (cLit (.str "<=")) (cCons (cBin Mp.gSub (cVar 5) (cLit (.int 1))) cNil)))) (cCons (cTup (cCons (cVar 4) (cCons (cLit (.str "!=")) (cCons (cVar 5) cNil)))) cNil))))) (cCall mDraw (cCons (cVar 0) (cCons (cLit (.int 4)) cNil)))))
  (cIfS (cB (cBin (gIn true) (cVar 6) (cVar 2))) (cApp 2 (cVar 6)) (cSkip))))))
  (cSeq (cIfS (cB (cBin (gEq false) (cCall mDraw (cCons (cVar 0) (cCons (cLit (.int 3)) cNil))) (cLit (.int 0)))) (cSetIx 2 (cCall mDraw (cCons (cVar 0) (cCons (cBi gLen (cCons (cVar 2) cNil)) cNil))) (cTup (cCons (cLit (.int 0)) (cCons (cLit (.str ">=")) (cCons (cIx (cIx (cVar 1) (cLit (.int 0))) (cLit (.int 1))) cNil))))) (cSkip))
  (cRet (cTup (cCons (cLit (.str "any")) (cCons (cBi gTuple (cCons (cVar 2) cNil)) cNil))))))
def m_law_big_any : FnSem := cFn 2 7 c_law_big_any
def c_law_big_table : CS :=
  cSeq (cAsg (tName 2) (cCall mDraw (cCons (cVar 0) (cCons (cIx (cLst (cCons (cLit (.int 1)) (cCons (cBin Mp.gSub (cBi gLen (cCons (cVar 1) cNil)) (cLit (.int 5))) cNil))) (cCall mDraw (cCons (cVar 0) (cCons (cLit (.int 2)) cNil)))) cNil))))
  (cSeq (cAsg (tName 3) (cCall mDraw (cCons (cVar 0) (cCons (cLit (.int 6)) cNil))))
  (cSeq (cAsg (tName 4) (cLc (tName 8) (iRange1 (cLit (.int 6))) tYesT (cBin gAdd (cVar 2) (cBin gMod (cBi gInt (cCons (cBin gAdd (cBin gMul (cVar 8) (cLit (.int 5))) (cVar 3)) cNil)) (cLit (.int 6)))) [8]))
  (cSeq (cFz [4] (cAsg (tName 5) (cLc (tName 10) (iVar 4) tYesT (cIx (cIx (cVar 1) (cVar 10)) (cLit (.int 1))) [10])))
  (cSeq (cAsg (tName 6) (cBin gAdd (cLit (.int 14)) (cCall mDraw (cCons (cVar 0) (cCons (cLit (.int 3)) cNil)))))
  (cSeq (cAsg (tName 7) (cLst cNil))
  (cSeq (cFor (tName 8) (iRange1 (cBin Mp.gSub (cLit (.int 200)) (cCall mDraw (cCons (cVar 0) (cCons (cLit (.int 100)) cNil))))) (cSeq (cAsg (tName 9) (cBin gMod (cBi gInt (cCons (cVar 8) cNil)) (cLit (.int 6))))
  (cApp 7 (cBi gTuple (cCons (cBin gAdd (cBin gAdd (cSl (cVar 5) oNone (oSome (cVar 9))) (cLst (cCons (cBin Mp.gSub (cBin gAdd (cIx (cVar 5) (cVar 9)) (cBin gDiv (cVar 8) (cLit (.int 6)))) (cVar 6)) cNil))) (cSl (cVar 5) (oSome (cBin gAdd (cVar 9) (cLit (.int 1)))) oNone)) cNil)))))
  (cSeq (cIfS (cB (cBin (gEq false) (cCall mDraw (cCons (cVar 0) (cCons (cLit (.int 3)) cNil))) (cLit (.int 0)))) (cFz [7] (cAsg (tName 7) (cLc (tName 11) (iVar 7) (cB (cBin (gEq true) (cBi gList (cCons (cVar 11) cNil)) (cVar 5))) (cVar 11) [11]))) (cSkip))
  (cRet (cTup (cCons (cLit (.str "table")) (cCons (cBi gTuple (cCons (cVar 4) cNil)) (cCons (cBi gTuple (cCons (cVar 7) cNil)) cNil))))))))))))
def m_law_big_table : FnSem := cFn 2 12 c_law_big_table
def c_law_big_body : CS :=
  cSeq (cAsg (tName 2) (cBi gLen (cCons (cVar 1) cNil)))
  (cSeq (cAsg (tName 3) (cCall mDraw (cCons (cVar 0) (cCons (cLit (.int 8)) cNil))))
  (cSeq (cIfS (cB (cBin (gEq false) (cVar 3) (cLit (.int 0)))) (cRet (cCall m_law_big_any (cCons (cVar 0) (cCons (cVar 1) cNil)))) (cSkip))
  (cSeq (cIfS (cB (cBin (gEq false) (cVar 3) (cLit (.int 1)))) (cRet (cCall m_law_big_table (cCons (cVar 0) (cCons (cVar 1) cNil)))) (cSkip))
  (cSeq (cIfS (cB (cBin (gEq false) (cVar 3) (cLit (.int 2)))) (cRet (cTup (cCons (cLit (.str "different")) (cCons (cSl (cCall m_law_some (cCons (cVar 0) (cCons (cVar 2) (cCons (cBi gMin2 (cCons (cLit (.int 20)) (cCons (cVar 2) cNil))) cNil)))) oNone (oSome (cLit (.int 20)))) cNil)))) (cSkip))
  (cSeq (cIfS (cB (cBin (gEq false) (cVar 3) (cLit (.int 3)))) (cSeq (cAsg (tName 6) (cBi gTuple (cCons (cLc (tName 10) (iRange1 (cLit (.int 60))) tYesT (cBin gMod (cBi gInt (cCons (cBin gMul (cVar 10) (cLit (.int 7))) cNil)) (cLit (.int 11))) [10]) cNil)))
  (cRet (cTup (cCons (cLit (.str "element")) (cCons (cLit (.int 0)) (cCons (cVar 6) (cCons (cIx (cLst (cCons (cLit (.int 4)) (cCons (cLit (.int 4)) (cCons (cCall mDraw (cCons (cVar 0) (cCons (cVar 2) cNil))) cNil)))) (cCall mDraw (cCons (cVar 0) (cCons (cLit (.int 3)) cNil)))) cNil))))))) (cSkip))
  (cSeq (cIfS (cB (cBin (gEq false) (cVar 3) (cLit (.int 4)))) (cRet (cTup (cCons (cLit (.str "times")) (cCons (cLit (.int 1)) (cCons (cLit (.int 2)) (cCons (cIx (cLst (cCons (cLit (.int 3)) (cCons (cLit (.int 3)) (cCons (cCall mDraw (cCons (cVar 0) (cCons (cVar 2) cNil))) cNil)))) (cCall mDraw (cCons (cVar 0) (cCons (cLit (.int 3)) cNil)))) cNil)))))) (cSkip))
  (cSeq (cAsg (tTup 3 (tCons (tName 7) (tCons (tName 8) (tCons (tName 9) tNil)))) (cCall m_law_big_linear (cCons (cVar 0) (cCons (cVar 1) cNil))))
  (cSeq (cIfS (cB (cBin gGt (cVar 3) (cLit (.int 5)))) (cRet (cTup (cCons (cLit (.str "row")) (cCons (cVar 7) (cCons (cVar 8) (cCons (cVar 9) cNil)))))) (cSkip))
  (cSeq (cAsg (tName 4) (cCall mDraw (cCons (cVar 0) (cCons (cVar 2) cNil))))
  (cSeq (cAsg (tName 5) (cBin Mp.gSub (cBin gAdd (cIx (cIx (cVar 1) (cVar 4)) (cLit (.int 1))) (cCall mDraw (cCons (cVar 0) (cCons (cLit (.int 3)) cNil)))) (cLit (.int 1))))
  (cRet (cTup (cCons (cLit (.str "when")) (cCons (cTup (cCons (cVar 4) (cCons (cIx (cLst (cCons (cLit (.str "<=")) (cCons (cLit (.str ">=")) (cCons (cLit (.str "=")) (cCons (cLit (.str "!=")) cNil))))) (cCall mDraw (cCons (cVar 0) (cCons (cLit (.int 4)) cNil)))) (cCons (cVar 5) cNil)))) (cCons (cVar 7) (cCons (cVar 8) (cCons (cVar 9) cNil)))))))))))))))))
def m_law_big_body : FnSem := cFn 2 11 c_law_big_body

theorem set_lst {ρ : Mp.Env} {S : Store} {i : Nat} {ws : List W} {v : Int} {w : W} (hr : ρ[i]? = some (some (.lst ws, .own))) (h0 : 0 ≤ v) (h1 : v < ws.length) : setAt ρ S i (.int v) w = some (.nx (ρ.set i (some (.lst (ws.set v.toNat w), .own))) S) := by
  unfold setAt
  rw [hr]
  simp only
  unfold ixN
  rw [if_pos h0, if_pos h1]
  rfl
def u1 : CS :=
  cAsg (tName 3) (cLst (cCons (cCall mDraw (cCons (cVar 0) (cCons (cLit (.int 58)) cNil))) (cCons (cCall mDraw (cCons (cVar 0) (cCons (cLit (.int 31)) cNil))) (cCons (cBin Mp.gSub (cCall mDraw (cCons (cVar 0) (cCons (cLit (.int 61)) cNil))) (cLit (.int 30))) (cCons (cLit (.int 0)) (cCons (cLit (.int 0)) cNil))))))
def u2 : CS :=
  cSetIx 3 (cLit (.int 3)) (cBin gMul (cIx (cVar 3) (cLit (.int 1))) (cIx (cVar 3) (cLit (.int 2))))
def u3 : CS :=
  cSetIx 3 (cLit (.int 4)) (cBin gMod (cBi gInt (cCons (cBin gMul (cIx (cVar 3) (cLit (.int 0))) (cLit (.int 7))) cNil)) (cLit (.int 11)))
def u4 : CS :=
  cFor (tName 4) (iRange2 (cLit (.int 5)) (cVar 1)) (cApp 3 (cBin Mp.gSub (cCall mDraw (cCons (cVar 0) (cCons (cLit (.int 1901)) cNil))) (cLit (.int 950))))
def u5 : CS :=
  cAsg (tName 5) (cLc (tName 4) (iRange1 (cVar 1)) tYesT (cTup (cCons (cBin gAdd (cLit (.str "v")) (cBi gStr (cCons (cVar 4) cNil))) (cCons (cIx (cVar 3) (cVar 4)) (cCons (cIx (cVar 3) (cVar 4)) cNil)))) [4])
def u6 : CS :=
  cFor (tName 6) (iRange1 (cBin gAdd (cLit (.int 1)) (cCall mDraw (cCons (cVar 0) (cCons (cVar 2) cNil))))) (cSeq (cAsg (tName 4) (cCall mDraw (cCons (cVar 0) (cCons (cIx (cLst (cCons (cLit (.int 5)) (cCons (cVar 1) cNil))) (cCall mDraw (cCons (cVar 0) (cCons (cLit (.int 2)) cNil)))) cNil))))
  (cSetIx 5 (cVar 4) (cTup (cCons (cIx (cIx (cVar 5) (cVar 4)) (cLit (.int 0))) (cCons (cIx (cVar 3) (cVar 4)) (cCons (cBin gAdd (cBin gAdd (cIx (cVar 3) (cVar 4)) (cLit (.int 1))) (cCall mDraw (cCons (cVar 0) (cCons (cLit (.int 2)) cNil)))) cNil))))))
def u7 : CS :=
  cIfS (cB (cBin (gEq false) (cCall mDraw (cCons (cVar 0) (cCons (cLit (.int 2)) cNil))) (cLit (.int 0)))) (cSeq (cAsg (tName 7) (cBin Mp.gSub (cBin gAdd (cIx (cVar 3) (cCall mDraw (cCons (cVar 0) (cCons (cBin Mp.gSub (cVar 1) (cLit (.int 1))) cNil)))) (cCall mDraw (cCons (cVar 0) (cCons (cLit (.int 3)) cNil)))) (cLit (.int 1))))
  (cSetIx 5 (cBin Mp.gSub (cVar 1) (cLit (.int 1))) (cTup (cCons (cIx (cIx (cVar 5) (cBin Mp.gSub (cVar 1) (cLit (.int 1)))) (cLit (.int 0))) (cCons (cVar 7) (cCons (cVar 7) cNil)))))) (cSkip)
def u8 : CS :=
  cRetV 5
theorem bigu_seq : c_law_big_unknowns = cSeq u1 (cSeq u2 (cSeq u3 (cSeq u4 (cSeq u5 (cSeq u6 (cSeq u7 (u8))))))) := rfl
def Vok (vs : List Int) : Prop := ∀ v ∈ vs, -1000 ≤ v ∧ v ≤ 1000
theorem u14_ok {n many : Nat} {frees : Int} {S : Store} (tp : TapeAt n S) (h20 : 20 ≤ many) (h60 : many ≤ 60) (g : CS) :
    ∃ (vs : List Int) (x4 : Option (W × Md)) (S2 : Store), cSeq u1 (cSeq u2 (cSeq u3 (cSeq u4 g))) [some (.cel n, .brw), some (.int ((many : Nat) : Int), .brw), some (.int frees, .brw), none, none, none, none, none] S = g [some (.cel n, .brw), some (.int ((many : Nat) : Int), .brw), some (.int frees, .brw), some (.lst (vs.map .int), .own), x4, none, none, none] S2 ∧ vs.length = many ∧ Vok vs ∧ TapeAt n S2 ∧ SameBut n S S2 := by
  obtain ⟨a, S1, ea, ha0, ha1, t1, b1⟩ := draw_ok (many := 58) tp (by decide) (by decide)
  obtain ⟨b, S2, eb, hb0, hb1, t2, b2⟩ := draw_ok (many := 31) t1 (by decide) (by decide)
  obtain ⟨c, S3, ec, hc0, hc1, t3, b3⟩ := draw_ok (many := 61) t2 (by decide) (by decide)
  rw [seq_nx (f := u1) (ρ2 := [some (.cel n, .brw), some (.int ((many : Nat) : Int), .brw), some (.int frees, .brw), some (.lst [.int a, .int b, .int (c - 30), .int 0, .int 0], .own), none, none, none, none]) (S2 := S3) (by unfold u1; walk_at "go")]
  rw [seq_nx (f := u2) (ρ2 := [some (.cel n, .brw), some (.int ((many : Nat) : Int), .brw), some (.int frees, .brw), some (.lst [.int a, .int b, .int (c - 30), .int (b * (c - 30)), .int 0], .own), none, none, none, none]) (S2 := S3) (by
    unfold u2
    have hg : gMul (.int b) (.int (c - 30)) = some (.int (b * (c - 30))) := gMul_int (.inl (by omega))
    rw [q_setIx]
    walk_at "go"
    rw [set_lst rfl (by omega) (by simp)]
    rfl)]
  rw [seq_nx (f := u3) (ρ2 := [some (.cel n, .brw), some (.int ((many : Nat) : Int), .brw), some (.int frees, .brw), some (.lst [.int a, .int b, .int (c - 30), .int (b * (c - 30)), .int (a * 7 % 11)], .own), none, none, none, none]) (S2 := S3) (by
    unfold u3
    have hg : gMul (.int a) (.int 7) = some (.int (a * 7)) := gMul_int (.inl (by omega))
    have hg2 : gMod (.int (a * 7)) (.int 11) = some (.int (a * 7 % 11)) := gMod_int (by omega)
    rw [q_setIx]
    walk_at "go"
    rw [set_lst rfl (by omega) (by simp)]
    rfl)]
  have hbc : -1000 ≤ b * (c - 30) ∧ b * (c - 30) ≤ 1000 := by
    have h1 : b * (c - 30) ≤ b * 30 := Int.mul_le_mul_of_nonneg_left (by omega) hb0
    have h2 : b * (-30) ≤ b * (c - 30) := Int.mul_le_mul_of_nonneg_left (by omega) hb0
    omega
  have hr2 : iRange2 (cLit (.int 5)) (cVar 1) [some (.cel n, .brw), some (.int ((many : Nat) : Int), .brw), some (.int frees, .brw), some (.lst [.int a, .int b, .int (c - 30), .int (b * (c - 30)), .int (a * 7 % 11)], .own), none, none, none, none] S3 = some (rangeW 5 (many - 5), S3) := by
    rw [q_range2, q_lit]
    simp only [bnd_some, q_var, List.getElem?_cons_succ, List.getElem?_cons_zero, reduceCtorEq, if_false]
    rw [if_pos ⟨by decide, by omega⟩, show (((many : Nat) : Int) - 5).toNat = many - 5 by omega]
  obtain ⟨ρ2, S4, e4, vs, x4, rfl, hl, hv, tp4, sb4⟩ := for_inv (ws := rangeW 5 (many - 5)) (t := (tName 4)) (b := (cApp 3 (cBin Mp.gSub (cCall mDraw (cCons (cVar 0) (cCons (cLit (.int 1901)) cNil))) (cLit (.int 950)))))
    (fun i ρ S4 => ∃ (vs : List Int) (x4 : Option (W × Md)), ρ = [some (.cel n, .brw), some (.int ((many : Nat) : Int), .brw), some (.int frees, .brw), some (.lst (vs.map .int), .own), x4, none, none, none] ∧ vs.length = 5 + i ∧ Vok vs ∧ TapeAt n S4 ∧ SameBut n S3 S4)
    (fun i w ρ S4 hw hI => by
      obtain ⟨vs, x4, rfl, hl, hv, tp4, sb4⟩ := hI
      rw [rangeW_get] at hw
      split at hw
      · rename_i hi
        injection hw with hw
        subst hw
        obtain ⟨d, S5, e5, hd0, hd1, tp5, sb5⟩ := draw_ok (many := 1901) tp4 (by decide) (by decide)
        have hsz : vs.length < sizeLine := size_lt (by omega)
        refine ⟨_, [some (.cel n, .brw), some (.int ((many : Nat) : Int), .brw), some (.int frees, .brw), some (.lst ((vs ++ [d - 950]).map .int), .own), some (.int (5 + ((i : Nat) : Int)), .frz), none, none, none], S5, by walk_at "ev"; rfl, ?_, vs ++ [d - 950], some (.int (5 + ((i : Nat) : Int)), .frz), rfl, by rw [List.length_append, hl]; rfl, fun v h' => ?_, tp5, sb4.trans sb5⟩
        · clear hv hl
          walk_at "go"
          rw [List.map_append]
          rfl
        · rcases List.mem_append.mp h' with h' | h'
          · exact hv v h'
          · rw [List.mem_singleton.mp h']; omega
      · cases hw)
    (ρ := [some (.cel n, .brw), some (.int ((many : Nat) : Int), .brw), some (.int frees, .brw), some (.lst [.int a, .int b, .int (c - 30), .int (b * (c - 30)), .int (a * 7 % 11)], .own), none, none, none, none]) (S := S3) ⟨[a, b, c - 30, b * (c - 30), a * 7 % 11], none, rfl, rfl, fun v h => by
      simp only [List.mem_cons, List.not_mem_nil, or_false] at h
      rcases h with rfl | rfl | rfl | rfl | rfl <;> omega, t3, .refl⟩
  have hlw : (rangeW 5 (many - 5)).length = many - 5 := by unfold rangeW; rw [List.length_map, List.length_range]
  rw [hlw] at hl
  refine ⟨vs, x4, S4, ?_, by omega, hv, tp4, ((b1.trans b2).trans b3).trans sb4⟩
  rw [seq_nx (f := u4) (ρ2 := [some (.cel n, .brw), some (.int ((many : Nat) : Int), .brw), some (.int frees, .brw), some (.lst (vs.map .int), .own), x4, none, none, none]) (S2 := S4) (by
    unfold u4
    rw [q_for, hr2]
    exact e4)]
theorem vstr_len : ∀ k < 61, ("v" : Str).length + (toString ((k : Nat) : Int) : Str).length ≤ 100 := by decide +kernel
def vLab (k : Nat) : Str := ("v" : Str) ++ (toString ((k : Nat) : Int) : Str)
theorem v_lab {k : Nat} (h : k < 61) : gAdd (.str "v") (.str (toString ((k : Nat) : Int))) = some (.str (vLab k)) := by
  have := vstr_len k h
  show (if ("v" : Str).length + (toString ((k : Nat) : Int) : Str).length ≤ sizeLine then some (W.str _) else none) = _
  rw [if_pos (size_ok (by omega))]
  rfl
theorem at_vs {vs : List Int} {k : Nat} (S : Store) (h : k < vs.length) : gIx S (.lst (vs.map .int)) (.int ((k : Nat) : Int)) = some (.int (vs.getD k 0)) := by
  show atI _ _ = _
  rw [at_pt (by omega) (by omega), Int.toNat_natCast]
def mkU (vs : List Int) (k : Nat) : Un := ⟨vLab k, vs.getD k 0, vs.getD k 0⟩
theorem u5_ok {n many : Nat} {frees : Int} {vs : List Int} {x4 : Option (W × Md)} {S : Store} (hl : vs.length = many) (h60 : many ≤ 60) : u5 [some (.cel n, .brw), some (.int ((many : Nat) : Int), .brw), some (.int frees, .brw), some (.lst (vs.map .int), .own), x4, none, none, none] S = some (.nx [some (.cel n, .brw), some (.int ((many : Nat) : Int), .brw), some (.int frees, .brw), some (.lst (vs.map .int), .own), x4, some (.lst (((List.range many).map (mkU vs)).map encU), .own), none, none] S) := by
  have hr1 : iRange1 (cVar 1) [some (.cel n, .brw), some (.int ((many : Nat) : Int), .brw), some (.int frees, .brw), some (.lst (vs.map .int), .own), x4, none, none, none] S = some ((List.range many).map fun k : Nat => W.int ((k : Nat) : Int), S) := by
    refine rng_ok (m := .brw) ?_ (by omega)
    walk_at "go"
  unfold u5
  rw [q_asg, q_lc, hr1]
  dsimp only [bnd_some]
  rw [if_pos (size_ok (by rw [List.length_map, List.length_range]; omega))]
  rw [lc_map (enc := fun k : Nat => W.int ((k : Nat) : Int)) (g := fun k : Nat => encU (mkU vs k)) fun k hk => ⟨_, .own, by walk_at "ev"; rfl, rfl, by
    have hk := List.mem_range.mp hk
    have h1 := v_lab (k := k) (by omega)
    have h2 : atI (vs.map W.int) ((k : Nat) : Int) = some (.int (vs.getD k 0)) := at_vs S (show k < vs.length by omega)
    have h3 : gStr S [.int ((k : Nat) : Int)] = some (.str (toString ((k : Nat) : Int))) := by
      show (if _ then _ else none) = _
      rw [if_pos (by omega)]
    clear hk hr1
    walk_at "go"
    rfl, rfl⟩]
  walk_at "ev"
  rw [List.map_map]
  rfl
/-- big unknowns: every value within 1000 -/
def UbOk (u : Un) : Prop := -2000 ≤ u.lo ∧ u.hi ≤ 2000 ∧ u.lo ≤ u.hi ∧ u.hi ≤ u.lo + 2
theorem at_us {us : List Un} {k : Nat} (h : k < us.length) : atI (us.map encU) ((k : Nat) : Int) = some (encU us[k]) := by
  rw [atI_of (by omega), List.getElem?_map, Int.toNat_natCast, List.getElem?_eq_getElem h]
  rfl
theorem u_0 (S : Store) (u : Un) : gIx S (encU u) (.int 0) = some (.str u.nm) := rfl
theorem u_1 (S : Store) (u : Un) : gIx S (encU u) (.int 1) = some (.int u.lo) := rfl
theorem u_2 (S : Store) (u : Un) : gIx S (encU u) (.int 2) = some (.int u.hi) := rfl
theorem ub_at {vs : List Int} (h : Vok vs) (k : Nat) : -1000 ≤ vs.getD k 0 ∧ vs.getD k 0 ≤ 1000 := by
  rw [List.getD_eq_getElem?_getD]
  by_cases hv : k < vs.length
  · rw [List.getElem?_eq_getElem hv]
    exact h _ (List.getElem_mem hv)
  · rw [List.getElem?_eq_none (by omega)]
    simp
def BigOk (many : Nat) (us : List Un) : Prop := us.length = many ∧ (∀ u ∈ us, UbOk u) ∧ us.map (·.nm) = (List.range many).map vLab
theorem BigOk.set {many : Nat} {us : List Un} (h : BigOk many us) {k : Nat} (hk : k < us.length) {lo hi : Int} (hu : UbOk ⟨us[k].nm, lo, hi⟩) : BigOk many (us.set k ⟨us[k].nm, lo, hi⟩) := by
  refine ⟨by rw [List.length_set]; exact h.1, fun u hu' => ?_, ?_⟩
  · rcases List.mem_or_eq_of_mem_set hu' with e | e
    · exact h.2.1 u e
    · rw [e]; exact hu
  · rw [← h.2.2, List.map_set]
    refine List.ext_getElem? fun i => ?_
    rw [List.getElem?_set]
    by_cases e : k = i
    · subst e
      rw [if_pos rfl, if_pos (by rw [List.length_map]; exact hk), List.getElem?_map, List.getElem?_eq_getElem hk]
      rfl
    · rw [if_neg e]
theorem u6_step {n many : Nat} {frees : Int} {vs : List Int} {us : List Un} {x4 x6 x7 : Option (W × Md)} {S : Store} (tp : TapeAt n S) (hl : vs.length = many) (h20 : 20 ≤ many) (h60 : many ≤ 60) (hv : Vok vs) (hus : BigOk many us) :
    ∃ (us2 : List Un) (y4 : Option (W × Md)) (S2 : Store), (cSeq (cAsg (tName 4) (cCall mDraw (cCons (cVar 0) (cCons (cIx (cLst (cCons (cLit (.int 5)) (cCons (cVar 1) cNil))) (cCall mDraw (cCons (cVar 0) (cCons (cLit (.int 2)) cNil)))) cNil))))
  (cSetIx 5 (cVar 4) (cTup (cCons (cIx (cIx (cVar 5) (cVar 4)) (cLit (.int 0))) (cCons (cIx (cVar 3) (cVar 4)) (cCons (cBin gAdd (cBin gAdd (cIx (cVar 3) (cVar 4)) (cLit (.int 1))) (cCall mDraw (cCons (cVar 0) (cCons (cLit (.int 2)) cNil)))) cNil)))))) [some (.cel n, .brw), some (.int ((many : Nat) : Int), .brw), some (.int frees, .brw), some (.lst (vs.map .int), .own), x4, some (.lst (us.map encU), .own), x6, x7] S = some (.nx [some (.cel n, .brw), some (.int ((many : Nat) : Int), .brw), some (.int frees, .brw), some (.lst (vs.map .int), .own), y4, some (.lst (us2.map encU), .own), x6, x7] S2) ∧ BigOk many us2 ∧ TapeAt n S2 ∧ SameBut n S S2 := by
  obtain ⟨d, S2, e, hd0, hd1, t2, b2⟩ := draw_ok (many := 2) tp (by decide) (by decide)
  obtain ⟨m5, hm5, hm1, hm2⟩ : ∃ m5 : Int, atI [W.int 5, W.int ((many : Nat) : Int)] d = some (.int m5) ∧ 0 < m5 ∧ m5 ≤ many := by
    have : d = 0 ∨ d = 1 := by omega
    rcases this with rfl | rfl
    · exact ⟨5, by rw [atI_0], by omega, by omega⟩
    · exact ⟨many, by rw [atI_1], by omega, by omega⟩
  obtain ⟨v, S3, e3, hv0, hv1, t3, b3⟩ := draw_ok (many := m5) t2 hm1 (by omega)
  obtain ⟨k, rfl⟩ : ∃ k : Nat, v = ((k : Nat) : Int) := ⟨v.toNat, by omega⟩
  obtain ⟨z, S4, e4, hz0, hz1, t4, b4⟩ := draw_ok (many := 2) t3 (by decide) (by decide)
  have hk : k < us.length := by rw [hus.1]; omega
  have h1 := at_us hk
  have h2 : atI (vs.map W.int) ((k : Nat) : Int) = some (.int (vs.getD k 0)) := at_vs S3 (show k < vs.length by omega)
  have h3 := u_0 S3 us[k]
  have h4 := ub_at hv k
  refine ⟨us.set k ⟨us[k].nm, vs.getD k 0, vs.getD k 0 + 1 + z⟩, some (.int ((k : Nat) : Int), .frz), S4, ?_, hus.set hk ⟨by simp only; omega, by simp only; omega, by simp only; omega, by simp only; omega⟩, t4, (b2.trans b3).trans b4⟩
  have hb : (0 : Int) ≤ ((k : Nat) : Int) := by omega
  have hb2 : ((k : Nat) : Int) < ((us.map encU).length : Nat) := by rw [List.length_map]; omega
  have hset := fun (ρ : Mp.Env) (S : Store) (w : W) (hr : ρ[5]? = some (some (.lst (us.map encU), .own))) => set_lst (S := S) (w := w) hr hb hb2
  generalize vs.getD k 0 = vk at *
  rw [seq_nx (ρ2 := [some (.cel n, .brw), some (.int ((many : Nat) : Int), .brw), some (.int frees, .brw), some (.lst (vs.map .int), .own), some (.int ((k : Nat) : Int), .frz), some (.lst (us.map encU), .own), x6, x7]) (S2 := S3) (by clear hus hv hset hb2 hb h4; walk_at "go")]
  rw [q_setIx]
  clear hus hv hb2 hb h4
  walk_at "go"
  have hm : (us.map encU).set k (.tup [.str us[k].nm, .int vk, .int (vk + 1 + z)]) = (us.set k ⟨us[k].nm, vk, vk + 1 + z⟩).map encU := by
    rw [List.map_set]
    rfl
  rw [Int.toNat_natCast, hm]
theorem bigu_ok {n many : Nat} {frees : Int} {S : Store} (tp : TapeAt n S) (h20 : 20 ≤ many) (h60 : many ≤ 60) (hf : 1 ≤ frees ∧ frees ≤ 100) :
    ∃ (us : List Un) (S2 : Store), m_law_big_unknowns [.cel n, .int ((many : Nat) : Int), .int frees] S = some ((.lst (us.map encU), .own), S2) ∧ BigOk many us ∧ TapeAt n S2 ∧ SameBut n S S2 := by
  unfold m_law_big_unknowns
  rw [cFn_run (by rfl)]
  show ∃ us S2, fin (c_law_big_unknowns [some (.cel n, .brw), some (.int ((many : Nat) : Int), .brw), some (.int frees, .brw), none, none, none, none, none] S) = _ ∧ _
  rw [bigu_seq]
  obtain ⟨vs, x4, S2, e2, hl, hv, tp2, sb2⟩ := u14_ok (frees := frees) tp h20 h60 (cSeq u5 (cSeq u6 (cSeq u7 u8)))
  rw [e2, seq_nx (u5_ok hl h60)]
  have hbig : BigOk many ((List.range many).map (mkU vs)) := by
    refine ⟨by rw [List.length_map, List.length_range], fun u hu => ?_, by rw [List.map_map]; rfl⟩
    obtain ⟨k, _, rfl⟩ := List.mem_map.mp hu
    have := ub_at hv k
    exact ⟨by show _ ≤ vs.getD k 0; omega, by show vs.getD k 0 ≤ _; omega, Int.le_refl _, by show vs.getD k 0 ≤ vs.getD k 0 + 2; omega⟩
  generalize (List.range many).map (mkU vs) = us0 at hbig
  obtain ⟨d, S3, e3, hd0, hd1, tp3, sb3⟩ := draw_ok (many := frees) tp2 (by omega) (by omega)
  obtain ⟨c, hc⟩ : ∃ c : Nat, 1 + d = ((c : Nat) : Int) := ⟨(1 + d).toNat, by omega⟩
  have hr1 : iRange1 (cBin gAdd (cLit (.int 1)) (cCall mDraw (cCons (cVar 0) (cCons (cVar 2) cNil)))) [some (.cel n, .brw), some (.int ((many : Nat) : Int), .brw), some (.int frees, .brw), some (.lst (vs.map .int), .own), x4, some (.lst (us0.map encU), .own), none, none] S2 = some ((List.range c).map fun k : Nat => W.int ((k : Nat) : Int), S3) := by
    refine rng_ok (m := .own) ?_ (by omega)
    clear hv hbig e2 hl
    walk_at "go"
  obtain ⟨ρ4, S4, e4, us, y4, x6, rfl, hus, tp4, sb4⟩ := for_inv (ws := (List.range c).map fun k : Nat => W.int ((k : Nat) : Int)) (t := (tName 6)) (b := (cSeq (cAsg (tName 4) (cCall mDraw (cCons (cVar 0) (cCons (cIx (cLst (cCons (cLit (.int 5)) (cCons (cVar 1) cNil))) (cCall mDraw (cCons (cVar 0) (cCons (cLit (.int 2)) cNil)))) cNil))))
  (cSetIx 5 (cVar 4) (cTup (cCons (cIx (cIx (cVar 5) (cVar 4)) (cLit (.int 0))) (cCons (cIx (cVar 3) (cVar 4)) (cCons (cBin gAdd (cBin gAdd (cIx (cVar 3) (cVar 4)) (cLit (.int 1))) (cCall mDraw (cCons (cVar 0) (cCons (cLit (.int 2)) cNil)))) cNil)))))))
    (fun i ρ S4 => ∃ (us : List Un) (x4 x6 : Option (W × Md)), ρ = [some (.cel n, .brw), some (.int ((many : Nat) : Int), .brw), some (.int frees, .brw), some (.lst (vs.map .int), .own), x4, some (.lst (us.map encU), .own), x6, none] ∧ BigOk many us ∧ TapeAt n S4 ∧ SameBut n S S4)
    (fun i w ρ S4 hw hI => by
      obtain ⟨us, x4, x6, rfl, hus, tp4, sb4⟩ := hI
      have hi : i < c := by
        have := (List.getElem?_eq_some_iff.mp hw).1
        simpa using this
      rw [List.getElem?_map, List.getElem?_range hi] at hw
      injection hw with hw
      subst hw
      obtain ⟨us2, z4, S5, e5, hus2, tp5, sb5⟩ := u6_step (frees := frees) (x4 := x4) (x6 := some (.int ((i : Nat) : Int), .frz)) (x7 := none) tp4 hl h20 h60 hv hus
      exact ⟨_, _, S5, by walk_at "ev", e5, us2, z4, _, rfl, hus2, tp5, sb4.trans sb5⟩)
    (ρ := [some (.cel n, .brw), some (.int ((many : Nat) : Int), .brw), some (.int frees, .brw), some (.lst (vs.map .int), .own), x4, some (.lst (us0.map encU), .own), none, none]) (S := S3) ⟨us0, x4, none, rfl, hbig, tp3, sb2.trans sb3⟩
  rw [seq_nx (f := u6) (ρ2 := [some (.cel n, .brw), some (.int ((many : Nat) : Int), .brw), some (.int frees, .brw), some (.lst (vs.map .int), .own), y4, some (.lst (us.map encU), .own), x6, none]) (S2 := S4) (by unfold u6; rw [q_for, hr1]; exact e4)]
  obtain ⟨z, S5, e5, hz0, hz1, tp5, sb5⟩ := draw_ok (many := 2) tp4 (by decide) (by decide)
  have fin8 : ∀ (us : List Un) (x4 x7 : Option (W × Md)) (S : Store), fin (u8 [some (.cel n, .brw), some (.int ((many : Nat) : Int), .brw), some (.int frees, .brw), some (.lst (vs.map .int), .own), x4, some (.lst (us.map encU), .own), x6, x7] S) = some ((.lst (us.map encU), .own), S) := fun us x4 x7 S => by
    unfold u8
    rw [q_retV]
    rfl
  by_cases h0 : z = 0
  · obtain ⟨q, S6, e6, hq0, hq1, tp6, sb6⟩ := draw_ok (many := ((many : Nat) : Int) - 1) tp5 (by omega) (by omega)
    obtain ⟨r, S7, e7, hr0, hr1', tp7, sb7⟩ := draw_ok (many := 3) tp6 (by decide) (by decide)
    obtain ⟨k, rfl⟩ : ∃ k : Nat, q = ((k : Nat) : Int) := ⟨q.toNat, by omega⟩
    have h2 : atI (vs.map W.int) ((k : Nat) : Int) = some (.int (vs.getD k 0)) := at_vs S6 (show k < vs.length by omega)
    have h4 := ub_at hv k
    have hk : many - 1 < us.length := by rw [hus.1]; omega
    have hmm : ((many : Nat) : Int) - 1 = ((many - 1 : Nat) : Int) := by omega
    have h1 := at_us hk
    rw [← hmm] at h1
    have h3 := u_0 S7 us[many - 1]
    have hset : ∀ (ρ : Mp.Env) (S : Store) (w : W), ρ[5]? = some (some (.lst (us.map encU), .own)) → setAt ρ S 5 (.int (((many : Nat) : Int) - 1)) w = some (.nx (ρ.set 5 (some (.lst ((us.map encU).set (many - 1) w), .own))) S) := fun ρ S w hr => by
      rw [set_lst hr (by omega) (by rw [List.length_map]; omega), hmm, Int.toNat_natCast]
    generalize hav : vs.getD k 0 + r - 1 = a
    generalize vs.getD k 0 = vk at *
    refine ⟨us.set (many - 1) ⟨us[many - 1].nm, a, a⟩, S7, ?_, hus.set hk ⟨by simp only; omega, by simp only; omega, by simp only; omega, by simp only; omega⟩, tp7, ((sb4.trans sb5).trans sb6).trans sb7⟩
    have hm : (us.map encU).set (many - 1) (.tup [.str us[many - 1].nm, .int a, .int a]) = (us.set (many - 1) ⟨us[many - 1].nm, a, a⟩).map encU := by
      rw [List.map_set]
      rfl
    rw [seq_nx (f := u7) (ρ2 := [some (.cel n, .brw), some (.int ((many : Nat) : Int), .brw), some (.int frees, .brw), some (.lst (vs.map .int), .own), y4, some (.lst ((us.set (many - 1) ⟨us[many - 1].nm, a, a⟩).map encU), .own), x6, some (.int a, .frz)]) (S2 := S7) (by
      unfold u7
      have h0' : decide (z = 0) = true := decide_eq_true h0
      clear h0 hv hus hbig e4 e2 fin8 hmm h4
      walk_at "go")]
    exact fin8 _ _ _ _
  · refine ⟨us, S5, ?_, hus, tp5, sb4.trans sb5⟩
    rw [seq_nx (f := u7) (ρ2 := [some (.cel n, .brw), some (.int ((many : Nat) : Int), .brw), some (.int frees, .brw), some (.lst (vs.map .int), .own), y4, some (.lst (us.map encU), .own), x6, none]) (S2 := S5) (by
      unfold u7
      have h0' : decide (z = 0) = false := decide_eq_false h0
      clear h0 hv hus hbig e4 e2 fin8
      walk_at "go")]
    exact fin8 _ _ _ _
end Lg
/-! big bodies as the laws draw them (printed by mklp.py) -/
namespace Lg
open PySem PySem.Spec PyProof.Rows L2 Mp
local macro_rules | `(tactic| walk_at "ev") => `(tactic| simp -implicitDefEqProofs only [q_lit, q_nil, q_cons, q_var, q_bin, q_tup, q_lst, q_box, q_neg, q_notT, q_andT, q_orT, q_notV, q_andV, q_orV, q_if, q_B, q_ix, q_call, q_bi, q_sl, q_oNone, q_oSome, q_dk, q_dt, q_yesT, q_get2,
  q_lc, q_iExp, q_iVar, q_iEnV, items_tup, items_lst, q_seq, q_skip, q_ret, q_retV, q_ifS, q_asg, q_drop, q_for, q_tName, q_tTup, q_tCons, q_tNil, q_fz, q_frzE, q_app, q_aug, q_setIx, q_wipe0, q_wipe, fin_rt, fin_nx,
  mut_non, mut_bl, mut_int, mut_str, mut_tup, mut_lst, mut_dk, mut_dt, mut_scr, mut_cel, sto_non, sto_bl, sto_int, sto_str, sto_tup, sto_scr, sto_cel, sto_own, sto_frz, md_non, md_bl, md_int, md_str, md_tup, md_lst, md_dk, md_dt, md_scr, md_cel,
  gAdd_int, gAddI_int, gSub_int, gLt_int, gLe_int, gGt_int, gGe_int, gInt_int, gInt_bl, gLen_tup, gLen_lst, gTuple_lst, gTuple_tup, gList_scr, gList_lst, gList_tup, gIx_tup, gIx_lst, gEq_int, gEq_bl, atI_0, atI_1, atI_2, atI_3, atI_4,
  bnd_some, Option.map_some, Option.bind_some, List.getElem?_cons_succ, List.getElem?_cons_zero, List.set_cons_succ, List.set_cons_zero, List.foldl_cons, List.foldl_nil, List.map_cons, List.map_nil, List.length_map, List.length_cons, List.length_nil, List.all_cons, List.all_nil, Bool.and_true, Bool.true_and, and_true, true_and, false_and, and_false,
  size_le, size_lt', Nat.reduceAdd, Nat.reduceLeDiff, Nat.zero_add, ne_eq, decide_eq_true_eq, Int.reduceEq, Int.reduceLT, Int.reduceLE, Int.reduceNeg, decide_true, decide_false, Bool.false_bne, Bool.true_bne, Bool.not_true, Bool.not_false, md_encT, md_encP, md_encL, md_encB, sto_encT, sto_encP, sto_encL, sto_encB, md_encG, md_encU, md_encC, sto_encG, sto_encU, sto_encC, reduceCtorEq, if_false, if_true, ite_true, ite_false, Bool.false_eq_true])
local macro_rules | `(tactic| walk_at "go") => `(tactic| simp -implicitDefEqProofs only [q_lit, q_nil, q_cons, q_var, q_bin, q_tup, q_lst, q_box, q_neg, q_notT, q_andT, q_orT, q_notV, q_andV, q_orV, q_if, q_B, q_ix, q_call, q_bi, q_sl, q_oNone, q_oSome, q_dk, q_dt, q_yesT, q_get2,
  q_lc, q_iExp, q_iVar, q_iEnV, items_tup, items_lst, q_seq, q_skip, q_ret, q_retV, q_ifS, q_asg, q_drop, q_for, q_tName, q_tTup, q_tCons, q_tNil, q_fz, q_frzE, q_app, q_aug, q_setIx, q_wipe0, q_wipe, fin_rt, fin_nx,
  mut_non, mut_bl, mut_int, mut_str, mut_tup, mut_lst, mut_dk, mut_dt, mut_scr, mut_cel, sto_non, sto_bl, sto_int, sto_str, sto_tup, sto_scr, sto_cel, sto_own, sto_frz, md_non, md_bl, md_int, md_str, md_tup, md_lst, md_dk, md_dt, md_scr, md_cel,
  gAdd_int, gAddI_int, gSub_int, gLt_int, gLe_int, gGt_int, gGe_int, gInt_int, gInt_bl, gLen_tup, gLen_lst, gTuple_lst, gTuple_tup, gList_scr, gList_lst, gList_tup, gIx_tup, gIx_lst, gEq_int, gEq_bl, atI_0, atI_1, atI_2, atI_3, atI_4,
  bnd_some, Option.map_some, Option.bind_some, List.getElem?_cons_succ, List.getElem?_cons_zero, List.set_cons_succ, List.set_cons_zero, List.foldl_cons, List.foldl_nil, List.map_cons, List.map_nil, List.length_map, List.length_cons, List.length_nil, List.all_cons, List.all_nil, Bool.and_true, Bool.true_and, and_true, true_and, false_and, and_false,
  size_le, size_lt', Nat.reduceAdd, Nat.reduceLeDiff, Nat.zero_add, ne_eq, decide_eq_true_eq, Int.reduceEq, Int.reduceLT, Int.reduceLE, Int.reduceNeg, decide_true, decide_false, Bool.false_bne, Bool.true_bne, Bool.not_true, Bool.not_false, md_encT, md_encP, md_encL, md_encB, sto_encT, sto_encP, sto_encL, sto_encB, md_encG, md_encU, md_encC, sto_encG, sto_encU, sto_encC, reduceCtorEq, if_false, if_true, ite_true, ite_false, Bool.false_eq_true, *])
def bl1 : CS :=
  cAsg (tName 2) (cLst cNil)
def bl2 : CS :=
  cAsg (tName 3) (cLit (.int 0))
def bl3 : CS :=
  cFor (tName 4) (iRange1 (cBi gLen (cCons (cVar 1) cNil))) (cSeq (cAsg (tName 6) (cIx (cLst (cCons (cLit (.int 1)) (cCons (cBin Mp.gSub (cLit (.int 0)) (cLit (.int 1))) (cCons (cLit (.int 3)) (cCons (cBin Mp.gSub (cLit (.int 0)) (cLit (.int 400))) (cCons (cLit (.int 0)) cNil)))))) (cCall mDraw (cCons (cVar 0) (cCons (cLit (.int 5)) cNil)))))
  (cIfS (cB (cBin (gEq true) (cVar 6) (cLit (.int 0)))) (cSeq (cApp 2 (cTup (cCons (cVar 4) (cCons (cVar 6) cNil))))
  (cAsg (tName 3) (cBin gAdd (cVar 3) (cBin gMul (cVar 6) (cIx (cIx (cVar 1) (cVar 4)) (cLit (.int 1))))))) (cSkip)))
def bl4 : CS :=
  cAsg (tName 5) (cIx (cLst (cCons (cLit (.str "<=")) (cCons (cLit (.str ">=")) (cCons (cLit (.str "=")) cNil)))) (cCall mDraw (cCons (cVar 0) (cCons (cLit (.int 3)) cNil))))
def bl5 : CS :=
  cRet (cTup (cCons (cBi gTuple (cCons (cVar 2) cNil)) (cCons (cVar 5) (cCons (cBin gAdd (cVar 3) (cIx (cLst (cCons (cLit (.int 0)) (cCons (cLit (.int 0)) (cCons (cLit (.int 1)) (cCons (cBin Mp.gSub (cLit (.int 0)) (cLit (.int 1))) (cCons (cLit (.int 400)) cNil)))))) (cCall mDraw (cCons (cVar 0) (cCons (cLit (.int 5)) cNil))))) cNil))))
theorem bl_seq : c_law_big_linear = cSeq bl1 (cSeq bl2 (cSeq bl3 (cSeq bl4 (bl5)))) := rfl
theorem ix5 {a b c d e k : Int} (h0 : 0 ≤ k) (h1 : k < 5) : ∃ z : Int, atI [W.int a, W.int b, W.int c, W.int d, W.int e] k = some (.int z) ∧ (z = a ∨ z = b ∨ z = c ∨ z = d ∨ z = e) := by
  have : k = 0 ∨ k = 1 ∨ k = 2 ∨ k = 3 ∨ k = 4 := by omega
  rcases this with rfl | rfl | rfl | rfl | rfl
  · exact ⟨a, by rw [atI_0], by simp⟩
  · exact ⟨b, by rw [atI_1], by simp⟩
  · exact ⟨c, by rw [atI_2], by simp⟩
  · exact ⟨d, by rw [atI_3], by simp⟩
  · exact ⟨e, by rw [atI_4], by simp⟩
theorem linear_ok {n : Nat} {us : List Un} {S : Store} (tp : TapeAt n S) (h60 : us.length ≤ 60) : ∃ (ts : Tm) (r : Rl) (c : Int) (S2 : Store), m_law_big_linear [.cel n, .lst (us.map encU)] S = some ((.tup [encT ts, .str (rlS r), .int c], .own), S2) ∧ TmOk us.length ts ∧ r ≠ .ne ∧ TapeAt n S2 ∧ SameBut n S S2 := by
  unfold m_law_big_linear
  rw [cFn_run (by rfl)]
  show ∃ ts r c S2, fin (c_law_big_linear [some (.cel n, .brw), some (.lst (us.map encU), .brw), none, none, none, none, none] S) = _ ∧ _
  rw [bl_seq]
  rw [seq_nx (f := bl1) (ρ2 := [some (.cel n, .brw), some (.lst (us.map encU), .brw), some (.lst [], .own), none, none, none, none]) (S2 := S) (by unfold bl1; walk_at "ev")]
  rw [seq_nx (f := bl2) (ρ2 := [some (.cel n, .brw), some (.lst (us.map encU), .brw), some (.lst [], .own), some (.int 0, .frz), none, none, none]) (S2 := S) (by unfold bl2; walk_at "ev")]
  have hr1 : iRange1 (cBi gLen (cCons (cVar 1) cNil)) [some (.cel n, .brw), some (.lst (us.map encU), .brw), some (.lst [], .own), some (.int 0, .frz), none, none, none] S = some ((List.range us.length).map fun k : Nat => W.int ((k : Nat) : Int), S) := by
    refine rng_ok (m := .own) ?_ (by omega)
    walk_at "ev"
  obtain ⟨ρ2, S2, e2, ts, tt, x4, x6, rfl, hl, hts, tp2, sb2⟩ := for_inv (ws := (List.range us.length).map fun k : Nat => W.int ((k : Nat) : Int)) (t := (tName 4)) (b := (cSeq (cAsg (tName 6) (cIx (cLst (cCons (cLit (.int 1)) (cCons (cBin Mp.gSub (cLit (.int 0)) (cLit (.int 1))) (cCons (cLit (.int 3)) (cCons (cBin Mp.gSub (cLit (.int 0)) (cLit (.int 400))) (cCons (cLit (.int 0)) cNil)))))) (cCall mDraw (cCons (cVar 0) (cCons (cLit (.int 5)) cNil)))))
  (cIfS (cB (cBin (gEq true) (cVar 6) (cLit (.int 0)))) (cSeq (cApp 2 (cTup (cCons (cVar 4) (cCons (cVar 6) cNil))))
  (cAsg (tName 3) (cBin gAdd (cVar 3) (cBin gMul (cVar 6) (cIx (cIx (cVar 1) (cVar 4)) (cLit (.int 1))))))) (cSkip))))
    (fun i ρ S2 => ∃ (ts : Tm) (tt : Int) (x4 x6 : Option (W × Md)), ρ = [some (.cel n, .brw), some (.lst (us.map encU), .brw), some (.lst (ts.map fun p => .tup [.int p.1, .int p.2]), .own), some (.int tt, .frz), x4, none, x6] ∧ ts.length ≤ i ∧ (∀ t ∈ ts, 0 ≤ t.1 ∧ t.1 < us.length ∧ -1000 ≤ t.2 ∧ t.2 ≤ 1000) ∧ TapeAt n S2 ∧ SameBut n S S2)
    (fun i w ρ S2 hw hI => by
      obtain ⟨ts, tt, x4, x6, rfl, hl, hts, tp2, sb2⟩ := hI
      have hi : i < us.length := by
        have := (List.getElem?_eq_some_iff.mp hw).1
        simpa using this
      rw [List.getElem?_map, List.getElem?_range hi] at hw
      injection hw with hw
      subst hw
      obtain ⟨d, S3, e3, hd0, hd1, tp3, sb3⟩ := draw_ok (many := 5) tp2 (by decide) (by decide)
      obtain ⟨z, hz, hzc⟩ := ix5 (a := 1) (b := 0 - 1) (c := 3) (d := 0 - 400) (e := 0) hd0 hd1
      have hz1 : -1000 ≤ z ∧ z ≤ 1000 := by omega
      have hu := at_us hi
      have hu1 := u_1 S3 us[i]
      have hm : gMul (.int z) (.int us[i].lo) = some (.int (z * us[i].lo)) := gMul_int (.inl (by omega))
      have hsz : ts.length < sizeLine := size_lt (by omega)
      by_cases h0 : z = 0
      · refine ⟨_, [some (.cel n, .brw), some (.lst (us.map encU), .brw), some (.lst (ts.map fun p => .tup [.int p.1, .int p.2]), .own), some (.int tt, .frz), some (.int ((i : Nat) : Int), .frz), none, some (.int z, .frz)], S3, by walk_at "ev"; rfl, ?_, ts, tt, some (.int ((i : Nat) : Int), .frz), some (.int z, .frz), rfl, by omega, hts, tp3, sb2.trans sb3⟩
        have h0' : decide (z = 0) = true := decide_eq_true h0
        clear h0 hts hzc hl
        walk_at "go"
      · refine ⟨_, [some (.cel n, .brw), some (.lst (us.map encU), .brw), some (.lst ((ts ++ [(((i : Nat) : Int), z)]).map fun p => .tup [.int p.1, .int p.2]), .own), some (.int (tt + z * us[i].lo), .frz), some (.int ((i : Nat) : Int), .frz), none, some (.int z, .frz)], S3, by walk_at "ev"; rfl, ?_, ts ++ [(((i : Nat) : Int), z)], tt + z * us[i].lo, some (.int ((i : Nat) : Int), .frz), some (.int z, .frz), rfl, by rw [List.length_append]; simp only [List.length_singleton]; omega, fun t ht => ?_, tp3, sb2.trans sb3⟩
        · have h0' : decide (z = 0) = false := decide_eq_false h0
          clear h0 hts hzc hl
          walk_at "go"
          rw [List.map_append]
          rfl
        · rcases List.mem_append.mp ht with h | h
          · exact hts t h
          · rw [List.mem_singleton.mp h]
            exact ⟨by simp only; omega, by simp only; omega, hz1.1, hz1.2⟩)
    (ρ := [some (.cel n, .brw), some (.lst (us.map encU), .brw), some (.lst [], .own), some (.int 0, .frz), none, none, none]) (S := S) ⟨[], 0, none, none, rfl, Nat.le_refl _, fun _ h => absurd h List.not_mem_nil, tp, .refl⟩
  rw [List.length_map, List.length_range] at hl
  rw [seq_nx (f := bl3) (ρ2 := [some (.cel n, .brw), some (.lst (us.map encU), .brw), some (.lst (ts.map fun p => .tup [.int p.1, .int p.2]), .own), some (.int tt, .frz), x4, none, x6]) (S2 := S2) (by unfold bl3; rw [q_for, hr1]; exact e2)]
  obtain ⟨d, S3, e3, hd0, hd1, tp3, sb3⟩ := draw_ok (many := 3) tp2 (by decide) (by decide)
  obtain ⟨r, hr, hrx⟩ := rl_ix3 d hd0 hd1
  obtain ⟨k, S4, e4, hk0, hk1, tp4, sb4⟩ := draw_ok (many := 5) tp3 (by decide) (by decide)
  obtain ⟨z, hz, _⟩ := ix5 (a := 0) (b := 0) (c := 1) (d := 0 - 1) (e := 400) hk0 hk1
  rw [seq_nx (f := bl4) (ρ2 := [some (.cel n, .brw), some (.lst (us.map encU), .brw), some (.lst (ts.map fun p => .tup [.int p.1, .int p.2]), .own), some (.int tt, .frz), x4, some (.str (rlS r), .frz), x6]) (S2 := S3) (by unfold bl4; clear hts e2 hr1; walk_at "go")]
  refine ⟨ts, r, tt + z, S4, ?_, ⟨by omega, hts⟩, hr, tp4, (sb2.trans sb3).trans sb4⟩
  unfold bl5
  clear hts e2 hr1 hr
  walk_at "go"
  rfl
def ba1 : CS :=
  cAsg (tName 2) (cLst cNil)
def ba2 : CS :=
  cFor (tName 3) (iRange1 (cBin gAdd (cLit (.int 20)) (cCall mDraw (cCons (cVar 0) (cCons (cLit (.int 21)) cNil))))) (cSeq (cAsg (tName 4) (cCall mDraw (cCons (cVar 0) (cCons (cBi gLen (cCons (cVar 1) cNil)) cNil))))
  (cSeq (cAsg (tName 5) (cIx (cIx (cVar 1) (cVar 4)) (cLit (.int 1))))
  (cSeq (cAsg (tName 6) (cIx (cLst (cCons (cTup (cCons (cVar 4) (cCons (cLit (.str "=")) (cCons (cBin gAdd (cVar 5) (cLit (.int 1))) cNil)))) (cCons (cTup (cCons (cVar 4) (cCons (cLit (.str ">=")) (cCons (cBin gAdd (cVar 5) (cLit (.int 1))) cNil)))) (cCons (cTup (cCons (cVar 4) (cCons (cLit (.str "<=")) (cCons (cBin Mp.gSub (cVar 5) (cLit (.int 1))) cNil)))) (cCons (cTup (cCons (cVar 4) (cCons (cLit (.str "!=")) (cCons (cVar 5) cNil)))) cNil))))) (cCall mDraw (cCons (cVar 0) (cCons (cLit (.int 4)) cNil)))))
  (cIfS (cB (cBin (gIn true) (cVar 6) (cVar 2))) (cApp 2 (cVar 6)) (cSkip)))))
def ba3 : CS :=
  cIfS (cB (cBin (gEq false) (cCall mDraw (cCons (cVar 0) (cCons (cLit (.int 3)) cNil))) (cLit (.int 0)))) (cSetIx 2 (cCall mDraw (cCons (cVar 0) (cCons (cBi gLen (cCons (cVar 2) cNil)) cNil))) (cTup (cCons (cLit (.int 0)) (cCons (cLit (.str ">=")) (cCons (cIx (cIx (cVar 1) (cLit (.int 0))) (cLit (.int 1))) cNil))))) (cSkip)
def ba4 : CS :=
  cRet (cTup (cCons (cLit (.str "any")) (cCons (cBi gTuple (cCons (cVar 2) cNil)) cNil)))
theorem ba_seq : c_law_big_any = cSeq ba1 (cSeq ba2 (cSeq ba3 (ba4))) := rfl
theorem lit4 {v a d : Int} (h0 : 0 ≤ d) (h1 : d < 4) : ∃ l : Ltl, atI [W.tup [.int v, .str "=", .int (a + 1)], W.tup [.int v, .str ">=", .int (a + 1)], W.tup [.int v, .str "<=", .int (a - 1)], W.tup [.int v, .str "!=", .int a]] d = some (encL l) ∧ l.v = v := by
  have : d = 0 ∨ d = 1 ∨ d = 2 ∨ d = 3 := by omega
  rcases this with rfl | rfl | rfl | rfl
  · exact ⟨⟨v, .eq, a + 1⟩, by rw [atI_0]; rfl, rfl⟩
  · exact ⟨⟨v, .ge, a + 1⟩, by rw [atI_1]; rfl, rfl⟩
  · exact ⟨⟨v, .le, a - 1⟩, by rw [atI_2]; rfl, rfl⟩
  · exact ⟨⟨v, .ne, a⟩, by rw [atI_3]; rfl, rfl⟩
theorem bany_ok {n : Nat} {us : List Un} {S : Store} (tp : TapeAt n S) (h1 : 1 ≤ us.length) (h60 : us.length ≤ 60) : ∃ (ls : List Ltl) (S2 : Store), m_law_big_any [.cel n, .lst (us.map encU)] S = some ((encB (.any ls), .own), S2) ∧ BOk us.length (.any ls) ∧ TapeAt n S2 ∧ SameBut n S S2 := by
  unfold m_law_big_any
  rw [cFn_run (by rfl)]
  show ∃ ls S2, fin (c_law_big_any [some (.cel n, .brw), some (.lst (us.map encU), .brw), none, none, none, none, none] S) = _ ∧ _
  rw [ba_seq]
  rw [seq_nx (f := ba1) (ρ2 := [some (.cel n, .brw), some (.lst (us.map encU), .brw), some (.lst [], .own), none, none, none, none]) (S2 := S) (by unfold ba1; walk_at "ev")]
  obtain ⟨d, S1, e1, hd0, hd1, tp1, sb1⟩ := draw_ok (many := 21) tp (by decide) (by decide)
  obtain ⟨c, hc⟩ : ∃ c : Nat, 20 + d = ((c : Nat) : Int) := ⟨(20 + d).toNat, by omega⟩
  have hr1 : iRange1 (cBin gAdd (cLit (.int 20)) (cCall mDraw (cCons (cVar 0) (cCons (cLit (.int 21)) cNil)))) ([some (.cel n, .brw), some (.lst (us.map encU), .brw), some (.lst [], .own), none, none, none, none]) S = some ((List.range c).map fun k : Nat => W.int ((k : Nat) : Int), S1) := by
    refine rng_ok (m := .own) ?_ (by omega)
    walk_at "go"
  obtain ⟨ρ2, S2, e2, ls, x3, x4, x5, x6, rfl, hl0, hl1, hl2, tp2, sb2⟩ := for_inv (ws := (List.range c).map fun k : Nat => W.int ((k : Nat) : Int)) (t := (tName 3)) (b := (cSeq (cAsg (tName 4) (cCall mDraw (cCons (cVar 0) (cCons (cBi gLen (cCons (cVar 1) cNil)) cNil))))
  (cSeq (cAsg (tName 5) (cIx (cIx (cVar 1) (cVar 4)) (cLit (.int 1))))
  (cSeq (cAsg (tName 6) (cIx (cLst (cCons (cTup (cCons (cVar 4) (cCons (cLit (.str "=")) (cCons (cBin gAdd (cVar 5) (cLit (.int 1))) cNil)))) (cCons (cTup (cCons (cVar 4) (cCons (cLit (.str ">=")) (cCons (cBin gAdd (cVar 5) (cLit (.int 1))) cNil)))) (cCons (cTup (cCons (cVar 4) (cCons (cLit (.str "<=")) (cCons (cBin Mp.gSub (cVar 5) (cLit (.int 1))) cNil)))) (cCons (cTup (cCons (cVar 4) (cCons (cLit (.str "!=")) (cCons (cVar 5) cNil)))) cNil))))) (cCall mDraw (cCons (cVar 0) (cCons (cLit (.int 4)) cNil)))))
  (cIfS (cB (cBin (gIn true) (cVar 6) (cVar 2))) (cApp 2 (cVar 6)) (cSkip))))))
    (fun i ρ S3 => ∃ (ls : List Ltl) (x3 x4 x5 x6 : Option (W × Md)), ρ = [some (.cel n, .brw), some (.lst (us.map encU), .brw), some (.lst (ls.map encL), .own), x3, x4, x5, x6] ∧ (0 < i → ls ≠ []) ∧ ls.length ≤ i ∧ (∀ l ∈ ls, LOk us.length l) ∧ TapeAt n S3 ∧ SameBut n S S3)
    (fun i w ρ S3 hw hI => by
      obtain ⟨ls, x3, x4, x5, x6, rfl, hl0, hl1, hl2, tp3, sb3⟩ := hI
      have hi : i < c := by
        have := (List.getElem?_eq_some_iff.mp hw).1
        simpa using this
      rw [List.getElem?_map, List.getElem?_range hi] at hw
      injection hw with hw
      subst hw
      obtain ⟨v, S4, e4, hv0, hv1, tp4, sb4⟩ := draw_ok (many := ((us.length : Nat) : Int)) tp3 (by omega) (by omega)
      obtain ⟨v, rfl⟩ : ∃ k : Nat, v = ((k : Nat) : Int) := ⟨v.toNat, by omega⟩
      have hv : v < us.length := by omega
      have hu := at_us hv
      have hu1 := u_1 S4 us[v]
      obtain ⟨d, S5, e5, hd0, hd1, tp5, sb5⟩ := draw_ok (many := 4) tp4 (by decide) (by decide)
      obtain ⟨l, hl, hlv⟩ := lit4 (v := ((v : Nat) : Int)) (a := us[v].lo) hd0 hd1
      have hin := gIn_ok (neg := true) (okL l 63) (okD_lst (n := 63) (ws := ls.map encL) fun w hw => by
        obtain ⟨l, _, rfl⟩ := List.mem_map.mp hw
        exact okL l 62)
      have hsz : ls.length < sizeLine := size_lt (by omega)
      have hlk : LOk us.length l := ⟨by omega, by omega⟩
      have step : ∀ (ls2 : List Ltl), (cIfS (cB (cBin (gIn true) (cVar 6) (cVar 2))) (cApp 2 (cVar 6)) (cSkip)) [some (.cel n, .brw), some (.lst (us.map encU), .brw), some (.lst (ls.map encL), .own), some (.int ((i : Nat) : Int), .frz), some (.int ((v : Nat) : Int), .frz), some (.int us[v].lo, .frz), some (encL l, .frz)] S5 = some (.nx [some (.cel n, .brw), some (.lst (us.map encU), .brw), some (.lst (ls2.map encL), .own), some (.int ((i : Nat) : Int), .frz), some (.int ((v : Nat) : Int), .frz), some (.int us[v].lo, .frz), some (encL l, .frz)] S5) → (cSeq (cAsg (tName 4) (cCall mDraw (cCons (cVar 0) (cCons (cBi gLen (cCons (cVar 1) cNil)) cNil))))
  (cSeq (cAsg (tName 5) (cIx (cIx (cVar 1) (cVar 4)) (cLit (.int 1))))
  (cSeq (cAsg (tName 6) (cIx (cLst (cCons (cTup (cCons (cVar 4) (cCons (cLit (.str "=")) (cCons (cBin gAdd (cVar 5) (cLit (.int 1))) cNil)))) (cCons (cTup (cCons (cVar 4) (cCons (cLit (.str ">=")) (cCons (cBin gAdd (cVar 5) (cLit (.int 1))) cNil)))) (cCons (cTup (cCons (cVar 4) (cCons (cLit (.str "<=")) (cCons (cBin Mp.gSub (cVar 5) (cLit (.int 1))) cNil)))) (cCons (cTup (cCons (cVar 4) (cCons (cLit (.str "!=")) (cCons (cVar 5) cNil)))) cNil))))) (cCall mDraw (cCons (cVar 0) (cCons (cLit (.int 4)) cNil)))))
  (cIfS (cB (cBin (gIn true) (cVar 6) (cVar 2))) (cApp 2 (cVar 6)) (cSkip))))) [some (.cel n, .brw), some (.lst (us.map encU), .brw), some (.lst (ls.map encL), .own), some (.int ((i : Nat) : Int), .frz), x4, x5, x6] S3 = some (.nx [some (.cel n, .brw), some (.lst (us.map encU), .brw), some (.lst (ls2.map encL), .own), some (.int ((i : Nat) : Int), .frz), some (.int ((v : Nat) : Int), .frz), some (.int us[v].lo, .frz), some (encL l, .frz)] S5) := fun ls2 h4 => by
        rw [seq_nx (ρ2 := [some (.cel n, .brw), some (.lst (us.map encU), .brw), some (.lst (ls.map encL), .own), some (.int ((i : Nat) : Int), .frz), some (.int ((v : Nat) : Int), .frz), x5, x6]) (S2 := S4) (by clear hl2 h4; walk_at "go")]
        rw [seq_nx (ρ2 := [some (.cel n, .brw), some (.lst (us.map encU), .brw), some (.lst (ls.map encL), .own), some (.int ((i : Nat) : Int), .frz), some (.int ((v : Nat) : Int), .frz), some (.int us[v].lo, .frz), x6]) (S2 := S4) (by clear hl2 h4; walk_at "go")]
        rw [seq_nx (ρ2 := [some (.cel n, .brw), some (.lst (us.map encU), .brw), some (.lst (ls.map encL), .own), some (.int ((i : Nat) : Int), .frz), some (.int ((v : Nat) : Int), .frz), some (.int us[v].lo, .frz), some (encL l, .frz)]) (S2 := S5) (by clear hl2 h4; walk_at "go")]
        exact h4
      by_cases hb : ((ls.map encL).any fun z => eqW z (encL l)) = true
      · refine ⟨_, _, S5, by walk_at "ev", step ls ?_, ls, _, _, _, _, rfl, fun _ hn => ?_, by omega, hl2, tp5, (sb3.trans sb4).trans sb5⟩
        · rw [hb] at hin
          clear step hl2
          walk_at "go"
        · subst hn
          cases hb
      · rw [Bool.not_eq_true] at hb
        refine ⟨_, _, S5, by walk_at "ev", step (ls ++ [l]) ?_, ls ++ [l], _, _, _, _, rfl, fun _ => by simp, by rw [List.length_append]; simp only [List.length_singleton]; omega, fun l' h' => ?_, tp5, (sb3.trans sb4).trans sb5⟩
        · rw [hb] at hin
          clear step hl2
          walk_at "go"
          rw [List.map_append]
          rfl
        · rcases List.mem_append.mp h' with h' | h'
          · exact hl2 l' h'
          · rw [List.mem_singleton.mp h']; exact hlk)
    (ρ := [some (.cel n, .brw), some (.lst (us.map encU), .brw), some (.lst [], .own), none, none, none, none]) (S := S1) ⟨[], none, none, none, none, rfl, fun h => absurd h (Nat.lt_irrefl _), Nat.le_refl _, fun _ h => (by cases h), tp1, sb1⟩
  rw [List.length_map, List.length_range] at hl0 hl1
  rw [seq_nx (f := ba2) (ρ2 := [some (.cel n, .brw), some (.lst (us.map encU), .brw), some (.lst (ls.map encL), .own), x3, x4, x5, x6]) (S2 := S2) (by unfold ba2; rw [q_for, hr1]; exact e2)]
  have hne := hl0 (by omega)
  obtain ⟨z, S3, e3, hz0, hz1, tp3, sb3⟩ := draw_ok (many := 3) tp2 (by decide) (by decide)
  obtain ⟨ls2, S4, h4, hls, tp4, sb4⟩ : ∃ (ls2 : List Ltl) (S4 : Store), ba3 [some (.cel n, .brw), some (.lst (us.map encU), .brw), some (.lst (ls.map encL), .own), x3, x4, x5, x6] S2 = some (.nx [some (.cel n, .brw), some (.lst (us.map encU), .brw), some (.lst (ls2.map encL), .own), x3, x4, x5, x6] S4) ∧ BOk us.length (.any ls2) ∧ TapeAt n S4 ∧ SameBut n S S4 := by
    by_cases h0 : z = 0
    · have hpos : 0 < ls.length := List.length_pos_iff.mpr hne
      obtain ⟨q, S4, e4, hq0, hq1, tp4, sb4⟩ := draw_ok (many := ((ls.length : Nat) : Int)) tp3 (by omega) (by omega)
      have hu : atI (us.map encU) 0 = some (encU us[0]) := at_us (k := 0) h1
      have hu1 := u_1 S3 us[0]
      have hset : ∀ (ρ : Mp.Env) (S : Store) (w : W), ρ[2]? = some (some (.lst (ls.map encL), .own)) → setAt ρ S 2 (.int q) w = some (.nx (ρ.set 2 (some (.lst ((ls.map encL).set q.toNat w), .own))) S) := fun ρ S w hr => set_lst hr hq0 (by rw [List.length_map]; exact hq1)
      have hm : (ls.map encL).set q.toNat (.tup [.int 0, .str ">=", .int us[0].lo]) = (ls.set q.toNat ⟨0, .ge, us[0].lo⟩).map encL := by
        rw [List.map_set]
        rfl
      refine ⟨ls.set q.toNat ⟨0, .ge, us[0].lo⟩, S4, ?_, ⟨?_, by rw [List.length_set]; omega, fun l hl => ?_⟩, tp4, (sb2.trans sb3).trans sb4⟩
      · unfold ba3
        have h0' : decide (z = 0) = true := decide_eq_true h0
        clear h0 hl2 hne hl0 e2 hr1
        walk_at "go"
      · intro h
        have := congrArg List.length h
        rw [List.length_set, List.length_nil] at this
        omega
      · rcases List.mem_or_eq_of_mem_set hl with e | e
        · exact hl2 l e
        · rw [e]; exact ⟨Int.le_refl _, by show (0 : Int) < _; omega⟩
    · refine ⟨ls, S3, ?_, ⟨hne, by omega, hl2⟩, tp3, sb2.trans sb3⟩
      unfold ba3
      have h0' : decide (z = 0) = false := decide_eq_false h0
      clear h0 hl2 hne hl0 e2 hr1
      walk_at "go"
  rw [seq_nx h4]
  refine ⟨ls2, S4, ?_, hls, tp4, sb4⟩
  unfold ba4
  clear h4 e2 hr1 hls hl2 hl0 hne
  walk_at "ev"
  rfl
def bt_1 : CS :=
  cAsg (tName 2) (cCall mDraw (cCons (cVar 0) (cCons (cIx (cLst (cCons (cLit (.int 1)) (cCons (cBin Mp.gSub (cBi gLen (cCons (cVar 1) cNil)) (cLit (.int 5))) cNil))) (cCall mDraw (cCons (cVar 0) (cCons (cLit (.int 2)) cNil)))) cNil)))
def bt_2 : CS :=
  cAsg (tName 3) (cCall mDraw (cCons (cVar 0) (cCons (cLit (.int 6)) cNil)))
def bt_3 : CS :=
  cAsg (tName 4) (cLc (tName 8) (iRange1 (cLit (.int 6))) tYesT (cBin gAdd (cVar 2) (cBin gMod (cBi gInt (cCons (cBin gAdd (cBin gMul (cVar 8) (cLit (.int 5))) (cVar 3)) cNil)) (cLit (.int 6)))) [8])
def bt_4 : CS :=
  cFz [4] (cAsg (tName 5) (cLc (tName 10) (iVar 4) tYesT (cIx (cIx (cVar 1) (cVar 10)) (cLit (.int 1))) [10]))
def bt_5 : CS :=
  cAsg (tName 6) (cBin gAdd (cLit (.int 14)) (cCall mDraw (cCons (cVar 0) (cCons (cLit (.int 3)) cNil))))
def bt_6 : CS :=
  cAsg (tName 7) (cLst cNil)
def bt_7 : CS :=
  cFor (tName 8) (iRange1 (cBin Mp.gSub (cLit (.int 200)) (cCall mDraw (cCons (cVar 0) (cCons (cLit (.int 100)) cNil))))) (cSeq (cAsg (tName 9) (cBin gMod (cBi gInt (cCons (cVar 8) cNil)) (cLit (.int 6))))
  (cApp 7 (cBi gTuple (cCons (cBin gAdd (cBin gAdd (cSl (cVar 5) oNone (oSome (cVar 9))) (cLst (cCons (cBin Mp.gSub (cBin gAdd (cIx (cVar 5) (cVar 9)) (cBin gDiv (cVar 8) (cLit (.int 6)))) (cVar 6)) cNil))) (cSl (cVar 5) (oSome (cBin gAdd (cVar 9) (cLit (.int 1)))) oNone)) cNil))))
def bt_8 : CS :=
  cIfS (cB (cBin (gEq false) (cCall mDraw (cCons (cVar 0) (cCons (cLit (.int 3)) cNil))) (cLit (.int 0)))) (cFz [7] (cAsg (tName 7) (cLc (tName 11) (iVar 7) (cB (cBin (gEq true) (cBi gList (cCons (cVar 11) cNil)) (cVar 5))) (cVar 11) [11]))) (cSkip)
def bt_9 : CS :=
  cRet (cTup (cCons (cLit (.str "table")) (cCons (cBi gTuple (cCons (cVar 4) cNil)) (cCons (cBi gTuple (cCons (cVar 7) cNil)) cNil))))
theorem bt__seq : c_law_big_table = cSeq bt_1 (cSeq bt_2 (cSeq bt_3 (cSeq bt_4 (cSeq bt_5 (cSeq bt_6 (cSeq bt_7 (cSeq bt_8 (bt_9)))))))) := rfl
def nums (first turn : Int) : List Int := (List.range 6).map fun k : Nat => first + (((k : Nat) : Int) * 5 + turn) % 6
theorem nums_ok {n : Nat} {first turn : Int} (h0 : 0 ≤ first) (h1 : first + 5 < n) : VsOk n (nums first turn) := by
  refine ⟨by unfold nums; simp, ?_, fun v hv => ?_⟩
  · unfold nums
    rw [List.Nodup, List.pairwise_map]
    refine List.Pairwise.imp_of_mem (fun {a b} ha hb h => ?_) (List.nodup_range (n := 6))
    have := List.mem_range.mp ha
    have := List.mem_range.mp hb
    omega
  · obtain ⟨k, _, rfl⟩ := List.mem_map.mp hv
    omega
theorem t14_ok {n : Nat} {us : List Un} {S : Store} (tp : TapeAt n S) (h20 : 20 ≤ us.length) (h60 : us.length ≤ 60) (g : CS) : ∃ (first turn : Int) (pt : List Int) (S2 : Store), cSeq bt_1 (cSeq bt_2 (cSeq bt_3 (cSeq bt_4 g))) [some (.cel n, .brw), some (.lst (us.map encU), .brw), none, none, none, none, none, none, none, none, none, none] S = g [some (.cel n, .brw), some (.lst (us.map encU), .brw), some (.int first, .frz), some (.int turn, .frz), some (.lst ((nums first turn).map .int), .frz), some (.lst (pt.map .int), .own), none, none, none, none, none, none] S2 ∧
    VsOk us.length (nums first turn) ∧ pt.length = 6 ∧ TapeAt n S2 ∧ SameBut n S S2 := by
  obtain ⟨d, S1, e1, hd0, hd1, tp1, sb1⟩ := draw_ok (many := 2) tp (by decide) (by decide)
  obtain ⟨m5, hm5, hm1, hm2⟩ : ∃ m5 : Int, atI [W.int 1, W.int (((us.length : Nat) : Int) - 5)] d = some (.int m5) ∧ 0 < m5 ∧ m5 ≤ ((us.length : Nat) : Int) - 5 := by
    have : d = 0 ∨ d = 1 := by omega
    rcases this with rfl | rfl
    · exact ⟨1, by rw [atI_0], by omega, by omega⟩
    · exact ⟨_, by rw [atI_1], by omega, by omega⟩
  obtain ⟨first, S2, e2, hf0, hf1, tp2, sb2⟩ := draw_ok (many := m5) tp1 hm1 (by omega)
  obtain ⟨turn, S3, e3, ht0, ht1, tp3, sb3⟩ := draw_ok (many := 6) tp2 (by decide) (by decide)
  have hno := nums_ok (n := us.length) (turn := turn) hf0 (by omega)
  refine ⟨first, turn, (nums first turn).map (fun v => (us.getD v.toNat ⟨"", 0, 0⟩).lo), S3, ?_, hno, by unfold nums; simp, tp3, (sb1.trans sb2).trans sb3⟩
  rw [seq_nx (f := bt_1) (ρ2 := [some (.cel n, .brw), some (.lst (us.map encU), .brw), some (.int first, .frz), none, none, none, none, none, none, none, none, none]) (S2 := S2) (by unfold bt_1; clear hno; walk_at "go")]
  rw [seq_nx (f := bt_2) (ρ2 := [some (.cel n, .brw), some (.lst (us.map encU), .brw), some (.int first, .frz), some (.int turn, .frz), none, none, none, none, none, none, none, none]) (S2 := S3) (by unfold bt_2; clear hno; walk_at "go")]
  have hr1 : iRange1 (cLit (.int 6)) [some (.cel n, .brw), some (.lst (us.map encU), .brw), some (.int first, .frz), some (.int turn, .frz), none, none, none, none, none, none, none, none] S3 = some ((List.range 6).map fun k : Nat => W.int ((k : Nat) : Int), S3) := by
    refine rng_ok (n := 6) (m := .frz) rfl (by decide)
  rw [seq_nx (f := bt_3) (ρ2 := [some (.cel n, .brw), some (.lst (us.map encU), .brw), some (.int first, .frz), some (.int turn, .frz), some (.lst ((nums first turn).map .int), .own), none, none, none, none, none, none, none]) (S2 := S3) (by
    unfold bt_3
    rw [q_asg, q_lc, hr1]
    dsimp only [bnd_some]
    rw [if_pos (size_ok (by simp))]
    rw [lc_map (enc := fun k : Nat => W.int ((k : Nat) : Int)) (g := fun k : Nat => W.int (first + (((k : Nat) : Int) * 5 + turn) % 6)) fun k hk => ⟨_, .own, by walk_at "ev"; rfl, rfl, by
      have hm : gMul (.int ((k : Nat) : Int)) (.int 5) = some (.int (((k : Nat) : Int) * 5)) := gMul_int (.inr (by omega))
      have hm2 : gMod (.int (((k : Nat) : Int) * 5 + turn)) (.int 6) = some (.int ((((k : Nat) : Int) * 5 + turn) % 6)) := gMod_int (by omega)
      clear hno hr1 hk
      walk_at "go", rfl⟩]
    walk_at "ev"
    unfold nums
    rw [List.map_map]
    rfl)]
  rw [seq_nx (f := bt_4) (ρ2 := [some (.cel n, .brw), some (.lst (us.map encU), .brw), some (.int first, .frz), some (.int turn, .frz), some (.lst ((nums first turn).map .int), .frz), some (.lst (((nums first turn).map (fun v => (us.getD v.toNat ⟨"", 0, 0⟩).lo)).map .int), .own), none, none, none, none, none, none]) (S2 := S3) (by
    unfold bt_4
    rw [q_fz, show [4].foldl frzE [some (.cel n, .brw), some (.lst (us.map encU), .brw), some (.int first, .frz), some (.int turn, .frz), some (.lst ((nums first turn).map .int), .own), none, none, none, none, none, none, none] = [some (.cel n, .brw), some (.lst (us.map encU), .brw), some (.int first, .frz), some (.int turn, .frz), some (.lst ((nums first turn).map .int), .frz), none, none, none, none, none, none, none] from rfl]
    walk_at "ev"
    rw [if_pos (size_ok (by have := hno.1; omega))]
    rw [lc_map (enc := W.int) (g := fun v : Int => W.int (us.getD v.toNat ⟨"", 0, 0⟩).lo) fun v hv => ⟨_, .frz, by walk_at "ev"; rfl, rfl, by
      obtain ⟨hv0, hv1⟩ := hno.2.2 v hv
      have hu : atI (us.map encU) v = some (encU (us.getD v.toNat ⟨"", 0, 0⟩)) := by
        rw [atI_of hv0, List.getElem?_map, List.getElem?_eq_getElem (by omega), List.getD_eq_getElem?_getD, List.getElem?_eq_getElem (by omega)]
        rfl
      have hu1 := u_1 S3 (us.getD v.toNat ⟨"", 0, 0⟩)
      generalize us.getD v.toNat ⟨"", 0, 0⟩ = u at *
      clear hno hv
      walk_at "go", rfl⟩]
    walk_at "ev"
    rw [List.map_map]
    rfl)]
theorem sl_L (p : List Int) (lo hi : Option Int) : gSl (.lst (p.map .int)) lo hi = some (.lst ((cutW p lo hi).map .int)) := by
  show some (W.lst _) = some (W.lst _)
  rw [cut_map]
theorem add_L (p q : List Int) (h : p.length + q.length ≤ 1000) : gAdd (.lst (p.map .int)) (.lst (q.map .int)) = some (.lst ((p ++ q).map .int)) := by
  show (if _ ≤ sizeLine then some (W.lst _) else none) = some (W.lst _)
  rw [if_pos (size_ok (by rw [List.length_map, List.length_map]; omega)), List.map_append]
theorem cut_lo {A : Type} (xs : List A) (w : Nat) (h : w < xs.length) : (cutW xs none (some ((w : Nat) : Int))).length = w := by
  unfold cutW
  rw [HT.sIx_none, HT.sIx_nat, List.length_take, List.length_drop]
  omega
theorem cut_hi {A : Type} (xs : List A) (w : Nat) (h : w < xs.length) : (cutW xs (some (((w : Nat) : Int) + 1)) none).length = xs.length - (w + 1) := by
  unfold cutW
  have e : ((w : Nat) : Int) + 1 = ((w + 1 : Nat) : Int) := by omega
  rw [e, HT.sIx_nat, List.length_take, List.length_drop, HT.sIx_none]
  omega
theorem btab_ok {n : Nat} {us : List Un} {S : Store} (tp : TapeAt n S) (h20 : 20 ≤ us.length) (h60 : us.length ≤ 60) : ∃ (vs : List Int) (rows : List (List Int)) (S2 : Store), m_law_big_table [.cel n, .lst (us.map encU)] S = some ((encB (.tab vs rows), .own), S2) ∧ BOk us.length (.tab vs rows) ∧ TapeAt n S2 ∧ SameBut n S S2 := by
  unfold m_law_big_table
  rw [cFn_run (by rfl)]
  show ∃ vs rows S2, fin (c_law_big_table [some (.cel n, .brw), some (.lst (us.map encU), .brw), none, none, none, none, none, none, none, none, none, none] S) = _ ∧ _
  rw [bt__seq]
  obtain ⟨first, turn, pt, S2, e2, hno, hpt, tp2, sb2⟩ := t14_ok tp h20 h60 (cSeq bt_5 (cSeq bt_6 (cSeq bt_7 (cSeq bt_8 bt_9))))
  rw [e2]
  clear e2
  obtain ⟨d, S3, e3, hd0, hd1, tp3, sb3⟩ := draw_ok (many := 3) tp2 (by decide) (by decide)
  obtain ⟨sh, hsh⟩ : ∃ sh : Int, 14 + d = sh := ⟨_, rfl⟩
  rw [seq_nx (f := bt_5) (ρ2 := [some (.cel n, .brw), some (.lst (us.map encU), .brw), some (.int first, .frz), some (.int turn, .frz), some (.lst ((nums first turn).map .int), .frz), some (.lst (pt.map .int), .own), some (.int sh, .frz), none, none, none, none, none]) (S2 := S3) (by unfold bt_5; clear hno; walk_at "go")]
  rw [seq_nx (f := bt_6) (ρ2 := [some (.cel n, .brw), some (.lst (us.map encU), .brw), some (.int first, .frz), some (.int turn, .frz), some (.lst ((nums first turn).map .int), .frz), some (.lst (pt.map .int), .own), some (.int sh, .frz), some (.lst [], .own), none, none, none, none]) (S2 := S3) (by unfold bt_6; clear hno; walk_at "ev")]
  obtain ⟨q, S4, e4, hq0, hq1, tp4, sb4⟩ := draw_ok (many := 100) tp3 (by decide) (by decide)
  obtain ⟨c, hc⟩ : ∃ c : Nat, 200 - q = ((c : Nat) : Int) := ⟨(200 - q).toNat, by omega⟩
  have hr1 : iRange1 (cBin Mp.gSub (cLit (.int 200)) (cCall mDraw (cCons (cVar 0) (cCons (cLit (.int 100)) cNil)))) [some (.cel n, .brw), some (.lst (us.map encU), .brw), some (.int first, .frz), some (.int turn, .frz), some (.lst ((nums first turn).map .int), .frz), some (.lst (pt.map .int), .own), some (.int sh, .frz), some (.lst [], .own), none, none, none, none] S3 = some ((List.range c).map fun k : Nat => W.int ((k : Nat) : Int), S4) := by
    refine rng_ok (m := .own) ?_ (by omega)
    clear hno
    walk_at "go"
  obtain ⟨ρ2, S5, e5, rows, x8, x9, rfl, hl, hrows, rfl⟩ := for_inv (ws := (List.range c).map fun k : Nat => W.int ((k : Nat) : Int)) (t := (tName 8)) (b := (cSeq (cAsg (tName 9) (cBin gMod (cBi gInt (cCons (cVar 8) cNil)) (cLit (.int 6))))
  (cApp 7 (cBi gTuple (cCons (cBin gAdd (cBin gAdd (cSl (cVar 5) oNone (oSome (cVar 9))) (cLst (cCons (cBin Mp.gSub (cBin gAdd (cIx (cVar 5) (cVar 9)) (cBin gDiv (cVar 8) (cLit (.int 6)))) (cVar 6)) cNil))) (cSl (cVar 5) (oSome (cBin gAdd (cVar 9) (cLit (.int 1)))) oNone)) cNil)))))
    (fun i ρ S5 => ∃ (rows : List (List Int)) (x8 x9 : Option (W × Md)), ρ = [some (.cel n, .brw), some (.lst (us.map encU), .brw), some (.int first, .frz), some (.int turn, .frz), some (.lst ((nums first turn).map .int), .frz), some (.lst (pt.map .int), .own), some (.int sh, .frz), some (.lst (rows.map encP), .own), x8, x9, none, none] ∧ rows.length = i ∧ (∀ row ∈ rows, row.length = 6) ∧ S5 = S4)
    (fun i w ρ S5 hw hI => by
      obtain ⟨rows, x8, x9, rfl, hl, hrows, rfl⟩ := hI
      have hi : i < c := by
        have := (List.getElem?_eq_some_iff.mp hw).1
        simpa using this
      rw [List.getElem?_map, List.getElem?_range hi] at hw
      injection hw with hw
      subst hw
      have hat : ((i : Nat) : Int) % 6 = ((i % 6 : Nat) : Int) := by omega
      have hm2 : gMod (.int ((i : Nat) : Int)) (.int 6) = some (.int ((i % 6 : Nat) : Int)) := by rw [gMod_int (by omega), hat]
      have hlt : i % 6 < pt.length := by omega
      generalize i % 6 = a at hm2 hlt
      have h1 := sl_L pt none (some ((a : Nat) : Int))
      have h2 := sl_L pt (some (((a : Nat) : Int) + 1)) none
      have l1 := cut_lo pt a hlt
      have l2 := cut_hi pt a hlt
      generalize cutW pt none (some ((a : Nat) : Int)) = p1 at *
      generalize cutW pt (some (((a : Nat) : Int) + 1)) none = p2 at *
      have h3 : atI (pt.map W.int) ((a : Nat) : Int) = some (.int (pt.getD a 0)) := at_vs S5 hlt
      have h4 : gDiv (.int ((i : Nat) : Int)) (.int 6) = some (.int (((i : Nat) : Int) / 6)) := gDiv_int (by omega) (by omega)
      obtain ⟨x, hx⟩ : ∃ x, pt.getD a 0 + ((i : Nat) : Int) / 6 - sh = x := ⟨_, rfl⟩
      have h5 : gAdd (.lst (p1.map W.int)) (.lst [.int x]) = some (.lst ((p1 ++ [x]).map .int)) := add_L p1 [x] (by simp only [List.length_singleton]; omega)
      have h6 : gAdd (.lst ((p1 ++ [x]).map W.int)) (.lst (p2.map .int)) = some (.lst (((p1 ++ [x]) ++ p2).map .int)) := add_L (p1 ++ [x]) p2 (by rw [List.length_append]; simp only [List.length_singleton]; omega)
      have hsz : rows.length < sizeLine := size_lt (by omega)
      refine ⟨_, [some (.cel n, .brw), some (.lst (us.map encU), .brw), some (.int first, .frz), some (.int turn, .frz), some (.lst ((nums first turn).map .int), .frz), some (.lst (pt.map .int), .own), some (.int sh, .frz), some (.lst ((rows ++ [(p1 ++ [x]) ++ p2]).map encP), .own), some (.int ((i : Nat) : Int), .frz), some (.int ((a : Nat) : Int), .frz), none, none], S5, by walk_at "ev"; rfl, ?_, rows ++ [(p1 ++ [x]) ++ p2], _, _, rfl, by rw [List.length_append, hl]; rfl, fun row hrow => ?_, rfl⟩
      · rw [seq_nx (ρ2 := [some (.cel n, .brw), some (.lst (us.map encU), .brw), some (.int first, .frz), some (.int turn, .frz), some (.lst ((nums first turn).map .int), .frz), some (.lst (pt.map .int), .own), some (.int sh, .frz), some (.lst (rows.map encP), .own), some (.int ((i : Nat) : Int), .frz), some (.int ((a : Nat) : Int), .frz), none, none]) (S2 := S5) (by clear hno hrows hl hr1 hat; walk_at "go")]
        clear hno hrows hl hr1 hat l1 l2 hlt
        walk_at "go"
        rw [List.map_append (f := encP)]
        rfl
      · rcases List.mem_append.mp hrow with h | h
        · exact hrows row h
        · rw [List.mem_singleton.mp h, List.length_append, List.length_append, l1, l2]
          simp only [List.length_singleton]
          omega)
    (ρ := [some (.cel n, .brw), some (.lst (us.map encU), .brw), some (.int first, .frz), some (.int turn, .frz), some (.lst ((nums first turn).map .int), .frz), some (.lst (pt.map .int), .own), some (.int sh, .frz), some (.lst [], .own), none, none, none, none]) (S := S4) ⟨[], none, none, rfl, rfl, fun _ h => absurd h List.not_mem_nil, rfl⟩
  rw [List.length_map, List.length_range] at hl
  rw [seq_nx (f := bt_7) (ρ2 := [some (.cel n, .brw), some (.lst (us.map encU), .brw), some (.int first, .frz), some (.int turn, .frz), some (.lst ((nums first turn).map .int), .frz), some (.lst (pt.map .int), .own), some (.int sh, .frz), some (.lst (rows.map encP), .own), x8, x9, none, none]) (S2 := S5) (by unfold bt_7; rw [q_for, hr1]; exact e5)]
  obtain ⟨z, S6, e6, hz0, hz1, tp6, sb6⟩ := draw_ok (many := 3) tp4 (by decide) (by decide)
  have fin9 : ∀ (rows : List (List Int)) (m : Md) (x11 : Option (W × Md)), fin (bt_9 [some (.cel n, .brw), some (.lst (us.map encU), .brw), some (.int first, .frz), some (.int turn, .frz), some (.lst ((nums first turn).map .int), .frz), some (.lst (pt.map .int), .own), some (.int sh, .frz), some (.lst (rows.map encP), m), x8, x9, none, x11] S6) = some ((encB (.tab (nums first turn) rows), .own), S6) := fun rows m x11 => by
    unfold bt_9
    cases m <;> walk_at "ev" <;> rfl
  by_cases h0 : z = 0
  · refine ⟨nums first turn, rows.filter fun row => true != eqW (.lst (row.map .int)) (.lst (pt.map .int)), S6, ?_, ⟨hno, by have := List.length_filter_le (fun row => true != eqW (.lst (row.map .int)) (.lst (pt.map .int))) rows; omega, fun row h => ?_⟩, tp6, ((sb2.trans sb3).trans sb4).trans sb6⟩
    · rw [seq_nx (f := bt_8) (ρ2 := [some (.cel n, .brw), some (.lst (us.map encU), .brw), some (.int first, .frz), some (.int turn, .frz), some (.lst ((nums first turn).map .int), .frz), some (.lst (pt.map .int), .own), some (.int sh, .frz), some (.lst ((rows.filter fun row => true != eqW (.lst (row.map .int)) (.lst (pt.map .int))).map encP), .own), x8, x9, none, none]) (S2 := S6) (by
        unfold bt_8
        have h0' : decide (z = 0) = true := decide_eq_true h0
        clear h0 hno hrows hr1 e5 fin9
        rw [q_ifS]
        have e7 : (cB (cBin (gEq false) (cCall mDraw (cCons (cVar 0) (cCons (cLit (.int 3)) cNil))) (cLit (.int 0)))) [some (.cel n, .brw), some (.lst (us.map encU), .brw), some (.int first, .frz), some (.int turn, .frz), some (.lst ((nums first turn).map .int), .frz), some (.lst (pt.map .int), .own), some (.int sh, .frz), some (.lst (rows.map encP), .own), x8, x9, none, none] S5 = some (true, S6) := by walk_at "go"
        rw [e7]
        simp only [bnd_some, if_true]
        rw [q_fz, show [7].foldl frzE [some (.cel n, .brw), some (.lst (us.map encU), .brw), some (.int first, .frz), some (.int turn, .frz), some (.lst ((nums first turn).map .int), .frz), some (.lst (pt.map .int), .own), some (.int sh, .frz), some (.lst (rows.map encP), .own), x8, x9, none, none] = [some (.cel n, .brw), some (.lst (us.map encU), .brw), some (.int first, .frz), some (.int turn, .frz), some (.lst ((nums first turn).map .int), .frz), some (.lst (pt.map .int), .own), some (.int sh, .frz), some (.lst (rows.map encP), .frz), x8, x9, none, none] from rfl]
        rw [q_asg, q_lc]
        walk_at "ev"
        rw [if_pos (size_ok (by omega))]
        rw [lc_filter (enc := encP) (g := encP) (p := fun row => true != eqW (.lst (row.map .int)) (.lst (pt.map .int))) fun row h => ⟨_, .frz, by walk_at "ev"; rfl, by
          have g1 : gList S6 [encP row] = some (.lst (row.map .int)) := rfl
          have g2 := gEq_ok (neg := true) (okPs row) (okPs pt)
          clear h
          walk_at "go", fun _ => ⟨by walk_at "ev", rfl⟩⟩]
        walk_at "ev")]
      exact fin9 _ .own _
    · have := hno
      rw [hrows row (List.mem_filter.mp h).1]
      unfold nums
      simp
  · refine ⟨nums first turn, rows, S6, ?_, ⟨hno, by omega, fun row h => by rw [hrows row h]; unfold nums; simp⟩, tp6, ((sb2.trans sb3).trans sb4).trans sb6⟩
    rw [seq_nx (f := bt_8) (ρ2 := [some (.cel n, .brw), some (.lst (us.map encU), .brw), some (.int first, .frz), some (.int turn, .frz), some (.lst ((nums first turn).map .int), .frz), some (.lst (pt.map .int), .own), some (.int sh, .frz), some (.lst (rows.map encP), .own), x8, x9, none, none]) (S2 := S6) (by
      unfold bt_8
      have h0' : decide (z = 0) = false := decide_eq_false h0
      clear h0 hno hrows hr1 e5 fin9
      walk_at "go")]
    exact fin9 _ .own _
end Lg
/-! big bodies as the laws draw them (printed by mklp.py) -/
namespace Lg
open PySem PySem.Spec PyProof.Rows L2 Mp
local macro_rules | `(tactic| walk_at "ev") => `(tactic| simp -implicitDefEqProofs only [q_lit, q_nil, q_cons, q_var, q_bin, q_tup, q_lst, q_box, q_neg, q_notT, q_andT, q_orT, q_notV, q_andV, q_orV, q_if, q_B, q_ix, q_call, q_bi, q_sl, q_oNone, q_oSome, q_dk, q_dt, q_yesT, q_get2,
  q_lc, q_iExp, q_iVar, q_iEnV, items_tup, items_lst, q_seq, q_skip, q_ret, q_retV, q_ifS, q_asg, q_drop, q_for, q_tName, q_tTup, q_tCons, q_tNil, q_fz, q_frzE, q_app, q_aug, q_setIx, q_wipe0, q_wipe, fin_rt, fin_nx,
  mut_non, mut_bl, mut_int, mut_str, mut_tup, mut_lst, mut_dk, mut_dt, mut_scr, mut_cel, sto_non, sto_bl, sto_int, sto_str, sto_tup, sto_scr, sto_cel, sto_own, sto_frz, md_non, md_bl, md_int, md_str, md_tup, md_lst, md_dk, md_dt, md_scr, md_cel,
  gAdd_int, gAddI_int, gSub_int, gLt_int, gLe_int, gGt_int, gGe_int, gInt_int, gInt_bl, gLen_tup, gLen_lst, gTuple_lst, gTuple_tup, gList_scr, gList_lst, gList_tup, gIx_tup, gIx_lst, gEq_int, gEq_bl, atI_0, atI_1, atI_2, atI_3, atI_4,
  bnd_some, Option.map_some, Option.bind_some, List.getElem?_cons_succ, List.getElem?_cons_zero, List.set_cons_succ, List.set_cons_zero, List.foldl_cons, List.foldl_nil, List.map_cons, List.map_nil, List.length_map, List.length_cons, List.length_nil, List.all_cons, List.all_nil, Bool.and_true, Bool.true_and, and_true, true_and, false_and, and_false,
  size_le, size_lt', Nat.reduceAdd, Nat.reduceLeDiff, Nat.zero_add, ne_eq, decide_eq_true_eq, Int.reduceEq, Int.reduceLT, Int.reduceLE, Int.reduceNeg, decide_true, decide_false, Bool.false_bne, Bool.true_bne, Bool.not_true, Bool.not_false, md_encT, md_encP, md_encL, md_encB, sto_encT, sto_encP, sto_encL, sto_encB, md_encG, md_encU, md_encC, sto_encG, sto_encU, sto_encC, reduceCtorEq, if_false, if_true, ite_true, ite_false, Bool.false_eq_true])
local macro_rules | `(tactic| walk_at "go") => `(tactic| simp -implicitDefEqProofs only [q_lit, q_nil, q_cons, q_var, q_bin, q_tup, q_lst, q_box, q_neg, q_notT, q_andT, q_orT, q_notV, q_andV, q_orV, q_if, q_B, q_ix, q_call, q_bi, q_sl, q_oNone, q_oSome, q_dk, q_dt, q_yesT, q_get2,
  q_lc, q_iExp, q_iVar, q_iEnV, items_tup, items_lst, q_seq, q_skip, q_ret, q_retV, q_ifS, q_asg, q_drop, q_for, q_tName, q_tTup, q_tCons, q_tNil, q_fz, q_frzE, q_app, q_aug, q_setIx, q_wipe0, q_wipe, fin_rt, fin_nx,
  mut_non, mut_bl, mut_int, mut_str, mut_tup, mut_lst, mut_dk, mut_dt, mut_scr, mut_cel, sto_non, sto_bl, sto_int, sto_str, sto_tup, sto_scr, sto_cel, sto_own, sto_frz, md_non, md_bl, md_int, md_str, md_tup, md_lst, md_dk, md_dt, md_scr, md_cel,
  gAdd_int, gAddI_int, gSub_int, gLt_int, gLe_int, gGt_int, gGe_int, gInt_int, gInt_bl, gLen_tup, gLen_lst, gTuple_lst, gTuple_tup, gList_scr, gList_lst, gList_tup, gIx_tup, gIx_lst, gEq_int, gEq_bl, atI_0, atI_1, atI_2, atI_3, atI_4,
  bnd_some, Option.map_some, Option.bind_some, List.getElem?_cons_succ, List.getElem?_cons_zero, List.set_cons_succ, List.set_cons_zero, List.foldl_cons, List.foldl_nil, List.map_cons, List.map_nil, List.length_map, List.length_cons, List.length_nil, List.all_cons, List.all_nil, Bool.and_true, Bool.true_and, and_true, true_and, false_and, and_false,
  size_le, size_lt', Nat.reduceAdd, Nat.reduceLeDiff, Nat.zero_add, ne_eq, decide_eq_true_eq, Int.reduceEq, Int.reduceLT, Int.reduceLE, Int.reduceNeg, decide_true, decide_false, Bool.false_bne, Bool.true_bne, Bool.not_true, Bool.not_false, md_encT, md_encP, md_encL, md_encB, sto_encT, sto_encP, sto_encL, sto_encB, md_encG, md_encU, md_encC, sto_encG, sto_encU, sto_encC, reduceCtorEq, if_false, if_true, ite_true, ite_false, Bool.false_eq_true, *])
def gb1 : CS :=
  cAsg (tName 2) (cBi gLen (cCons (cVar 1) cNil))
def gb2 : CS :=
  cAsg (tName 3) (cCall mDraw (cCons (cVar 0) (cCons (cLit (.int 8)) cNil)))
def gt3 : CT :=
  (cB (cBin (gEq false) (cVar 3) (cLit (.int 0))))
def gb3 : CS :=
  cRet (cCall m_law_big_any (cCons (cVar 0) (cCons (cVar 1) cNil)))
def gt4 : CT :=
  (cB (cBin (gEq false) (cVar 3) (cLit (.int 1))))
def gb4 : CS :=
  cRet (cCall m_law_big_table (cCons (cVar 0) (cCons (cVar 1) cNil)))
def gt5 : CT :=
  (cB (cBin (gEq false) (cVar 3) (cLit (.int 2))))
def gb5 : CS :=
  cRet (cTup (cCons (cLit (.str "different")) (cCons (cSl (cCall m_law_some (cCons (cVar 0) (cCons (cVar 2) (cCons (cBi gMin2 (cCons (cLit (.int 20)) (cCons (cVar 2) cNil))) cNil)))) oNone (oSome (cLit (.int 20)))) cNil)))
def gt6 : CT :=
  (cB (cBin (gEq false) (cVar 3) (cLit (.int 3))))
def gb6 : CS :=
  cSeq (cAsg (tName 6) (cBi gTuple (cCons (cLc (tName 10) (iRange1 (cLit (.int 60))) tYesT (cBin gMod (cBi gInt (cCons (cBin gMul (cVar 10) (cLit (.int 7))) cNil)) (cLit (.int 11))) [10]) cNil)))
  (cRet (cTup (cCons (cLit (.str "element")) (cCons (cLit (.int 0)) (cCons (cVar 6) (cCons (cIx (cLst (cCons (cLit (.int 4)) (cCons (cLit (.int 4)) (cCons (cCall mDraw (cCons (cVar 0) (cCons (cVar 2) cNil))) cNil)))) (cCall mDraw (cCons (cVar 0) (cCons (cLit (.int 3)) cNil)))) cNil))))))
def gt7 : CT :=
  (cB (cBin (gEq false) (cVar 3) (cLit (.int 4))))
def gb7 : CS :=
  cRet (cTup (cCons (cLit (.str "times")) (cCons (cLit (.int 1)) (cCons (cLit (.int 2)) (cCons (cIx (cLst (cCons (cLit (.int 3)) (cCons (cLit (.int 3)) (cCons (cCall mDraw (cCons (cVar 0) (cCons (cVar 2) cNil))) cNil)))) (cCall mDraw (cCons (cVar 0) (cCons (cLit (.int 3)) cNil)))) cNil)))))
def gb8 : CS :=
  cAsg (tTup 3 (tCons (tName 7) (tCons (tName 8) (tCons (tName 9) tNil)))) (cCall m_law_big_linear (cCons (cVar 0) (cCons (cVar 1) cNil)))
def gt9 : CT :=
  (cB (cBin gGt (cVar 3) (cLit (.int 5))))
def gb9 : CS :=
  cRet (cTup (cCons (cLit (.str "row")) (cCons (cVar 7) (cCons (cVar 8) (cCons (cVar 9) cNil)))))
def gb10 : CS :=
  cAsg (tName 4) (cCall mDraw (cCons (cVar 0) (cCons (cVar 2) cNil)))
def gb11 : CS :=
  cAsg (tName 5) (cBin Mp.gSub (cBin gAdd (cIx (cIx (cVar 1) (cVar 4)) (cLit (.int 1))) (cCall mDraw (cCons (cVar 0) (cCons (cLit (.int 3)) cNil)))) (cLit (.int 1)))
def gb12 : CS :=
  cRet (cTup (cCons (cLit (.str "when")) (cCons (cTup (cCons (cVar 4) (cCons (cIx (cLst (cCons (cLit (.str "<=")) (cCons (cLit (.str ">=")) (cCons (cLit (.str "=")) (cCons (cLit (.str "!=")) cNil))))) (cCall mDraw (cCons (cVar 0) (cCons (cLit (.int 4)) cNil)))) (cCons (cVar 5) cNil)))) (cCons (cVar 7) (cCons (cVar 8) (cCons (cVar 9) cNil))))))
theorem bbody_seq : c_law_big_body = cSeq gb1 (cSeq gb2 (cSeq (cIfS gt3 gb3 cSkip) (cSeq (cIfS gt4 gb4 cSkip) (cSeq (cIfS gt5 gb5 cSkip) (cSeq (cIfS gt6 gb6 cSkip) (cSeq (cIfS gt7 gb7 cSkip) (cSeq gb8 (cSeq (cIfS gt9 gb9 cSkip) (cSeq gb10 (cSeq gb11 (gb12))))))))))) := rfl
theorem pick3 {v d : Int} {n : Nat} {k : Int} (hv0 : 0 ≤ v) (hv1 : v < n) (hk0 : 0 ≤ k) (hk1 : k < n) (h0 : 0 ≤ d) (h1 : d < 3) : ∃ z : Int, atI [W.int k, W.int k, W.int v] d = some (.int z) ∧ 0 ≤ z ∧ z < n := by
  have : d = 0 ∨ d = 1 ∨ d = 2 := by omega
  rcases this with rfl | rfl | rfl
  · exact ⟨k, by rw [atI_0], hk0, hk1⟩
  · exact ⟨k, by rw [atI_1], hk0, hk1⟩
  · exact ⟨v, by rw [atI_2], hv0, hv1⟩
theorem gb3_ok {n : Nat} {us : List Un} {S : Store} (tp : TapeAt n S) (h20 : 20 ≤ us.length) (h60 : us.length ≤ 60) : ∃ b S2, gb3 [some (.cel n, .brw), some (.lst (us.map encU), .brw), some (.int ((us.length : Nat) : Int), .frz), some (.int 0, .frz), none, none, none, none, none, none, none] S = some (.rt (encB b, .own) S2) ∧ BOk us.length b ∧ TapeAt n S2 ∧ SameBut n S S2 := by
  obtain ⟨ls, S2, e, hb, tp2, sb2⟩ := bany_ok tp (by omega) h60
  refine ⟨.any ls, S2, ?_, hb, tp2, sb2⟩
  unfold gb3
  clear hb
  walk_at "go"
theorem gb4_ok {n : Nat} {us : List Un} {S : Store} (tp : TapeAt n S) (h20 : 20 ≤ us.length) (h60 : us.length ≤ 60) : ∃ b S2, gb4 [some (.cel n, .brw), some (.lst (us.map encU), .brw), some (.int ((us.length : Nat) : Int), .frz), some (.int 1, .frz), none, none, none, none, none, none, none] S = some (.rt (encB b, .own) S2) ∧ BOk us.length b ∧ TapeAt n S2 ∧ SameBut n S S2 := by
  obtain ⟨vs, rows, S2, e, hb, tp2, sb2⟩ := btab_ok tp h20 h60
  refine ⟨.tab vs rows, S2, ?_, hb, tp2, sb2⟩
  unfold gb4
  clear hb
  walk_at "go"
theorem gb5_ok {n : Nat} {us : List Un} {S : Store} (tp : TapeAt n S) (h20 : 20 ≤ us.length) (h60 : us.length ≤ 60) : ∃ b S2, gb5 [some (.cel n, .brw), some (.lst (us.map encU), .brw), some (.int ((us.length : Nat) : Int), .frz), some (.int 2, .frz), none, none, none, none, none, none, none] S = some (.rt (encB b, .own) S2) ∧ BOk us.length b ∧ TapeAt n S2 ∧ SameBut n S S2 := by
  obtain ⟨vs, S2, e, ⟨ws, hp⟩, hl, tp2, sb2⟩ := some_ok (least := 20) tp h60 (by omega) (by omega)
  refine ⟨.dif (vs.take 20), S2, ?_, (VsOk.of hp h60).take 20, tp2, sb2⟩
  have hm : ∀ S, gMin2 S [.int 20, .int ((us.length : Nat) : Int)] = some (.int 20) := fun S => by
    show some (W.int _) = _
    rw [if_neg (by omega)]
  have hsl : gSl (encP vs) none (some 20) = some (encP (vs.take 20)) := sl_take vs 20
  unfold gb5
  clear hp hl
  walk_at "go"
  rfl
theorem gb7_ok {n : Nat} {us : List Un} {S : Store} (tp : TapeAt n S) (h20 : 20 ≤ us.length) (h60 : us.length ≤ 60) : ∃ b S2, gb7 [some (.cel n, .brw), some (.lst (us.map encU), .brw), some (.int ((us.length : Nat) : Int), .frz), some (.int 4, .frz), none, none, none, none, none, none, none] S = some (.rt (encB b, .own) S2) ∧ BOk us.length b ∧ TapeAt n S2 ∧ SameBut n S S2 := by
  obtain ⟨v, S2, e, hv0, hv1, tp2, sb2⟩ := draw_ok (many := ((us.length : Nat) : Int)) tp (by omega) (by omega)
  obtain ⟨d, S3, e3, hd0, hd1, tp3, sb3⟩ := draw_ok (many := 3) tp2 (by decide) (by decide)
  obtain ⟨z, hz, hz0, hz1⟩ := pick3 (k := 3) hv0 hv1 (by omega) (by omega) hd0 hd1
  refine ⟨.tim 1 2 z, S3, ?_, ⟨by omega, by omega, by omega⟩, tp3, sb2.trans sb3⟩
  unfold gb7
  walk_at "go"
  rfl
theorem gb6_ok {n : Nat} {us : List Un} {S : Store} (tp : TapeAt n S) (h20 : 20 ≤ us.length) (h60 : us.length ≤ 60) : ∃ b S2, gb6 [some (.cel n, .brw), some (.lst (us.map encU), .brw), some (.int ((us.length : Nat) : Int), .frz), some (.int 3, .frz), none, none, none, none, none, none, none] S = some (.rt (encB b, .own) S2) ∧ BOk us.length b ∧ TapeAt n S2 ∧ SameBut n S S2 := by
  obtain ⟨v, S2, e, hv0, hv1, tp2, sb2⟩ := draw_ok (many := ((us.length : Nat) : Int)) tp (by omega) (by omega)
  obtain ⟨d, S3, e3, hd0, hd1, tp3, sb3⟩ := draw_ok (many := 3) tp2 (by decide) (by decide)
  obtain ⟨z, hz, hz0, hz1⟩ := pick3 (k := 4) hv0 hv1 (by omega) (by omega) hd0 hd1
  obtain ⟨es, hes⟩ : ∃ es : List Int, es = (List.range 60).map fun k : Nat => ((k : Nat) : Int) * 7 % 11 := ⟨_, rfl⟩
  have hel : es.length = 60 := by rw [hes]; simp
  refine ⟨.ele 0 es z, S3, ?_, ⟨by omega, ⟨hz0, hz1⟩, by omega⟩, tp3, sb2.trans sb3⟩
  unfold gb6
  have hr1 : iRange1 (cLit (.int 60)) [some (.cel n, .brw), some (.lst (us.map encU), .brw), some (.int ((us.length : Nat) : Int), .frz), some (.int 3, .frz), none, none, none, none, none, none, none] S = some ((List.range 60).map fun k : Nat => W.int ((k : Nat) : Int), S) := rng_ok (n := 60) (m := .frz) rfl (by decide)
  have hc : cLc (tName 10) (iRange1 (cLit (.int 60))) tYesT (cBin gMod (cBi gInt (cCons (cBin gMul (cVar 10) (cLit (.int 7))) cNil)) (cLit (.int 11))) [10] [some (.cel n, .brw), some (.lst (us.map encU), .brw), some (.int ((us.length : Nat) : Int), .frz), some (.int 3, .frz), none, none, none, none, none, none, none] S = some ((.lst (es.map .int), .own), S) := by
    rw [q_lc, hr1]
    dsimp only [bnd_some]
    rw [if_pos (size_ok (by simp))]
    rw [lc_map (enc := fun k : Nat => W.int ((k : Nat) : Int)) (g := fun k : Nat => W.int (((k : Nat) : Int) * 7 % 11)) fun k hk => ⟨_, .own, by walk_at "ev"; rfl, rfl, by
      have hm : gMul (.int ((k : Nat) : Int)) (.int 7) = some (.int (((k : Nat) : Int) * 7)) := gMul_int (.inr (by omega))
      have hm2 : gMod (.int (((k : Nat) : Int) * 7)) (.int 11) = some (.int ((((k : Nat) : Int) * 7) % 11)) := gMod_int (by omega)
      clear hr1 hk hes
      walk_at "go", rfl⟩]
    walk_at "ev"
    rw [hes, List.map_map]
    rfl
  rw [seq_nx (ρ2 := [some (.cel n, .brw), some (.lst (us.map encU), .brw), some (.int ((us.length : Nat) : Int), .frz), some (.int 3, .frz), none, none, some (encP es, .frz), none, none, none, none]) (S2 := S) (by
    rw [q_asg, q_bi, q_cons, hc]
    walk_at "ev"
    rfl)]
  clear hes hc hr1 hel
  walk_at "go"
  rfl
theorem bbody_ok {n : Nat} {us : List Un} {S : Store} (tp : TapeAt n S) (h20 : 20 ≤ us.length) (h60 : us.length ≤ 60) : ∃ b S2, m_law_big_body [.cel n, .lst (us.map encU)] S = some ((encB b, .own), S2) ∧ BOk us.length b ∧ TapeAt n S2 ∧ SameBut n S S2 := by
  suffices h : ∃ b S2, c_law_big_body [some (.cel n, .brw), some (.lst (us.map encU), .brw), none, none, none, none, none, none, none, none, none] S = some (.rt (encB b, .own) S2) ∧ BOk us.length b ∧ TapeAt n S2 ∧ SameBut n S S2 by
    obtain ⟨b, S2, e, hb, tp2, sb2⟩ := h
    refine ⟨b, S2, ?_, hb, tp2, sb2⟩
    unfold m_law_big_body
    rw [cFn_run (by rfl)]
    show fin (c_law_big_body [some (.cel n, .brw), some (.lst (us.map encU), .brw), none, none, none, none, none, none, none, none, none] S) = _
    rw [e, fin_rt, sto_own, if_pos rfl]
  obtain ⟨k, S2, e, hk0, hk1, tp2, sb2⟩ := draw_ok (many := 8) tp (by decide) (by decide)
  rw [bbody_seq]
  rw [seq_nx (f := gb1) (ρ2 := [some (.cel n, .brw), some (.lst (us.map encU), .brw), some (.int ((us.length : Nat) : Int), .frz), none, none, none, none, none, none, none, none]) (S2 := S) (by unfold gb1; walk_at "ev")]
  rw [seq_nx (f := gb2) (ρ2 := [some (.cel n, .brw), some (.lst (us.map encU), .brw), some (.int ((us.length : Nat) : Int), .frz), some (.int k, .frz), none, none, none, none, none, none, none]) (S2 := S2) (by unfold gb2; walk_at "go")]
  have fin : ∀ (f : CS), (∃ b S3, f [some (.cel n, .brw), some (.lst (us.map encU), .brw), some (.int ((us.length : Nat) : Int), .frz), some (.int k, .frz), none, none, none, none, none, none, none] S2 = some (.rt (encB b, .own) S3) ∧ BOk us.length b ∧ TapeAt n S3 ∧ SameBut n S2 S3) → ∃ b S3, f [some (.cel n, .brw), some (.lst (us.map encU), .brw), some (.int ((us.length : Nat) : Int), .frz), some (.int k, .frz), none, none, none, none, none, none, none] S2 = some (.rt (encB b, .own) S3) ∧ BOk us.length b ∧ TapeAt n S3 ∧ SameBut n S S3 := fun f ⟨b, S4, e4, hb, tp4, sb4⟩ => ⟨b, S4, e4, hb, tp4, sb2.trans sb4⟩
  refine fin _ ?_
  have hk : k = 0 ∨ k = 1 ∨ k = 2 ∨ k = 3 ∨ k = 4 ∨ (k = 5 ∨ k = 6 ∨ k = 7) := by omega
  rcases hk with rfl | rfl | rfl | rfl | rfl | hk
  · obtain ⟨b, S4, e4, h4⟩ := gb3_ok tp2 h20 h60
    exact ⟨b, S4, seq_if_t (t := gt3) (by unfold gt3; walk_at "ev") e4, h4⟩
  · obtain ⟨b, S4, e4, h4⟩ := gb4_ok tp2 h20 h60
    rw [seq_if_f (t := gt3) (by unfold gt3; walk_at "ev")]
    exact ⟨b, S4, seq_if_t (t := gt4) (by unfold gt4; walk_at "ev") e4, h4⟩
  · obtain ⟨b, S4, e4, h4⟩ := gb5_ok tp2 h20 h60
    rw [seq_if_f (t := gt3) (by unfold gt3; walk_at "ev"), seq_if_f (t := gt4) (by unfold gt4; walk_at "ev")]
    exact ⟨b, S4, seq_if_t (t := gt5) (by unfold gt5; walk_at "ev") e4, h4⟩
  · obtain ⟨b, S4, e4, h4⟩ := gb6_ok tp2 h20 h60
    rw [seq_if_f (t := gt3) (by unfold gt3; walk_at "ev"), seq_if_f (t := gt4) (by unfold gt4; walk_at "ev"), seq_if_f (t := gt5) (by unfold gt5; walk_at "ev")]
    exact ⟨b, S4, seq_if_t (t := gt6) (by unfold gt6; walk_at "ev") e4, h4⟩
  · obtain ⟨b, S4, e4, h4⟩ := gb7_ok tp2 h20 h60
    rw [seq_if_f (t := gt3) (by unfold gt3; walk_at "ev"), seq_if_f (t := gt4) (by unfold gt4; walk_at "ev"), seq_if_f (t := gt5) (by unfold gt5; walk_at "ev"), seq_if_f (t := gt6) (by unfold gt6; walk_at "ev")]
    exact ⟨b, S4, seq_if_t (t := gt7) (by unfold gt7; walk_at "ev") e4, h4⟩
  · rw [seq_if_f (t := gt3) (by unfold gt3; rcases hk with rfl | rfl | rfl <;> walk_at "ev"), seq_if_f (t := gt4) (by unfold gt4; rcases hk with rfl | rfl | rfl <;> walk_at "ev"), seq_if_f (t := gt5) (by unfold gt5; rcases hk with rfl | rfl | rfl <;> walk_at "ev"), seq_if_f (t := gt6) (by unfold gt6; rcases hk with rfl | rfl | rfl <;> walk_at "ev"), seq_if_f (t := gt7) (by unfold gt7; rcases hk with rfl | rfl | rfl <;> walk_at "ev")]
    obtain ⟨ts, r, c, S3, e3, hts, hr, tp3, sb3⟩ := linear_ok tp2 h60
    rw [seq_nx (f := gb8) (ρ2 := [some (.cel n, .brw), some (.lst (us.map encU), .brw), some (.int ((us.length : Nat) : Int), .frz), some (.int k, .frz), none, none, none, some (encT ts, .frz), some (.str (rlS r), .frz), some (.int c, .frz), none]) (S2 := S3) (by unfold gb8; clear hts hr hk fin; walk_at "go")]
    by_cases h5 : k = 5
    · subst h5
      rw [seq_if_f (t := gt9) (by unfold gt9; walk_at "ev")]
      obtain ⟨v, S4, e4, hv0, hv1, tp4, sb4⟩ := draw_ok (many := ((us.length : Nat) : Int)) tp3 (by omega) (by omega)
      obtain ⟨v, rfl⟩ : ∃ k : Nat, v = ((k : Nat) : Int) := ⟨v.toNat, by omega⟩
      have hv : v < us.length := by omega
      have hu := at_us hv
      have hu1 := u_1 S4 us[v]
      obtain ⟨d, S5, e5, hd0, hd1, tp5, sb5⟩ := draw_ok (many := 3) tp4 (by decide) (by decide)
      obtain ⟨q, S6, e6, hq0, hq1, tp6, sb6⟩ := draw_ok (many := 4) tp5 (by decide) (by decide)
      obtain ⟨r2, hr2⟩ := rl_ix4 q hq0 hq1
      rw [seq_nx (f := gb10) (ρ2 := [some (.cel n, .brw), some (.lst (us.map encU), .brw), some (.int ((us.length : Nat) : Int), .frz), some (.int 5, .frz), some (.int ((v : Nat) : Int), .frz), none, none, some (encT ts, .frz), some (.str (rlS r), .frz), some (.int c, .frz), none]) (S2 := S4) (by unfold gb10; clear hts hr fin; walk_at "go")]
      rw [seq_nx (f := gb11) (ρ2 := [some (.cel n, .brw), some (.lst (us.map encU), .brw), some (.int ((us.length : Nat) : Int), .frz), some (.int 5, .frz), some (.int ((v : Nat) : Int), .frz), some (.int (us[v].lo + d - 1), .frz), none, some (encT ts, .frz), some (.str (rlS r), .frz), some (.int c, .frz), none]) (S2 := S5) (by unfold gb11; clear hts hr fin; walk_at "go")]
      refine ⟨.whn ⟨((v : Nat) : Int), r2, us[v].lo + d - 1⟩ ts r c, S6, ?_, ⟨⟨by simp only; omega, by simp only; omega⟩, hts, hr⟩, tp6, ((sb3.trans sb4).trans sb5).trans sb6⟩
      unfold gb12
      clear hts hr fin
      walk_at "go"
      rfl
    · refine ⟨.row ts r c, S3, seq_if_t (t := gt9) (by unfold gt9; rcases hk with rfl | rfl | rfl; exact absurd rfl h5; walk_at "ev"; walk_at "ev") ?_, ⟨hts, hr⟩, tp3, sb3⟩
      unfold gb9
      clear hts hr fin hk h5
      walk_at "ev"
      rfl
end Lg
namespace K76
open PySem PySem.Spec PyProof.Rows L2 Mp
/-! ### the text -/
def topS (i : Nat) : Stmt := PySem.Challenge.pw_commonfront_k76_bodies_seen_to_hold.main.body.getD i (.Pass ⟨0, 0, 0, 0⟩)
abbrev s_relation_holds : Stmt := topS 1
abbrev N_relation_holds : List Str := ["relation", "left", "right"]
theorem sc_relation_holds : FnScope N_relation_holds ["relation", "left", "right"] (defScope s_relation_holds) := ⟨rfl, rfl, rfl, by decide +kernel, rfl, by decide +kernel, by decide +kernel⟩
def c_relation_holds : CS :=
  cSeq (cIfS (cB (cBin (gEq false) (cVar 0) (cLit (.str "<=")))) (cRet (cBin gLe (cVar 1) (cVar 2))) (cSkip))
  (cSeq (cIfS (cB (cBin (gEq false) (cVar 0) (cLit (.str ">=")))) (cRet (cBin gGe (cVar 1) (cVar 2))) (cSkip))
  (cSeq (cIfS (cB (cBin (gEq false) (cVar 0) (cLit (.str "=")))) (cRet (cBin (gEq false) (cVar 1) (cVar 2))) (cSkip))
  (cRet (cBin (gEq true) (cVar 1) (cVar 2)))))
def m_relation_holds : FnSem := cFn 3 3 c_relation_holds
abbrev s_literal_holds : Stmt := topS 2
abbrev N_literal_holds : List Str := ["literal", "worth"]
theorem sc_literal_holds : FnScope N_literal_holds ["literal", "worth"] (defScope s_literal_holds) := ⟨rfl, rfl, rfl, by decide +kernel, rfl, by decide +kernel, by decide +kernel⟩
def c_literal_holds : CS :=
  cRet (cCall m_relation_holds (cCons (cIx (cVar 0) (cLit (.int 1))) (cCons (cVar 1) (cCons (cIx (cVar 0) (cLit (.int 2))) cNil))))
def m_literal_holds : FnSem := cFn 2 2 c_literal_holds
abbrev s_negated : Stmt := topS 3
abbrev N_negated : List Str := ["literal", "v", "relation", "a"]
theorem sc_negated : FnScope N_negated ["literal"] (defScope s_negated) := ⟨rfl, rfl, rfl, by decide +kernel, rfl, by decide +kernel, by decide +kernel⟩
def c_negated : CS :=
  cSeq (cAsg (tTup 3 (tCons (tName 1) (tCons (tName 2) (tCons (tName 3) tNil)))) (cVar 0))
  (cSeq (cIfS (cB (cBin (gEq false) (cVar 2) (cLit (.str "<=")))) (cRet (cTup (cCons (cVar 1) (cCons (cLit (.str ">=")) (cCons (cBin gAdd (cVar 3) (cLit (.int 1))) cNil))))) (cSkip))
  (cSeq (cIfS (cB (cBin (gEq false) (cVar 2) (cLit (.str ">=")))) (cRet (cTup (cCons (cVar 1) (cCons (cLit (.str "<=")) (cCons (cBin Mp.gSub (cVar 3) (cLit (.int 1))) cNil))))) (cSkip))
  (cSeq (cIfS (cB (cBin (gEq false) (cVar 2) (cLit (.str "=")))) (cRet (cTup (cCons (cVar 1) (cCons (cLit (.str "!=")) (cCons (cVar 3) cNil))))) (cSkip))
  (cRet (cTup (cCons (cVar 1) (cCons (cLit (.str "=")) (cCons (cVar 3) cNil))))))))
def m_negated : FnSem := cFn 1 4 c_negated
abbrev s_terms_sum : Stmt := topS 4
abbrev N_terms_sum : List Str := ["terms", "point", "total", "v", "c"]
theorem sc_terms_sum : FnScope N_terms_sum ["terms", "point"] (defScope s_terms_sum) := ⟨rfl, rfl, rfl, by decide +kernel, rfl, by decide +kernel, by decide +kernel⟩
def c_terms_sum : CS :=
  cSeq (cAsg (tName 2) (cLit (.int 0)))
  (cSeq (cFor (tTup 2 (tCons (tName 3) (tCons (tName 4) tNil))) (iVar 0) (cAug 2 gAddI (cBin gMul (cVar 4) (cIx (cVar 1) (cVar 3)))))
  (cRetV 2))
def m_terms_sum : FnSem := cFn 2 5 c_terms_sum
abbrev s_negated_terms : Stmt := topS 5
abbrev N_negated_terms : List Str := ["terms", "v", "c"]
theorem sc_negated_terms : FnScope N_negated_terms ["terms"] (defScope s_negated_terms) := ⟨rfl, rfl, rfl, by decide +kernel, rfl, by decide +kernel, by decide +kernel⟩
def c_negated_terms : CS :=
  cRet (cBi gTuple (cCons (cLc (tTup 2 (tCons (tName 1) (tCons (tName 2) tNil))) (iVar 0) tYesT (cTup (cCons (cVar 1) (cCons (cNeg (cVar 2)) cNil))) [1, 2]) cNil))
def m_negated_terms : FnSem := cFn 1 3 c_negated_terms
abbrev s_rows_of : Stmt := topS 6
abbrev N_rows_of : List Str := ["terms", "relation", "rhs", "rows"]
theorem sc_rows_of : FnScope N_rows_of ["terms", "relation", "rhs"] (defScope s_rows_of) := ⟨rfl, rfl, rfl, by decide +kernel, rfl, by decide +kernel, by decide +kernel⟩
def c_rows_of : CS :=
  cSeq (cAsg (tName 3) (cLst cNil))
  (cSeq (cIfS (cB (cBin (gEq true) (cVar 1) (cLit (.str ">=")))) (cApp 3 (cTup (cCons (cLit (.str "row")) (cCons (cVar 0) (cCons (cVar 2) cNil))))) (cSkip))
  (cSeq (cIfS (cB (cBin (gEq true) (cVar 1) (cLit (.str "<=")))) (cApp 3 (cTup (cCons (cLit (.str "row")) (cCons (cCall m_negated_terms (cCons (cVar 0) cNil)) (cCons (cNeg (cVar 2)) cNil))))) (cSkip))
  (cRetV 3)))
def m_rows_of : FnSem := cFn 3 4 c_rows_of
abbrev s_unknowns_of : Stmt := topS 8
abbrev N_unknowns_of : List Str := ["body", "kind", "found", "v", "c", "literal"]
theorem sc_unknowns_of : FnScope N_unknowns_of ["body"] (defScope s_unknowns_of) := ⟨rfl, rfl, rfl, by decide +kernel, rfl, by decide +kernel, by decide +kernel⟩
def c_unknowns_of : CS :=
  cSeq (cAsg (tName 1) (cIx (cVar 0) (cLit (.int 0))))
  (cSeq (cAsg (tName 2) (cLst cNil))
  (cSeq (cIfS (cB (cBin (gEq false) (cVar 1) (cLit (.str "row")))) (cAsg (tName 2) (cLc (tTup 2 (tCons (tName 3) (tCons (tName 4) tNil))) (iExp (cIx (cVar 0) (cLit (.int 1)))) tYesT (cVar 3) [3, 4])) (cIfS (cB (cBin (gEq false) (cVar 1) (cLit (.str "any")))) (cAsg (tName 2) (cLc (tName 5) (iExp (cIx (cVar 0) (cLit (.int 1)))) tYesT (cIx (cVar 5) (cLit (.int 0))) [5])) (cIfS (cB (cBin (gEq false) (cVar 1) (cLit (.str "when")))) (cAsg (tName 2) (cBin gAdd (cLst (cCons (cIx (cIx (cVar 0) (cLit (.int 1))) (cLit (.int 0))) cNil)) (cLc (tTup 2 (tCons (tName 3) (tCons (tName 4) tNil))) (iExp (cIx (cVar 0) (cLit (.int 2)))) tYesT (cVar 3) [3, 4]))) (cIfS (cB (cBin (gIn false) (cVar 1) (cTup (cCons (cLit (.str "different")) (cCons (cLit (.str "table")) cNil))))) (cAsg (tName 2) (cBi gList (cCons (cIx (cVar 0) (cLit (.int 1))) cNil))) (cIfS (cB (cBin (gEq false) (cVar 1) (cLit (.str "element")))) (cAsg (tName 2) (cLst (cCons (cIx (cVar 0) (cLit (.int 1))) (cCons (cIx (cVar 0) (cLit (.int 3))) cNil)))) (cAsg (tName 2) (cLst (cCons (cIx (cVar 0) (cLit (.int 1))) (cCons (cIx (cVar 0) (cLit (.int 2))) (cCons (cIx (cVar 0) (cLit (.int 3))) cNil))))))))))
  (cRet (cBi gSortSet (cCons (cVar 2) cNil)))))
def m_unknowns_of : FnSem := cFn 1 6 c_unknowns_of
abbrev s_body_holds : Stmt := topS 9
abbrev N_body_holds : List Str := ["body", "point", "kind", "literal", "at", "v"]
theorem sc_body_holds : FnScope N_body_holds ["body", "point"] (defScope s_body_holds) := ⟨rfl, rfl, rfl, by decide +kernel, rfl, by decide +kernel, by decide +kernel⟩
def c_body_holds : CS :=
  cSeq (cAsg (tName 2) (cIx (cVar 0) (cLit (.int 0))))
  (cSeq (cIfS (cB (cBin (gEq false) (cVar 2) (cLit (.str "row")))) (cRet (cCall m_relation_holds (cCons (cIx (cVar 0) (cLit (.int 2))) (cCons (cCall m_terms_sum (cCons (cIx (cVar 0) (cLit (.int 1))) (cCons (cVar 1) cNil))) (cCons (cIx (cVar 0) (cLit (.int 3))) cNil))))) (cSkip))
  (cSeq (cIfS (cB (cBin (gEq false) (cVar 2) (cLit (.str "any")))) (cRet (cBi gAny (cCons (cLc (tName 3) (iExp (cIx (cVar 0) (cLit (.int 1)))) tYesT (cCall m_literal_holds (cCons (cVar 3) (cCons (cIx (cVar 1) (cIx (cVar 3) (cLit (.int 0)))) cNil))) [3]) cNil))) (cSkip))
  (cSeq (cIfS (cB (cBin (gEq false) (cVar 2) (cLit (.str "when")))) (cSeq (cAsg (tName 3) (cIx (cVar 0) (cLit (.int 1))))
  (cSeq (cIfS (cNotT (cB (cCall m_literal_holds (cCons (cVar 3) (cCons (cIx (cVar 1) (cIx (cVar 3) (cLit (.int 0)))) cNil))))) (cRet (cLit (.bl true))) (cSkip))
  (cRet (cCall m_relation_holds (cCons (cIx (cVar 0) (cLit (.int 3))) (cCons (cCall m_terms_sum (cCons (cIx (cVar 0) (cLit (.int 2))) (cCons (cVar 1) cNil))) (cCons (cIx (cVar 0) (cLit (.int 4))) cNil))))))) (cSkip))
  (cSeq (cIfS (cB (cBin (gEq false) (cVar 2) (cLit (.str "different")))) (cRet (cBin (gEq false) (cBi gLen (cCons (cStopE) cNil)) (cBi gLen (cCons (cIx (cVar 0) (cLit (.int 1))) cNil)))) (cSkip))
  (cSeq (cIfS (cB (cBin (gEq false) (cVar 2) (cLit (.str "table")))) (cRet (cBin (gIn false) (cBi gTuple (cCons (cLc (tName 5) (iExp (cIx (cVar 0) (cLit (.int 1)))) tYesT (cIx (cVar 1) (cVar 5)) [5]) cNil)) (cIx (cVar 0) (cLit (.int 2))))) (cSkip))
  (cSeq (cIfS (cB (cBin (gEq false) (cVar 2) (cLit (.str "element")))) (cSeq (cAsg (tName 4) (cIx (cVar 1) (cIx (cVar 0) (cLit (.int 1)))))
  (cRet ((cAndV (cChain gLe gLt (cLit (.int 0)) (cVar 4) (cBi gLen (cCons (cIx (cVar 0) (cLit (.int 2))) cNil))) (cBin (gEq false) (cIx (cIx (cVar 0) (cLit (.int 2))) (cVar 4)) (cIx (cVar 1) (cIx (cVar 0) (cLit (.int 3))))))))) (cSkip))
  (cRet (cBin (gEq false) (cBin gMul (cIx (cVar 1) (cIx (cVar 0) (cLit (.int 1)))) (cIx (cVar 1) (cIx (cVar 0) (cLit (.int 2))))) (cIx (cVar 1) (cIx (cVar 0) (cLit (.int 3))))))))))))
def m_body_holds : FnSem := cFn 2 6 c_body_holds
abbrev s_is_possible : Stmt := topS 11
abbrev N_is_possible : List Str := ["box", "literal", "low", "high", "v", "relation", "a"]
theorem sc_is_possible : FnScope N_is_possible ["box", "literal"] (defScope s_is_possible) := ⟨rfl, rfl, rfl, by decide +kernel, rfl, by decide +kernel, by decide +kernel⟩
def c_is_possible : CS :=
  cSeq (cAsg (tTup 3 (tCons (tName 4) (tCons (tName 5) (tCons (tName 6) tNil)))) (cVar 1))
  (cSeq (cAsg (tName 2) (cIx (cIx (cVar 0) (cLit (.int 0))) (cVar 4)))
  (cSeq (cAsg (tName 3) (cIx (cIx (cVar 0) (cLit (.int 1))) (cVar 4)))
  (cSeq (cIfS (cB (cBin (gEq false) (cVar 5) (cLit (.str "<=")))) (cRet (cBin gLe (cVar 2) (cVar 6))) (cSkip))
  (cSeq (cIfS (cB (cBin (gEq false) (cVar 5) (cLit (.str ">=")))) (cRet (cBin gGe (cVar 3) (cVar 6))) (cSkip))
  (cSeq (cIfS (cB (cBin (gEq false) (cVar 5) (cLit (.str "=")))) (cRet (cChain gLe gLe (cVar 2) (cVar 6) (cVar 3))) (cSkip))
  (cRet ((cOrV (cBin (gEq true) (cVar 2) (cVar 6)) (cBin (gEq true) (cVar 3) (cVar 6))))))))))
def m_is_possible : FnSem := cFn 2 7 c_is_possible
abbrev s_is_sure : Stmt := topS 12
abbrev N_is_sure : List Str := ["box", "literal"]
theorem sc_is_sure : FnScope N_is_sure ["box", "literal"] (defScope s_is_sure) := ⟨rfl, rfl, rfl, by decide +kernel, rfl, by decide +kernel, by decide +kernel⟩
def c_is_sure : CS :=
  cRet (cNotV (cCall m_is_possible (cCons (cVar 0) (cCons (cCall m_negated (cCons (cVar 1) cNil)) cNil))))
def m_is_sure : FnSem := cFn 2 2 c_is_sure
abbrev s_least_sum : Stmt := topS 13
abbrev N_least_sum : List Str := ["box", "terms", "total", "v", "c"]
theorem sc_least_sum : FnScope N_least_sum ["box", "terms"] (defScope s_least_sum) := ⟨rfl, rfl, rfl, by decide +kernel, rfl, by decide +kernel, by decide +kernel⟩
def c_least_sum : CS :=
  cSeq (cAsg (tName 2) (cLit (.int 0)))
  (cSeq (cFor (tTup 2 (tCons (tName 3) (tCons (tName 4) tNil))) (iVar 1) (cIfS (cB (cBin gGt (cVar 4) (cLit (.int 0)))) (cAug 2 gAddI (cBin gMul (cVar 4) (cIx (cIx (cVar 0) (cLit (.int 0))) (cVar 3)))) (cAug 2 gAddI (cBin gMul (cVar 4) (cIx (cIx (cVar 0) (cLit (.int 1))) (cVar 3))))))
  (cRetV 2))
def m_least_sum : FnSem := cFn 2 5 c_least_sum
abbrev s_rows_sure : Stmt := topS 15
abbrev N_rows_sure : List Str := ["box", "rows", "row"]
theorem sc_rows_sure : FnScope N_rows_sure ["box", "rows"] (defScope s_rows_sure) := ⟨rfl, rfl, rfl, by decide +kernel, rfl, by decide +kernel, by decide +kernel⟩
def c_rows_sure : CS :=
  cRet (cBi gAll (cCons (cLc (tName 2) (iVar 1) tYesT (cBin gLe (cNeg (cCall m_least_sum (cCons (cVar 0) (cCons (cCall m_negated_terms (cCons (cIx (cVar 2) (cLit (.int 1))) cNil)) cNil)))) (cIx (cVar 2) (cLit (.int 2)))) [2]) cNil))
def m_rows_sure : FnSem := cFn 2 3 c_rows_sure
abbrev s_always_apart : Stmt := topS 16
abbrev N_always_apart : List Str := ["box", "numbers", "lows", "highs", "k", "x", "y"]
theorem sc_always_apart : FnScope N_always_apart ["box", "numbers"] (defScope s_always_apart) := ⟨rfl, rfl, rfl, by decide +kernel, rfl, by decide +kernel, by decide +kernel⟩
def c_always_apart : CS :=
  cSeq (cAsg (tTup 2 (tCons (tName 2) (tCons (tName 3) tNil))) (cVar 0))
  (cSeq (cFor (tTup 2 (tCons (tName 4) (tCons (tName 5) tNil))) (iEnV 1) (cFor (tName 6) (iExp (cSl (cVar 1) oNone (oSome (cVar 4)))) (cIfS ((cAndT (cB (cBin gLe (cIx (cVar 2) (cVar 5)) (cIx (cVar 3) (cVar 6)))) (cB (cBin gLe (cIx (cVar 2) (cVar 6)) (cIx (cVar 3) (cVar 5)))))) (cRet (cLit (.bl false))) (cSkip))))
  (cRet (cLit (.bl true))))
def m_always_apart : FnSem := cFn 2 7 c_always_apart
abbrev s_surely_holds : Stmt := topS 17
abbrev N_surely_holds : List Str := ["body", "box", "kind", "lows", "highs", "v", "literal"]
theorem sc_surely_holds : FnScope N_surely_holds ["body", "box"] (defScope s_surely_holds) := ⟨rfl, rfl, rfl, by decide +kernel, rfl, by decide +kernel, by decide +kernel⟩
def c_surely_holds : CS :=
  cSeq (cAsg (tName 2) (cIx (cVar 0) (cLit (.int 0))))
  (cSeq (cIfS (cB (cBin (gEq false) (cVar 2) (cLit (.str "row")))) (cRet (cCall m_rows_sure (cCons (cVar 1) (cCons (cCall m_rows_of (cCons (cIx (cVar 0) (cLit (.int 1))) (cCons (cIx (cVar 0) (cLit (.int 2))) (cCons (cIx (cVar 0) (cLit (.int 3))) cNil)))) cNil)))) (cSkip))
  (cSeq (cIfS (cB (cBin (gEq false) (cVar 2) (cLit (.str "any")))) (cRet (cBi gAny (cCons (cLc (tName 6) (iExp (cIx (cVar 0) (cLit (.int 1)))) tYesT (cCall m_is_sure (cCons (cVar 1) (cCons (cVar 6) cNil))) [6]) cNil))) (cSkip))
  (cSeq (cIfS (cB (cBin (gEq false) (cVar 2) (cLit (.str "when")))) (cRet ((cOrV (cNotV (cCall m_is_possible (cCons (cVar 1) (cCons (cIx (cVar 0) (cLit (.int 1))) cNil)))) (cCall m_rows_sure (cCons (cVar 1) (cCons (cCall m_rows_of (cCons (cIx (cVar 0) (cLit (.int 2))) (cCons (cIx (cVar 0) (cLit (.int 3))) (cCons (cIx (cVar 0) (cLit (.int 4))) cNil)))) cNil)))))) (cSkip))
  (cSeq (cIfS (cB (cBin (gEq false) (cVar 2) (cLit (.str "different")))) (cRet (cCall m_always_apart (cCons (cVar 1) (cCons (cIx (cVar 0) (cLit (.int 1))) cNil)))) (cSkip))
  (cSeq (cAsg (tTup 2 (tCons (tName 3) (tCons (tName 4) tNil))) (cVar 1))
  (cSeq (cIfS (cB (cBi gAny (cCons (cLc (tName 5) (iExp (cCall m_unknowns_of (cCons (cVar 0) cNil))) tYesT (cBin gLt (cIx (cVar 3) (cVar 5)) (cIx (cVar 4) (cVar 5))) [5]) cNil))) (cRet (cLit (.bl false))) (cSkip))
  (cRet (cCall m_body_holds (cCons (cVar 0) (cCons (cVar 3) cNil))))))))))
def m_surely_holds : FnSem := cFn 2 7 c_surely_holds
abbrev s_law_same : Stmt := topS 19
abbrev N_law_same : List Str := ["told", "due"]
theorem sc_law_same : FnScope N_law_same ["told", "due"] (defScope s_law_same) := ⟨rfl, rfl, rfl, by decide +kernel, rfl, by decide +kernel, by decide +kernel⟩
def c_law_same : CS :=
  cRet ((cAndV (cBi gIsi (cCons (cVar 0) (cCons (cLit (.ty "bool")) cNil))) (cBin (gEq false) (cVar 0) (cVar 1))))
def m_law_same : FnSem := cFn 2 2 c_law_same
abbrev s_law_draw : Stmt := topS 20
abbrev N_law_draw : List Str := ["tape", "many", "digit", "cells", "k", "cell"]
theorem sc_law_draw : FnScope N_law_draw ["tape", "many"] (defScope s_law_draw) := ⟨rfl, rfl, rfl, by decide +kernel, rfl, by decide +kernel, by decide +kernel⟩
def c_law_draw : CS :=
  cSeq (cIfS (cB (cBin gLt (cIx (cVar 0) (cLit (.int 2))) (cVar 1))) (cSeq (cAsg (tName 3) (cIx (cVar 0) (cLit (.int 0))))
  (cSeq (cAsg (tName 4) (cIx (cVar 0) (cLit (.int 1))))
  (cSeq (cAsg (tName 5) (cLit (.int 0)))
  (cSeq (cIfS (cB (cBin gLt (cVar 4) (cBi gLen (cCons (cVar 3) cNil)))) (cAsg (tName 5) (cIx (cVar 3) (cVar 4))) (cSkip))
  (cSeq (cIfS (cB (cBin gLt (cVar 5) (cLit (.int 0)))) (cAsg (tName 5) (cBin Mp.gSub (cBin gMul (cNeg (cLit (.int 2))) (cVar 5)) (cLit (.int 1)))) (cSkip))
  (cSeq (cIfS (cB (cBin gLt (cVar 5) (cBin gPow (cLit (.int 10)) (cLit (.int 9))))) (cSeq (cAsg (tName 5) (cBin gMod (cBi gInt (cCons (cBin gAdd (cBin gAdd (cBin gMul (cVar 5) (cLit (.int 48271))) (cBin gMul (cVar 4) (cLit (.int 69621)))) (cLit (.int 12345))) cNil)) (cLit (.int 2147483647))))
  (cAsg (tName 5) (cBin gMod (cBi gInt (cCons (cBin gAdd (cBin gAdd (cBin gMul (cVar 5) (cLit (.int 16807))) (cBin gMul (cVar 4) (cLit (.int 39373)))) (cLit (.int 6789))) cNil)) (cLit (.int 2147483629))))) (cSkip))
  (cSeq (cSetIx 0 (cLit (.int 1)) (cBin gAdd (cVar 4) (cLit (.int 1))))
  (cSetIx 0 (cLit (.int 2)) (cVar 5))))))))) (cSkip))
  (cSeq (cAsg (tName 2) (cBin gMod (cBi gInt (cCons (cIx (cVar 0) (cLit (.int 2))) cNil)) (cVar 1)))
  (cSeq (cSetIx 0 (cLit (.int 2)) (cBin gDiv (cIx (cVar 0) (cLit (.int 2))) (cVar 1)))
  (cRetV 2)))
def m_law_draw : FnSem := cFn 2 6 c_law_draw
abbrev s_law_tape : Stmt := topS 21
abbrev N_law_tape : List Str := ["script"]
theorem sc_law_tape : FnScope N_law_tape ["script"] (defScope s_law_tape) := ⟨rfl, rfl, rfl, by decide +kernel, rfl, by decide +kernel, by decide +kernel⟩
def c_law_tape : CS :=
  cRet (cBox (cCons (cBi gList (cCons (cVar 0) cNil)) (cCons (cLit (.int 0)) (cCons (cLit (.int 0)) cNil))))
def m_law_tape : FnSem := cFn 1 1 c_law_tape
abbrev s_law_terms : Stmt := topS 22
abbrev N_law_terms : List Str := ["tape", "many", "terms", "v", "c"]
theorem sc_law_terms : FnScope N_law_terms ["tape", "many"] (defScope s_law_terms) := ⟨rfl, rfl, rfl, by decide +kernel, rfl, by decide +kernel, by decide +kernel⟩
def c_law_terms : CS :=
  cSeq (cAsg (tName 2) (cLst cNil))
  (cSeq (cFor (tName 3) (iRange1 (cVar 1)) (cSeq (cAsg (tName 4) (cBin Mp.gSub (cCall m_law_draw (cCons (cVar 0) (cCons (cLit (.int 7)) cNil))) (cLit (.int 3))))
  (cIfS (cB (cBin (gEq true) (cVar 4) (cLit (.int 0)))) (cApp 2 (cTup (cCons (cVar 3) (cCons (cVar 4) cNil)))) (cSkip))))
  (cRet (cBi gTuple (cCons (cVar 2) cNil))))
def m_law_terms : FnSem := cFn 2 5 c_law_terms
abbrev s_law_literal : Stmt := topS 23
abbrev N_law_literal : List Str := ["tape", "many", "relation"]
theorem sc_law_literal : FnScope N_law_literal ["tape", "many"] (defScope s_law_literal) := ⟨rfl, rfl, rfl, by decide +kernel, rfl, by decide +kernel, by decide +kernel⟩
def c_law_literal : CS :=
  cSeq (cAsg (tName 2) (cIx (cLst (cCons (cLit (.str "<=")) (cCons (cLit (.str ">=")) (cCons (cLit (.str "=")) (cCons (cLit (.str "!=")) cNil))))) (cCall m_law_draw (cCons (cVar 0) (cCons (cLit (.int 4)) cNil)))))
  (cRet (cTup (cCons (cCall m_law_draw (cCons (cVar 0) (cCons (cVar 1) cNil))) (cCons (cVar 2) (cCons (cBin Mp.gSub (cCall m_law_draw (cCons (cVar 0) (cCons (cLit (.int 9)) cNil))) (cLit (.int 3))) cNil)))))
def m_law_literal : FnSem := cFn 2 3 c_law_literal
abbrev s_law_some : Stmt := topS 24
abbrev N_law_some : List Str := ["tape", "many", "least", "rest", "found", "k"]
theorem sc_law_some : FnScope N_law_some ["tape", "many", "least"] (defScope s_law_some) := ⟨rfl, rfl, rfl, by decide +kernel, rfl, by decide +kernel, by decide +kernel⟩
def c_law_some : CS :=
  cSeq (cAsg (tName 3) (cBi gListRange (cCons (cVar 1) cNil)))
  (cSeq (cAsg (tName 4) (cLst cNil))
  (cSeq (cFor (tName 5) (iRange1 (cBin gAdd (cVar 2) (cCall m_law_draw (cCons (cVar 0) (cCons (cBin gAdd (cBin Mp.gSub (cVar 1) (cVar 2)) (cLit (.int 1))) cNil))))) (cAppPop 4 3 (cCall m_law_draw (cCons (cVar 0) (cCons (cBi gLen (cCons (cVar 3) cNil)) cNil)))))
  (cRet (cBi gTuple (cCons (cVar 4) cNil)))))
def m_law_some : FnSem := cFn 3 6 c_law_some
abbrev s_law_body : Stmt := topS 25
abbrev N_law_body : List Str := ["tape", "many", "kind", "relation", "literals", "k", "literal", "numbers", "rows", "entries", "v"]
theorem sc_law_body : FnScope N_law_body ["tape", "many"] (defScope s_law_body) := ⟨rfl, rfl, rfl, by decide +kernel, rfl, by decide +kernel, by decide +kernel⟩
def c_law_body : CS :=
  cSeq (cAsg (tName 2) (cCall m_law_draw (cCons (cVar 0) (cCons (cLit (.int 8)) cNil))))
  (cSeq (cAsg (tName 3) (cIx (cLst (cCons (cLit (.str "<=")) (cCons (cLit (.str ">=")) (cCons (cLit (.str "=")) cNil)))) (cCall m_law_draw (cCons (cVar 0) (cCons (cLit (.int 3)) cNil)))))
  (cSeq (cIfS (cB (cBin (gEq false) (cVar 2) (cLit (.int 2)))) (cSeq (cAsg (tName 4) (cLst cNil))
  (cSeq (cFor (tName 5) (iRange1 (cBin gAdd (cLit (.int 1)) (cCall m_law_draw (cCons (cVar 0) (cCons (cLit (.int 3)) cNil))))) (cSeq (cAsg (tName 6) (cCall m_law_literal (cCons (cVar 0) (cCons (cVar 1) cNil))))
  (cIfS (cB (cBin (gIn true) (cVar 6) (cVar 4))) (cApp 4 (cVar 6)) (cSkip))))
  (cRet (cTup (cCons (cLit (.str "any")) (cCons (cBi gTuple (cCons (cVar 4) cNil)) cNil)))))) (cSkip))
  (cSeq (cIfS (cB (cBin (gEq false) (cVar 2) (cLit (.int 3)))) (cSeq (cAsg (tName 6) (cCall m_law_literal (cCons (cVar 0) (cCons (cVar 1) cNil))))
  (cRet (cTup (cCons (cLit (.str "when")) (cCons (cVar 6) (cCons (cCall m_law_terms (cCons (cVar 0) (cCons (cVar 1) cNil))) (cCons (cVar 3) (cCons (cBin Mp.gSub (cCall m_law_draw (cCons (cVar 0) (cCons (cLit (.int 16)) cNil))) (cLit (.int 6))) cNil)))))))) (cSkip))
  (cSeq (cIfS ((cAndT (cB (cBin (gEq false) (cVar 2) (cLit (.int 4)))) (cB (cBin gGt (cVar 1) (cLit (.int 1)))))) (cRet (cTup (cCons (cLit (.str "different")) (cCons (cCall m_law_some (cCons (cVar 0) (cCons (cVar 1) (cCons (cLit (.int 2)) cNil)))) cNil)))) (cSkip))
  (cSeq (cIfS (cB (cBin (gEq false) (cVar 2) (cLit (.int 5)))) (cSeq (cAsg (tName 7) (cSl (cCall m_law_some (cCons (cVar 0) (cCons (cVar 1) (cCons (cLit (.int 1)) cNil)))) oNone (oSome (cLit (.int 3)))))
  (cSeq (cAsg (tName 8) (cLst cNil))
  (cSeq (cFor (tName 5) (iRange1 (cBin gAdd (cLit (.int 1)) (cCall m_law_draw (cCons (cVar 0) (cCons (cLit (.int 4)) cNil))))) (cApp 8 (cBi gTuple (cCons (cLc (tName 10) (iVar 7) tYesT (cBin Mp.gSub (cCall m_law_draw (cCons (cVar 0) (cCons (cLit (.int 7)) cNil))) (cLit (.int 2))) [10]) cNil))))
  (cRet (cTup (cCons (cLit (.str "table")) (cCons (cVar 7) (cCons (cBi gTuple (cCons (cVar 8) cNil)) cNil)))))))) (cSkip))
  (cSeq (cIfS (cB (cBin (gEq false) (cVar 2) (cLit (.int 6)))) (cSeq (cAsg (tName 9) (cLc (tName 5) (iRange1 (cBin gAdd (cLit (.int 1)) (cCall m_law_draw (cCons (cVar 0) (cCons (cLit (.int 4)) cNil))))) tYesT (cBin Mp.gSub (cCall m_law_draw (cCons (cVar 0) (cCons (cLit (.int 7)) cNil))) (cLit (.int 2))) [5]))
  (cRet (cTup (cCons (cLit (.str "element")) (cCons (cCall m_law_draw (cCons (cVar 0) (cCons (cVar 1) cNil))) (cCons (cBi gTuple (cCons (cVar 9) cNil)) (cCons (cCall m_law_draw (cCons (cVar 0) (cCons (cVar 1) cNil))) cNil))))))) (cSkip))
  (cSeq (cIfS (cB (cBin (gEq false) (cVar 2) (cLit (.int 7)))) (cRet (cTup (cCons (cLit (.str "times")) (cCons (cCall m_law_draw (cCons (cVar 0) (cCons (cVar 1) cNil))) (cCons (cCall m_law_draw (cCons (cVar 0) (cCons (cVar 1) cNil))) (cCons (cCall m_law_draw (cCons (cVar 0) (cCons (cVar 1) cNil))) cNil)))))) (cSkip))
  (cRet (cTup (cCons (cLit (.str "row")) (cCons (cCall m_law_terms (cCons (cVar 0) (cCons (cVar 1) cNil))) (cCons (cVar 3) (cCons (cBin Mp.gSub (cCall m_law_draw (cCons (cVar 0) (cCons (cLit (.int 16)) cNil))) (cLit (.int 6))) cNil)))))))))))))
def m_law_body : FnSem := cFn 2 11 c_law_body
abbrev s_law_world : Stmt := topS 26
abbrev N_law_world : List Str := ["tape", "most", "width", "bodies", "unknowns", "v", "many", "found", "goal", "low", "k"]
theorem sc_law_world : FnScope N_law_world ["tape", "most", "width", "bodies"] (defScope s_law_world) := ⟨rfl, rfl, rfl, by decide +kernel, rfl, by decide +kernel, by decide +kernel⟩
def c_law_world : CS :=
  cSeq (cAsg (tName 4) (cLst cNil))
  (cSeq (cFor (tName 5) (iRange1 (cBin gAdd (cLit (.int 1)) (cCall m_law_draw (cCons (cVar 0) (cCons (cVar 1) cNil))))) (cSeq (cAsg (tName 9) (cBin Mp.gSub (cCall m_law_draw (cCons (cVar 0) (cCons (cLit (.int 5)) cNil))) (cLit (.int 2))))
  (cApp 4 (cTup (cCons (cIx (cLst (cCons (cLit (.str "x")) (cCons (cLit (.str "y")) (cCons (cLit (.str "z")) (cCons (cLit (.str "u")) (cCons (cLit (.str "w")) cNil)))))) (cVar 5)) (cCons (cVar 9) (cCons (cBin gAdd (cVar 9) (cCall m_law_draw (cCons (cVar 0) (cCons (cVar 2) cNil)))) cNil)))))))
  (cSeq (cAsg (tName 6) (cBi gLen (cCons (cVar 4) cNil)))
  (cSeq (cAsg (tName 7) (cLc (tName 10) (iRange1 (cCall m_law_draw (cCons (cVar 0) (cCons (cBin gAdd (cVar 3) (cLit (.int 1))) cNil)))) tYesT (cTup (cCons (cBin gAdd (cLit (.str "c")) (cBi gStr (cCons (cVar 10) cNil))) (cCons (cCall m_law_body (cCons (cVar 0) (cCons (cVar 6) cNil))) cNil))) [10]))
  (cSeq (cAsg (tName 8) (cTup (cCons (cIx (cLst (cCons (cLit (.str "max")) (cCons (cLit (.str "min")) cNil))) (cCall m_law_draw (cCons (cVar 0) (cCons (cLit (.int 2)) cNil)))) (cCons (cCall m_law_terms (cCons (cVar 0) (cCons (cVar 6) cNil))) (cCons (cBin Mp.gSub (cCall m_law_draw (cCons (cVar 0) (cCons (cLit (.int 5)) cNil))) (cLit (.int 2))) cNil)))))
  (cSeq (cIfS (cB (cBin (gEq false) (cCall m_law_draw (cCons (cVar 0) (cCons (cLit (.int 5)) cNil))) (cLit (.int 0)))) (cAsg (tName 8) (cTup (cCons (cLit (.str "max")) (cCons (cTup cNil) (cCons (cLit (.int 0)) cNil))))) (cSkip))
  (cFz [4, 7] (cRet (cLst (cCons (cVar 4) (cCons (cVar 7) (cCons (cVar 8) cNil)))))))))))
def m_law_world : FnSem := cFn 4 11 c_law_world
abbrev s_law_rel : Stmt := topS 27
abbrev N_law_rel : List Str := ["relation", "left", "right"]
theorem sc_law_rel : FnScope N_law_rel ["relation", "left", "right"] (defScope s_law_rel) := ⟨rfl, rfl, rfl, by decide +kernel, rfl, by decide +kernel, by decide +kernel⟩
def c_law_rel : CS :=
  cSeq (cIfS (cB (cBin (gEq false) (cVar 0) (cLit (.str "<=")))) (cRet (cBin gLe (cVar 1) (cVar 2))) (cSkip))
  (cSeq (cIfS (cB (cBin (gEq false) (cVar 0) (cLit (.str ">=")))) (cRet (cBin gGe (cVar 1) (cVar 2))) (cSkip))
  (cRet (cBin (gEq false) (cBin (gEq false) (cVar 1) (cVar 2)) (cBin (gEq false) (cVar 0) (cLit (.str "="))))))
def m_law_rel : FnSem := cFn 3 3 c_law_rel
abbrev s_law_sum : Stmt := topS 28
abbrev N_law_sum : List Str := ["terms", "point", "total", "v", "c"]
theorem sc_law_sum : FnScope N_law_sum ["terms", "point"] (defScope s_law_sum) := ⟨rfl, rfl, rfl, by decide +kernel, rfl, by decide +kernel, by decide +kernel⟩
def c_law_sum : CS :=
  cSeq (cAsg (tName 2) (cLit (.int 0)))
  (cSeq (cFor (tTup 2 (tCons (tName 3) (tCons (tName 4) tNil))) (iVar 0) (cAsg (tName 2) (cBin gAdd (cVar 2) (cBin gMul (cVar 4) (cIx (cVar 1) (cVar 3))))))
  (cRetV 2))
def m_law_sum : FnSem := cFn 2 5 c_law_sum
abbrev s_law_lit : Stmt := topS 29
abbrev N_law_lit : List Str := ["literal", "point"]
theorem sc_law_lit : FnScope N_law_lit ["literal", "point"] (defScope s_law_lit) := ⟨rfl, rfl, rfl, by decide +kernel, rfl, by decide +kernel, by decide +kernel⟩
def c_law_lit : CS :=
  cRet (cCall m_law_rel (cCons (cIx (cVar 0) (cLit (.int 1))) (cCons (cIx (cVar 1) (cIx (cVar 0) (cLit (.int 0)))) (cCons (cIx (cVar 0) (cLit (.int 2))) cNil))))
def m_law_lit : FnSem := cFn 2 2 c_law_lit
abbrev s_law_holds : Stmt := topS 30
abbrev N_law_holds : List Str := ["body", "point", "seen", "v", "at", "literal"]
theorem sc_law_holds : FnScope N_law_holds ["body", "point"] (defScope s_law_holds) := ⟨rfl, rfl, rfl, by decide +kernel, rfl, by decide +kernel, by decide +kernel⟩
def c_law_holds : CS :=
  cSeq (cIfS (cB (cBin (gEq false) (cIx (cVar 0) (cLit (.int 0))) (cLit (.str "row")))) (cRet (cCall m_law_rel (cCons (cIx (cVar 0) (cLit (.int 2))) (cCons (cCall m_law_sum (cCons (cIx (cVar 0) (cLit (.int 1))) (cCons (cVar 1) cNil))) (cCons (cIx (cVar 0) (cLit (.int 3))) cNil))))) (cSkip))
  (cSeq (cIfS (cB (cBin (gEq false) (cIx (cVar 0) (cLit (.int 0))) (cLit (.str "any")))) (cRet (cBin (gIn false) (cLit (.bl true)) (cLc (tName 5) (iExp (cIx (cVar 0) (cLit (.int 1)))) tYesT (cCall m_law_lit (cCons (cVar 5) (cCons (cVar 1) cNil))) [5]))) (cSkip))
  (cSeq (cIfS (cB (cBin (gEq false) (cIx (cVar 0) (cLit (.int 0))) (cLit (.str "when")))) (cRet ((cOrV (cNotV (cCall m_law_lit (cCons (cIx (cVar 0) (cLit (.int 1))) (cCons (cVar 1) cNil)))) (cCall m_law_rel (cCons (cIx (cVar 0) (cLit (.int 3))) (cCons (cCall m_law_sum (cCons (cIx (cVar 0) (cLit (.int 2))) (cCons (cVar 1) cNil))) (cCons (cIx (cVar 0) (cLit (.int 4))) cNil))))))) (cSkip))
  (cSeq (cIfS (cB (cBin (gEq false) (cIx (cVar 0) (cLit (.int 0))) (cLit (.str "different")))) (cSeq (cAsg (tName 2) (cLst cNil))
  (cSeq (cFor (tName 3) (iExp (cIx (cVar 0) (cLit (.int 1)))) (cSeq (cIfS (cB (cBin (gIn false) (cIx (cVar 1) (cVar 3)) (cVar 2))) (cRet (cLit (.bl false))) (cSkip))
  (cApp 2 (cIx (cVar 1) (cVar 3)))))
  (cRet (cLit (.bl true))))) (cSkip))
  (cSeq (cIfS (cB (cBin (gEq false) (cIx (cVar 0) (cLit (.int 0))) (cLit (.str "table")))) (cRet (cBin (gIn false) (cBi gTuple (cCons (cLc (tName 3) (iExp (cIx (cVar 0) (cLit (.int 1)))) tYesT (cIx (cVar 1) (cVar 3)) [3]) cNil)) (cIx (cVar 0) (cLit (.int 2))))) (cSkip))
  (cSeq (cIfS (cB (cBin (gEq false) (cIx (cVar 0) (cLit (.int 0))) (cLit (.str "element")))) (cSeq (cAsg (tName 4) (cIx (cVar 1) (cIx (cVar 0) (cLit (.int 1)))))
  (cRet ((cAndV (cBin gGe (cVar 4) (cLit (.int 0))) (cAndV (cBin gLt (cVar 4) (cBi gLen (cCons (cIx (cVar 0) (cLit (.int 2))) cNil))) (cBin (gEq false) (cIx (cIx (cVar 0) (cLit (.int 2))) (cVar 4)) (cIx (cVar 1) (cIx (cVar 0) (cLit (.int 3)))))))))) (cSkip))
  (cRet (cBin (gEq false) (cBin gMul (cIx (cVar 1) (cIx (cVar 0) (cLit (.int 1)))) (cIx (cVar 1) (cIx (cVar 0) (cLit (.int 2))))) (cIx (cVar 1) (cIx (cVar 0) (cLit (.int 3)))))))))))
def m_law_holds : FnSem := cFn 2 6 c_law_holds
abbrev s_law_written : Stmt := topS 31
abbrev N_law_written : List Str := ["body", "literal", "v", "c"]
theorem sc_law_written : FnScope N_law_written ["body"] (defScope s_law_written) := ⟨rfl, rfl, rfl, by decide +kernel, rfl, by decide +kernel, by decide +kernel⟩
def c_law_written : CS :=
  cSeq (cIfS (cB (cBin (gEq false) (cIx (cVar 0) (cLit (.int 0))) (cLit (.str "row")))) (cRet (cLc (tTup 2 (tCons (tName 2) (tCons (tName 3) tNil))) (iExp (cIx (cVar 0) (cLit (.int 1)))) tYesT (cVar 2) [2, 3])) (cSkip))
  (cSeq (cIfS (cB (cBin (gEq false) (cIx (cVar 0) (cLit (.int 0))) (cLit (.str "any")))) (cRet (cLc (tName 1) (iExp (cIx (cVar 0) (cLit (.int 1)))) tYesT (cIx (cVar 1) (cLit (.int 0))) [1])) (cSkip))
  (cSeq (cIfS (cB (cBin (gEq false) (cIx (cVar 0) (cLit (.int 0))) (cLit (.str "when")))) (cRet (cBin gAdd (cLst (cCons (cIx (cIx (cVar 0) (cLit (.int 1))) (cLit (.int 0))) cNil)) (cLc (tTup 2 (tCons (tName 2) (tCons (tName 3) tNil))) (iExp (cIx (cVar 0) (cLit (.int 2)))) tYesT (cVar 2) [2, 3]))) (cSkip))
  (cSeq (cIfS ((cOrT (cB (cBin (gEq false) (cIx (cVar 0) (cLit (.int 0))) (cLit (.str "different")))) (cB (cBin (gEq false) (cIx (cVar 0) (cLit (.int 0))) (cLit (.str "table")))))) (cRet (cBi gList (cCons (cIx (cVar 0) (cLit (.int 1))) cNil))) (cSkip))
  (cSeq (cIfS (cB (cBin (gEq false) (cIx (cVar 0) (cLit (.int 0))) (cLit (.str "element")))) (cRet (cLst (cCons (cIx (cVar 0) (cLit (.int 1))) (cCons (cIx (cVar 0) (cLit (.int 3))) cNil)))) (cSkip))
  (cRet (cLst (cCons (cIx (cVar 0) (cLit (.int 1))) (cCons (cIx (cVar 0) (cLit (.int 2))) (cCons (cIx (cVar 0) (cLit (.int 3))) cNil)))))))))
def m_law_written : FnSem := cFn 1 4 c_law_written
abbrev s_law_rows : Stmt := topS 32
abbrev N_law_rows : List Str := ["terms", "relation", "rhs", "upward", "downward", "v", "c"]
theorem sc_law_rows : FnScope N_law_rows ["terms", "relation", "rhs"] (defScope s_law_rows) := ⟨rfl, rfl, rfl, by decide +kernel, rfl, by decide +kernel, by decide +kernel⟩
def c_law_rows : CS :=
  cSeq (cAsg (tName 3) (cTup (cCons (cLit (.str "row")) (cCons (cVar 0) (cCons (cVar 2) cNil)))))
  (cSeq (cAsg (tName 4) (cTup (cCons (cLit (.str "row")) (cCons (cBi gTuple (cCons (cLc (tTup 2 (tCons (tName 5) (tCons (tName 6) tNil))) (iVar 0) tYesT (cTup (cCons (cVar 5) (cCons (cBin Mp.gSub (cLit (.int 0)) (cVar 6)) cNil))) [5, 6]) cNil)) (cCons (cBin Mp.gSub (cLit (.int 0)) (cVar 2)) cNil)))))
  (cSeq (cIfS (cB (cBin (gEq false) (cVar 1) (cLit (.str "<=")))) (cRet (cLst (cCons (cVar 3) cNil))) (cSkip))
  (cSeq (cIfS (cB (cBin (gEq false) (cVar 1) (cLit (.str ">=")))) (cRet (cLst (cCons (cVar 4) cNil))) (cSkip))
  (cRet (cLst (cCons (cVar 3) (cCons (cVar 4) cNil)))))))
def m_law_rows : FnSem := cFn 3 7 c_law_rows
abbrev s_law_big_unknowns : Stmt := topS 33
abbrev N_law_big_unknowns : List Str := ["tape", "many", "frees", "values", "v", "unknowns", "k", "a"]
theorem sc_law_big_unknowns : FnScope N_law_big_unknowns ["tape", "many", "frees"] (defScope s_law_big_unknowns) := ⟨rfl, rfl, rfl, by decide +kernel, rfl, by decide +kernel, by decide +kernel⟩
def c_law_big_unknowns : CS :=
  cSeq (cAsg (tName 3) (cLst (cCons (cCall m_law_draw (cCons (cVar 0) (cCons (cLit (.int 58)) cNil))) (cCons (cCall m_law_draw (cCons (cVar 0) (cCons (cLit (.int 31)) cNil))) (cCons (cBin Mp.gSub (cCall m_law_draw (cCons (cVar 0) (cCons (cLit (.int 61)) cNil))) (cLit (.int 30))) (cCons (cLit (.int 0)) (cCons (cLit (.int 0)) cNil)))))))
  (cSeq (cSetIx 3 (cLit (.int 3)) (cBin gMul (cIx (cVar 3) (cLit (.int 1))) (cIx (cVar 3) (cLit (.int 2)))))
  (cSeq (cSetIx 3 (cLit (.int 4)) (cBin gMod (cBi gInt (cCons (cBin gMul (cIx (cVar 3) (cLit (.int 0))) (cLit (.int 7))) cNil)) (cLit (.int 11))))
  (cSeq (cFor (tName 4) (iRange2 (cLit (.int 5)) (cVar 1)) (cApp 3 (cBin Mp.gSub (cCall m_law_draw (cCons (cVar 0) (cCons (cLit (.int 1901)) cNil))) (cLit (.int 950)))))
  (cSeq (cAsg (tName 5) (cLc (tName 4) (iRange1 (cVar 1)) tYesT (cTup (cCons (cBin gAdd (cLit (.str "v")) (cBi gStr (cCons (cVar 4) cNil))) (cCons (cIx (cVar 3) (cVar 4)) (cCons (cIx (cVar 3) (cVar 4)) cNil)))) [4]))
  (cSeq (cFor (tName 6) (iRange1 (cBin gAdd (cLit (.int 1)) (cCall m_law_draw (cCons (cVar 0) (cCons (cVar 2) cNil))))) (cSeq (cAsg (tName 4) (cCall m_law_draw (cCons (cVar 0) (cCons (cIx (cLst (cCons (cLit (.int 5)) (cCons (cVar 1) cNil))) (cCall m_law_draw (cCons (cVar 0) (cCons (cLit (.int 2)) cNil)))) cNil))))
  (cSetIx 5 (cVar 4) (cTup (cCons (cIx (cIx (cVar 5) (cVar 4)) (cLit (.int 0))) (cCons (cIx (cVar 3) (cVar 4)) (cCons (cBin gAdd (cBin gAdd (cIx (cVar 3) (cVar 4)) (cLit (.int 1))) (cCall m_law_draw (cCons (cVar 0) (cCons (cLit (.int 2)) cNil)))) cNil)))))))
  (cSeq (cIfS (cB (cBin (gEq false) (cCall m_law_draw (cCons (cVar 0) (cCons (cLit (.int 2)) cNil))) (cLit (.int 0)))) (cSeq (cAsg (tName 7) (cBin Mp.gSub (cBin gAdd (cIx (cVar 3) (cCall m_law_draw (cCons (cVar 0) (cCons (cBin Mp.gSub (cVar 1) (cLit (.int 1))) cNil)))) (cCall m_law_draw (cCons (cVar 0) (cCons (cLit (.int 3)) cNil)))) (cLit (.int 1))))
  (cSetIx 5 (cBin Mp.gSub (cVar 1) (cLit (.int 1))) (cTup (cCons (cIx (cIx (cVar 5) (cBin Mp.gSub (cVar 1) (cLit (.int 1)))) (cLit (.int 0))) (cCons (cVar 7) (cCons (cVar 7) cNil)))))) (cSkip))
  (cRetV 5)))))))
def m_law_big_unknowns : FnSem := cFn 3 8 c_law_big_unknowns
abbrev s_law_big_linear : Stmt := topS 34
abbrev N_law_big_linear : List Str := ["tape", "unknowns", "terms", "total", "v", "relation", "c"]
theorem sc_law_big_linear : FnScope N_law_big_linear ["tape", "unknowns"] (defScope s_law_big_linear) := ⟨rfl, rfl, rfl, by decide +kernel, rfl, by decide +kernel, by decide +kernel⟩
def c_law_big_linear : CS :=
  cSeq (cAsg (tName 2) (cLst cNil))
  (cSeq (cAsg (tName 3) (cLit (.int 0)))
  (cSeq (cFor (tName 4) (iRange1 (cBi gLen (cCons (cVar 1) cNil))) (cSeq (cAsg (tName 6) (cIx (cLst (cCons (cLit (.int 1)) (cCons (cBin Mp.gSub (cLit (.int 0)) (cLit (.int 1))) (cCons (cLit (.int 3)) (cCons (cBin Mp.gSub (cLit (.int 0)) (cLit (.int 400))) (cCons (cLit (.int 0)) cNil)))))) (cCall m_law_draw (cCons (cVar 0) (cCons (cLit (.int 5)) cNil)))))
  (cIfS (cB (cBin (gEq true) (cVar 6) (cLit (.int 0)))) (cSeq (cApp 2 (cTup (cCons (cVar 4) (cCons (cVar 6) cNil))))
  (cAsg (tName 3) (cBin gAdd (cVar 3) (cBin gMul (cVar 6) (cIx (cIx (cVar 1) (cVar 4)) (cLit (.int 1))))))) (cSkip))))
  (cSeq (cAsg (tName 5) (cIx (cLst (cCons (cLit (.str "<=")) (cCons (cLit (.str ">=")) (cCons (cLit (.str "=")) cNil)))) (cCall m_law_draw (cCons (cVar 0) (cCons (cLit (.int 3)) cNil)))))
  (cRet (cTup (cCons (cBi gTuple (cCons (cVar 2) cNil)) (cCons (cVar 5) (cCons (cBin gAdd (cVar 3) (cIx (cLst (cCons (cLit (.int 0)) (cCons (cLit (.int 0)) (cCons (cLit (.int 1)) (cCons (cBin Mp.gSub (cLit (.int 0)) (cLit (.int 1))) (cCons (cLit (.int 400)) cNil)))))) (cCall m_law_draw (cCons (cVar 0) (cCons (cLit (.int 5)) cNil))))) cNil))))))))
def m_law_big_linear : FnSem := cFn 2 7 c_law_big_linear
abbrev s_law_big_any : Stmt := topS 35
abbrev N_law_big_any : List Str := ["tape", "unknowns", "literals", "k", "v", "a", "literal"]
theorem sc_law_big_any : FnScope N_law_big_any ["tape", "unknowns"] (defScope s_law_big_any) := ⟨rfl, rfl, rfl, by decide +kernel, rfl, by decide +kernel, by decide +kernel⟩
def c_law_big_any : CS :=
  cSeq (cAsg (tName 2) (cLst cNil))
  (cSeq (cFor (tName 3) (iRange1 (cBin gAdd (cLit (.int 20)) (cCall m_law_draw (cCons (cVar 0) (cCons (cLit (.int 21)) cNil))))) (cSeq (cAsg (tName 4) (cCall m_law_draw (cCons (cVar 0) (cCons (cBi gLen (cCons (cVar 1) cNil)) cNil))))
  (cSeq (cAsg (tName 5) (cIx (cIx (cVar 1) (cVar 4)) (cLit (.int 1))))
  (cSeq (cAsg (tName 6) (cIx (cLst (cCons (cTup (cCons (cVar 4) (cCons (cLit (.str "=")) (cCons (cBin gAdd (cVar 5) (cLit (.int 1))) cNil)))) (cCons (cTup (cCons (cVar 4) (cCons (cLit (.str ">=")) (cCons (cBin gAdd (cVar 5) (cLit (.int 1))) cNil)))) (cCons (cTup (cCons (cVar 4) (cCons (cLit (.str "<=")) (cCons (cBin Mp.gSub (cVar 5) (cLit (.int 1))) cNil)))) (cCons (cTup (cCons (cVar 4) (cCons (cLit (.str "!=")) (cCons (cVar 5) cNil)))) cNil))))) (cCall m_law_draw (cCons (cVar 0) (cCons (cLit (.int 4)) cNil)))))
  (cIfS (cB (cBin (gIn true) (cVar 6) (cVar 2))) (cApp 2 (cVar 6)) (cSkip))))))
  (cSeq (cIfS (cB (cBin (gEq false) (cCall m_law_draw (cCons (cVar 0) (cCons (cLit (.int 3)) cNil))) (cLit (.int 0)))) (cSetIx 2 (cCall m_law_draw (cCons (cVar 0) (cCons (cBi gLen (cCons (cVar 2) cNil)) cNil))) (cTup (cCons (cLit (.int 0)) (cCons (cLit (.str ">=")) (cCons (cIx (cIx (cVar 1) (cLit (.int 0))) (cLit (.int 1))) cNil))))) (cSkip))
  (cRet (cTup (cCons (cLit (.str "any")) (cCons (cBi gTuple (cCons (cVar 2) cNil)) cNil))))))
def m_law_big_any : FnSem := cFn 2 7 c_law_big_any
abbrev s_law_big_table : Stmt := topS 36
abbrev N_law_big_table : List Str := ["tape", "unknowns", "first", "turn", "numbers", "point", "shift", "rows", "k", "at", "v", "row"]
theorem sc_law_big_table : FnScope N_law_big_table ["tape", "unknowns"] (defScope s_law_big_table) := ⟨rfl, rfl, rfl, by decide +kernel, rfl, by decide +kernel, by decide +kernel⟩
def c_law_big_table : CS :=
  cSeq (cAsg (tName 2) (cCall m_law_draw (cCons (cVar 0) (cCons (cIx (cLst (cCons (cLit (.int 1)) (cCons (cBin Mp.gSub (cBi gLen (cCons (cVar 1) cNil)) (cLit (.int 5))) cNil))) (cCall m_law_draw (cCons (cVar 0) (cCons (cLit (.int 2)) cNil)))) cNil))))
  (cSeq (cAsg (tName 3) (cCall m_law_draw (cCons (cVar 0) (cCons (cLit (.int 6)) cNil))))
  (cSeq (cAsg (tName 4) (cLc (tName 8) (iRange1 (cLit (.int 6))) tYesT (cBin gAdd (cVar 2) (cBin gMod (cBi gInt (cCons (cBin gAdd (cBin gMul (cVar 8) (cLit (.int 5))) (cVar 3)) cNil)) (cLit (.int 6)))) [8]))
  (cSeq (cFz [4] (cAsg (tName 5) (cLc (tName 10) (iVar 4) tYesT (cIx (cIx (cVar 1) (cVar 10)) (cLit (.int 1))) [10])))
  (cSeq (cAsg (tName 6) (cBin gAdd (cLit (.int 14)) (cCall m_law_draw (cCons (cVar 0) (cCons (cLit (.int 3)) cNil)))))
  (cSeq (cAsg (tName 7) (cLst cNil))
  (cSeq (cFor (tName 8) (iRange1 (cBin Mp.gSub (cLit (.int 200)) (cCall m_law_draw (cCons (cVar 0) (cCons (cLit (.int 100)) cNil))))) (cSeq (cAsg (tName 9) (cBin gMod (cBi gInt (cCons (cVar 8) cNil)) (cLit (.int 6))))
  (cApp 7 (cBi gTuple (cCons (cBin gAdd (cBin gAdd (cSl (cVar 5) oNone (oSome (cVar 9))) (cLst (cCons (cBin Mp.gSub (cBin gAdd (cIx (cVar 5) (cVar 9)) (cBin gDiv (cVar 8) (cLit (.int 6)))) (cVar 6)) cNil))) (cSl (cVar 5) (oSome (cBin gAdd (cVar 9) (cLit (.int 1)))) oNone)) cNil)))))
  (cSeq (cIfS (cB (cBin (gEq false) (cCall m_law_draw (cCons (cVar 0) (cCons (cLit (.int 3)) cNil))) (cLit (.int 0)))) (cFz [7] (cAsg (tName 7) (cLc (tName 11) (iVar 7) (cB (cBin (gEq true) (cBi gList (cCons (cVar 11) cNil)) (cVar 5))) (cVar 11) [11]))) (cSkip))
  (cRet (cTup (cCons (cLit (.str "table")) (cCons (cBi gTuple (cCons (cVar 4) cNil)) (cCons (cBi gTuple (cCons (cVar 7) cNil)) cNil))))))))))))
def m_law_big_table : FnSem := cFn 2 12 c_law_big_table
abbrev s_law_big_body : Stmt := topS 37
abbrev N_law_big_body : List Str := ["tape", "unknowns", "many", "kind", "v", "a", "entries", "terms", "relation", "rhs", "k"]
theorem sc_law_big_body : FnScope N_law_big_body ["tape", "unknowns"] (defScope s_law_big_body) := ⟨rfl, rfl, rfl, by decide +kernel, rfl, by decide +kernel, by decide +kernel⟩
def c_law_big_body : CS :=
  cSeq (cAsg (tName 2) (cBi gLen (cCons (cVar 1) cNil)))
  (cSeq (cAsg (tName 3) (cCall m_law_draw (cCons (cVar 0) (cCons (cLit (.int 8)) cNil))))
  (cSeq (cIfS (cB (cBin (gEq false) (cVar 3) (cLit (.int 0)))) (cRet (cCall m_law_big_any (cCons (cVar 0) (cCons (cVar 1) cNil)))) (cSkip))
  (cSeq (cIfS (cB (cBin (gEq false) (cVar 3) (cLit (.int 1)))) (cRet (cCall m_law_big_table (cCons (cVar 0) (cCons (cVar 1) cNil)))) (cSkip))
  (cSeq (cIfS (cB (cBin (gEq false) (cVar 3) (cLit (.int 2)))) (cRet (cTup (cCons (cLit (.str "different")) (cCons (cSl (cCall m_law_some (cCons (cVar 0) (cCons (cVar 2) (cCons (cBi gMin2 (cCons (cLit (.int 20)) (cCons (cVar 2) cNil))) cNil)))) oNone (oSome (cLit (.int 20)))) cNil)))) (cSkip))
  (cSeq (cIfS (cB (cBin (gEq false) (cVar 3) (cLit (.int 3)))) (cSeq (cAsg (tName 6) (cBi gTuple (cCons (cLc (tName 10) (iRange1 (cLit (.int 60))) tYesT (cBin gMod (cBi gInt (cCons (cBin gMul (cVar 10) (cLit (.int 7))) cNil)) (cLit (.int 11))) [10]) cNil)))
  (cRet (cTup (cCons (cLit (.str "element")) (cCons (cLit (.int 0)) (cCons (cVar 6) (cCons (cIx (cLst (cCons (cLit (.int 4)) (cCons (cLit (.int 4)) (cCons (cCall m_law_draw (cCons (cVar 0) (cCons (cVar 2) cNil))) cNil)))) (cCall m_law_draw (cCons (cVar 0) (cCons (cLit (.int 3)) cNil)))) cNil))))))) (cSkip))
  (cSeq (cIfS (cB (cBin (gEq false) (cVar 3) (cLit (.int 4)))) (cRet (cTup (cCons (cLit (.str "times")) (cCons (cLit (.int 1)) (cCons (cLit (.int 2)) (cCons (cIx (cLst (cCons (cLit (.int 3)) (cCons (cLit (.int 3)) (cCons (cCall m_law_draw (cCons (cVar 0) (cCons (cVar 2) cNil))) cNil)))) (cCall m_law_draw (cCons (cVar 0) (cCons (cLit (.int 3)) cNil)))) cNil)))))) (cSkip))
  (cSeq (cAsg (tTup 3 (tCons (tName 7) (tCons (tName 8) (tCons (tName 9) tNil)))) (cCall m_law_big_linear (cCons (cVar 0) (cCons (cVar 1) cNil))))
  (cSeq (cIfS (cB (cBin gGt (cVar 3) (cLit (.int 5)))) (cRet (cTup (cCons (cLit (.str "row")) (cCons (cVar 7) (cCons (cVar 8) (cCons (cVar 9) cNil)))))) (cSkip))
  (cSeq (cAsg (tName 4) (cCall m_law_draw (cCons (cVar 0) (cCons (cVar 2) cNil))))
  (cSeq (cAsg (tName 5) (cBin Mp.gSub (cBin gAdd (cIx (cIx (cVar 1) (cVar 4)) (cLit (.int 1))) (cCall m_law_draw (cCons (cVar 0) (cCons (cLit (.int 3)) cNil)))) (cLit (.int 1))))
  (cRet (cTup (cCons (cLit (.str "when")) (cCons (cTup (cCons (cVar 4) (cCons (cIx (cLst (cCons (cLit (.str "<=")) (cCons (cLit (.str ">=")) (cCons (cLit (.str "=")) (cCons (cLit (.str "!=")) cNil))))) (cCall m_law_draw (cCons (cVar 0) (cCons (cLit (.int 4)) cNil)))) (cCons (cVar 5) cNil)))) (cCons (cVar 7) (cCons (cVar 8) (cCons (cVar 9) cNil)))))))))))))))))
def m_law_big_body : FnSem := cFn 2 11 c_law_big_body
abbrev s_law_most : Stmt := topS 38
abbrev N_law_most : List Str := ["box", "terms", "total", "v", "c"]
theorem sc_law_most : FnScope N_law_most ["box", "terms"] (defScope s_law_most) := ⟨rfl, rfl, rfl, by decide +kernel, rfl, by decide +kernel, by decide +kernel⟩
def c_law_most : CS :=
  cSeq (cAsg (tName 2) (cLit (.int 0)))
  (cSeq (cFor (tTup 2 (tCons (tName 3) (tCons (tName 4) tNil))) (iVar 1) (cAsg (tName 2) (cBin gAdd (cVar 2) (cBi gMax2 (cCons (cBin gMul (cVar 4) (cIx (cIx (cVar 0) (cLit (.int 0))) (cVar 3))) (cCons (cBin gMul (cVar 4) (cIx (cIx (cVar 0) (cLit (.int 1))) (cVar 3))) cNil))))))
  (cRetV 2))
def m_law_most : FnSem := cFn 2 5 c_law_most
abbrev s_law_rows_hold : Stmt := topS 39
abbrev N_law_rows_hold : List Str := ["box", "rows", "row"]
theorem sc_law_rows_hold : FnScope N_law_rows_hold ["box", "rows"] (defScope s_law_rows_hold) := ⟨rfl, rfl, rfl, by decide +kernel, rfl, by decide +kernel, by decide +kernel⟩
def c_law_rows_hold : CS :=
  cRet (cBin (gIn true) (cLit (.bl false)) (cLc (tName 2) (iVar 1) tYesT (cBin gLe (cCall m_law_most (cCons (cVar 0) (cCons (cIx (cVar 2) (cLit (.int 1))) cNil))) (cIx (cVar 2) (cLit (.int 2)))) [2]))
def m_law_rows_hold : FnSem := cFn 2 3 c_law_rows_hold
abbrev s_law_always : Stmt := topS 40
abbrev N_law_always : List Str := ["box", "literal", "kept", "v", "relation", "a", "x"]
theorem sc_law_always : FnScope N_law_always ["box", "literal", "kept"] (defScope s_law_always) := ⟨rfl, rfl, rfl, by decide +kernel, rfl, by decide +kernel, by decide +kernel⟩
def c_law_always : CS :=
  cSeq (cAsg (tTup 3 (tCons (tName 3) (tCons (tName 4) (tCons (tName 5) tNil)))) (cVar 1))
  (cRet (cBin (gIn true) (cLit (.bl false)) (cLc (tName 6) (iRange2 (cIx (cIx (cVar 0) (cLit (.int 0))) (cVar 3)) (cBin gAdd (cIx (cIx (cVar 0) (cLit (.int 1))) (cVar 3)) (cLit (.int 1)))) tYesT (cBin (gEq false) (cCall m_law_rel (cCons (cVar 4) (cCons (cVar 6) (cCons (cVar 5) cNil)))) (cVar 2)) [6])))
def m_law_always : FnSem := cFn 3 7 c_law_always
abbrev s_law_seen : Stmt := topS 41
abbrev N_law_seen : List Str := ["box", "body", "x", "y", "v", "literal"]
theorem sc_law_seen : FnScope N_law_seen ["box", "body"] (defScope s_law_seen) := ⟨rfl, rfl, rfl, by decide +kernel, rfl, by decide +kernel, by decide +kernel⟩
def c_law_seen : CS :=
  cSeq (cIfS (cB (cBin (gEq false) (cIx (cVar 1) (cLit (.int 0))) (cLit (.str "row")))) (cRet (cCall m_law_rows_hold (cCons (cVar 0) (cCons (cCall m_law_rows (cCons (cIx (cVar 1) (cLit (.int 1))) (cCons (cIx (cVar 1) (cLit (.int 2))) (cCons (cIx (cVar 1) (cLit (.int 3))) cNil)))) cNil)))) (cSkip))
  (cSeq (cIfS (cB (cBin (gEq false) (cIx (cVar 1) (cLit (.int 0))) (cLit (.str "any")))) (cRet (cBin (gIn false) (cLit (.bl true)) (cLc (tName 5) (iExp (cIx (cVar 1) (cLit (.int 1)))) tYesT (cCall m_law_always (cCons (cVar 0) (cCons (cVar 5) (cCons (cLit (.bl true)) cNil)))) [5]))) (cSkip))
  (cSeq (cIfS (cB (cBin (gEq false) (cIx (cVar 1) (cLit (.int 0))) (cLit (.str "when")))) (cRet ((cOrV (cCall m_law_always (cCons (cVar 0) (cCons (cIx (cVar 1) (cLit (.int 1))) (cCons (cLit (.bl false)) cNil)))) (cCall m_law_rows_hold (cCons (cVar 0) (cCons (cCall m_law_rows (cCons (cIx (cVar 1) (cLit (.int 2))) (cCons (cIx (cVar 1) (cLit (.int 3))) (cCons (cIx (cVar 1) (cLit (.int 4))) cNil)))) cNil)))))) (cSkip))
  (cSeq (cIfS (cB (cBin (gEq false) (cIx (cVar 1) (cLit (.int 0))) (cLit (.str "different")))) (cSeq (cFor (tName 2) (iExp (cIx (cVar 1) (cLit (.int 1)))) (cFor (tName 3) (iExp (cIx (cVar 1) (cLit (.int 1)))) (cIfS ((cAndT (cB (cBin (gEq true) (cVar 2) (cVar 3))) (cAndT (cB (cBin gLe (cIx (cIx (cVar 0) (cLit (.int 0))) (cVar 2)) (cIx (cIx (cVar 0) (cLit (.int 1))) (cVar 3)))) (cB (cBin gLe (cIx (cIx (cVar 0) (cLit (.int 0))) (cVar 3)) (cIx (cIx (cVar 0) (cLit (.int 1))) (cVar 2))))))) (cRet (cLit (.bl false))) (cSkip))))
  (cRet (cLit (.bl true)))) (cSkip))
  (cSeq (cIfS (cB (cBin (gIn false) (cLit (.bl true)) (cLc (tName 4) (iExp (cCall m_law_written (cCons (cVar 1) cNil))) tYesT (cBin gLt (cIx (cIx (cVar 0) (cLit (.int 0))) (cVar 4)) (cIx (cIx (cVar 0) (cLit (.int 1))) (cVar 4))) [4]))) (cRet (cLit (.bl false))) (cSkip))
  (cRet (cCall m_law_holds (cCons (cVar 1) (cCons (cIx (cVar 0) (cLit (.int 0))) cNil))))))))
def m_law_seen : FnSem := cFn 2 6 c_law_seen
abbrev s_law_near : Stmt := topS 42
abbrev N_law_near : List Str := ["tape", "box", "body", "rhs"]
theorem sc_law_near : FnScope N_law_near ["tape", "box", "body"] (defScope s_law_near) := ⟨rfl, rfl, rfl, by decide +kernel, rfl, by decide +kernel, by decide +kernel⟩
def c_law_near : CS :=
  cSeq (cIfS (cB (cBin (gEq false) (cIx (cVar 2) (cLit (.int 0))) (cLit (.str "row")))) (cRet (cTup (cCons (cLit (.str "row")) (cCons (cIx (cVar 2) (cLit (.int 1))) (cCons (cLit (.str "<=")) (cCons (cBin Mp.gSub (cBin gAdd (cCall m_law_most (cCons (cVar 1) (cCons (cIx (cVar 2) (cLit (.int 1))) cNil))) (cCall m_law_draw (cCons (cVar 0) (cCons (cLit (.int 3)) cNil)))) (cLit (.int 1))) cNil)))))) (cSkip))
  (cSeq (cIfS (cB (cBin (gEq false) (cIx (cVar 2) (cLit (.int 0))) (cLit (.str "when")))) (cSeq (cAsg (tName 3) (cBin Mp.gSub (cBin gAdd (cCall m_law_most (cCons (cVar 1) (cCons (cIx (cVar 2) (cLit (.int 2))) cNil))) (cCall m_law_draw (cCons (cVar 0) (cCons (cLit (.int 3)) cNil)))) (cLit (.int 1))))
  (cRet (cTup (cCons (cLit (.str "when")) (cCons (cIx (cVar 2) (cLit (.int 1))) (cCons (cIx (cVar 2) (cLit (.int 2))) (cCons (cLit (.str "<=")) (cCons (cVar 3) cNil)))))))) (cSkip))
  (cRetV 2))
def m_law_near : FnSem := cFn 3 4 c_law_near
abbrev s_law : Stmt := topS 43
abbrev N_law : List Str := ["script", "tape", "unknowns", "body", "box", "one", "told", "k", "point", "name", "low", "high"]
theorem sc_law : FnScope N_law ["script"] (defScope s_law) := ⟨rfl, rfl, rfl, by decide +kernel, rfl, by decide +kernel, by decide +kernel⟩
def c_law : CS :=
  cSeq (cAsg (tName 1) (cCall m_law_tape (cCons (cVar 0) cNil)))
  (cSeq (cAsg (tName 2) (cIx (cCall m_law_world (cCons (cVar 1) (cCons (cLit (.int 4)) (cCons (cLit (.int 4)) (cCons (cLit (.int 0)) cNil))))) (cLit (.int 0))))
  (cSeq (cIfS (cB (cBin (gEq false) (cCall m_law_draw (cCons (cVar 1) (cCons (cLit (.int 2)) cNil))) (cLit (.int 0)))) (cFz [2] (cAsg (tName 2) (cLc (tTup 3 (tCons (tName 9) (tCons (tName 10) (tCons (tName 11) tNil)))) (iVar 2) tYesT (cTup (cCons (cVar 9) (cCons (cVar 10) (cCons (cBin gAdd (cVar 10) (cBin gMul (cBin Mp.gSub (cVar 11) (cVar 10)) (cCall m_law_draw (cCons (cVar 1) (cCons (cLit (.int 2)) cNil))))) cNil)))) [9, 10, 11]))) (cSkip))
  (cSeq (cAsg (tName 3) (cCall m_law_body (cCons (cVar 1) (cCons (cBi gLen (cCons (cVar 2) cNil)) cNil))))
  (cSeq (cIfS (cB (cBin (gEq false) (cCall m_law_draw (cCons (cVar 1) (cCons (cLit (.int 8)) cNil))) (cLit (.int 0)))) (cSeq (cAsg (tName 2) (cCall m_law_big_unknowns (cCons (cVar 1) (cCons (cBin gAdd (cLit (.int 20)) (cCall m_law_draw (cCons (cVar 1) (cCons (cLit (.int 41)) cNil)))) (cCons (cLit (.int 4)) cNil)))))
  (cAsg (tName 3) (cCall m_law_big_body (cCons (cVar 1) (cCons (cVar 2) cNil))))) (cSkip))
  (cSeq (cFz [2] (cAsg (tName 4) (cTup (cCons (cBi gTuple (cCons (cLc (tTup 3 (tCons (tName 9) (tCons (tName 10) (tCons (tName 11) tNil)))) (iVar 2) tYesT (cVar 10) [9, 10, 11]) cNil)) (cCons (cBi gTuple (cCons (cLc (tTup 3 (tCons (tName 9) (tCons (tName 10) (tCons (tName 11) tNil)))) (iVar 2) tYesT (cVar 11) [9, 10, 11]) cNil)) cNil)))))
  (cSeq (cFor (tName 5) (iExp (cLst (cCons (cVar 3) (cCons (cCall m_law_near (cCons (cVar 1) (cCons (cVar 4) (cCons (cVar 3) cNil)))) cNil)))) (cSeq (cAsg (tName 6) (cCall m_surely_holds (cCons (cVar 5) (cCons (cVar 4) cNil))))
  (cSeq (cIfS (cNotT (cB (cCall m_law_same (cCons (cVar 6) (cCons (cCall m_law_seen (cCons (cVar 4) (cCons (cVar 5) cNil))) cNil))))) (cRet (cLit (.bl false))) (cSkip))
  (cFor (tName 7) (iRange1 (cLit (.int 5))) (cSeq (cFz [2] (cAsg (tName 8) (cBi gTuple (cCons (cLc (tTup 3 (tCons (tName 9) (tCons (tName 10) (tCons (tName 11) tNil)))) (iVar 2) tYesT (cBin gAdd (cVar 10) (cCall m_law_draw (cCons (cVar 1) (cCons (cBin gAdd (cBin Mp.gSub (cVar 11) (cVar 10)) (cLit (.int 1))) cNil)))) [9, 10, 11]) cNil))))
  (cIfS ((cAndT (cB (cVar 6)) (cNotT (cB (cCall m_law_holds (cCons (cVar 5) (cCons (cVar 8) cNil))))))) (cRet (cLit (.bl false))) (cSkip)))))))
  (cRet (cLit (.bl true)))))))))
def m_law : FnSem := cFn 1 12 c_law
structure Txt (K : PySem.W.Frag) (mg : Str → Option Value) where
  a_relation_holds : Addr
  d_relation_holds : FuncData
  F_relation_holds : Fun K "relation_holds" "relation_holds" s_relation_holds a_relation_holds d_relation_holds
  g_relation_holds : mg "relation_holds" = some (.ref a_relation_holds)
  b_relation_holds : L2.Binds K d_relation_holds ["relation", "left", "right"] []
  a_literal_holds : Addr
  d_literal_holds : FuncData
  F_literal_holds : Fun K "literal_holds" "literal_holds" s_literal_holds a_literal_holds d_literal_holds
  g_literal_holds : mg "literal_holds" = some (.ref a_literal_holds)
  b_literal_holds : L2.Binds K d_literal_holds ["literal", "worth"] []
  a_negated : Addr
  d_negated : FuncData
  F_negated : Fun K "negated" "negated" s_negated a_negated d_negated
  g_negated : mg "negated" = some (.ref a_negated)
  b_negated : L2.Binds K d_negated ["literal"] []
  a_terms_sum : Addr
  d_terms_sum : FuncData
  F_terms_sum : Fun K "terms_sum" "terms_sum" s_terms_sum a_terms_sum d_terms_sum
  g_terms_sum : mg "terms_sum" = some (.ref a_terms_sum)
  b_terms_sum : L2.Binds K d_terms_sum ["terms", "point"] []
  a_negated_terms : Addr
  d_negated_terms : FuncData
  F_negated_terms : Fun K "negated_terms" "negated_terms" s_negated_terms a_negated_terms d_negated_terms
  g_negated_terms : mg "negated_terms" = some (.ref a_negated_terms)
  b_negated_terms : L2.Binds K d_negated_terms ["terms"] []
  a_rows_of : Addr
  d_rows_of : FuncData
  F_rows_of : Fun K "rows_of" "rows_of" s_rows_of a_rows_of d_rows_of
  g_rows_of : mg "rows_of" = some (.ref a_rows_of)
  b_rows_of : L2.Binds K d_rows_of ["terms", "relation", "rhs"] []
  a_unknowns_of : Addr
  d_unknowns_of : FuncData
  F_unknowns_of : Fun K "unknowns_of" "unknowns_of" s_unknowns_of a_unknowns_of d_unknowns_of
  g_unknowns_of : mg "unknowns_of" = some (.ref a_unknowns_of)
  b_unknowns_of : L2.Binds K d_unknowns_of ["body"] []
  a_body_holds : Addr
  d_body_holds : FuncData
  F_body_holds : Fun K "body_holds" "body_holds" s_body_holds a_body_holds d_body_holds
  g_body_holds : mg "body_holds" = some (.ref a_body_holds)
  b_body_holds : L2.Binds K d_body_holds ["body", "point"] []
  a_is_possible : Addr
  d_is_possible : FuncData
  F_is_possible : Fun K "is_possible" "is_possible" s_is_possible a_is_possible d_is_possible
  g_is_possible : mg "is_possible" = some (.ref a_is_possible)
  b_is_possible : L2.Binds K d_is_possible ["box", "literal"] []
  a_is_sure : Addr
  d_is_sure : FuncData
  F_is_sure : Fun K "is_sure" "is_sure" s_is_sure a_is_sure d_is_sure
  g_is_sure : mg "is_sure" = some (.ref a_is_sure)
  b_is_sure : L2.Binds K d_is_sure ["box", "literal"] []
  a_least_sum : Addr
  d_least_sum : FuncData
  F_least_sum : Fun K "least_sum" "least_sum" s_least_sum a_least_sum d_least_sum
  g_least_sum : mg "least_sum" = some (.ref a_least_sum)
  b_least_sum : L2.Binds K d_least_sum ["box", "terms"] []
  a_rows_sure : Addr
  d_rows_sure : FuncData
  F_rows_sure : Fun K "rows_sure" "rows_sure" s_rows_sure a_rows_sure d_rows_sure
  g_rows_sure : mg "rows_sure" = some (.ref a_rows_sure)
  b_rows_sure : L2.Binds K d_rows_sure ["box", "rows"] []
  a_always_apart : Addr
  d_always_apart : FuncData
  F_always_apart : Fun K "always_apart" "always_apart" s_always_apart a_always_apart d_always_apart
  g_always_apart : mg "always_apart" = some (.ref a_always_apart)
  b_always_apart : L2.Binds K d_always_apart ["box", "numbers"] []
  a_surely_holds : Addr
  d_surely_holds : FuncData
  F_surely_holds : Fun K "surely_holds" "surely_holds" s_surely_holds a_surely_holds d_surely_holds
  g_surely_holds : mg "surely_holds" = some (.ref a_surely_holds)
  b_surely_holds : L2.Binds K d_surely_holds ["body", "box"] []
  a_law_same : Addr
  d_law_same : FuncData
  F_law_same : Fun K "_law_same" "_law_same" s_law_same a_law_same d_law_same
  g_law_same : mg "_law_same" = some (.ref a_law_same)
  b_law_same : L2.Binds K d_law_same ["told", "due"] []
  a_law_draw : Addr
  d_law_draw : FuncData
  F_law_draw : Fun K "_law_draw" "_law_draw" s_law_draw a_law_draw d_law_draw
  g_law_draw : mg "_law_draw" = some (.ref a_law_draw)
  b_law_draw : L2.Binds K d_law_draw ["tape", "many"] []
  a_law_tape : Addr
  d_law_tape : FuncData
  F_law_tape : Fun K "_law_tape" "_law_tape" s_law_tape a_law_tape d_law_tape
  g_law_tape : mg "_law_tape" = some (.ref a_law_tape)
  b_law_tape : L2.Binds K d_law_tape ["script"] []
  a_law_terms : Addr
  d_law_terms : FuncData
  F_law_terms : Fun K "_law_terms" "_law_terms" s_law_terms a_law_terms d_law_terms
  g_law_terms : mg "_law_terms" = some (.ref a_law_terms)
  b_law_terms : L2.Binds K d_law_terms ["tape", "many"] []
  a_law_literal : Addr
  d_law_literal : FuncData
  F_law_literal : Fun K "_law_literal" "_law_literal" s_law_literal a_law_literal d_law_literal
  g_law_literal : mg "_law_literal" = some (.ref a_law_literal)
  b_law_literal : L2.Binds K d_law_literal ["tape", "many"] []
  a_law_some : Addr
  d_law_some : FuncData
  F_law_some : Fun K "_law_some" "_law_some" s_law_some a_law_some d_law_some
  g_law_some : mg "_law_some" = some (.ref a_law_some)
  b_law_some : L2.Binds K d_law_some ["tape", "many", "least"] []
  a_law_body : Addr
  d_law_body : FuncData
  F_law_body : Fun K "_law_body" "_law_body" s_law_body a_law_body d_law_body
  g_law_body : mg "_law_body" = some (.ref a_law_body)
  b_law_body : L2.Binds K d_law_body ["tape", "many"] []
  a_law_world : Addr
  d_law_world : FuncData
  F_law_world : Fun K "_law_world" "_law_world" s_law_world a_law_world d_law_world
  g_law_world : mg "_law_world" = some (.ref a_law_world)
  b_law_world : L2.Binds K d_law_world ["tape", "most", "width", "bodies"] []
  a_law_rel : Addr
  d_law_rel : FuncData
  F_law_rel : Fun K "_law_rel" "_law_rel" s_law_rel a_law_rel d_law_rel
  g_law_rel : mg "_law_rel" = some (.ref a_law_rel)
  b_law_rel : L2.Binds K d_law_rel ["relation", "left", "right"] []
  a_law_sum : Addr
  d_law_sum : FuncData
  F_law_sum : Fun K "_law_sum" "_law_sum" s_law_sum a_law_sum d_law_sum
  g_law_sum : mg "_law_sum" = some (.ref a_law_sum)
  b_law_sum : L2.Binds K d_law_sum ["terms", "point"] []
  a_law_lit : Addr
  d_law_lit : FuncData
  F_law_lit : Fun K "_law_lit" "_law_lit" s_law_lit a_law_lit d_law_lit
  g_law_lit : mg "_law_lit" = some (.ref a_law_lit)
  b_law_lit : L2.Binds K d_law_lit ["literal", "point"] []
  a_law_holds : Addr
  d_law_holds : FuncData
  F_law_holds : Fun K "_law_holds" "_law_holds" s_law_holds a_law_holds d_law_holds
  g_law_holds : mg "_law_holds" = some (.ref a_law_holds)
  b_law_holds : L2.Binds K d_law_holds ["body", "point"] []
  a_law_written : Addr
  d_law_written : FuncData
  F_law_written : Fun K "_law_written" "_law_written" s_law_written a_law_written d_law_written
  g_law_written : mg "_law_written" = some (.ref a_law_written)
  b_law_written : L2.Binds K d_law_written ["body"] []
  a_law_rows : Addr
  d_law_rows : FuncData
  F_law_rows : Fun K "_law_rows" "_law_rows" s_law_rows a_law_rows d_law_rows
  g_law_rows : mg "_law_rows" = some (.ref a_law_rows)
  b_law_rows : L2.Binds K d_law_rows ["terms", "relation", "rhs"] []
  a_law_big_unknowns : Addr
  d_law_big_unknowns : FuncData
  F_law_big_unknowns : Fun K "_law_big_unknowns" "_law_big_unknowns" s_law_big_unknowns a_law_big_unknowns d_law_big_unknowns
  g_law_big_unknowns : mg "_law_big_unknowns" = some (.ref a_law_big_unknowns)
  b_law_big_unknowns : L2.Binds K d_law_big_unknowns ["tape", "many", "frees"] []
  a_law_big_linear : Addr
  d_law_big_linear : FuncData
  F_law_big_linear : Fun K "_law_big_linear" "_law_big_linear" s_law_big_linear a_law_big_linear d_law_big_linear
  g_law_big_linear : mg "_law_big_linear" = some (.ref a_law_big_linear)
  b_law_big_linear : L2.Binds K d_law_big_linear ["tape", "unknowns"] []
  a_law_big_any : Addr
  d_law_big_any : FuncData
  F_law_big_any : Fun K "_law_big_any" "_law_big_any" s_law_big_any a_law_big_any d_law_big_any
  g_law_big_any : mg "_law_big_any" = some (.ref a_law_big_any)
  b_law_big_any : L2.Binds K d_law_big_any ["tape", "unknowns"] []
  a_law_big_table : Addr
  d_law_big_table : FuncData
  F_law_big_table : Fun K "_law_big_table" "_law_big_table" s_law_big_table a_law_big_table d_law_big_table
  g_law_big_table : mg "_law_big_table" = some (.ref a_law_big_table)
  b_law_big_table : L2.Binds K d_law_big_table ["tape", "unknowns"] []
  a_law_big_body : Addr
  d_law_big_body : FuncData
  F_law_big_body : Fun K "_law_big_body" "_law_big_body" s_law_big_body a_law_big_body d_law_big_body
  g_law_big_body : mg "_law_big_body" = some (.ref a_law_big_body)
  b_law_big_body : L2.Binds K d_law_big_body ["tape", "unknowns"] []
  a_law_most : Addr
  d_law_most : FuncData
  F_law_most : Fun K "_law_most" "_law_most" s_law_most a_law_most d_law_most
  g_law_most : mg "_law_most" = some (.ref a_law_most)
  b_law_most : L2.Binds K d_law_most ["box", "terms"] []
  a_law_rows_hold : Addr
  d_law_rows_hold : FuncData
  F_law_rows_hold : Fun K "_law_rows_hold" "_law_rows_hold" s_law_rows_hold a_law_rows_hold d_law_rows_hold
  g_law_rows_hold : mg "_law_rows_hold" = some (.ref a_law_rows_hold)
  b_law_rows_hold : L2.Binds K d_law_rows_hold ["box", "rows"] []
  a_law_always : Addr
  d_law_always : FuncData
  F_law_always : Fun K "_law_always" "_law_always" s_law_always a_law_always d_law_always
  g_law_always : mg "_law_always" = some (.ref a_law_always)
  b_law_always : L2.Binds K d_law_always ["box", "literal", "kept"] []
  a_law_seen : Addr
  d_law_seen : FuncData
  F_law_seen : Fun K "_law_seen" "_law_seen" s_law_seen a_law_seen d_law_seen
  g_law_seen : mg "_law_seen" = some (.ref a_law_seen)
  b_law_seen : L2.Binds K d_law_seen ["box", "body"] []
  a_law_near : Addr
  d_law_near : FuncData
  F_law_near : Fun K "_law_near" "_law_near" s_law_near a_law_near d_law_near
  g_law_near : mg "_law_near" = some (.ref a_law_near)
  b_law_near : L2.Binds K d_law_near ["tape", "box", "body"] []
  a_law : Addr
  d_law : FuncData
  F_law : Fun K "law" "law" s_law a_law d_law
  g_law : mg "law" = some (.ref a_law)
  b_law : L2.Binds K d_law ["script"] []
  n_all : mg "all" = none
  n_any : mg "any" = none
  n_bool : mg "bool" = none
  n_enumerate : mg "enumerate" = none
  n_int : mg "int" = none
  n_isinstance : mg "isinstance" = none
  n_len : mg "len" = none
  n_list : mg "list" = none
  n_max : mg "max" = none
  n_min : mg "min" = none
  n_range : mg "range" = none
  n_set : mg "set" = none
  n_sorted : mg "sorted" = none
  n_str : mg "str" = none
  n_tuple : mg "tuple" = none
section
variable {P : Program} {w : World} {K : PySem.W.Frag} {mg : Str → Option Value} {base : Heap}
theorem ok_relation_holds (T : Txt K mg) : FnOk P w K mg base CX0 1 T.a_relation_holds T.d_relation_holds ["relation", "left", "right"] (spF K 3 m_relation_holds) :=
  fn_ok T.F_relation_holds sc_relation_holds (by decide) fun cdv A outer s H E hr => (s_cons (s_if (t_eq hr (e_var 0) (e_str)) (s_one (s_ret (e_le (e_var 1) (e_var 2)))) s_nil)
    (s_cons (s_if (t_eq hr (e_var 0) (e_str)) (s_one (s_ret (e_ge (e_var 1) (e_var 2)))) s_nil)
    (s_cons (s_if (t_eq hr (e_var 0) (e_str)) (s_one (s_ret (e_eq hr (e_var 1) (e_var 2)))) s_nil)
    (s_one (s_ret (e_ne hr (e_var 1) (e_var 2)))))))
theorem ok_literal_holds (T : Txt K mg) : FnOk P w K mg base CX0 2 T.a_literal_holds T.d_literal_holds ["literal", "worth"] (spF K 2 m_literal_holds) :=
  fn_ok T.F_literal_holds sc_literal_holds (by decide) fun cdv A outer s H E hr => (s_one (s_ret (e_call (ok_relation_holds T) hr (by decide) T.g_relation_holds T.F_relation_holds.kp T.b_relation_holds (fun _ _ _ => cFn_len) (a_cons (e_ix hr (e_var 0) (e_int)) (a_cons (e_var 1) (a_cons (e_ix hr (e_var 0) (e_int)) a_nil))))))
theorem ok_negated (T : Txt K mg) : FnOk P w K mg base CX0 1 T.a_negated T.d_negated ["literal"] (spF K 1 m_negated) :=
  fn_ok T.F_negated sc_negated (by decide) fun cdv A outer s H E hr => (s_cons (s_asg (g_tup rfl (gs_cons (g_name 1 sc_negated.nd) (gs_cons (g_name 2 sc_negated.nd) (gs_cons (g_name 3 sc_negated.nd) gs_nil)))) (e_var 0))
    (s_cons (s_if (t_eq hr (e_var 2) (e_str)) (s_one (s_ret (e_tup (a_cons (e_var 1) (a_cons (e_str) (a_cons (e_add (e_var 3) (e_int)) a_nil)))))) s_nil)
    (s_cons (s_if (t_eq hr (e_var 2) (e_str)) (s_one (s_ret (e_tup (a_cons (e_var 1) (a_cons (e_str) (a_cons (e_sub (e_var 3) (e_int)) a_nil)))))) s_nil)
    (s_cons (s_if (t_eq hr (e_var 2) (e_str)) (s_one (s_ret (e_tup (a_cons (e_var 1) (a_cons (e_str) (a_cons (e_var 3) a_nil)))))) s_nil)
    (s_one (s_ret (e_tup (a_cons (e_var 1) (a_cons (e_str) (a_cons (e_var 3) a_nil))))))))))
theorem ok_terms_sum (T : Txt K mg) : FnOk P w K mg base CX0 1 T.a_terms_sum T.d_terms_sum ["terms", "point"] (spF K 2 m_terms_sum) :=
  fn_ok T.F_terms_sum sc_terms_sum (by decide) fun cdv A outer s H E hr => (s_cons (s_asg (g_name 2 sc_terms_sum.nd) (e_int))
    (s_cons (s_for rfl (g_tup rfl (gs_cons (g_name 3 sc_terms_sum.nd) (gs_cons (g_name 4 sc_terms_sum.nd) gs_nil))) (i_var 0) (s_one (s_augAdd 2 sc_terms_sum.nd (e_mul (e_var 4) (e_ix hr (e_var 1) (e_var 3))))))
    (s_one (s_retV 2))))
theorem ok_negated_terms (T : Txt K mg) : FnOk P w K mg base CX0 1 T.a_negated_terms T.d_negated_terms ["terms"] (spF K 1 m_negated_terms) :=
  fn_ok T.F_negated_terms sc_negated_terms (by decide) fun cdv A outer s H E hr => (s_one (s_ret (e_tuple T.n_tuple (e_lc (own := [("v", 1), ("c", 2)]) rfl sc_negated_terms.nd (i_var 0) (blkOk_by (N := N_negated_terms) (sc := (defScope s_negated_terms)) (by decide +kernel)) (by decide) (fun _ _ _ _ _ => (g_tup rfl (gs_cons (g_name 1 sc_negated_terms.nd) (gs_cons (g_name 2 sc_negated_terms.nd) gs_nil)))) (fun _ _ _ _ _ => ts_nil) (fun _ _ _ _ _ => (e_tup (a_cons (e_var 1) (a_cons (e_neg (e_var 2)) a_nil))))))))
theorem ok_rows_of (T : Txt K mg) : FnOk P w K mg base CX0 2 T.a_rows_of T.d_rows_of ["terms", "relation", "rhs"] (spF K 3 m_rows_of) :=
  fn_ok T.F_rows_of sc_rows_of (by decide) fun cdv A outer s H E hr => (s_cons (s_asg (g_name 3 sc_rows_of.nd) (e_lst a_nil))
    (s_cons (s_if (t_ne hr (e_var 1) (e_str)) (s_one (s_app 3 (e_tup (a_cons (e_str) (a_cons (e_var 0) (a_cons (e_var 2) a_nil)))))) s_nil)
    (s_cons (s_if (t_ne hr (e_var 1) (e_str)) (s_one (s_app 3 (e_tup (a_cons (e_str) (a_cons (e_call (ok_negated_terms T) hr (by decide) T.g_negated_terms T.F_negated_terms.kp T.b_negated_terms (fun _ _ _ => cFn_len) (a_cons (e_var 0) a_nil)) (a_cons (e_neg (e_var 2)) a_nil)))))) s_nil)
    (s_one (s_retV 3)))))
theorem ok_unknowns_of (T : Txt K mg) : FnOk P w K mg base CX0 1 T.a_unknowns_of T.d_unknowns_of ["body"] (spF K 1 m_unknowns_of) :=
  fn_ok T.F_unknowns_of sc_unknowns_of (by decide) fun cdv A outer s H E hr => (s_cons (s_asg (g_name 1 sc_unknowns_of.nd) (e_ix hr (e_var 0) (e_int)))
    (s_cons (s_asg (g_name 2 sc_unknowns_of.nd) (e_lst a_nil))
    (s_cons (s_if (t_eq hr (e_var 1) (e_str)) (s_one (s_setLc (i := 2) (own := [("v", 3), ("c", 4)]) rfl sc_unknowns_of.nd (i_exp (e_ix hr (e_var 0) (e_int))) (blkOk_by (N := N_unknowns_of) (sc := (defScope s_unknowns_of)) (by decide +kernel)) (by decide) (fun _ _ _ _ _ => (g_tup rfl (gs_cons (g_name 3 sc_unknowns_of.nd) (gs_cons (g_name 4 sc_unknowns_of.nd) gs_nil)))) (fun _ _ _ _ _ => ts_nil) (fun _ _ _ _ _ => (e_var 3)))) (s_one (s_if (t_eq hr (e_var 1) (e_str)) (s_one (s_setLc (i := 2) (own := [("literal", 5)]) rfl sc_unknowns_of.nd (i_exp (e_ix hr (e_var 0) (e_int))) (blkOk_by (N := N_unknowns_of) (sc := (defScope s_unknowns_of)) (by decide +kernel)) (by decide) (fun _ _ _ _ _ => (g_name 5 sc_unknowns_of.nd)) (fun _ _ _ _ _ => ts_nil) (fun _ _ _ _ _ => (e_ix hr (e_var 5) (e_int))))) (s_one (s_if (t_eq hr (e_var 1) (e_str)) (s_one (s_asg (g_name 2 sc_unknowns_of.nd) (e_add (e_lst (a_cons (e_ix hr (e_ix hr (e_var 0) (e_int)) (e_int)) a_nil)) (e_lc (own := [("v", 3), ("c", 4)]) rfl sc_unknowns_of.nd (i_exp (e_ix hr (e_var 0) (e_int))) (blkOk_by (N := N_unknowns_of) (sc := (defScope s_unknowns_of)) (by decide +kernel)) (by decide) (fun _ _ _ _ _ => (g_tup rfl (gs_cons (g_name 3 sc_unknowns_of.nd) (gs_cons (g_name 4 sc_unknowns_of.nd) gs_nil)))) (fun _ _ _ _ _ => ts_nil) (fun _ _ _ _ _ => (e_var 3)))))) (s_one (s_if (t_in hr (e_var 1) (e_tup (a_cons (e_str) (a_cons (e_str) a_nil)))) (s_one (s_asg (g_name 2 sc_unknowns_of.nd) (e_list T.n_list (e_ix hr (e_var 0) (e_int))))) (s_one (s_if (t_eq hr (e_var 1) (e_str)) (s_one (s_asg (g_name 2 sc_unknowns_of.nd) (e_lst (a_cons (e_ix hr (e_var 0) (e_int)) (a_cons (e_ix hr (e_var 0) (e_int)) a_nil))))) (s_one (s_asg (g_name 2 sc_unknowns_of.nd) (e_lst (a_cons (e_ix hr (e_var 0) (e_int)) (a_cons (e_ix hr (e_var 0) (e_int)) (a_cons (e_ix hr (e_var 0) (e_int)) a_nil)))))))))))))))
    (s_one (s_ret (e_sortSet rfl T.n_sorted T.n_set (e_var 2)))))))
theorem ok_body_holds (T : Txt K mg) : FnOk P w K mg base CX0 3 T.a_body_holds T.d_body_holds ["body", "point"] (spF K 2 m_body_holds) :=
  fn_ok T.F_body_holds sc_body_holds (by decide) fun cdv A outer s H E hr => (s_cons (s_asg (g_name 2 sc_body_holds.nd) (e_ix hr (e_var 0) (e_int)))
    (s_cons (s_if (t_eq hr (e_var 2) (e_str)) (s_one (s_ret (e_call (ok_relation_holds T) hr (by decide) T.g_relation_holds T.F_relation_holds.kp T.b_relation_holds (fun _ _ _ => cFn_len) (a_cons (e_ix hr (e_var 0) (e_int)) (a_cons (e_call (ok_terms_sum T) hr (by decide) T.g_terms_sum T.F_terms_sum.kp T.b_terms_sum (fun _ _ _ => cFn_len) (a_cons (e_ix hr (e_var 0) (e_int)) (a_cons (e_var 1) a_nil))) (a_cons (e_ix hr (e_var 0) (e_int)) a_nil)))))) s_nil)
    (s_cons (s_if (t_eq hr (e_var 2) (e_str)) (s_one (s_ret (e_any rfl T.n_any (e_lc (own := [("literal", 3)]) rfl sc_body_holds.nd (i_exp (e_ix hr (e_var 0) (e_int))) (blkOk_by (N := N_body_holds) (sc := (defScope s_body_holds)) (by decide +kernel)) (by decide) (fun _ _ _ _ _ => (g_name 3 sc_body_holds.nd)) (fun _ _ _ _ _ => ts_nil) (fun _ _ _ _ _ => (e_call (ok_literal_holds T) hr (by decide) T.g_literal_holds T.F_literal_holds.kp T.b_literal_holds (fun _ _ _ => cFn_len) (a_cons (e_var 3) (a_cons (e_ix hr (e_var 1) (e_ix hr (e_var 3) (e_int))) a_nil)))))))) s_nil)
    (s_cons (s_if (t_eq hr (e_var 2) (e_str)) (s_cons (s_asg (g_name 3 sc_body_holds.nd) (e_ix hr (e_var 0) (e_int)))
    (s_cons (s_if (t_not (t_val (e_call (ok_literal_holds T) hr (by decide) T.g_literal_holds T.F_literal_holds.kp T.b_literal_holds (fun _ _ _ => cFn_len) (a_cons (e_var 3) (a_cons (e_ix hr (e_var 1) (e_ix hr (e_var 3) (e_int))) a_nil))))) (s_one (s_ret (e_bl))) s_nil)
    (s_one (s_ret (e_call (ok_relation_holds T) hr (by decide) T.g_relation_holds T.F_relation_holds.kp T.b_relation_holds (fun _ _ _ => cFn_len) (a_cons (e_ix hr (e_var 0) (e_int)) (a_cons (e_call (ok_terms_sum T) hr (by decide) T.g_terms_sum T.F_terms_sum.kp T.b_terms_sum (fun _ _ _ => cFn_len) (a_cons (e_ix hr (e_var 0) (e_int)) (a_cons (e_var 1) a_nil))) (a_cons (e_ix hr (e_var 0) (e_int)) a_nil)))))))) s_nil)
    (s_cons (s_if (t_eq hr (e_var 2) (e_str)) (s_one (s_ret (e_eq hr (e_len T.n_len (e_stop)) (e_len T.n_len (e_ix hr (e_var 0) (e_int)))))) s_nil)
    (s_cons (s_if (t_eq hr (e_var 2) (e_str)) (s_one (s_ret (e_in hr (e_tuple T.n_tuple (e_lc (own := [("v", 5)]) rfl sc_body_holds.nd (i_exp (e_ix hr (e_var 0) (e_int))) (blkOk_by (N := N_body_holds) (sc := (defScope s_body_holds)) (by decide +kernel)) (by decide) (fun _ _ _ _ _ => (g_name 5 sc_body_holds.nd)) (fun _ _ _ _ _ => ts_nil) (fun _ _ _ _ _ => (e_ix hr (e_var 1) (e_var 5))))) (e_ix hr (e_var 0) (e_int))))) s_nil)
    (s_cons (s_if (t_eq hr (e_var 2) (e_str)) (s_cons (s_asg (g_name 4 sc_body_holds.nd) (e_ix hr (e_var 1) (e_ix hr (e_var 0) (e_int))))
    (s_one (s_ret (e_and (e_chain op_le os_cmp op_lt os_cmp (e_int) (e_var 4) (e_len T.n_len (e_ix hr (e_var 0) (e_int)))) (e_one (e_eq hr (e_ix hr (e_ix hr (e_var 0) (e_int)) (e_var 4)) (e_ix hr (e_var 1) (e_ix hr (e_var 0) (e_int))))))))) s_nil)
    (s_one (s_ret (e_eq hr (e_mul (e_ix hr (e_var 1) (e_ix hr (e_var 0) (e_int))) (e_ix hr (e_var 1) (e_ix hr (e_var 0) (e_int)))) (e_ix hr (e_var 1) (e_ix hr (e_var 0) (e_int)))))))))))))
theorem ok_is_possible (T : Txt K mg) : FnOk P w K mg base CX0 1 T.a_is_possible T.d_is_possible ["box", "literal"] (spF K 2 m_is_possible) :=
  fn_ok T.F_is_possible sc_is_possible (by decide) fun cdv A outer s H E hr => (s_cons (s_asg (g_tup rfl (gs_cons (g_name 4 sc_is_possible.nd) (gs_cons (g_name 5 sc_is_possible.nd) (gs_cons (g_name 6 sc_is_possible.nd) gs_nil)))) (e_var 1))
    (s_cons (s_asg (g_name 2 sc_is_possible.nd) (e_ix hr (e_ix hr (e_var 0) (e_int)) (e_var 4)))
    (s_cons (s_asg (g_name 3 sc_is_possible.nd) (e_ix hr (e_ix hr (e_var 0) (e_int)) (e_var 4)))
    (s_cons (s_if (t_eq hr (e_var 5) (e_str)) (s_one (s_ret (e_le (e_var 2) (e_var 6)))) s_nil)
    (s_cons (s_if (t_eq hr (e_var 5) (e_str)) (s_one (s_ret (e_ge (e_var 3) (e_var 6)))) s_nil)
    (s_cons (s_if (t_eq hr (e_var 5) (e_str)) (s_one (s_ret (e_chain op_le os_cmp op_le os_cmp (e_var 2) (e_var 6) (e_var 3)))) s_nil)
    (s_one (s_ret (e_or (e_ne hr (e_var 2) (e_var 6)) (e_one (e_ne hr (e_var 3) (e_var 6))))))))))))
theorem ok_is_sure (T : Txt K mg) : FnOk P w K mg base CX0 2 T.a_is_sure T.d_is_sure ["box", "literal"] (spF K 2 m_is_sure) :=
  fn_ok T.F_is_sure sc_is_sure (by decide) fun cdv A outer s H E hr => (s_one (s_ret (e_not (e_call (ok_is_possible T) hr (by decide) T.g_is_possible T.F_is_possible.kp T.b_is_possible (fun _ _ _ => cFn_len) (a_cons (e_var 0) (a_cons (e_call (ok_negated T) hr (by decide) T.g_negated T.F_negated.kp T.b_negated (fun _ _ _ => cFn_len) (a_cons (e_var 1) a_nil)) a_nil))))))
theorem ok_least_sum (T : Txt K mg) : FnOk P w K mg base CX0 1 T.a_least_sum T.d_least_sum ["box", "terms"] (spF K 2 m_least_sum) :=
  fn_ok T.F_least_sum sc_least_sum (by decide) fun cdv A outer s H E hr => (s_cons (s_asg (g_name 2 sc_least_sum.nd) (e_int))
    (s_cons (s_for rfl (g_tup rfl (gs_cons (g_name 3 sc_least_sum.nd) (gs_cons (g_name 4 sc_least_sum.nd) gs_nil))) (i_var 1) (s_one (s_if (t_gt (e_var 4) (e_int)) (s_one (s_augAdd 2 sc_least_sum.nd (e_mul (e_var 4) (e_ix hr (e_ix hr (e_var 0) (e_int)) (e_var 3))))) (s_one (s_augAdd 2 sc_least_sum.nd (e_mul (e_var 4) (e_ix hr (e_ix hr (e_var 0) (e_int)) (e_var 3))))))))
    (s_one (s_retV 2))))
theorem ok_rows_sure (T : Txt K mg) : FnOk P w K mg base CX0 2 T.a_rows_sure T.d_rows_sure ["box", "rows"] (spF K 2 m_rows_sure) :=
  fn_ok T.F_rows_sure sc_rows_sure (by decide) fun cdv A outer s H E hr => (s_one (s_ret (e_all rfl T.n_all (e_lc (own := [("row", 2)]) rfl sc_rows_sure.nd (i_var 1) (blkOk_by (N := N_rows_sure) (sc := (defScope s_rows_sure)) (by decide +kernel)) (by decide) (fun _ _ _ _ _ => (g_name 2 sc_rows_sure.nd)) (fun _ _ _ _ _ => ts_nil) (fun _ _ _ _ _ => (e_le (e_neg (e_call (ok_least_sum T) hr (by decide) T.g_least_sum T.F_least_sum.kp T.b_least_sum (fun _ _ _ => cFn_len) (a_cons (e_var 0) (a_cons (e_call (ok_negated_terms T) hr (by decide) T.g_negated_terms T.F_negated_terms.kp T.b_negated_terms (fun _ _ _ => cFn_len) (a_cons (e_ix hr (e_var 2) (e_int)) a_nil)) a_nil)))) (e_ix hr (e_var 2) (e_int))))))))
theorem ok_always_apart (T : Txt K mg) : FnOk P w K mg base CX0 1 T.a_always_apart T.d_always_apart ["box", "numbers"] (spF K 2 m_always_apart) :=
  fn_ok T.F_always_apart sc_always_apart (by decide) fun cdv A outer s H E hr => (s_cons (s_asg (g_tup rfl (gs_cons (g_name 2 sc_always_apart.nd) (gs_cons (g_name 3 sc_always_apart.nd) gs_nil))) (e_var 0))
    (s_cons (s_for rfl (g_tup rfl (gs_cons (g_name 4 sc_always_apart.nd) (gs_cons (g_name 5 sc_always_apart.nd) gs_nil))) (i_enumV 1 T.n_enumerate) (s_one (s_for rfl (g_name 6 sc_always_apart.nd) (i_exp (e_sl (e_var 1) o_none (o_some (e_var 4)))) (s_one (s_if (t_w (w_and (t_le (e_ix hr (e_var 2) (e_var 5)) (e_ix hr (e_var 3) (e_var 6))) (w_and1 (t_le (e_ix hr (e_var 2) (e_var 6)) (e_ix hr (e_var 3) (e_var 5)))))) (s_one (s_ret (e_bl))) s_nil)))))
    (s_one (s_ret (e_bl)))))
theorem ok_surely_holds (T : Txt K mg) : FnOk P w K mg base CX0 4 T.a_surely_holds T.d_surely_holds ["body", "box"] (spF K 2 m_surely_holds) :=
  fn_ok T.F_surely_holds sc_surely_holds (by decide) fun cdv A outer s H E hr => (s_cons (s_asg (g_name 2 sc_surely_holds.nd) (e_ix hr (e_var 0) (e_int)))
    (s_cons (s_if (t_eq hr (e_var 2) (e_str)) (s_one (s_ret (e_call (ok_rows_sure T) hr (by decide) T.g_rows_sure T.F_rows_sure.kp T.b_rows_sure (fun _ _ _ => cFn_len) (a_cons (e_var 1) (a_cons (e_call (ok_rows_of T) hr (by decide) T.g_rows_of T.F_rows_of.kp T.b_rows_of (fun _ _ _ => cFn_len) (a_cons (e_ix hr (e_var 0) (e_int)) (a_cons (e_ix hr (e_var 0) (e_int)) (a_cons (e_ix hr (e_var 0) (e_int)) a_nil)))) a_nil))))) s_nil)
    (s_cons (s_if (t_eq hr (e_var 2) (e_str)) (s_one (s_ret (e_any rfl T.n_any (e_lc (own := [("literal", 6)]) rfl sc_surely_holds.nd (i_exp (e_ix hr (e_var 0) (e_int))) (blkOk_by (N := N_surely_holds) (sc := (defScope s_surely_holds)) (by decide +kernel)) (by decide) (fun _ _ _ _ _ => (g_name 6 sc_surely_holds.nd)) (fun _ _ _ _ _ => ts_nil) (fun _ _ _ _ _ => (e_call (ok_is_sure T) hr (by decide) T.g_is_sure T.F_is_sure.kp T.b_is_sure (fun _ _ _ => cFn_len) (a_cons (e_var 1) (a_cons (e_var 6) a_nil)))))))) s_nil)
    (s_cons (s_if (t_eq hr (e_var 2) (e_str)) (s_one (s_ret (e_or (e_not (e_call (ok_is_possible T) hr (by decide) T.g_is_possible T.F_is_possible.kp T.b_is_possible (fun _ _ _ => cFn_len) (a_cons (e_var 1) (a_cons (e_ix hr (e_var 0) (e_int)) a_nil)))) (e_one (e_call (ok_rows_sure T) hr (by decide) T.g_rows_sure T.F_rows_sure.kp T.b_rows_sure (fun _ _ _ => cFn_len) (a_cons (e_var 1) (a_cons (e_call (ok_rows_of T) hr (by decide) T.g_rows_of T.F_rows_of.kp T.b_rows_of (fun _ _ _ => cFn_len) (a_cons (e_ix hr (e_var 0) (e_int)) (a_cons (e_ix hr (e_var 0) (e_int)) (a_cons (e_ix hr (e_var 0) (e_int)) a_nil)))) a_nil))))))) s_nil)
    (s_cons (s_if (t_eq hr (e_var 2) (e_str)) (s_one (s_ret (e_call (ok_always_apart T) hr (by decide) T.g_always_apart T.F_always_apart.kp T.b_always_apart (fun _ _ _ => cFn_len) (a_cons (e_var 1) (a_cons (e_ix hr (e_var 0) (e_int)) a_nil))))) s_nil)
    (s_cons (s_asg (g_tup rfl (gs_cons (g_name 3 sc_surely_holds.nd) (gs_cons (g_name 4 sc_surely_holds.nd) gs_nil))) (e_var 1))
    (s_cons (s_if (t_val (e_any rfl T.n_any (e_lc (own := [("v", 5)]) rfl sc_surely_holds.nd (i_exp (e_call (ok_unknowns_of T) hr (by decide) T.g_unknowns_of T.F_unknowns_of.kp T.b_unknowns_of (fun _ _ _ => cFn_len) (a_cons (e_var 0) a_nil))) (blkOk_by (N := N_surely_holds) (sc := (defScope s_surely_holds)) (by decide +kernel)) (by decide) (fun _ _ _ _ _ => (g_name 5 sc_surely_holds.nd)) (fun _ _ _ _ _ => ts_nil) (fun _ _ _ _ _ => (e_lt (e_ix hr (e_var 3) (e_var 5)) (e_ix hr (e_var 4) (e_var 5))))))) (s_one (s_ret (e_bl))) s_nil)
    (s_one (s_ret (e_call (ok_body_holds T) hr (by decide) T.g_body_holds T.F_body_holds.kp T.b_body_holds (fun _ _ _ => cFn_len) (a_cons (e_var 0) (a_cons (e_var 3) a_nil))))))))))))
theorem ok_law_same (T : Txt K mg) : FnOk P w K mg base CX0 1 T.a_law_same T.d_law_same ["told", "due"] (spF K 2 m_law_same) :=
  fn_ok T.F_law_same sc_law_same (by decide) fun cdv A outer s H E hr => (s_one (s_ret (e_and (e_isi T.n_isinstance (e_var 0) (e_tyN T.n_bool (by decide +kernel))) (e_one (e_eq hr (e_var 0) (e_var 1))))))
theorem ok_law_draw (T : Txt K mg) : FnOk P w K mg base CX0 1 T.a_law_draw T.d_law_draw ["tape", "many"] (spF K 2 m_law_draw) :=
  fn_ok T.F_law_draw sc_law_draw (by decide) fun cdv A outer s H E hr => (s_cons (s_if (t_lt (e_ix hr (e_var 0) (e_int)) (e_var 1)) (s_cons (s_asg (g_name 3 sc_law_draw.nd) (e_ix hr (e_var 0) (e_int)))
    (s_cons (s_asg (g_name 4 sc_law_draw.nd) (e_ix hr (e_var 0) (e_int)))
    (s_cons (s_asg (g_name 5 sc_law_draw.nd) (e_int))
    (s_cons (s_if (t_lt (e_var 4) (e_len T.n_len (e_var 3))) (s_one (s_asg (g_name 5 sc_law_draw.nd) (e_ix hr (e_var 3) (e_var 4)))) s_nil)
    (s_cons (s_if (t_lt (e_var 5) (e_int)) (s_one (s_asg (g_name 5 sc_law_draw.nd) (e_sub (e_mul (e_neg (e_int)) (e_var 5)) (e_int)))) s_nil)
    (s_cons (s_if (t_lt (e_var 5) (e_pow (e_int) (e_int))) (s_cons (s_asg (g_name 5 sc_law_draw.nd) (e_mod (e_intf T.n_int (e_add (e_add (e_mul (e_var 5) (e_int)) (e_mul (e_var 4) (e_int))) (e_int))) (e_int)))
    (s_one (s_asg (g_name 5 sc_law_draw.nd) (e_mod (e_intf T.n_int (e_add (e_add (e_mul (e_var 5) (e_int)) (e_mul (e_var 4) (e_int))) (e_int))) (e_int))))) s_nil)
    (s_cons (s_setIx 0 hr (e_int) (e_add (e_var 4) (e_int)))
    (s_one (s_setIx 0 hr (e_int) (e_var 5)))))))))) s_nil)
    (s_cons (s_asg (g_name 2 sc_law_draw.nd) (e_mod (e_intf T.n_int (e_ix hr (e_var 0) (e_int))) (e_var 1)))
    (s_cons (s_setIx 0 hr (e_int) (e_div (e_ix hr (e_var 0) (e_int)) (e_var 1)))
    (s_one (s_retV 2)))))
theorem ok_law_tape (T : Txt K mg) : FnOk P w K mg base CX0 1 T.a_law_tape T.d_law_tape ["script"] (spF K 1 m_law_tape) :=
  fn_ok T.F_law_tape sc_law_tape (by decide) fun cdv A outer s H E hr => (s_one (s_ret (e_box (a_cons (e_list T.n_list (e_var 0)) (a_cons (e_int) (a_cons (e_int) a_nil))))))
theorem ok_law_terms (T : Txt K mg) : FnOk P w K mg base CX0 2 T.a_law_terms T.d_law_terms ["tape", "many"] (spF K 2 m_law_terms) :=
  fn_ok T.F_law_terms sc_law_terms (by decide) fun cdv A outer s H E hr => (s_cons (s_asg (g_name 2 sc_law_terms.nd) (e_lst a_nil))
    (s_cons (s_for rfl (g_name 3 sc_law_terms.nd) (i_range1 T.n_range (e_var 1)) (s_cons (s_asg (g_name 4 sc_law_terms.nd) (e_sub (e_call (ok_law_draw T) hr (by decide) T.g_law_draw T.F_law_draw.kp T.b_law_draw (fun _ _ _ => cFn_len) (a_cons (e_var 0) (a_cons (e_int) a_nil))) (e_int)))
    (s_one (s_if (t_ne hr (e_var 4) (e_int)) (s_one (s_app 2 (e_tup (a_cons (e_var 3) (a_cons (e_var 4) a_nil))))) s_nil))))
    (s_one (s_ret (e_tuple T.n_tuple (e_var 2))))))
theorem ok_law_literal (T : Txt K mg) : FnOk P w K mg base CX0 2 T.a_law_literal T.d_law_literal ["tape", "many"] (spF K 2 m_law_literal) :=
  fn_ok T.F_law_literal sc_law_literal (by decide) fun cdv A outer s H E hr => (s_cons (s_asg (g_name 2 sc_law_literal.nd) (e_ix hr (e_lst (a_cons (e_str) (a_cons (e_str) (a_cons (e_str) (a_cons (e_str) a_nil))))) (e_call (ok_law_draw T) hr (by decide) T.g_law_draw T.F_law_draw.kp T.b_law_draw (fun _ _ _ => cFn_len) (a_cons (e_var 0) (a_cons (e_int) a_nil)))))
    (s_one (s_ret (e_tup (a_cons (e_call (ok_law_draw T) hr (by decide) T.g_law_draw T.F_law_draw.kp T.b_law_draw (fun _ _ _ => cFn_len) (a_cons (e_var 0) (a_cons (e_var 1) a_nil))) (a_cons (e_var 2) (a_cons (e_sub (e_call (ok_law_draw T) hr (by decide) T.g_law_draw T.F_law_draw.kp T.b_law_draw (fun _ _ _ => cFn_len) (a_cons (e_var 0) (a_cons (e_int) a_nil))) (e_int)) a_nil)))))))
theorem ok_law_some (T : Txt K mg) : FnOk P w K mg base CX0 2 T.a_law_some T.d_law_some ["tape", "many", "least"] (spF K 3 m_law_some) :=
  fn_ok T.F_law_some sc_law_some (by decide) fun cdv A outer s H E hr => (s_cons (s_asg (g_name 3 sc_law_some.nd) (e_listRange rfl T.n_list T.n_range (e_var 1)))
    (s_cons (s_asg (g_name 4 sc_law_some.nd) (e_lst a_nil))
    (s_cons (s_for rfl (g_name 5 sc_law_some.nd) (i_range1 T.n_range (e_add (e_var 2) (e_call (ok_law_draw T) hr (by decide) T.g_law_draw T.F_law_draw.kp T.b_law_draw (fun _ _ _ => cFn_len) (a_cons (e_var 0) (a_cons (e_add (e_sub (e_var 1) (e_var 2)) (e_int)) a_nil))))) (s_one (s_appPop 4 3 (e_call (ok_law_draw T) hr (by decide) T.g_law_draw T.F_law_draw.kp T.b_law_draw (fun _ _ _ => cFn_len) (a_cons (e_var 0) (a_cons (e_len T.n_len (e_var 3)) a_nil))))))
    (s_one (s_ret (e_tuple T.n_tuple (e_var 4)))))))
theorem ok_law_body (T : Txt K mg) : FnOk P w K mg base CX0 3 T.a_law_body T.d_law_body ["tape", "many"] (spF K 2 m_law_body) :=
  fn_ok T.F_law_body sc_law_body (by decide) fun cdv A outer s H E hr => (s_cons (s_asg (g_name 2 sc_law_body.nd) (e_call (ok_law_draw T) hr (by decide) T.g_law_draw T.F_law_draw.kp T.b_law_draw (fun _ _ _ => cFn_len) (a_cons (e_var 0) (a_cons (e_int) a_nil))))
    (s_cons (s_asg (g_name 3 sc_law_body.nd) (e_ix hr (e_lst (a_cons (e_str) (a_cons (e_str) (a_cons (e_str) a_nil)))) (e_call (ok_law_draw T) hr (by decide) T.g_law_draw T.F_law_draw.kp T.b_law_draw (fun _ _ _ => cFn_len) (a_cons (e_var 0) (a_cons (e_int) a_nil)))))
    (s_cons (s_if (t_eq hr (e_var 2) (e_int)) (s_cons (s_asg (g_name 4 sc_law_body.nd) (e_lst a_nil))
    (s_cons (s_for rfl (g_name 5 sc_law_body.nd) (i_range1 T.n_range (e_add (e_int) (e_call (ok_law_draw T) hr (by decide) T.g_law_draw T.F_law_draw.kp T.b_law_draw (fun _ _ _ => cFn_len) (a_cons (e_var 0) (a_cons (e_int) a_nil))))) (s_cons (s_asg (g_name 6 sc_law_body.nd) (e_call (ok_law_literal T) hr (by decide) T.g_law_literal T.F_law_literal.kp T.b_law_literal (fun _ _ _ => cFn_len) (a_cons (e_var 0) (a_cons (e_var 1) a_nil))))
    (s_one (s_if (t_nin hr (e_var 6) (e_var 4)) (s_one (s_app 4 (e_var 6))) s_nil))))
    (s_one (s_ret (e_tup (a_cons (e_str) (a_cons (e_tuple T.n_tuple (e_var 4)) a_nil))))))) s_nil)
    (s_cons (s_if (t_eq hr (e_var 2) (e_int)) (s_cons (s_asg (g_name 6 sc_law_body.nd) (e_call (ok_law_literal T) hr (by decide) T.g_law_literal T.F_law_literal.kp T.b_law_literal (fun _ _ _ => cFn_len) (a_cons (e_var 0) (a_cons (e_var 1) a_nil))))
    (s_one (s_ret (e_tup (a_cons (e_str) (a_cons (e_var 6) (a_cons (e_call (ok_law_terms T) hr (by decide) T.g_law_terms T.F_law_terms.kp T.b_law_terms (fun _ _ _ => cFn_len) (a_cons (e_var 0) (a_cons (e_var 1) a_nil))) (a_cons (e_var 3) (a_cons (e_sub (e_call (ok_law_draw T) hr (by decide) T.g_law_draw T.F_law_draw.kp T.b_law_draw (fun _ _ _ => cFn_len) (a_cons (e_var 0) (a_cons (e_int) a_nil))) (e_int)) a_nil))))))))) s_nil)
    (s_cons (s_if (t_w (w_and (t_eq hr (e_var 2) (e_int)) (w_and1 (t_gt (e_var 1) (e_int))))) (s_one (s_ret (e_tup (a_cons (e_str) (a_cons (e_call (ok_law_some T) hr (by decide) T.g_law_some T.F_law_some.kp T.b_law_some (fun _ _ _ => cFn_len) (a_cons (e_var 0) (a_cons (e_var 1) (a_cons (e_int) a_nil)))) a_nil))))) s_nil)
    (s_cons (s_if (t_eq hr (e_var 2) (e_int)) (s_cons (s_asg (g_name 7 sc_law_body.nd) (e_sl (e_call (ok_law_some T) hr (by decide) T.g_law_some T.F_law_some.kp T.b_law_some (fun _ _ _ => cFn_len) (a_cons (e_var 0) (a_cons (e_var 1) (a_cons (e_int) a_nil)))) o_none (o_some (e_int))))
    (s_cons (s_asg (g_name 8 sc_law_body.nd) (e_lst a_nil))
    (s_cons (s_for rfl (g_name 5 sc_law_body.nd) (i_range1 T.n_range (e_add (e_int) (e_call (ok_law_draw T) hr (by decide) T.g_law_draw T.F_law_draw.kp T.b_law_draw (fun _ _ _ => cFn_len) (a_cons (e_var 0) (a_cons (e_int) a_nil))))) (s_one (s_app 8 (e_tuple T.n_tuple (e_lc (own := [("v", 10)]) rfl sc_law_body.nd (i_var 7) (blkOk_by (N := N_law_body) (sc := (defScope s_law_body)) (by decide +kernel)) (by decide) (fun _ _ _ _ _ => (g_name 10 sc_law_body.nd)) (fun _ _ _ _ _ => ts_nil) (fun _ _ _ _ _ => (e_sub (e_call (ok_law_draw T) hr (by decide) T.g_law_draw T.F_law_draw.kp T.b_law_draw (fun _ _ _ => cFn_len) (a_cons (e_var 0) (a_cons (e_int) a_nil))) (e_int))))))))
    (s_one (s_ret (e_tup (a_cons (e_str) (a_cons (e_var 7) (a_cons (e_tuple T.n_tuple (e_var 8)) a_nil))))))))) s_nil)
    (s_cons (s_if (t_eq hr (e_var 2) (e_int)) (s_cons (s_setLc (i := 9) (own := [("k", 5)]) rfl sc_law_body.nd (i_range1 T.n_range (e_add (e_int) (e_call (ok_law_draw T) hr (by decide) T.g_law_draw T.F_law_draw.kp T.b_law_draw (fun _ _ _ => cFn_len) (a_cons (e_var 0) (a_cons (e_int) a_nil))))) (blkOk_by (N := N_law_body) (sc := (defScope s_law_body)) (by decide +kernel)) (by decide) (fun _ _ _ _ _ => (g_name 5 sc_law_body.nd)) (fun _ _ _ _ _ => ts_nil) (fun _ _ _ _ _ => (e_sub (e_call (ok_law_draw T) hr (by decide) T.g_law_draw T.F_law_draw.kp T.b_law_draw (fun _ _ _ => cFn_len) (a_cons (e_var 0) (a_cons (e_int) a_nil))) (e_int))))
    (s_one (s_ret (e_tup (a_cons (e_str) (a_cons (e_call (ok_law_draw T) hr (by decide) T.g_law_draw T.F_law_draw.kp T.b_law_draw (fun _ _ _ => cFn_len) (a_cons (e_var 0) (a_cons (e_var 1) a_nil))) (a_cons (e_tuple T.n_tuple (e_var 9)) (a_cons (e_call (ok_law_draw T) hr (by decide) T.g_law_draw T.F_law_draw.kp T.b_law_draw (fun _ _ _ => cFn_len) (a_cons (e_var 0) (a_cons (e_var 1) a_nil))) a_nil)))))))) s_nil)
    (s_cons (s_if (t_eq hr (e_var 2) (e_int)) (s_one (s_ret (e_tup (a_cons (e_str) (a_cons (e_call (ok_law_draw T) hr (by decide) T.g_law_draw T.F_law_draw.kp T.b_law_draw (fun _ _ _ => cFn_len) (a_cons (e_var 0) (a_cons (e_var 1) a_nil))) (a_cons (e_call (ok_law_draw T) hr (by decide) T.g_law_draw T.F_law_draw.kp T.b_law_draw (fun _ _ _ => cFn_len) (a_cons (e_var 0) (a_cons (e_var 1) a_nil))) (a_cons (e_call (ok_law_draw T) hr (by decide) T.g_law_draw T.F_law_draw.kp T.b_law_draw (fun _ _ _ => cFn_len) (a_cons (e_var 0) (a_cons (e_var 1) a_nil))) a_nil))))))) s_nil)
    (s_one (s_ret (e_tup (a_cons (e_str) (a_cons (e_call (ok_law_terms T) hr (by decide) T.g_law_terms T.F_law_terms.kp T.b_law_terms (fun _ _ _ => cFn_len) (a_cons (e_var 0) (a_cons (e_var 1) a_nil))) (a_cons (e_var 3) (a_cons (e_sub (e_call (ok_law_draw T) hr (by decide) T.g_law_draw T.F_law_draw.kp T.b_law_draw (fun _ _ _ => cFn_len) (a_cons (e_var 0) (a_cons (e_int) a_nil))) (e_int)) a_nil)))))))))))))))
theorem ok_law_world (T : Txt K mg) : FnOk P w K mg base CX0 4 T.a_law_world T.d_law_world ["tape", "most", "width", "bodies"] (spF K 4 m_law_world) :=
  fn_ok T.F_law_world sc_law_world (by decide) fun cdv A outer s H E hr => (s_cons (s_asg (g_name 4 sc_law_world.nd) (e_lst a_nil))
    (s_cons (s_for rfl (g_name 5 sc_law_world.nd) (i_range1 T.n_range (e_add (e_int) (e_call (ok_law_draw T) hr (by decide) T.g_law_draw T.F_law_draw.kp T.b_law_draw (fun _ _ _ => cFn_len) (a_cons (e_var 0) (a_cons (e_var 1) a_nil))))) (s_cons (s_asg (g_name 9 sc_law_world.nd) (e_sub (e_call (ok_law_draw T) hr (by decide) T.g_law_draw T.F_law_draw.kp T.b_law_draw (fun _ _ _ => cFn_len) (a_cons (e_var 0) (a_cons (e_int) a_nil))) (e_int)))
    (s_one (s_app 4 (e_tup (a_cons (e_ix hr (e_lst (a_cons (e_str) (a_cons (e_str) (a_cons (e_str) (a_cons (e_str) (a_cons (e_str) a_nil)))))) (e_var 5)) (a_cons (e_var 9) (a_cons (e_add (e_var 9) (e_call (ok_law_draw T) hr (by decide) T.g_law_draw T.F_law_draw.kp T.b_law_draw (fun _ _ _ => cFn_len) (a_cons (e_var 0) (a_cons (e_var 2) a_nil)))) a_nil))))))))
    (s_cons (s_asg (g_name 6 sc_law_world.nd) (e_len T.n_len (e_var 4)))
    (s_cons (s_setLc (i := 7) (own := [("k", 10)]) rfl sc_law_world.nd (i_range1 T.n_range (e_call (ok_law_draw T) hr (by decide) T.g_law_draw T.F_law_draw.kp T.b_law_draw (fun _ _ _ => cFn_len) (a_cons (e_var 0) (a_cons (e_add (e_var 3) (e_int)) a_nil)))) (blkOk_by (N := N_law_world) (sc := (defScope s_law_world)) (by decide +kernel)) (by decide) (fun _ _ _ _ _ => (g_name 10 sc_law_world.nd)) (fun _ _ _ _ _ => ts_nil) (fun _ _ _ _ _ => (e_tup (a_cons (e_add (e_str) (e_strI T.n_str (e_var 10))) (a_cons (e_call (ok_law_body T) hr (by decide) T.g_law_body T.F_law_body.kp T.b_law_body (fun _ _ _ => cFn_len) (a_cons (e_var 0) (a_cons (e_var 6) a_nil))) a_nil)))))
    (s_cons (s_asg (g_name 8 sc_law_world.nd) (e_tup (a_cons (e_ix hr (e_lst (a_cons (e_str) (a_cons (e_str) a_nil))) (e_call (ok_law_draw T) hr (by decide) T.g_law_draw T.F_law_draw.kp T.b_law_draw (fun _ _ _ => cFn_len) (a_cons (e_var 0) (a_cons (e_int) a_nil)))) (a_cons (e_call (ok_law_terms T) hr (by decide) T.g_law_terms T.F_law_terms.kp T.b_law_terms (fun _ _ _ => cFn_len) (a_cons (e_var 0) (a_cons (e_var 6) a_nil))) (a_cons (e_sub (e_call (ok_law_draw T) hr (by decide) T.g_law_draw T.F_law_draw.kp T.b_law_draw (fun _ _ _ => cFn_len) (a_cons (e_var 0) (a_cons (e_int) a_nil))) (e_int)) a_nil)))))
    (s_cons (s_if (t_eq hr (e_call (ok_law_draw T) hr (by decide) T.g_law_draw T.F_law_draw.kp T.b_law_draw (fun _ _ _ => cFn_len) (a_cons (e_var 0) (a_cons (e_int) a_nil))) (e_int)) (s_one (s_asg (g_name 8 sc_law_world.nd) (e_tup (a_cons (e_str) (a_cons (e_tup a_nil) (a_cons (e_int) a_nil)))))) s_nil)
    (s_one (s_fz [4, 7] (s_ret (e_lst (a_cons (e_var 4) (a_cons (e_var 7) (a_cons (e_var 8) a_nil)))))))))))))
theorem ok_law_rel (T : Txt K mg) : FnOk P w K mg base CX0 1 T.a_law_rel T.d_law_rel ["relation", "left", "right"] (spF K 3 m_law_rel) :=
  fn_ok T.F_law_rel sc_law_rel (by decide) fun cdv A outer s H E hr => (s_cons (s_if (t_eq hr (e_var 0) (e_str)) (s_one (s_ret (e_le (e_var 1) (e_var 2)))) s_nil)
    (s_cons (s_if (t_eq hr (e_var 0) (e_str)) (s_one (s_ret (e_ge (e_var 1) (e_var 2)))) s_nil)
    (s_one (s_ret (e_eq hr (e_eq hr (e_var 1) (e_var 2)) (e_eq hr (e_var 0) (e_str)))))))
theorem ok_law_sum (T : Txt K mg) : FnOk P w K mg base CX0 1 T.a_law_sum T.d_law_sum ["terms", "point"] (spF K 2 m_law_sum) :=
  fn_ok T.F_law_sum sc_law_sum (by decide) fun cdv A outer s H E hr => (s_cons (s_asg (g_name 2 sc_law_sum.nd) (e_int))
    (s_cons (s_for rfl (g_tup rfl (gs_cons (g_name 3 sc_law_sum.nd) (gs_cons (g_name 4 sc_law_sum.nd) gs_nil))) (i_var 0) (s_one (s_asg (g_name 2 sc_law_sum.nd) (e_add (e_var 2) (e_mul (e_var 4) (e_ix hr (e_var 1) (e_var 3)))))))
    (s_one (s_retV 2))))
theorem ok_law_lit (T : Txt K mg) : FnOk P w K mg base CX0 2 T.a_law_lit T.d_law_lit ["literal", "point"] (spF K 2 m_law_lit) :=
  fn_ok T.F_law_lit sc_law_lit (by decide) fun cdv A outer s H E hr => (s_one (s_ret (e_call (ok_law_rel T) hr (by decide) T.g_law_rel T.F_law_rel.kp T.b_law_rel (fun _ _ _ => cFn_len) (a_cons (e_ix hr (e_var 0) (e_int)) (a_cons (e_ix hr (e_var 1) (e_ix hr (e_var 0) (e_int))) (a_cons (e_ix hr (e_var 0) (e_int)) a_nil))))))
theorem ok_law_holds (T : Txt K mg) : FnOk P w K mg base CX0 3 T.a_law_holds T.d_law_holds ["body", "point"] (spF K 2 m_law_holds) :=
  fn_ok T.F_law_holds sc_law_holds (by decide) fun cdv A outer s H E hr => (s_cons (s_if (t_eq hr (e_ix hr (e_var 0) (e_int)) (e_str)) (s_one (s_ret (e_call (ok_law_rel T) hr (by decide) T.g_law_rel T.F_law_rel.kp T.b_law_rel (fun _ _ _ => cFn_len) (a_cons (e_ix hr (e_var 0) (e_int)) (a_cons (e_call (ok_law_sum T) hr (by decide) T.g_law_sum T.F_law_sum.kp T.b_law_sum (fun _ _ _ => cFn_len) (a_cons (e_ix hr (e_var 0) (e_int)) (a_cons (e_var 1) a_nil))) (a_cons (e_ix hr (e_var 0) (e_int)) a_nil)))))) s_nil)
    (s_cons (s_if (t_eq hr (e_ix hr (e_var 0) (e_int)) (e_str)) (s_one (s_ret (e_in hr (e_bl) (e_lc (own := [("literal", 5)]) rfl sc_law_holds.nd (i_exp (e_ix hr (e_var 0) (e_int))) (blkOk_by (N := N_law_holds) (sc := (defScope s_law_holds)) (by decide +kernel)) (by decide) (fun _ _ _ _ _ => (g_name 5 sc_law_holds.nd)) (fun _ _ _ _ _ => ts_nil) (fun _ _ _ _ _ => (e_call (ok_law_lit T) hr (by decide) T.g_law_lit T.F_law_lit.kp T.b_law_lit (fun _ _ _ => cFn_len) (a_cons (e_var 5) (a_cons (e_var 1) a_nil)))))))) s_nil)
    (s_cons (s_if (t_eq hr (e_ix hr (e_var 0) (e_int)) (e_str)) (s_one (s_ret (e_or (e_not (e_call (ok_law_lit T) hr (by decide) T.g_law_lit T.F_law_lit.kp T.b_law_lit (fun _ _ _ => cFn_len) (a_cons (e_ix hr (e_var 0) (e_int)) (a_cons (e_var 1) a_nil)))) (e_one (e_call (ok_law_rel T) hr (by decide) T.g_law_rel T.F_law_rel.kp T.b_law_rel (fun _ _ _ => cFn_len) (a_cons (e_ix hr (e_var 0) (e_int)) (a_cons (e_call (ok_law_sum T) hr (by decide) T.g_law_sum T.F_law_sum.kp T.b_law_sum (fun _ _ _ => cFn_len) (a_cons (e_ix hr (e_var 0) (e_int)) (a_cons (e_var 1) a_nil))) (a_cons (e_ix hr (e_var 0) (e_int)) a_nil)))))))) s_nil)
    (s_cons (s_if (t_eq hr (e_ix hr (e_var 0) (e_int)) (e_str)) (s_cons (s_asg (g_name 2 sc_law_holds.nd) (e_lst a_nil))
    (s_cons (s_for rfl (g_name 3 sc_law_holds.nd) (i_exp (e_ix hr (e_var 0) (e_int))) (s_cons (s_if (t_in hr (e_ix hr (e_var 1) (e_var 3)) (e_var 2)) (s_one (s_ret (e_bl))) s_nil)
    (s_one (s_app 2 (e_ix hr (e_var 1) (e_var 3))))))
    (s_one (s_ret (e_bl))))) s_nil)
    (s_cons (s_if (t_eq hr (e_ix hr (e_var 0) (e_int)) (e_str)) (s_one (s_ret (e_in hr (e_tuple T.n_tuple (e_lc (own := [("v", 3)]) rfl sc_law_holds.nd (i_exp (e_ix hr (e_var 0) (e_int))) (blkOk_by (N := N_law_holds) (sc := (defScope s_law_holds)) (by decide +kernel)) (by decide) (fun _ _ _ _ _ => (g_name 3 sc_law_holds.nd)) (fun _ _ _ _ _ => ts_nil) (fun _ _ _ _ _ => (e_ix hr (e_var 1) (e_var 3))))) (e_ix hr (e_var 0) (e_int))))) s_nil)
    (s_cons (s_if (t_eq hr (e_ix hr (e_var 0) (e_int)) (e_str)) (s_cons (s_asg (g_name 4 sc_law_holds.nd) (e_ix hr (e_var 1) (e_ix hr (e_var 0) (e_int))))
    (s_one (s_ret (e_and (e_ge (e_var 4) (e_int)) (e_and (e_lt (e_var 4) (e_len T.n_len (e_ix hr (e_var 0) (e_int)))) (e_one (e_eq hr (e_ix hr (e_ix hr (e_var 0) (e_int)) (e_var 4)) (e_ix hr (e_var 1) (e_ix hr (e_var 0) (e_int)))))))))) s_nil)
    (s_one (s_ret (e_eq hr (e_mul (e_ix hr (e_var 1) (e_ix hr (e_var 0) (e_int))) (e_ix hr (e_var 1) (e_ix hr (e_var 0) (e_int)))) (e_ix hr (e_var 1) (e_ix hr (e_var 0) (e_int))))))))))))
theorem ok_law_written (T : Txt K mg) : FnOk P w K mg base CX0 1 T.a_law_written T.d_law_written ["body"] (spF K 1 m_law_written) :=
  fn_ok T.F_law_written sc_law_written (by decide) fun cdv A outer s H E hr => (s_cons (s_if (t_eq hr (e_ix hr (e_var 0) (e_int)) (e_str)) (s_one (s_ret (e_lc (own := [("v", 2), ("c", 3)]) rfl sc_law_written.nd (i_exp (e_ix hr (e_var 0) (e_int))) (blkOk_by (N := N_law_written) (sc := (defScope s_law_written)) (by decide +kernel)) (by decide) (fun _ _ _ _ _ => (g_tup rfl (gs_cons (g_name 2 sc_law_written.nd) (gs_cons (g_name 3 sc_law_written.nd) gs_nil)))) (fun _ _ _ _ _ => ts_nil) (fun _ _ _ _ _ => (e_var 2))))) s_nil)
    (s_cons (s_if (t_eq hr (e_ix hr (e_var 0) (e_int)) (e_str)) (s_one (s_ret (e_lc (own := [("literal", 1)]) rfl sc_law_written.nd (i_exp (e_ix hr (e_var 0) (e_int))) (blkOk_by (N := N_law_written) (sc := (defScope s_law_written)) (by decide +kernel)) (by decide) (fun _ _ _ _ _ => (g_name 1 sc_law_written.nd)) (fun _ _ _ _ _ => ts_nil) (fun _ _ _ _ _ => (e_ix hr (e_var 1) (e_int)))))) s_nil)
    (s_cons (s_if (t_eq hr (e_ix hr (e_var 0) (e_int)) (e_str)) (s_one (s_ret (e_add (e_lst (a_cons (e_ix hr (e_ix hr (e_var 0) (e_int)) (e_int)) a_nil)) (e_lc (own := [("v", 2), ("c", 3)]) rfl sc_law_written.nd (i_exp (e_ix hr (e_var 0) (e_int))) (blkOk_by (N := N_law_written) (sc := (defScope s_law_written)) (by decide +kernel)) (by decide) (fun _ _ _ _ _ => (g_tup rfl (gs_cons (g_name 2 sc_law_written.nd) (gs_cons (g_name 3 sc_law_written.nd) gs_nil)))) (fun _ _ _ _ _ => ts_nil) (fun _ _ _ _ _ => (e_var 2)))))) s_nil)
    (s_cons (s_if (t_w (w_or (t_eq hr (e_ix hr (e_var 0) (e_int)) (e_str)) (w_or1 (t_eq hr (e_ix hr (e_var 0) (e_int)) (e_str))))) (s_one (s_ret (e_list T.n_list (e_ix hr (e_var 0) (e_int))))) s_nil)
    (s_cons (s_if (t_eq hr (e_ix hr (e_var 0) (e_int)) (e_str)) (s_one (s_ret (e_lst (a_cons (e_ix hr (e_var 0) (e_int)) (a_cons (e_ix hr (e_var 0) (e_int)) a_nil))))) s_nil)
    (s_one (s_ret (e_lst (a_cons (e_ix hr (e_var 0) (e_int)) (a_cons (e_ix hr (e_var 0) (e_int)) (a_cons (e_ix hr (e_var 0) (e_int)) a_nil)))))))))))
theorem ok_law_rows (T : Txt K mg) : FnOk P w K mg base CX0 1 T.a_law_rows T.d_law_rows ["terms", "relation", "rhs"] (spF K 3 m_law_rows) :=
  fn_ok T.F_law_rows sc_law_rows (by decide) fun cdv A outer s H E hr => (s_cons (s_asg (g_name 3 sc_law_rows.nd) (e_tup (a_cons (e_str) (a_cons (e_var 0) (a_cons (e_var 2) a_nil)))))
    (s_cons (s_asg (g_name 4 sc_law_rows.nd) (e_tup (a_cons (e_str) (a_cons (e_tuple T.n_tuple (e_lc (own := [("v", 5), ("c", 6)]) rfl sc_law_rows.nd (i_var 0) (blkOk_by (N := N_law_rows) (sc := (defScope s_law_rows)) (by decide +kernel)) (by decide) (fun _ _ _ _ _ => (g_tup rfl (gs_cons (g_name 5 sc_law_rows.nd) (gs_cons (g_name 6 sc_law_rows.nd) gs_nil)))) (fun _ _ _ _ _ => ts_nil) (fun _ _ _ _ _ => (e_tup (a_cons (e_var 5) (a_cons (e_sub (e_int) (e_var 6)) a_nil)))))) (a_cons (e_sub (e_int) (e_var 2)) a_nil)))))
    (s_cons (s_if (t_eq hr (e_var 1) (e_str)) (s_one (s_ret (e_lst (a_cons (e_var 3) a_nil)))) s_nil)
    (s_cons (s_if (t_eq hr (e_var 1) (e_str)) (s_one (s_ret (e_lst (a_cons (e_var 4) a_nil)))) s_nil)
    (s_one (s_ret (e_lst (a_cons (e_var 3) (a_cons (e_var 4) a_nil)))))))))
theorem ok_law_big_unknowns (T : Txt K mg) : FnOk P w K mg base CX0 2 T.a_law_big_unknowns T.d_law_big_unknowns ["tape", "many", "frees"] (spF K 3 m_law_big_unknowns) :=
  fn_ok T.F_law_big_unknowns sc_law_big_unknowns (by decide) fun cdv A outer s H E hr => (s_cons (s_asg (g_name 3 sc_law_big_unknowns.nd) (e_lst (a_cons (e_call (ok_law_draw T) hr (by decide) T.g_law_draw T.F_law_draw.kp T.b_law_draw (fun _ _ _ => cFn_len) (a_cons (e_var 0) (a_cons (e_int) a_nil))) (a_cons (e_call (ok_law_draw T) hr (by decide) T.g_law_draw T.F_law_draw.kp T.b_law_draw (fun _ _ _ => cFn_len) (a_cons (e_var 0) (a_cons (e_int) a_nil))) (a_cons (e_sub (e_call (ok_law_draw T) hr (by decide) T.g_law_draw T.F_law_draw.kp T.b_law_draw (fun _ _ _ => cFn_len) (a_cons (e_var 0) (a_cons (e_int) a_nil))) (e_int)) (a_cons (e_int) (a_cons (e_int) a_nil)))))))
    (s_cons (s_setIx 3 hr (e_int) (e_mul (e_ix hr (e_var 3) (e_int)) (e_ix hr (e_var 3) (e_int))))
    (s_cons (s_setIx 3 hr (e_int) (e_mod (e_intf T.n_int (e_mul (e_ix hr (e_var 3) (e_int)) (e_int))) (e_int)))
    (s_cons (s_for rfl (g_name 4 sc_law_big_unknowns.nd) (i_range2 T.n_range (e_int) (e_var 1)) (s_one (s_app 3 (e_sub (e_call (ok_law_draw T) hr (by decide) T.g_law_draw T.F_law_draw.kp T.b_law_draw (fun _ _ _ => cFn_len) (a_cons (e_var 0) (a_cons (e_int) a_nil))) (e_int)))))
    (s_cons (s_setLc (i := 5) (own := [("v", 4)]) rfl sc_law_big_unknowns.nd (i_range1 T.n_range (e_var 1)) (blkOk_by (N := N_law_big_unknowns) (sc := (defScope s_law_big_unknowns)) (by decide +kernel)) (by decide) (fun _ _ _ _ _ => (g_name 4 sc_law_big_unknowns.nd)) (fun _ _ _ _ _ => ts_nil) (fun _ _ _ _ _ => (e_tup (a_cons (e_add (e_str) (e_strI T.n_str (e_var 4))) (a_cons (e_ix hr (e_var 3) (e_var 4)) (a_cons (e_ix hr (e_var 3) (e_var 4)) a_nil))))))
    (s_cons (s_for rfl (g_name 6 sc_law_big_unknowns.nd) (i_range1 T.n_range (e_add (e_int) (e_call (ok_law_draw T) hr (by decide) T.g_law_draw T.F_law_draw.kp T.b_law_draw (fun _ _ _ => cFn_len) (a_cons (e_var 0) (a_cons (e_var 2) a_nil))))) (s_cons (s_asg (g_name 4 sc_law_big_unknowns.nd) (e_call (ok_law_draw T) hr (by decide) T.g_law_draw T.F_law_draw.kp T.b_law_draw (fun _ _ _ => cFn_len) (a_cons (e_var 0) (a_cons (e_ix hr (e_lst (a_cons (e_int) (a_cons (e_var 1) a_nil))) (e_call (ok_law_draw T) hr (by decide) T.g_law_draw T.F_law_draw.kp T.b_law_draw (fun _ _ _ => cFn_len) (a_cons (e_var 0) (a_cons (e_int) a_nil)))) a_nil))))
    (s_one (s_setIx 5 hr (e_var 4) (e_tup (a_cons (e_ix hr (e_ix hr (e_var 5) (e_var 4)) (e_int)) (a_cons (e_ix hr (e_var 3) (e_var 4)) (a_cons (e_add (e_add (e_ix hr (e_var 3) (e_var 4)) (e_int)) (e_call (ok_law_draw T) hr (by decide) T.g_law_draw T.F_law_draw.kp T.b_law_draw (fun _ _ _ => cFn_len) (a_cons (e_var 0) (a_cons (e_int) a_nil)))) a_nil))))))))
    (s_cons (s_if (t_eq hr (e_call (ok_law_draw T) hr (by decide) T.g_law_draw T.F_law_draw.kp T.b_law_draw (fun _ _ _ => cFn_len) (a_cons (e_var 0) (a_cons (e_int) a_nil))) (e_int)) (s_cons (s_asg (g_name 7 sc_law_big_unknowns.nd) (e_sub (e_add (e_ix hr (e_var 3) (e_call (ok_law_draw T) hr (by decide) T.g_law_draw T.F_law_draw.kp T.b_law_draw (fun _ _ _ => cFn_len) (a_cons (e_var 0) (a_cons (e_sub (e_var 1) (e_int)) a_nil)))) (e_call (ok_law_draw T) hr (by decide) T.g_law_draw T.F_law_draw.kp T.b_law_draw (fun _ _ _ => cFn_len) (a_cons (e_var 0) (a_cons (e_int) a_nil)))) (e_int)))
    (s_one (s_setIx 5 hr (e_sub (e_var 1) (e_int)) (e_tup (a_cons (e_ix hr (e_ix hr (e_var 5) (e_sub (e_var 1) (e_int))) (e_int)) (a_cons (e_var 7) (a_cons (e_var 7) a_nil))))))) s_nil)
    (s_one (s_retV 5)))))))))
theorem ok_law_big_linear (T : Txt K mg) : FnOk P w K mg base CX0 2 T.a_law_big_linear T.d_law_big_linear ["tape", "unknowns"] (spF K 2 m_law_big_linear) :=
  fn_ok T.F_law_big_linear sc_law_big_linear (by decide) fun cdv A outer s H E hr => (s_cons (s_asg (g_name 2 sc_law_big_linear.nd) (e_lst a_nil))
    (s_cons (s_asg (g_name 3 sc_law_big_linear.nd) (e_int))
    (s_cons (s_for rfl (g_name 4 sc_law_big_linear.nd) (i_range1 T.n_range (e_len T.n_len (e_var 1))) (s_cons (s_asg (g_name 6 sc_law_big_linear.nd) (e_ix hr (e_lst (a_cons (e_int) (a_cons (e_sub (e_int) (e_int)) (a_cons (e_int) (a_cons (e_sub (e_int) (e_int)) (a_cons (e_int) a_nil)))))) (e_call (ok_law_draw T) hr (by decide) T.g_law_draw T.F_law_draw.kp T.b_law_draw (fun _ _ _ => cFn_len) (a_cons (e_var 0) (a_cons (e_int) a_nil)))))
    (s_one (s_if (t_ne hr (e_var 6) (e_int)) (s_cons (s_app 2 (e_tup (a_cons (e_var 4) (a_cons (e_var 6) a_nil))))
    (s_one (s_asg (g_name 3 sc_law_big_linear.nd) (e_add (e_var 3) (e_mul (e_var 6) (e_ix hr (e_ix hr (e_var 1) (e_var 4)) (e_int))))))) s_nil))))
    (s_cons (s_asg (g_name 5 sc_law_big_linear.nd) (e_ix hr (e_lst (a_cons (e_str) (a_cons (e_str) (a_cons (e_str) a_nil)))) (e_call (ok_law_draw T) hr (by decide) T.g_law_draw T.F_law_draw.kp T.b_law_draw (fun _ _ _ => cFn_len) (a_cons (e_var 0) (a_cons (e_int) a_nil)))))
    (s_one (s_ret (e_tup (a_cons (e_tuple T.n_tuple (e_var 2)) (a_cons (e_var 5) (a_cons (e_add (e_var 3) (e_ix hr (e_lst (a_cons (e_int) (a_cons (e_int) (a_cons (e_int) (a_cons (e_sub (e_int) (e_int)) (a_cons (e_int) a_nil)))))) (e_call (ok_law_draw T) hr (by decide) T.g_law_draw T.F_law_draw.kp T.b_law_draw (fun _ _ _ => cFn_len) (a_cons (e_var 0) (a_cons (e_int) a_nil))))) a_nil))))))))))
theorem ok_law_big_any (T : Txt K mg) : FnOk P w K mg base CX0 2 T.a_law_big_any T.d_law_big_any ["tape", "unknowns"] (spF K 2 m_law_big_any) :=
  fn_ok T.F_law_big_any sc_law_big_any (by decide) fun cdv A outer s H E hr => (s_cons (s_asg (g_name 2 sc_law_big_any.nd) (e_lst a_nil))
    (s_cons (s_for rfl (g_name 3 sc_law_big_any.nd) (i_range1 T.n_range (e_add (e_int) (e_call (ok_law_draw T) hr (by decide) T.g_law_draw T.F_law_draw.kp T.b_law_draw (fun _ _ _ => cFn_len) (a_cons (e_var 0) (a_cons (e_int) a_nil))))) (s_cons (s_asg (g_name 4 sc_law_big_any.nd) (e_call (ok_law_draw T) hr (by decide) T.g_law_draw T.F_law_draw.kp T.b_law_draw (fun _ _ _ => cFn_len) (a_cons (e_var 0) (a_cons (e_len T.n_len (e_var 1)) a_nil))))
    (s_cons (s_asg (g_name 5 sc_law_big_any.nd) (e_ix hr (e_ix hr (e_var 1) (e_var 4)) (e_int)))
    (s_cons (s_asg (g_name 6 sc_law_big_any.nd) (e_ix hr (e_lst (a_cons (e_tup (a_cons (e_var 4) (a_cons (e_str) (a_cons (e_add (e_var 5) (e_int)) a_nil)))) (a_cons (e_tup (a_cons (e_var 4) (a_cons (e_str) (a_cons (e_add (e_var 5) (e_int)) a_nil)))) (a_cons (e_tup (a_cons (e_var 4) (a_cons (e_str) (a_cons (e_sub (e_var 5) (e_int)) a_nil)))) (a_cons (e_tup (a_cons (e_var 4) (a_cons (e_str) (a_cons (e_var 5) a_nil)))) a_nil))))) (e_call (ok_law_draw T) hr (by decide) T.g_law_draw T.F_law_draw.kp T.b_law_draw (fun _ _ _ => cFn_len) (a_cons (e_var 0) (a_cons (e_int) a_nil)))))
    (s_one (s_if (t_nin hr (e_var 6) (e_var 2)) (s_one (s_app 2 (e_var 6))) s_nil))))))
    (s_cons (s_if (t_eq hr (e_call (ok_law_draw T) hr (by decide) T.g_law_draw T.F_law_draw.kp T.b_law_draw (fun _ _ _ => cFn_len) (a_cons (e_var 0) (a_cons (e_int) a_nil))) (e_int)) (s_one (s_setIx 2 hr (e_call (ok_law_draw T) hr (by decide) T.g_law_draw T.F_law_draw.kp T.b_law_draw (fun _ _ _ => cFn_len) (a_cons (e_var 0) (a_cons (e_len T.n_len (e_var 2)) a_nil))) (e_tup (a_cons (e_int) (a_cons (e_str) (a_cons (e_ix hr (e_ix hr (e_var 1) (e_int)) (e_int)) a_nil)))))) s_nil)
    (s_one (s_ret (e_tup (a_cons (e_str) (a_cons (e_tuple T.n_tuple (e_var 2)) a_nil))))))))
theorem ok_law_big_table (T : Txt K mg) : FnOk P w K mg base CX0 2 T.a_law_big_table T.d_law_big_table ["tape", "unknowns"] (spF K 2 m_law_big_table) :=
  fn_ok T.F_law_big_table sc_law_big_table (by decide) fun cdv A outer s H E hr => (s_cons (s_asg (g_name 2 sc_law_big_table.nd) (e_call (ok_law_draw T) hr (by decide) T.g_law_draw T.F_law_draw.kp T.b_law_draw (fun _ _ _ => cFn_len) (a_cons (e_var 0) (a_cons (e_ix hr (e_lst (a_cons (e_int) (a_cons (e_sub (e_len T.n_len (e_var 1)) (e_int)) a_nil))) (e_call (ok_law_draw T) hr (by decide) T.g_law_draw T.F_law_draw.kp T.b_law_draw (fun _ _ _ => cFn_len) (a_cons (e_var 0) (a_cons (e_int) a_nil)))) a_nil))))
    (s_cons (s_asg (g_name 3 sc_law_big_table.nd) (e_call (ok_law_draw T) hr (by decide) T.g_law_draw T.F_law_draw.kp T.b_law_draw (fun _ _ _ => cFn_len) (a_cons (e_var 0) (a_cons (e_int) a_nil))))
    (s_cons (s_setLc (i := 4) (own := [("k", 8)]) rfl sc_law_big_table.nd (i_range1 T.n_range (e_int)) (blkOk_by (N := N_law_big_table) (sc := (defScope s_law_big_table)) (by decide +kernel)) (by decide) (fun _ _ _ _ _ => (g_name 8 sc_law_big_table.nd)) (fun _ _ _ _ _ => ts_nil) (fun _ _ _ _ _ => (e_add (e_var 2) (e_mod (e_intf T.n_int (e_add (e_mul (e_var 8) (e_int)) (e_var 3))) (e_int)))))
    (s_cons (s_fz [4] (s_asg (g_name 5 sc_law_big_table.nd) (e_lc (own := [("v", 10)]) rfl sc_law_big_table.nd (i_var 4) (blkOk_by (N := N_law_big_table) (sc := (defScope s_law_big_table)) (by decide +kernel)) (by decide) (fun _ _ _ _ _ => (g_name 10 sc_law_big_table.nd)) (fun _ _ _ _ _ => ts_nil) (fun _ _ _ _ _ => (e_ix hr (e_ix hr (e_var 1) (e_var 10)) (e_int))))))
    (s_cons (s_asg (g_name 6 sc_law_big_table.nd) (e_add (e_int) (e_call (ok_law_draw T) hr (by decide) T.g_law_draw T.F_law_draw.kp T.b_law_draw (fun _ _ _ => cFn_len) (a_cons (e_var 0) (a_cons (e_int) a_nil)))))
    (s_cons (s_asg (g_name 7 sc_law_big_table.nd) (e_lst a_nil))
    (s_cons (s_for rfl (g_name 8 sc_law_big_table.nd) (i_range1 T.n_range (e_sub (e_int) (e_call (ok_law_draw T) hr (by decide) T.g_law_draw T.F_law_draw.kp T.b_law_draw (fun _ _ _ => cFn_len) (a_cons (e_var 0) (a_cons (e_int) a_nil))))) (s_cons (s_asg (g_name 9 sc_law_big_table.nd) (e_mod (e_intf T.n_int (e_var 8)) (e_int)))
    (s_one (s_app 7 (e_tuple T.n_tuple (e_add (e_add (e_sl (e_var 5) o_none (o_some (e_var 9))) (e_lst (a_cons (e_sub (e_add (e_ix hr (e_var 5) (e_var 9)) (e_div (e_var 8) (e_int))) (e_var 6)) a_nil))) (e_sl (e_var 5) (o_some (e_add (e_var 9) (e_int))) o_none)))))))
    (s_cons (s_if (t_eq hr (e_call (ok_law_draw T) hr (by decide) T.g_law_draw T.F_law_draw.kp T.b_law_draw (fun _ _ _ => cFn_len) (a_cons (e_var 0) (a_cons (e_int) a_nil))) (e_int)) (s_one (s_fz [7] (s_setLc (i := 7) (own := [("row", 11)]) rfl sc_law_big_table.nd (i_var 7) (blkOk_by (N := N_law_big_table) (sc := (defScope s_law_big_table)) (by decide +kernel)) (by decide) (fun _ _ _ _ _ => (g_name 11 sc_law_big_table.nd)) (fun _ _ _ _ _ => (ts_one (t_ne hr (e_list T.n_list (e_var 11)) (e_var 5)))) (fun _ _ _ _ _ => (e_var 11))))) s_nil)
    (s_one (s_ret (e_tup (a_cons (e_str) (a_cons (e_tuple T.n_tuple (e_var 4)) (a_cons (e_tuple T.n_tuple (e_var 7)) a_nil))))))))))))))
theorem ok_law_big_body (T : Txt K mg) : FnOk P w K mg base CX0 3 T.a_law_big_body T.d_law_big_body ["tape", "unknowns"] (spF K 2 m_law_big_body) :=
  fn_ok T.F_law_big_body sc_law_big_body (by decide) fun cdv A outer s H E hr => (s_cons (s_asg (g_name 2 sc_law_big_body.nd) (e_len T.n_len (e_var 1)))
    (s_cons (s_asg (g_name 3 sc_law_big_body.nd) (e_call (ok_law_draw T) hr (by decide) T.g_law_draw T.F_law_draw.kp T.b_law_draw (fun _ _ _ => cFn_len) (a_cons (e_var 0) (a_cons (e_int) a_nil))))
    (s_cons (s_if (t_eq hr (e_var 3) (e_int)) (s_one (s_ret (e_call (ok_law_big_any T) hr (by decide) T.g_law_big_any T.F_law_big_any.kp T.b_law_big_any (fun _ _ _ => cFn_len) (a_cons (e_var 0) (a_cons (e_var 1) a_nil))))) s_nil)
    (s_cons (s_if (t_eq hr (e_var 3) (e_int)) (s_one (s_ret (e_call (ok_law_big_table T) hr (by decide) T.g_law_big_table T.F_law_big_table.kp T.b_law_big_table (fun _ _ _ => cFn_len) (a_cons (e_var 0) (a_cons (e_var 1) a_nil))))) s_nil)
    (s_cons (s_if (t_eq hr (e_var 3) (e_int)) (s_one (s_ret (e_tup (a_cons (e_str) (a_cons (e_sl (e_call (ok_law_some T) hr (by decide) T.g_law_some T.F_law_some.kp T.b_law_some (fun _ _ _ => cFn_len) (a_cons (e_var 0) (a_cons (e_var 2) (a_cons (e_min2 rfl T.n_min (e_int) (e_var 2)) a_nil)))) o_none (o_some (e_int))) a_nil))))) s_nil)
    (s_cons (s_if (t_eq hr (e_var 3) (e_int)) (s_cons (s_asg (g_name 6 sc_law_big_body.nd) (e_tuple T.n_tuple (e_lc (own := [("k", 10)]) rfl sc_law_big_body.nd (i_range1 T.n_range (e_int)) (blkOk_by (N := N_law_big_body) (sc := (defScope s_law_big_body)) (by decide +kernel)) (by decide) (fun _ _ _ _ _ => (g_name 10 sc_law_big_body.nd)) (fun _ _ _ _ _ => ts_nil) (fun _ _ _ _ _ => (e_mod (e_intf T.n_int (e_mul (e_var 10) (e_int))) (e_int))))))
    (s_one (s_ret (e_tup (a_cons (e_str) (a_cons (e_int) (a_cons (e_var 6) (a_cons (e_ix hr (e_lst (a_cons (e_int) (a_cons (e_int) (a_cons (e_call (ok_law_draw T) hr (by decide) T.g_law_draw T.F_law_draw.kp T.b_law_draw (fun _ _ _ => cFn_len) (a_cons (e_var 0) (a_cons (e_var 2) a_nil))) a_nil)))) (e_call (ok_law_draw T) hr (by decide) T.g_law_draw T.F_law_draw.kp T.b_law_draw (fun _ _ _ => cFn_len) (a_cons (e_var 0) (a_cons (e_int) a_nil)))) a_nil)))))))) s_nil)
    (s_cons (s_if (t_eq hr (e_var 3) (e_int)) (s_one (s_ret (e_tup (a_cons (e_str) (a_cons (e_int) (a_cons (e_int) (a_cons (e_ix hr (e_lst (a_cons (e_int) (a_cons (e_int) (a_cons (e_call (ok_law_draw T) hr (by decide) T.g_law_draw T.F_law_draw.kp T.b_law_draw (fun _ _ _ => cFn_len) (a_cons (e_var 0) (a_cons (e_var 2) a_nil))) a_nil)))) (e_call (ok_law_draw T) hr (by decide) T.g_law_draw T.F_law_draw.kp T.b_law_draw (fun _ _ _ => cFn_len) (a_cons (e_var 0) (a_cons (e_int) a_nil)))) a_nil))))))) s_nil)
    (s_cons (s_asg (g_tup rfl (gs_cons (g_name 7 sc_law_big_body.nd) (gs_cons (g_name 8 sc_law_big_body.nd) (gs_cons (g_name 9 sc_law_big_body.nd) gs_nil)))) (e_call (ok_law_big_linear T) hr (by decide) T.g_law_big_linear T.F_law_big_linear.kp T.b_law_big_linear (fun _ _ _ => cFn_len) (a_cons (e_var 0) (a_cons (e_var 1) a_nil))))
    (s_cons (s_if (t_gt (e_var 3) (e_int)) (s_one (s_ret (e_tup (a_cons (e_str) (a_cons (e_var 7) (a_cons (e_var 8) (a_cons (e_var 9) a_nil))))))) s_nil)
    (s_cons (s_asg (g_name 4 sc_law_big_body.nd) (e_call (ok_law_draw T) hr (by decide) T.g_law_draw T.F_law_draw.kp T.b_law_draw (fun _ _ _ => cFn_len) (a_cons (e_var 0) (a_cons (e_var 2) a_nil))))
    (s_cons (s_asg (g_name 5 sc_law_big_body.nd) (e_sub (e_add (e_ix hr (e_ix hr (e_var 1) (e_var 4)) (e_int)) (e_call (ok_law_draw T) hr (by decide) T.g_law_draw T.F_law_draw.kp T.b_law_draw (fun _ _ _ => cFn_len) (a_cons (e_var 0) (a_cons (e_int) a_nil)))) (e_int)))
    (s_one (s_ret (e_tup (a_cons (e_str) (a_cons (e_tup (a_cons (e_var 4) (a_cons (e_ix hr (e_lst (a_cons (e_str) (a_cons (e_str) (a_cons (e_str) (a_cons (e_str) a_nil))))) (e_call (ok_law_draw T) hr (by decide) T.g_law_draw T.F_law_draw.kp T.b_law_draw (fun _ _ _ => cFn_len) (a_cons (e_var 0) (a_cons (e_int) a_nil)))) (a_cons (e_var 5) a_nil)))) (a_cons (e_var 7) (a_cons (e_var 8) (a_cons (e_var 9) a_nil)))))))))))))))))))
theorem ok_law_most (T : Txt K mg) : FnOk P w K mg base CX0 1 T.a_law_most T.d_law_most ["box", "terms"] (spF K 2 m_law_most) :=
  fn_ok T.F_law_most sc_law_most (by decide) fun cdv A outer s H E hr => (s_cons (s_asg (g_name 2 sc_law_most.nd) (e_int))
    (s_cons (s_for rfl (g_tup rfl (gs_cons (g_name 3 sc_law_most.nd) (gs_cons (g_name 4 sc_law_most.nd) gs_nil))) (i_var 1) (s_one (s_asg (g_name 2 sc_law_most.nd) (e_add (e_var 2) (e_max2 rfl T.n_max (e_mul (e_var 4) (e_ix hr (e_ix hr (e_var 0) (e_int)) (e_var 3))) (e_mul (e_var 4) (e_ix hr (e_ix hr (e_var 0) (e_int)) (e_var 3))))))))
    (s_one (s_retV 2))))
theorem ok_law_rows_hold (T : Txt K mg) : FnOk P w K mg base CX0 2 T.a_law_rows_hold T.d_law_rows_hold ["box", "rows"] (spF K 2 m_law_rows_hold) :=
  fn_ok T.F_law_rows_hold sc_law_rows_hold (by decide) fun cdv A outer s H E hr => (s_one (s_ret (e_nin hr (e_bl) (e_lc (own := [("row", 2)]) rfl sc_law_rows_hold.nd (i_var 1) (blkOk_by (N := N_law_rows_hold) (sc := (defScope s_law_rows_hold)) (by decide +kernel)) (by decide) (fun _ _ _ _ _ => (g_name 2 sc_law_rows_hold.nd)) (fun _ _ _ _ _ => ts_nil) (fun _ _ _ _ _ => (e_le (e_call (ok_law_most T) hr (by decide) T.g_law_most T.F_law_most.kp T.b_law_most (fun _ _ _ => cFn_len) (a_cons (e_var 0) (a_cons (e_ix hr (e_var 2) (e_int)) a_nil))) (e_ix hr (e_var 2) (e_int))))))))
theorem ok_law_always (T : Txt K mg) : FnOk P w K mg base CX0 2 T.a_law_always T.d_law_always ["box", "literal", "kept"] (spF K 3 m_law_always) :=
  fn_ok T.F_law_always sc_law_always (by decide) fun cdv A outer s H E hr => (s_cons (s_asg (g_tup rfl (gs_cons (g_name 3 sc_law_always.nd) (gs_cons (g_name 4 sc_law_always.nd) (gs_cons (g_name 5 sc_law_always.nd) gs_nil)))) (e_var 1))
    (s_one (s_ret (e_nin hr (e_bl) (e_lc (own := [("x", 6)]) rfl sc_law_always.nd (i_range2 T.n_range (e_ix hr (e_ix hr (e_var 0) (e_int)) (e_var 3)) (e_add (e_ix hr (e_ix hr (e_var 0) (e_int)) (e_var 3)) (e_int))) (blkOk_by (N := N_law_always) (sc := (defScope s_law_always)) (by decide +kernel)) (by decide) (fun _ _ _ _ _ => (g_name 6 sc_law_always.nd)) (fun _ _ _ _ _ => ts_nil) (fun _ _ _ _ _ => (e_eq hr (e_call (ok_law_rel T) hr (by decide) T.g_law_rel T.F_law_rel.kp T.b_law_rel (fun _ _ _ => cFn_len) (a_cons (e_var 4) (a_cons (e_var 6) (a_cons (e_var 5) a_nil)))) (e_var 2))))))))
theorem ok_law_seen (T : Txt K mg) : FnOk P w K mg base CX0 4 T.a_law_seen T.d_law_seen ["box", "body"] (spF K 2 m_law_seen) :=
  fn_ok T.F_law_seen sc_law_seen (by decide) fun cdv A outer s H E hr => (s_cons (s_if (t_eq hr (e_ix hr (e_var 1) (e_int)) (e_str)) (s_one (s_ret (e_call (ok_law_rows_hold T) hr (by decide) T.g_law_rows_hold T.F_law_rows_hold.kp T.b_law_rows_hold (fun _ _ _ => cFn_len) (a_cons (e_var 0) (a_cons (e_call (ok_law_rows T) hr (by decide) T.g_law_rows T.F_law_rows.kp T.b_law_rows (fun _ _ _ => cFn_len) (a_cons (e_ix hr (e_var 1) (e_int)) (a_cons (e_ix hr (e_var 1) (e_int)) (a_cons (e_ix hr (e_var 1) (e_int)) a_nil)))) a_nil))))) s_nil)
    (s_cons (s_if (t_eq hr (e_ix hr (e_var 1) (e_int)) (e_str)) (s_one (s_ret (e_in hr (e_bl) (e_lc (own := [("literal", 5)]) rfl sc_law_seen.nd (i_exp (e_ix hr (e_var 1) (e_int))) (blkOk_by (N := N_law_seen) (sc := (defScope s_law_seen)) (by decide +kernel)) (by decide) (fun _ _ _ _ _ => (g_name 5 sc_law_seen.nd)) (fun _ _ _ _ _ => ts_nil) (fun _ _ _ _ _ => (e_call (ok_law_always T) hr (by decide) T.g_law_always T.F_law_always.kp T.b_law_always (fun _ _ _ => cFn_len) (a_cons (e_var 0) (a_cons (e_var 5) (a_cons (e_bl) a_nil))))))))) s_nil)
    (s_cons (s_if (t_eq hr (e_ix hr (e_var 1) (e_int)) (e_str)) (s_one (s_ret (e_or (e_call (ok_law_always T) hr (by decide) T.g_law_always T.F_law_always.kp T.b_law_always (fun _ _ _ => cFn_len) (a_cons (e_var 0) (a_cons (e_ix hr (e_var 1) (e_int)) (a_cons (e_bl) a_nil)))) (e_one (e_call (ok_law_rows_hold T) hr (by decide) T.g_law_rows_hold T.F_law_rows_hold.kp T.b_law_rows_hold (fun _ _ _ => cFn_len) (a_cons (e_var 0) (a_cons (e_call (ok_law_rows T) hr (by decide) T.g_law_rows T.F_law_rows.kp T.b_law_rows (fun _ _ _ => cFn_len) (a_cons (e_ix hr (e_var 1) (e_int)) (a_cons (e_ix hr (e_var 1) (e_int)) (a_cons (e_ix hr (e_var 1) (e_int)) a_nil)))) a_nil))))))) s_nil)
    (s_cons (s_if (t_eq hr (e_ix hr (e_var 1) (e_int)) (e_str)) (s_cons (s_for rfl (g_name 2 sc_law_seen.nd) (i_exp (e_ix hr (e_var 1) (e_int))) (s_one (s_for rfl (g_name 3 sc_law_seen.nd) (i_exp (e_ix hr (e_var 1) (e_int))) (s_one (s_if (t_w (w_and (t_ne hr (e_var 2) (e_var 3)) (w_and (t_le (e_ix hr (e_ix hr (e_var 0) (e_int)) (e_var 2)) (e_ix hr (e_ix hr (e_var 0) (e_int)) (e_var 3))) (w_and1 (t_le (e_ix hr (e_ix hr (e_var 0) (e_int)) (e_var 3)) (e_ix hr (e_ix hr (e_var 0) (e_int)) (e_var 2))))))) (s_one (s_ret (e_bl))) s_nil)))))
    (s_one (s_ret (e_bl)))) s_nil)
    (s_cons (s_if (t_in hr (e_bl) (e_lc (own := [("v", 4)]) rfl sc_law_seen.nd (i_exp (e_call (ok_law_written T) hr (by decide) T.g_law_written T.F_law_written.kp T.b_law_written (fun _ _ _ => cFn_len) (a_cons (e_var 1) a_nil))) (blkOk_by (N := N_law_seen) (sc := (defScope s_law_seen)) (by decide +kernel)) (by decide) (fun _ _ _ _ _ => (g_name 4 sc_law_seen.nd)) (fun _ _ _ _ _ => ts_nil) (fun _ _ _ _ _ => (e_lt (e_ix hr (e_ix hr (e_var 0) (e_int)) (e_var 4)) (e_ix hr (e_ix hr (e_var 0) (e_int)) (e_var 4)))))) (s_one (s_ret (e_bl))) s_nil)
    (s_one (s_ret (e_call (ok_law_holds T) hr (by decide) T.g_law_holds T.F_law_holds.kp T.b_law_holds (fun _ _ _ => cFn_len) (a_cons (e_var 1) (a_cons (e_ix hr (e_var 0) (e_int)) a_nil))))))))))
theorem ok_law_near (T : Txt K mg) : FnOk P w K mg base CX0 2 T.a_law_near T.d_law_near ["tape", "box", "body"] (spF K 3 m_law_near) :=
  fn_ok T.F_law_near sc_law_near (by decide) fun cdv A outer s H E hr => (s_cons (s_if (t_eq hr (e_ix hr (e_var 2) (e_int)) (e_str)) (s_one (s_ret (e_tup (a_cons (e_str) (a_cons (e_ix hr (e_var 2) (e_int)) (a_cons (e_str) (a_cons (e_sub (e_add (e_call (ok_law_most T) hr (by decide) T.g_law_most T.F_law_most.kp T.b_law_most (fun _ _ _ => cFn_len) (a_cons (e_var 1) (a_cons (e_ix hr (e_var 2) (e_int)) a_nil))) (e_call (ok_law_draw T) hr (by decide) T.g_law_draw T.F_law_draw.kp T.b_law_draw (fun _ _ _ => cFn_len) (a_cons (e_var 0) (a_cons (e_int) a_nil)))) (e_int)) a_nil))))))) s_nil)
    (s_cons (s_if (t_eq hr (e_ix hr (e_var 2) (e_int)) (e_str)) (s_cons (s_asg (g_name 3 sc_law_near.nd) (e_sub (e_add (e_call (ok_law_most T) hr (by decide) T.g_law_most T.F_law_most.kp T.b_law_most (fun _ _ _ => cFn_len) (a_cons (e_var 1) (a_cons (e_ix hr (e_var 2) (e_int)) a_nil))) (e_call (ok_law_draw T) hr (by decide) T.g_law_draw T.F_law_draw.kp T.b_law_draw (fun _ _ _ => cFn_len) (a_cons (e_var 0) (a_cons (e_int) a_nil)))) (e_int)))
    (s_one (s_ret (e_tup (a_cons (e_str) (a_cons (e_ix hr (e_var 2) (e_int)) (a_cons (e_ix hr (e_var 2) (e_int)) (a_cons (e_str) (a_cons (e_var 3) a_nil))))))))) s_nil)
    (s_one (s_retV 2))))
theorem ok_law (T : Txt K mg) : FnOk P w K mg base CX0 5 T.a_law T.d_law ["script"] (spF K 1 m_law) :=
  fn_ok T.F_law sc_law (by decide) fun cdv A outer s H E hr => (s_cons (s_asg (g_name 1 sc_law.nd) (e_call (ok_law_tape T) hr (by decide) T.g_law_tape T.F_law_tape.kp T.b_law_tape (fun _ _ _ => cFn_len) (a_cons (e_var 0) a_nil)))
    (s_cons (s_asg (g_name 2 sc_law.nd) (e_ix hr (e_call (ok_law_world T) hr (by decide) T.g_law_world T.F_law_world.kp T.b_law_world (fun _ _ _ => cFn_len) (a_cons (e_var 1) (a_cons (e_int) (a_cons (e_int) (a_cons (e_int) a_nil))))) (e_int)))
    (s_cons (s_if (t_eq hr (e_call (ok_law_draw T) hr (by decide) T.g_law_draw T.F_law_draw.kp T.b_law_draw (fun _ _ _ => cFn_len) (a_cons (e_var 1) (a_cons (e_int) a_nil))) (e_int)) (s_one (s_fz [2] (s_setLc (i := 2) (own := [("name", 9), ("low", 10), ("high", 11)]) rfl sc_law.nd (i_var 2) (blkOk_by (N := N_law) (sc := (defScope s_law)) (by decide +kernel)) (by decide) (fun _ _ _ _ _ => (g_tup rfl (gs_cons (g_name 9 sc_law.nd) (gs_cons (g_name 10 sc_law.nd) (gs_cons (g_name 11 sc_law.nd) gs_nil))))) (fun _ _ _ _ _ => ts_nil) (fun _ _ _ _ _ => (e_tup (a_cons (e_var 9) (a_cons (e_var 10) (a_cons (e_add (e_var 10) (e_mul (e_sub (e_var 11) (e_var 10)) (e_call (ok_law_draw T) hr (by decide) T.g_law_draw T.F_law_draw.kp T.b_law_draw (fun _ _ _ => cFn_len) (a_cons (e_var 1) (a_cons (e_int) a_nil))))) a_nil)))))))) s_nil)
    (s_cons (s_asg (g_name 3 sc_law.nd) (e_call (ok_law_body T) hr (by decide) T.g_law_body T.F_law_body.kp T.b_law_body (fun _ _ _ => cFn_len) (a_cons (e_var 1) (a_cons (e_len T.n_len (e_var 2)) a_nil))))
    (s_cons (s_if (t_eq hr (e_call (ok_law_draw T) hr (by decide) T.g_law_draw T.F_law_draw.kp T.b_law_draw (fun _ _ _ => cFn_len) (a_cons (e_var 1) (a_cons (e_int) a_nil))) (e_int)) (s_cons (s_asg (g_name 2 sc_law.nd) (e_call (ok_law_big_unknowns T) hr (by decide) T.g_law_big_unknowns T.F_law_big_unknowns.kp T.b_law_big_unknowns (fun _ _ _ => cFn_len) (a_cons (e_var 1) (a_cons (e_add (e_int) (e_call (ok_law_draw T) hr (by decide) T.g_law_draw T.F_law_draw.kp T.b_law_draw (fun _ _ _ => cFn_len) (a_cons (e_var 1) (a_cons (e_int) a_nil)))) (a_cons (e_int) a_nil)))))
    (s_one (s_asg (g_name 3 sc_law.nd) (e_call (ok_law_big_body T) hr (by decide) T.g_law_big_body T.F_law_big_body.kp T.b_law_big_body (fun _ _ _ => cFn_len) (a_cons (e_var 1) (a_cons (e_var 2) a_nil)))))) s_nil)
    (s_cons (s_fz [2] (s_asg (g_name 4 sc_law.nd) (e_tup (a_cons (e_tuple T.n_tuple (e_lc (own := [("name", 9), ("low", 10), ("high", 11)]) rfl sc_law.nd (i_var 2) (blkOk_by (N := N_law) (sc := (defScope s_law)) (by decide +kernel)) (by decide) (fun _ _ _ _ _ => (g_tup rfl (gs_cons (g_name 9 sc_law.nd) (gs_cons (g_name 10 sc_law.nd) (gs_cons (g_name 11 sc_law.nd) gs_nil))))) (fun _ _ _ _ _ => ts_nil) (fun _ _ _ _ _ => (e_var 10)))) (a_cons (e_tuple T.n_tuple (e_lc (own := [("name", 9), ("low", 10), ("high", 11)]) rfl sc_law.nd (i_var 2) (blkOk_by (N := N_law) (sc := (defScope s_law)) (by decide +kernel)) (by decide) (fun _ _ _ _ _ => (g_tup rfl (gs_cons (g_name 9 sc_law.nd) (gs_cons (g_name 10 sc_law.nd) (gs_cons (g_name 11 sc_law.nd) gs_nil))))) (fun _ _ _ _ _ => ts_nil) (fun _ _ _ _ _ => (e_var 11)))) a_nil)))))
    (s_cons (s_for rfl (g_name 5 sc_law.nd) (i_exp (e_lst (a_cons (e_var 3) (a_cons (e_call (ok_law_near T) hr (by decide) T.g_law_near T.F_law_near.kp T.b_law_near (fun _ _ _ => cFn_len) (a_cons (e_var 1) (a_cons (e_var 4) (a_cons (e_var 3) a_nil)))) a_nil)))) (s_cons (s_asg (g_name 6 sc_law.nd) (e_call (ok_surely_holds T) hr (by decide) T.g_surely_holds T.F_surely_holds.kp T.b_surely_holds (fun _ _ _ => cFn_len) (a_cons (e_var 5) (a_cons (e_var 4) a_nil))))
    (s_cons (s_if (t_not (t_val (e_call (ok_law_same T) hr (by decide) T.g_law_same T.F_law_same.kp T.b_law_same (fun _ _ _ => cFn_len) (a_cons (e_var 6) (a_cons (e_call (ok_law_seen T) hr (by decide) T.g_law_seen T.F_law_seen.kp T.b_law_seen (fun _ _ _ => cFn_len) (a_cons (e_var 4) (a_cons (e_var 5) a_nil))) a_nil))))) (s_one (s_ret (e_bl))) s_nil)
    (s_one (s_for rfl (g_name 7 sc_law.nd) (i_range1 T.n_range (e_int)) (s_cons (s_fz [2] (s_asg (g_name 8 sc_law.nd) (e_tuple T.n_tuple (e_lc (own := [("name", 9), ("low", 10), ("high", 11)]) rfl sc_law.nd (i_var 2) (blkOk_by (N := N_law) (sc := (defScope s_law)) (by decide +kernel)) (by decide) (fun _ _ _ _ _ => (g_tup rfl (gs_cons (g_name 9 sc_law.nd) (gs_cons (g_name 10 sc_law.nd) (gs_cons (g_name 11 sc_law.nd) gs_nil))))) (fun _ _ _ _ _ => ts_nil) (fun _ _ _ _ _ => (e_add (e_var 10) (e_call (ok_law_draw T) hr (by decide) T.g_law_draw T.F_law_draw.kp T.b_law_draw (fun _ _ _ => cFn_len) (a_cons (e_var 1) (a_cons (e_add (e_sub (e_var 11) (e_var 10)) (e_int)) a_nil)))))))))
    (s_one (s_if (t_w (w_and (t_val (e_var 6)) (w_and1 (t_not (t_val (e_call (ok_law_holds T) hr (by decide) T.g_law_holds T.F_law_holds.kp T.b_law_holds (fun _ _ _ => cFn_len) (a_cons (e_var 5) (a_cons (e_var 8) a_nil)))))))) (s_one (s_ret (e_bl))) s_nil))))))))
    (s_one (s_ret (e_bl))))))))))
end
/-! ### what the top has left -/
theorem all_mk {l : PySem.W.OpenLaw} {w : World} {K : PySem.W.Frag} {h : Heap} {mg : Str → Option Value} {fa : Addr} (X : K.In h) (G : h.Ns mainGlobals mg) (hfa : mg "law" = some (.ref fa))
    {f0 : Addr} {od0 an0 : Option Addr} {sl0 : Array (Option Value)} {oc0 kV0 dc0 pm0 cd0 ct0 : Value}
    (a0 : PySem.W.nsIn K mainGlobals "relation_holds" = some (some (.ref f0))) (l0 : K.lookup f0 = some ⟨oc0, od0, .func (PySem.W.fnOf "relation_holds" "relation_holds" (defArgs s_relation_holds) (defBody s_relation_holds) (defScope s_relation_holds) .none kV0 dc0 pm0 an0 cd0 ct0), sl0⟩) (c0 : PySem.W.codeIn K cd0 "relation_holds" = true) (k0 : PySem.W.keepIn K (.ref f0) = true)
    {f1 : Addr} {od1 an1 : Option Addr} {sl1 : Array (Option Value)} {oc1 kV1 dc1 pm1 cd1 ct1 : Value}
    (a1 : PySem.W.nsIn K mainGlobals "literal_holds" = some (some (.ref f1))) (l1 : K.lookup f1 = some ⟨oc1, od1, .func (PySem.W.fnOf "literal_holds" "literal_holds" (defArgs s_literal_holds) (defBody s_literal_holds) (defScope s_literal_holds) .none kV1 dc1 pm1 an1 cd1 ct1), sl1⟩) (c1 : PySem.W.codeIn K cd1 "literal_holds" = true) (k1 : PySem.W.keepIn K (.ref f1) = true)
    {f2 : Addr} {od2 an2 : Option Addr} {sl2 : Array (Option Value)} {oc2 kV2 dc2 pm2 cd2 ct2 : Value}
    (a2 : PySem.W.nsIn K mainGlobals "negated" = some (some (.ref f2))) (l2 : K.lookup f2 = some ⟨oc2, od2, .func (PySem.W.fnOf "negated" "negated" (defArgs s_negated) (defBody s_negated) (defScope s_negated) .none kV2 dc2 pm2 an2 cd2 ct2), sl2⟩) (c2 : PySem.W.codeIn K cd2 "negated" = true) (k2 : PySem.W.keepIn K (.ref f2) = true)
    {f3 : Addr} {od3 an3 : Option Addr} {sl3 : Array (Option Value)} {oc3 kV3 dc3 pm3 cd3 ct3 : Value}
    (a3 : PySem.W.nsIn K mainGlobals "terms_sum" = some (some (.ref f3))) (l3 : K.lookup f3 = some ⟨oc3, od3, .func (PySem.W.fnOf "terms_sum" "terms_sum" (defArgs s_terms_sum) (defBody s_terms_sum) (defScope s_terms_sum) .none kV3 dc3 pm3 an3 cd3 ct3), sl3⟩) (c3 : PySem.W.codeIn K cd3 "terms_sum" = true) (k3 : PySem.W.keepIn K (.ref f3) = true)
    {f4 : Addr} {od4 an4 : Option Addr} {sl4 : Array (Option Value)} {oc4 kV4 dc4 pm4 cd4 ct4 : Value}
    (a4 : PySem.W.nsIn K mainGlobals "negated_terms" = some (some (.ref f4))) (l4 : K.lookup f4 = some ⟨oc4, od4, .func (PySem.W.fnOf "negated_terms" "negated_terms" (defArgs s_negated_terms) (defBody s_negated_terms) (defScope s_negated_terms) .none kV4 dc4 pm4 an4 cd4 ct4), sl4⟩) (c4 : PySem.W.codeIn K cd4 "negated_terms" = true) (k4 : PySem.W.keepIn K (.ref f4) = true)
    {f5 : Addr} {od5 an5 : Option Addr} {sl5 : Array (Option Value)} {oc5 kV5 dc5 pm5 cd5 ct5 : Value}
    (a5 : PySem.W.nsIn K mainGlobals "rows_of" = some (some (.ref f5))) (l5 : K.lookup f5 = some ⟨oc5, od5, .func (PySem.W.fnOf "rows_of" "rows_of" (defArgs s_rows_of) (defBody s_rows_of) (defScope s_rows_of) .none kV5 dc5 pm5 an5 cd5 ct5), sl5⟩) (c5 : PySem.W.codeIn K cd5 "rows_of" = true) (k5 : PySem.W.keepIn K (.ref f5) = true)
    {f6 : Addr} {od6 an6 : Option Addr} {sl6 : Array (Option Value)} {oc6 kV6 dc6 pm6 cd6 ct6 : Value}
    (a6 : PySem.W.nsIn K mainGlobals "unknowns_of" = some (some (.ref f6))) (l6 : K.lookup f6 = some ⟨oc6, od6, .func (PySem.W.fnOf "unknowns_of" "unknowns_of" (defArgs s_unknowns_of) (defBody s_unknowns_of) (defScope s_unknowns_of) .none kV6 dc6 pm6 an6 cd6 ct6), sl6⟩) (c6 : PySem.W.codeIn K cd6 "unknowns_of" = true) (k6 : PySem.W.keepIn K (.ref f6) = true)
    {f7 : Addr} {od7 an7 : Option Addr} {sl7 : Array (Option Value)} {oc7 kV7 dc7 pm7 cd7 ct7 : Value}
    (a7 : PySem.W.nsIn K mainGlobals "body_holds" = some (some (.ref f7))) (l7 : K.lookup f7 = some ⟨oc7, od7, .func (PySem.W.fnOf "body_holds" "body_holds" (defArgs s_body_holds) (defBody s_body_holds) (defScope s_body_holds) .none kV7 dc7 pm7 an7 cd7 ct7), sl7⟩) (c7 : PySem.W.codeIn K cd7 "body_holds" = true) (k7 : PySem.W.keepIn K (.ref f7) = true)
    {f8 : Addr} {od8 an8 : Option Addr} {sl8 : Array (Option Value)} {oc8 kV8 dc8 pm8 cd8 ct8 : Value}
    (a8 : PySem.W.nsIn K mainGlobals "is_possible" = some (some (.ref f8))) (l8 : K.lookup f8 = some ⟨oc8, od8, .func (PySem.W.fnOf "is_possible" "is_possible" (defArgs s_is_possible) (defBody s_is_possible) (defScope s_is_possible) .none kV8 dc8 pm8 an8 cd8 ct8), sl8⟩) (c8 : PySem.W.codeIn K cd8 "is_possible" = true) (k8 : PySem.W.keepIn K (.ref f8) = true)
    {f9 : Addr} {od9 an9 : Option Addr} {sl9 : Array (Option Value)} {oc9 kV9 dc9 pm9 cd9 ct9 : Value}
    (a9 : PySem.W.nsIn K mainGlobals "is_sure" = some (some (.ref f9))) (l9 : K.lookup f9 = some ⟨oc9, od9, .func (PySem.W.fnOf "is_sure" "is_sure" (defArgs s_is_sure) (defBody s_is_sure) (defScope s_is_sure) .none kV9 dc9 pm9 an9 cd9 ct9), sl9⟩) (c9 : PySem.W.codeIn K cd9 "is_sure" = true) (k9 : PySem.W.keepIn K (.ref f9) = true)
    {f10 : Addr} {od10 an10 : Option Addr} {sl10 : Array (Option Value)} {oc10 kV10 dc10 pm10 cd10 ct10 : Value}
    (a10 : PySem.W.nsIn K mainGlobals "least_sum" = some (some (.ref f10))) (l10 : K.lookup f10 = some ⟨oc10, od10, .func (PySem.W.fnOf "least_sum" "least_sum" (defArgs s_least_sum) (defBody s_least_sum) (defScope s_least_sum) .none kV10 dc10 pm10 an10 cd10 ct10), sl10⟩) (c10 : PySem.W.codeIn K cd10 "least_sum" = true) (k10 : PySem.W.keepIn K (.ref f10) = true)
    {f11 : Addr} {od11 an11 : Option Addr} {sl11 : Array (Option Value)} {oc11 kV11 dc11 pm11 cd11 ct11 : Value}
    (a11 : PySem.W.nsIn K mainGlobals "rows_sure" = some (some (.ref f11))) (l11 : K.lookup f11 = some ⟨oc11, od11, .func (PySem.W.fnOf "rows_sure" "rows_sure" (defArgs s_rows_sure) (defBody s_rows_sure) (defScope s_rows_sure) .none kV11 dc11 pm11 an11 cd11 ct11), sl11⟩) (c11 : PySem.W.codeIn K cd11 "rows_sure" = true) (k11 : PySem.W.keepIn K (.ref f11) = true)
    {f12 : Addr} {od12 an12 : Option Addr} {sl12 : Array (Option Value)} {oc12 kV12 dc12 pm12 cd12 ct12 : Value}
    (a12 : PySem.W.nsIn K mainGlobals "always_apart" = some (some (.ref f12))) (l12 : K.lookup f12 = some ⟨oc12, od12, .func (PySem.W.fnOf "always_apart" "always_apart" (defArgs s_always_apart) (defBody s_always_apart) (defScope s_always_apart) .none kV12 dc12 pm12 an12 cd12 ct12), sl12⟩) (c12 : PySem.W.codeIn K cd12 "always_apart" = true) (k12 : PySem.W.keepIn K (.ref f12) = true)
    {f13 : Addr} {od13 an13 : Option Addr} {sl13 : Array (Option Value)} {oc13 kV13 dc13 pm13 cd13 ct13 : Value}
    (a13 : PySem.W.nsIn K mainGlobals "surely_holds" = some (some (.ref f13))) (l13 : K.lookup f13 = some ⟨oc13, od13, .func (PySem.W.fnOf "surely_holds" "surely_holds" (defArgs s_surely_holds) (defBody s_surely_holds) (defScope s_surely_holds) .none kV13 dc13 pm13 an13 cd13 ct13), sl13⟩) (c13 : PySem.W.codeIn K cd13 "surely_holds" = true) (k13 : PySem.W.keepIn K (.ref f13) = true)
    {f14 : Addr} {od14 an14 : Option Addr} {sl14 : Array (Option Value)} {oc14 kV14 dc14 pm14 cd14 ct14 : Value}
    (a14 : PySem.W.nsIn K mainGlobals "_law_same" = some (some (.ref f14))) (l14 : K.lookup f14 = some ⟨oc14, od14, .func (PySem.W.fnOf "_law_same" "_law_same" (defArgs s_law_same) (defBody s_law_same) (defScope s_law_same) .none kV14 dc14 pm14 an14 cd14 ct14), sl14⟩) (c14 : PySem.W.codeIn K cd14 "_law_same" = true) (k14 : PySem.W.keepIn K (.ref f14) = true)
    {f15 : Addr} {od15 an15 : Option Addr} {sl15 : Array (Option Value)} {oc15 kV15 dc15 pm15 cd15 ct15 : Value}
    (a15 : PySem.W.nsIn K mainGlobals "_law_draw" = some (some (.ref f15))) (l15 : K.lookup f15 = some ⟨oc15, od15, .func (PySem.W.fnOf "_law_draw" "_law_draw" (defArgs s_law_draw) (defBody s_law_draw) (defScope s_law_draw) .none kV15 dc15 pm15 an15 cd15 ct15), sl15⟩) (c15 : PySem.W.codeIn K cd15 "_law_draw" = true) (k15 : PySem.W.keepIn K (.ref f15) = true)
    {f16 : Addr} {od16 an16 : Option Addr} {sl16 : Array (Option Value)} {oc16 kV16 dc16 pm16 cd16 ct16 : Value}
    (a16 : PySem.W.nsIn K mainGlobals "_law_tape" = some (some (.ref f16))) (l16 : K.lookup f16 = some ⟨oc16, od16, .func (PySem.W.fnOf "_law_tape" "_law_tape" (defArgs s_law_tape) (defBody s_law_tape) (defScope s_law_tape) .none kV16 dc16 pm16 an16 cd16 ct16), sl16⟩) (c16 : PySem.W.codeIn K cd16 "_law_tape" = true) (k16 : PySem.W.keepIn K (.ref f16) = true)
    {f17 : Addr} {od17 an17 : Option Addr} {sl17 : Array (Option Value)} {oc17 kV17 dc17 pm17 cd17 ct17 : Value}
    (a17 : PySem.W.nsIn K mainGlobals "_law_terms" = some (some (.ref f17))) (l17 : K.lookup f17 = some ⟨oc17, od17, .func (PySem.W.fnOf "_law_terms" "_law_terms" (defArgs s_law_terms) (defBody s_law_terms) (defScope s_law_terms) .none kV17 dc17 pm17 an17 cd17 ct17), sl17⟩) (c17 : PySem.W.codeIn K cd17 "_law_terms" = true) (k17 : PySem.W.keepIn K (.ref f17) = true)
    {f18 : Addr} {od18 an18 : Option Addr} {sl18 : Array (Option Value)} {oc18 kV18 dc18 pm18 cd18 ct18 : Value}
    (a18 : PySem.W.nsIn K mainGlobals "_law_literal" = some (some (.ref f18))) (l18 : K.lookup f18 = some ⟨oc18, od18, .func (PySem.W.fnOf "_law_literal" "_law_literal" (defArgs s_law_literal) (defBody s_law_literal) (defScope s_law_literal) .none kV18 dc18 pm18 an18 cd18 ct18), sl18⟩) (c18 : PySem.W.codeIn K cd18 "_law_literal" = true) (k18 : PySem.W.keepIn K (.ref f18) = true)
    {f19 : Addr} {od19 an19 : Option Addr} {sl19 : Array (Option Value)} {oc19 kV19 dc19 pm19 cd19 ct19 : Value}
    (a19 : PySem.W.nsIn K mainGlobals "_law_some" = some (some (.ref f19))) (l19 : K.lookup f19 = some ⟨oc19, od19, .func (PySem.W.fnOf "_law_some" "_law_some" (defArgs s_law_some) (defBody s_law_some) (defScope s_law_some) .none kV19 dc19 pm19 an19 cd19 ct19), sl19⟩) (c19 : PySem.W.codeIn K cd19 "_law_some" = true) (k19 : PySem.W.keepIn K (.ref f19) = true)
    {f20 : Addr} {od20 an20 : Option Addr} {sl20 : Array (Option Value)} {oc20 kV20 dc20 pm20 cd20 ct20 : Value}
    (a20 : PySem.W.nsIn K mainGlobals "_law_body" = some (some (.ref f20))) (l20 : K.lookup f20 = some ⟨oc20, od20, .func (PySem.W.fnOf "_law_body" "_law_body" (defArgs s_law_body) (defBody s_law_body) (defScope s_law_body) .none kV20 dc20 pm20 an20 cd20 ct20), sl20⟩) (c20 : PySem.W.codeIn K cd20 "_law_body" = true) (k20 : PySem.W.keepIn K (.ref f20) = true)
    {f21 : Addr} {od21 an21 : Option Addr} {sl21 : Array (Option Value)} {oc21 kV21 dc21 pm21 cd21 ct21 : Value}
    (a21 : PySem.W.nsIn K mainGlobals "_law_world" = some (some (.ref f21))) (l21 : K.lookup f21 = some ⟨oc21, od21, .func (PySem.W.fnOf "_law_world" "_law_world" (defArgs s_law_world) (defBody s_law_world) (defScope s_law_world) .none kV21 dc21 pm21 an21 cd21 ct21), sl21⟩) (c21 : PySem.W.codeIn K cd21 "_law_world" = true) (k21 : PySem.W.keepIn K (.ref f21) = true)
    {f22 : Addr} {od22 an22 : Option Addr} {sl22 : Array (Option Value)} {oc22 kV22 dc22 pm22 cd22 ct22 : Value}
    (a22 : PySem.W.nsIn K mainGlobals "_law_rel" = some (some (.ref f22))) (l22 : K.lookup f22 = some ⟨oc22, od22, .func (PySem.W.fnOf "_law_rel" "_law_rel" (defArgs s_law_rel) (defBody s_law_rel) (defScope s_law_rel) .none kV22 dc22 pm22 an22 cd22 ct22), sl22⟩) (c22 : PySem.W.codeIn K cd22 "_law_rel" = true) (k22 : PySem.W.keepIn K (.ref f22) = true)
    {f23 : Addr} {od23 an23 : Option Addr} {sl23 : Array (Option Value)} {oc23 kV23 dc23 pm23 cd23 ct23 : Value}
    (a23 : PySem.W.nsIn K mainGlobals "_law_sum" = some (some (.ref f23))) (l23 : K.lookup f23 = some ⟨oc23, od23, .func (PySem.W.fnOf "_law_sum" "_law_sum" (defArgs s_law_sum) (defBody s_law_sum) (defScope s_law_sum) .none kV23 dc23 pm23 an23 cd23 ct23), sl23⟩) (c23 : PySem.W.codeIn K cd23 "_law_sum" = true) (k23 : PySem.W.keepIn K (.ref f23) = true)
    {f24 : Addr} {od24 an24 : Option Addr} {sl24 : Array (Option Value)} {oc24 kV24 dc24 pm24 cd24 ct24 : Value}
    (a24 : PySem.W.nsIn K mainGlobals "_law_lit" = some (some (.ref f24))) (l24 : K.lookup f24 = some ⟨oc24, od24, .func (PySem.W.fnOf "_law_lit" "_law_lit" (defArgs s_law_lit) (defBody s_law_lit) (defScope s_law_lit) .none kV24 dc24 pm24 an24 cd24 ct24), sl24⟩) (c24 : PySem.W.codeIn K cd24 "_law_lit" = true) (k24 : PySem.W.keepIn K (.ref f24) = true)
    {f25 : Addr} {od25 an25 : Option Addr} {sl25 : Array (Option Value)} {oc25 kV25 dc25 pm25 cd25 ct25 : Value}
    (a25 : PySem.W.nsIn K mainGlobals "_law_holds" = some (some (.ref f25))) (l25 : K.lookup f25 = some ⟨oc25, od25, .func (PySem.W.fnOf "_law_holds" "_law_holds" (defArgs s_law_holds) (defBody s_law_holds) (defScope s_law_holds) .none kV25 dc25 pm25 an25 cd25 ct25), sl25⟩) (c25 : PySem.W.codeIn K cd25 "_law_holds" = true) (k25 : PySem.W.keepIn K (.ref f25) = true)
    {f26 : Addr} {od26 an26 : Option Addr} {sl26 : Array (Option Value)} {oc26 kV26 dc26 pm26 cd26 ct26 : Value}
    (a26 : PySem.W.nsIn K mainGlobals "_law_written" = some (some (.ref f26))) (l26 : K.lookup f26 = some ⟨oc26, od26, .func (PySem.W.fnOf "_law_written" "_law_written" (defArgs s_law_written) (defBody s_law_written) (defScope s_law_written) .none kV26 dc26 pm26 an26 cd26 ct26), sl26⟩) (c26 : PySem.W.codeIn K cd26 "_law_written" = true) (k26 : PySem.W.keepIn K (.ref f26) = true)
    {f27 : Addr} {od27 an27 : Option Addr} {sl27 : Array (Option Value)} {oc27 kV27 dc27 pm27 cd27 ct27 : Value}
    (a27 : PySem.W.nsIn K mainGlobals "_law_rows" = some (some (.ref f27))) (l27 : K.lookup f27 = some ⟨oc27, od27, .func (PySem.W.fnOf "_law_rows" "_law_rows" (defArgs s_law_rows) (defBody s_law_rows) (defScope s_law_rows) .none kV27 dc27 pm27 an27 cd27 ct27), sl27⟩) (c27 : PySem.W.codeIn K cd27 "_law_rows" = true) (k27 : PySem.W.keepIn K (.ref f27) = true)
    {f28 : Addr} {od28 an28 : Option Addr} {sl28 : Array (Option Value)} {oc28 kV28 dc28 pm28 cd28 ct28 : Value}
    (a28 : PySem.W.nsIn K mainGlobals "_law_big_unknowns" = some (some (.ref f28))) (l28 : K.lookup f28 = some ⟨oc28, od28, .func (PySem.W.fnOf "_law_big_unknowns" "_law_big_unknowns" (defArgs s_law_big_unknowns) (defBody s_law_big_unknowns) (defScope s_law_big_unknowns) .none kV28 dc28 pm28 an28 cd28 ct28), sl28⟩) (c28 : PySem.W.codeIn K cd28 "_law_big_unknowns" = true) (k28 : PySem.W.keepIn K (.ref f28) = true)
    {f29 : Addr} {od29 an29 : Option Addr} {sl29 : Array (Option Value)} {oc29 kV29 dc29 pm29 cd29 ct29 : Value}
    (a29 : PySem.W.nsIn K mainGlobals "_law_big_linear" = some (some (.ref f29))) (l29 : K.lookup f29 = some ⟨oc29, od29, .func (PySem.W.fnOf "_law_big_linear" "_law_big_linear" (defArgs s_law_big_linear) (defBody s_law_big_linear) (defScope s_law_big_linear) .none kV29 dc29 pm29 an29 cd29 ct29), sl29⟩) (c29 : PySem.W.codeIn K cd29 "_law_big_linear" = true) (k29 : PySem.W.keepIn K (.ref f29) = true)
    {f30 : Addr} {od30 an30 : Option Addr} {sl30 : Array (Option Value)} {oc30 kV30 dc30 pm30 cd30 ct30 : Value}
    (a30 : PySem.W.nsIn K mainGlobals "_law_big_any" = some (some (.ref f30))) (l30 : K.lookup f30 = some ⟨oc30, od30, .func (PySem.W.fnOf "_law_big_any" "_law_big_any" (defArgs s_law_big_any) (defBody s_law_big_any) (defScope s_law_big_any) .none kV30 dc30 pm30 an30 cd30 ct30), sl30⟩) (c30 : PySem.W.codeIn K cd30 "_law_big_any" = true) (k30 : PySem.W.keepIn K (.ref f30) = true)
    {f31 : Addr} {od31 an31 : Option Addr} {sl31 : Array (Option Value)} {oc31 kV31 dc31 pm31 cd31 ct31 : Value}
    (a31 : PySem.W.nsIn K mainGlobals "_law_big_table" = some (some (.ref f31))) (l31 : K.lookup f31 = some ⟨oc31, od31, .func (PySem.W.fnOf "_law_big_table" "_law_big_table" (defArgs s_law_big_table) (defBody s_law_big_table) (defScope s_law_big_table) .none kV31 dc31 pm31 an31 cd31 ct31), sl31⟩) (c31 : PySem.W.codeIn K cd31 "_law_big_table" = true) (k31 : PySem.W.keepIn K (.ref f31) = true)
    {f32 : Addr} {od32 an32 : Option Addr} {sl32 : Array (Option Value)} {oc32 kV32 dc32 pm32 cd32 ct32 : Value}
    (a32 : PySem.W.nsIn K mainGlobals "_law_big_body" = some (some (.ref f32))) (l32 : K.lookup f32 = some ⟨oc32, od32, .func (PySem.W.fnOf "_law_big_body" "_law_big_body" (defArgs s_law_big_body) (defBody s_law_big_body) (defScope s_law_big_body) .none kV32 dc32 pm32 an32 cd32 ct32), sl32⟩) (c32 : PySem.W.codeIn K cd32 "_law_big_body" = true) (k32 : PySem.W.keepIn K (.ref f32) = true)
    {f33 : Addr} {od33 an33 : Option Addr} {sl33 : Array (Option Value)} {oc33 kV33 dc33 pm33 cd33 ct33 : Value}
    (a33 : PySem.W.nsIn K mainGlobals "_law_most" = some (some (.ref f33))) (l33 : K.lookup f33 = some ⟨oc33, od33, .func (PySem.W.fnOf "_law_most" "_law_most" (defArgs s_law_most) (defBody s_law_most) (defScope s_law_most) .none kV33 dc33 pm33 an33 cd33 ct33), sl33⟩) (c33 : PySem.W.codeIn K cd33 "_law_most" = true) (k33 : PySem.W.keepIn K (.ref f33) = true)
    {f34 : Addr} {od34 an34 : Option Addr} {sl34 : Array (Option Value)} {oc34 kV34 dc34 pm34 cd34 ct34 : Value}
    (a34 : PySem.W.nsIn K mainGlobals "_law_rows_hold" = some (some (.ref f34))) (l34 : K.lookup f34 = some ⟨oc34, od34, .func (PySem.W.fnOf "_law_rows_hold" "_law_rows_hold" (defArgs s_law_rows_hold) (defBody s_law_rows_hold) (defScope s_law_rows_hold) .none kV34 dc34 pm34 an34 cd34 ct34), sl34⟩) (c34 : PySem.W.codeIn K cd34 "_law_rows_hold" = true) (k34 : PySem.W.keepIn K (.ref f34) = true)
    {f35 : Addr} {od35 an35 : Option Addr} {sl35 : Array (Option Value)} {oc35 kV35 dc35 pm35 cd35 ct35 : Value}
    (a35 : PySem.W.nsIn K mainGlobals "_law_always" = some (some (.ref f35))) (l35 : K.lookup f35 = some ⟨oc35, od35, .func (PySem.W.fnOf "_law_always" "_law_always" (defArgs s_law_always) (defBody s_law_always) (defScope s_law_always) .none kV35 dc35 pm35 an35 cd35 ct35), sl35⟩) (c35 : PySem.W.codeIn K cd35 "_law_always" = true) (k35 : PySem.W.keepIn K (.ref f35) = true)
    {f36 : Addr} {od36 an36 : Option Addr} {sl36 : Array (Option Value)} {oc36 kV36 dc36 pm36 cd36 ct36 : Value}
    (a36 : PySem.W.nsIn K mainGlobals "_law_seen" = some (some (.ref f36))) (l36 : K.lookup f36 = some ⟨oc36, od36, .func (PySem.W.fnOf "_law_seen" "_law_seen" (defArgs s_law_seen) (defBody s_law_seen) (defScope s_law_seen) .none kV36 dc36 pm36 an36 cd36 ct36), sl36⟩) (c36 : PySem.W.codeIn K cd36 "_law_seen" = true) (k36 : PySem.W.keepIn K (.ref f36) = true)
    {f37 : Addr} {od37 an37 : Option Addr} {sl37 : Array (Option Value)} {oc37 kV37 dc37 pm37 cd37 ct37 : Value}
    (a37 : PySem.W.nsIn K mainGlobals "_law_near" = some (some (.ref f37))) (l37 : K.lookup f37 = some ⟨oc37, od37, .func (PySem.W.fnOf "_law_near" "_law_near" (defArgs s_law_near) (defBody s_law_near) (defScope s_law_near) .none kV37 dc37 pm37 an37 cd37 ct37), sl37⟩) (c37 : PySem.W.codeIn K cd37 "_law_near" = true) (k37 : PySem.W.keepIn K (.ref f37) = true)
    {f38 : Addr} {od38 an38 : Option Addr} {sl38 : Array (Option Value)} {oc38 kV38 dc38 pm38 cd38 ct38 : Value}
    (a38 : PySem.W.nsIn K mainGlobals "law" = some (some (.ref f38))) (l38 : K.lookup f38 = some ⟨oc38, od38, .func (PySem.W.fnOf "law" "law" (defArgs s_law) (defBody s_law) (defScope s_law) .none kV38 dc38 pm38 an38 cd38 ct38), sl38⟩) (c38 : PySem.W.codeIn K cd38 "law" = true) (k38 : PySem.W.keepIn K (.ref f38) = true)
    (z_all : PySem.W.nsIn K mainGlobals "all" = some none)
    (z_any : PySem.W.nsIn K mainGlobals "any" = some none)
    (z_bool : PySem.W.nsIn K mainGlobals "bool" = some none)
    (z_enumerate : PySem.W.nsIn K mainGlobals "enumerate" = some none)
    (z_int : PySem.W.nsIn K mainGlobals "int" = some none)
    (z_isinstance : PySem.W.nsIn K mainGlobals "isinstance" = some none)
    (z_len : PySem.W.nsIn K mainGlobals "len" = some none)
    (z_list : PySem.W.nsIn K mainGlobals "list" = some none)
    (z_max : PySem.W.nsIn K mainGlobals "max" = some none)
    (z_min : PySem.W.nsIn K mainGlobals "min" = some none)
    (z_range : PySem.W.nsIn K mainGlobals "range" = some none)
    (z_set : PySem.W.nsIn K mainGlobals "set" = some none)
    (z_sorted : PySem.W.nsIn K mainGlobals "sorted" = some none)
    (z_str : PySem.W.nsIn K mainGlobals "str" = some none)
    (z_tuple : PySem.W.nsIn K mainGlobals "tuple" = some none)
    : ∃ fd : FuncData, (∀ (s : Shared) (v : Value), BindsTo s fd ⟨[v], []⟩ [("script", v)]) ∧ ∀ base : Heap, K.In base → base.Ns mainGlobals mg → FnOk l.prog w K mg base CX0 5 fa fd ["script"] (spF K 1 m_law) := by
  have e := hfa.symm.trans (PySem.W.mg_of X G a38)
  cases e
  exact ⟨_, fun s v => .of_eq rfl, fun base _ _ => ok_law { a_relation_holds := _, d_relation_holds := _, F_relation_holds := fun_mk (st := s_relation_holds) l0 c0 k0, g_relation_holds := PySem.W.mg_of X G a0, b_relation_holds := (fun_mk (st := s_relation_holds) l0 c0 k0).binds (ps := ["relation", "left", "right"]) (fun _ _ _ _ _ _ us hl => (match us, hl with | [_, _, _], _ => rfl)), a_literal_holds := _, d_literal_holds := _, F_literal_holds := fun_mk (st := s_literal_holds) l1 c1 k1, g_literal_holds := PySem.W.mg_of X G a1, b_literal_holds := (fun_mk (st := s_literal_holds) l1 c1 k1).binds (ps := ["literal", "worth"]) (fun _ _ _ _ _ _ us hl => (match us, hl with | [_, _], _ => rfl)), a_negated := _, d_negated := _, F_negated := fun_mk (st := s_negated) l2 c2 k2, g_negated := PySem.W.mg_of X G a2, b_negated := (fun_mk (st := s_negated) l2 c2 k2).binds (ps := ["literal"]) (fun _ _ _ _ _ _ us hl => (match us, hl with | [_], _ => rfl)), a_terms_sum := _, d_terms_sum := _, F_terms_sum := fun_mk (st := s_terms_sum) l3 c3 k3, g_terms_sum := PySem.W.mg_of X G a3, b_terms_sum := (fun_mk (st := s_terms_sum) l3 c3 k3).binds (ps := ["terms", "point"]) (fun _ _ _ _ _ _ us hl => (match us, hl with | [_, _], _ => rfl)), a_negated_terms := _, d_negated_terms := _, F_negated_terms := fun_mk (st := s_negated_terms) l4 c4 k4, g_negated_terms := PySem.W.mg_of X G a4, b_negated_terms := (fun_mk (st := s_negated_terms) l4 c4 k4).binds (ps := ["terms"]) (fun _ _ _ _ _ _ us hl => (match us, hl with | [_], _ => rfl)), a_rows_of := _, d_rows_of := _, F_rows_of := fun_mk (st := s_rows_of) l5 c5 k5, g_rows_of := PySem.W.mg_of X G a5, b_rows_of := (fun_mk (st := s_rows_of) l5 c5 k5).binds (ps := ["terms", "relation", "rhs"]) (fun _ _ _ _ _ _ us hl => (match us, hl with | [_, _, _], _ => rfl)), a_unknowns_of := _, d_unknowns_of := _, F_unknowns_of := fun_mk (st := s_unknowns_of) l6 c6 k6, g_unknowns_of := PySem.W.mg_of X G a6, b_unknowns_of := (fun_mk (st := s_unknowns_of) l6 c6 k6).binds (ps := ["body"]) (fun _ _ _ _ _ _ us hl => (match us, hl with | [_], _ => rfl)), a_body_holds := _, d_body_holds := _, F_body_holds := fun_mk (st := s_body_holds) l7 c7 k7, g_body_holds := PySem.W.mg_of X G a7, b_body_holds := (fun_mk (st := s_body_holds) l7 c7 k7).binds (ps := ["body", "point"]) (fun _ _ _ _ _ _ us hl => (match us, hl with | [_, _], _ => rfl)), a_is_possible := _, d_is_possible := _, F_is_possible := fun_mk (st := s_is_possible) l8 c8 k8, g_is_possible := PySem.W.mg_of X G a8, b_is_possible := (fun_mk (st := s_is_possible) l8 c8 k8).binds (ps := ["box", "literal"]) (fun _ _ _ _ _ _ us hl => (match us, hl with | [_, _], _ => rfl)), a_is_sure := _, d_is_sure := _, F_is_sure := fun_mk (st := s_is_sure) l9 c9 k9, g_is_sure := PySem.W.mg_of X G a9, b_is_sure := (fun_mk (st := s_is_sure) l9 c9 k9).binds (ps := ["box", "literal"]) (fun _ _ _ _ _ _ us hl => (match us, hl with | [_, _], _ => rfl)), a_least_sum := _, d_least_sum := _, F_least_sum := fun_mk (st := s_least_sum) l10 c10 k10, g_least_sum := PySem.W.mg_of X G a10, b_least_sum := (fun_mk (st := s_least_sum) l10 c10 k10).binds (ps := ["box", "terms"]) (fun _ _ _ _ _ _ us hl => (match us, hl with | [_, _], _ => rfl)), a_rows_sure := _, d_rows_sure := _, F_rows_sure := fun_mk (st := s_rows_sure) l11 c11 k11, g_rows_sure := PySem.W.mg_of X G a11, b_rows_sure := (fun_mk (st := s_rows_sure) l11 c11 k11).binds (ps := ["box", "rows"]) (fun _ _ _ _ _ _ us hl => (match us, hl with | [_, _], _ => rfl)), a_always_apart := _, d_always_apart := _, F_always_apart := fun_mk (st := s_always_apart) l12 c12 k12, g_always_apart := PySem.W.mg_of X G a12, b_always_apart := (fun_mk (st := s_always_apart) l12 c12 k12).binds (ps := ["box", "numbers"]) (fun _ _ _ _ _ _ us hl => (match us, hl with | [_, _], _ => rfl)), a_surely_holds := _, d_surely_holds := _, F_surely_holds := fun_mk (st := s_surely_holds) l13 c13 k13, g_surely_holds := PySem.W.mg_of X G a13, b_surely_holds := (fun_mk (st := s_surely_holds) l13 c13 k13).binds (ps := ["body", "box"]) (fun _ _ _ _ _ _ us hl => (match us, hl with | [_, _], _ => rfl)), a_law_same := _, d_law_same := _, F_law_same := fun_mk (st := s_law_same) l14 c14 k14, g_law_same := PySem.W.mg_of X G a14, b_law_same := (fun_mk (st := s_law_same) l14 c14 k14).binds (ps := ["told", "due"]) (fun _ _ _ _ _ _ us hl => (match us, hl with | [_, _], _ => rfl)), a_law_draw := _, d_law_draw := _, F_law_draw := fun_mk (st := s_law_draw) l15 c15 k15, g_law_draw := PySem.W.mg_of X G a15, b_law_draw := (fun_mk (st := s_law_draw) l15 c15 k15).binds (ps := ["tape", "many"]) (fun _ _ _ _ _ _ us hl => (match us, hl with | [_, _], _ => rfl)), a_law_tape := _, d_law_tape := _, F_law_tape := fun_mk (st := s_law_tape) l16 c16 k16, g_law_tape := PySem.W.mg_of X G a16, b_law_tape := (fun_mk (st := s_law_tape) l16 c16 k16).binds (ps := ["script"]) (fun _ _ _ _ _ _ us hl => (match us, hl with | [_], _ => rfl)), a_law_terms := _, d_law_terms := _, F_law_terms := fun_mk (st := s_law_terms) l17 c17 k17, g_law_terms := PySem.W.mg_of X G a17, b_law_terms := (fun_mk (st := s_law_terms) l17 c17 k17).binds (ps := ["tape", "many"]) (fun _ _ _ _ _ _ us hl => (match us, hl with | [_, _], _ => rfl)), a_law_literal := _, d_law_literal := _, F_law_literal := fun_mk (st := s_law_literal) l18 c18 k18, g_law_literal := PySem.W.mg_of X G a18, b_law_literal := (fun_mk (st := s_law_literal) l18 c18 k18).binds (ps := ["tape", "many"]) (fun _ _ _ _ _ _ us hl => (match us, hl with | [_, _], _ => rfl)), a_law_some := _, d_law_some := _, F_law_some := fun_mk (st := s_law_some) l19 c19 k19, g_law_some := PySem.W.mg_of X G a19, b_law_some := (fun_mk (st := s_law_some) l19 c19 k19).binds (ps := ["tape", "many", "least"]) (fun _ _ _ _ _ _ us hl => (match us, hl with | [_, _, _], _ => rfl)), a_law_body := _, d_law_body := _, F_law_body := fun_mk (st := s_law_body) l20 c20 k20, g_law_body := PySem.W.mg_of X G a20, b_law_body := (fun_mk (st := s_law_body) l20 c20 k20).binds (ps := ["tape", "many"]) (fun _ _ _ _ _ _ us hl => (match us, hl with | [_, _], _ => rfl)), a_law_world := _, d_law_world := _, F_law_world := fun_mk (st := s_law_world) l21 c21 k21, g_law_world := PySem.W.mg_of X G a21, b_law_world := (fun_mk (st := s_law_world) l21 c21 k21).binds (ps := ["tape", "most", "width", "bodies"]) (fun _ _ _ _ _ _ us hl => (match us, hl with | [_, _, _, _], _ => rfl)), a_law_rel := _, d_law_rel := _, F_law_rel := fun_mk (st := s_law_rel) l22 c22 k22, g_law_rel := PySem.W.mg_of X G a22, b_law_rel := (fun_mk (st := s_law_rel) l22 c22 k22).binds (ps := ["relation", "left", "right"]) (fun _ _ _ _ _ _ us hl => (match us, hl with | [_, _, _], _ => rfl)), a_law_sum := _, d_law_sum := _, F_law_sum := fun_mk (st := s_law_sum) l23 c23 k23, g_law_sum := PySem.W.mg_of X G a23, b_law_sum := (fun_mk (st := s_law_sum) l23 c23 k23).binds (ps := ["terms", "point"]) (fun _ _ _ _ _ _ us hl => (match us, hl with | [_, _], _ => rfl)), a_law_lit := _, d_law_lit := _, F_law_lit := fun_mk (st := s_law_lit) l24 c24 k24, g_law_lit := PySem.W.mg_of X G a24, b_law_lit := (fun_mk (st := s_law_lit) l24 c24 k24).binds (ps := ["literal", "point"]) (fun _ _ _ _ _ _ us hl => (match us, hl with | [_, _], _ => rfl)), a_law_holds := _, d_law_holds := _, F_law_holds := fun_mk (st := s_law_holds) l25 c25 k25, g_law_holds := PySem.W.mg_of X G a25, b_law_holds := (fun_mk (st := s_law_holds) l25 c25 k25).binds (ps := ["body", "point"]) (fun _ _ _ _ _ _ us hl => (match us, hl with | [_, _], _ => rfl)), a_law_written := _, d_law_written := _, F_law_written := fun_mk (st := s_law_written) l26 c26 k26, g_law_written := PySem.W.mg_of X G a26, b_law_written := (fun_mk (st := s_law_written) l26 c26 k26).binds (ps := ["body"]) (fun _ _ _ _ _ _ us hl => (match us, hl with | [_], _ => rfl)), a_law_rows := _, d_law_rows := _, F_law_rows := fun_mk (st := s_law_rows) l27 c27 k27, g_law_rows := PySem.W.mg_of X G a27, b_law_rows := (fun_mk (st := s_law_rows) l27 c27 k27).binds (ps := ["terms", "relation", "rhs"]) (fun _ _ _ _ _ _ us hl => (match us, hl with | [_, _, _], _ => rfl)), a_law_big_unknowns := _, d_law_big_unknowns := _, F_law_big_unknowns := fun_mk (st := s_law_big_unknowns) l28 c28 k28, g_law_big_unknowns := PySem.W.mg_of X G a28, b_law_big_unknowns := (fun_mk (st := s_law_big_unknowns) l28 c28 k28).binds (ps := ["tape", "many", "frees"]) (fun _ _ _ _ _ _ us hl => (match us, hl with | [_, _, _], _ => rfl)), a_law_big_linear := _, d_law_big_linear := _, F_law_big_linear := fun_mk (st := s_law_big_linear) l29 c29 k29, g_law_big_linear := PySem.W.mg_of X G a29, b_law_big_linear := (fun_mk (st := s_law_big_linear) l29 c29 k29).binds (ps := ["tape", "unknowns"]) (fun _ _ _ _ _ _ us hl => (match us, hl with | [_, _], _ => rfl)), a_law_big_any := _, d_law_big_any := _, F_law_big_any := fun_mk (st := s_law_big_any) l30 c30 k30, g_law_big_any := PySem.W.mg_of X G a30, b_law_big_any := (fun_mk (st := s_law_big_any) l30 c30 k30).binds (ps := ["tape", "unknowns"]) (fun _ _ _ _ _ _ us hl => (match us, hl with | [_, _], _ => rfl)), a_law_big_table := _, d_law_big_table := _, F_law_big_table := fun_mk (st := s_law_big_table) l31 c31 k31, g_law_big_table := PySem.W.mg_of X G a31, b_law_big_table := (fun_mk (st := s_law_big_table) l31 c31 k31).binds (ps := ["tape", "unknowns"]) (fun _ _ _ _ _ _ us hl => (match us, hl with | [_, _], _ => rfl)), a_law_big_body := _, d_law_big_body := _, F_law_big_body := fun_mk (st := s_law_big_body) l32 c32 k32, g_law_big_body := PySem.W.mg_of X G a32, b_law_big_body := (fun_mk (st := s_law_big_body) l32 c32 k32).binds (ps := ["tape", "unknowns"]) (fun _ _ _ _ _ _ us hl => (match us, hl with | [_, _], _ => rfl)), a_law_most := _, d_law_most := _, F_law_most := fun_mk (st := s_law_most) l33 c33 k33, g_law_most := PySem.W.mg_of X G a33, b_law_most := (fun_mk (st := s_law_most) l33 c33 k33).binds (ps := ["box", "terms"]) (fun _ _ _ _ _ _ us hl => (match us, hl with | [_, _], _ => rfl)), a_law_rows_hold := _, d_law_rows_hold := _, F_law_rows_hold := fun_mk (st := s_law_rows_hold) l34 c34 k34, g_law_rows_hold := PySem.W.mg_of X G a34, b_law_rows_hold := (fun_mk (st := s_law_rows_hold) l34 c34 k34).binds (ps := ["box", "rows"]) (fun _ _ _ _ _ _ us hl => (match us, hl with | [_, _], _ => rfl)), a_law_always := _, d_law_always := _, F_law_always := fun_mk (st := s_law_always) l35 c35 k35, g_law_always := PySem.W.mg_of X G a35, b_law_always := (fun_mk (st := s_law_always) l35 c35 k35).binds (ps := ["box", "literal", "kept"]) (fun _ _ _ _ _ _ us hl => (match us, hl with | [_, _, _], _ => rfl)), a_law_seen := _, d_law_seen := _, F_law_seen := fun_mk (st := s_law_seen) l36 c36 k36, g_law_seen := PySem.W.mg_of X G a36, b_law_seen := (fun_mk (st := s_law_seen) l36 c36 k36).binds (ps := ["box", "body"]) (fun _ _ _ _ _ _ us hl => (match us, hl with | [_, _], _ => rfl)), a_law_near := _, d_law_near := _, F_law_near := fun_mk (st := s_law_near) l37 c37 k37, g_law_near := PySem.W.mg_of X G a37, b_law_near := (fun_mk (st := s_law_near) l37 c37 k37).binds (ps := ["tape", "box", "body"]) (fun _ _ _ _ _ _ us hl => (match us, hl with | [_, _, _], _ => rfl)), a_law := _, d_law := _, F_law := fun_mk (st := s_law) l38 c38 k38, g_law := PySem.W.mg_of X G a38, b_law := (fun_mk (st := s_law) l38 c38 k38).binds (ps := ["script"]) (fun _ _ _ _ _ _ us hl => (match us, hl with | [_], _ => rfl)), n_all := PySem.W.mg_none_of X G z_all, n_any := PySem.W.mg_none_of X G z_any, n_bool := PySem.W.mg_none_of X G z_bool, n_enumerate := PySem.W.mg_none_of X G z_enumerate, n_int := PySem.W.mg_none_of X G z_int, n_isinstance := PySem.W.mg_none_of X G z_isinstance, n_len := PySem.W.mg_none_of X G z_len, n_list := PySem.W.mg_none_of X G z_list, n_max := PySem.W.mg_none_of X G z_max, n_min := PySem.W.mg_none_of X G z_min, n_range := PySem.W.mg_none_of X G z_range, n_set := PySem.W.mg_none_of X G z_set, n_sorted := PySem.W.mg_none_of X G z_sorted, n_str := PySem.W.mg_none_of X G z_str, n_tuple := PySem.W.mg_none_of X G z_tuple }⟩
end K76
/-! what surely_holds and the law's own seen compute (printed by mk76b.py) -/
namespace K76
open PySem PySem.Spec PyProof.Rows L2 Mp Lg
def encBx (lo hi : List Int) : W := .tup [encP lo, encP hi]
theorem bx_0 (S : Store) (lo hi : List Int) : gIx S (encBx lo hi) (.int 0) = some (encP lo) := rfl
theorem bx_1 (S : Store) (lo hi : List Int) : gIx S (encBx lo hi) (.int 1) = some (encP hi) := rfl
theorem q_chain (g g' : W → W → Option W) (fa fb fc : CE) (ρ : Mp.Env) (S : Store) : cChain g g' fa fb fc ρ S = bnd (fa ρ S) fun a S => bnd (fb ρ S) fun b S => match g a.1 b.1 with
  | some (.bl t) => if t = true then bnd (fc ρ S) fun c S => (g' b.1 c.1).map fun z => ((z, Md.own), S) else some ((.bl false, .own), S)
  | _ => none := rfl
theorem md_box (lo hi : List Int) (m : Md) : md (encBx lo hi, m) = (encBx lo hi, .frz) := rfl
theorem sto_box (lo hi : List Int) (m : Md) : sto (encBx lo hi, m) = true := rfl
local macro_rules | `(tactic| walk_at "ev") => `(tactic| simp -implicitDefEqProofs only [q_lit, q_nil, q_cons, q_var, q_bin, q_tup, q_lst, q_box, q_neg, q_notT, q_andT, q_orT, q_notV, q_andV, q_orV, q_if, q_B, q_ix, q_call, q_bi, q_sl, q_oNone, q_oSome, q_dk, q_dt, q_yesT, q_get2,
  q_lc, q_iExp, q_iVar, q_iEnV, items_tup, items_lst, q_seq, q_skip, q_ret, q_retV, q_ifS, q_asg, q_drop, q_for, q_tName, q_tTup, q_tCons, q_tNil, q_fz, q_frzE, q_app, q_aug, q_setIx, q_wipe0, q_wipe, fin_rt, fin_nx,
  mut_non, mut_bl, mut_int, mut_str, mut_tup, mut_lst, mut_dk, mut_dt, mut_scr, mut_cel, sto_non, sto_bl, sto_int, sto_str, sto_tup, sto_scr, sto_cel, sto_own, sto_frz, md_non, md_bl, md_int, md_str, md_tup, md_lst, md_dk, md_dt, md_scr, md_cel,
  gAdd_int, gAddI_int, gSub_int, gLt_int, gLe_int, gGt_int, gGe_int, gInt_int, gInt_bl, gLen_tup, gLen_lst, gTuple_lst, gTuple_tup, gList_scr, gList_lst, gList_tup, gIx_tup, gIx_lst, gEq_int, gEq_bl, atI_0, atI_1, atI_2, atI_3, atI_4,
  bnd_some, Option.map_some, Option.bind_some, List.getElem?_cons_succ, List.getElem?_cons_zero, List.set_cons_succ, List.set_cons_zero, List.foldl_cons, List.foldl_nil, List.map_cons, List.map_nil, List.length_map, List.length_cons, List.length_nil, List.all_cons, List.all_nil, Bool.and_true, Bool.true_and, and_true, true_and, false_and, and_false,
  size_le, size_lt', Nat.reduceAdd, Nat.reduceLeDiff, Nat.zero_add, ne_eq, decide_eq_true_eq, Int.reduceEq, Int.reduceLT, Int.reduceLE, Int.reduceNeg, decide_true, decide_false, Bool.false_bne, Bool.true_bne, Bool.not_true, Bool.not_false, md_encT, md_encP, md_encL, md_encB, sto_encT, sto_encP, sto_encL, sto_encB, md_encG, md_encU, md_encC, sto_encG, sto_encU, sto_encC, q_chain, bx_0, bx_1, md_box, sto_box, reduceCtorEq, if_false, if_true, ite_true, ite_false, Bool.false_eq_true])
local macro_rules | `(tactic| walk_at "go") => `(tactic| simp -implicitDefEqProofs only [q_lit, q_nil, q_cons, q_var, q_bin, q_tup, q_lst, q_box, q_neg, q_notT, q_andT, q_orT, q_notV, q_andV, q_orV, q_if, q_B, q_ix, q_call, q_bi, q_sl, q_oNone, q_oSome, q_dk, q_dt, q_yesT, q_get2,
  q_lc, q_iExp, q_iVar, q_iEnV, items_tup, items_lst, q_seq, q_skip, q_ret, q_retV, q_ifS, q_asg, q_drop, q_for, q_tName, q_tTup, q_tCons, q_tNil, q_fz, q_frzE, q_app, q_aug, q_setIx, q_wipe0, q_wipe, fin_rt, fin_nx,
  mut_non, mut_bl, mut_int, mut_str, mut_tup, mut_lst, mut_dk, mut_dt, mut_scr, mut_cel, sto_non, sto_bl, sto_int, sto_str, sto_tup, sto_scr, sto_cel, sto_own, sto_frz, md_non, md_bl, md_int, md_str, md_tup, md_lst, md_dk, md_dt, md_scr, md_cel,
  gAdd_int, gAddI_int, gSub_int, gLt_int, gLe_int, gGt_int, gGe_int, gInt_int, gInt_bl, gLen_tup, gLen_lst, gTuple_lst, gTuple_tup, gList_scr, gList_lst, gList_tup, gIx_tup, gIx_lst, gEq_int, gEq_bl, atI_0, atI_1, atI_2, atI_3, atI_4,
  bnd_some, Option.map_some, Option.bind_some, List.getElem?_cons_succ, List.getElem?_cons_zero, List.set_cons_succ, List.set_cons_zero, List.foldl_cons, List.foldl_nil, List.map_cons, List.map_nil, List.length_map, List.length_cons, List.length_nil, List.all_cons, List.all_nil, Bool.and_true, Bool.true_and, and_true, true_and, false_and, and_false,
  size_le, size_lt', Nat.reduceAdd, Nat.reduceLeDiff, Nat.zero_add, ne_eq, decide_eq_true_eq, Int.reduceEq, Int.reduceLT, Int.reduceLE, Int.reduceNeg, decide_true, decide_false, Bool.false_bne, Bool.true_bne, Bool.not_true, Bool.not_false, md_encT, md_encP, md_encL, md_encB, sto_encT, sto_encP, sto_encL, sto_encB, md_encG, md_encU, md_encC, sto_encG, sto_encU, sto_encC, q_chain, bx_0, bx_1, md_box, sto_box, reduceCtorEq, if_false, if_true, ite_true, ite_false, Bool.false_eq_true, *])

theorem rel_eq : m_law_rel = Lg.m_law_rel := rfl
theorem sum_eq : m_law_sum = Lg.m_law_sum := rfl
theorem holds_eq : m_law_holds = Lg.m_law_holds := rfl
theorem body_eq : m_law_body = Lg.m_law_body := rfl
theorem world_eq : m_law_world = Lg.m_law_world := rfl
theorem bigu_eq : m_law_big_unknowns = Lg.m_law_big_unknowns := rfl
theorem bbody_eq : m_law_big_body = Lg.m_law_big_body := rfl
/-! ### literals in a box -/
def poss (lo hi : List Int) (l : Ltl) : Bool := match l.r with
  | .le => decide (at' lo l.v ≤ l.a)
  | .ge => decide (l.a ≤ at' hi l.v)
  | .eq => decide (at' lo l.v ≤ l.a) && decide (l.a ≤ at' hi l.v)
  | .ne => !decide (at' lo l.v = l.a) || !decide (at' hi l.v = l.a)
def negL (l : Ltl) : Ltl := match l.r with
  | .le => ⟨l.v, .ge, l.a + 1⟩
  | .ge => ⟨l.v, .le, l.a - 1⟩
  | .eq => ⟨l.v, .ne, l.a⟩
  | .ne => ⟨l.v, .eq, l.a⟩
theorem poss_ok {lo hi : List Int} {l : Ltl} (S : Store) (h0 : LOk lo.length l) (h1 : LOk hi.length l) : m_is_possible [encBx lo hi, encL l] S = some ((.bl (poss lo hi l), .own), S) := by
  have e1 := ix_P S h0.1 h0.2
  have e2 := ix_P S h1.1 h1.2
  have r1 := rl_le l.r
  have r2 := rl_ge l.r
  have r3 := rl_eq l.r
  unfold m_is_possible
  rw [cFn_run (by rfl)]
  show fin (c_is_possible [some (encBx lo hi, .brw), some (encL l, .brw), none, none, none, none, none] S) = _
  unfold c_is_possible poss
  clear h0 h1
  obtain ⟨v, r, a⟩ := l
  rw [seq_nx (ρ2 := [some (encBx lo hi, .brw), some (encL ⟨v, r, a⟩, .brw), none, none, some (.int v, .frz), some (.str (rlS r), .frz), some (.int a, .frz)]) (S2 := S) (by unfold encL; walk_at "ev")]
  cases r with
  | le => walk_at "go"; try rfl
  | ge => walk_at "go"; try rfl
  | eq =>
    walk_at "go"
    by_cases h : at' lo v ≤ a
    · simp only [h, decide_true, if_true, Bool.true_and]
      try rfl
    · simp only [h, decide_false, Bool.false_eq_true, if_false, Bool.false_and]
      try rfl
  | ne =>
    walk_at "go"
    by_cases h : at' lo v = a
    · simp only [h, decide_true, Bool.not_true, Bool.false_eq_true, if_false, Bool.false_or]
      try rfl
    · simp only [h, decide_false, Bool.not_false, if_true, Bool.true_or]
      try rfl
theorem neg_ok {l : Ltl} (S : Store) : m_negated [encL l] S = some ((encL (negL l), .own), S) := by
  have r1 := rl_le l.r
  have r2 := rl_ge l.r
  have r3 := rl_eq l.r
  unfold m_negated
  rw [cFn_run (by rfl)]
  show fin (c_negated [some (encL l, .brw), none, none, none] S) = _
  unfold c_negated
  obtain ⟨v, r, a⟩ := l
  rw [seq_nx (ρ2 := [some (encL ⟨v, r, a⟩, .brw), some (.int v, .frz), some (.str (rlS r), .frz), some (.int a, .frz)]) (S2 := S) (by unfold encL; walk_at "ev")]
  cases r with
  | le => walk_at "go"; try rfl
  | ge => walk_at "go"; try rfl
  | eq => walk_at "go"; try rfl
  | ne => walk_at "go"; try rfl
/-! ### sums -/
def leastT (lo hi : List Int) (t : Int × Int) : Int := t.2 * (if 0 < t.2 then at' lo t.1 else at' hi t.1)
def mostT (lo hi : List Int) (t : Int × Int) : Int := if t.2 * at' hi t.1 > t.2 * at' lo t.1 then t.2 * at' hi t.1 else t.2 * at' lo t.1
def leastS (lo hi : List Int) (ts : Lg.Tm) : Int := ts.foldl (fun s t => s + leastT lo hi t) 0
def mostS (lo hi : List Int) (ts : Lg.Tm) : Int := ts.foldl (fun s t => s + mostT lo hi t) 0
def negT (ts : Lg.Tm) : Lg.Tm := ts.map fun t => (t.1, -t.2)
theorem least_ok {lo hi : List Int} {ts : Lg.Tm} (S : Store) (h0 : TmOk lo.length ts) (h1 : TmOk hi.length ts) : m_least_sum [encBx lo hi, encT ts] S = some ((.int (leastS lo hi ts), .frz), S) := by
  unfold m_least_sum
  rw [cFn_run (by rfl)]
  show fin (c_least_sum [some (encBx lo hi, .brw), some (encT ts, .brw), none, none, none] S) = _
  unfold c_least_sum
  rw [seq_nx (ρ2 := [some (encBx lo hi, .brw), some (encT ts, .brw), some (.int 0, .frz), none, none]) (S2 := S) (by walk_at "ev")]
  obtain ⟨ρ2, S2, e, rfl, x3, x4, rfl⟩ := for_fold (enc := fun p : Int × Int => .tup [.int p.1, .int p.2]) (st := fun s (t : Int × Int) => s + leastT lo hi t)
    (t := tTup 2 (tCons (tName 3) (tCons (tName 4) tNil))) (b := (cIfS (cB (cBin gGt (cVar 4) (cLit (.int 0)))) (cAug 2 gAddI (cBin gMul (cVar 4) (cIx (cIx (cVar 0) (cLit (.int 0))) (cVar 3)))) (cAug 2 gAddI (cBin gMul (cVar 4) (cIx (cIx (cVar 0) (cLit (.int 1))) (cVar 3))))))
    (fun s ρ S' => S' = S ∧ ∃ x3 x4, ρ = [some (encBx lo hi, .brw), some (encT ts, .brw), some (.int s, .frz), x3, x4]) (xs := ts) (s := 0) (ρ := [some (encBx lo hi, .brw), some (encT ts, .brw), some (.int 0, .frz), none, none]) (fun t ht s ρ S' hi' => by
      obtain ⟨rfl, x3, x4, rfl⟩ := hi'
      obtain ⟨a0, a1, a2, a3⟩ := h0.2 t ht
      obtain ⟨b0, b1, _, _⟩ := h1.2 t ht
      have e1 := ix_P S' a0 a1
      have e2 := ix_P S' b0 b1
      have m1 : gMul (.int t.2) (.int (at' lo t.1)) = some (.int (t.2 * at' lo t.1)) := gMul_int (.inl (by omega))
      have m2 : gMul (.int t.2) (.int (at' hi t.1)) = some (.int (t.2 * at' hi t.1)) := gMul_int (.inl (by omega))
      refine ⟨_, [some (encBx lo hi, .brw), some (encT ts, .brw), some (.int (s + leastT lo hi t), .frz), some (.int t.1, .frz), some (.int t.2, .frz)], S', by walk_at "ev"; rfl, ?_, rfl, _, _, rfl⟩
      unfold leastT
      clear a0 a1 a2 a3 b0 b1 h0 h1
      by_cases h : 0 < t.2
      · have h' : decide (0 < t.2) = true := decide_eq_true h
        rw [if_pos h]
        clear h
        walk_at "go"
      · have h' : decide (0 < t.2) = false := decide_eq_false h
        rw [if_neg h]
        clear h
        walk_at "go") ⟨rfl, none, none, rfl⟩
  have hit : iVar 1 [some (encBx lo hi, .brw), some (encT ts, .brw), some (.int 0, .frz), none, none] S2 = some (ts.map fun p => .tup [.int p.1, .int p.2], S2) := rfl
  rw [seq_nx (ρ2 := [some (encBx lo hi, .brw), some (encT ts, .brw), some (.int (leastS lo hi ts), .frz), x3, x4]) (S2 := S2) (by rw [q_for, hit]; exact e)]
  walk_at "ev"
theorem most_ok {lo hi : List Int} {ts : Lg.Tm} (S : Store) (h0 : TmOk lo.length ts) (h1 : TmOk hi.length ts) : m_law_most [encBx lo hi, encT ts] S = some ((.int (mostS lo hi ts), .frz), S) := by
  unfold m_law_most
  rw [cFn_run (by rfl)]
  show fin (c_law_most [some (encBx lo hi, .brw), some (encT ts, .brw), none, none, none] S) = _
  unfold c_law_most
  rw [seq_nx (ρ2 := [some (encBx lo hi, .brw), some (encT ts, .brw), some (.int 0, .frz), none, none]) (S2 := S) (by walk_at "ev")]
  obtain ⟨ρ2, S2, e, rfl, x3, x4, rfl⟩ := for_fold (enc := fun p : Int × Int => .tup [.int p.1, .int p.2]) (st := fun s (t : Int × Int) => s + mostT lo hi t)
    (t := tTup 2 (tCons (tName 3) (tCons (tName 4) tNil))) (b := (cAsg (tName 2) (cBin gAdd (cVar 2) (cBi gMax2 (cCons (cBin gMul (cVar 4) (cIx (cIx (cVar 0) (cLit (.int 0))) (cVar 3))) (cCons (cBin gMul (cVar 4) (cIx (cIx (cVar 0) (cLit (.int 1))) (cVar 3))) cNil))))))
    (fun s ρ S' => S' = S ∧ ∃ x3 x4, ρ = [some (encBx lo hi, .brw), some (encT ts, .brw), some (.int s, .frz), x3, x4]) (xs := ts) (s := 0) (ρ := [some (encBx lo hi, .brw), some (encT ts, .brw), some (.int 0, .frz), none, none]) (fun t ht s ρ S' hi' => by
      obtain ⟨rfl, x3, x4, rfl⟩ := hi'
      obtain ⟨a0, a1, a2, a3⟩ := h0.2 t ht
      obtain ⟨b0, b1, _, _⟩ := h1.2 t ht
      have e1 := ix_P S' a0 a1
      have e2 := ix_P S' b0 b1
      have m1 : gMul (.int t.2) (.int (at' lo t.1)) = some (.int (t.2 * at' lo t.1)) := gMul_int (.inl (by omega))
      have m2 : gMul (.int t.2) (.int (at' hi t.1)) = some (.int (t.2 * at' hi t.1)) := gMul_int (.inl (by omega))
      have m3 : gMax2 S' [.int (t.2 * at' lo t.1), .int (t.2 * at' hi t.1)] = some (.int (mostT lo hi t)) := rfl
      refine ⟨_, [some (encBx lo hi, .brw), some (encT ts, .brw), some (.int (s + mostT lo hi t), .frz), some (.int t.1, .frz), some (.int t.2, .frz)], S', by walk_at "ev"; rfl, ?_, rfl, _, _, rfl⟩
      clear a0 a1 a2 a3 b0 b1 h0 h1
      walk_at "go") ⟨rfl, none, none, rfl⟩
  have hit : iVar 1 [some (encBx lo hi, .brw), some (encT ts, .brw), some (.int 0, .frz), none, none] S2 = some (ts.map fun p => .tup [.int p.1, .int p.2], S2) := rfl
  rw [seq_nx (ρ2 := [some (encBx lo hi, .brw), some (encT ts, .brw), some (.int (mostS lo hi ts), .frz), x3, x4]) (S2 := S2) (by rw [q_for, hit]; exact e)]
  walk_at "ev"
/-- the greatest sum, by either way -/
theorem fold_add (f : Int × Int → Int) : ∀ (ts : Lg.Tm) (a : Int), ts.foldl (fun s t => s + f t) a = a + ts.foldl (fun s t => s + f t) 0
  | [], a => by simp
  | t :: ts, a => by
    rw [List.foldl_cons, List.foldl_cons, fold_add f ts, fold_add f ts (0 + f t)]
    omega
theorem least_neg {lo hi : List Int} : ∀ (ts : Lg.Tm), (∀ t ∈ ts, at' lo t.1 ≤ at' hi t.1) → -leastS lo hi (negT ts) = mostS lo hi ts
  | [], _ => rfl
  | t :: ts, h => by
    have ih := least_neg ts fun t ht => h t (List.mem_cons_of_mem _ ht)
    have hlh := h t List.mem_cons_self
    have e1 : leastS lo hi (negT (t :: ts)) = leastT lo hi (t.1, -t.2) + leastS lo hi (negT ts) := by
      show List.foldl _ _ (_ :: negT ts) = _
      rw [List.foldl_cons, fold_add]
      show 0 + leastT lo hi (t.1, -t.2) + leastS lo hi (negT ts) = _
      omega
    have e2 : mostS lo hi (t :: ts) = mostT lo hi t + mostS lo hi ts := by
      show List.foldl _ _ (_ :: ts) = _
      rw [List.foldl_cons, fold_add]
      show 0 + mostT lo hi t + mostS lo hi ts = _
      omega
    have e3 : -leastT lo hi (t.1, -t.2) = mostT lo hi t := by
      unfold leastT mostT
      simp only
      have hm : 0 ≤ t.2 → t.2 * at' lo t.1 ≤ t.2 * at' hi t.1 := fun h0 => Int.mul_le_mul_of_nonneg_left hlh h0
      have hn : t.2 ≤ 0 → t.2 * at' hi t.1 ≤ t.2 * at' lo t.1 := fun h0 => Int.mul_le_mul_of_nonpos_left h0 hlh
      by_cases h0 : 0 < -t.2
      · rw [if_pos h0, Int.neg_mul, Int.neg_neg]
        have := hn (by omega)
        rw [if_neg (by omega)]
      · rw [if_neg h0, Int.neg_mul, Int.neg_neg]
        have := hm (by omega)
        split <;> omega
    rw [e1, e2, ← ih, ← e3]
    omega
end K76
/-! rows (printed by mk76c.py) -/
namespace K76
open PySem PySem.Spec PyProof.Rows L2 Mp Lg
local macro_rules | `(tactic| walk_at "ev") => `(tactic| simp -implicitDefEqProofs only [q_lit, q_nil, q_cons, q_var, q_bin, q_tup, q_lst, q_box, q_neg, q_notT, q_andT, q_orT, q_notV, q_andV, q_orV, q_if, q_B, q_ix, q_call, q_bi, q_sl, q_oNone, q_oSome, q_dk, q_dt, q_yesT, q_get2,
  q_lc, q_iExp, q_iVar, q_iEnV, items_tup, items_lst, q_seq, q_skip, q_ret, q_retV, q_ifS, q_asg, q_drop, q_for, q_tName, q_tTup, q_tCons, q_tNil, q_fz, q_frzE, q_app, q_aug, q_setIx, q_wipe0, q_wipe, fin_rt, fin_nx,
  mut_non, mut_bl, mut_int, mut_str, mut_tup, mut_lst, mut_dk, mut_dt, mut_scr, mut_cel, sto_non, sto_bl, sto_int, sto_str, sto_tup, sto_scr, sto_cel, sto_own, sto_frz, md_non, md_bl, md_int, md_str, md_tup, md_lst, md_dk, md_dt, md_scr, md_cel,
  gAdd_int, gAddI_int, gSub_int, gLt_int, gLe_int, gGt_int, gGe_int, gInt_int, gInt_bl, gLen_tup, gLen_lst, gTuple_lst, gTuple_tup, gList_scr, gList_lst, gList_tup, gIx_tup, gIx_lst, gEq_int, gEq_bl, atI_0, atI_1, atI_2, atI_3, atI_4,
  bnd_some, Option.map_some, Option.bind_some, List.getElem?_cons_succ, List.getElem?_cons_zero, List.set_cons_succ, List.set_cons_zero, List.foldl_cons, List.foldl_nil, List.map_cons, List.map_nil, List.length_map, List.length_cons, List.length_nil, List.all_cons, List.all_nil, Bool.and_true, Bool.true_and, and_true, true_and, false_and, and_false,
  size_le, size_lt', Nat.reduceAdd, Nat.reduceLeDiff, Nat.zero_add, ne_eq, decide_eq_true_eq, Int.reduceEq, Int.reduceLT, Int.reduceLE, Int.reduceNeg, decide_true, decide_false, Bool.false_bne, Bool.true_bne, Bool.not_true, Bool.not_false, md_encT, md_encP, md_encL, md_encB, sto_encT, sto_encP, sto_encL, sto_encB, md_encG, md_encU, md_encC, sto_encG, sto_encU, sto_encC, q_chain, bx_0, bx_1, md_box, sto_box, reduceCtorEq, if_false, if_true, ite_true, ite_false, Bool.false_eq_true])
local macro_rules | `(tactic| walk_at "go") => `(tactic| simp -implicitDefEqProofs only [q_lit, q_nil, q_cons, q_var, q_bin, q_tup, q_lst, q_box, q_neg, q_notT, q_andT, q_orT, q_notV, q_andV, q_orV, q_if, q_B, q_ix, q_call, q_bi, q_sl, q_oNone, q_oSome, q_dk, q_dt, q_yesT, q_get2,
  q_lc, q_iExp, q_iVar, q_iEnV, items_tup, items_lst, q_seq, q_skip, q_ret, q_retV, q_ifS, q_asg, q_drop, q_for, q_tName, q_tTup, q_tCons, q_tNil, q_fz, q_frzE, q_app, q_aug, q_setIx, q_wipe0, q_wipe, fin_rt, fin_nx,
  mut_non, mut_bl, mut_int, mut_str, mut_tup, mut_lst, mut_dk, mut_dt, mut_scr, mut_cel, sto_non, sto_bl, sto_int, sto_str, sto_tup, sto_scr, sto_cel, sto_own, sto_frz, md_non, md_bl, md_int, md_str, md_tup, md_lst, md_dk, md_dt, md_scr, md_cel,
  gAdd_int, gAddI_int, gSub_int, gLt_int, gLe_int, gGt_int, gGe_int, gInt_int, gInt_bl, gLen_tup, gLen_lst, gTuple_lst, gTuple_tup, gList_scr, gList_lst, gList_tup, gIx_tup, gIx_lst, gEq_int, gEq_bl, atI_0, atI_1, atI_2, atI_3, atI_4,
  bnd_some, Option.map_some, Option.bind_some, List.getElem?_cons_succ, List.getElem?_cons_zero, List.set_cons_succ, List.set_cons_zero, List.foldl_cons, List.foldl_nil, List.map_cons, List.map_nil, List.length_map, List.length_cons, List.length_nil, List.all_cons, List.all_nil, Bool.and_true, Bool.true_and, and_true, true_and, false_and, and_false,
  size_le, size_lt', Nat.reduceAdd, Nat.reduceLeDiff, Nat.zero_add, ne_eq, decide_eq_true_eq, Int.reduceEq, Int.reduceLT, Int.reduceLE, Int.reduceNeg, decide_true, decide_false, Bool.false_bne, Bool.true_bne, Bool.not_true, Bool.not_false, md_encT, md_encP, md_encL, md_encB, sto_encT, sto_encP, sto_encL, sto_encB, md_encG, md_encU, md_encC, sto_encG, sto_encU, sto_encC, q_chain, bx_0, bx_1, md_box, sto_box, reduceCtorEq, if_false, if_true, ite_true, ite_false, Bool.false_eq_true, *])

theorem negt_ok {ts : Lg.Tm} (S : Store) (hl : ts.length ≤ 1000) : m_negated_terms [encT ts] S = some ((encT (negT ts), .own), S) := by
  unfold m_negated_terms
  rw [cFn_run (by rfl)]
  show fin (c_negated_terms [some (encT ts, .brw), none, none] S) = _
  unfold c_negated_terms encT
  walk_at "ev"
  rw [if_pos (size_ok (by omega))]
  rw [lc_map (g := fun t : Int × Int => .tup [.int t.1, .int (-t.2)]) (enc := fun t : Int × Int => .tup [.int t.1, .int t.2]) fun t ht => ⟨[some (encT ts, .brw), some (.int t.1, .frz), some (.int t.2, .frz)], .own, by
      unfold encT; walk_at "ev", rfl, by
      walk_at "ev", rfl⟩]
  walk_at "ev"
  unfold negT
  rw [List.map_map]
  rfl
def encR (r : Lg.Tm × Int) : W := .tup [.str "row", encT r.1, .int r.2]
def rowsOf (ts : Lg.Tm) (r : Rl) (b : Int) : List (Lg.Tm × Int) := match r with
  | .le => [(ts, b)]
  | .ge => [(negT ts, -b)]
  | _ => [(ts, b), (negT ts, -b)]
theorem rl_ge' (r : Rl) : gEq true (.str (rlS r)) (.str ">=") = some (.bl (!decide (r = .ge))) := by
  cases r <;> rw [gEq_str (by decide +kernel) (by decide +kernel)] <;> rfl
theorem rl_le' (r : Rl) : gEq true (.str (rlS r)) (.str "<=") = some (.bl (!decide (r = .le))) := by
  cases r <;> rw [gEq_str (by decide +kernel) (by decide +kernel)] <;> rfl
theorem rows_of_ok {ts : Lg.Tm} {r : Rl} {b : Int} (S : Store) (hl : ts.length ≤ 1000) : m_rows_of [encT ts, .str (rlS r), .int b] S = some ((.lst ((rowsOf ts r b).map encR), .own), S) := by
  have n1 := negt_ok S hl
  have r1 := rl_ge' r
  have r2 := rl_le' r
  unfold m_rows_of
  rw [cFn_run (by rfl)]
  show fin (c_rows_of [some (encT ts, .brw), some (.str (rlS r), .brw), some (.int b, .brw), none] S) = _
  unfold c_rows_of
  clear hl
  cases r <;> walk_at "go" <;> try rfl
theorem law_rows_ok {ts : Lg.Tm} {r : Rl} {b : Int} (S : Store) (hl : ts.length ≤ 1000) : m_law_rows [encT ts, .str (rlS r), .int b] S = some ((.lst ((rowsOf ts r b).map encR), .own), S) := by
  have r1 := rl_ge r
  have r2 := rl_le r
  have hc : cLc (tTup 2 (tCons (tName 5) (tCons (tName 6) tNil))) (iVar 0) tYesT (cTup (cCons (cVar 5) (cCons (cBin Mp.gSub (cLit (.int 0)) (cVar 6)) cNil))) [5, 6] [some (encT ts, .brw), some (.str (rlS r), .brw), some (.int b, .brw), some (encR (ts, b), .frz), none, none, none] S =
      some ((.lst ((negT ts).map fun p => .tup [.int p.1, .int p.2]), .own), S) := by
    rw [q_lc]
    unfold encT
    walk_at "ev"
    rw [if_pos (size_ok (by omega))]
    rw [lc_map (g := fun t : Int × Int => .tup [.int t.1, .int (0 - t.2)]) (enc := fun t : Int × Int => .tup [.int t.1, .int t.2]) fun t ht => ⟨_, .own, by walk_at "ev"; rfl, rfl, by walk_at "ev", rfl⟩]
    walk_at "ev"
    unfold negT
    rw [List.map_map]
    simp only [Int.zero_sub]
    rfl
  unfold m_law_rows
  rw [cFn_run (by rfl)]
  show fin (c_law_rows [some (encT ts, .brw), some (.str (rlS r), .brw), some (.int b, .brw), none, none, none, none] S) = _
  unfold c_law_rows
  rw [seq_nx (ρ2 := [some (encT ts, .brw), some (.str (rlS r), .brw), some (.int b, .brw), some (encR (ts, b), .frz), none, none, none]) (S2 := S) (by walk_at "ev"; rfl)]
  rw [seq_nx (ρ2 := [some (encT ts, .brw), some (.str (rlS r), .brw), some (.int b, .brw), some (encR (ts, b), .frz), some (encR (negT ts, -b), .frz), none, none]) (S2 := S) (by
    simp -implicitDefEqProofs only [q_asg, q_tup, q_cons, q_bi, q_nil, q_lit, bnd_some, hc]
    walk_at "ev"
    simp only [Int.zero_sub]
    rfl)]
  clear hc hl
  have hs : ∀ r m, sto (encR r, m) = true := fun _ _ => rfl
  cases r <;> walk_at "go" <;> try rfl
def RsOk (n : Nat) (rs : List (Lg.Tm × Int)) : Prop := rs.length ≤ 60 ∧ ∀ r ∈ rs, TmOk n r.1
theorem TmOk.neg {n : Nat} {ts : Lg.Tm} (h : TmOk n ts) : TmOk n (negT ts) := ⟨by unfold negT; rw [List.length_map]; exact h.1, fun t ht => by
  obtain ⟨t', h', rfl⟩ := List.mem_map.mp ht
  obtain ⟨h1, h2, h3, h4⟩ := h.2 t' h'
  exact ⟨h1, h2, by simp only; omega, by simp only; omega⟩⟩
def rowsH (lo hi : List Int) (rs : List (Lg.Tm × Int)) : Bool := rs.all fun r => decide (mostS lo hi r.1 ≤ r.2)
theorem rows_hold_ok {lo hi : List Int} {rs : List (Lg.Tm × Int)} (S : Store) (h0 : RsOk lo.length rs) (h1 : RsOk hi.length rs) : m_law_rows_hold [encBx lo hi, .lst (rs.map encR)] S = some ((.bl (rowsH lo hi rs), .own), S) := by
  unfold m_law_rows_hold
  rw [cFn_run (by rfl)]
  show fin (c_law_rows_hold [some (encBx lo hi, .brw), some (.lst (rs.map encR), .brw), none] S) = _
  unfold c_law_rows_hold
  have e2 := gIn_ok (neg := true) (a := .bl false) (ws := rs.map fun r => W.bl (decide (mostS lo hi r.1 ≤ r.2))) rfl (okD_lst (n := 63) fun w hw => by
    obtain ⟨l, _, rfl⟩ := List.mem_map.mp hw
    rfl)
  have e3 : (true != (rs.map fun r => W.bl (decide (mostS lo hi r.1 ≤ r.2))).any fun z => eqW z (.bl false)) = rowsH lo hi rs := by
    unfold rowsH
    rw [List.any_map, Bool.true_bne, List.not_any_eq_all_not]
    congr 1
    funext r
    show (!(decide (mostS lo hi r.1 ≤ r.2) == false)) = _
    cases decide (mostS lo hi r.1 ≤ r.2) <;> rfl
  rw [e3] at e2
  walk_at "ev"
  rw [if_pos (size_ok (by have := h0.1; omega))]
  rw [lc_map (enc := encR) (g := fun r : Lg.Tm × Int => W.bl (decide (mostS lo hi r.1 ≤ r.2))) fun r hr => ⟨[some (encBx lo hi, .brw), some (.lst (rs.map encR), .brw), some (encR r, .frz)], .own, by unfold encR; walk_at "ev", rfl, by
    have m1 := most_ok S (h0.2 r hr) (h1.2 r hr)
    have g1 : gIx S (encR r) (.int 1) = some (encT r.1) := rfl
    have g2 : gIx S (encR r) (.int 2) = some (.int r.2) := rfl
    clear e2 e3 h0 h1 hr
    walk_at "go", rfl⟩]
  walk_at "ev"
  rw [e2]
  walk_at "ev"
structure BoxOk (n : Nat) (lo hi : List Int) : Prop where
  l0 : lo.length = n
  l1 : hi.length = n
  le : ∀ v : Int, 0 ≤ v → v < n → at' lo v ≤ at' hi v
  p0 : POk lo
  p1 : POk hi
theorem bls_map {A : Type} (f : A → Bool) : ∀ xs : List A, blsOf (xs.map fun x => W.bl (f x)) = some (xs.map f)
  | [] => rfl
  | x :: xs => by
    rw [List.map_cons]
    unfold blsOf
    rw [bls_map f xs]
    rfl
theorem rows_sure_ok {n : Nat} {lo hi : List Int} {rs : List (Lg.Tm × Int)} (S : Store) (hb : BoxOk n lo hi) (h : RsOk n rs) : m_rows_sure [encBx lo hi, .lst (rs.map encR)] S = some ((.bl (rowsH lo hi rs), .own), S) := by
  obtain ⟨hl0, hl1, hle, _, _⟩ := hb
  unfold m_rows_sure
  rw [cFn_run (by rfl)]
  show fin (c_rows_sure [some (encBx lo hi, .brw), some (.lst (rs.map encR), .brw), none] S) = _
  unfold c_rows_sure
  walk_at "ev"
  rw [if_pos (size_ok (by have := h.1; omega))]
  rw [lc_map (enc := encR) (g := fun r : Lg.Tm × Int => W.bl (decide (mostS lo hi r.1 ≤ r.2))) fun r hr => ⟨[some (encBx lo hi, .brw), some (.lst (rs.map encR), .brw), some (encR r, .frz)], .own, by unfold encR; walk_at "ev", rfl, by
    have ht := h.2 r hr
    have m0 := negt_ok (ts := r.1) S (by have := ht.1; omega)
    have m1 := least_ok (ts := negT r.1) S (by rw [hl0]; exact TmOk.neg ht) (by rw [hl1]; exact TmOk.neg ht)
    have m2 := least_neg (lo := lo) (hi := hi) r.1 fun t h' => hle t.1 (ht.2 t h').1 (ht.2 t h').2.1
    have g1 : gIx S (encR r) (.int 1) = some (encT r.1) := rfl
    have g2 : gIx S (encR r) (.int 2) = some (.int r.2) := rfl
    clear h hr ht hle hl0 hl1
    walk_at "go", rfl⟩]
  have ga : gAll S [.lst (rs.map fun r => W.bl (decide (mostS lo hi r.1 ≤ r.2)))] = some (.bl (rowsH lo hi rs)) := by
    show (blsOf _).map _ = _
    rw [bls_map (fun r : Lg.Tm × Int => decide (mostS lo hi r.1 ≤ r.2)), Option.map_some, List.all_map]
    rfl
  walk_at "ev"
  rw [ga]
  walk_at "ev"
end K76
/-! literals that hold everywhere in a box (printed by mk76d.py) -/
namespace K76
open PySem PySem.Spec PyProof.Rows L2 Mp Lg
local macro_rules | `(tactic| walk_at "ev") => `(tactic| simp -implicitDefEqProofs only [q_lit, q_nil, q_cons, q_var, q_bin, q_tup, q_lst, q_box, q_neg, q_notT, q_andT, q_orT, q_notV, q_andV, q_orV, q_if, q_B, q_ix, q_call, q_bi, q_sl, q_oNone, q_oSome, q_dk, q_dt, q_yesT, q_get2,
  q_lc, q_iExp, q_iVar, q_iEnV, items_tup, items_lst, q_seq, q_skip, q_ret, q_retV, q_ifS, q_asg, q_drop, q_for, q_tName, q_tTup, q_tCons, q_tNil, q_fz, q_frzE, q_app, q_aug, q_setIx, q_wipe0, q_wipe, fin_rt, fin_nx,
  mut_non, mut_bl, mut_int, mut_str, mut_tup, mut_lst, mut_dk, mut_dt, mut_scr, mut_cel, sto_non, sto_bl, sto_int, sto_str, sto_tup, sto_scr, sto_cel, sto_own, sto_frz, md_non, md_bl, md_int, md_str, md_tup, md_lst, md_dk, md_dt, md_scr, md_cel,
  gAdd_int, gAddI_int, gSub_int, gLt_int, gLe_int, gGt_int, gGe_int, gInt_int, gInt_bl, gLen_tup, gLen_lst, gTuple_lst, gTuple_tup, gList_scr, gList_lst, gList_tup, gIx_tup, gIx_lst, gEq_int, gEq_bl, atI_0, atI_1, atI_2, atI_3, atI_4,
  bnd_some, Option.map_some, Option.bind_some, List.getElem?_cons_succ, List.getElem?_cons_zero, List.set_cons_succ, List.set_cons_zero, List.foldl_cons, List.foldl_nil, List.map_cons, List.map_nil, List.length_map, List.length_cons, List.length_nil, List.all_cons, List.all_nil, Bool.and_true, Bool.true_and, and_true, true_and, false_and, and_false,
  size_le, size_lt', Nat.reduceAdd, Nat.reduceLeDiff, Nat.zero_add, ne_eq, decide_eq_true_eq, Int.reduceEq, Int.reduceLT, Int.reduceLE, Int.reduceNeg, decide_true, decide_false, Bool.false_bne, Bool.true_bne, Bool.not_true, Bool.not_false, md_encT, md_encP, md_encL, md_encB, sto_encT, sto_encP, sto_encL, sto_encB, md_encG, md_encU, md_encC, sto_encG, sto_encU, sto_encC, q_chain, bx_0, bx_1, md_box, sto_box, reduceCtorEq, if_false, if_true, ite_true, ite_false, Bool.false_eq_true])
local macro_rules | `(tactic| walk_at "go") => `(tactic| simp -implicitDefEqProofs only [q_lit, q_nil, q_cons, q_var, q_bin, q_tup, q_lst, q_box, q_neg, q_notT, q_andT, q_orT, q_notV, q_andV, q_orV, q_if, q_B, q_ix, q_call, q_bi, q_sl, q_oNone, q_oSome, q_dk, q_dt, q_yesT, q_get2,
  q_lc, q_iExp, q_iVar, q_iEnV, items_tup, items_lst, q_seq, q_skip, q_ret, q_retV, q_ifS, q_asg, q_drop, q_for, q_tName, q_tTup, q_tCons, q_tNil, q_fz, q_frzE, q_app, q_aug, q_setIx, q_wipe0, q_wipe, fin_rt, fin_nx,
  mut_non, mut_bl, mut_int, mut_str, mut_tup, mut_lst, mut_dk, mut_dt, mut_scr, mut_cel, sto_non, sto_bl, sto_int, sto_str, sto_tup, sto_scr, sto_cel, sto_own, sto_frz, md_non, md_bl, md_int, md_str, md_tup, md_lst, md_dk, md_dt, md_scr, md_cel,
  gAdd_int, gAddI_int, gSub_int, gLt_int, gLe_int, gGt_int, gGe_int, gInt_int, gInt_bl, gLen_tup, gLen_lst, gTuple_lst, gTuple_tup, gList_scr, gList_lst, gList_tup, gIx_tup, gIx_lst, gEq_int, gEq_bl, atI_0, atI_1, atI_2, atI_3, atI_4,
  bnd_some, Option.map_some, Option.bind_some, List.getElem?_cons_succ, List.getElem?_cons_zero, List.set_cons_succ, List.set_cons_zero, List.foldl_cons, List.foldl_nil, List.map_cons, List.map_nil, List.length_map, List.length_cons, List.length_nil, List.all_cons, List.all_nil, Bool.and_true, Bool.true_and, and_true, true_and, false_and, and_false,
  size_le, size_lt', Nat.reduceAdd, Nat.reduceLeDiff, Nat.zero_add, ne_eq, decide_eq_true_eq, Int.reduceEq, Int.reduceLT, Int.reduceLE, Int.reduceNeg, decide_true, decide_false, Bool.false_bne, Bool.true_bne, Bool.not_true, Bool.not_false, md_encT, md_encP, md_encL, md_encB, sto_encT, sto_encP, sto_encL, sto_encB, md_encG, md_encU, md_encC, sto_encG, sto_encU, sto_encC, q_chain, bx_0, bx_1, md_box, sto_box, reduceCtorEq, if_false, if_true, ite_true, ite_false, Bool.false_eq_true, *])

theorem negL_v (l : Ltl) : (negL l).v = l.v := by
  obtain ⟨v, r, a⟩ := l
  cases r <;> rfl
theorem sure_ok {lo hi : List Int} {l : Ltl} (S : Store) (h0 : LOk lo.length l) (h1 : LOk hi.length l) : m_is_sure [encBx lo hi, encL l] S = some ((.bl (!poss lo hi (negL l)), .own), S) := by
  have e1 := neg_ok (l := l) S
  have e2 := poss_ok (lo := lo) (hi := hi) (l := negL l) S (by unfold LOk; rw [negL_v]; exact h0) (by unfold LOk; rw [negL_v]; exact h1)
  unfold m_is_sure
  rw [cFn_run (by rfl)]
  show fin (c_is_sure [some (encBx lo hi, .brw), some (encL l, .brw)] S) = _
  unfold c_is_sure
  clear h0 h1
  walk_at "go"
def alw (lo hi : List Int) (l : Ltl) (kept : Bool) : Bool := (List.range (at' hi l.v + 1 - at' lo l.v).toNat).all fun i => rlH l.r (at' lo l.v + ((i : Nat) : Int)) l.a == kept
theorem always_ok {n : Nat} {lo hi : List Int} {l : Ltl} {kept : Bool} (S : Store) (hb : BoxOk n lo hi) (h : LOk n l) : m_law_always [encBx lo hi, encL l, .bl kept] S = some ((.bl (alw lo hi l kept), .own), S) := by
  have e1 := ix_P (p := lo) S h.1 (by rw [hb.l0]; exact h.2)
  have e2 := ix_P (p := hi) S h.1 (by rw [hb.l1]; exact h.2)
  have s1 := at_small hb.p0 l.v
  have s2 := at_small hb.p1 l.v
  unfold m_law_always
  rw [cFn_run (by rfl)]
  show fin (c_law_always [some (encBx lo hi, .brw), some (encL l, .brw), some (.bl kept, .brw), none, none, none, none] S) = _
  unfold c_law_always alw
  obtain ⟨v, r, a⟩ := l
  simp only at *
  rw [seq_nx (ρ2 := [some (encBx lo hi, .brw), some (encL ⟨v, r, a⟩, .brw), some (.bl kept, .brw), some (.int v, .frz), some (.str (rlS r), .frz), some (.int a, .frz), none]) (S2 := S) (by unfold encL; walk_at "ev")]
  generalize at' lo v = x at *
  generalize at' hi v = y at *
  have hr : iRange2 (cIx (cIx (cVar 0) (cLit (.int 0))) (cVar 3)) (cBin gAdd (cIx (cIx (cVar 0) (cLit (.int 1))) (cVar 3)) (cLit (.int 1))) [some (encBx lo hi, .brw), some (encL ⟨v, r, a⟩, .brw), some (.bl kept, .brw), some (.int v, .frz), some (.str (rlS r), .frz), some (.int a, .frz), none] S = some (rangeW x (y + 1 - x).toNat, S) := by
    rw [q_range2]
    have g1 : cIx (cIx (cVar 0) (cLit (.int 0))) (cVar 3) [some (encBx lo hi, .brw), some (encL ⟨v, r, a⟩, .brw), some (.bl kept, .brw), some (.int v, .frz), some (.str (rlS r), .frz), some (.int a, .frz), none] S = some ((.int x, .frz), S) := by
      clear s1 s2 h
      walk_at "go"
    have g2 : cBin gAdd (cIx (cIx (cVar 0) (cLit (.int 1))) (cVar 3)) (cLit (.int 1)) [some (encBx lo hi, .brw), some (encL ⟨v, r, a⟩, .brw), some (.bl kept, .brw), some (.int v, .frz), some (.str (rlS r), .frz), some (.int a, .frz), none] S = some ((.int (y + 1), .own), S) := by
      clear s1 s2 h g1
      walk_at "go"
    rw [g1]
    dsimp only [bnd_some]
    rw [g2]
    dsimp only [bnd_some]
    rw [if_pos (by omega)]
  have e3 := gIn_ok (neg := true) (a := .bl false) (ws := (List.range (y + 1 - x).toNat).map fun i => W.bl (rlH r (x + ((i : Nat) : Int)) a == kept)) rfl (okD_lst (n := 63) fun w hw => by
    obtain ⟨l, _, rfl⟩ := List.mem_map.mp hw
    rfl)
  have e4 : (true != ((List.range (y + 1 - x).toNat).map fun i => W.bl (rlH r (x + ((i : Nat) : Int)) a == kept)).any fun z => eqW z (.bl false)) = (List.range (y + 1 - x).toNat).all fun i => rlH r (x + ((i : Nat) : Int)) a == kept := by
    rw [List.any_map, Bool.true_bne, List.not_any_eq_all_not]
    congr 1
    funext i
    show (!((rlH r (x + ((i : Nat) : Int)) a == kept) == false)) = _
    cases (rlH r (x + ((i : Nat) : Int)) a == kept) <;> rfl
  rw [e4] at e3
  have hlc : cLc (tName 6) (iRange2 (cIx (cIx (cVar 0) (cLit (.int 0))) (cVar 3)) (cBin gAdd (cIx (cIx (cVar 0) (cLit (.int 1))) (cVar 3)) (cLit (.int 1)))) tYesT (cBin (gEq false) (cCall m_law_rel (cCons (cVar 4) (cCons (cVar 6) (cCons (cVar 5) cNil)))) (cVar 2)) [6] [some (encBx lo hi, .brw), some (encL ⟨v, r, a⟩, .brw), some (.bl kept, .brw), some (.int v, .frz), some (.str (rlS r), .frz), some (.int a, .frz), none] S =
      some ((.lst ((List.range (y + 1 - x).toNat).map fun i => W.bl (rlH r (x + ((i : Nat) : Int)) a == kept)), .own), S) := by
    rw [q_lc, hr]
    dsimp only [bnd_some]
    rw [if_pos (size_ok (by unfold rangeW; rw [List.length_map, List.length_range]; omega))]
    unfold rangeW
    rw [lc_map (enc := fun i : Nat => W.int (x + ((i : Nat) : Int))) (g := fun i : Nat => W.bl (rlH r (x + ((i : Nat) : Int)) a == kept)) fun i hi' => ⟨[some (encBx lo hi, .brw), some (encL ⟨v, r, a⟩, .brw), some (.bl kept, .brw), some (.int v, .frz), some (.str (rlS r), .frz), some (.int a, .frz), some (.int (x + ((i : Nat) : Int)), .frz)], .own, by walk_at "ev", rfl, by
      have rr := Lg.rel_ok r (x + ((i : Nat) : Int)) a S
      rw [← rel_eq] at rr
      clear hr e1 e2 e3 e4 s1 s2 h hi'
      walk_at "go", rfl⟩]
    walk_at "ev"
  simp -implicitDefEqProofs only [q_ret, q_bin, q_lit, bnd_some, hlc, e3, Option.map_some, sto_bl, if_true, fin_rt]
theorem all_range {P : Int → Bool} {x y : Int} (hxy : x ≤ y) : ((List.range (y + 1 - x).toNat).all fun i => P (x + ((i : Nat) : Int))) = true ↔ ∀ z, x ≤ z → z ≤ y → P z = true := by
  rw [List.all_eq_true]
  constructor
  · intro h z h1 h2
    have := h (z - x).toNat (List.mem_range.mpr (by omega))
    rwa [show x + (((z - x).toNat : Nat) : Int) = z by omega] at this
  · intro h i hi
    have := List.mem_range.mp hi
    exact h _ (by omega) (by omega)
theorem alw_true {lo hi : List Int} {l : Ltl} (h : at' lo l.v ≤ at' hi l.v) : alw lo hi l true = !poss lo hi (negL l) := by
  unfold alw
  rw [Bool.eq_iff_iff, all_range (P := fun z => rlH l.r z l.a == true) h]
  obtain ⟨v, r, a⟩ := l
  have h : at' lo v ≤ at' hi v := h
  have key : ∀ x y : Int, x ≤ y → ((∀ z, x ≤ z → z ≤ y → (rlH r z a == true) = true) ↔ (!(match r with | .le => decide (a + 1 ≤ y) | .ge => decide (x ≤ a - 1) | .eq => !decide (x = a) || !decide (y = a) | .ne => decide (x ≤ a) && decide (a ≤ y))) = true) := fun x y hxy => by
    cases r with
    | le => simp [rlH]; exact ⟨fun h1 => by have := h1 y hxy (Int.le_refl _); omega, fun h1 z h2 h3 => by omega⟩
    | ge => simp [rlH]; exact ⟨fun h1 => by have := h1 x (Int.le_refl _) hxy; omega, fun h1 z h2 h3 => by omega⟩
    | eq => simp [rlH]; exact ⟨fun h1 => ⟨h1 x (Int.le_refl _) hxy, h1 y hxy (Int.le_refl _)⟩, fun h1 z h2 h3 => by omega⟩
    | ne => simp [rlH]; exact ⟨fun h1 => by
        by_cases h2 : x ≤ a
        · by_cases h3 : a ≤ y
          · exact absurd rfl (h1 a h2 h3)
          · omega
        · omega, fun h1 z h2 h3 => by omega⟩
  rw [key _ _ h]
  cases r <;> rfl
theorem alw_false {lo hi : List Int} {l : Ltl} (h : at' lo l.v ≤ at' hi l.v) : alw lo hi l false = !poss lo hi l := by
  unfold alw
  rw [Bool.eq_iff_iff, all_range (P := fun z => rlH l.r z l.a == false) h]
  obtain ⟨v, r, a⟩ := l
  have h : at' lo v ≤ at' hi v := h
  have key : ∀ x y : Int, x ≤ y → ((∀ z, x ≤ z → z ≤ y → (rlH r z a == false) = true) ↔ (!(match r with | .le => decide (x ≤ a) | .ge => decide (a ≤ y) | .eq => decide (x ≤ a) && decide (a ≤ y) | .ne => !decide (x = a) || !decide (y = a))) = true) := fun x y hxy => by
    cases r with
    | le => simp [rlH]; exact ⟨fun h1 => by have := h1 x (Int.le_refl _) hxy; omega, fun h1 z h2 h3 => by omega⟩
    | ge => simp [rlH]; exact ⟨fun h1 => by have := h1 y hxy (Int.le_refl _); omega, fun h1 z h2 h3 => by omega⟩
    | eq => simp [rlH]; exact ⟨fun h1 => by
        by_cases h2 : x ≤ a
        · by_cases h3 : a ≤ y
          · exact absurd rfl (h1 a h2 h3)
          · omega
        · omega, fun h1 z h2 h3 => by omega⟩
    | ne => simp [rlH]; exact ⟨fun h1 => ⟨h1 x (Int.le_refl _) hxy, h1 y hxy (Int.le_refl _)⟩, fun h1 z h2 h3 => by omega⟩
  rw [key _ _ h]
  cases r <;> rfl
end K76
/-! different bodies; what is written (printed by mk76e.py) -/
namespace K76
open PySem PySem.Spec PyProof.Rows L2 Mp Lg
local macro_rules | `(tactic| walk_at "ev") => `(tactic| simp -implicitDefEqProofs only [q_lit, q_nil, q_cons, q_var, q_bin, q_tup, q_lst, q_box, q_neg, q_notT, q_andT, q_orT, q_notV, q_andV, q_orV, q_if, q_B, q_ix, q_call, q_bi, q_sl, q_oNone, q_oSome, q_dk, q_dt, q_yesT, q_get2,
  q_lc, q_iExp, q_iVar, q_iEnV, items_tup, items_lst, q_seq, q_skip, q_ret, q_retV, q_ifS, q_asg, q_drop, q_for, q_tName, q_tTup, q_tCons, q_tNil, q_fz, q_frzE, q_app, q_aug, q_setIx, q_wipe0, q_wipe, fin_rt, fin_nx,
  mut_non, mut_bl, mut_int, mut_str, mut_tup, mut_lst, mut_dk, mut_dt, mut_scr, mut_cel, sto_non, sto_bl, sto_int, sto_str, sto_tup, sto_scr, sto_cel, sto_own, sto_frz, md_non, md_bl, md_int, md_str, md_tup, md_lst, md_dk, md_dt, md_scr, md_cel,
  gAdd_int, gAddI_int, gSub_int, gLt_int, gLe_int, gGt_int, gGe_int, gInt_int, gInt_bl, gLen_tup, gLen_lst, gTuple_lst, gTuple_tup, gList_scr, gList_lst, gList_tup, gIx_tup, gIx_lst, gEq_int, gEq_bl, atI_0, atI_1, atI_2, atI_3, atI_4,
  bnd_some, Option.map_some, Option.bind_some, List.getElem?_cons_succ, List.getElem?_cons_zero, List.set_cons_succ, List.set_cons_zero, List.foldl_cons, List.foldl_nil, List.map_cons, List.map_nil, List.length_map, List.length_cons, List.length_nil, List.all_cons, List.all_nil, Bool.and_true, Bool.true_and, and_true, true_and, false_and, and_false,
  size_le, size_lt', Nat.reduceAdd, Nat.reduceLeDiff, Nat.zero_add, ne_eq, decide_eq_true_eq, Int.reduceEq, Int.reduceLT, Int.reduceLE, Int.reduceNeg, decide_true, decide_false, Bool.false_bne, Bool.true_bne, Bool.not_true, Bool.not_false, md_encT, md_encP, md_encL, md_encB, sto_encT, sto_encP, sto_encL, sto_encB, md_encG, md_encU, md_encC, sto_encG, sto_encU, sto_encC, q_chain, bx_0, bx_1, md_box, sto_box, reduceCtorEq, if_false, if_true, ite_true, ite_false, Bool.false_eq_true])
local macro_rules | `(tactic| walk_at "go") => `(tactic| simp -implicitDefEqProofs only [q_lit, q_nil, q_cons, q_var, q_bin, q_tup, q_lst, q_box, q_neg, q_notT, q_andT, q_orT, q_notV, q_andV, q_orV, q_if, q_B, q_ix, q_call, q_bi, q_sl, q_oNone, q_oSome, q_dk, q_dt, q_yesT, q_get2,
  q_lc, q_iExp, q_iVar, q_iEnV, items_tup, items_lst, q_seq, q_skip, q_ret, q_retV, q_ifS, q_asg, q_drop, q_for, q_tName, q_tTup, q_tCons, q_tNil, q_fz, q_frzE, q_app, q_aug, q_setIx, q_wipe0, q_wipe, fin_rt, fin_nx,
  mut_non, mut_bl, mut_int, mut_str, mut_tup, mut_lst, mut_dk, mut_dt, mut_scr, mut_cel, sto_non, sto_bl, sto_int, sto_str, sto_tup, sto_scr, sto_cel, sto_own, sto_frz, md_non, md_bl, md_int, md_str, md_tup, md_lst, md_dk, md_dt, md_scr, md_cel,
  gAdd_int, gAddI_int, gSub_int, gLt_int, gLe_int, gGt_int, gGe_int, gInt_int, gInt_bl, gLen_tup, gLen_lst, gTuple_lst, gTuple_tup, gList_scr, gList_lst, gList_tup, gIx_tup, gIx_lst, gEq_int, gEq_bl, atI_0, atI_1, atI_2, atI_3, atI_4,
  bnd_some, Option.map_some, Option.bind_some, List.getElem?_cons_succ, List.getElem?_cons_zero, List.set_cons_succ, List.set_cons_zero, List.foldl_cons, List.foldl_nil, List.map_cons, List.map_nil, List.length_map, List.length_cons, List.length_nil, List.all_cons, List.all_nil, Bool.and_true, Bool.true_and, and_true, true_and, false_and, and_false,
  size_le, size_lt', Nat.reduceAdd, Nat.reduceLeDiff, Nat.zero_add, ne_eq, decide_eq_true_eq, Int.reduceEq, Int.reduceLT, Int.reduceLE, Int.reduceNeg, decide_true, decide_false, Bool.false_bne, Bool.true_bne, Bool.not_true, Bool.not_false, md_encT, md_encP, md_encL, md_encB, sto_encT, sto_encP, sto_encL, sto_encB, md_encG, md_encU, md_encC, sto_encG, sto_encU, sto_encC, q_chain, bx_0, bx_1, md_box, sto_box, reduceCtorEq, if_false, if_true, ite_true, ite_false, Bool.false_eq_true, *])

theorem enum_range {A : Type} (f : A → W) (d : A) (gs : List A) : enumW (gs.map f) = (List.range gs.length).map fun k => .tup [.int ((k : Nat) : Int), f (gs.getD k d)] := by
  refine List.ext_getElem? fun i => ?_
  rw [enumW_get, List.getElem?_map, List.getElem?_map]
  by_cases h : i < gs.length
  · have e : gs.getD i d = gs[i] := by rw [List.getD_eq_getElem?_getD, List.getElem?_eq_getElem h]; rfl
    rw [List.getElem?_range h, List.getElem?_eq_getElem h, Option.map_some, Option.map_some, Option.map_some, e]
  · rw [List.getElem?_eq_none (by omega), List.getElem?_eq_none (by rw [List.length_range]; omega)]
    rfl
def ov (lo hi : List Int) (x y : Int) : Bool := decide (at' lo x ≤ at' hi y) && decide (at' lo y ≤ at' hi x)
theorem ov_symm (lo hi : List Int) (x y : Int) : ov lo hi x y = ov lo hi y x := Bool.and_comm _ _
def meetP (lo hi vs : List Int) : Bool := (List.range vs.length).any fun k => (vs.take k).any fun y => ov lo hi (vs.getD k 0) y
def meetL (lo hi vs : List Int) : Bool := vs.any fun x => vs.any fun y => !decide (x = y) && ov lo hi x y
theorem meet_eq {lo hi vs : List Int} (hn : vs.Nodup) : meetP lo hi vs = meetL lo hi vs := by
  rw [Bool.eq_iff_iff]
  unfold meetP meetL
  simp only [List.any_eq_true, List.mem_range, Bool.and_eq_true, Bool.not_eq_true', decide_eq_false_iff_not]
  constructor
  · rintro ⟨k, hk, y, hy, ho⟩
    rw [List.getD_eq_getElem?_getD, List.getElem?_eq_getElem hk, Option.getD_some] at ho
    refine ⟨vs[k], List.getElem_mem hk, y, List.mem_of_mem_take hy, fun e => ?_, ho⟩
    obtain ⟨j, hj, e2⟩ := List.getElem_of_mem hy
    rw [List.getElem_take] at e2
    have hjk : j < k := by rw [List.length_take] at hj; omega
    have := (List.getElem_inj (h₀ := hk) (h₁ := (by omega : j < vs.length)) hn).mp (e.trans e2.symm)
    omega
  · rintro ⟨x, hx, y, hy, hne, ho⟩
    obtain ⟨i, hi', rfl⟩ := List.getElem_of_mem hx
    obtain ⟨j, hj, rfl⟩ := List.getElem_of_mem hy
    have hij : i ≠ j := fun e => hne (by subst e; rfl)
    rcases Nat.lt_or_gt_of_ne hij with h | h
    · refine ⟨j, hj, vs[i], ?_, ?_⟩
      · rw [List.mem_iff_getElem]
        exact ⟨i, by rw [List.length_take]; omega, List.getElem_take⟩
      · rw [List.getD_eq_getElem?_getD, List.getElem?_eq_getElem hj, Option.getD_some, ov_symm]; exact ho
    · refine ⟨i, hi', vs[j], ?_, ?_⟩
      · rw [List.mem_iff_getElem]
        exact ⟨j, by rw [List.length_take]; omega, List.getElem_take⟩
      · rw [List.getD_eq_getElem?_getD, List.getElem?_eq_getElem hi', Option.getD_some]; exact ho
theorem apart_ok {n : Nat} {lo hi vs : List Int} (S : Store) (hb : BoxOk n lo hi) (h : ∀ v ∈ vs, 0 ≤ v ∧ v < n) : m_always_apart [encBx lo hi, encP vs] S = some ((.bl (!meetP lo hi vs), .frz), S) := by
  obtain ⟨hl0, hl1, _, _, _⟩ := hb
  unfold m_always_apart
  rw [cFn_run (by rfl)]
  show fin (c_always_apart [some (encBx lo hi, .brw), some (encP vs, .brw), none, none, none, none, none] S) = _
  unfold c_always_apart
  rw [seq_nx (ρ2 := [some (encBx lo hi, .brw), some (encP vs, .brw), some (encP lo, .frz), some (encP hi, .frz), none, none, none]) (S2 := S) (by unfold encBx; walk_at "ev")]
  have hit : iEnV 1 [some (encBx lo hi, .brw), some (encP vs, .brw), some (encP lo, .frz), some (encP hi, .frz), none, none, none] S = some ((List.range vs.length).map (fun k => .tup [.int ((k : Nat) : Int), .int (vs.getD k 0)]), S) := by
    rw [q_iEnV, ← enum_range W.int 0 vs]
    rfl
  rcases for_search (enc := fun k : Nat => W.tup [.int ((k : Nat) : Int), .int (vs.getD k 0)]) (p := fun k => (vs.take k).any fun y => ov lo hi (vs.getD k 0) y) (r := (.bl false, .frz)) (S := S) (xs := List.range vs.length)
    (t := tTup 2 (tCons (tName 4) (tCons (tName 5) tNil))) (b := cFor (tName 6) (iExp (cSl (cVar 1) oNone (oSome (cVar 4)))) (cIfS ((cAndT (cB (cBin gLe (cIx (cVar 2) (cVar 5)) (cIx (cVar 3) (cVar 6)))) (cB (cBin gLe (cIx (cVar 2) (cVar 6)) (cIx (cVar 3) (cVar 5)))))) (cRet (cLit (.bl false))) (cSkip)))
    (I := fun ρ => ∃ x4 x5 x6, ρ = [some (encBx lo hi, .brw), some (encP vs, .brw), some (encP lo, .frz), some (encP hi, .frz), x4, x5, x6]) (ρ := [some (encBx lo hi, .brw), some (encP vs, .brw), some (encP lo, .frz), some (encP hi, .frz), none, none, none])
    (fun k hk ρ hρ => by
      obtain ⟨x4, x5, x6, rfl⟩ := hρ
      have hk := List.mem_range.mp hk
      refine ⟨[some (encBx lo hi, .brw), some (encP vs, .brw), some (encP lo, .frz), some (encP hi, .frz), some (.int ((k : Nat) : Int), .frz), some (.int (vs.getD k 0), .frz), x6], by walk_at "ev", ?_⟩
      have hit2 : iExp (cSl (cVar 1) oNone (oSome (cVar 4))) [some (encBx lo hi, .brw), some (encP vs, .brw), some (encP lo, .frz), some (encP hi, .frz), some (.int ((k : Nat) : Int), .frz), some (.int (vs.getD k 0), .frz), x6] S = some ((vs.take k).map W.int, S) := by
        have e := sl_take vs k
        walk_at "go"
        rfl
      have hx : vs.getD k 0 ∈ vs := by
        rw [List.getD_eq_getElem?_getD, List.getElem?_eq_getElem hk]; exact List.getElem_mem hk
      generalize vs.getD k 0 = x at *
      rw [q_for, hit2]
      dsimp only [bnd_some]
      rcases for_search (enc := W.int) (p := fun y => ov lo hi x y) (r := (.bl false, .frz)) (S := S) (xs := vs.take k)
        (t := tName 6) (b := cIfS ((cAndT (cB (cBin gLe (cIx (cVar 2) (cVar 5)) (cIx (cVar 3) (cVar 6)))) (cB (cBin gLe (cIx (cVar 2) (cVar 6)) (cIx (cVar 3) (cVar 5)))))) (cRet (cLit (.bl false))) (cSkip))
        (I := fun ρ => ∃ x6, ρ = [some (encBx lo hi, .brw), some (encP vs, .brw), some (encP lo, .frz), some (encP hi, .frz), some (.int ((k : Nat) : Int), .frz), some (.int x, .frz), x6])
        (fun y hy ρ hρ => by
          obtain ⟨x6, rfl⟩ := hρ
          obtain ⟨a0, a1⟩ := h x hx
          obtain ⟨b0, b1⟩ := h y (List.mem_of_mem_take hy)
          have e1 := ix_P (p := lo) S a0 (by omega)
          have e2 := ix_P (p := hi) S a0 (by omega)
          have e3 := ix_P (p := lo) S b0 (by omega)
          have e4 := ix_P (p := hi) S b0 (by omega)
          refine ⟨_, by walk_at "ev"; rfl, ?_⟩
          unfold ov
          clear a0 a1 b0 b1 h hx hy hk hit hit2
          by_cases c1 : at' lo x ≤ at' hi y
          · by_cases c2 : at' lo y ≤ at' hi x
            · left
              refine ⟨by simp [c1, c2], ?_⟩
              walk_at "go"
            · right
              refine ⟨by simp [c1, c2], _, by walk_at "go"; rfl, _, rfl⟩
          · right
            refine ⟨by simp [c1], _, by walk_at "go"; rfl, _, rfl⟩) ⟨x6, rfl⟩ with ⟨hp, e⟩ | ⟨hp, ρ2, e, y6, rfl⟩
      · exact .inl ⟨hp, e⟩
      · exact .inr ⟨hp, _, e, _, _, _, rfl⟩) ⟨none, none, none, rfl⟩ with ⟨hp, e⟩ | ⟨hp, ρ2, e, y4, y5, y6, rfl⟩
  · unfold meetP
    rw [q_seq, q_for, hit]
    dsimp only [bnd_some]
    rw [e, hp]
    walk_at "ev"
  · unfold meetP
    rw [q_seq, q_for, hit]
    dsimp only [bnd_some]
    rw [e, hp]
    walk_at "ev"
/-! ### what a body speaks of -/
def wrt : Bd → List Int
  | .row ts _ _ => ts.map (·.1)
  | .any ls => ls.map (·.v)
  | .whn l ts _ _ => l.v :: ts.map (·.1)
  | .dif vs => vs
  | .tab vs _ => vs
  | .ele i _ j => [i, j]
  | .tim x y z => [x, y, z]
theorem ints_map (p : List Int) : p.map W.int = p.map fun v => W.int v := rfl
theorem kd_eqS (k k' : Kd) (S : Store) : gEq false (.str (kdS k)) (.str (kdS k')) = some (.bl (decide (k = k'))) := kd_eq k k'
theorem wrt_len {n : Nat} {b : Bd} (hb : BOk n b) : (wrt b).length ≤ 61 := by
  cases b with
  | row ts r c => unfold wrt; rw [List.length_map]; have := hb.1.1; omega
  | any ls => unfold wrt; rw [List.length_map]; have := hb.2.1; omega
  | whn l ts r c => unfold wrt; rw [List.length_cons, List.length_map]; have := hb.2.1.1; omega
  | dif vs => have := hb.1; show vs.length ≤ 61; omega
  | tab vs rows => have := hb.1.1; show vs.length ≤ 61; omega
  | ele i es j => show 2 ≤ 61; omega
  | tim x y z => show 3 ≤ 61; omega
theorem wrt_in {n : Nat} {b : Bd} (hb : BOk n b) : ∀ v ∈ wrt b, 0 ≤ v ∧ v < n := by
  cases b with
  | row ts r c => intro v hv; obtain ⟨t, ht, rfl⟩ := List.mem_map.mp hv; exact ⟨(hb.1.2 t ht).1, (hb.1.2 t ht).2.1⟩
  | any ls => intro v hv; obtain ⟨t, ht, rfl⟩ := List.mem_map.mp hv; exact hb.2.2 t ht
  | whn l ts r c =>
    intro v hv
    rcases List.mem_cons.mp hv with rfl | hv
    · exact hb.1
    · obtain ⟨t, ht, rfl⟩ := List.mem_map.mp hv; exact ⟨(hb.2.1.2 t ht).1, (hb.2.1.2 t ht).2.1⟩
  | dif vs => exact hb.2.2
  | tab vs rows => exact hb.1.2.2
  | ele i es j => intro v hv; simp only [wrt, List.mem_cons, List.not_mem_nil, or_false] at hv; rcases hv with rfl | rfl; exact hb.1; exact hb.2.1
  | tim x y z => intro v hv; simp only [wrt, List.mem_cons, List.not_mem_nil, or_false] at hv; rcases hv with rfl | rfl | rfl; exact hb.1; exact hb.2.1; exact hb.2.2
end K76
/-! seen and surely (printed by mk76f.py) -/
namespace K76
open PySem PySem.Spec PyProof.Rows L2 Mp Lg
theorem kq_row_row : gEq false (.str "row") (.str "row") = some (.bl true) := kd_eq .row .row
theorem kq_row_any : gEq false (.str "row") (.str "any") = some (.bl false) := kd_eq .row .any
theorem kq_row_whn : gEq false (.str "row") (.str "when") = some (.bl false) := kd_eq .row .whn
theorem kq_row_dif : gEq false (.str "row") (.str "different") = some (.bl false) := kd_eq .row .dif
theorem kq_row_tab : gEq false (.str "row") (.str "table") = some (.bl false) := kd_eq .row .tab
theorem kq_row_ele : gEq false (.str "row") (.str "element") = some (.bl false) := kd_eq .row .ele
theorem kq_row_tim : gEq false (.str "row") (.str "times") = some (.bl false) := kd_eq .row .tim
theorem kq_any_row : gEq false (.str "any") (.str "row") = some (.bl false) := kd_eq .any .row
theorem kq_any_any : gEq false (.str "any") (.str "any") = some (.bl true) := kd_eq .any .any
theorem kq_any_whn : gEq false (.str "any") (.str "when") = some (.bl false) := kd_eq .any .whn
theorem kq_any_dif : gEq false (.str "any") (.str "different") = some (.bl false) := kd_eq .any .dif
theorem kq_any_tab : gEq false (.str "any") (.str "table") = some (.bl false) := kd_eq .any .tab
theorem kq_any_ele : gEq false (.str "any") (.str "element") = some (.bl false) := kd_eq .any .ele
theorem kq_any_tim : gEq false (.str "any") (.str "times") = some (.bl false) := kd_eq .any .tim
theorem kq_whn_row : gEq false (.str "when") (.str "row") = some (.bl false) := kd_eq .whn .row
theorem kq_whn_any : gEq false (.str "when") (.str "any") = some (.bl false) := kd_eq .whn .any
theorem kq_whn_whn : gEq false (.str "when") (.str "when") = some (.bl true) := kd_eq .whn .whn
theorem kq_whn_dif : gEq false (.str "when") (.str "different") = some (.bl false) := kd_eq .whn .dif
theorem kq_whn_tab : gEq false (.str "when") (.str "table") = some (.bl false) := kd_eq .whn .tab
theorem kq_whn_ele : gEq false (.str "when") (.str "element") = some (.bl false) := kd_eq .whn .ele
theorem kq_whn_tim : gEq false (.str "when") (.str "times") = some (.bl false) := kd_eq .whn .tim
theorem kq_dif_row : gEq false (.str "different") (.str "row") = some (.bl false) := kd_eq .dif .row
theorem kq_dif_any : gEq false (.str "different") (.str "any") = some (.bl false) := kd_eq .dif .any
theorem kq_dif_whn : gEq false (.str "different") (.str "when") = some (.bl false) := kd_eq .dif .whn
theorem kq_dif_dif : gEq false (.str "different") (.str "different") = some (.bl true) := kd_eq .dif .dif
theorem kq_dif_tab : gEq false (.str "different") (.str "table") = some (.bl false) := kd_eq .dif .tab
theorem kq_dif_ele : gEq false (.str "different") (.str "element") = some (.bl false) := kd_eq .dif .ele
theorem kq_dif_tim : gEq false (.str "different") (.str "times") = some (.bl false) := kd_eq .dif .tim
theorem kq_tab_row : gEq false (.str "table") (.str "row") = some (.bl false) := kd_eq .tab .row
theorem kq_tab_any : gEq false (.str "table") (.str "any") = some (.bl false) := kd_eq .tab .any
theorem kq_tab_whn : gEq false (.str "table") (.str "when") = some (.bl false) := kd_eq .tab .whn
theorem kq_tab_dif : gEq false (.str "table") (.str "different") = some (.bl false) := kd_eq .tab .dif
theorem kq_tab_tab : gEq false (.str "table") (.str "table") = some (.bl true) := kd_eq .tab .tab
theorem kq_tab_ele : gEq false (.str "table") (.str "element") = some (.bl false) := kd_eq .tab .ele
theorem kq_tab_tim : gEq false (.str "table") (.str "times") = some (.bl false) := kd_eq .tab .tim
theorem kq_ele_row : gEq false (.str "element") (.str "row") = some (.bl false) := kd_eq .ele .row
theorem kq_ele_any : gEq false (.str "element") (.str "any") = some (.bl false) := kd_eq .ele .any
theorem kq_ele_whn : gEq false (.str "element") (.str "when") = some (.bl false) := kd_eq .ele .whn
theorem kq_ele_dif : gEq false (.str "element") (.str "different") = some (.bl false) := kd_eq .ele .dif
theorem kq_ele_tab : gEq false (.str "element") (.str "table") = some (.bl false) := kd_eq .ele .tab
theorem kq_ele_ele : gEq false (.str "element") (.str "element") = some (.bl true) := kd_eq .ele .ele
theorem kq_ele_tim : gEq false (.str "element") (.str "times") = some (.bl false) := kd_eq .ele .tim
theorem kq_tim_row : gEq false (.str "times") (.str "row") = some (.bl false) := kd_eq .tim .row
theorem kq_tim_any : gEq false (.str "times") (.str "any") = some (.bl false) := kd_eq .tim .any
theorem kq_tim_whn : gEq false (.str "times") (.str "when") = some (.bl false) := kd_eq .tim .whn
theorem kq_tim_dif : gEq false (.str "times") (.str "different") = some (.bl false) := kd_eq .tim .dif
theorem kq_tim_tab : gEq false (.str "times") (.str "table") = some (.bl false) := kd_eq .tim .tab
theorem kq_tim_ele : gEq false (.str "times") (.str "element") = some (.bl false) := kd_eq .tim .ele
theorem kq_tim_tim : gEq false (.str "times") (.str "times") = some (.bl true) := kd_eq .tim .tim
local macro_rules | `(tactic| walk_at "ev") => `(tactic| simp -implicitDefEqProofs only [q_lit, q_nil, q_cons, q_var, q_bin, q_tup, q_lst, q_box, q_neg, q_notT, q_andT, q_orT, q_notV, q_andV, q_orV, q_if, q_B, q_ix, q_call, q_bi, q_sl, q_oNone, q_oSome, q_dk, q_dt, q_yesT, q_get2,
  q_lc, q_iExp, q_iVar, q_iEnV, items_tup, items_lst, q_seq, q_skip, q_ret, q_retV, q_ifS, q_asg, q_drop, q_for, q_tName, q_tTup, q_tCons, q_tNil, q_fz, q_frzE, q_app, q_aug, q_setIx, q_wipe0, q_wipe, fin_rt, fin_nx,
  mut_non, mut_bl, mut_int, mut_str, mut_tup, mut_lst, mut_dk, mut_dt, mut_scr, mut_cel, sto_non, sto_bl, sto_int, sto_str, sto_tup, sto_scr, sto_cel, sto_own, sto_frz, md_non, md_bl, md_int, md_str, md_tup, md_lst, md_dk, md_dt, md_scr, md_cel,
  gAdd_int, gAddI_int, gSub_int, gLt_int, gLe_int, gGt_int, gGe_int, gInt_int, gInt_bl, gLen_tup, gLen_lst, gTuple_lst, gTuple_tup, gList_scr, gList_lst, gList_tup, gIx_tup, gIx_lst, gEq_int, gEq_bl, atI_0, atI_1, atI_2, atI_3, atI_4,
  bnd_some, Option.map_some, Option.bind_some, List.getElem?_cons_succ, List.getElem?_cons_zero, List.set_cons_succ, List.set_cons_zero, List.foldl_cons, List.foldl_nil, List.map_cons, List.map_nil, List.length_map, List.length_cons, List.length_nil, List.all_cons, List.all_nil, Bool.and_true, Bool.true_and, and_true, true_and, false_and, and_false,
  size_le, size_lt', Nat.reduceAdd, Nat.reduceLeDiff, Nat.zero_add, ne_eq, decide_eq_true_eq, Int.reduceEq, Int.reduceLT, Int.reduceLE, Int.reduceNeg, decide_true, decide_false, Bool.false_bne, Bool.true_bne, Bool.not_true, Bool.not_false, md_encT, md_encP, md_encL, md_encB, sto_encT, sto_encP, sto_encL, sto_encB, md_encG, md_encU, md_encC, sto_encG, sto_encU, sto_encC, q_chain, bx_0, bx_1, md_box, sto_box, reduceCtorEq, if_false, if_true, ite_true, ite_false, Bool.false_eq_true, kq_row_row, kq_row_any, kq_row_whn, kq_row_dif, kq_row_tab, kq_row_ele, kq_row_tim, kq_any_row, kq_any_any, kq_any_whn, kq_any_dif, kq_any_tab, kq_any_ele, kq_any_tim, kq_whn_row, kq_whn_any, kq_whn_whn, kq_whn_dif, kq_whn_tab, kq_whn_ele, kq_whn_tim, kq_dif_row, kq_dif_any, kq_dif_whn, kq_dif_dif, kq_dif_tab, kq_dif_ele, kq_dif_tim, kq_tab_row, kq_tab_any, kq_tab_whn, kq_tab_dif, kq_tab_tab, kq_tab_ele, kq_tab_tim, kq_ele_row, kq_ele_any, kq_ele_whn, kq_ele_dif, kq_ele_tab, kq_ele_ele, kq_ele_tim, kq_tim_row, kq_tim_any, kq_tim_whn, kq_tim_dif, kq_tim_tab, kq_tim_ele, kq_tim_tim])
local macro_rules | `(tactic| walk_at "go") => `(tactic| simp -implicitDefEqProofs only [q_lit, q_nil, q_cons, q_var, q_bin, q_tup, q_lst, q_box, q_neg, q_notT, q_andT, q_orT, q_notV, q_andV, q_orV, q_if, q_B, q_ix, q_call, q_bi, q_sl, q_oNone, q_oSome, q_dk, q_dt, q_yesT, q_get2,
  q_lc, q_iExp, q_iVar, q_iEnV, items_tup, items_lst, q_seq, q_skip, q_ret, q_retV, q_ifS, q_asg, q_drop, q_for, q_tName, q_tTup, q_tCons, q_tNil, q_fz, q_frzE, q_app, q_aug, q_setIx, q_wipe0, q_wipe, fin_rt, fin_nx,
  mut_non, mut_bl, mut_int, mut_str, mut_tup, mut_lst, mut_dk, mut_dt, mut_scr, mut_cel, sto_non, sto_bl, sto_int, sto_str, sto_tup, sto_scr, sto_cel, sto_own, sto_frz, md_non, md_bl, md_int, md_str, md_tup, md_lst, md_dk, md_dt, md_scr, md_cel,
  gAdd_int, gAddI_int, gSub_int, gLt_int, gLe_int, gGt_int, gGe_int, gInt_int, gInt_bl, gLen_tup, gLen_lst, gTuple_lst, gTuple_tup, gList_scr, gList_lst, gList_tup, gIx_tup, gIx_lst, gEq_int, gEq_bl, atI_0, atI_1, atI_2, atI_3, atI_4,
  bnd_some, Option.map_some, Option.bind_some, List.getElem?_cons_succ, List.getElem?_cons_zero, List.set_cons_succ, List.set_cons_zero, List.foldl_cons, List.foldl_nil, List.map_cons, List.map_nil, List.length_map, List.length_cons, List.length_nil, List.all_cons, List.all_nil, Bool.and_true, Bool.true_and, and_true, true_and, false_and, and_false,
  size_le, size_lt', Nat.reduceAdd, Nat.reduceLeDiff, Nat.zero_add, ne_eq, decide_eq_true_eq, Int.reduceEq, Int.reduceLT, Int.reduceLE, Int.reduceNeg, decide_true, decide_false, Bool.false_bne, Bool.true_bne, Bool.not_true, Bool.not_false, md_encT, md_encP, md_encL, md_encB, sto_encT, sto_encP, sto_encL, sto_encB, md_encG, md_encU, md_encC, sto_encG, sto_encU, sto_encC, q_chain, bx_0, bx_1, md_box, sto_box, reduceCtorEq, if_false, if_true, ite_true, ite_false, Bool.false_eq_true, kq_row_row, kq_row_any, kq_row_whn, kq_row_dif, kq_row_tab, kq_row_ele, kq_row_tim, kq_any_row, kq_any_any, kq_any_whn, kq_any_dif, kq_any_tab, kq_any_ele, kq_any_tim, kq_whn_row, kq_whn_any, kq_whn_whn, kq_whn_dif, kq_whn_tab, kq_whn_ele, kq_whn_tim, kq_dif_row, kq_dif_any, kq_dif_whn, kq_dif_dif, kq_dif_tab, kq_dif_ele, kq_dif_tim, kq_tab_row, kq_tab_any, kq_tab_whn, kq_tab_dif, kq_tab_tab, kq_tab_ele, kq_tab_tim, kq_ele_row, kq_ele_any, kq_ele_whn, kq_ele_dif, kq_ele_tab, kq_ele_ele, kq_ele_tim, kq_tim_row, kq_tim_any, kq_tim_whn, kq_tim_dif, kq_tim_tab, kq_tim_ele, kq_tim_tim, *])

theorem b_row (ts : Lg.Tm) (r : Rl) (c : Int) : encB (.row ts r c) = .tup [.str "row", encT ts, .str (rlS r), .int c] := rfl
theorem b_any (ls : List Ltl) : encB (.any ls) = .tup [.str "any", .tup (ls.map encL)] := rfl
theorem b_whn (l : Ltl) (ts : Lg.Tm) (r : Rl) (c : Int) : encB (.whn l ts r c) = .tup [.str "when", encL l, encT ts, .str (rlS r), .int c] := rfl
theorem b_dif (vs : List Int) : encB (.dif vs) = .tup [.str "different", encP vs] := rfl
theorem b_tab (vs : List Int) (rows : List (List Int)) : encB (.tab vs rows) = .tup [.str "table", encP vs, .tup (rows.map encP)] := rfl
theorem b_ele (i : Int) (es : List Int) (j : Int) : encB (.ele i es j) = .tup [.str "element", .int i, encP es, .int j] := rfl
theorem b_tim (x y z : Int) : encB (.tim x y z) = .tup [.str "times", .int x, .int y, .int z] := rfl
theorem l_0 (S : Store) (l : Ltl) : gIx S (encL l) (.int 0) = some (.int l.v) := rfl
theorem gList_P (S : Store) (p : List Int) : gList S [encP p] = some (.lst (p.map .int)) := rfl
theorem lc_fst {ts : Lg.Tm} {ρ : Mp.Env} {S : Store} {i j : Nat} (hij : i ≠ j) (hi : i < ρ.length) (hj : j < ρ.length) : lcL (tTup 2 (tCons (tName i) (tCons (tName j) tNil))) tYesT (cVar i) ρ (ts.map fun p => .tup [.int p.1, .int p.2]) S = some ((ts.map (·.1)).map W.int, S) := by
  rw [lc_map (g := fun t : Int × Int => W.int t.1) (enc := fun t : Int × Int => .tup [.int t.1, .int t.2]) fun t ht => ⟨(ρ.set i (some (.int t.1, .frz))).set j (some (.int t.2, .frz)), .frz, rfl, rfl, by
    rw [q_var, List.getElem?_set_ne (Ne.symm hij), List.getElem?_set_self hi]; rfl, rfl⟩, List.map_map]
  rfl
theorem lc_v {ls : List Ltl} {ρ : Mp.Env} {S : Store} {i : Nat} (hi : i < ρ.length) : lcL (tName i) tYesT (cIx (cVar i) (cLit (.int 0))) ρ (ls.map encL) S = some ((ls.map (·.v)).map W.int, S) := by
  rw [lc_map (g := fun l : Ltl => W.int l.v) (enc := encL) fun l hl => ⟨ρ.set i (some (encL l, .frz)), .frz, rfl, rfl, by
    rw [q_ix, q_var, List.getElem?_set_self hi]; rfl, rfl⟩, List.map_map]
  rfl
theorem written_ok {n : Nat} {b : Bd} (S : Store) (hb : BOk n b) : m_law_written [encB b] S = some ((.lst ((wrt b).map .int), .own), S) := by
  unfold m_law_written
  rw [cFn_run (by rfl)]
  show fin (c_law_written [some (encB b, .brw), none, none, none] S) = _
  unfold c_law_written
  have hl := wrt_len hb
  cases b with
  | row ts r c =>
    have e := lc_fst (ts := ts) (i := 2) (j := 3) (ρ := [some (encB (.row ts r c), .brw), none, none, none]) (S := S) (by decide) (by simp) (by simp)
    have hs := hb.1.1
    rw [b_row] at e ⊢
    clear hb hl
    walk_at "ev"
    unfold encT at e ⊢
    rw [items_tup, Option.map_some, bnd_some]
    rw [if_pos (size_ok (by rw [List.length_map]; omega)), e]
    walk_at "ev"
    rfl
  | any ls =>
    have e := lc_v (ls := ls) (i := 1) (ρ := [some (encB (.any ls), .brw), none, none, none]) (S := S) (by simp)
    have hs := hb.2.1
    rw [b_any] at e ⊢
    clear hb hl
    walk_at "ev"
    rw [if_pos (size_ok (by omega)), e]
    walk_at "ev"
    rfl
  | whn l ts r c =>
    have e := lc_fst (ts := ts) (i := 2) (j := 3) (ρ := [some (encB (.whn l ts r c), .brw), none, none, none]) (S := S) (by decide) (by simp) (by simp)
    have hs := hb.2.1.1
    have ha := add_L [l.v] (ts.map (·.1)) (by rw [List.length_map, List.length_singleton]; omega)
    have e0 := l_0 S l
    rw [b_whn] at e ⊢
    clear hb hl
    walk_at "go"
    unfold encT at e ⊢
    rw [items_tup, Option.map_some, bnd_some]
    rw [if_pos (size_ok (by rw [List.length_map]; omega)), e]
    simp only [List.map_cons, List.map_nil] at ha
    walk_at "go"
    rfl
  | dif vs => clear hl; rw [b_dif]; walk_at "ev"; rw [gList_P]; rfl
  | tab vs rows => clear hl; rw [b_tab]; walk_at "ev"; rw [gList_P]; rfl
  | ele i es j => clear hl; rw [b_ele]; walk_at "ev"; rfl
  | tim x y z => clear hl; rw [b_tim]; walk_at "ev"; rfl

theorem sort_ints {ns : List Int} (S : Store) (h : ns.length < 64) : gSortSet S [.lst (ns.map .int)] = some (.lst ((sortU ns).map .int)) := by
  unfold gSortSet
  have : intsOf (ns.map W.int) = some ns := by
    clear h
    induction ns with
    | nil => rfl
    | cons n ns ih => rw [List.map_cons]; unfold intsOf; rw [ih]; rfl
  dsimp only
  rw [this]
  dsimp only
  rw [if_pos h]
theorem in_dt (k : Kd) : gIn false (.str (kdS k)) (.tup [.str "different", .str "table"]) = some (.bl (decide (k = .dif ∨ k = .tab))) := by
  cases k <;> rw [gIn_tup (by unfold okD; decide +kernel) (by decide +kernel)] <;> rfl
theorem in_dt_ele : gIn false (.str "element") (.tup [.str "different", .str "table"]) = some (.bl false) := in_dt .ele
theorem in_dt_tim : gIn false (.str "times") (.tup [.str "different", .str "table"]) = some (.bl false) := in_dt .tim
theorem in_dt_dif : gIn false (.str "different") (.tup [.str "different", .str "table"]) = some (.bl true) := in_dt .dif
theorem in_dt_tab : gIn false (.str "table") (.tup [.str "different", .str "table"]) = some (.bl true) := in_dt .tab
theorem unk_ok {n : Nat} {b : Bd} (S : Store) (hb : BOk n b) : m_unknowns_of [encB b] S = some ((.lst ((sortU (wrt b)).map .int), .own), S) := by
  unfold m_unknowns_of
  rw [cFn_run (by rfl)]
  show fin (c_unknowns_of [some (encB b, .brw), none, none, none, none, none] S) = _
  unfold c_unknowns_of
  have hl := wrt_len hb
  have hs := sort_ints (ns := wrt b) S (by omega)
  cases b with
  | row ts r c =>
    have e := lc_fst (ts := ts) (i := 3) (j := 4) (ρ := [some (encB (.row ts r c), .brw), some (.str "row", .frz), some (.lst [], .own), none, none, none]) (S := S) (by decide) (by simp) (by simp)
    have hsz := hb.1.1
    rw [b_row] at e ⊢
    clear hb hl
    walk_at "ev"
    unfold encT at e ⊢
    rw [items_tup, Option.map_some, bnd_some]
    rw [if_pos (size_ok (by rw [List.length_map]; omega)), e]
    simp only [wrt] at hs
    walk_at "go"
    rfl
  | any ls =>
    have e := lc_v (ls := ls) (i := 5) (ρ := [some (encB (.any ls), .brw), some (.str "any", .frz), some (.lst [], .own), none, none, none]) (S := S) (by simp)
    have hsz := hb.2.1
    rw [b_any] at e ⊢
    clear hb hl
    walk_at "ev"
    rw [if_pos (size_ok (by omega)), e]
    simp only [wrt] at hs
    walk_at "go"
    rfl
  | whn l ts r c =>
    have e := lc_fst (ts := ts) (i := 3) (j := 4) (ρ := [some (encB (.whn l ts r c), .brw), some (.str "when", .frz), some (.lst [], .own), none, none, none]) (S := S) (by decide) (by simp) (by simp)
    have hsz := hb.2.1.1
    have ha := add_L [l.v] (ts.map (·.1)) (by rw [List.length_map, List.length_singleton]; omega)
    have e0 := l_0 S l
    rw [b_whn] at e ⊢
    clear hb hl
    simp only [wrt, List.map_cons] at hs
    walk_at "go"
    unfold encT at e ⊢
    rw [items_tup, Option.map_some, bnd_some]
    rw [if_pos (size_ok (by rw [List.length_map]; omega)), e]
    simp only [List.map_cons, List.map_nil, List.singleton_append] at ha
    walk_at "go"
    rfl
  | dif vs => clear hl; simp only [wrt] at hs; rw [b_dif]; walk_at "ev"; rw [in_dt_dif]; walk_at "ev"; rw [gList_P]; walk_at "ev"; rw [hs]; rfl
  | tab vs rows => clear hl; simp only [wrt] at hs; rw [b_tab]; walk_at "ev"; rw [in_dt_tab]; walk_at "ev"; rw [gList_P]; walk_at "ev"; rw [hs]; rfl
  | ele i es j => clear hl; simp only [wrt, List.map_cons, List.map_nil] at hs; rw [b_ele]; walk_at "ev"; rw [in_dt_ele]; walk_at "ev"; rw [hs]; rfl
  | tim x y z => clear hl; simp only [wrt, List.map_cons, List.map_nil] at hs; rw [b_tim]; walk_at "ev"; rw [in_dt_tim]; walk_at "ev"; rw [hs]; rfl
end K76
/-! seen and surely (printed by mk76g.py) -/
namespace K76
open PySem PySem.Spec PyProof.Rows L2 Mp Lg
local macro_rules | `(tactic| walk_at "ev") => `(tactic| simp -implicitDefEqProofs only [q_lit, q_nil, q_cons, q_var, q_bin, q_tup, q_lst, q_box, q_neg, q_notT, q_andT, q_orT, q_notV, q_andV, q_orV, q_if, q_B, q_ix, q_call, q_bi, q_sl, q_oNone, q_oSome, q_dk, q_dt, q_yesT, q_get2,
  q_lc, q_iExp, q_iVar, q_iEnV, items_tup, items_lst, q_seq, q_skip, q_ret, q_retV, q_ifS, q_asg, q_drop, q_for, q_tName, q_tTup, q_tCons, q_tNil, q_fz, q_frzE, q_app, q_aug, q_setIx, q_wipe0, q_wipe, fin_rt, fin_nx,
  mut_non, mut_bl, mut_int, mut_str, mut_tup, mut_lst, mut_dk, mut_dt, mut_scr, mut_cel, sto_non, sto_bl, sto_int, sto_str, sto_tup, sto_scr, sto_cel, sto_own, sto_frz, md_non, md_bl, md_int, md_str, md_tup, md_lst, md_dk, md_dt, md_scr, md_cel,
  gAdd_int, gAddI_int, gSub_int, gLt_int, gLe_int, gGt_int, gGe_int, gInt_int, gInt_bl, gLen_tup, gLen_lst, gTuple_lst, gTuple_tup, gList_scr, gList_lst, gList_tup, gIx_tup, gIx_lst, gEq_int, gEq_bl, atI_0, atI_1, atI_2, atI_3, atI_4,
  bnd_some, Option.map_some, Option.bind_some, List.getElem?_cons_succ, List.getElem?_cons_zero, List.set_cons_succ, List.set_cons_zero, List.foldl_cons, List.foldl_nil, List.map_cons, List.map_nil, List.length_map, List.length_cons, List.length_nil, List.all_cons, List.all_nil, Bool.and_true, Bool.true_and, and_true, true_and, false_and, and_false,
  size_le, size_lt', Nat.reduceAdd, Nat.reduceLeDiff, Nat.zero_add, ne_eq, decide_eq_true_eq, Int.reduceEq, Int.reduceLT, Int.reduceLE, Int.reduceNeg, decide_true, decide_false, Bool.false_bne, Bool.true_bne, Bool.not_true, Bool.not_false, md_encT, md_encP, md_encL, md_encB, sto_encT, sto_encP, sto_encL, sto_encB, md_encG, md_encU, md_encC, sto_encG, sto_encU, sto_encC, q_chain, bx_0, bx_1, md_box, sto_box, reduceCtorEq, if_false, if_true, ite_true, ite_false, Bool.false_eq_true, kq_row_row, kq_row_any, kq_row_whn, kq_row_dif, kq_row_tab, kq_row_ele, kq_row_tim, kq_any_row, kq_any_any, kq_any_whn, kq_any_dif, kq_any_tab, kq_any_ele, kq_any_tim, kq_whn_row, kq_whn_any, kq_whn_whn, kq_whn_dif, kq_whn_tab, kq_whn_ele, kq_whn_tim, kq_dif_row, kq_dif_any, kq_dif_whn, kq_dif_dif, kq_dif_tab, kq_dif_ele, kq_dif_tim, kq_tab_row, kq_tab_any, kq_tab_whn, kq_tab_dif, kq_tab_tab, kq_tab_ele, kq_tab_tim, kq_ele_row, kq_ele_any, kq_ele_whn, kq_ele_dif, kq_ele_tab, kq_ele_ele, kq_ele_tim, kq_tim_row, kq_tim_any, kq_tim_whn, kq_tim_dif, kq_tim_tab, kq_tim_ele, kq_tim_tim])
local macro_rules | `(tactic| walk_at "go") => `(tactic| simp -implicitDefEqProofs only [q_lit, q_nil, q_cons, q_var, q_bin, q_tup, q_lst, q_box, q_neg, q_notT, q_andT, q_orT, q_notV, q_andV, q_orV, q_if, q_B, q_ix, q_call, q_bi, q_sl, q_oNone, q_oSome, q_dk, q_dt, q_yesT, q_get2,
  q_lc, q_iExp, q_iVar, q_iEnV, items_tup, items_lst, q_seq, q_skip, q_ret, q_retV, q_ifS, q_asg, q_drop, q_for, q_tName, q_tTup, q_tCons, q_tNil, q_fz, q_frzE, q_app, q_aug, q_setIx, q_wipe0, q_wipe, fin_rt, fin_nx,
  mut_non, mut_bl, mut_int, mut_str, mut_tup, mut_lst, mut_dk, mut_dt, mut_scr, mut_cel, sto_non, sto_bl, sto_int, sto_str, sto_tup, sto_scr, sto_cel, sto_own, sto_frz, md_non, md_bl, md_int, md_str, md_tup, md_lst, md_dk, md_dt, md_scr, md_cel,
  gAdd_int, gAddI_int, gSub_int, gLt_int, gLe_int, gGt_int, gGe_int, gInt_int, gInt_bl, gLen_tup, gLen_lst, gTuple_lst, gTuple_tup, gList_scr, gList_lst, gList_tup, gIx_tup, gIx_lst, gEq_int, gEq_bl, atI_0, atI_1, atI_2, atI_3, atI_4,
  bnd_some, Option.map_some, Option.bind_some, List.getElem?_cons_succ, List.getElem?_cons_zero, List.set_cons_succ, List.set_cons_zero, List.foldl_cons, List.foldl_nil, List.map_cons, List.map_nil, List.length_map, List.length_cons, List.length_nil, List.all_cons, List.all_nil, Bool.and_true, Bool.true_and, and_true, true_and, false_and, and_false,
  size_le, size_lt', Nat.reduceAdd, Nat.reduceLeDiff, Nat.zero_add, ne_eq, decide_eq_true_eq, Int.reduceEq, Int.reduceLT, Int.reduceLE, Int.reduceNeg, decide_true, decide_false, Bool.false_bne, Bool.true_bne, Bool.not_true, Bool.not_false, md_encT, md_encP, md_encL, md_encB, sto_encT, sto_encP, sto_encL, sto_encB, md_encG, md_encU, md_encC, sto_encG, sto_encU, sto_encC, q_chain, bx_0, bx_1, md_box, sto_box, reduceCtorEq, if_false, if_true, ite_true, ite_false, Bool.false_eq_true, kq_row_row, kq_row_any, kq_row_whn, kq_row_dif, kq_row_tab, kq_row_ele, kq_row_tim, kq_any_row, kq_any_any, kq_any_whn, kq_any_dif, kq_any_tab, kq_any_ele, kq_any_tim, kq_whn_row, kq_whn_any, kq_whn_whn, kq_whn_dif, kq_whn_tab, kq_whn_ele, kq_whn_tim, kq_dif_row, kq_dif_any, kq_dif_whn, kq_dif_dif, kq_dif_tab, kq_dif_ele, kq_dif_tim, kq_tab_row, kq_tab_any, kq_tab_whn, kq_tab_dif, kq_tab_tab, kq_tab_ele, kq_tab_tim, kq_ele_row, kq_ele_any, kq_ele_whn, kq_ele_dif, kq_ele_tab, kq_ele_ele, kq_ele_tim, kq_tim_row, kq_tim_any, kq_tim_whn, kq_tim_dif, kq_tim_tab, kq_tim_ele, kq_tim_tim, *])

theorem sto_R (r : Lg.Tm × Int) (m : Md) : sto (encR r, m) = true := rfl
theorem bh_tab {vs : List Int} {rows : List (List Int)} {p : List Int} (S : Store) (h : ∀ v ∈ vs, 0 ≤ v ∧ v < p.length) (hlen : vs.length ≤ 60) : m_body_holds [encB (.tab vs rows), encP p] S = some ((.bl (bdH (.tab vs rows) p), .own), S) := by
  unfold m_body_holds
  rw [cFn_run (by rfl)]
  show fin (c_body_holds [some (encB (.tab vs rows), .brw), some (encP p, .brw), none, none, none, none] S) = _
  unfold c_body_holds
  have e1 := lc_at (p := p) (vs := vs) (ρ := [some (.tup [.str "table", encP vs, .tup (rows.map encP)], .brw), some (encP p, .brw), some (.str "table", .frz), none, none, none]) (S := S) (i := 1) (j := 5) h rfl (by decide) (by simp)
  have e2 := gIn_tup (neg := false) (a := encP (vs.map (at' p))) (ws := rows.map encP) (okD_tup (n := 63) fun w hw => by
    obtain ⟨v, _, rfl⟩ := List.mem_map.mp hw; rfl) (okD_tup (n := 63) fun w hw => by
    obtain ⟨v, _, rfl⟩ := List.mem_map.mp hw
    exact okD_tup (n := 62) fun w hw => by
      obtain ⟨v, _, rfl⟩ := List.mem_map.mp hw; rfl)
  have e3 : (false != (rows.map encP).any fun z => eqW z (encP (vs.map (at' p)))) = bdH (.tab vs rows) p := by
    show (false != (rows.map encP).any fun z => eqW z (encP (vs.map (at' p)))) = decide (vs.map (at' p) ∈ rows)
    rw [Bool.false_bne, List.any_map, Bool.eq_iff_iff]
    simp only [List.any_eq_true, Function.comp, eqW_P, decide_eq_true_eq]
    exact ⟨fun ⟨r, h1, h2⟩ => h2 ▸ h1, fun h => ⟨_, h, rfl⟩⟩
  rw [e3] at e2
  rw [b_tab]
  clear e3 h
  walk_at "ev"
  have e4 : itemsOf (encP vs) = some (vs.map W.int) := rfl
  rw [e4, Option.map_some, bnd_some, if_pos (size_ok (by rw [List.length_map]; omega)), e1]
  walk_at "ev"
  have e5 : encP (vs.map (at' p)) = .tup ((vs.map (at' p)).map W.int) := rfl
  rw [← e5, e2]
  walk_at "ev"
theorem bh_tim {x y z : Int} {p : List Int} (S : Store) (hp : POk p) (hx : 0 ≤ x ∧ x < p.length) (hy : 0 ≤ y ∧ y < p.length) (hz : 0 ≤ z ∧ z < p.length) : m_body_holds [encB (.tim x y z), encP p] S = some ((.bl (bdH (.tim x y z) p), .own), S) := by
  unfold m_body_holds
  rw [cFn_run (by rfl)]
  show fin (c_body_holds [some (encB (.tim x y z), .brw), some (encP p, .brw), none, none, none, none] S) = _
  unfold c_body_holds
  have e1 := ix_P S hx.1 hx.2
  have e2 := ix_P S hy.1 hy.2
  have e3 := ix_P S hz.1 hz.2
  have s1 := at_small hp x
  have e4 : gMul (.int (at' p x)) (.int (at' p y)) = some (.int (at' p x * at' p y)) := gMul_int (.inl (by omega))
  rw [b_tim]
  clear hx hy hz s1
  walk_at "go"
  rfl
theorem bh_ele {i j : Int} {es : List Int} {p : List Int} (S : Store) (hi : 0 ≤ i ∧ i < p.length) (hj : 0 ≤ j ∧ j < p.length) : m_body_holds [encB (.ele i es j), encP p] S = some ((.bl (bdH (.ele i es j) p), .own), S) := by
  unfold m_body_holds
  rw [cFn_run (by rfl)]
  show fin (c_body_holds [some (encB (.ele i es j), .brw), some (encP p, .brw), none, none, none, none] S) = _
  unfold c_body_holds
  have e1 := ix_P S hi.1 hi.2
  have e2 := ix_P S hj.1 hj.2
  have e4 : gLen S [encP es] = some (.int ((es.length : Nat) : Int)) := by show some (W.int _) = _; rw [List.length_map]
  have e5 : gIx S (.tup [.str "element", .int i, encP es, .int j]) (.int 2) = some (encP es) := rfl
  have e6 : bdH (.ele i es j) p = (decide (0 ≤ at' p i) && (decide (at' p i < es.length) && decide (at' es (at' p i) = at' p j))) := by
    show bdH (.ele i es j) p = _
    unfold bdH
    try simp only [Bool.and_assoc]
  rw [e6]
  have e3 : 0 ≤ at' p i → at' p i < es.length → gIx S (encP es) (.int (at' p i)) = some (.int (at' es (at' p i))) := fun h0 h1 => ix_P S h0 h1
  rw [b_ele]
  clear hi hj e6
  by_cases h0 : 0 ≤ at' p i
  · by_cases h1 : at' p i < es.length
    · have e3 := e3 h0 h1
      have d0 := decide_eq_true h0
      have d1 := decide_eq_true h1
      clear h0 h1
      walk_at "go"
    · have d0 := decide_eq_true h0
      have d1 := decide_eq_false h1
      clear h0 h1 e3
      walk_at "go"
      rfl
  · have d0 := decide_eq_false h0
    clear h0 e3
    walk_at "go"
    rfl
def seenH (lo hi : List Int) : Bd → Bool
  | .row ts r c => rowsH lo hi (rowsOf ts r c)
  | .any ls => ls.any fun l => alw lo hi l true
  | .whn l ts r c => alw lo hi l false || rowsH lo hi (rowsOf ts r c)
  | .dif vs => !meetL lo hi vs
  | b => !((wrt b).any fun v => decide (at' lo v < at' hi v)) && bdH b lo
theorem rows_ok {n : Nat} {ts : Lg.Tm} {r : Rl} {c : Int} (h : TmOk n ts) : RsOk n (rowsOf ts r c) := by
  cases r <;> refine ⟨by simp [rowsOf], fun x hx => ?_⟩ <;> simp only [rowsOf, List.mem_cons, List.not_mem_nil, or_false] at hx
  · subst hx; exact h
  · subst hx; exact TmOk.neg h
  · rcases hx with rfl | rfl
    · exact h
    · exact TmOk.neg h
  · rcases hx with rfl | rfl
    · exact h
    · exact TmOk.neg h
theorem lc_sure {n : Nat} {ls : List Ltl} {lo hi : List Int} {ρ : Mp.Env} {S : Store} (hb : BoxOk n lo hi) (h : ∀ l ∈ ls, LOk n l) (h1 : ρ[1]? = some (some (encBx lo hi, .brw))) (hl : 6 < ρ.length) :
    lcL (tName 6) tYesT (cCall m_is_sure (cCons (cVar 1) (cCons (cVar 6) cNil))) ρ (ls.map encL) S = some (ls.map fun l => W.bl (alw lo hi l true), S) :=
  lc_map (enc := encL) (g := fun l => W.bl (alw lo hi l true)) fun l hl' => ⟨ρ.set 6 (some (encL l, .frz)), .own, rfl, rfl, by
    have e := sure_ok (lo := lo) (hi := hi) (l := l) S (by have := h l hl'; unfold LOk at *; rw [hb.l0]; exact this) (by have := h l hl'; unfold LOk at *; rw [hb.l1]; exact this)
    rw [alw_true (hb.le _ (h l hl').1 (h l hl').2)]
    simp only [q_call, q_cons, q_nil, q_var, List.getElem?_set_ne (show (6 : Nat) ≠ 1 by decide), h1, List.getElem?_set_self hl, bnd_some, reduceCtorEq, if_false, List.map_cons, List.map_nil]
    exact e, rfl⟩
theorem lc_alw {n : Nat} {ls : List Ltl} {lo hi : List Int} {ρ : Mp.Env} {S : Store} (hb : BoxOk n lo hi) (h : ∀ l ∈ ls, LOk n l) (h1 : ρ[0]? = some (some (encBx lo hi, .brw))) (hl : 5 < ρ.length) :
    lcL (tName 5) tYesT (cCall m_law_always (cCons (cVar 0) (cCons (cVar 5) (cCons (cLit (.bl true)) cNil)))) ρ (ls.map encL) S = some (ls.map fun l => W.bl (alw lo hi l true), S) :=
  lc_map (enc := encL) (g := fun l => W.bl (alw lo hi l true)) fun l hl' => ⟨ρ.set 5 (some (encL l, .frz)), .own, rfl, rfl, by
    have e := always_ok (kept := true) S hb (h l hl')
    simp only [q_call, q_cons, q_nil, q_var, q_lit, List.getElem?_set_ne (show (5 : Nat) ≠ 0 by decide), h1, List.getElem?_set_self hl, bnd_some, reduceCtorEq, if_false, List.map_cons, List.map_nil]
    exact e, rfl⟩
theorem lc_wide {n : Nat} {vs : List Int} {lo hi : List Int} {ρ : Mp.Env} {S : Store} (hb : BoxOk n lo hi) (h : ∀ v ∈ vs, 0 ≤ v ∧ v < n) (h3 : ρ[3]? = some (some (encP lo, .frz))) (h4 : ρ[4]? = some (some (encP hi, .frz))) (hl : 5 < ρ.length) :
    lcL (tName 5) tYesT (cBin gLt (cIx (cVar 3) (cVar 5)) (cIx (cVar 4) (cVar 5))) ρ (vs.map W.int) S = some (vs.map fun v => W.bl (decide (at' lo v < at' hi v)), S) :=
  lc_map (enc := W.int) (g := fun v => W.bl (decide (at' lo v < at' hi v))) fun v hv => ⟨ρ.set 5 (some (.int v, .frz)), .own, rfl, rfl, by
    have e1 := ix_P (p := lo) S (h v hv).1 (by rw [hb.l0]; exact (h v hv).2)
    have e2 := ix_P (p := hi) S (h v hv).1 (by rw [hb.l1]; exact (h v hv).2)
    simp only [q_bin, q_ix, q_var, List.getElem?_set_ne (show (5 : Nat) ≠ 3 by decide), List.getElem?_set_ne (show (5 : Nat) ≠ 4 by decide), h3, h4, List.getElem?_set_self hl, bnd_some, reduceCtorEq, if_false, e1, e2, Option.map_some, gLt_int], rfl⟩
theorem lc_wideL {n : Nat} {vs : List Int} {lo hi : List Int} {ρ : Mp.Env} {S : Store} (hb : BoxOk n lo hi) (h : ∀ v ∈ vs, 0 ≤ v ∧ v < n) (h0 : ρ[0]? = some (some (encBx lo hi, .brw))) (hl : 4 < ρ.length) :
    lcL (tName 4) tYesT (cBin gLt (cIx (cIx (cVar 0) (cLit (.int 0))) (cVar 4)) (cIx (cIx (cVar 0) (cLit (.int 1))) (cVar 4))) ρ (vs.map W.int) S = some (vs.map fun v => W.bl (decide (at' lo v < at' hi v)), S) :=
  lc_map (enc := W.int) (g := fun v => W.bl (decide (at' lo v < at' hi v))) fun v hv => ⟨ρ.set 4 (some (.int v, .frz)), .own, rfl, rfl, by
    have e1 := ix_P (p := lo) S (h v hv).1 (by rw [hb.l0]; exact (h v hv).2)
    have e2 := ix_P (p := hi) S (h v hv).1 (by rw [hb.l1]; exact (h v hv).2)
    simp only [q_bin, q_ix, q_var, q_lit, List.getElem?_set_ne (show (4 : Nat) ≠ 0 by decide), h0, List.getElem?_set_self hl, bnd_some, reduceCtorEq, if_false, bx_0, bx_1, e1, e2, Option.map_some, gLt_int], rfl⟩
theorem any_bls {A : Type} (f : A → Bool) (xs : List A) (S : Store) : gAny S [.lst (xs.map fun x => W.bl (f x))] = some (.bl (xs.any f)) := by
  show (blsOf _).map _ = _
  rw [bls_map, Option.map_some, List.any_map]
  rfl
theorem in_bls {A : Type} (f : A → Bool) (xs : List A) : gIn false (.bl true) (.lst (xs.map fun x => W.bl (f x))) = some (.bl (xs.any f)) := by
  rw [gIn_ok (neg := false) (a := .bl true) rfl (okD_lst (n := 63) fun w hw => by
    obtain ⟨l, _, rfl⟩ := List.mem_map.mp hw
    rfl), List.any_map, Bool.false_bne]
  congr 2
  congr 1
  funext x
  show (f x == true) = f x
  cases f x <;> rfl
end K76
/-! seen and surely (printed by mk76h.py) -/
namespace K76
open PySem PySem.Spec PyProof.Rows L2 Mp Lg
local macro_rules | `(tactic| walk_at "ev") => `(tactic| simp -implicitDefEqProofs only [q_lit, q_nil, q_cons, q_var, q_bin, q_tup, q_lst, q_box, q_neg, q_notT, q_andT, q_orT, q_notV, q_andV, q_orV, q_if, q_B, q_ix, q_call, q_bi, q_sl, q_oNone, q_oSome, q_dk, q_dt, q_yesT, q_get2,
  q_lc, q_iExp, q_iVar, q_iEnV, items_tup, items_lst, q_seq, q_skip, q_ret, q_retV, q_ifS, q_asg, q_drop, q_for, q_tName, q_tTup, q_tCons, q_tNil, q_fz, q_frzE, q_app, q_aug, q_setIx, q_wipe0, q_wipe, fin_rt, fin_nx,
  mut_non, mut_bl, mut_int, mut_str, mut_tup, mut_lst, mut_dk, mut_dt, mut_scr, mut_cel, sto_non, sto_bl, sto_int, sto_str, sto_tup, sto_scr, sto_cel, sto_own, sto_frz, md_non, md_bl, md_int, md_str, md_tup, md_lst, md_dk, md_dt, md_scr, md_cel,
  gAdd_int, gAddI_int, gSub_int, gLt_int, gLe_int, gGt_int, gGe_int, gInt_int, gInt_bl, gLen_tup, gLen_lst, gTuple_lst, gTuple_tup, gList_scr, gList_lst, gList_tup, gIx_tup, gIx_lst, gEq_int, gEq_bl, atI_0, atI_1, atI_2, atI_3, atI_4,
  bnd_some, Option.map_some, Option.bind_some, List.getElem?_cons_succ, List.getElem?_cons_zero, List.set_cons_succ, List.set_cons_zero, List.foldl_cons, List.foldl_nil, List.map_cons, List.map_nil, List.length_map, List.length_cons, List.length_nil, List.all_cons, List.all_nil, Bool.and_true, Bool.true_and, and_true, true_and, false_and, and_false,
  size_le, size_lt', Nat.reduceAdd, Nat.reduceLeDiff, Nat.zero_add, ne_eq, decide_eq_true_eq, Int.reduceEq, Int.reduceLT, Int.reduceLE, Int.reduceNeg, decide_true, decide_false, Bool.false_bne, Bool.true_bne, Bool.not_true, Bool.not_false, md_encT, md_encP, md_encL, md_encB, sto_encT, sto_encP, sto_encL, sto_encB, md_encG, md_encU, md_encC, sto_encG, sto_encU, sto_encC, q_chain, bx_0, bx_1, md_box, sto_box, reduceCtorEq, if_false, if_true, ite_true, ite_false, Bool.false_eq_true, kq_row_row, kq_row_any, kq_row_whn, kq_row_dif, kq_row_tab, kq_row_ele, kq_row_tim, kq_any_row, kq_any_any, kq_any_whn, kq_any_dif, kq_any_tab, kq_any_ele, kq_any_tim, kq_whn_row, kq_whn_any, kq_whn_whn, kq_whn_dif, kq_whn_tab, kq_whn_ele, kq_whn_tim, kq_dif_row, kq_dif_any, kq_dif_whn, kq_dif_dif, kq_dif_tab, kq_dif_ele, kq_dif_tim, kq_tab_row, kq_tab_any, kq_tab_whn, kq_tab_dif, kq_tab_tab, kq_tab_ele, kq_tab_tim, kq_ele_row, kq_ele_any, kq_ele_whn, kq_ele_dif, kq_ele_tab, kq_ele_ele, kq_ele_tim, kq_tim_row, kq_tim_any, kq_tim_whn, kq_tim_dif, kq_tim_tab, kq_tim_ele, kq_tim_tim])
local macro_rules | `(tactic| walk_at "go") => `(tactic| simp -implicitDefEqProofs only [q_lit, q_nil, q_cons, q_var, q_bin, q_tup, q_lst, q_box, q_neg, q_notT, q_andT, q_orT, q_notV, q_andV, q_orV, q_if, q_B, q_ix, q_call, q_bi, q_sl, q_oNone, q_oSome, q_dk, q_dt, q_yesT, q_get2,
  q_lc, q_iExp, q_iVar, q_iEnV, items_tup, items_lst, q_seq, q_skip, q_ret, q_retV, q_ifS, q_asg, q_drop, q_for, q_tName, q_tTup, q_tCons, q_tNil, q_fz, q_frzE, q_app, q_aug, q_setIx, q_wipe0, q_wipe, fin_rt, fin_nx,
  mut_non, mut_bl, mut_int, mut_str, mut_tup, mut_lst, mut_dk, mut_dt, mut_scr, mut_cel, sto_non, sto_bl, sto_int, sto_str, sto_tup, sto_scr, sto_cel, sto_own, sto_frz, md_non, md_bl, md_int, md_str, md_tup, md_lst, md_dk, md_dt, md_scr, md_cel,
  gAdd_int, gAddI_int, gSub_int, gLt_int, gLe_int, gGt_int, gGe_int, gInt_int, gInt_bl, gLen_tup, gLen_lst, gTuple_lst, gTuple_tup, gList_scr, gList_lst, gList_tup, gIx_tup, gIx_lst, gEq_int, gEq_bl, atI_0, atI_1, atI_2, atI_3, atI_4,
  bnd_some, Option.map_some, Option.bind_some, List.getElem?_cons_succ, List.getElem?_cons_zero, List.set_cons_succ, List.set_cons_zero, List.foldl_cons, List.foldl_nil, List.map_cons, List.map_nil, List.length_map, List.length_cons, List.length_nil, List.all_cons, List.all_nil, Bool.and_true, Bool.true_and, and_true, true_and, false_and, and_false,
  size_le, size_lt', Nat.reduceAdd, Nat.reduceLeDiff, Nat.zero_add, ne_eq, decide_eq_true_eq, Int.reduceEq, Int.reduceLT, Int.reduceLE, Int.reduceNeg, decide_true, decide_false, Bool.false_bne, Bool.true_bne, Bool.not_true, Bool.not_false, md_encT, md_encP, md_encL, md_encB, sto_encT, sto_encP, sto_encL, sto_encB, md_encG, md_encU, md_encC, sto_encG, sto_encU, sto_encC, q_chain, bx_0, bx_1, md_box, sto_box, reduceCtorEq, if_false, if_true, ite_true, ite_false, Bool.false_eq_true, kq_row_row, kq_row_any, kq_row_whn, kq_row_dif, kq_row_tab, kq_row_ele, kq_row_tim, kq_any_row, kq_any_any, kq_any_whn, kq_any_dif, kq_any_tab, kq_any_ele, kq_any_tim, kq_whn_row, kq_whn_any, kq_whn_whn, kq_whn_dif, kq_whn_tab, kq_whn_ele, kq_whn_tim, kq_dif_row, kq_dif_any, kq_dif_whn, kq_dif_dif, kq_dif_tab, kq_dif_ele, kq_dif_tim, kq_tab_row, kq_tab_any, kq_tab_whn, kq_tab_dif, kq_tab_tab, kq_tab_ele, kq_tab_tim, kq_ele_row, kq_ele_any, kq_ele_whn, kq_ele_dif, kq_ele_tab, kq_ele_ele, kq_ele_tim, kq_tim_row, kq_tim_any, kq_tim_whn, kq_tim_dif, kq_tim_tab, kq_tim_ele, kq_tim_tim, *])

theorem items_L (ls : List Ltl) : itemsOf (.tup (ls.map encL)) = some (ls.map encL) := rfl
theorem insU_len (x : Int) : ∀ ys : List Int, (insU x ys).length ≤ ys.length + 1
  | [] => by simp [insU]
  | y :: ys => by
    unfold insU
    split
    · simp
    · split
      · simp
      · have := insU_len x ys
        simp only [List.length_cons]
        omega
theorem sortU_len : ∀ ns : List Int, (sortU ns).length ≤ ns.length
  | [] => Nat.le_refl _
  | n :: ns => by
    have h1 := insU_len n (sortU ns)
    have h2 := sortU_len ns
    show (insU n (sortU ns)).length ≤ _
    simp only [List.length_cons]
    omega
def wideW (lo hi vs : List Int) : Bool := vs.any fun v => decide (at' lo v < at' hi v)
def shT : CS := (cSeq (cAsg (tTup 2 (tCons (tName 3) (tCons (tName 4) tNil))) (cVar 1)) (cSeq (cIfS (cB (cBi gAny (cCons (cLc (tName 5) (iExp (cCall m_unknowns_of (cCons (cVar 0) cNil))) tYesT (cBin gLt (cIx (cVar 3) (cVar 5)) (cIx (cVar 4) (cVar 5))) [5]) cNil))) (cRet (cLit (.bl false))) (cSkip)) (cRet (cCall m_body_holds (cCons (cVar 0) (cCons (cVar 3) cNil))))))
def snT : CS := (cSeq (cIfS (cB (cBin (gIn false) (cLit (.bl true)) (cLc (tName 4) (iExp (cCall m_law_written (cCons (cVar 1) cNil))) tYesT (cBin gLt (cIx (cIx (cVar 0) (cLit (.int 0))) (cVar 4)) (cIx (cIx (cVar 0) (cLit (.int 1))) (cVar 4))) [4]))) (cRet (cLit (.bl false))) (cSkip)) (cRet (cCall m_law_holds (cCons (cVar 1) (cCons (cIx (cVar 0) (cLit (.int 0))) cNil)))))
theorem sh_seq : c_surely_holds = (cSeq (cAsg (tName 2) (cIx (cVar 0) (cLit (.int 0)))) (cSeq (cIfS (cB (cBin (gEq false) (cVar 2) (cLit (.str "row")))) (cRet (cCall m_rows_sure (cCons (cVar 1) (cCons (cCall m_rows_of (cCons (cIx (cVar 0) (cLit (.int 1))) (cCons (cIx (cVar 0) (cLit (.int 2))) (cCons (cIx (cVar 0) (cLit (.int 3))) cNil)))) cNil)))) (cSkip)) (cSeq (cIfS (cB (cBin (gEq false) (cVar 2) (cLit (.str "any")))) (cRet (cBi gAny (cCons (cLc (tName 6) (iExp (cIx (cVar 0) (cLit (.int 1)))) tYesT (cCall m_is_sure (cCons (cVar 1) (cCons (cVar 6) cNil))) [6]) cNil))) (cSkip)) (cSeq (cIfS (cB (cBin (gEq false) (cVar 2) (cLit (.str "when")))) (cRet ((cOrV (cNotV (cCall m_is_possible (cCons (cVar 1) (cCons (cIx (cVar 0) (cLit (.int 1))) cNil)))) (cCall m_rows_sure (cCons (cVar 1) (cCons (cCall m_rows_of (cCons (cIx (cVar 0) (cLit (.int 2))) (cCons (cIx (cVar 0) (cLit (.int 3))) (cCons (cIx (cVar 0) (cLit (.int 4))) cNil)))) cNil)))))) (cSkip)) (cSeq (cIfS (cB (cBin (gEq false) (cVar 2) (cLit (.str "different")))) (cRet (cCall m_always_apart (cCons (cVar 1) (cCons (cIx (cVar 0) (cLit (.int 1))) cNil)))) (cSkip)) shT))))) := rfl
theorem sn_seq : c_law_seen = (cSeq (cIfS (cB (cBin (gEq false) (cIx (cVar 1) (cLit (.int 0))) (cLit (.str "row")))) (cRet (cCall m_law_rows_hold (cCons (cVar 0) (cCons (cCall m_law_rows (cCons (cIx (cVar 1) (cLit (.int 1))) (cCons (cIx (cVar 1) (cLit (.int 2))) (cCons (cIx (cVar 1) (cLit (.int 3))) cNil)))) cNil)))) (cSkip)) (cSeq (cIfS (cB (cBin (gEq false) (cIx (cVar 1) (cLit (.int 0))) (cLit (.str "any")))) (cRet (cBin (gIn false) (cLit (.bl true)) (cLc (tName 5) (iExp (cIx (cVar 1) (cLit (.int 1)))) tYesT (cCall m_law_always (cCons (cVar 0) (cCons (cVar 5) (cCons (cLit (.bl true)) cNil)))) [5]))) (cSkip)) (cSeq (cIfS (cB (cBin (gEq false) (cIx (cVar 1) (cLit (.int 0))) (cLit (.str "when")))) (cRet ((cOrV (cCall m_law_always (cCons (cVar 0) (cCons (cIx (cVar 1) (cLit (.int 1))) (cCons (cLit (.bl false)) cNil)))) (cCall m_law_rows_hold (cCons (cVar 0) (cCons (cCall m_law_rows (cCons (cIx (cVar 1) (cLit (.int 2))) (cCons (cIx (cVar 1) (cLit (.int 3))) (cCons (cIx (cVar 1) (cLit (.int 4))) cNil)))) cNil)))))) (cSkip)) (cSeq (cIfS (cB (cBin (gEq false) (cIx (cVar 1) (cLit (.int 0))) (cLit (.str "different")))) (cSeq (cFor (tName 2) (iExp (cIx (cVar 1) (cLit (.int 1)))) (cFor (tName 3) (iExp (cIx (cVar 1) (cLit (.int 1)))) (cIfS ((cAndT (cB (cBin (gEq true) (cVar 2) (cVar 3))) (cAndT (cB (cBin gLe (cIx (cIx (cVar 0) (cLit (.int 0))) (cVar 2)) (cIx (cIx (cVar 0) (cLit (.int 1))) (cVar 3)))) (cB (cBin gLe (cIx (cIx (cVar 0) (cLit (.int 0))) (cVar 3)) (cIx (cIx (cVar 0) (cLit (.int 1))) (cVar 2))))))) (cRet (cLit (.bl false))) (cSkip))))
  (cRet (cLit (.bl true)))) (cSkip)) snT)))) := rfl
theorem shT_ok {n : Nat} {b : Bd} {lo hi : List Int} {k : Str} {m : Md} (S : Store) (hb : BOk n b) (bx : BoxOk n lo hi) (hh : m_body_holds [encB b, encP lo] S = some ((.bl (bdH b lo), .own), S)) :
    ∃ m2, fin (shT [some (encB b, .brw), some (encBx lo hi, .brw), some (.str k, m), none, none, none, none] S) = some ((.bl (!wideW lo hi (wrt b) && bdH b lo), m2), S) := by
  have hw := wrt_in hb
  have hwl := wrt_len hb
  have e0 := unk_ok S hb
  have e1 := lc_wide (vs := sortU (wrt b)) (ρ := [some (encB b, .brw), some (encBx lo hi, .brw), some (.str k, m), some (encP lo, .frz), some (encP hi, .frz), none, none]) (S := S) bx (fun v hv => hw v ((sortU_mem v _).mp hv)) rfl rfl (by simp)
  have e2 := any_bls (fun v => decide (at' lo v < at' hi v)) (sortU (wrt b)) S
  have e4 : ((sortU (wrt b)).any fun v => decide (at' lo v < at' hi v)) = wideW lo hi (wrt b) := by
    unfold wideW
    rw [Bool.eq_iff_iff]; simp only [List.any_eq_true, sortU_mem]
  rw [e4] at e2
  have e5 := sortU_len (wrt b)
  unfold shT
  rw [seq_nx (ρ2 := [some (encB b, .brw), some (encBx lo hi, .brw), some (.str k, m), some (encP lo, .frz), some (encP hi, .frz), none, none]) (S2 := S) (by unfold encBx; walk_at "ev")]
  have e6 : cLc (tName 5) (iExp (cCall m_unknowns_of (cCons (cVar 0) cNil))) tYesT (cBin gLt (cIx (cVar 3) (cVar 5)) (cIx (cVar 4) (cVar 5))) [5] [some (encB b, .brw), some (encBx lo hi, .brw), some (.str k, m), some (encP lo, .frz), some (encP hi, .frz), none, none] S
      = some ((.lst ((sortU (wrt b)).map fun v => W.bl (decide (at' lo v < at' hi v))), .own), S) := by
    clear hh e2 e4 hw
    walk_at "ev"
    rw [e0]
    walk_at "ev"
    rw [if_pos (size_ok (by omega)), e1]
    walk_at "ev"
  clear e0 e1 e4 e5 hw hwl hb bx
  cases hx : wideW lo hi (wrt b) with
  | true =>
    rw [hx] at e2
    refine ⟨.frz, ?_⟩
    simp -implicitDefEqProofs only [q_seq, q_ifS, q_B, q_bi, q_cons, q_nil, e6, e2, bnd_some, List.map_cons, List.map_nil, Option.map_some, if_true, q_ret, q_lit, sto_bl, fin_rt]
    rfl
  | false =>
    rw [hx] at e2
    refine ⟨.own, ?_⟩
    simp -implicitDefEqProofs only [q_seq, q_ifS, q_B, q_bi, q_cons, q_nil, e6, e2, bnd_some, List.map_cons, List.map_nil, Option.map_some, Bool.false_eq_true, if_false, q_skip, q_ret, q_call, q_var, List.getElem?_cons_zero, List.getElem?_cons_succ, reduceCtorEq, hh, sto_bl, if_true, fin_rt]
    rfl
theorem surely_ok {n : Nat} {b : Bd} {lo hi : List Int} (S : Store) (hb : BOk n b) (bx : BoxOk n lo hi) : ∃ m, m_surely_holds [encB b, encBx lo hi] S = some ((.bl (seenH lo hi b), m), S) := by
  unfold m_surely_holds
  rw [cFn_run (by rfl)]
  show ∃ m, fin (c_surely_holds [some (encB b, .brw), some (encBx lo hi, .brw), none, none, none, none, none] S) = _
  rw [sh_seq]
  cases b with
  | row ts r c =>
    have e1 := rows_of_ok (ts := ts) (r := r) (b := c) S (by have := hb.1.1; omega)
    have e2 := rows_sure_ok S bx (rows_ok (r := r) (c := c) hb.1)
    refine ⟨.own, ?_⟩
    rw [b_row]
    clear hb
    walk_at "go"
    rfl
  | any ls =>
    have e1 := lc_sure (ls := ls) (ρ := [some (encB (.any ls), .brw), some (encBx lo hi, .brw), some (.str "any", .frz), none, none, none, none]) (S := S) bx hb.2.2 rfl (by simp)
    have e2 := any_bls (fun l => alw lo hi l true) ls S
    have hs := hb.2.1
    refine ⟨.own, ?_⟩
    rw [b_any] at e1 ⊢
    clear hb
    walk_at "ev"
    rw [if_pos (size_ok (by omega)), e1]
    walk_at "ev"
    rw [e2]
    rfl
  | whn l ts r c =>
    have hl := hb.1
    have e0 := poss_ok (lo := lo) (hi := hi) (l := l) S (by unfold LOk at *; rw [bx.l0]; exact hl) (by unfold LOk at *; rw [bx.l1]; exact hl)
    have e1 := rows_of_ok (ts := ts) (r := r) (b := c) S (by have := hb.2.1.1; omega)
    have e2 := rows_sure_ok S bx (rows_ok (r := r) (c := c) hb.2.1)
    refine ⟨.own, ?_⟩
    have hsn : seenH lo hi (.whn l ts r c) = (alw lo hi l false || rowsH lo hi (rowsOf ts r c)) := rfl
    rw [hsn, alw_false (bx.le _ hl.1 hl.2), b_whn]
    clear hb hl bx
    generalize poss lo hi l = pb at *
    cases pb with
    | true => walk_at "go"; rfl
    | false => walk_at "go"; rfl
  | dif vs =>
    have e1 := apart_ok (vs := vs) S bx hb.2.2
    rw [meet_eq hb.2.1] at e1
    refine ⟨.frz, ?_⟩
    have hsn : seenH lo hi (.dif vs) = !meetL lo hi vs := rfl
    rw [hsn, b_dif]
    clear hb
    walk_at "go"
  | tab vs rows =>
    obtain ⟨m2, e⟩ := shT_ok (k := "table") (m := .frz) S hb bx (bh_tab (p := lo) (rows := rows) S (by rw [bx.l0]; exact hb.1.2.2) hb.1.1)
    refine ⟨m2, ?_⟩
    rw [b_tab] at e ⊢
    clear hb bx
    walk_at "ev"
    exact e
  | ele i es j =>
    obtain ⟨m2, e⟩ := shT_ok (k := "element") (m := .frz) S hb bx (bh_ele (p := lo) (es := es) S (by rw [bx.l0]; exact hb.1) (by rw [bx.l0]; exact hb.2.1))
    refine ⟨m2, ?_⟩
    rw [b_ele] at e ⊢
    clear hb bx
    walk_at "ev"
    exact e
  | tim x y z =>
    obtain ⟨m2, e⟩ := shT_ok (k := "times") (m := .frz) S hb bx (bh_tim (p := lo) S bx.p0 (by rw [bx.l0]; exact hb.1) (by rw [bx.l0]; exact hb.2.1) (by rw [bx.l0]; exact hb.2.2))
    refine ⟨m2, ?_⟩
    rw [b_tim] at e ⊢
    clear hb bx
    walk_at "ev"
    exact e
theorem snT_ok {n : Nat} {b : Bd} {lo hi : List Int} (S : Store) (hb : BOk n b) (bx : BoxOk n lo hi) :
    ∃ m2, fin (snT [some (encBx lo hi, .brw), some (encB b, .brw), none, none, none, none] S) = some ((.bl (!wideW lo hi (wrt b) && bdH b lo), m2), S) := by
  have hw := wrt_in hb
  have hwl := wrt_len hb
  have e0 := written_ok S hb
  have e1 := lc_wideL (vs := wrt b) (ρ := [some (encBx lo hi, .brw), some (encB b, .brw), none, none, none, none]) (S := S) bx hw rfl (by simp)
  have e2 := in_bls (fun v => decide (at' lo v < at' hi v)) (wrt b)
  obtain ⟨mh, hh⟩ := Lg.holds_ok (b := b) (p := lo) S (by rw [bx.l0]; exact hb) bx.p0
  rw [← holds_eq] at hh
  unfold snT
  have e6 : cLc (tName 4) (iExp (cCall m_law_written (cCons (cVar 1) cNil))) tYesT (cBin gLt (cIx (cIx (cVar 0) (cLit (.int 0))) (cVar 4)) (cIx (cIx (cVar 0) (cLit (.int 1))) (cVar 4))) [4] [some (encBx lo hi, .brw), some (encB b, .brw), none, none, none, none] S
      = some ((.lst ((wrt b).map fun v => W.bl (decide (at' lo v < at' hi v))), .own), S) := by
    clear hh e2 hw
    walk_at "ev"
    rw [e0]
    walk_at "ev"
    rw [if_pos (size_ok (by omega)), e1]
    walk_at "ev"
  clear e0 e1 hw hwl hb bx
  have hx : (wrt b).any (fun v => decide (at' lo v < at' hi v)) = wideW lo hi (wrt b) := rfl
  rw [hx] at e2
  clear hx
  cases hx : wideW lo hi (wrt b) with
  | true =>
    rw [hx] at e2
    refine ⟨.frz, ?_⟩
    simp -implicitDefEqProofs only [q_seq, q_ifS, q_B, q_bin, q_lit, e6, e2, bnd_some, Option.map_some, if_true, q_ret, sto_bl, fin_rt]
    rfl
  | false =>
    rw [hx] at e2
    refine ⟨mh, ?_⟩
    simp -implicitDefEqProofs only [q_seq, q_ifS, q_B, q_bin, q_lit, e6, e2, bnd_some, Option.map_some, Bool.false_eq_true, if_false, q_skip, q_ret, q_call, q_cons, q_nil, q_ix, bx_0, q_var, List.getElem?_cons_zero, List.getElem?_cons_succ, reduceCtorEq, List.map_cons, List.map_nil, hh, sto_bl, if_true, fin_rt]
    rfl
end K76
/-! what is seen holds: the plain law -/
namespace K76
open PySem PySem.Spec PyProof.Rows L2 Mp Lg
/-- p lies in the box -/
structure InBx (n : Nat) (lo hi p : List Int) : Prop where
  l : p.length = n
  b : ∀ v : Int, 0 ≤ v → v < n → at' lo v ≤ at' p v ∧ at' p v ≤ at' hi v
theorem tsum_cons (t : Int × Int) (ts : Lg.Tm) (p : List Int) : tsum (t :: ts) p = t.2 * at' p t.1 + tsum ts p := by
  show List.foldl _ _ (_ :: ts) = _
  rw [List.foldl_cons, fold_add (fun t => t.2 * p.getD t.1.toNat 0)]
  show 0 + t.2 * p.getD t.1.toNat 0 + tsum ts p = t.2 * p.getD t.1.toNat 0 + tsum ts p
  omega
theorem mostS_cons (t : Int × Int) (ts : Lg.Tm) (lo hi : List Int) : mostS lo hi (t :: ts) = mostT lo hi t + mostS lo hi ts := by
  show List.foldl _ _ (_ :: ts) = _
  rw [List.foldl_cons, fold_add]
  show 0 + mostT lo hi t + mostS lo hi ts = _
  omega
theorem tsum_le {lo hi p : List Int} : ∀ {ts : Lg.Tm}, (∀ t ∈ ts, at' lo t.1 ≤ at' p t.1 ∧ at' p t.1 ≤ at' hi t.1) → tsum ts p ≤ mostS lo hi ts
  | [], _ => Int.le_refl _
  | t :: ts, h => by
    have ih := tsum_le fun t ht => h t (List.mem_cons_of_mem _ ht)
    obtain ⟨h1, h2⟩ := h t List.mem_cons_self
    rw [tsum_cons, mostS_cons]
    have : t.2 * at' p t.1 ≤ mostT lo hi t := by
      have a1 : 0 ≤ t.2 → t.2 * at' p t.1 ≤ t.2 * at' hi t.1 := fun h0 => Int.mul_le_mul_of_nonneg_left h2 h0
      have a2 : t.2 ≤ 0 → t.2 * at' p t.1 ≤ t.2 * at' lo t.1 := fun h0 => Int.mul_le_mul_of_nonpos_left h0 h1
      unfold mostT
      by_cases h0 : 0 ≤ t.2
      · have := a1 h0; split <;> omega
      · have := a2 (by omega); split <;> omega
    omega
theorem tsum_neg (p : List Int) : ∀ ts : Lg.Tm, tsum (negT ts) p = -tsum ts p
  | [] => rfl
  | t :: ts => by
    show tsum ((t.1, -t.2) :: negT ts) p = _
    rw [tsum_cons, tsum_cons, tsum_neg p ts]
    show -t.2 * at' p t.1 + -tsum ts p = _
    rw [Int.neg_mul]
    omega
theorem row_sound {n : Nat} {lo hi p : List Int} {ts : Lg.Tm} {r : Rl} {c : Int} (hr : r ≠ .ne) (ht : TmOk n ts) (hp : InBx n lo hi p) (h : rowsH lo hi (rowsOf ts r c) = true) : rlH r (tsum ts p) c = true := by
  have h1 := tsum_le (lo := lo) (hi := hi) (p := p) (ts := ts) fun t h => hp.b _ (ht.2 t h).1 (ht.2 t h).2.1
  have h2 := tsum_le (lo := lo) (hi := hi) (p := p) (ts := negT ts) fun t h => by
    obtain ⟨t', h', rfl⟩ := List.mem_map.mp h
    exact hp.b _ (ht.2 t' h').1 (ht.2 t' h').2.1
  rw [tsum_neg] at h2
  unfold rowsH at h
  cases r with
  | le => simp [rowsOf] at h; simp [rlH]; omega
  | ge => simp [rowsOf] at h; simp [rlH]; omega
  | eq => simp [rowsOf] at h; simp [rlH]; omega
  | ne => exact absurd rfl hr
theorem leaves_in {p : List Int} : ∀ {vs s : List Int}, (s ++ vs.map (at' p)).Nodup → leaves (fun s v => s ++ [at' p v]) (fun s v => decide (at' p v ∈ s)) s vs = false
  | [], _, _ => rfl
  | v :: vs, s, h => by
    unfold leaves
    rw [List.map_cons] at h
    have h1 : at' p v ∉ s := fun hm => by
      rw [List.nodup_append] at h
      exact h.2.2 _ hm _ List.mem_cons_self rfl
    rw [decide_eq_false h1, Bool.false_or]
    exact leaves_in (by rw [List.append_assoc]; exact h)
theorem seen_sound {n : Nat} {b : Bd} {lo hi p : List Int} (hb : BOk n b) (bx : BoxOk n lo hi) (hp : InBx n lo hi p) (h : seenH lo hi b = true) : bdH b p = true := by
  have wide : (!wideW lo hi (wrt b) && bdH b lo) = true → (∀ v ∈ wrt b, at' p v = at' lo v) ∧ bdH b lo = true := fun h => by
    rw [Bool.and_eq_true, Bool.not_eq_true'] at h
    refine ⟨fun v hv => ?_, h.2⟩
    have hw := wrt_in hb v hv
    obtain ⟨h1, h2⟩ := hp.b v hw.1 hw.2
    have : ¬ at' lo v < at' hi v := fun hlt => by
      have : wideW lo hi (wrt b) = true := List.any_eq_true.mpr ⟨v, hv, decide_eq_true hlt⟩
      rw [this] at h; cases h.1
    omega
  cases b with
  | row ts r c => exact row_sound hb.2 hb.1 hp h
  | any ls =>
    have h : (ls.any fun l => alw lo hi l true) = true := h
    obtain ⟨l, hl, ha⟩ := List.any_eq_true.mp h
    have hlk := hb.2.2 l hl
    have hx := hp.b _ hlk.1 hlk.2
    refine List.any_eq_true.mpr ⟨l, hl, ?_⟩
    have := (all_range (P := fun z => rlH l.r z l.a == true) (bx.le _ hlk.1 hlk.2)).mp ha _ hx.1 hx.2
    show litH l p = true
    unfold litH
    simpa using this
  | whn l ts r c =>
    have h : (alw lo hi l false || rowsH lo hi (rowsOf ts r c)) = true := h
    show (!litH l p || rlH r (tsum ts p) c) = true
    rw [Bool.or_eq_true] at h ⊢
    rcases h with ha | h
    · left
      have hlk := hb.1
      have hx := hp.b _ hlk.1 hlk.2
      have := (all_range (P := fun z => rlH l.r z l.a == false) (bx.le _ hlk.1 hlk.2)).mp ha _ hx.1 hx.2
      unfold litH
      simpa using this
    · right; exact row_sound hb.2.2 hb.2.1 hp h
  | dif vs =>
    have h : (!meetL lo hi vs) = true := h
    rw [Bool.not_eq_true'] at h
    show (!leaves (fun s v => s ++ [at' p v]) (fun s v => decide (at' p v ∈ s)) ([] : List Int) vs) = true
    rw [leaves_in]
    · rfl
    · rw [List.nil_append]
      show List.Pairwise _ _
      rw [List.pairwise_map]
      refine hb.2.1.imp_of_mem fun {x y} hx hy hne e => ?_
      have bx' := hp.b x (hb.2.2 x hx).1 (hb.2.2 x hx).2
      have by' := hp.b y (hb.2.2 y hy).1 (hb.2.2 y hy).2
      have : meetL lo hi vs = true := List.any_eq_true.mpr ⟨x, hx, List.any_eq_true.mpr ⟨y, hy, by
        unfold ov
        simp only [Bool.and_eq_true, Bool.not_eq_true', decide_eq_false_iff_not, decide_eq_true_eq]
        exact ⟨hne, by omega, by omega⟩⟩⟩
      rw [h] at this; cases this
  | tab vs rows =>
    obtain ⟨h1, h2⟩ := wide h
    have e : vs.map (at' p) = vs.map (at' lo) := List.map_congr_left fun v hv => h1 v hv
    show decide (vs.map (at' p) ∈ rows) = true
    rw [e]; exact h2
  | ele i es j =>
    obtain ⟨h1, h2⟩ := wide h
    have e1 := h1 i (by simp [wrt])
    have e2 := h1 j (by simp [wrt])
    show (decide (0 ≤ at' p i) && (decide (at' p i < es.length) && decide (at' es (at' p i) = at' p j))) = true
    rw [e1, e2]; exact h2
  | tim x y z =>
    obtain ⟨h1, h2⟩ := wide h
    have e1 := h1 x (by simp [wrt])
    have e2 := h1 y (by simp [wrt])
    have e3 := h1 z (by simp [wrt])
    show decide (at' p x * at' p y = at' p z) = true
    rw [e1, e2, e3]; exact h2
end K76
/-! the law's own seeing (printed by mk76j.py) -/
namespace K76
open PySem PySem.Spec PyProof.Rows L2 Mp Lg
local macro_rules | `(tactic| walk_at "ev") => `(tactic| simp -implicitDefEqProofs only [q_lit, q_nil, q_cons, q_var, q_bin, q_tup, q_lst, q_box, q_neg, q_notT, q_andT, q_orT, q_notV, q_andV, q_orV, q_if, q_B, q_ix, q_call, q_bi, q_sl, q_oNone, q_oSome, q_dk, q_dt, q_yesT, q_get2,
  q_lc, q_iExp, q_iVar, q_iEnV, items_tup, items_lst, q_seq, q_skip, q_ret, q_retV, q_ifS, q_asg, q_drop, q_for, q_tName, q_tTup, q_tCons, q_tNil, q_fz, q_frzE, q_app, q_aug, q_setIx, q_wipe0, q_wipe, fin_rt, fin_nx,
  mut_non, mut_bl, mut_int, mut_str, mut_tup, mut_lst, mut_dk, mut_dt, mut_scr, mut_cel, sto_non, sto_bl, sto_int, sto_str, sto_tup, sto_scr, sto_cel, sto_own, sto_frz, md_non, md_bl, md_int, md_str, md_tup, md_lst, md_dk, md_dt, md_scr, md_cel,
  gAdd_int, gAddI_int, gSub_int, gLt_int, gLe_int, gGt_int, gGe_int, gInt_int, gInt_bl, gLen_tup, gLen_lst, gTuple_lst, gTuple_tup, gList_scr, gList_lst, gList_tup, gIx_tup, gIx_lst, gEq_int, gEq_bl, atI_0, atI_1, atI_2, atI_3, atI_4,
  bnd_some, Option.map_some, Option.bind_some, List.getElem?_cons_succ, List.getElem?_cons_zero, List.set_cons_succ, List.set_cons_zero, List.foldl_cons, List.foldl_nil, List.map_cons, List.map_nil, List.length_map, List.length_cons, List.length_nil, List.all_cons, List.all_nil, Bool.and_true, Bool.true_and, and_true, true_and, false_and, and_false,
  size_le, size_lt', Nat.reduceAdd, Nat.reduceLeDiff, Nat.zero_add, ne_eq, decide_eq_true_eq, Int.reduceEq, Int.reduceLT, Int.reduceLE, Int.reduceNeg, decide_true, decide_false, Bool.false_bne, Bool.true_bne, Bool.not_true, Bool.not_false, md_encT, md_encP, md_encL, md_encB, sto_encT, sto_encP, sto_encL, sto_encB, md_encG, md_encU, md_encC, sto_encG, sto_encU, sto_encC, q_chain, bx_0, bx_1, md_box, sto_box, reduceCtorEq, if_false, if_true, ite_true, ite_false, Bool.false_eq_true, kq_row_row, kq_row_any, kq_row_whn, kq_row_dif, kq_row_tab, kq_row_ele, kq_row_tim, kq_any_row, kq_any_any, kq_any_whn, kq_any_dif, kq_any_tab, kq_any_ele, kq_any_tim, kq_whn_row, kq_whn_any, kq_whn_whn, kq_whn_dif, kq_whn_tab, kq_whn_ele, kq_whn_tim, kq_dif_row, kq_dif_any, kq_dif_whn, kq_dif_dif, kq_dif_tab, kq_dif_ele, kq_dif_tim, kq_tab_row, kq_tab_any, kq_tab_whn, kq_tab_dif, kq_tab_tab, kq_tab_ele, kq_tab_tim, kq_ele_row, kq_ele_any, kq_ele_whn, kq_ele_dif, kq_ele_tab, kq_ele_ele, kq_ele_tim, kq_tim_row, kq_tim_any, kq_tim_whn, kq_tim_dif, kq_tim_tab, kq_tim_ele, kq_tim_tim])
local macro_rules | `(tactic| walk_at "go") => `(tactic| simp -implicitDefEqProofs only [q_lit, q_nil, q_cons, q_var, q_bin, q_tup, q_lst, q_box, q_neg, q_notT, q_andT, q_orT, q_notV, q_andV, q_orV, q_if, q_B, q_ix, q_call, q_bi, q_sl, q_oNone, q_oSome, q_dk, q_dt, q_yesT, q_get2,
  q_lc, q_iExp, q_iVar, q_iEnV, items_tup, items_lst, q_seq, q_skip, q_ret, q_retV, q_ifS, q_asg, q_drop, q_for, q_tName, q_tTup, q_tCons, q_tNil, q_fz, q_frzE, q_app, q_aug, q_setIx, q_wipe0, q_wipe, fin_rt, fin_nx,
  mut_non, mut_bl, mut_int, mut_str, mut_tup, mut_lst, mut_dk, mut_dt, mut_scr, mut_cel, sto_non, sto_bl, sto_int, sto_str, sto_tup, sto_scr, sto_cel, sto_own, sto_frz, md_non, md_bl, md_int, md_str, md_tup, md_lst, md_dk, md_dt, md_scr, md_cel,
  gAdd_int, gAddI_int, gSub_int, gLt_int, gLe_int, gGt_int, gGe_int, gInt_int, gInt_bl, gLen_tup, gLen_lst, gTuple_lst, gTuple_tup, gList_scr, gList_lst, gList_tup, gIx_tup, gIx_lst, gEq_int, gEq_bl, atI_0, atI_1, atI_2, atI_3, atI_4,
  bnd_some, Option.map_some, Option.bind_some, List.getElem?_cons_succ, List.getElem?_cons_zero, List.set_cons_succ, List.set_cons_zero, List.foldl_cons, List.foldl_nil, List.map_cons, List.map_nil, List.length_map, List.length_cons, List.length_nil, List.all_cons, List.all_nil, Bool.and_true, Bool.true_and, and_true, true_and, false_and, and_false,
  size_le, size_lt', Nat.reduceAdd, Nat.reduceLeDiff, Nat.zero_add, ne_eq, decide_eq_true_eq, Int.reduceEq, Int.reduceLT, Int.reduceLE, Int.reduceNeg, decide_true, decide_false, Bool.false_bne, Bool.true_bne, Bool.not_true, Bool.not_false, md_encT, md_encP, md_encL, md_encB, sto_encT, sto_encP, sto_encL, sto_encB, md_encG, md_encU, md_encC, sto_encG, sto_encU, sto_encC, q_chain, bx_0, bx_1, md_box, sto_box, reduceCtorEq, if_false, if_true, ite_true, ite_false, Bool.false_eq_true, kq_row_row, kq_row_any, kq_row_whn, kq_row_dif, kq_row_tab, kq_row_ele, kq_row_tim, kq_any_row, kq_any_any, kq_any_whn, kq_any_dif, kq_any_tab, kq_any_ele, kq_any_tim, kq_whn_row, kq_whn_any, kq_whn_whn, kq_whn_dif, kq_whn_tab, kq_whn_ele, kq_whn_tim, kq_dif_row, kq_dif_any, kq_dif_whn, kq_dif_dif, kq_dif_tab, kq_dif_ele, kq_dif_tim, kq_tab_row, kq_tab_any, kq_tab_whn, kq_tab_dif, kq_tab_tab, kq_tab_ele, kq_tab_tim, kq_ele_row, kq_ele_any, kq_ele_whn, kq_ele_dif, kq_ele_tab, kq_ele_ele, kq_ele_tim, kq_tim_row, kq_tim_any, kq_tim_whn, kq_tim_dif, kq_tim_tab, kq_tim_ele, kq_tim_tim, *])

theorem seen_dif {n : Nat} {lo hi vs : List Int} (S : Store) (bx : BoxOk n lo hi) (h : VsOk n vs) : m_law_seen [encBx lo hi, encB (.dif vs)] S = some ((.bl (!meetL lo hi vs), .frz), S) := by
  unfold m_law_seen
  rw [cFn_run (by rfl)]
  show fin (c_law_seen [some (encBx lo hi, .brw), some (encB (.dif vs), .brw), none, none, none, none] S) = _
  rw [sn_seq]
  have hit : ∀ x y, iExp (cIx (cVar 1) (cLit (.int 1))) [some (encBx lo hi, .brw), some (encB (.dif vs), .brw), x, y, none, none] S = some (vs.map W.int, S) := fun x y => by
    rw [b_dif]; walk_at "ev"; rfl
  rcases for_search (enc := W.int) (p := fun x => vs.any fun y => !decide (x = y) && ov lo hi x y) (r := (.bl false, .frz)) (S := S) (xs := vs)
    (t := (tName 2)) (b := (cFor (tName 3) (iExp (cIx (cVar 1) (cLit (.int 1)))) (cIfS ((cAndT (cB (cBin (gEq true) (cVar 2) (cVar 3))) (cAndT (cB (cBin gLe (cIx (cIx (cVar 0) (cLit (.int 0))) (cVar 2)) (cIx (cIx (cVar 0) (cLit (.int 1))) (cVar 3)))) (cB (cBin gLe (cIx (cIx (cVar 0) (cLit (.int 0))) (cVar 3)) (cIx (cIx (cVar 0) (cLit (.int 1))) (cVar 2))))))) (cRet (cLit (.bl false))) (cSkip))))
    (I := fun ρ => ∃ x2 x3, ρ = [some (encBx lo hi, .brw), some (encB (.dif vs), .brw), x2, x3, none, none]) (ρ := [some (encBx lo hi, .brw), some (encB (.dif vs), .brw), none, none, none, none])
    (fun x hx ρ hρ => by
      obtain ⟨x2, x3, rfl⟩ := hρ
      refine ⟨[some (encBx lo hi, .brw), some (encB (.dif vs), .brw), some (.int x, .frz), x3, none, none], by walk_at "ev", ?_⟩
      rw [q_for, hit]
      dsimp only [bnd_some]
      rcases for_search (enc := W.int) (p := fun y => !decide (x = y) && ov lo hi x y) (r := (.bl false, .frz)) (S := S) (xs := vs)
        (t := (tName 3)) (b := (cIfS ((cAndT (cB (cBin (gEq true) (cVar 2) (cVar 3))) (cAndT (cB (cBin gLe (cIx (cIx (cVar 0) (cLit (.int 0))) (cVar 2)) (cIx (cIx (cVar 0) (cLit (.int 1))) (cVar 3)))) (cB (cBin gLe (cIx (cIx (cVar 0) (cLit (.int 0))) (cVar 3)) (cIx (cIx (cVar 0) (cLit (.int 1))) (cVar 2))))))) (cRet (cLit (.bl false))) (cSkip)))
        (I := fun ρ => ∃ x3, ρ = [some (encBx lo hi, .brw), some (encB (.dif vs), .brw), some (.int x, .frz), x3, none, none])
        (fun y hy ρ hρ => by
          obtain ⟨x3, rfl⟩ := hρ
          obtain ⟨a0, a1⟩ := h.2.2 x hx
          obtain ⟨b0, b1⟩ := h.2.2 y hy
          have e1 := ix_P (p := lo) S a0 (by rw [bx.l0]; exact a1)
          have e2 := ix_P (p := hi) S a0 (by rw [bx.l1]; exact a1)
          have e3 := ix_P (p := lo) S b0 (by rw [bx.l0]; exact b1)
          have e4 := ix_P (p := hi) S b0 (by rw [bx.l1]; exact b1)
          refine ⟨[some (encBx lo hi, .brw), some (encB (.dif vs), .brw), some (.int x, .frz), some (.int y, .frz), none, none], by walk_at "ev", ?_⟩
          unfold ov
          clear a0 a1 b0 b1 h hx hy hit bx
          by_cases c0 : x = y
          · right
            have d0 := decide_eq_true c0
            clear c0
            exact ⟨by rw [d0]; rfl, _, by walk_at "go"; rfl, _, rfl⟩
          · have d0 := decide_eq_false c0
            clear c0
            by_cases c1 : at' lo x ≤ at' hi y
            · have d1 := decide_eq_true c1
              clear c1
              by_cases c2 : at' lo y ≤ at' hi x
              · have d2 := decide_eq_true c2
                clear c2
                left
                exact ⟨by rw [d0, d1, d2]; rfl, by walk_at "go"⟩
              · have d2 := decide_eq_false c2
                clear c2
                right
                exact ⟨by rw [d0, d1, d2]; rfl, _, by walk_at "go"; rfl, _, rfl⟩
            · have d1 := decide_eq_false c1
              clear c1
              right
              exact ⟨by rw [d0, d1]; rfl, _, by walk_at "go"; rfl, _, rfl⟩) ⟨x3, rfl⟩ with ⟨hp, e⟩ | ⟨hp, ρ2, e, y3, rfl⟩
      · exact .inl ⟨hp, e⟩
      · exact .inr ⟨hp, _, e, _, _, rfl⟩) ⟨none, none, rfl⟩ with ⟨hp, e⟩ | ⟨hp, ρ2, e, y2, y3, rfl⟩
  · have hm : meetL lo hi vs = true := hp
    rw [hm]
    have hit := hit none none
    have hi2 : itemsOf (encP vs) = some (vs.map W.int) := rfl
    rw [b_dif] at e hit ⊢
    clear h bx
    walk_at "go"
  · have hm : meetL lo hi vs = false := hp
    rw [hm]
    have hit := hit none none
    have hi2 : itemsOf (encP vs) = some (vs.map W.int) := rfl
    rw [b_dif] at e hit ⊢
    clear h bx
    walk_at "go"
theorem seen_ok {n : Nat} {b : Bd} {lo hi : List Int} (S : Store) (hb : BOk n b) (bx : BoxOk n lo hi) : ∃ m, m_law_seen [encBx lo hi, encB b] S = some ((.bl (seenH lo hi b), m), S) := by
  cases b with
  | dif vs => exact ⟨_, seen_dif S bx hb⟩
  | row ts r c =>
    unfold m_law_seen
    rw [cFn_run (by rfl)]
    show ∃ m, fin (c_law_seen [some (encBx lo hi, .brw), some (encB (.row ts r c), .brw), none, none, none, none] S) = _
    rw [sn_seq]
    have e1 := law_rows_ok (ts := ts) (r := r) (b := c) S (by have := hb.1.1; omega)
    have e2 := rows_hold_ok (lo := lo) (hi := hi) S (by rw [bx.l0]; exact rows_ok (r := r) (c := c) hb.1) (by rw [bx.l1]; exact rows_ok (r := r) (c := c) hb.1)
    refine ⟨.own, ?_⟩
    rw [b_row]
    clear hb bx
    walk_at "go"
    rfl
  | any ls =>
    unfold m_law_seen
    rw [cFn_run (by rfl)]
    show ∃ m, fin (c_law_seen [some (encBx lo hi, .brw), some (encB (.any ls), .brw), none, none, none, none] S) = _
    rw [sn_seq]
    have e1 := lc_alw (ls := ls) (ρ := [some (encBx lo hi, .brw), some (encB (.any ls), .brw), none, none, none, none]) (S := S) bx hb.2.2 rfl (by simp)
    have e2 := in_bls (fun l => alw lo hi l true) ls
    have hs := hb.2.1
    refine ⟨.own, ?_⟩
    rw [b_any] at e1 ⊢
    clear hb bx
    walk_at "ev"
    rw [if_pos (size_ok (by omega)), e1]
    walk_at "ev"
    rw [e2]
    rfl
  | whn l ts r c =>
    unfold m_law_seen
    rw [cFn_run (by rfl)]
    show ∃ m, fin (c_law_seen [some (encBx lo hi, .brw), some (encB (.whn l ts r c), .brw), none, none, none, none] S) = _
    rw [sn_seq]
    have e0 := always_ok (kept := false) S bx hb.1
    have e1 := law_rows_ok (ts := ts) (r := r) (b := c) S (by have := hb.2.1.1; omega)
    have e2 := rows_hold_ok (lo := lo) (hi := hi) S (by rw [bx.l0]; exact rows_ok (r := r) (c := c) hb.2.1) (by rw [bx.l1]; exact rows_ok (r := r) (c := c) hb.2.1)
    refine ⟨.own, ?_⟩
    have hsn : seenH lo hi (.whn l ts r c) = (alw lo hi l false || rowsH lo hi (rowsOf ts r c)) := rfl
    rw [hsn, b_whn]
    clear hb bx hsn
    generalize alw lo hi l false = pb at *
    cases pb with
    | true => walk_at "go"; rfl
    | false => walk_at "go"; rfl
  | tab vs rows =>
    unfold m_law_seen
    rw [cFn_run (by rfl)]
    show ∃ m, fin (c_law_seen [some (encBx lo hi, .brw), some (encB (.tab vs rows), .brw), none, none, none, none] S) = _
    rw [sn_seq]
    obtain ⟨m2, e⟩ := snT_ok S hb bx
    refine ⟨m2, ?_⟩
    rw [b_tab] at e ⊢
    clear hb bx
    walk_at "ev"
    exact e
  | ele i es j =>
    unfold m_law_seen
    rw [cFn_run (by rfl)]
    show ∃ m, fin (c_law_seen [some (encBx lo hi, .brw), some (encB (.ele i es j), .brw), none, none, none, none] S) = _
    rw [sn_seq]
    obtain ⟨m2, e⟩ := snT_ok S hb bx
    refine ⟨m2, ?_⟩
    rw [b_ele] at e ⊢
    clear hb bx
    walk_at "ev"
    exact e
  | tim x y z =>
    unfold m_law_seen
    rw [cFn_run (by rfl)]
    show ∃ m, fin (c_law_seen [some (encBx lo hi, .brw), some (encB (.tim x y z), .brw), none, none, none, none] S) = _
    rw [sn_seq]
    obtain ⟨m2, e⟩ := snT_ok S hb bx
    refine ⟨m2, ?_⟩
    rw [b_tim] at e ⊢
    clear hb bx
    walk_at "ev"
    exact e
end K76
/-! the law (printed by mk76k.py) -/
namespace K76
open PySem PySem.Spec PyProof.Rows L2 Mp Lg
local macro_rules | `(tactic| walk_at "ev") => `(tactic| simp -implicitDefEqProofs only [q_lit, q_nil, q_cons, q_var, q_bin, q_tup, q_lst, q_box, q_neg, q_notT, q_andT, q_orT, q_notV, q_andV, q_orV, q_if, q_B, q_ix, q_call, q_bi, q_sl, q_oNone, q_oSome, q_dk, q_dt, q_yesT, q_get2,
  q_lc, q_iExp, q_iVar, q_iEnV, items_tup, items_lst, q_seq, q_skip, q_ret, q_retV, q_ifS, q_asg, q_drop, q_for, q_tName, q_tTup, q_tCons, q_tNil, q_fz, q_frzE, q_app, q_aug, q_setIx, q_wipe0, q_wipe, fin_rt, fin_nx,
  mut_non, mut_bl, mut_int, mut_str, mut_tup, mut_lst, mut_dk, mut_dt, mut_scr, mut_cel, sto_non, sto_bl, sto_int, sto_str, sto_tup, sto_scr, sto_cel, sto_own, sto_frz, md_non, md_bl, md_int, md_str, md_tup, md_lst, md_dk, md_dt, md_scr, md_cel,
  gAdd_int, gAddI_int, gSub_int, gLt_int, gLe_int, gGt_int, gGe_int, gInt_int, gInt_bl, gLen_tup, gLen_lst, gTuple_lst, gTuple_tup, gList_scr, gList_lst, gList_tup, gIx_tup, gIx_lst, gEq_int, gEq_bl, atI_0, atI_1, atI_2, atI_3, atI_4,
  bnd_some, Option.map_some, Option.bind_some, List.getElem?_cons_succ, List.getElem?_cons_zero, List.set_cons_succ, List.set_cons_zero, List.foldl_cons, List.foldl_nil, List.map_cons, List.map_nil, List.length_map, List.length_cons, List.length_nil, List.all_cons, List.all_nil, Bool.and_true, Bool.true_and, and_true, true_and, false_and, and_false,
  size_le, size_lt', Nat.reduceAdd, Nat.reduceLeDiff, Nat.zero_add, ne_eq, decide_eq_true_eq, Int.reduceEq, Int.reduceLT, Int.reduceLE, Int.reduceNeg, decide_true, decide_false, Bool.false_bne, Bool.true_bne, Bool.not_true, Bool.not_false, md_encT, md_encP, md_encL, md_encB, sto_encT, sto_encP, sto_encL, sto_encB, md_encG, md_encU, md_encC, sto_encG, sto_encU, sto_encC, q_chain, bx_0, bx_1, md_box, sto_box, reduceCtorEq, if_false, if_true, ite_true, ite_false, Bool.false_eq_true, kq_row_row, kq_row_any, kq_row_whn, kq_row_dif, kq_row_tab, kq_row_ele, kq_row_tim, kq_any_row, kq_any_any, kq_any_whn, kq_any_dif, kq_any_tab, kq_any_ele, kq_any_tim, kq_whn_row, kq_whn_any, kq_whn_whn, kq_whn_dif, kq_whn_tab, kq_whn_ele, kq_whn_tim, kq_dif_row, kq_dif_any, kq_dif_whn, kq_dif_dif, kq_dif_tab, kq_dif_ele, kq_dif_tim, kq_tab_row, kq_tab_any, kq_tab_whn, kq_tab_dif, kq_tab_tab, kq_tab_ele, kq_tab_tim, kq_ele_row, kq_ele_any, kq_ele_whn, kq_ele_dif, kq_ele_tab, kq_ele_ele, kq_ele_tim, kq_tim_row, kq_tim_any, kq_tim_whn, kq_tim_dif, kq_tim_tab, kq_tim_ele, kq_tim_tim])
local macro_rules | `(tactic| walk_at "go") => `(tactic| simp -implicitDefEqProofs only [q_lit, q_nil, q_cons, q_var, q_bin, q_tup, q_lst, q_box, q_neg, q_notT, q_andT, q_orT, q_notV, q_andV, q_orV, q_if, q_B, q_ix, q_call, q_bi, q_sl, q_oNone, q_oSome, q_dk, q_dt, q_yesT, q_get2,
  q_lc, q_iExp, q_iVar, q_iEnV, items_tup, items_lst, q_seq, q_skip, q_ret, q_retV, q_ifS, q_asg, q_drop, q_for, q_tName, q_tTup, q_tCons, q_tNil, q_fz, q_frzE, q_app, q_aug, q_setIx, q_wipe0, q_wipe, fin_rt, fin_nx,
  mut_non, mut_bl, mut_int, mut_str, mut_tup, mut_lst, mut_dk, mut_dt, mut_scr, mut_cel, sto_non, sto_bl, sto_int, sto_str, sto_tup, sto_scr, sto_cel, sto_own, sto_frz, md_non, md_bl, md_int, md_str, md_tup, md_lst, md_dk, md_dt, md_scr, md_cel,
  gAdd_int, gAddI_int, gSub_int, gLt_int, gLe_int, gGt_int, gGe_int, gInt_int, gInt_bl, gLen_tup, gLen_lst, gTuple_lst, gTuple_tup, gList_scr, gList_lst, gList_tup, gIx_tup, gIx_lst, gEq_int, gEq_bl, atI_0, atI_1, atI_2, atI_3, atI_4,
  bnd_some, Option.map_some, Option.bind_some, List.getElem?_cons_succ, List.getElem?_cons_zero, List.set_cons_succ, List.set_cons_zero, List.foldl_cons, List.foldl_nil, List.map_cons, List.map_nil, List.length_map, List.length_cons, List.length_nil, List.all_cons, List.all_nil, Bool.and_true, Bool.true_and, and_true, true_and, false_and, and_false,
  size_le, size_lt', Nat.reduceAdd, Nat.reduceLeDiff, Nat.zero_add, ne_eq, decide_eq_true_eq, Int.reduceEq, Int.reduceLT, Int.reduceLE, Int.reduceNeg, decide_true, decide_false, Bool.false_bne, Bool.true_bne, Bool.not_true, Bool.not_false, md_encT, md_encP, md_encL, md_encB, sto_encT, sto_encP, sto_encL, sto_encB, md_encG, md_encU, md_encC, sto_encG, sto_encU, sto_encC, q_chain, bx_0, bx_1, md_box, sto_box, reduceCtorEq, if_false, if_true, ite_true, ite_false, Bool.false_eq_true, kq_row_row, kq_row_any, kq_row_whn, kq_row_dif, kq_row_tab, kq_row_ele, kq_row_tim, kq_any_row, kq_any_any, kq_any_whn, kq_any_dif, kq_any_tab, kq_any_ele, kq_any_tim, kq_whn_row, kq_whn_any, kq_whn_whn, kq_whn_dif, kq_whn_tab, kq_whn_ele, kq_whn_tim, kq_dif_row, kq_dif_any, kq_dif_whn, kq_dif_dif, kq_dif_tab, kq_dif_ele, kq_dif_tim, kq_tab_row, kq_tab_any, kq_tab_whn, kq_tab_dif, kq_tab_tab, kq_tab_ele, kq_tab_tim, kq_ele_row, kq_ele_any, kq_ele_whn, kq_ele_dif, kq_ele_tab, kq_ele_ele, kq_ele_tim, kq_tim_row, kq_tim_any, kq_tim_whn, kq_tim_dif, kq_tim_tab, kq_tim_ele, kq_tim_tim, *])
def w1 : CS := (cAsg (tName 1) (cCall m_law_tape (cCons (cVar 0) cNil)))
def w2 : CS := (cAsg (tName 2) (cIx (cCall m_law_world (cCons (cVar 1) (cCons (cLit (.int 4)) (cCons (cLit (.int 4)) (cCons (cLit (.int 0)) cNil))))) (cLit (.int 0))))
def w3 : CS := (cIfS (cB (cBin (gEq false) (cCall m_law_draw (cCons (cVar 1) (cCons (cLit (.int 2)) cNil))) (cLit (.int 0)))) (cFz [2] (cAsg (tName 2) (cLc (tTup 3 (tCons (tName 9) (tCons (tName 10) (tCons (tName 11) tNil)))) (iVar 2) tYesT (cTup (cCons (cVar 9) (cCons (cVar 10) (cCons (cBin gAdd (cVar 10) (cBin gMul (cBin Mp.gSub (cVar 11) (cVar 10)) (cCall m_law_draw (cCons (cVar 1) (cCons (cLit (.int 2)) cNil))))) cNil)))) [9, 10, 11]))) (cSkip))
def w4 : CS := (cAsg (tName 3) (cCall m_law_body (cCons (cVar 1) (cCons (cBi gLen (cCons (cVar 2) cNil)) cNil))))
def w5 : CS := (cIfS (cB (cBin (gEq false) (cCall m_law_draw (cCons (cVar 1) (cCons (cLit (.int 8)) cNil))) (cLit (.int 0)))) (cSeq (cAsg (tName 2) (cCall m_law_big_unknowns (cCons (cVar 1) (cCons (cBin gAdd (cLit (.int 20)) (cCall m_law_draw (cCons (cVar 1) (cCons (cLit (.int 41)) cNil)))) (cCons (cLit (.int 4)) cNil)))))
  (cAsg (tName 3) (cCall m_law_big_body (cCons (cVar 1) (cCons (cVar 2) cNil))))) (cSkip))
def w6 : CS := (cFz [2] (cAsg (tName 4) (cTup (cCons (cBi gTuple (cCons (cLc (tTup 3 (tCons (tName 9) (tCons (tName 10) (tCons (tName 11) tNil)))) (iVar 2) tYesT (cVar 10) [9, 10, 11]) cNil)) (cCons (cBi gTuple (cCons (cLc (tTup 3 (tCons (tName 9) (tCons (tName 10) (tCons (tName 11) tNil)))) (iVar 2) tYesT (cVar 11) [9, 10, 11]) cNil)) cNil)))))
def w7 : CS := (cFor (tName 5) (iExp (cLst (cCons (cVar 3) (cCons (cCall m_law_near (cCons (cVar 1) (cCons (cVar 4) (cCons (cVar 3) cNil)))) cNil)))) (cSeq (cAsg (tName 6) (cCall m_surely_holds (cCons (cVar 5) (cCons (cVar 4) cNil))))
  (cSeq (cIfS (cNotT (cB (cCall m_law_same (cCons (cVar 6) (cCons (cCall m_law_seen (cCons (cVar 4) (cCons (cVar 5) cNil))) cNil))))) (cRet (cLit (.bl false))) (cSkip))
  (cFor (tName 7) (iRange1 (cLit (.int 5))) (cSeq (cFz [2] (cAsg (tName 8) (cBi gTuple (cCons (cLc (tTup 3 (tCons (tName 9) (tCons (tName 10) (tCons (tName 11) tNil)))) (iVar 2) tYesT (cBin gAdd (cVar 10) (cCall m_law_draw (cCons (cVar 1) (cCons (cBin gAdd (cBin Mp.gSub (cVar 11) (cVar 10)) (cLit (.int 1))) cNil)))) [9, 10, 11]) cNil))))
  (cIfS ((cAndT (cB (cVar 6)) (cNotT (cB (cCall m_law_holds (cCons (cVar 5) (cCons (cVar 8) cNil))))))) (cRet (cLit (.bl false))) (cSkip)))))))
def w8 : CS := (cRet (cLit (.bl true)))

theorem law_seq : c_law = (cSeq w1 (cSeq w2 (cSeq w3 (cSeq w4 (cSeq w5 (cSeq w6 (cSeq w7 w8))))))) := rfl
theorem lc_enc {A B : Type} {t : CG} {c : CT} {f : CE} {ρ : Mp.Env} {I : Store → Prop} {R : A → B → Prop} {ex : A → W} {ey : B → W} : ∀ {xs : List A} {S : Store}, I S →
    (∀ x ∈ xs, ∀ S, I S → ∃ ρ1 y m S2, t (ex x, .frz) ρ = some ρ1 ∧ c ρ1 S = some (true, S) ∧ f ρ1 S = some ((ey y, m), S2) ∧ sto (ey y, m) = true ∧ I S2 ∧ R x y) → ∃ ys S2, lcL t c f ρ (xs.map ex) S = some (ys.map ey, S2) ∧ I S2 ∧ Paired R xs ys
  | [], S, hI, _ => ⟨[], S, rfl, hI, .nil⟩
  | x :: xs, S, hI, h => by
    obtain ⟨ρ1, y, m, S2, h1, h2, h3, h4, h5, h6⟩ := h x List.mem_cons_self S hI
    obtain ⟨ys, S3, h7, h8, h9⟩ := lc_enc h5 fun y hy => h y (List.mem_cons_of_mem _ hy)
    refine ⟨y :: ys, S3, ?_, h8, .cons h6 h9⟩
    rw [List.map_cons, lc_cons, h1]
    simp only [h2, bnd_some, if_true, h3, h4]
    rw [h7]; rfl
def UsOk (us : List Un) : Prop := 1 ≤ us.length ∧ us.length ≤ 60 ∧ ∀ u ∈ us, u.lo ≤ u.hi ∧ -2000 ≤ u.lo ∧ u.hi ≤ 2000
theorem pair_all {A B : Type} {R : A → B → Prop} {P : B → Prop} {xs : List A} {ys : List B} (h : Paired R xs ys) (f : ∀ x ∈ xs, ∀ y, R x y → P y) : ys.length = xs.length ∧ ∀ y ∈ ys, P y := by
  induction h with
  | nil => exact ⟨rfl, fun y hy => by cases hy⟩
  | @cons x y xs ys r t ih =>
    obtain ⟨h1, h2⟩ := ih fun x hx => f x (List.mem_cons_of_mem _ hx)
    refine ⟨by simp [h1], fun z hz => ?_⟩
    rcases List.mem_cons.mp hz with rfl | hz
    · exact f _ List.mem_cons_self _ r
    · exact h2 z hz
theorem pair_at {A B : Type} {R : A → B → Prop} {xs : List A} {ys : List B} (h : Paired R xs ys) (i : Nat) (hi : i < xs.length) (hj : i < ys.length) : R xs[i] ys[i] := by
  induction h generalizing i with
  | nil => simp at hi
  | cons r t ih =>
    cases i with
    | zero => exact r
    | succ i => exact ih i _ _
theorem same_ok (x y : Bool) (S : Store) : m_law_same [.bl x, .bl y] S = some ((.bl (x == y), .own), S) := by
  unfold m_law_same
  rw [cFn_run (by rfl)]
  show fin (c_law_same [some (.bl x, .brw), some (.bl y, .brw)] S) = _
  unfold c_law_same
  have e : gIsi S [.bl x, .ty "bool"] = some (.bl true) := rfl
  walk_at "go"
theorem box_ok {us : List Un} (h : UsOk us) : BoxOk us.length (us.map (·.lo)) (us.map (·.hi)) := by
  have key : ∀ (f : Un → Int) (v : Int), 0 ≤ v → (hv : v.toNat < us.length) → at' (us.map f) v = f us[v.toNat] := fun f v h0 hv => by
    unfold at'
    rw [List.getD_eq_getElem?_getD, List.getElem?_map, List.getElem?_eq_getElem hv]; rfl
  refine ⟨List.length_map _, List.length_map _, fun v h0 h1 => ?_, fun x hx => ?_, fun x hx => ?_⟩
  · have hv : v.toNat < us.length := by omega
    rw [key _ v h0 hv, key _ v h0 hv]
    exact (h.2.2 _ (List.getElem_mem hv)).1
  · obtain ⟨u, hu, rfl⟩ := List.mem_map.mp hx
    have := h.2.2 u hu
    omega
  · obtain ⟨u, hu, rfl⟩ := List.mem_map.mp hx
    have := h.2.2 u hu
    omega
theorem inbx_ok {us : List Un} {p : List Int} (h : Paired (fun (u : Un) (y : Int) => u.lo ≤ y ∧ y ≤ u.hi) us p) : InBx us.length (us.map (·.lo)) (us.map (·.hi)) p := by
  have hl := (pair_all (P := fun _ => True) h fun _ _ _ _ => trivial).1
  refine ⟨hl, fun v h0 h1 => ?_⟩
  have hv : v.toNat < us.length := by omega
  have hp : v.toNat < p.length := by omega
  have := pair_at h v.toNat hv hp
  unfold at'
  rw [List.getD_eq_getElem?_getD, List.getElem?_map, List.getElem?_eq_getElem hv, List.getD_eq_getElem?_getD, List.getElem?_eq_getElem hp, List.getD_eq_getElem?_getD, List.getElem?_map, List.getElem?_eq_getElem hv]
  exact this
theorem near_ok {n : Nat} {b : Bd} {lo hi : List Int} {S : Store} (tp : TapeAt 0 S) (hb : BOk n b) (bx : BoxOk n lo hi) : ∃ b2 m S2, m_law_near [.cel 0, encBx lo hi, encB b] S = some ((encB b2, m), S2) ∧ BOk n b2 ∧ TapeAt 0 S2 := by
  unfold m_law_near
  rw [cFn_run (by rfl)]
  show ∃ b2 m S2, fin (c_law_near [some (.cel 0, .brw), some (encBx lo hi, .brw), some (encB b, .brw), none] S) = _ ∧ _
  unfold c_law_near
  obtain ⟨d, S2, e, hd0, hd1, tp2, sb2⟩ := draw_ok (many := 3) tp (by decide) (by decide)
  have e : m_law_draw [.cel 0, .int 3] S = some ((.int d, .frz), S2) := e
  cases b with
  | row ts r c =>
    have e2 := most_ok (lo := lo) (hi := hi) (ts := ts) S (by rw [bx.l0]; exact hb.1) (by rw [bx.l1]; exact hb.1)
    refine ⟨.row ts .le (mostS lo hi ts + d - 1), .own, S2, ?_, ⟨hb.1, by decide⟩, tp2⟩
    rw [b_row, b_row]
    clear hb bx tp tp2 sb2 hd0 hd1
    walk_at "go"
    rfl
  | whn l ts r c =>
    have e2 := most_ok (lo := lo) (hi := hi) (ts := ts) S (by rw [bx.l0]; exact hb.2.1) (by rw [bx.l1]; exact hb.2.1)
    refine ⟨.whn l ts .le (mostS lo hi ts + d - 1), .own, S2, ?_, ⟨hb.1, hb.2.1, by decide⟩, tp2⟩
    rw [b_whn, b_whn]
    clear hb bx tp tp2 sb2 hd0 hd1
    walk_at "go"
    rfl
  | any ls => exact ⟨.any ls, .brw, S, by rw [b_any]; walk_at "ev", hb, tp⟩
  | dif vs => exact ⟨.dif vs, .brw, S, by rw [b_dif]; walk_at "ev", hb, tp⟩
  | tab vs rows => exact ⟨.tab vs rows, .brw, S, by rw [b_tab]; walk_at "ev", hb, tp⟩
  | ele i es j => exact ⟨.ele i es j, .brw, S, by rw [b_ele]; walk_at "ev", hb, tp⟩
  | tim x y z => exact ⟨.tim x y z, .brw, S, by rw [b_tim]; walk_at "ev", hb, tp⟩
end K76
/-! the law, statement by statement (printed by mk76l.py) -/
namespace K76
open PySem PySem.Spec PyProof.Rows L2 Mp Lg
local macro_rules | `(tactic| walk_at "ev") => `(tactic| simp -implicitDefEqProofs only [q_lit, q_nil, q_cons, q_var, q_bin, q_tup, q_lst, q_box, q_neg, q_notT, q_andT, q_orT, q_notV, q_andV, q_orV, q_if, q_B, q_ix, q_call, q_bi, q_sl, q_oNone, q_oSome, q_dk, q_dt, q_yesT, q_get2,
  q_lc, q_iExp, q_iVar, q_iEnV, items_tup, items_lst, q_seq, q_skip, q_ret, q_retV, q_ifS, q_asg, q_drop, q_for, q_tName, q_tTup, q_tCons, q_tNil, q_fz, q_frzE, q_app, q_aug, q_setIx, q_wipe0, q_wipe, fin_rt, fin_nx,
  mut_non, mut_bl, mut_int, mut_str, mut_tup, mut_lst, mut_dk, mut_dt, mut_scr, mut_cel, sto_non, sto_bl, sto_int, sto_str, sto_tup, sto_scr, sto_cel, sto_own, sto_frz, md_non, md_bl, md_int, md_str, md_tup, md_lst, md_dk, md_dt, md_scr, md_cel,
  gAdd_int, gAddI_int, gSub_int, gLt_int, gLe_int, gGt_int, gGe_int, gInt_int, gInt_bl, gLen_tup, gLen_lst, gTuple_lst, gTuple_tup, gList_scr, gList_lst, gList_tup, gIx_tup, gIx_lst, gEq_int, gEq_bl, atI_0, atI_1, atI_2, atI_3, atI_4,
  bnd_some, Option.map_some, Option.bind_some, List.getElem?_cons_succ, List.getElem?_cons_zero, List.set_cons_succ, List.set_cons_zero, List.foldl_cons, List.foldl_nil, List.map_cons, List.map_nil, List.length_map, List.length_cons, List.length_nil, List.all_cons, List.all_nil, Bool.and_true, Bool.true_and, and_true, true_and, false_and, and_false,
  size_le, size_lt', Nat.reduceAdd, Nat.reduceLeDiff, Nat.zero_add, ne_eq, decide_eq_true_eq, Int.reduceEq, Int.reduceLT, Int.reduceLE, Int.reduceNeg, decide_true, decide_false, Bool.false_bne, Bool.true_bne, Bool.not_true, Bool.not_false, md_encT, md_encP, md_encL, md_encB, sto_encT, sto_encP, sto_encL, sto_encB, md_encG, md_encU, md_encC, sto_encG, sto_encU, sto_encC, q_chain, bx_0, bx_1, md_box, sto_box, reduceCtorEq, if_false, if_true, ite_true, ite_false, Bool.false_eq_true, kq_row_row, kq_row_any, kq_row_whn, kq_row_dif, kq_row_tab, kq_row_ele, kq_row_tim, kq_any_row, kq_any_any, kq_any_whn, kq_any_dif, kq_any_tab, kq_any_ele, kq_any_tim, kq_whn_row, kq_whn_any, kq_whn_whn, kq_whn_dif, kq_whn_tab, kq_whn_ele, kq_whn_tim, kq_dif_row, kq_dif_any, kq_dif_whn, kq_dif_dif, kq_dif_tab, kq_dif_ele, kq_dif_tim, kq_tab_row, kq_tab_any, kq_tab_whn, kq_tab_dif, kq_tab_tab, kq_tab_ele, kq_tab_tim, kq_ele_row, kq_ele_any, kq_ele_whn, kq_ele_dif, kq_ele_tab, kq_ele_ele, kq_ele_tim, kq_tim_row, kq_tim_any, kq_tim_whn, kq_tim_dif, kq_tim_tab, kq_tim_ele, kq_tim_tim])
local macro_rules | `(tactic| walk_at "go") => `(tactic| simp -implicitDefEqProofs only [q_lit, q_nil, q_cons, q_var, q_bin, q_tup, q_lst, q_box, q_neg, q_notT, q_andT, q_orT, q_notV, q_andV, q_orV, q_if, q_B, q_ix, q_call, q_bi, q_sl, q_oNone, q_oSome, q_dk, q_dt, q_yesT, q_get2,
  q_lc, q_iExp, q_iVar, q_iEnV, items_tup, items_lst, q_seq, q_skip, q_ret, q_retV, q_ifS, q_asg, q_drop, q_for, q_tName, q_tTup, q_tCons, q_tNil, q_fz, q_frzE, q_app, q_aug, q_setIx, q_wipe0, q_wipe, fin_rt, fin_nx,
  mut_non, mut_bl, mut_int, mut_str, mut_tup, mut_lst, mut_dk, mut_dt, mut_scr, mut_cel, sto_non, sto_bl, sto_int, sto_str, sto_tup, sto_scr, sto_cel, sto_own, sto_frz, md_non, md_bl, md_int, md_str, md_tup, md_lst, md_dk, md_dt, md_scr, md_cel,
  gAdd_int, gAddI_int, gSub_int, gLt_int, gLe_int, gGt_int, gGe_int, gInt_int, gInt_bl, gLen_tup, gLen_lst, gTuple_lst, gTuple_tup, gList_scr, gList_lst, gList_tup, gIx_tup, gIx_lst, gEq_int, gEq_bl, atI_0, atI_1, atI_2, atI_3, atI_4,
  bnd_some, Option.map_some, Option.bind_some, List.getElem?_cons_succ, List.getElem?_cons_zero, List.set_cons_succ, List.set_cons_zero, List.foldl_cons, List.foldl_nil, List.map_cons, List.map_nil, List.length_map, List.length_cons, List.length_nil, List.all_cons, List.all_nil, Bool.and_true, Bool.true_and, and_true, true_and, false_and, and_false,
  size_le, size_lt', Nat.reduceAdd, Nat.reduceLeDiff, Nat.zero_add, ne_eq, decide_eq_true_eq, Int.reduceEq, Int.reduceLT, Int.reduceLE, Int.reduceNeg, decide_true, decide_false, Bool.false_bne, Bool.true_bne, Bool.not_true, Bool.not_false, md_encT, md_encP, md_encL, md_encB, sto_encT, sto_encP, sto_encL, sto_encB, md_encG, md_encU, md_encC, sto_encG, sto_encU, sto_encC, q_chain, bx_0, bx_1, md_box, sto_box, reduceCtorEq, if_false, if_true, ite_true, ite_false, Bool.false_eq_true, kq_row_row, kq_row_any, kq_row_whn, kq_row_dif, kq_row_tab, kq_row_ele, kq_row_tim, kq_any_row, kq_any_any, kq_any_whn, kq_any_dif, kq_any_tab, kq_any_ele, kq_any_tim, kq_whn_row, kq_whn_any, kq_whn_whn, kq_whn_dif, kq_whn_tab, kq_whn_ele, kq_whn_tim, kq_dif_row, kq_dif_any, kq_dif_whn, kq_dif_dif, kq_dif_tab, kq_dif_ele, kq_dif_tim, kq_tab_row, kq_tab_any, kq_tab_whn, kq_tab_dif, kq_tab_tab, kq_tab_ele, kq_tab_tim, kq_ele_row, kq_ele_any, kq_ele_whn, kq_ele_dif, kq_ele_tab, kq_ele_ele, kq_ele_tim, kq_tim_row, kq_tim_any, kq_tim_whn, kq_tim_dif, kq_tim_tab, kq_tim_ele, kq_tim_tim, *])

def lp : CS := (cSeq (cAsg (tName 6) (cCall m_surely_holds (cCons (cVar 5) (cCons (cVar 4) cNil))))
  (cSeq (cIfS (cNotT (cB (cCall m_law_same (cCons (cVar 6) (cCons (cCall m_law_seen (cCons (cVar 4) (cCons (cVar 5) cNil))) cNil))))) (cRet (cLit (.bl false))) (cSkip))
  (cFor (tName 7) (iRange1 (cLit (.int 5))) (cSeq (cFz [2] (cAsg (tName 8) (cBi gTuple (cCons (cLc (tTup 3 (tCons (tName 9) (tCons (tName 10) (tCons (tName 11) tNil)))) (iVar 2) tYesT (cBin gAdd (cVar 10) (cCall m_law_draw (cCons (cVar 1) (cCons (cBin gAdd (cBin Mp.gSub (cVar 11) (cVar 10)) (cLit (.int 1))) cNil)))) [9, 10, 11]) cNil))))
  (cIfS ((cAndT (cB (cVar 6)) (cNotT (cB (cCall m_law_holds (cCons (cVar 5) (cCons (cVar 8) cNil))))))) (cRet (cLit (.bl false))) (cSkip))))))
def lpi : CS := (cSeq (cFz [2] (cAsg (tName 8) (cBi gTuple (cCons (cLc (tTup 3 (tCons (tName 9) (tCons (tName 10) (tCons (tName 11) tNil)))) (iVar 2) tYesT (cBin gAdd (cVar 10) (cCall m_law_draw (cCons (cVar 1) (cCons (cBin gAdd (cBin Mp.gSub (cVar 11) (cVar 10)) (cLit (.int 1))) cNil)))) [9, 10, 11]) cNil))))
  (cIfS ((cAndT (cB (cVar 6)) (cNotT (cB (cCall m_law_holds (cCons (cVar 5) (cCons (cVar 8) cNil))))))) (cRet (cLit (.bl false))) (cSkip)))
theorem draw2 {n : Nat} {S : Store} {many : Int} (t : TapeAt n S) (h0 : 0 < many) (h1 : many < 1073741824) : ∃ d S', m_law_draw [.cel n, .int many] S = some ((.int d, .frz), S') ∧ 0 ≤ d ∧ d < many ∧ TapeAt n S' := by
  obtain ⟨d, S2, e, hd0, hd1, tp2, sb2⟩ := draw_ok (many := many) t h0 h1
  exact ⟨d, S2, e, hd0, hd1, tp2⟩
theorem w1_ok (ns : List Int) : ∃ S1, w1 [some (.scr ns, .brw), none, none, none, none, none, none, none, none, none, none, none] [] = some (.nx [some (.scr ns, .brw), some (.cel 0, .frz), none, none, none, none, none, none, none, none, none, none] S1) ∧ TapeAt 0 S1 := by
  obtain ⟨S1, e, tp, _⟩ := tape_ok ns []
  have e : m_law_tape [.scr ns] [] = some ((.cel 0, .own), S1) := e
  refine ⟨S1, ?_, tp⟩
  unfold w1
  walk_at "go"
theorem w2_ok {ns : List Int} {S : Store} (tp : TapeAt 0 S) : ∃ us S2, w2 [some (.scr ns, .brw), some (.cel 0, .frz), none, none, none, none, none, none, none, none, none, none] S = some (.nx [some (.scr ns, .brw), some (.cel 0, .frz), some (.lst (us.map encU), .frz), none, none, none, none, none, none, none, none, none] S2) ∧ UsOk us ∧ TapeAt 0 S2 := by
  obtain ⟨us, cs, gl, S2, e, h1, h2, h3, _, _, _, _, _, _, _, tp2, _⟩ := world_ok (n := 0) (most := 4) (width := 4) (bodies := 0) tp (by decide) (by decide) (by decide)
  have e : m_law_world [.cel 0, .int 4, .int 4, .int 0] S = some ((.lst [.lst (us.map encU), .lst (cs.map encC), encG gl], .own), S2) := e
  refine ⟨us, S2, ?_, ⟨h1, by omega, fun u hu => by have := h3 u hu; unfold UOk at this; omega⟩, tp2⟩
  unfold w2
  walk_at "go"
theorem w3_ok {ns : List Int} {us : List Un} {S : Store} (tp : TapeAt 0 S) (hu : UsOk us) : ∃ us2 mu S2, w3 [some (.scr ns, .brw), some (.cel 0, .frz), some (.lst (us.map encU), .frz), none, none, none, none, none, none, none, none, none] S = some (.nx [some (.scr ns, .brw), some (.cel 0, .frz), some (.lst (us2.map encU), mu), none, none, none, none, none, none, none, none, none] S2) ∧ UsOk us2 ∧ TapeAt 0 S2 ∧ (mu = .own ∨ mu = .frz) := by
  obtain ⟨d, S2, e, hd0, hd1, tp2⟩ := draw2 (many := 2) tp (by decide) (by decide)
  unfold w3
  by_cases hd : d = 0
  · subst hd
    obtain ⟨ys, S3, e3, tp3, hp⟩ := lc_enc (t := tTup 3 (tCons (tName 9) (tCons (tName 10) (tCons (tName 11) tNil)))) (c := tYesT) (f := cTup (cCons (cVar 9) (cCons (cVar 10) (cCons (cBin gAdd (cVar 10) (cBin gMul (cBin Mp.gSub (cVar 11) (cVar 10)) (cCall m_law_draw (cCons (cVar 1) (cCons (cLit (.int 2)) cNil))))) cNil))))
      (ρ := [some (.scr ns, .brw), some (.cel 0, .frz), some (.lst (us.map encU), .frz), none, none, none, none, none, none, none, none, none]) (I := TapeAt 0) (R := fun (u v : Un) => u.lo ≤ u.hi → v.lo = u.lo ∧ v.lo ≤ v.hi ∧ v.hi ≤ u.hi) (ex := encU) (ey := encU) (xs := us) tp2 (fun u hu S tp => by
        obtain ⟨d, S2, e, hd0, hd1, tp2⟩ := draw2 (many := 2) tp (by decide) (by decide)
        have e2 : gMul (.int (u.hi - u.lo)) (.int d) = some (.int ((u.hi - u.lo) * d)) := gMul_int (.inr (by omega))
        refine ⟨[some (.scr ns, .brw), some (.cel 0, .frz), some (.lst (us.map encU), .frz), none, none, none, none, none, none, some (.str u.nm, .frz), some (.int u.lo, .frz), some (.int u.hi, .frz)], ⟨u.nm, u.lo, u.lo + (u.hi - u.lo) * d⟩, .own, S2, by unfold encU; walk_at "ev", rfl, ?_, rfl, tp2, fun h => ?_⟩
        · clear hd0 hd1 tp tp2 hu
          walk_at "go"
          rfl
        · rcases (show d = 0 ∨ d = 1 by omega) with rfl | rfl
          · simp; omega
          · simp; omega)
    obtain ⟨hl, hall⟩ := pair_all (P := fun v : Un => v.lo ≤ v.hi ∧ -2000 ≤ v.lo ∧ v.hi ≤ 2000) hp fun u hm v r => by
      have := hu.2.2 u hm
      have := r this.1
      omega
    refine ⟨ys, .own, S3, ?_, ⟨by rw [hl]; exact hu.1, by rw [hl]; exact hu.2.1, hall⟩, tp3, .inl rfl⟩
    have hsz := hu.2.1
    clear hp hl hall tp3 tp2 hd0 hd1 tp
    walk_at "go"
    rw [if_pos (size_ok (by omega))]
    walk_at "go"
  · refine ⟨us, .frz, S2, ?_, hu, tp2, .inr rfl⟩
    have hd := decide_eq_false hd
    clear hd0 hd1 tp tp2 hu
    walk_at "go"
theorem w4_ok {ns : List Int} {us : List Un} {mu : Md} {S : Store} (tp : TapeAt 0 S) (hu : UsOk us) (hm : mu = .own ∨ mu = .frz) : ∃ b S2, w4 [some (.scr ns, .brw), some (.cel 0, .frz), some (.lst (us.map encU), mu), none, none, none, none, none, none, none, none, none] S = some (.nx [some (.scr ns, .brw), some (.cel 0, .frz), some (.lst (us.map encU), mu), some (encB b, .frz), none, none, none, none, none, none, none, none] S2) ∧ BOk us.length b ∧ TapeAt 0 S2 := by
  obtain ⟨b, S2, e, hb, tp2, _⟩ := Lg.body_ok (n := 0) (many := us.length) tp hu.1 hu.2.1
  rw [← body_eq] at e
  refine ⟨b, S2, ?_, hb, tp2⟩
  unfold w4
  clear tp tp2 hb hu
  rcases hm with rfl | rfl <;> walk_at "go"
theorem w5_ok {ns : List Int} {us : List Un} {b : Bd} {mu : Md} {S : Store} (tp : TapeAt 0 S) (hu : UsOk us) (hb : BOk us.length b) (hm : mu = .own ∨ mu = .frz) : ∃ us2 mu2 b2 S2, w5 [some (.scr ns, .brw), some (.cel 0, .frz), some (.lst (us.map encU), mu), some (encB b, .frz), none, none, none, none, none, none, none, none] S = some (.nx [some (.scr ns, .brw), some (.cel 0, .frz), some (.lst (us2.map encU), mu2), some (encB b2, .frz), none, none, none, none, none, none, none, none] S2) ∧ UsOk us2 ∧ BOk us2.length b2 ∧ TapeAt 0 S2 ∧ (mu2 = .own ∨ mu2 = .frz) := by
  obtain ⟨d, S2, e, hd0, hd1, tp2⟩ := draw2 (many := 8) tp (by decide) (by decide)
  unfold w5
  by_cases hd : d = 0
  · subst hd
    obtain ⟨k, S3, e3, hk0, hk1, tp3⟩ := draw2 (many := 41) tp2 (by decide) (by decide)
    obtain ⟨us2, S4, e4, hbig, tp4, _⟩ := bigu_ok (n := 0) (many := (20 + k).toNat) (frees := 4) tp3 (by omega) (by omega) (by decide)
    rw [← bigu_eq, show (((20 + k).toNat : Nat) : Int) = 20 + k by omega] at e4
    have hl : us2.length = (20 + k).toNat := hbig.1
    obtain ⟨b2, S5, e5, hb2, tp5, _⟩ := bbody_ok (n := 0) (us := us2) tp4 (by omega) (by omega)
    rw [← bbody_eq] at e5
    refine ⟨us2, .own, b2, S5, ?_, ⟨by omega, by omega, fun u hu => by have := hbig.2.1 u hu; unfold UbOk at this; omega⟩, hb2, tp5, .inl rfl⟩
    clear hbig hl hb2 hb hu tp tp2 tp3 tp4 tp5 hk0 hk1 hd0 hd1
    rcases hm with rfl | rfl <;> walk_at "go"
  · refine ⟨us, mu, b, S2, ?_, hu, hb, tp2, hm⟩
    have hd := decide_eq_false hd
    clear hd0 hd1 tp tp2 hu hb
    walk_at "go"
theorem lc_lows {us : List Un} {ρ : Mp.Env} {S : Store} (hl : 11 < ρ.length) : lcL (tTup 3 (tCons (tName 9) (tCons (tName 10) (tCons (tName 11) tNil)))) tYesT (cVar 10) ρ (us.map encU) S = some ((us.map (·.lo)).map W.int, S) := by
  rw [lc_map (g := fun u : Un => W.int u.lo) (enc := encU) fun u hu => ⟨((ρ.set 9 (some (.str u.nm, .frz))).set 10 (some (.int u.lo, .frz))).set 11 (some (.int u.hi, .frz)), .frz, rfl, rfl, by
    rw [q_var, List.getElem?_set_ne (by decide), List.getElem?_set_self (by rw [List.length_set]; omega)]; rfl, rfl⟩, List.map_map]
  rfl
theorem lc_highs {us : List Un} {ρ : Mp.Env} {S : Store} (hl : 11 < ρ.length) : lcL (tTup 3 (tCons (tName 9) (tCons (tName 10) (tCons (tName 11) tNil)))) tYesT (cVar 11) ρ (us.map encU) S = some ((us.map (·.hi)).map W.int, S) := by
  rw [lc_map (g := fun u : Un => W.int u.hi) (enc := encU) fun u hu => ⟨((ρ.set 9 (some (.str u.nm, .frz))).set 10 (some (.int u.lo, .frz))).set 11 (some (.int u.hi, .frz)), .frz, rfl, rfl, by
    rw [q_var, List.getElem?_set_self (by rw [List.length_set, List.length_set]; omega)]; rfl, rfl⟩, List.map_map]
  rfl
theorem w6_ok {ns : List Int} {us : List Un} {b : Bd} {mu : Md} (S : Store) (hu : UsOk us) (hm : mu = .own ∨ mu = .frz) : w6 [some (.scr ns, .brw), some (.cel 0, .frz), some (.lst (us.map encU), mu), some (encB b, .frz), none, none, none, none, none, none, none, none] S = some (.nx [some (.scr ns, .brw), some (.cel 0, .frz), some (.lst (us.map encU), .frz), some (encB b, .frz), some (encBx (us.map (·.lo)) (us.map (·.hi)), .frz), none, none, none, none, none, none, none] S) := by
  unfold w6
  have hsz := hu.2.1
  have e1 := lc_lows (us := us) (ρ := [some (.scr ns, .brw), some (.cel 0, .frz), some (.lst (us.map encU), .frz), some (encB b, .frz), none, none, none, none, none, none, none, none]) (S := S) (by simp)
  have e2 := lc_highs (us := us) (ρ := [some (.scr ns, .brw), some (.cel 0, .frz), some (.lst (us.map encU), .frz), some (encB b, .frz), none, none, none, none, none, none, none, none]) (S := S) (by simp)
  clear hu
  rcases hm with rfl | rfl
  · walk_at "ev"
    rw [if_pos (size_ok (by omega)), e1]
    walk_at "ev"
    rw [if_pos (size_ok (by omega)), e2]
    walk_at "ev"
    rfl
  · walk_at "ev"
    rw [if_pos (size_ok (by omega)), e1]
    walk_at "ev"
    rw [if_pos (size_ok (by omega)), e2]
    walk_at "ev"
    rfl
theorem turn_ok {ns : List Int} {us : List Un} {b bd : Bd} {x6 x7 x8 x9 x10 x11 : Option (W × Md)} {S : Store} (tp : TapeAt 0 S) (hu : UsOk us) (hb : BOk us.length b) : ∃ y6 y7 y8 y9 y10 y11 S2, lp [some (.scr ns, .brw), some (.cel 0, .frz), some (.lst (us.map encU), .frz), some (encB bd, .frz), some (encBx (us.map (·.lo)) (us.map (·.hi)), .frz), some (encB b, .frz), x6, x7, x8, x9, x10, x11] S = some (.nx [some (.scr ns, .brw), some (.cel 0, .frz), some (.lst (us.map encU), .frz), some (encB bd, .frz), some (encBx (us.map (·.lo)) (us.map (·.hi)), .frz), some (encB b, .frz), y6, y7, y8, y9, y10, y11] S2) ∧ TapeAt 0 S2 := by
  have bx := box_ok hu
  obtain ⟨m1, e1⟩ := surely_ok S hb bx
  obtain ⟨m2, e2⟩ := seen_ok S hb bx
  have e3 := same_ok (seenH (us.map (·.lo)) (us.map (·.hi)) b) (seenH (us.map (·.lo)) (us.map (·.hi)) b) S
  rw [beq_self_eq_true] at e3
  obtain ⟨ρ2, S2, e4, tp2, y7, y8, y9, y10, y11, rfl⟩ := for_inv (t := (tName 7)) (b := lpi) (ws := rangeW 0 (5 : Int).toNat) (fun _ ρ S => TapeAt 0 S ∧ ∃ x7 x8 x9 x10 x11, ρ = [some (.scr ns, .brw), some (.cel 0, .frz), some (.lst (us.map encU), .frz), some (encB bd, .frz), some (encBx (us.map (·.lo)) (us.map (·.hi)), .frz), some (encB b, .frz), some (.bl (seenH (us.map (·.lo)) (us.map (·.hi)) b), .frz), x7, x8, x9, x10, x11]) (fun i w ρ S hw hI => by
    obtain ⟨tp, x7, x8, x9, x10, x11, rfl⟩ := hI
    obtain ⟨j, rfl⟩ : ∃ j : Int, w = .int j := by
      rw [rangeW_get] at hw
      split at hw
      · cases hw; exact ⟨_, rfl⟩
      · cases hw
    obtain ⟨p, S2, e1, tp2, hp⟩ := lc_enc (t := tTup 3 (tCons (tName 9) (tCons (tName 10) (tCons (tName 11) tNil)))) (c := tYesT) (f := cBin gAdd (cVar 10) (cCall m_law_draw (cCons (cVar 1) (cCons (cBin gAdd (cBin Mp.gSub (cVar 11) (cVar 10)) (cLit (.int 1))) cNil))))
      (ρ := [some (.scr ns, .brw), some (.cel 0, .frz), some (.lst (us.map encU), .frz), some (encB bd, .frz), some (encBx (us.map (·.lo)) (us.map (·.hi)), .frz), some (encB b, .frz), some (.bl (seenH (us.map (·.lo)) (us.map (·.hi)) b), .frz), some (.int j, .frz), x8, none, none, none]) (I := TapeAt 0) (R := fun (u : Un) (y : Int) => u.lo ≤ y ∧ y ≤ u.hi) (ex := encU) (ey := W.int) (xs := us) tp (fun u hm S tp => by
        have hh := hu.2.2 u hm
        obtain ⟨d, S2, e, hd0, hd1, tp2⟩ := draw2 (many := u.hi - u.lo + 1) tp (by omega) (by omega)
        refine ⟨[some (.scr ns, .brw), some (.cel 0, .frz), some (.lst (us.map encU), .frz), some (encB bd, .frz), some (encBx (us.map (·.lo)) (us.map (·.hi)), .frz), some (encB b, .frz), some (.bl (seenH (us.map (·.lo)) (us.map (·.hi)) b), .frz), some (.int j, .frz), x8, some (.str u.nm, .frz), some (.int u.lo, .frz), some (.int u.hi, .frz)], u.lo + d, .own, S2, by unfold encU; walk_at "ev", rfl, ?_, rfl, tp2, by omega⟩
        clear hd0 hd1 tp tp2 hh hm e1 e2 e3 hu hb bx
        walk_at "go")
    have hin := inbx_ok hp
    have hpk : POk p := fun v hv => by
      obtain ⟨_, h⟩ := pair_all (P := fun v : Int => -1000000 ≤ v ∧ v ≤ 1000000) hp fun u hm v r => by
        have := hu.2.2 u hm
        omega
      exact h v hv
    obtain ⟨m4, e4⟩ := Lg.holds_ok (b := b) (p := p) S2 (by rw [hin.l]; exact hb) hpk
    rw [← holds_eq] at e4
    have hs := seen_sound hb bx hin
    have hsz := hu.2.1
    have e5 : W.tup (p.map W.int) = encP p := rfl
    refine ⟨[some (.scr ns, .brw), some (.cel 0, .frz), some (.lst (us.map encU), .frz), some (encB bd, .frz), some (encBx (us.map (·.lo)) (us.map (·.hi)), .frz), some (encB b, .frz), some (.bl (seenH (us.map (·.lo)) (us.map (·.hi)) b), .frz), some (.int j, .frz), x8, x9, x10, x11], [some (.scr ns, .brw), some (.cel 0, .frz), some (.lst (us.map encU), .frz), some (encB bd, .frz), some (encBx (us.map (·.lo)) (us.map (·.hi)), .frz), some (encB b, .frz), some (.bl (seenH (us.map (·.lo)) (us.map (·.hi)) b), .frz), some (.int j, .frz), some (encP p, .frz), x9, x10, x11], S2, by walk_at "ev", ?_, tp2, _, _, _, _, _, rfl⟩
    unfold lpi
    rw [seq_nx (ρ2 := [some (.scr ns, .brw), some (.cel 0, .frz), some (.lst (us.map encU), .frz), some (encB bd, .frz), some (encBx (us.map (·.lo)) (us.map (·.hi)), .frz), some (encB b, .frz), some (.bl (seenH (us.map (·.lo)) (us.map (·.hi)) b), .frz), some (.int j, .frz), some (encP p, .frz), x9, x10, x11]) (S2 := S2) (by
      walk_at "ev"
      rw [if_pos (size_ok (by omega)), e1]
      walk_at "ev"
      rfl)]
    cases hsn : seenH (us.map (·.lo)) (us.map (·.hi)) b with
    | true =>
      rw [hs hsn] at e4
      clear hs hsn hp hin hpk tp tp2 hu hb bx e1 e2 e3
      walk_at "go"
    | false =>
      clear hs hsn hp hin hpk tp tp2 hu hb bx e1 e2 e3 e4
      walk_at "go") ⟨tp, x7, x8, x9, x10, x11, rfl⟩
  refine ⟨some (.bl (seenH (us.map (·.lo)) (us.map (·.hi)) b), .frz), y7, y8, y9, y10, y11, S2, ?_, tp2⟩
  unfold lp
  unfold lpi at e4
  have e5 : iRange1 (cLit (.int 5)) [some (.scr ns, .brw), some (.cel 0, .frz), some (.lst (us.map encU), .frz), some (encB bd, .frz), some (encBx (us.map (·.lo)) (us.map (·.hi)), .frz), some (encB b, .frz), some (.bl (seenH (us.map (·.lo)) (us.map (·.hi)) b), .frz), x7, x8, x9, x10, x11] S = some (rangeW 0 (5 : Int).toNat, S) := rfl
  clear tp tp2 hu hb bx
  walk_at "go"
theorem law_true (ns : List Int) (h : ns.length ≤ 63) : ∃ md S', m_law [.scr ns] [] = some ((.bl true, md), S') := by
  unfold m_law
  rw [cFn_run (by rfl)]
  show ∃ md S', fin (c_law [some (.scr ns, .brw), none, none, none, none, none, none, none, none, none, none, none] []) = _
  rw [law_seq]
  obtain ⟨S1, e1, t1⟩ := w1_ok ns
  rw [seq_nx e1]
  obtain ⟨us, S2, e2, hu, t2⟩ := w2_ok (ns := ns) t1
  rw [seq_nx e2]
  obtain ⟨us, mu, S3, e3, hu, t3, hm⟩ := w3_ok (ns := ns) t2 hu
  rw [seq_nx e3]
  obtain ⟨b, S4, e4, hb, t4⟩ := w4_ok (ns := ns) t3 hu hm
  rw [seq_nx e4]
  obtain ⟨us, mu, b, S5, e5, hu, hb, t5, hm⟩ := w5_ok (ns := ns) t4 hu hb hm
  rw [seq_nx e5, seq_nx (w6_ok S5 hu hm)]
  obtain ⟨b2, m2, S6, e6, hb2, t6⟩ := near_ok t5 hb (box_ok hu)
  obtain ⟨y6, y7, y8, y9, y10, y11, S7, e7, t7⟩ := turn_ok (ns := ns) (bd := b) (x6 := none) (x7 := none) (x8 := none) (x9 := none) (x10 := none) (x11 := none) t6 hu hb
  obtain ⟨z6, z7, z8, z9, z10, z11, S8, e8, t8⟩ := turn_ok (ns := ns) (bd := b) (x6 := y6) (x7 := y7) (x8 := y8) (x9 := y9) (x10 := y10) (x11 := y11) t7 hu hb2
  refine ⟨.frz, S8, ?_⟩
  have hw : w7 = cFor (tName 5) (iExp (cLst (cCons (cVar 3) (cCons (cCall m_law_near (cCons (cVar 1) (cCons (cVar 4) (cCons (cVar 3) cNil)))) cNil)))) lp := rfl
  rw [hw]
  unfold w8
  clear t1 t2 t3 t4 t5 t6 t7 t8 hu hb hb2 e1 e2 e3 e4 e5 hm
  have f1 : iExp (cLst (cCons (cVar 3) (cCons (cCall m_law_near (cCons (cVar 1) (cCons (cVar 4) (cCons (cVar 3) cNil)))) cNil))) [some (.scr ns, .brw), some (.cel 0, .frz), some (.lst (us.map encU), .frz), some (encB b, .frz), some (encBx (us.map (·.lo)) (us.map (·.hi)), .frz), none, none, none, none, none, none, none] S5 = some ([encB b, encB b2], S6) := by
    clear e7 e8
    walk_at "go"
  simp -implicitDefEqProofs only [q_seq, q_for, f1, bnd_some, for_cons, for_nil, q_tName, sto_frz, if_true, md_encB, List.set_cons_succ, List.set_cons_zero, e7, e8, q_ret, q_lit, sto_bl, fin_rt]
end K76
namespace K76
open PySem PySem.Spec PyProof.Rows L2 Mp
theorem hsp (K : PySem.W.Frag) (H : Hp) (a : Addr) (ns : List Int) (hl : ns.length ≤ 63) (hO : Only H) (hS : SqL K H a (ns.map V.int)) : spF K 1 m_law [.ref a] H (fun v _ => v = .bl true) fun _ _ _ => False := by
  obtain ⟨md, S', h⟩ := law_true ns hl
  refine ⟨[.scr ns], [], [], fun _ => False, (.bl true, md), S', ⟨.nil, .nil, fun _ z => z.elim, fun _ z => z.elim⟩, rfl, .cons (.im rfl (.scr ?_)) .nil, h, fun v H' α' Z' _ _ g => g.rep.ofBl⟩
  rcases hS with (hS | hS) | hS
  · rcases hO a with e | ⟨o, xs, e⟩
    · rw [hS] at e; cases e
    · rw [hS] at e; cases e
  · exact .inl hS
  · exact .inr hS
end K76
open PySem PySem.W PyProof.Rows
set_option maxHeartbeats 0 in
theorem PySem.Challenge.cw_commonfront_k76_bodies_seen_to_hold_holds : PySem.Challenge.rw_commonfront_k76_bodies_seen_to_hold.Holds := by
  w_on; o_law; k_head; (case hw => w_witness2)
  k_fill
  refine L2.walk_of (l := PySem.Challenge.rw_commonfront_k76_bodies_seen_to_hold) (n := 63) (k := 5) (x := "script") (CX := fun _ => L2.CX0) (sp := fun w => Mp.spF _ 1 K76.m_law) rfl (by decide) rfl ⟨rfl, by decide, by decide⟩ (fun w h Y => PySem.W.kIn_of Y) ?F (fun _ H a ns hl hO hS => K76.hsp _ H a ns hl hO hS) (fun _ _ _ _ _ h => h)
  case F =>
    intro w mg fa h KX G hmg
    refine' K76.all_mk KX G hmg ?a0 ?l0 ?c0 ?k0 ?a1 ?l1 ?c1 ?k1 ?a2 ?l2 ?c2 ?k2 ?a3 ?l3 ?c3 ?k3 ?a4 ?l4 ?c4 ?k4 ?a5 ?l5 ?c5 ?k5 ?a6 ?l6 ?c6 ?k6 ?a7 ?l7 ?c7 ?k7 ?a8 ?l8 ?c8 ?k8 ?a9 ?l9 ?c9 ?k9 ?a10 ?l10 ?c10 ?k10 ?a11 ?l11 ?c11 ?k11 ?a12 ?l12 ?c12 ?k12 ?a13 ?l13 ?c13 ?k13 ?a14 ?l14 ?c14 ?k14 ?a15 ?l15 ?c15 ?k15 ?a16 ?l16 ?c16 ?k16 ?a17 ?l17 ?c17 ?k17 ?a18 ?l18 ?c18 ?k18 ?a19 ?l19 ?c19 ?k19 ?a20 ?l20 ?c20 ?k20 ?a21 ?l21 ?c21 ?k21 ?a22 ?l22 ?c22 ?k22 ?a23 ?l23 ?c23 ?k23 ?a24 ?l24 ?c24 ?k24 ?a25 ?l25 ?c25 ?k25 ?a26 ?l26 ?c26 ?k26 ?a27 ?l27 ?c27 ?k27 ?a28 ?l28 ?c28 ?k28 ?a29 ?l29 ?c29 ?k29 ?a30 ?l30 ?c30 ?k30 ?a31 ?l31 ?c31 ?k31 ?a32 ?l32 ?c32 ?k32 ?a33 ?l33 ?c33 ?k33 ?a34 ?l34 ?c34 ?k34 ?a35 ?l35 ?c35 ?k35 ?a36 ?l36 ?c36 ?k36 ?a37 ?l37 ?c37 ?k37 ?a38 ?l38 ?c38 ?k38 ?z_all ?z_any ?z_bool ?z_enumerate ?z_int ?z_isinstance ?z_len ?z_list ?z_max ?z_min ?z_range ?z_set ?z_sorted ?z_str ?z_tuple
    (case a0 => k_is); (case l0 => k_is); (case c0 => k_is); (case k0 => k_is); (case a1 => k_is); (case l1 => k_is); (case c1 => k_is); (case k1 => k_is); (case a2 => k_is); (case l2 => k_is); (case c2 => k_is); (case k2 => k_is); (case a3 => k_is); (case l3 => k_is); (case c3 => k_is); (case k3 => k_is); (case a4 => k_is); (case l4 => k_is); (case c4 => k_is); (case k4 => k_is); (case a5 => k_is); (case l5 => k_is); (case c5 => k_is); (case k5 => k_is); (case a6 => k_is); (case l6 => k_is); (case c6 => k_is); (case k6 => k_is); (case a7 => k_is); (case l7 => k_is); (case c7 => k_is); (case k7 => k_is); (case a8 => k_is); (case l8 => k_is); (case c8 => k_is); (case k8 => k_is); (case a9 => k_is); (case l9 => k_is); (case c9 => k_is); (case k9 => k_is); (case a10 => k_is); (case l10 => k_is); (case c10 => k_is); (case k10 => k_is); (case a11 => k_is); (case l11 => k_is); (case c11 => k_is); (case k11 => k_is); (case a12 => k_is); (case l12 => k_is); (case c12 => k_is); (case k12 => k_is); (case a13 => k_is); (case l13 => k_is); (case c13 => k_is); (case k13 => k_is); (case a14 => k_is); (case l14 => k_is); (case c14 => k_is); (case k14 => k_is); (case a15 => k_is); (case l15 => k_is); (case c15 => k_is); (case k15 => k_is); (case a16 => k_is); (case l16 => k_is); (case c16 => k_is); (case k16 => k_is); (case a17 => k_is); (case l17 => k_is); (case c17 => k_is); (case k17 => k_is); (case a18 => k_is); (case l18 => k_is); (case c18 => k_is); (case k18 => k_is); (case a19 => k_is); (case l19 => k_is); (case c19 => k_is); (case k19 => k_is); (case a20 => k_is); (case l20 => k_is); (case c20 => k_is); (case k20 => k_is); (case a21 => k_is); (case l21 => k_is); (case c21 => k_is); (case k21 => k_is); (case a22 => k_is); (case l22 => k_is); (case c22 => k_is); (case k22 => k_is); (case a23 => k_is); (case l23 => k_is); (case c23 => k_is); (case k23 => k_is); (case a24 => k_is); (case l24 => k_is); (case c24 => k_is); (case k24 => k_is); (case a25 => k_is); (case l25 => k_is); (case c25 => k_is); (case k25 => k_is); (case a26 => k_is); (case l26 => k_is); (case c26 => k_is); (case k26 => k_is); (case a27 => k_is); (case l27 => k_is); (case c27 => k_is); (case k27 => k_is); (case a28 => k_is); (case l28 => k_is); (case c28 => k_is); (case k28 => k_is); (case a29 => k_is); (case l29 => k_is); (case c29 => k_is); (case k29 => k_is); (case a30 => k_is); (case l30 => k_is); (case c30 => k_is); (case k30 => k_is); (case a31 => k_is); (case l31 => k_is); (case c31 => k_is); (case k31 => k_is); (case a32 => k_is); (case l32 => k_is); (case c32 => k_is); (case k32 => k_is); (case a33 => k_is); (case l33 => k_is); (case c33 => k_is); (case k33 => k_is); (case a34 => k_is); (case l34 => k_is); (case c34 => k_is); (case k34 => k_is); (case a35 => k_is); (case l35 => k_is); (case c35 => k_is); (case k35 => k_is); (case a36 => k_is); (case l36 => k_is); (case c36 => k_is); (case k36 => k_is); (case a37 => k_is); (case l37 => k_is); (case c37 => k_is); (case k37 => k_is); (case a38 => k_is); (case l38 => k_is); (case c38 => k_is); (case k38 => k_is); (case z_all => k_is); (case z_any => k_is); (case z_bool => k_is); (case z_enumerate => k_is); (case z_int => k_is); (case z_isinstance => k_is); (case z_len => k_is); (case z_list => k_is); (case z_max => k_is); (case z_min => k_is); (case z_range => k_is); (case z_set => k_is); (case z_sorted => k_is); (case z_str => k_is); (case z_tuple => k_is)
