import PyProof.Rows.All
import Wide.All
import OpenK.AllK
import Wide.FinOn
import HandS.ForMost
import HandS.ForExc
import HandS.Lambda
import HandS.Zip
import HandS.Wide
import HandS.Codes
import HandS.StrMore
import HandS.IsInst
import HandS.Deep
import HandS.Small
import HandS.Steps
import PyProof.ReprRoads
import HandS.Text
import HandS.TryMany
import HandS.EndTab
import HandS.HeadWalk
import HandS.HeadHook4
import HandS.Defaults
import KE.GoesEnum
import PySem.Challenge.RW_stopweighs_k46_names_and_signs
import KE.KStateDown
import HandS.Head0
import HandS.Head1
import HandS.Head2
import HandS.HeadEnd
import HandS.HeadHook1
import HandS.HeadHook2
import HandS.HeadHook3
set_option Elab.async false
set_option linter.all false
set_option maxRecDepth 100000
set_option maxHeartbeats 4000000
/-! Mi1: outcomes, pure data over the abstract heap, slot values, the state relation. -/
namespace Mi
open PySem L2

abbrev D := PyData

/-- an outcome of the mirror: a value, an exception of the program (its class's name, its what), or nothing said -/
inductive Out (α : Type) where
  | ok (a : α)
  | exc (c : String) (d : D)
  | bad
def Out.bind {α β : Type} (x : Out α) (f : α → Out β) : Out β :=
  match x with
  | .ok a => f a
  | .exc c d => .exc c d
  | .bad => .bad
theorem bind_ok {α β : Type} (a : α) (f : α → Out β) : (Out.ok a).bind f = f a := rfl
theorem bind_exc {α β : Type} (c : String) (d : D) (f : α → Out β) : (Out.exc c d : Out α).bind f = .exc c d := rfl
theorem bind_bad {α β : Type} (f : α → Out β) : (Out.bad : Out α).bind f = .bad := rfl

/-! no list within -/
mutual
def noL : D → Bool
  | .none => true
  | .bool _ => true
  | .int _ => true
  | .str _ => true
  | .list _ => false
  | .tuple xs => noLs xs
  | .dict _ => false
def noLs : List D → Bool
  | [] => true
  | d :: ds => noL d && noLs ds
end

/-- what no write touches -/
def Fix : HO → Prop
  | .tup _ => True
  | .frz _ _ => True
  | .ext _ => True
  | _ => False
def NoTbl (o : HO) : Prop := ∀ ps, o ≠ .tbl ps
/-- all but M (and code tables) stays -/
structure Hx (M : Addr → Prop) (H H' : Hp) : Prop where
  kp : ∀ b o, H b = some o → NoTbl o → (M b → Fix o) → H' b = some o
  dm : ∀ b, H b ≠ none → H' b ≠ none
abbrev No : Addr → Prop := fun _ => False
theorem Hx.refl (M : Addr → Prop) (H : Hp) : Hx M H H := ⟨fun _ _ h _ _ => h, fun _ h => h⟩
theorem Hx.trans {M : Addr → Prop} {H H1 H2 : Hp} (a : Hx M H H1) (b : Hx M H1 H2) : Hx M H H2 :=
  ⟨fun x o h n f => b.kp x o (a.kp x o h n f) n f, fun x h => b.dm x (a.dm x h)⟩
theorem Hx.mono {M M' : Addr → Prop} {H H' : Hp} (h : Hx M H H') (s : ∀ a, M a → M' a) : Hx M' H H' :=
  ⟨fun b o e n f => h.kp b o e n fun z => f (s b z), h.dm⟩
theorem Hx.none {M : Addr → Prop} {H H' : Hp} (h : Hx No H H') : Hx M H H' := h.mono fun _ z => z.elim
theorem Hx.of_same {M : Addr → Prop} {H H' : Hp} (h : L2.Same H H') : Hx M H H' :=
  ⟨fun b o e _ _ => h b o e, fun b e z => by
    cases q : H b with
    | none => exact e q
    | some o => rw [h b o q] at z; cases z⟩
theorem Hx.fresh {M : Addr → Prop} {H H' : Hp} (h : Hx M H H') {p : Addr} (e : H' p = Option.none) : H p = Option.none := by
  cases q : H p with
  | none => rfl
  | some o => exact absurd e (h.dm p (by rw [q]; exact fun z => by cases z))
theorem same_new {H : Hp} {p : Addr} {o : HO} (h : H p = none) : L2.Same H (upd H p o) := fun a u e => by
  rw [upd_ne (ne_of_none e h)]
  exact e
theorem same_mut {H H' : Hp} {p : Addr} {o : HO} (e : L2.Same H H') (h : H p = none) : L2.Same H (upd H' p o) := fun a u ha => by
  rw [upd_ne (ne_of_none ha h)]
  exact e a u ha
theorem nt_lst (xs : List V) : NoTbl (.lst xs) := fun _ z => by cases z
theorem nt_tup (xs : List V) : NoTbl (.tup xs) := fun _ z => by cases z
theorem nt_frz (o : Obj) (u : HO) : NoTbl (.frz o u) := fun _ z => by cases z
theorem nt_dK (kvs : List (Key × V)) : NoTbl (.dK kvs) := fun _ z => by cases z
theorem nt_dT (kvs : List (List Key × V)) : NoTbl (.dT kvs) := fun _ z => by cases z
/-- a changeable object at a is written -/
theorem Hx.write {M : Addr → Prop} {H : Hp} {a : Addr} {u : HO} (hm : M a) (hf : ∃ o, H a = some o ∧ ¬ Fix o) : Hx M H (upd H a u) :=
  ⟨fun b o e n f => by
    obtain ⟨w, hw, nf⟩ := hf
    by_cases hb : b = a
    · subst hb
      rw [hw] at e
      cases e
      exact absurd (f hm) nf
    · rw [upd_ne hb]
      exact e, fun b e => by
    by_cases hb : b = a
    · subst hb; rw [upd_same]; exact fun z => by cases z
    · rw [upd_ne hb]; exact e⟩

/-- a list that is never written: the script, a list of the text's -/
def Fz (K : PySem.W.Frag) (H : Hp) (a : Addr) (xs : List V) : Prop := (∃ o, H a = some (.frz o (.lst xs))) ∨ SqL K (fun _ => none) a xs
theorem Fz.sq {K : PySem.W.Frag} {H : Hp} {a : Addr} {xs : List V} (h : Fz K H a xs) : SqL K H a xs := by
  rcases h with h | (h | ⟨o, h⟩) | h
  · exact .inl (.inr h)
  · cases h
  · cases h
  · exact .inr h
theorem Fz.keep {K : PySem.W.Frag} {H H' : Hp} {a : Addr} {xs : List V} (h : Fz K H a xs) (k : ∀ b o, H b = some o → NoTbl o → Fix o → H' b = some o) : Fz K H' a xs := by
  rcases h with ⟨o, h⟩ | h
  · exact .inl ⟨o, k _ _ h (nt_frz _ _) trivial⟩
  · exact .inr h
theorem sqT_keep {K : PySem.W.Frag} {H H' : Hp} {a : Addr} {xs : List V} (h : SqT K H a xs) (k : ∀ b o, H b = some o → NoTbl o → Fix o → H' b = some o) : SqT K H' a xs := by
  rcases h with (h | ⟨o, h⟩) | h
  · exact .inl (.inl (k _ _ h (nt_tup _) trivial))
  · exact .inl (.inr ⟨o, k _ _ h (nt_frz _ _) trivial⟩)
  · exact .inr h

/-! v bears the data d in H; its lists lie outside O -/
mutual
inductive Rp (K : PySem.W.Frag) (O : Addr → Prop) (H : Hp) : D → V → Prop
  | non : Rp K O H .none .non
  | bl (b : Bool) : Rp K O H (.bool b) (.bl b)
  | int (i : Int) : Rp K O H (.int i) (.int i)
  | str (x : Str) : Rp K O H (.str x) (.str x)
  | lst {a : Addr} {vs : List V} {ds : List D} : H a = some (.lst vs) → ¬ O a → RpL K O H ds vs → Rp K O H (.list ds) (.ref a)
  | tup {a : Addr} {vs : List V} {ds : List D} : SqT K H a vs → RpL K O H ds vs → Rp K O H (.tuple ds) (.ref a)
inductive RpL (K : PySem.W.Frag) (O : Addr → Prop) (H : Hp) : List D → List V → Prop
  | nil : RpL K O H [] []
  | cons {d : D} {ds : List D} {v : V} {vs : List V} : Rp K O H d v → RpL K O H ds vs → RpL K O H (d :: ds) (v :: vs)
end

section
variable {K : PySem.W.Frag} {O O' M : Addr → Prop} {H H' : Hp}
mutual
theorem Rp.mv (k : ∀ b o, H b = some o → NoTbl o → (¬ O b ∨ Fix o) → H' b = some o) (ho : ∀ b, O' b → O b ∨ H b = none) : ∀ {d : D} {v : V}, Rp K O H d v → Rp K O' H' d v
  | _, _, .non => .non
  | _, _, .bl b => .bl b
  | _, _, .int i => .int i
  | _, _, .str x => .str x
  | _, _, .lst h n r => .lst (k _ _ h (nt_lst _) (.inl n)) (fun z => by
      rcases ho _ z with q | q
      · exact n q
      · rw [h] at q; cases q) (RpL.mv k ho r)
  | _, _, .tup h r => .tup (sqT_keep h fun b o e n f => k b o e n (.inr f)) (RpL.mv k ho r)
theorem RpL.mv (k : ∀ b o, H b = some o → NoTbl o → (¬ O b ∨ Fix o) → H' b = some o) (ho : ∀ b, O' b → O b ∨ H b = none) : ∀ {ds : List D} {vs : List V}, RpL K O H ds vs → RpL K O' H' ds vs
  | _, _, .nil => .nil
  | _, _, .cons r t => .cons (Rp.mv k ho r) (RpL.mv k ho t)
end
mutual
theorem Rp.mvN (k : ∀ b o, H b = some o → NoTbl o → Fix o → H' b = some o) : ∀ {d : D} {v : V}, noL d = true → Rp K O H d v → Rp K O' H' d v
  | _, _, _, .non => .non
  | _, _, _, .bl b => .bl b
  | _, _, _, .int i => .int i
  | _, _, _, .str x => .str x
  | _, _, n, .lst _ _ _ => by simp [noL] at n
  | _, _, n, .tup h r => .tup (sqT_keep h k) (RpL.mvN k (by simpa [noL] using n) r)
theorem RpL.mvN (k : ∀ b o, H b = some o → NoTbl o → Fix o → H' b = some o) : ∀ {ds : List D} {vs : List V}, noLs ds = true → RpL K O H ds vs → RpL K O' H' ds vs
  | _, _, _, .nil => .nil
  | _ :: _, _, n, .cons r t => .cons (Rp.mvN k (Bool.and_eq_true_iff.mp n).1 r) (RpL.mvN k (Bool.and_eq_true_iff.mp n).2 t)
end
theorem Hx.fixed (h : Hx M H H') : ∀ b o, H b = some o → NoTbl o → Fix o → H' b = some o := fun b o e n f => h.kp b o e n fun _ => f
theorem Hx.kpO (h : Hx M H H') (s : ∀ a, M a → O a) : ∀ b o, H b = some o → NoTbl o → (¬ O b ∨ Fix o) → H' b = some o := fun b o e n f =>
  h.kp b o e n fun z => f.elim (fun q => absurd (s b z) q) fun q => q
theorem Rp.hx (h : Hx M H H') (s : ∀ a, M a → O a) {d : D} {v : V} (r : Rp K O H d v) : Rp K O H' d v := r.mv (h.kpO s) fun _ z => .inl z
theorem RpL.hx (h : Hx M H H') (s : ∀ a, M a → O a) {d : List D} {v : List V} (r : RpL K O H d v) : RpL K O H' d v := r.mv (h.kpO s) fun _ z => .inl z
theorem Rp.same (h : L2.Same H H') {d : D} {v : V} (r : Rp K O H d v) : Rp K O H' d v := r.mv (fun b o e _ _ => h b o e) fun _ z => .inl z
theorem RpL.same (h : L2.Same H H') {d : List D} {v : List V} (r : RpL K O H d v) : RpL K O H' d v := r.mv (fun b o e _ _ => h b o e) fun _ z => .inl z
theorem Rp.sub (s : ∀ a, O' a → O a) {d : D} {v : V} (r : Rp K O H d v) : Rp K O' H d v := r.mv (fun b o e _ _ => e) fun b z => .inl (s b z)
theorem RpL.sub (s : ∀ a, O' a → O a) {d : List D} {v : List V} (r : RpL K O H d v) : RpL K O' H d v := r.mv (fun b o e _ _ => e) fun b z => .inl (s b z)
theorem Rp.noL {d : D} {v : V} (n : Mi.noL d = true) (r : Rp K O H d v) : Rp K O' H d v := r.mvN (fun _ _ e _ _ => e) n
theorem RpL.len : ∀ {ds : List D} {vs : List V}, RpL K O H ds vs → ds.length = vs.length
  | _, _, .nil => rfl
  | _, _, .cons _ t => by rw [List.length_cons, List.length_cons, t.len]
theorem RpL.at_ : ∀ {ds : List D} {vs : List V} {i : Nat} {d : D}, RpL K O H ds vs → ds[i]? = some d → ∃ v, vs[i]? = some v ∧ Rp K O H d v
  | _, _, _, _, .nil, e => by simp at e
  | _, _, 0, _, .cons r _, e => by simp at e; subst e; exact ⟨_, rfl, r⟩
  | _, _, i + 1, d, .cons _ t, e => by
    obtain ⟨v, h1, h2⟩ := RpL.at_ (i := i) (d := d) t (by simpa using e)
    exact ⟨v, by simpa using h1, h2⟩
theorem RpL.at_v : ∀ {ds : List D} {vs : List V} {i : Nat} {v : V}, RpL K O H ds vs → vs[i]? = some v → ∃ d, ds[i]? = some d ∧ Rp K O H d v
  | _, _, _, _, .nil, e => by simp at e
  | _, _, 0, _, .cons r _, e => by simp at e; subst e; exact ⟨_, rfl, r⟩
  | _, _, i + 1, d, .cons _ t, e => by
    obtain ⟨v, h1, h2⟩ := RpL.at_v (i := i) (v := d) t (by simpa using e)
    exact ⟨v, by simpa using h1, h2⟩
theorem RpL.app : ∀ {ds es : List D} {vs ws : List V}, RpL K O H ds vs → RpL K O H es ws → RpL K O H (ds ++ es) (vs ++ ws)
  | _, _, _, _, .nil, s => s
  | _, _, _, _, .cons r t, s => .cons r (t.app s)
theorem RpL.take : ∀ {ds : List D} {vs : List V} (n : Nat), RpL K O H ds vs → RpL K O H (ds.take n) (vs.take n)
  | _, _, 0, _ => .nil
  | _, _, _ + 1, .nil => .nil
  | _, _, n + 1, .cons r t => .cons r (t.take n)
theorem RpL.drop : ∀ {ds : List D} {vs : List V} (n : Nat), RpL K O H ds vs → RpL K O H (ds.drop n) (vs.drop n)
  | _, _, 0, r => r
  | _, _, _ + 1, .nil => .nil
  | _, _, n + 1, .cons _ t => t.drop n
theorem RpL.set : ∀ {ds : List D} {vs : List V} {d : D} {v : V} (n : Nat), RpL K O H ds vs → Rp K O H d v → RpL K O H (ds.set n d) (vs.set n v)
  | _, _, _, _, _, .nil, _ => .nil
  | _, _, _, _, 0, .cons _ t, r => .cons r t
  | _, _, _, _, n + 1, .cons q t, r => .cons q (t.set n r)
theorem RpL.ints : ∀ ns : List Int, RpL K O H (ns.map PyData.int) (ns.map V.int)
  | [] => .nil
  | n :: r => .cons (.int n) (RpL.ints r)
mutual
/-- as the layer's data -/
theorem Rp.dp : ∀ {d : D} {v : V}, Rp K O H d v → Dp K H v d
  | _, _, .non => .non
  | _, _, .bl b => .bl b
  | _, _, .int i => .int i
  | _, _, .str x => .str x
  | _, _, .lst h _ r => .lst (.inl (.inl h)) (RpL.dp r)
  | _, _, .tup h r => .tup h (RpL.dp r)
theorem RpL.dp : ∀ {ds : List D} {vs : List V}, RpL K O H ds vs → DpAll K H vs ds
  | _, _, .nil => .nil
  | _, _, .cons r t => .cons (Rp.dp r) (RpL.dp t)
end
end

/-- owned objects -/
inductive Ob where
  | lst (xs : List D)
  | dK (kvs : List (Key × D))
  | dT (kvs : List (List Key × D))
/-- what a slot holds -/
inductive Sv where
  /-- no value that is known -/
  | un
  /-- data that nobody changes -/
  | va (d : D)
  /-- an object that this frame made and changes -/
  | ow (o : Ob)
  /-- an object that was handed in and is changed -/
  | io (o : Ob)
  /-- a function without parameters and its outcome -/
  | cl (r : Out D)
  /-- whole numbers handed in that nobody changes: the script -/
  | sc (ns : List Int)
def PRel {κ : Type} (K : PySem.W.Frag) (H : Hp) (p : κ × D) (q : κ × V) : Prop := p.1 = q.1 ∧ noL p.2 = true ∧ Rp K No H p.2 q.2
def ObR (K : PySem.W.Frag) (H : Hp) : Ob → HO → Prop
  | .lst xs, .lst vs => noLs xs = true ∧ RpL K No H xs vs
  | .dK kvs, .dK ws => Paired (PRel K H) kvs ws
  | .dT kvs, .dT ws => Paired (PRel K H) kvs ws
  | _, _ => False
theorem ObR.nofix {K : PySem.W.Frag} {H : Hp} {o : Ob} {u : HO} (h : ObR K H o u) : ¬ Fix u ∧ NoTbl u := by
  cases o <;> cases u <;> first | exact h.elim | exact ⟨fun z => z, fun _ z => by cases z⟩
theorem ObR.mut {K : PySem.W.Frag} {H : Hp} {o : Ob} {u : HO} (h : ObR K H o u) : Mut (some u) := by
  cases o <;> cases u <;> first | exact h.elim | trivial
theorem PRel.mv {κ : Type} {K : PySem.W.Frag} {H H' : Hp} (k : ∀ b o, H b = some o → NoTbl o → Fix o → H' b = some o) : ∀ {a : List (κ × D)} {b : List (κ × V)}, Paired (PRel K H) a b → Paired (PRel K H') a b
  | _, _, .nil => .nil
  | _, _, .cons ⟨h1, h2, h3⟩ t => .cons ⟨h1, h2, h3.mvN k h2⟩ (PRel.mv k t)
theorem ObR.mv {K : PySem.W.Frag} {H H' : Hp} (k : ∀ b o, H b = some o → NoTbl o → Fix o → H' b = some o) {o : Ob} {u : HO} (h : ObR K H o u) : ObR K H' o u := by
  cases o <;> cases u <;> first | exact h.elim | exact ⟨h.1, h.2.mvN k h.1⟩ | exact PRel.mv k h

/-- what is fixed for a frame: K; the code tables; the classes' addresses; the addresses that data from outside avoid; those that may be written; the heap at the entry; what is known of closures -/
structure Fr where
  K : PySem.W.Frag
  T : List (Addr × Str)
  ca : String → Addr
  OF : Addr → Prop
  WF : Addr → Prop
  H0 : Hp
  CF : V → Out D → Prop
  ios : List (Nat × Addr)

def SlR (F : Fr) (O M : Addr → Prop) (H : Hp) : Sv → Option V → Prop
  | .un, _ => True
  | .va d, x => ∃ v, x = some v ∧ Rp F.K O H d v
  | .ow o, x => ∃ a u, x = some (.ref a) ∧ M a ∧ ¬ F.OF a ∧ H a = some u ∧ ObR F.K H o u
  | .io o, x => ∃ a u, x = some (.ref a) ∧ M a ∧ F.WF a ∧ H a = some u ∧ ObR F.K H o u
  | .cl r, x => ∃ v, x = some v ∧ F.CF v r
  | .sc ns, x => ∃ a, x = some (.ref a) ∧ Fz F.K H a (ns.map V.int)
def Sv.own : Sv → Bool
  | .ow _ => true
  | .io _ => true
  | _ => false
/-- the same but for what owned objects hold -/
def Sv.sim : Sv → Sv → Prop
  | .ow _, .ow _ => True
  | .io _, .io _ => True
  | .un, .un => True
  | .va d, .va e => d = e
  | .cl r, .cl q => r = q
  | .sc r, .sc q => r = q
  | _, _ => False
def Sim (ρ ρ' : List Sv) : Prop := ρ.length = ρ'.length ∧ ∀ (i : Nat) (a b : Sv), ρ[i]? = some a → ρ'[i]? = some b → a.sim b
theorem Sv.sim_refl (a : Sv) : a.sim a := by cases a <;> trivial
theorem Sv.sim_trans {a b c : Sv} (h : a.sim b) (h' : b.sim c) : a.sim c := by
  cases a <;> cases b <;> first | exact h.elim | (cases c <;> first | exact h'.elim | trivial | exact Eq.trans h h')
theorem Sv.sim_own {a b : Sv} (h : a.sim b) : a.own = b.own := by cases a <;> cases b <;> first | exact h.elim | rfl
theorem Sim.refl (ρ : List Sv) : Sim ρ ρ := ⟨rfl, fun i a b h h' => by rw [h] at h'; cases h'; exact a.sim_refl⟩
theorem Sim.trans {a b c : List Sv} (h : Sim a b) (h' : Sim b c) : Sim a c := ⟨h.1.trans h'.1, fun i x z hx hz => by
  have hi : i < b.length := by rw [← h.1]; exact (List.getElem?_eq_some_iff.mp hx).1
  exact Sv.sim_trans (h.2 i x b[i] hx (by simp [hi])) (h'.2 i b[i] z (by simp [hi]) hz)⟩

/-- THE STATE: slots by their mirror; G: data on the way -/
structure SR (F : Fr) (G : List (D × V)) (O M : Addr → Prop) (ρ : List Sv) (σ : St) (H : Hp) : Prop where
  len : ρ.length = σ.length
  hx : Hx F.WF F.H0 H
  tabs : LamX.Tabs F.T H
  ofo : ∀ a, F.OF a → O a
  mo : ∀ a, M a → O a
  wf : ∀ a, F.WF a → F.OF a
  mw : ∀ a, M a → F.WF a ∨ F.H0 a = none
  dom : ∀ a, O a → H a ≠ none
  sl : ∀ (i : Nat) (sv : Sv) (x : Option V), ρ[i]? = some sv → σ[i]? = some x → SlR F O M H sv x
  dis : ∀ (i j : Nat) (a b : Sv) (p : Addr), i ≠ j → ρ[i]? = some a → ρ[j]? = some b → a.own = true → b.own = true → σ[i]? = some (some (.ref p)) → σ[j]? ≠ some (some (.ref p))
  gh : ∀ p ∈ G, Rp F.K O H p.1 p.2
  ioa : ∀ p ∈ F.ios, ∃ o, ρ[p.1]? = some (.io o) ∧ σ[p.1]? = some (some (.ref p.2))

section
variable {F : Fr} {G : List (D × V)} {O M : Addr → Prop} {ρ ρ' : List Sv} {σ : St} {H H' : Hp}
theorem SR.ghost (S : SR F G O M ρ σ H) {d : D} {v : V} (r : Rp F.K O H d v) : SR F ((d, v) :: G) O M ρ σ H :=
  ⟨S.len, S.hx, S.tabs, S.ofo, S.mo, S.wf, S.mw, S.dom, S.sl, S.dis, fun p hp => by
    rcases List.mem_cons.mp hp with rfl | hp
    · exact r
    · exact S.gh p hp, S.ioa⟩
theorem SR.unghost {G' : List (D × V)} (S : SR F G' O M ρ σ H) (h : ∀ p ∈ G, p ∈ G') : SR F G O M ρ σ H :=
  ⟨S.len, S.hx, S.tabs, S.ofo, S.mo, S.wf, S.mw, S.dom, S.sl, S.dis, fun p hp => S.gh p (h p hp), S.ioa⟩
/-- what the frame writes is let at its entry -/
theorem SR.out (S : SR F G O M ρ σ H) (h : Hx M H H') : Hx F.WF F.H0 H' :=
  ⟨fun b o e n f => h.kp b o (S.hx.kp b o e n f) n fun z => (S.mw b z).elim f fun q => by rw [e] at q; exact (nomatch q), fun b e => h.dm b (S.hx.dm b e)⟩
/-- owned objects at the places I were changed, within W -/
theorem SR.chg {W : Addr → Prop} (I : List Nat) (S : SR F G O M ρ σ H) (hW : ∀ a, W a → M a ∧ ∃ i ∈ I, ∃ sv, ρ[i]? = some sv ∧ sv.own = true ∧ σ[i]? = some (some (.ref a))) (h : Hx W H H') (ht : LamX.Tabs F.T H') (sm : Sim ρ ρ')
    (hout : ∀ i : Nat, i ∉ I → ρ'[i]? = ρ[i]?) (hin : ∀ i ∈ I, ∀ (sv : Sv) (x : Option V), ρ'[i]? = some sv → σ[i]? = some x → SlR F O M H' sv x) : SR F G O M ρ' σ H' := by
  have hM : Hx M H H' := h.mono fun a z => (hW a z).1
  refine ⟨sm.1.symm.trans S.len, S.out hM, ht, S.ofo, S.mo, S.wf, S.mw, fun a z => h.dm a (S.dom a z), fun i sv x e1 e2 => ?_, fun i j a b p hij e1 e2 o1 o2 e3 => ?_, fun p hp => (S.gh p hp).hx hM S.mo, fun p hp => ?_⟩
  · by_cases hi : i ∈ I
    · exact hin i hi sv x e1 e2
    · rw [hout i hi] at e1
      have q := S.sl i sv x e1 e2
      have keep : ∀ {a : Addr} {u : HO} {o : Ob}, sv.own = true → x = some (.ref a) → H a = some u → ObR F.K H o u → H' a = some u := fun {a u o} ow ex eu ob => by
        refine h.kp a u eu ob.nofix.2 fun z => ?_
        obtain ⟨_, j, hj, sv', e3, o3, e4⟩ := hW a z
        exact absurd e4 (S.dis i j sv sv' a (fun e => hi (e ▸ hj)) e1 e3 ow o3 (by rw [e2, ex]))
      cases sv with
      | un => trivial
      | va d => obtain ⟨v, e, r⟩ := q; exact ⟨v, e, r.hx hM S.mo⟩
      | ow o => obtain ⟨a, u, e, m, n, eu, ob⟩ := q; exact ⟨a, u, e, m, n, keep rfl e eu ob, ob.mv h.fixed⟩
      | io o => obtain ⟨a, u, e, m, n, eu, ob⟩ := q; exact ⟨a, u, e, m, n, keep rfl e eu ob, ob.mv h.fixed⟩
      | cl r => exact q
      | sc ns => obtain ⟨a, e, z⟩ := q; exact ⟨a, e, z.keep h.fixed⟩
  · have l1 : i < ρ.length := by rw [sm.1]; exact (List.getElem?_eq_some_iff.mp e1).1
    have l2 : j < ρ.length := by rw [sm.1]; exact (List.getElem?_eq_some_iff.mp e2).1
    refine S.dis i j ρ[i] ρ[j] p hij (by simp [l1]) (by simp [l2]) ?_ ?_ e3
    · rw [Sv.sim_own (sm.2 i _ a (by simp [l1]) e1)]; exact o1
    · rw [Sv.sim_own (sm.2 j _ b (by simp [l2]) e2)]; exact o2
  · obtain ⟨o, e1, e2⟩ := S.ioa p hp
    have l1 : p.1 < ρ'.length := by rw [← sm.1]; exact (List.getElem?_eq_some_iff.mp e1).1
    have q := sm.2 p.1 _ ρ'[p.1] e1 (by simp [l1])
    cases e : ρ'[p.1] with
    | io o' => exact ⟨o', by simp [l1, e], e2⟩
    | un => rw [e] at q; exact q.elim
    | va _ => rw [e] at q; exact q.elim
    | ow _ => rw [e] at q; exact q.elim
    | cl _ => rw [e] at q; exact q.elim
    | sc _ => rw [e] at q; exact q.elim
/-- nothing that is known was changed -/
theorem SR.grow (S : SR F G O M ρ σ H) (h : Hx No H H') (ht : LamX.Tabs F.T H') : SR F G O M ρ σ H' :=
  S.chg [] (fun a z => z.elim) h ht (Sim.refl ρ) (fun _ _ => rfl) fun i hi => absurd hi (by simp)
theorem SR.same (S : SR F G O M ρ σ H) (h : L2.Same H H') : SR F G O M ρ σ H' := S.grow (Hx.of_same h) (S.tabs.ext h)
/-- a larger set of addresses that data avoid, among them new ones -/
theorem SR.avoid {O' : Addr → Prop} (S : SR F G O M ρ σ H) (h : Hx M H H') (ht : LamX.Tabs F.T H') (hO : ∀ a, O a → O' a) (hO' : ∀ a, O' a → O a ∨ H a = none) (hd : ∀ a, O' a → H' a ≠ none)
    (sm : Sim ρ ρ') (hown : ∀ (i : Nat) (sv : Sv) (x : Option V), ρ'[i]? = some sv → σ[i]? = some x → sv.own = true → SlR F O M H' sv x) : SR F G O' M ρ' σ H' := by
  have kp := h.kpO S.mo
  refine ⟨sm.1.symm.trans S.len, S.out h, ht, fun a z => hO a (S.ofo a z), fun a z => hO a (S.mo a z), S.wf, S.mw, hd, fun i sv x e1 e2 => ?_, fun i j a b p hij e1 e2 o1 o2 e3 => ?_, fun p hp => (S.gh p hp).mv kp hO', fun p hp => ?_⟩
  · have l1 : i < ρ.length := by rw [sm.1]; exact (List.getElem?_eq_some_iff.mp e1).1
    have e0 : ρ[i]? = some ρ[i] := by simp [l1]
    have s1 := sm.2 i _ sv e0 e1
    have q := S.sl i _ x e0 e2
    cases sv with
    | un => trivial
    | va d =>
      cases e : ρ[i] with
      | va d' =>
        rw [e] at s1 q
        have s1 : d' = d := s1
        subst s1
        obtain ⟨v, ev, r⟩ := q
        exact ⟨v, ev, r.mv kp hO'⟩
      | _ => rw [e] at s1; exact s1.elim
    | ow o => exact hown i _ x e1 e2 rfl
    | io o => exact hown i _ x e1 e2 rfl
    | cl r =>
      cases e : ρ[i] with
      | cl r' =>
        rw [e] at s1 q
        have s1 : r' = r := s1
        subst s1
        exact q
      | _ => rw [e] at s1; exact s1.elim
    | sc r =>
      cases e : ρ[i] with
      | sc r' =>
        rw [e] at s1 q
        have s1 : r' = r := s1
        subst s1
        obtain ⟨a, ea, z⟩ := q
        exact ⟨a, ea, z.keep h.fixed⟩
      | _ => rw [e] at s1; exact s1.elim
  · have l1 : i < ρ.length := by rw [sm.1]; exact (List.getElem?_eq_some_iff.mp e1).1
    have l2 : j < ρ.length := by rw [sm.1]; exact (List.getElem?_eq_some_iff.mp e2).1
    refine S.dis i j ρ[i] ρ[j] p hij (by simp [l1]) (by simp [l2]) ?_ ?_ e3
    · rw [Sv.sim_own (sm.2 i _ a (by simp [l1]) e1)]; exact o1
    · rw [Sv.sim_own (sm.2 j _ b (by simp [l2]) e2)]; exact o2
  · obtain ⟨o, e1, e2⟩ := S.ioa p hp
    have l1 : p.1 < ρ'.length := by rw [← sm.1]; exact (List.getElem?_eq_some_iff.mp e1).1
    have q := sm.2 p.1 _ ρ'[p.1] e1 (by simp [l1])
    cases e : ρ'[p.1] with
    | io o' => exact ⟨o', by simp [l1, e], e2⟩
    | _ => rw [e] at q; exact q.elim
end
end Mi

set_option Elab.async false
set_option linter.all false
set_option maxRecDepth 100000
set_option maxHeartbeats 4000000
/-! Mi2: the judgements; names, constants, operators, tests, displays. -/
namespace Mi
open PySem L2

abbrev EM := List Sv → Out (D × List Sv)
abbrev LM := List Sv → Out (List D × List Sv)
abbrev TM := List Sv → Out (Bool × List Sv)

/-- b: the value may lean on owned objects; p: nothing is changed; f: the value is a new object -/
structure Ef where
  b : Bool
  p : Bool
  f : Bool

def Pm (p : Bool) (M : Addr → Prop) : Addr → Prop := fun a => p = false ∧ M a
def Av (F : Fr) (O : Addr → Prop) (b : Bool) : Addr → Prop := fun a => if b = true then F.OF a else O a
section
variable {F : Fr} {O M : Addr → Prop} {H H1 H2 : Hp} {p q : Bool}
theorem Hx.pm (h : Hx (Pm p M) H H1) : Hx M H H1 := h.mono fun _ z => z.2
theorem Hx.pt (h : Hx (Pm true M) H H1) : Hx No H H1 := h.mono fun _ z => Bool.noConfusion z.1
theorem Hx.tp (h : Hx No H H1) : Hx (Pm p M) H H1 := h.none
theorem Hx.pp (h : Hx (Pm p M) H H1) (h' : Hx (Pm q M) H1 H2) : Hx (Pm (p && q) M) H H2 :=
  (h.mono fun _ z => ⟨by rw [z.1]; rfl, z.2⟩).trans (h'.mono fun _ z => ⟨by rw [z.1, Bool.and_false], z.2⟩)
theorem Hx.weak (h : Hx (Pm p M) H H1) (e : q = true → p = true) : Hx (Pm q M) H H1 := h.mono fun _ z => ⟨by
  cases q with
  | false => rfl
  | true => have := e rfl; rw [this] at z; exact z.1, z.2⟩
end

/-- a new object; a list is known as it stands -/
def Fresh (K : PySem.W.Frag) (H H' : Hp) (d : D) (v : V) : Prop := ∃ a, v = .ref a ∧ H a = none ∧ ∀ xs, d = .list xs → ∃ vs, H' a = some (.lst vs) ∧ RpL K No H' xs vs
theorem Fresh.back {M : Addr → Prop} {K : PySem.W.Frag} {H H1 H2 : Hp} {d : D} {v : V} (f : Fresh K H1 H2 d v) (h : Hx M H H1) : Fresh K H H2 d v := by
  obtain ⟨a, e, n, l⟩ := f
  exact ⟨a, e, h.fresh n, l⟩
/-- the state where an exception flies: nothing is known of the slots -/
def SRu (F : Fr) (G : List (D × V)) (σ : St) (H : Hp) : Prop := ∃ (O M : Addr → Prop) (n : Nat), SR F G O M (List.replicate n Sv.un) σ H
theorem SR.unAll {F : Fr} {G : List (D × V)} {O M : Addr → Prop} {ρ : List Sv} {σ : St} {H H' : Hp} (S : SR F G O M ρ σ H) (h : Hx M H H') (ht : LamX.Tabs F.T H') (hi : F.ios = []) : SRu F G σ H' := by
  refine ⟨O, No, ρ.length, by rw [List.length_replicate]; exact S.len, S.out h, ht, S.ofo, fun _ z => z.elim, S.wf, fun _ z => z.elim, fun a z => h.dm a (S.dom a z), fun i sv x e1 _ => ?_, fun i j a b p _ e1 _ o1 => ?_, fun p hp => (S.gh p hp).hx h S.mo, fun p hp => by rw [hi] at hp; cases hp⟩
  · rw [List.getElem?_replicate] at e1
    split at e1 <;> cases e1
    trivial
  · rw [List.getElem?_replicate] at e1
    split at e1 <;> cases e1
    cases o1
def ExP (F : Fr) (W : WX) (G : List (D × V)) (c : String) (d : D) : Prop :=
  ∀ (σ : St) (dx : Addr) (v : V) (H' : Hp), Hx F.WF F.H0 H' → LamX.Tabs F.T H' → (F.ios = [] → SRu F G σ H') → H' dx = some (.xd [(("what" : Str), v)]) → Rp F.K F.OF H' d v → W (.ref (F.ca c)) (some dx) σ H'
/-- what must hold for an outcome -/
def Post {α : Type} (F : Fr) (W : WX) (G : List (D × V)) (O M : Addr → Prop) (ρ : List Sv) (σ : St) (H : Hp) (p : Bool) (r : Out (α × List Sv)) (R : α → Hp → Prop) : Prop :=
  match r with
  | .ok (a, ρ') => ∀ H', SR F G O M ρ' σ H' → Sim ρ ρ' → Hx (Pm p M) H H' → R a H'
  | .exc c d => ExP F W G c d
  | .bad => False
abbrev EPost (F : Fr) (W : WX) (G : List (D × V)) (O M : Addr → Prop) (ρ : List Sv) (σ : St) (H : Hp) (e : Ef) (r : Out (D × List Sv)) (Q : VK) : Prop :=
  Post F W G O M ρ σ H e.p r fun d H' => ∀ v, Rp F.K (Av F O e.b) H' d v → (e.f = true → Fresh F.K H H' d v) → Q v H'
abbrev LPost (F : Fr) (W : WX) (G : List (D × V)) (O M : Addr → Prop) (ρ : List Sv) (σ : St) (H : Hp) (b p : Bool) (r : Out (List D × List Sv)) (Q : List V → Hp → Prop) : Prop :=
  Post F W G O M ρ σ H p r fun ds H' => ∀ vs, RpL F.K (Av F O b) H' ds vs → Q vs H'
structure CoE (F : Fr) (W : WX) (t : TE) (m : EM) (e : Ef) : Prop where
  go : ∀ G O M ρ σ H Q, SR F G O M ρ σ H → EPost F W G O M ρ σ H e (m ρ) Q → t σ H Q
structure CoT (F : Fr) (W : WX) (t : TT) (m : TM) (p : Bool) : Prop where
  go : ∀ G O M ρ σ H Q, SR F G O M ρ σ H → Post F W G O M ρ σ H p (m ρ) Q → t σ H Q
structure CoA (F : Fr) (W : WX) (t : TA) (m : LM) (b p : Bool) : Prop where
  go : ∀ G O M ρ σ H Q, SR F G O M ρ σ H → LPost F W G O M ρ σ H b p (m ρ) Q → t σ H Q
structure ME (X : Cx) (F : Fr) (W : WX) (x : Expr) (t : TE) (m : EM) (e : Ef) : Prop where
  k : X.K = F.K
  pe : PE X x t
  co : CoE F W t m e
structure MT (X : Cx) (F : Fr) (W : WX) (x : Expr) (t : TT) (m : TM) (p : Bool) : Prop where
  k : X.K = F.K
  pe : PT X x t
  co : CoT F W t m p
structure MW (X : Cx) (F : Fr) (W : WX) (x : Expr) (t : TT) (m : TM) (p : Bool) : Prop where
  k : X.K = F.K
  pe : PW X x t
  co : CoT F W t m p
structure MA (X : Cx) (F : Fr) (W : WX) (xs : List Expr) (t : TA) (m : LM) (b p : Bool) : Prop where
  k : X.K = F.K
  pe : PA X xs t
  co : CoA F W t m b p

section
variable {F : Fr} {W : WX} {G : List (D × V)} {O M : Addr → Prop} {ρ ρ1 : List Sv} {σ : St} {H H1 H2 : Hp}
theorem Rp.av {b c : Bool} {d : D} {v : V} (S : SR F G O M ρ σ H) (r : Rp F.K (Av F O b) H1 d v) (h : b = true → c = true) : Rp F.K (Av F O c) H1 d v := r.sub fun a z => by
  unfold Av at z ⊢
  cases b <;> cases c
  · exact z
  · exact S.ofo a z
  · exact absurd (h rfl) Bool.false_ne_true
  · exact z
theorem RpL.av {b c : Bool} {d : List D} {v : List V} (S : SR F G O M ρ σ H) (r : RpL F.K (Av F O b) H1 d v) (h : b = true → c = true) : RpL F.K (Av F O c) H1 d v := r.sub fun a z => by
  unfold Av at z ⊢
  cases b <;> cases c
  · exact z
  · exact S.ofo a z
  · exact absurd (h rfl) Bool.false_ne_true
  · exact z
theorem Rp.keep {b p : Bool} {d : D} {v : V} (S : SR F G O M ρ σ H) (hp : (!b || p) = true) (r : Rp F.K (Av F O b) H1 d v) (h : Hx (Pm p M) H1 H2) : Rp F.K (Av F O b) H2 d v := by
  cases b with
  | false => exact r.hx h.pm S.mo
  | true =>
    have e : p = true := by simpa using hp
    subst e
    exact r.hx h.pt fun _ z => z.elim
theorem RpL.keep {b p : Bool} {d : List D} {v : List V} (S : SR F G O M ρ σ H) (hp : (!b || p) = true) (r : RpL F.K (Av F O b) H1 d v) (h : Hx (Pm p M) H1 H2) : RpL F.K (Av F O b) H2 d v := by
  cases b with
  | false => exact r.hx h.pm S.mo
  | true =>
    have e : p = true := by simpa using hp
    subst e
    exact r.hx h.pt fun _ z => z.elim
end

/-! ### names and constants -/
def eVar (i : Nat) : EM := fun ρ => match ρ[i]? with
  | some (.va d) => .ok (d, ρ)
  | _ => .bad
/-- an owned list, read -/
def eOwn (i : Nat) : EM := fun ρ => match ρ[i]? with
  | some (.ow (.lst xs)) => .ok (.list xs, ρ)
  | _ => .bad
def eC (d : D) : EM := fun ρ => .ok (d, ρ)
section
variable {X : Cx} {F : Fr} {W : WX}
theorem co_var {i : Nat} : CoE F W (tVar i) (eVar i) ⟨false, true, false⟩ := ⟨fun G O M ρ σ H Q S h => by
  unfold eVar at h
  cases e : ρ[i]? with
  | none => rw [e] at h; exact h.elim
  | some sv =>
    rw [e] at h
    cases sv with
    | va d =>
      have l : i < σ.length := by rw [← S.len]; exact (List.getElem?_eq_some_iff.mp e).1
      obtain ⟨v, ev, r⟩ := S.sl i _ σ[i] e (by simp [l])
      exact ⟨v, by simp [l, ev], h H S (Sim.refl ρ) (Hx.refl _ H) v r (fun z => Bool.noConfusion z)⟩
    | _ => exact h.elim⟩
theorem co_own {i : Nat} : CoE F W (tVar i) (eOwn i) ⟨true, true, false⟩ := ⟨fun G O M ρ σ H Q S h => by
  unfold eOwn at h
  cases e : ρ[i]? with
  | none => rw [e] at h; exact h.elim
  | some sv =>
    rw [e] at h
    cases sv with
    | ow o =>
      cases o with
      | lst xs =>
        have l : i < σ.length := by rw [← S.len]; exact (List.getElem?_eq_some_iff.mp e).1
        obtain ⟨a, u, ev, m, n, eu, ob⟩ := S.sl i _ σ[i] e (by simp [l])
        cases u with
        | lst vs => exact ⟨.ref a, by simp [l, ev], h H S (Sim.refl ρ) (Hx.refl _ H) _ (.lst eu n (ob.2.mvN (fun _ _ e _ _ => e) ob.1)) (fun z => Bool.noConfusion z)⟩
        | _ => exact ob.elim
      | _ => exact h.elim
    | _ => exact h.elim⟩
theorem co_c {d : D} {v : V} (r : ∀ K O H, Rp K O H d v) : CoE F W (tC v) (eC d) ⟨false, true, false⟩ := ⟨fun G O M ρ σ H Q S h =>
  h H S (Sim.refl ρ) (Hx.refl _ H) v (r _ _ _) (fun z => Bool.noConfusion z)⟩
theorem me_var (i : Nat) {x : Str} {pos : Pos} (hK : X.K = F.K := by rfl) (hN : X.N[i]? = some x := by rfl) (hv : Vis X.env.scope x := by first | exact Or.inl rfl | exact Or.inr (Or.inl rfl) | exact Or.inr (Or.inr rfl))
    (hd : (x == ("__debug__" : Str)) = false := by decide) (hcd : (x == ("__classdict__" : Str)) = false := by decide) : ME X F W (.Name x pos) (tVar i) (eVar i) ⟨false, true, false⟩ := ⟨hK, pe_var hN hv hd hcd, co_var⟩
theorem me_own (i : Nat) {x : Str} {pos : Pos} (hK : X.K = F.K := by rfl) (hN : X.N[i]? = some x := by rfl) (hv : Vis X.env.scope x := by first | exact Or.inl rfl | exact Or.inr (Or.inl rfl) | exact Or.inr (Or.inr rfl))
    (hd : (x == ("__debug__" : Str)) = false := by decide) (hcd : (x == ("__classdict__" : Str)) = false := by decide) : ME X F W (.Name x pos) (tVar i) (eOwn i) ⟨true, true, false⟩ := ⟨hK, pe_var hN hv hd hcd, co_own⟩
theorem me_int {i : Int} {j : Nat} {pos : Pos} (hK : X.K = F.K := by rfl) : ME X F W (.Constant (.int i) j pos) (tC (.int i)) (eC (.int i)) ⟨false, true, false⟩ := ⟨hK, pe_int, co_c fun _ _ _ => .int i⟩
theorem me_str {i : Str} {j : Nat} {pos : Pos} (hK : X.K = F.K := by rfl) : ME X F W (.Constant (.str i) j pos) (tC (.str i)) (eC (.str i)) ⟨false, true, false⟩ := ⟨hK, pe_str, co_c fun _ _ _ => .str i⟩
theorem me_bl {i : Bool} {j : Nat} {pos : Pos} (hK : X.K = F.K := by rfl) : ME X F W (.Constant (.bool i) j pos) (tC (.bl i)) (eC (.bool i)) ⟨false, true, false⟩ := ⟨hK, pe_bl, co_c fun _ _ _ => .bl i⟩
theorem me_non {j : Nat} {pos : Pos} (hK : X.K = F.K := by rfl) : ME X F W (.Constant .none j pos) (tC .non) (eC .none) ⟨false, true, false⟩ := ⟨hK, pe_non, co_c fun _ _ _ => .non⟩
end

/-! ### two values, an operation -/
def eOp (g : D → D → Out D) (a b : EM) : EM := fun ρ => (a ρ).bind fun x => (b x.2).bind fun y => (g x.1 y.1).bind fun z => .ok (z, y.2)
def eUn (g : D → Out D) (a : EM) : EM := fun ρ => (a ρ).bind fun x => (g x.1).bind fun z => .ok (z, x.2)
/-- an operation on values: r its reading, g its mirror; s: the result holds no list; f: it is new -/
structure V2 (K : PySem.W.Frag) (r : R2) (g : D → D → Out D) (s f : Bool) : Prop where
  go : ∀ (A : Addr → Prop) (H : Hp) (x y : V) (d1 d2 d : D) (Q : VK), (∀ a, A a → H a ≠ none) → Rp K A H d1 x → Rp K A H d2 y → g d1 d2 = .ok d → (∀ v H', L2.Same H H' → Rp K A H' d v → (f = true → Fresh K H H' d v) → Q v H') → r x y H Q
  sc : s = true → ∀ d1 d2 d, g d1 d2 = .ok d → noL d = true
  ne : ∀ d1 d2 c d, g d1 d2 ≠ .exc c d
structure V1 (K : PySem.W.Frag) (r : V → Hp → VK → Prop) (g : D → Out D) (s f : Bool) : Prop where
  go : ∀ (A : Addr → Prop) (H : Hp) (x : V) (d1 d : D) (Q : VK), (∀ a, A a → H a ≠ none) → Rp K A H d1 x → g d1 = .ok d → (∀ v H', L2.Same H H' → Rp K A H' d v → (f = true → Fresh K H H' d v) → Q v H') → r x H Q
  sc : s = true → ∀ d1 d, g d1 = .ok d → noL d = true
  ne : ∀ d1 c d, g d1 ≠ .exc c d
structure VN (K : PySem.W.Frag) (r : List V → Hp → VK → Prop) (g : List D → Out D) (s f : Bool) : Prop where
  go : ∀ (A : Addr → Prop) (H : Hp) (xs : List V) (ds : List D) (d : D) (Q : VK), (∀ a, A a → H a ≠ none) → RpL K A H ds xs → g ds = .ok d → (∀ v H', L2.Same H H' → Rp K A H' d v → (f = true → Fresh K H H' d v) → Q v H') → r xs H Q
  sc : s = true → ∀ ds d, g ds = .ok d → noL d = true
  ne : ∀ ds c d, g ds ≠ .exc c d
section
variable {F : Fr} {W : WX} {G : List (D × V)} {O M : Addr → Prop} {ρ ρ1 : List Sv} {σ : St} {H H1 H2 : Hp}
theorem SR.avdom (S : SR F G O M ρ σ H) (b : Bool) : ∀ a, Av F O b a → H a ≠ none := fun a z => S.dom a (by
  unfold Av at z
  cases b with
  | false => exact z
  | true => exact S.ofo a z)
theorem Av.sc {b s : Bool} {d : D} {v : V} (r : Rp F.K (Av F O b) H1 d v) (hs : s = true → noL d = true) : Rp F.K (Av F O (b && !s)) H1 d v := by
  cases s with
  | false => rw [Bool.not_false, Bool.and_true]; exact r
  | true => exact r.noL (hs rfl)
theorem same_no (h : L2.Same H H1) : Hx No H H1 := Hx.of_same h
theorem co_op {ta tb : TE} {a b : EM} {e1 e2 : Ef} {r : R2} {g : D → D → Out D} {s f : Bool} (ha : CoE F W ta a e1) (hb : CoE F W tb b e2) (hr : V2 F.K r g s f) (hp : (!e1.b || e2.p) = true) :
    CoE F W (tOp r ta tb) (eOp g a b) ⟨(e1.b || e2.b) && !s, e1.p && e2.p, f⟩ := ⟨fun G O M ρ σ H Q S h => by
  unfold eOp at h
  refine ha.go G O M ρ σ H _ S ?_
  cases e : a ρ with
  | bad => rw [e] at h; exact h
  | exc c d => rw [e] at h; exact h
  | ok x =>
    obtain ⟨x, ρ1⟩ := x
    rw [e] at h
    intro H1 S1 m1 x1 v r1 _
    refine hb.go G O M ρ1 σ H1 _ S1 ?_
    have h : Post F W G O M ρ σ H (e1.p && e2.p) ((b ρ1).bind fun y => (g x y.1).bind fun z => .ok (z, y.2)) _ := h
    cases e' : b ρ1 with
    | bad => rw [e'] at h; exact h
    | exc c d => rw [e'] at h; exact h
    | ok y =>
      obtain ⟨y, ρ2⟩ := y
      rw [e'] at h
      intro H2 S2 m2 x2 u r2 _
      have h : Post F W G O M ρ σ H (e1.p && e2.p) ((g x y).bind fun z => .ok (z, ρ2)) _ := h
      cases e3 : g x y with
      | bad => rw [e3] at h; exact h.elim
      | exc c d => exact absurd e3 (hr.ne _ _ _ _)
      | ok z =>
        rw [e3] at h
        have q1 : Rp F.K (Av F O (e1.b || e2.b)) H2 x v := (r1.keep S1 hp x2).av S1 fun z => by rw [z]; rfl
        have q2 : Rp F.K (Av F O (e1.b || e2.b)) H2 y u := r2.av S1 fun z => by rw [z, Bool.or_true]
        refine hr.go (Av F O (e1.b || e2.b)) H2 v u x y z Q (S2.avdom _) q1 q2 e3 fun w H3 sm r3 f3 => ?_
        refine h H3 (S2.same sm) (m1.trans m2) ((x1.pp x2).trans (Hx.of_same sm)) w (Av.sc r3 fun z => hr.sc z _ _ _ e3) fun z => ((f3 z).back x2).back x1⟩
theorem co_un {ta : TE} {a : EM} {e1 : Ef} {r : V → Hp → VK → Prop} {g : D → Out D} {s f : Bool} (ha : CoE F W ta a e1) (hr : V1 F.K r g s f) :
    CoE F W (tUn r ta) (eUn g a) ⟨e1.b && !s, e1.p, f⟩ := ⟨fun G O M ρ σ H Q S h => by
  unfold eUn at h
  refine ha.go G O M ρ σ H _ S ?_
  cases e : a ρ with
  | bad => rw [e] at h; exact h
  | exc c d => rw [e] at h; exact h
  | ok x =>
    obtain ⟨x, ρ1⟩ := x
    rw [e] at h
    intro H1 S1 m1 x1 v r1 _
    have h : Post F W G O M ρ σ H e1.p ((g x).bind fun z => .ok (z, ρ1)) _ := h
    cases e3 : g x with
    | bad => rw [e3] at h; exact h.elim
    | exc c d => exact absurd e3 (hr.ne _ _ _)
    | ok z =>
      rw [e3] at h
      refine hr.go (Av F O e1.b) H1 v x z Q (S1.avdom _) r1 e3 fun w H3 sm r3 f3 => ?_
      refine h H3 (S1.same sm) m1 (x1.trans (Hx.of_same sm)) w (Av.sc r3 fun z => hr.sc z _ _ e3) fun z => (f3 z).back x1⟩
end

/-! ### tests -/
def eTst (a : EM) : TM := fun ρ => (a ρ).bind fun x => match x.1 with
  | .bool b => .ok (b, x.2)
  | _ => .bad
def mAnd (a b : TM) : TM := fun ρ => (a ρ).bind fun x => if x.1 = true then b x.2 else .ok (false, x.2)
def mOr (a b : TM) : TM := fun ρ => (a ρ).bind fun x => if x.1 = true then .ok (true, x.2) else b x.2
def mNot (a : TM) : TM := fun ρ => (a ρ).bind fun x => .ok (!x.1, x.2)
def eIf (c : TM) (a b : EM) : EM := fun ρ => (c ρ).bind fun x => if x.1 = true then a x.2 else b x.2
def eAndV (a b : EM) : EM := fun ρ => (a ρ).bind fun x => match x.1 with
  | .bool true => b x.2
  | .bool false => .ok (.bool false, x.2)
  | _ => .bad
def eOrV (a b : EM) : EM := fun ρ => (a ρ).bind fun x => match x.1 with
  | .bool false => b x.2
  | .bool true => .ok (.bool true, x.2)
  | _ => .bad
def eNotV (a : EM) : EM := fun ρ => (a ρ).bind fun x => match x.1 with
  | .bool b => .ok (.bool (!b), x.2)
  | _ => .bad
section
variable {F : Fr} {W : WX} {G : List (D × V)} {O M : Addr → Prop} {ρ ρ1 : List Sv} {σ : St} {H H1 H2 : Hp}
theorem Post.lift {α : Type} {p p' : Bool} {r : Out (α × List Sv)} {R R' : α → Hp → Prop} (m1 : Sim ρ ρ1) (x1 : Hx (Pm p M) H H1) (h : Post F W G O M ρ σ H (p && p') r R) (k : ∀ a H', R a H' → R' a H') : Post F W G O M ρ1 σ H1 p' r R' := by
  cases r with
  | ok a =>
    intro H2 S2 m2 x2
    exact k _ _ (h H2 S2 (m1.trans m2) (x1.pp x2))
  | exc c d => exact h
  | bad => exact h
theorem Post.imp {α : Type} {p : Bool} {r : Out (α × List Sv)} {R R' : α → Hp → Prop} (h : Post F W G O M ρ σ H p r R) (k : ∀ a H', R a H' → R' a H') : Post F W G O M ρ σ H p r R' := by
  cases r with
  | ok a => exact fun H2 S2 m2 x2 => k _ _ (h H2 S2 m2 x2)
  | exc c d => exact h
  | bad => exact h
theorem co_tst {ta : TE} {a : EM} {e1 : Ef} (ha : CoE F W ta a e1) : CoT F W (tTest ta) (eTst a) e1.p := ⟨fun G O M ρ σ H Q S h => by
  unfold eTst at h
  refine ha.go G O M ρ σ H _ S ?_
  cases e : a ρ with
  | bad => rw [e] at h; exact h
  | exc c d => rw [e] at h; exact h
  | ok x =>
    obtain ⟨x, ρ1⟩ := x
    rw [e] at h
    intro H1 S1 m1 x1 v r1 _
    cases x with
    | bool b => cases r1; exact ⟨b, rfl, h H1 S1 m1 x1⟩
    | _ => exact h.elim⟩
theorem co_tB {ta : TE} {a : EM} {e1 : Ef} (ha : CoE F W ta a e1) : CoT F W (tB ta) (eTst a) e1.p := ⟨fun G O M ρ σ H Q S h => (co_tst ha).go G O M ρ σ H Q S h⟩
theorem co_and {ta tb : TT} {a b : TM} {p q : Bool} (ha : CoT F W ta a p) (hb : CoT F W tb b q) : CoT F W (tAnd ta tb) (mAnd a b) (p && q) := ⟨fun G O M ρ σ H Q S h => by
  unfold mAnd at h
  refine ha.go G O M ρ σ H _ S ?_
  cases e : a ρ with
  | bad => rw [e] at h; exact h
  | exc c d => rw [e] at h; exact h
  | ok x =>
    obtain ⟨x, ρ1⟩ := x
    rw [e] at h
    intro H1 S1 m1 x1
    cases x with
    | true => exact hb.go G O M ρ1 σ H1 Q S1 (Post.lift m1 x1 h fun _ _ z => z)
    | false => exact h H1 S1 m1 (x1.weak fun z => (Bool.and_eq_true_iff.mp z).1)⟩
theorem co_or {ta tb : TT} {a b : TM} {p q : Bool} (ha : CoT F W ta a p) (hb : CoT F W tb b q) : CoT F W (tOr ta tb) (mOr a b) (p && q) := ⟨fun G O M ρ σ H Q S h => by
  unfold mOr at h
  refine ha.go G O M ρ σ H _ S ?_
  cases e : a ρ with
  | bad => rw [e] at h; exact h
  | exc c d => rw [e] at h; exact h
  | ok x =>
    obtain ⟨x, ρ1⟩ := x
    rw [e] at h
    intro H1 S1 m1 x1
    cases x with
    | false => exact hb.go G O M ρ1 σ H1 Q S1 (Post.lift m1 x1 h fun _ _ z => z)
    | true => exact h H1 S1 m1 (x1.weak fun z => (Bool.and_eq_true_iff.mp z).1)⟩
theorem co_not {ta : TT} {a : TM} {p : Bool} (ha : CoT F W ta a p) : CoT F W (tNot ta) (mNot a) p := ⟨fun G O M ρ σ H Q S h => by
  unfold mNot at h
  refine ha.go G O M ρ σ H _ S ?_
  cases e : a ρ with
  | bad => rw [e] at h; exact h
  | exc c d => rw [e] at h; exact h
  | ok x =>
    obtain ⟨x, ρ1⟩ := x
    rw [e] at h
    intro H1 S1 m1 x1
    exact h H1 S1 m1 x1⟩
theorem co_if {tc : TT} {ta tb : TE} {c : TM} {a b : EM} {p : Bool} {e1 e2 : Ef} (hc : CoT F W tc c p) (ha : CoE F W ta a e1) (hb : CoE F W tb b e2) : CoE F W (tIf tc ta tb) (eIf c a b) ⟨e1.b || e2.b, p && (e1.p && e2.p), e1.f && e2.f⟩ := ⟨fun G O M ρ σ H Q S h => by
  unfold eIf at h
  refine hc.go G O M ρ σ H _ S ?_
  cases e : c ρ with
  | bad => rw [e] at h; exact h
  | exc c d => rw [e] at h; exact h
  | ok x =>
    obtain ⟨x, ρ1⟩ := x
    rw [e] at h
    intro H1 S1 m1 x1
    cases x with
    | true =>
      refine ha.go G O M ρ1 σ H1 Q S1 ?_
      have h : Post F W G O M ρ σ H (p && (e1.p && e2.p)) (a ρ1) _ := h
      cases e' : a ρ1 with
      | bad => rw [e'] at h; exact h
      | exc c d => rw [e'] at h; exact h
      | ok y =>
        obtain ⟨y, ρ2⟩ := y
        rw [e'] at h
        intro H2 S2 m2 x2 u r2 f2
        refine h H2 S2 (m1.trans m2) ((x1.pp x2).weak fun z => ?_) u (r2.av S1 fun z => by show (e1.b || e2.b) = true; rw [z]; rfl) fun z => (f2 (Bool.and_eq_true_iff.mp z).1).back x1
        revert z; cases p <;> cases e1.p <;> simp
    | false =>
      refine hb.go G O M ρ1 σ H1 Q S1 ?_
      have h : Post F W G O M ρ σ H (p && (e1.p && e2.p)) (b ρ1) _ := h
      cases e' : b ρ1 with
      | bad => rw [e'] at h; exact h
      | exc c d => rw [e'] at h; exact h
      | ok y =>
        obtain ⟨y, ρ2⟩ := y
        rw [e'] at h
        intro H2 S2 m2 x2 u r2 f2
        refine h H2 S2 (m1.trans m2) ((x1.pp x2).weak fun z => ?_) u (r2.av S1 fun z => by show (e1.b || e2.b) = true; rw [z, Bool.or_true]) fun z => (f2 (Bool.and_eq_true_iff.mp z).2).back x1
        revert z; cases p <;> cases e1.p <;> simp⟩
theorem co_andV {ta tb : TE} {a b : EM} {e1 e2 : Ef} (ha : CoE F W ta a e1) (hb : CoE F W tb b e2) : CoE F W (tAndV ta tb) (eAndV a b) ⟨e2.b, e1.p && e2.p, false⟩ := ⟨fun G O M ρ σ H Q S h => by
  unfold eAndV at h
  refine ha.go G O M ρ σ H _ S ?_
  cases e : a ρ with
  | bad => rw [e] at h; exact h
  | exc c d => rw [e] at h; exact h
  | ok x =>
    obtain ⟨x, ρ1⟩ := x
    rw [e] at h
    intro H1 S1 m1 x1 v r1 _
    cases x with
    | bool c =>
      cases r1
      refine ⟨c, rfl, ?_⟩
      cases c with
      | true =>
        rw [if_pos rfl]
        refine hb.go G O M ρ1 σ H1 Q S1 (Post.lift m1 x1 h fun d H' z v r _ => z v r fun q => Bool.noConfusion q)
      | false =>
        rw [if_neg Bool.false_ne_true]
        exact h H1 S1 m1 (x1.weak fun z => (Bool.and_eq_true_iff.mp z).1) _ (.bl false) fun q => Bool.noConfusion q
    | _ => exact h.elim⟩
theorem co_orV {ta tb : TE} {a b : EM} {e1 e2 : Ef} (ha : CoE F W ta a e1) (hb : CoE F W tb b e2) : CoE F W (tOrV ta tb) (eOrV a b) ⟨e2.b, e1.p && e2.p, false⟩ := ⟨fun G O M ρ σ H Q S h => by
  unfold eOrV at h
  refine ha.go G O M ρ σ H _ S ?_
  cases e : a ρ with
  | bad => rw [e] at h; exact h
  | exc c d => rw [e] at h; exact h
  | ok x =>
    obtain ⟨x, ρ1⟩ := x
    rw [e] at h
    intro H1 S1 m1 x1 v r1 _
    cases x with
    | bool c =>
      cases r1
      refine ⟨c, rfl, ?_⟩
      cases c with
      | false =>
        rw [if_neg Bool.false_ne_true]
        refine hb.go G O M ρ1 σ H1 Q S1 (Post.lift m1 x1 h fun d H' z v r _ => z v r fun q => Bool.noConfusion q)
      | true =>
        rw [if_pos rfl]
        exact h H1 S1 m1 (x1.weak fun z => (Bool.and_eq_true_iff.mp z).1) _ (.bl true) fun q => Bool.noConfusion q
    | _ => exact h.elim⟩
theorem co_notV {ta : TE} {a : EM} {e1 : Ef} (ha : CoE F W ta a e1) : CoE F W (tNotV ta) (eNotV a) ⟨false, e1.p, false⟩ := ⟨fun G O M ρ σ H Q S h => by
  unfold eNotV at h
  refine ha.go G O M ρ σ H _ S ?_
  cases e : a ρ with
  | bad => rw [e] at h; exact h
  | exc c d => rw [e] at h; exact h
  | ok x =>
    obtain ⟨x, ρ1⟩ := x
    rw [e] at h
    intro H1 S1 m1 x1 v r1 _
    cases x with
    | bool c =>
      cases r1
      exact ⟨c, rfl, h H1 S1 m1 x1 _ (.bl _) fun q => Bool.noConfusion q⟩
    | _ => exact h.elim⟩
end
section
variable {X : Cx} {F : Fr} {W : WX} {a b c : Expr} {ta tb tc : TE} {ma mb mc : EM} {e1 e2 e3 : Ef} {pos : Pos} {s f : Bool} {r : R2} {g : D → D → Out D} {t1 t2 : TT} {m1 m2 : TM} {p q : Bool} {rest : List Expr}
theorem me_op {op : Operator} (ho : OpR X (binaryOp op) r) (hr : V2 F.K r g s f) (ha : ME X F W a ta ma e1) (hb : ME X F W b tb mb e2) (hp : (!e1.b || e2.p) = true := by rfl) : ME X F W (.BinOp a op b pos) (tOp r ta tb) (eOp g ma mb) ⟨(e1.b || e2.b) && !s, e1.p && e2.p, f⟩ :=
  ⟨ha.k, pe_op ho ha.pe hb.pe, co_op ha.co hb.co hr hp⟩
theorem me_un {op : UnaryOp} {r : V → Hp → VK → Prop} {g : D → Out D} (ho : UnR X (unaryOp op) r) (hr : V1 F.K r g s f) (ha : ME X F W a ta ma e1) : ME X F W (.UnaryOp op a pos) (tUn r ta) (eUn g ma) ⟨e1.b && !s, e1.p, f⟩ :=
  ⟨ha.k, pe_un ho ha.pe, co_un ha.co hr⟩
theorem me_cmp {op : CmpOp} (ho : OpR X (compareOp op) r) (hr : V2 F.K r g s f) (ha : ME X F W a ta ma e1) (hb : ME X F W b tb mb e2) (hm : behindInMarks op b = false) (hp : (!e1.b || e2.p) = true := by rfl) : ME X F W (.Compare a [op] [b] pos) (tOp r ta tb) (eOp g ma mb) ⟨(e1.b || e2.b) && !s, e1.p && e2.p, f⟩ :=
  ⟨ha.k, pe_cmpR ho ha.pe hb.pe hm, co_op ha.co hb.co hr hp⟩
theorem mt_cmp {op : CmpOp} (ho : OpR X (compareOp op) r) (hr : V2 F.K r g s f) (ha : ME X F W a ta ma e1) (hb : ME X F W b tb mb e2) (hm : behindInMarks op b = false) (hp : (!e1.b || e2.p) = true := by rfl) : MT X F W (.Compare a [op] [b] pos) (tTest (tOp r ta tb)) (eTst (eOp g ma mb)) (e1.p && e2.p) :=
  ⟨ha.k, pt_cmpR ho ha.pe hb.pe hm, co_tst (co_op ha.co hb.co hr hp)⟩
theorem mt_val (ha : ME X F W a ta ma e1) (he : ∀ whole, isTrue a X.env whole = (do let v ← whole; standAt a.pos; holding [v] (truthy v)) := by intro _; rfl) : MT X F W a (tB ta) (eTst ma) e1.p := ⟨ha.k, pt_val ha.pe he, co_tB ha.co⟩
theorem MW.mt (h : MW X F W a t1 m1 p) : MT X F W a t1 m1 p := ⟨h.k, h.pe.pt, h.co⟩
theorem mw_and1 (ha : MT X F W a t1 m1 p) : MW X F W (.BoolOp .And [a] pos) t1 m1 p := ⟨ha.k, pw_and1 ha.pe, ha.co⟩
theorem mw_or1 (ha : MT X F W a t1 m1 p) : MW X F W (.BoolOp .Or [a] pos) t1 m1 p := ⟨ha.k, pw_or1 ha.pe, ha.co⟩
theorem mw_and (ha : MT X F W a t1 m1 p) (hb : MW X F W (.BoolOp .And (b :: rest) pos) t2 m2 q) : MW X F W (.BoolOp .And (a :: b :: rest) pos) (tAnd t1 t2) (mAnd m1 m2) (p && q) := ⟨ha.k, pw_and ha.pe hb.pe, co_and ha.co hb.co⟩
theorem mw_or (ha : MT X F W a t1 m1 p) (hb : MW X F W (.BoolOp .Or (b :: rest) pos) t2 m2 q) : MW X F W (.BoolOp .Or (a :: b :: rest) pos) (tOr t1 t2) (mOr m1 m2) (p && q) := ⟨ha.k, pw_or ha.pe hb.pe, co_or ha.co hb.co⟩
theorem mt_not (ha : MT X F W a t1 m1 p) : MT X F W (.UnaryOp .Not a pos) (tNot t1) (mNot m1) p := ⟨ha.k, pt_not ha.pe, co_not ha.co⟩
theorem me_if (hc : MT X F W c t1 m1 p) (ha : ME X F W a ta ma e1) (hb : ME X F W b tb mb e2) : ME X F W (.IfExp c a b pos) (tIf t1 ta tb) (eIf m1 ma mb) ⟨e1.b || e2.b, p && (e1.p && e2.p), e1.f && e2.f⟩ := ⟨ha.k, pe_ifExp hc.pe ha.pe hb.pe, co_if hc.co ha.co hb.co⟩
theorem me_one {op : BoolOp} (ha : ME X F W a ta ma e1) : ME X F W (.BoolOp op [a] pos) ta ma e1 := ⟨ha.k, pe_one ha.pe, ha.co⟩
theorem me_and (ha : ME X F W a ta ma e1) (hb : ME X F W (.BoolOp .And (b :: rest) pos) tb mb e2) : ME X F W (.BoolOp .And (a :: b :: rest) pos) (tAndV ta tb) (eAndV ma mb) ⟨e2.b, e1.p && e2.p, false⟩ := ⟨ha.k, pe_and ha.pe hb.pe, co_andV ha.co hb.co⟩
theorem me_or (ha : ME X F W a ta ma e1) (hb : ME X F W (.BoolOp .Or (b :: rest) pos) tb mb e2) : ME X F W (.BoolOp .Or (a :: b :: rest) pos) (tOrV ta tb) (eOrV ma mb) ⟨e2.b, e1.p && e2.p, false⟩ := ⟨ha.k, pe_or ha.pe hb.pe, co_orV ha.co hb.co⟩
theorem me_not (ha : ME X F W a ta ma e1) : ME X F W (.UnaryOp .Not a pos) (tNotV ta) (eNotV ma) ⟨false, e1.p, false⟩ := ⟨ha.k, pe_not ha.pe, co_notV ha.co⟩
end

/-! ### argument lists, displays -/
def lNil : LM := fun ρ => .ok ([], ρ)
def lCons (a : EM) (r : LM) : LM := fun ρ => (a ρ).bind fun x => (r x.2).bind fun y => .ok (x.1 :: y.1, y.2)
def szOk (n : Nat) : Bool := decide (n ≤ 16777216)
def eTup (r : LM) : EM := fun ρ => (r ρ).bind fun x => if szOk x.1.length = true then .ok (.tuple x.1, x.2) else .bad
def eLst (r : LM) : EM := fun ρ => (r ρ).bind fun x => if szOk x.1.length = true then .ok (.list x.1, x.2) else .bad
theorem szOk_le {n : Nat} (h : szOk n = true) : n ≤ sizeLine := by
  rw [sizeLine_eq]
  exact of_decide_eq_true h
section
variable {F : Fr} {W : WX} {G : List (D × V)} {O M : Addr → Prop} {ρ ρ1 : List Sv} {σ : St} {H H1 H2 : Hp}
theorem co_nil : CoA F W tNil lNil false true := ⟨fun G O M ρ σ H Q S h => h H S (Sim.refl ρ) (Hx.refl _ H) [] .nil⟩
theorem co_cons {ta : TE} {tr : TA} {a : EM} {r : LM} {e1 : Ef} {b p : Bool} (ha : CoE F W ta a e1) (hr : CoA F W tr r b p) (hp : (!e1.b || p) = true) : CoA F W (tCons ta tr) (lCons a r) (e1.b || b) (e1.p && p) := ⟨fun G O M ρ σ H Q S h => by
  unfold lCons at h
  refine ha.go G O M ρ σ H _ S ?_
  cases e : a ρ with
  | bad => rw [e] at h; exact h
  | exc c d => rw [e] at h; exact h
  | ok x =>
    obtain ⟨x, ρ1⟩ := x
    rw [e] at h
    intro H1 S1 m1 x1 v r1 _
    refine hr.go G O M ρ1 σ H1 _ S1 ?_
    have h : Post F W G O M ρ σ H (e1.p && p) ((r ρ1).bind fun y => .ok (x :: y.1, y.2)) _ := h
    cases e' : r ρ1 with
    | bad => rw [e'] at h; exact h
    | exc c d => rw [e'] at h; exact h
    | ok y =>
      obtain ⟨y, ρ2⟩ := y
      rw [e'] at h
      intro H2 S2 m2 x2 us r2
      exact h H2 S2 (m1.trans m2) (x1.pp x2) (v :: us) (.cons ((r1.keep S1 hp x2).av S1 fun z => by rw [z]; rfl) (r2.av S1 fun z => by rw [z, Bool.or_true]))⟩
theorem rp_lstN {K : PySem.W.Frag} {A : Addr → Prop} {p : Addr} {ds : List D} {vs : List V} (n : H p = none) (hd : ∀ a, A a → H a ≠ none) (r : RpL K A H ds vs) : Rp K A (upd H p (.lst vs)) (.list ds) (.ref p) :=
  .lst upd_same (fun z => hd p z n) (r.same (same_new n))
theorem rp_tupN {K : PySem.W.Frag} {A : Addr → Prop} {p : Addr} {ds : List D} {vs : List V} (n : H p = none) (r : RpL K A H ds vs) : Rp K A (upd H p (.tup vs)) (.tuple ds) (.ref p) :=
  .tup (SqT.of upd_same) (r.same (same_new n))
theorem co_tup {t : TA} {r : LM} {b p : Bool} (h1 : CoA F W t r b p) : CoE F W (tTup t) (eTup r) ⟨b, p, true⟩ := ⟨fun G O M ρ σ H Q S h => by
  unfold eTup at h
  refine h1.go G O M ρ σ H _ S ?_
  cases e : r ρ with
  | bad => rw [e] at h; exact h
  | exc c d => rw [e] at h; exact h
  | ok x =>
    obtain ⟨x, ρ1⟩ := x
    rw [e] at h
    intro H1 S1 m1 x1 vs r1
    have h : Post F W G O M ρ σ H p (if szOk x.length = true then .ok (PyData.tuple x, ρ1) else .bad) _ := h
    by_cases hz : szOk x.length = true
    · rw [if_pos hz] at h
      refine ⟨by rw [← r1.len]; exact szOk_le hz, fun q hq => ?_⟩
      refine h _ (S1.same (same_new hq)) m1 (x1.trans (Hx.of_same (same_new hq))) _ (rp_tupN hq r1) fun _ => ⟨q, rfl, x1.fresh hq, fun _ z => by cases z⟩
    · rw [if_neg hz] at h; exact h.elim⟩
theorem co_lst {t : TA} {r : LM} {b p : Bool} (h1 : CoA F W t r b p) : CoE F W (tLst t) (eLst r) ⟨b, p, true⟩ := ⟨fun G O M ρ σ H Q S h => by
  unfold eLst at h
  refine h1.go G O M ρ σ H _ S ?_
  cases e : r ρ with
  | bad => rw [e] at h; exact h
  | exc c d => rw [e] at h; exact h
  | ok x =>
    obtain ⟨x, ρ1⟩ := x
    rw [e] at h
    intro H1 S1 m1 x1 vs r1
    have h : Post F W G O M ρ σ H p (if szOk x.length = true then .ok (PyData.list x, ρ1) else .bad) _ := h
    by_cases hz : szOk x.length = true
    · rw [if_pos hz] at h
      refine ⟨by rw [← r1.len]; exact szOk_le hz, fun q hq => ?_⟩
      refine h _ (S1.same (same_new hq)) m1 (x1.trans (Hx.of_same (same_new hq))) _ (rp_lstN hq (S1.avdom b) r1) fun _ => ⟨q, rfl, x1.fresh hq, fun xs z => by cases z; exact ⟨vs, upd_same, (r1.sub fun _ z => z.elim).same (same_new hq)⟩⟩
    · rw [if_neg hz] at h; exact h.elim⟩
end
section
variable {X : Cx} {F : Fr} {W : WX} {a : Expr} {es : List Expr} {ta : TE} {ma : EM} {e1 : Ef} {pos : Pos} {t : TA} {m : LM} {b p : Bool}
theorem ma_nil (hK : X.K = F.K := by rfl) : MA X F W [] tNil lNil false true := ⟨hK, pa_nil, co_nil⟩
theorem ma_cons (ha : ME X F W a ta ma e1) (hr : MA X F W es t m b p) (hp : (!e1.b || p) = true := by rfl) (hs : starEach (a :: es) X.env = (false, eval a X.env) :: starEach es X.env := by rfl) : MA X F W (a :: es) (tCons ta t) (lCons ma m) (e1.b || b) (e1.p && p) :=
  ⟨ha.k, pa_cons ha.pe hr.pe hs, co_cons ha.co hr.co hp⟩
theorem me_tup {x1} (h : MA X F W es t m b p) : ME X F W (.Tuple es x1 pos) (tTup t) (eTup m) ⟨b, p, true⟩ := ⟨h.k, pe_tup h.pe, co_tup h.co⟩
theorem me_lst (h : MA X F W es t m b p) : ME X F W (.List es pos) (tLst t) (eLst m) ⟨b, p, true⟩ := ⟨h.k, pe_lst h.pe, co_lst h.co⟩
end
end Mi

set_option Elab.async false
set_option linter.all false
set_option maxRecDepth 100000
set_option maxHeartbeats 4000000
/-! Mi3: targets, statements, loops. -/
namespace Mi
open PySem L2

/-- how a statement ends -/
inductive Fl where
  | nx
  | rt (d : D)
  | bk
  | ct
abbrev SM := List Sv → Out (Fl × List Sv)
def SPost (F : Fr) (W : WX) (G : List (D × V)) (fr : Bool) (r : Out (Fl × List Sv)) (E : Ends) : Prop :=
  match r with
  | .ok (.nx, ρ') => ∀ O M σ H, SR F G O M ρ' σ H → E.nx σ H
  | .ok (.rt d, ρ') => ∀ O M σ H v, SR F G O M ρ' σ H → Rp F.K F.OF H d v → (fr = true → Fresh F.K F.H0 H d v) → E.rt v H
  | .ok (.bk, ρ') => ∀ O M σ H, SR F G O M ρ' σ H → E.bk σ H
  | .ok (.ct, ρ') => ∀ O M σ H, SR F G O M ρ' σ H → E.ct σ H
  | .exc c d => ExP F W G c d
  | .bad => False
structure CoS (F : Fr) (W : WX) (fr : Bool) (t : TS) (m : SM) : Prop where
  go : ∀ G O M ρ σ H E, SR F G O M ρ σ H → SPost F W G fr (m ρ) E → t E σ H
structure MS (X : Cx) (F : Fr) (W : WX) (fr : Bool) (st : Stmt) (t : TS) (m : SM) : Prop where
  k : X.K = F.K
  pe : PS X st t
  co : CoS F W fr t m
structure MSs (X : Cx) (F : Fr) (W : WX) (fr : Bool) (st : List Stmt) (t : TS) (m : SM) : Prop where
  k : X.K = F.K
  pe : PSs X st t
  co : CoS F W fr t m

def sNx : SM := fun ρ => .ok (.nx, ρ)
def sBk : SM := fun ρ => .ok (.bk, ρ)
def sCt : SM := fun ρ => .ok (.ct, ρ)
def sSeq (a b : SM) : SM := fun ρ => (a ρ).bind fun x => match x.1 with
  | .nx => b x.2
  | f => .ok (f, x.2)
def sIf (c : TM) (a b : SM) : SM := fun ρ => (c ρ).bind fun x => if x.1 = true then a x.2 else b x.2
def sDrop (a : EM) : SM := fun ρ => (a ρ).bind fun x => .ok (.nx, x.2)
def sRet (a : EM) : SM := fun ρ => (a ρ).bind fun x => .ok (.rt x.1, x.2)
def sRetN : SM := fun ρ => .ok (.rt .none, ρ)
def setV (ρ : List Sv) (i : Nat) (s : Sv) : Option (List Sv) := match ρ[i]? with
  | some (.io _) => none
  | some _ => some (ρ.set i s)
  | none => none
def oOut {α : Type} (o : Option α) : Out α := match o with
  | some a => .ok a
  | none => .bad
def sSet (i : Nat) (a : EM) : SM := fun ρ => (a ρ).bind fun x => (oOut (setV x.2 i (.va x.1))).bind fun r => .ok (.nx, r)
/-- a new list, from now on the frame's own -/
def sOwn (i : Nat) (a : EM) : SM := fun ρ => (a ρ).bind fun x => match x.1 with
  | .list ds => if noLs ds = true then (oOut (setV x.2 i (.ow (.lst ds)))).bind fun r => .ok (.nx, r) else .bad
  | _ => .bad

section
variable {F : Fr} {W : WX} {G : List (D × V)} {O M : Addr → Prop} {ρ ρ1 : List Sv} {σ : St} {H H1 H2 : Hp}
theorem setV_some {i : Nat} {s : Sv} {r : List Sv} (h : setV ρ i s = some r) : r = ρ.set i s ∧ i < ρ.length ∧ ∀ o, ρ[i]? ≠ some (.io o) := by
  unfold setV at h
  cases e : ρ[i]? with
  | none => rw [e] at h; cases h
  | some sv =>
    rw [e] at h
    have l : i < ρ.length := (List.getElem?_eq_some_iff.mp e).1
    cases sv with
    | io o => cases h
    | _ =>
      cases h
      exact ⟨rfl, l, fun o z => by cases z⟩
theorem SR.set (S : SR F G O M ρ σ H) {i : Nat} {s : Sv} {v : Option V} (hi : i < ρ.length) (no : ∀ o, ρ[i]? ≠ some (.io o)) (hs : SlR F O M H s v) (hd : s.own = true → ∀ (j : Nat) (b : Sv) (p : Addr), j ≠ i → ρ[j]? = some b → b.own = true → v = some (.ref p) → σ[j]? ≠ some (some (.ref p)))
    (ni : ∀ o, s ≠ .io o) : SR F G O M (ρ.set i s) (σ.set i v) H := by
  have hiσ : i < σ.length := by rw [← S.len]; exact hi
  refine ⟨by rw [List.length_set, List.length_set, S.len], S.hx, S.tabs, S.ofo, S.mo, S.wf, S.mw, S.dom, fun j sv x e1 e2 => ?_, fun j l a b p hjl e1 e2 o1 o2 e3 => ?_, S.gh, fun p hp => ?_⟩
  · by_cases hj : i = j
    · subst hj
      rw [List.getElem?_set_self hi] at e1
      rw [List.getElem?_set_self hiσ] at e2
      cases e1; cases e2
      exact hs
    · rw [List.getElem?_set_ne hj] at e1 e2
      exact S.sl j sv x e1 e2
  · by_cases hj : i = j
    · subst hj
      rw [List.getElem?_set_self hi] at e1
      rw [List.getElem?_set_self hiσ] at e3
      rw [List.getElem?_set_ne hjl] at e2 ⊢
      cases e1
      exact hd o1 l b p (Ne.symm hjl) e2 o2 (Option.some.inj e3)
    · rw [List.getElem?_set_ne hj] at e1 e3
      by_cases hl : i = l
      · subst hl
        rw [List.getElem?_set_self hi] at e2
        rw [List.getElem?_set_self hiσ]
        cases e2
        intro z
        exact hd o2 j a p (Ne.symm hj) e1 o1 (Option.some.inj z) e3
      · rw [List.getElem?_set_ne hl] at e2 ⊢
        exact S.dis j l a b p hjl e1 e2 o1 o2 e3
  · obtain ⟨o, e1, e2⟩ := S.ioa p hp
    have hp : i ≠ p.1 := fun z => no o (by rw [z]; exact e1)
    exact ⟨o, by rw [List.getElem?_set_ne hp]; exact e1, by rw [List.getElem?_set_ne hp]; exact e2⟩
theorem SR.setVa (S : SR F G O M ρ σ H) {i : Nat} {d : D} {v : V} {r : List Sv} (h : setV ρ i (.va d) = some r) (hr : Rp F.K O H d v) : SR F G O M r (σ.set i (some v)) H := by
  obtain ⟨e, l, n⟩ := setV_some h
  subst e
  exact S.set l n ⟨v, rfl, hr⟩ (fun z => Bool.noConfusion z) fun o z => by cases z

/-! ### targets -/
abbrev GM := D → List Sv → Option (List Sv)
structure CoG (F : Fr) (W : WX) (g : TG) (m : GM) (ix : List Nat) : Prop where
  go : ∀ G O M ρ σ H d v (Q : St → Hp → Prop), SR F G O M ρ σ H → Rp F.K O H d v → ∀ ρ', m d ρ = some ρ' → (∀ σ', SR F G O M ρ' σ' H → σ'.length = σ.length → (∀ i, i ∉ ix → σ'[i]? = σ[i]?) → (∀ i, i ∉ ix → ρ'[i]? = ρ[i]?) → (∀ i a, ρ'[i]? = some a → i ∈ ix → a.own = false) → Q σ' H) → g v σ H Q
abbrev GMs := List D → List Sv → Option (List Sv)
structure CoGs (F : Fr) (W : WX) (g : TGs) (m : GMs) (ix : List Nat) : Prop where
  go : ∀ G O M ρ σ H ds vs (Q : St → Hp → Prop), SR F G O M ρ σ H → RpL F.K O H ds vs → ∀ ρ', m ds ρ = some ρ' → (∀ σ', SR F G O M ρ' σ' H → σ'.length = σ.length → (∀ i, i ∉ ix → σ'[i]? = σ[i]?) → (∀ i, i ∉ ix → ρ'[i]? = ρ[i]?) → (∀ i a, ρ'[i]? = some a → i ∈ ix → a.own = false) → Q σ' H) → g vs σ H Q
def gmName (i : Nat) : GM := fun d ρ => setV ρ i (.va d)
def gmNil : GMs := fun ds ρ => match ds with
  | [] => some ρ
  | _ => none
def gmCons (a : GM) (b : GMs) : GMs := fun ds ρ => match ds with
  | d :: r => (a d ρ).bind fun ρ' => b r ρ'
  | [] => none
def gmTup (n : Nat) (b : GMs) : GM := fun d ρ => match d with
  | .tuple ds => if ds.length = n then b ds ρ else none
  | _ => none
theorem cg_name {i : Nat} : CoG F W (gName i) (gmName i) [i] := ⟨fun G O M ρ σ H d v Q S r ρ' h k => by
  have hs := S.setVa (i := i) (d := d) (v := v) h r
  obtain ⟨e, l, n⟩ := setV_some h
  refine k _ hs (by rw [List.length_set]) (fun j hj => ?_) (fun j hj => ?_) fun j a ej hj => ?_
  · rw [List.getElem?_set_ne (fun z => hj (by simp [z]))]
  · rw [e, List.getElem?_set_ne (fun z => hj (by simp [z]))]
  · have : j = i := by simpa using hj
    subst this
    rw [e, List.getElem?_set_self l] at ej
    cases ej
    rfl⟩
theorem cg_nil : CoGs F W gNil gmNil [] := ⟨fun G O M ρ σ H ds vs Q S r ρ' h k => by
  cases r with
  | nil => cases h; exact ⟨rfl, k σ S rfl (fun _ _ => rfl) (fun _ _ => rfl) fun i a _ z => absurd z (by simp)⟩
  | cons _ _ => cases h⟩
theorem cg_cons {g : TG} {m : GM} {ix : List Nat} {gs : TGs} {ms : GMs} {iy : List Nat} (h1 : CoG F W g m ix) (h2 : CoGs F W gs ms iy) : CoGs F W (gCons g gs) (gmCons m ms) (ix ++ iy) := ⟨fun G O M ρ σ H ds vs Q S r ρ' h k => by
  cases r with
  | nil => cases h
  | @cons d ds v vs r t =>
    have h : (m d ρ).bind (fun ρ' => ms ds ρ') = some ρ' := h
    cases e : m d ρ with
    | none => rw [e] at h; cases h
    | some ρ1 =>
      rw [e] at h
      refine ⟨v, vs, rfl, h1.go G O M ρ σ H d v _ S r ρ1 e fun σ1 S1 l1 k1 q1 o1 => ?_⟩
      refine h2.go G O M ρ1 σ1 H ds vs Q S1 t ρ' h fun σ2 S2 l2 k2 q2 o2 => ?_
      refine k σ2 S2 (l2.trans l1) (fun i hi => ?_) (fun i hi => ?_) fun i a ea hi => ?_
      · rw [k2 i (fun z => hi (List.mem_append_right _ z)), k1 i (fun z => hi (List.mem_append_left _ z))]
      · rw [q2 i (fun z => hi (List.mem_append_right _ z)), q1 i (fun z => hi (List.mem_append_left _ z))]
      · by_cases hy : i ∈ iy
        · exact o2 i a ea hy
        · rw [q2 i hy] at ea
          exact o1 i a ea ((List.mem_append.mp hi).elim id fun z => absurd z hy)⟩
theorem cg_tup {n : Nat} {gs : TGs} {ms : GMs} {iy : List Nat} (h2 : CoGs F W gs ms iy) : CoG F W (gTup F.K n gs) (gmTup n ms) iy := ⟨fun G O M ρ σ H d v Q S r ρ' h k => by
  unfold gmTup at h
  cases r with
  | @tup a vs ds hs hr =>
    have h : (if ds.length = n then ms ds ρ else none) = some ρ' := h
    by_cases hn : ds.length = n
    · rw [if_pos hn] at h
      exact ⟨a, vs, rfl, hs, by rw [← hr.len]; exact hn, h2.go G O M ρ σ H ds vs Q S hr ρ' h k⟩
    · rw [if_neg hn] at h; cases h
  | _ => cases h⟩
structure MG (X : Cx) (F : Fr) (W : WX) (e : Expr) (g : TG) (m : GM) (ix : List Nat) : Prop where
  k : X.K = F.K
  pe : PG X e g
  co : CoG F W g m ix
structure MGs (X : Cx) (F : Fr) (W : WX) (e : List Expr) (g : TGs) (m : GMs) (ix : List Nat) : Prop where
  k : X.K = F.K
  pe : PGs X e g
  co : CoGs F W g m ix

/-! ### statements -/
theorem cs_nx {fr : Bool} : CoS F W fr tNext sNx := ⟨fun G O M ρ σ H E S h => h O M σ H S⟩
theorem cs_bk {fr : Bool} : CoS F W fr tBreak sBk := ⟨fun G O M ρ σ H E S h => h O M σ H S⟩
theorem cs_ct {fr : Bool} : CoS F W fr tCont sCt := ⟨fun G O M ρ σ H E S h => h O M σ H S⟩
theorem cs_seq {fr : Bool} {t u : TS} {a b : SM} (ha : CoS F W fr t a) (hb : CoS F W fr u b) : CoS F W fr (tSeq t u) (sSeq a b) := ⟨fun G O M ρ σ H E S h => by
  unfold sSeq at h
  refine ha.go G O M ρ σ H _ S ?_
  cases e : a ρ with
  | bad => rw [e] at h; exact h
  | exc c d => rw [e] at h; exact h
  | ok x =>
    obtain ⟨x, ρ1⟩ := x
    rw [e] at h
    cases x with
    | nx => exact fun O' M' σ' H' S' => hb.go G O' M' ρ1 σ' H' E S' h
    | rt d => exact h
    | bk => exact h
    | ct => exact h⟩
theorem cs_if {fr : Bool} {tc : TT} {c : TM} {p : Bool} {t u : TS} {a b : SM} (hc : CoT F W tc c p) (ha : CoS F W fr t a) (hb : CoS F W fr u b) : CoS F W fr (tIfS tc t u) (sIf c a b) := ⟨fun G O M ρ σ H E S h => by
  unfold sIf at h
  refine hc.go G O M ρ σ H _ S ?_
  cases e : c ρ with
  | bad => rw [e] at h; exact h
  | exc c d => rw [e] at h; exact h
  | ok x =>
    obtain ⟨x, ρ1⟩ := x
    rw [e] at h
    intro H1 S1 _ _
    cases x with
    | true => exact ha.go G O M ρ1 σ H1 E S1 h
    | false => exact hb.go G O M ρ1 σ H1 E S1 h⟩
theorem cs_drop {fr : Bool} {te : TE} {m : EM} {e1 : Ef} (h1 : CoE F W te m e1) : CoS F W fr (tDrop te) (sDrop m) := ⟨fun G O M ρ σ H E S h => by
  unfold sDrop at h
  refine h1.go G O M ρ σ H _ S ?_
  cases e : m ρ with
  | bad => rw [e] at h; exact h
  | exc c d => rw [e] at h; exact h
  | ok x =>
    obtain ⟨x, ρ1⟩ := x
    rw [e] at h
    exact fun H1 S1 _ _ v _ _ => h O M σ H1 S1⟩
theorem cs_ret {fr : Bool} {te : TE} {m : EM} {e1 : Ef} (h1 : CoE F W te m e1) (hf : (!fr || e1.f) = true) : CoS F W fr (tRet te) (sRet m) := ⟨fun G O M ρ σ H E S h => by
  unfold sRet at h
  refine h1.go G O M ρ σ H _ S ?_
  cases e : m ρ with
  | bad => rw [e] at h; exact h
  | exc c d => rw [e] at h; exact h
  | ok x =>
    obtain ⟨x, ρ1⟩ := x
    rw [e] at h
    exact fun H1 S1 _ _ v r f => h O M σ H1 v S1 (r.av (c := true) S1 fun _ => rfl) fun z => (f (by rw [z] at hf; simpa using hf)).back S.hx⟩
/-- an owned list handed back -/
theorem cs_retOwn {fr : Bool} {i : Nat} : CoS F W fr (tRet (tVar i)) (sRet (eOwn i)) := ⟨fun G O M ρ σ H E S h => by
  unfold sRet eOwn at h
  cases e : ρ[i]? with
  | none => rw [e] at h; exact h.elim
  | some sv =>
    rw [e] at h
    cases sv with
    | ow o =>
      cases o with
      | lst xs =>
        have l : i < σ.length := by rw [← S.len]; exact (List.getElem?_eq_some_iff.mp e).1
        obtain ⟨a, u, ev, m, n, eu, ob⟩ := S.sl i _ σ[i] e (by simp [l])
        cases u with
        | lst vs =>
          refine ⟨.ref a, by simp [l, ev], h O M σ H _ S (.lst eu n (ob.2.mvN (fun _ _ e _ _ => e) ob.1)) fun _ => ⟨a, rfl, ?_, fun xs' z => by cases z; exact ⟨vs, eu, ob.2⟩⟩⟩
          rcases S.mw a m with z | z
          · exact absurd (S.wf a z) n
          · exact z
        | _ => exact ob.elim
      | _ => exact h.elim
    | _ => exact h.elim⟩
theorem cs_retN {fr : Bool} (hf : fr = false) : CoS F W fr tRetN sRetN := ⟨fun G O M ρ σ H E S h => h O M σ H .non S .non fun z => by rw [hf] at z; exact Bool.noConfusion z⟩
theorem cs_set {fr : Bool} {i : Nat} {te : TE} {m : EM} {e1 : Ef} (h1 : CoE F W te m e1) (hb : e1.b = false) : CoS F W fr (tAsg te (gName i)) (sSet i m) := ⟨fun G O M ρ σ H E S h => by
  unfold sSet at h
  refine h1.go G O M ρ σ H _ S ?_
  cases e : m ρ with
  | bad => rw [e] at h; exact h
  | exc c d => rw [e] at h; exact h
  | ok x =>
    obtain ⟨x, ρ1⟩ := x
    rw [e] at h
    intro H1 S1 _ _ v r _
    have h : SPost F W G fr ((oOut (setV ρ1 i (.va x))).bind fun r => .ok (.nx, r)) E := h
    cases e2 : setV ρ1 i (.va x) with
    | none => rw [e2] at h; exact h.elim
    | some r' =>
      rw [e2] at h
      refine h O M _ H1 (S1.setVa e2 ?_)
      rw [hb] at r
      exact r⟩
/-- target = value -/
def sAsgG (g : GM) (a : EM) : SM := fun ρ => (a ρ).bind fun x => (oOut (g x.1 x.2)).bind fun r => .ok (.nx, r)
theorem cs_asg {fr : Bool} {g : TG} {gm : GM} {ix : List Nat} {te : TE} {m : EM} {e1 : Ef} (h1 : CoE F W te m e1) (hg : CoG F W g gm ix) (hb : e1.b = false) : CoS F W fr (tAsg te g) (sAsgG gm m) := ⟨fun G O M ρ σ H E S h => by
  unfold sAsgG at h
  refine h1.go G O M ρ σ H _ S ?_
  cases e : m ρ with
  | bad => rw [e] at h; exact h
  | exc c d => rw [e] at h; exact h
  | ok x =>
    obtain ⟨x, ρ1⟩ := x
    rw [e] at h
    intro H1 S1 _ _ v r _
    have h : SPost F W G fr ((oOut (gm x ρ1)).bind fun r => .ok (.nx, r)) E := h
    cases e2 : gm x ρ1 with
    | none => rw [e2] at h; exact h.elim
    | some r' =>
      rw [e2] at h
      rw [hb] at r
      exact hg.go G O M ρ1 σ H1 x v _ S1 r r' e2 fun σ' S' _ _ _ _ => h O M σ' H1 S'⟩
theorem cs_own {fr : Bool} {i : Nat} {te : TE} {m : EM} {e1 : Ef} (h1 : CoE F W te m e1) (hf : e1.f = true) : CoS F W fr (tAsg te (gName i)) (sOwn i m) := ⟨fun G O M ρ σ H E S h => by
  unfold sOwn at h
  refine h1.go G O M ρ σ H _ S ?_
  cases e : m ρ with
  | bad => rw [e] at h; exact h
  | exc c d => rw [e] at h; exact h
  | ok x =>
    obtain ⟨x, ρ1⟩ := x
    rw [e] at h
    intro H1 S1 m1 x1 v r f
    obtain ⟨a, ev, n, l⟩ := f hf
    subst ev
    cases x with
    | list ds =>
      have h : SPost F W G fr (if noLs ds = true then (oOut (setV ρ1 i (.ow (.lst ds)))).bind fun r => .ok (.nx, r) else .bad) E := h
      by_cases hn : noLs ds = true
      · rw [if_pos hn] at h
        cases e2 : setV ρ1 i (.ow (.lst ds)) with
        | none => rw [e2] at h; exact h.elim
        | some r' =>
          rw [e2] at h
          obtain ⟨vs, ea, rl⟩ := l ds rfl
          obtain ⟨er, hi, no⟩ := setV_some e2
          subst er
          have nO : ¬ O a := fun z => S.dom a z n
          have nM : ¬ M a := fun z => nO (S.mo a z)
          have mono : ∀ {sv : Sv} {x : Option V}, sv.own = true → SlR F O M H1 sv x → SlR F (fun b => O b ∨ b = a) (fun b => M b ∨ b = a) H1 sv x := fun {sv x} ow q => by
            cases sv with
            | ow o => obtain ⟨a1, u, q1, q2, q3, q4, q5⟩ := q; exact ⟨a1, u, q1, .inl q2, q3, q4, q5⟩
            | io o => obtain ⟨a1, u, q1, q2, q3, q4, q5⟩ := q; exact ⟨a1, u, q1, .inl q2, q3, q4, q5⟩
            | _ => cases ow
          have S2 : SR F G (fun b => O b ∨ b = a) M ρ1 σ H1 := S.avoid x1.pm S1.tabs (fun _ z => .inl z) (fun b z => z.imp id fun q => by rw [q]; exact n) (fun b z => z.elim (S1.dom b) fun q => by rw [q, ea]; exact fun z => by cases z) m1 fun i sv x e1 e2 ow => by
            have q := S1.sl i sv x e1 e2
            cases sv with
            | ow o => exact q
            | io o => exact q
            | _ => cases ow
          have S3 : SR F G (fun b => O b ∨ b = a) (fun b => M b ∨ b = a) ρ1 σ H1 := ⟨S2.len, S2.hx, S2.tabs, S2.ofo, fun b z => z.imp (S.mo b) id, S2.wf, fun b z => z.elim (S2.mw b) fun q => .inr (by rw [q]; exact S.hx.fresh n), S2.dom, fun i sv x e1 e2 => by
              cases sv with
              | un => trivial
              | va d => exact S2.sl i _ x e1 e2
              | ow o => exact mono rfl (S1.sl i _ x e1 e2)
              | io o => exact mono rfl (S1.sl i _ x e1 e2)
              | cl r => exact S2.sl i _ x e1 e2
              | sc ns => exact S2.sl i _ x e1 e2, S2.dis, S2.gh, S2.ioa⟩
          refine h _ _ _ H1 (S3.set hi no ⟨a, _, rfl, .inr rfl, fun z => nO (S.ofo a z), ea, hn, rl⟩ (fun _ j b p hj e3 o3 e4 e5 => ?_) fun o z => by cases z)
          cases e4
          have q := S1.sl j b _ e3 e5
          cases b with
          | ow o => obtain ⟨a1, u, q1, q2, _⟩ := q; cases q1; exact nM q2
          | io o => obtain ⟨a1, u, q1, q2, _⟩ := q; cases q1; exact nM q2
          | _ => cases o3
      · rw [if_neg hn] at h; exact h.elim
    | _ => exact h.elim⟩
/-- a, b = e1, e2: from the right -/
def sPar (i j : Nat) (r : LM) : SM := fun ρ => (r ρ).bind fun x => match x.1 with
  | [d, e] => (oOut (setV x.2 i (.va d))).bind fun ρ1 => (oOut (setV ρ1 j (.va e))).bind fun ρ2 => .ok (.nx, ρ2)
  | _ => .bad
theorem cs_par {fr : Bool} {i j : Nat} {t : TA} {m : LM} {p : Bool} (h1 : CoA F W t m false p) : CoS F W fr (tPar i j t) (sPar i j m) := ⟨fun G O M ρ σ H E S h => by
  unfold sPar at h
  refine h1.go G O M ρ σ H _ S ?_
  cases e : m ρ with
  | bad => rw [e] at h; exact h
  | exc c d => rw [e] at h; exact h
  | ok x =>
    obtain ⟨x, ρ1⟩ := x
    rw [e] at h
    intro H1 S1 _ _ vs r
    match x, vs, r with
    | [d, d'], _, .cons (v := v) r1 (.cons (v := v') r2 .nil) =>
      have h : SPost F W G fr ((oOut (setV ρ1 i (.va d))).bind fun ρ1 => (oOut (setV ρ1 j (.va d'))).bind fun ρ2 => .ok (.nx, ρ2)) E := h
      cases e2 : setV ρ1 i (.va d) with
      | none => rw [e2] at h; exact h.elim
      | some r' =>
        rw [e2] at h
        have h : SPost F W G fr ((oOut (setV r' j (.va d'))).bind fun ρ2 => .ok (.nx, ρ2)) E := h
        cases e3 : setV r' j (.va d') with
        | none => rw [e3] at h; exact h.elim
        | some r'' =>
          rw [e3] at h
          exact ⟨v, v', rfl, h O M _ H1 ((S1.setVa e2 r1).setVa e3 r2)⟩
    | [], _, .nil => exact h.elim
    | [_], _, .cons _ .nil => exact h.elim
    | _ :: _ :: _ :: _, _, .cons _ (.cons _ (.cons _ _)) => exact h.elim⟩
/-- an owned list from now on left as it is -/
def sFreeze (i : Nat) (m : SM) : SM := fun ρ => match ρ[i]? with
  | some (.ow (.lst xs)) => m (ρ.set i (.va (.list xs)))
  | _ => .bad
theorem cs_freeze {fr : Bool} {i : Nat} {t : TS} {m : SM} (h1 : CoS F W fr t m) : CoS F W fr t (sFreeze i m) := ⟨fun G O M ρ σ H E S h => by
  unfold sFreeze at h
  cases e : ρ[i]? with
  | none => rw [e] at h; exact h.elim
  | some sv =>
    rw [e] at h
    cases sv with
    | ow o =>
      cases o with
      | lst xs =>
        have li : i < ρ.length := (List.getElem?_eq_some_iff.mp e).1
        have l : i < σ.length := by rw [← S.len]; exact li
        have ei : σ[i]? = some σ[i] := by simp [l]
        obtain ⟨a, u, ev, m1, n, eu, ob⟩ := S.sl i _ σ[i] e ei
        cases u with
        | lst vs =>
          have S1 : SR F G (fun b => O b ∧ b ≠ a) (fun b => M b ∧ b ≠ a) (ρ.set i (.va (.list xs))) σ H := by
            refine ⟨by rw [List.length_set, S.len], S.hx, S.tabs, fun b z => ⟨S.ofo b z, fun q => n (q ▸ z)⟩, fun b z => ⟨S.mo b z.1, z.2⟩, S.wf, fun b z => S.mw b z.1, fun b z => S.dom b z.1, fun j sv x e1 e2 => ?_, fun j k b c p hjk e1 e2 o1 o2 e3 => ?_, fun p hp => (S.gh p hp).sub fun _ z => z.1, fun p hp => ?_⟩
            · by_cases hj : i = j
              · subst hj
                rw [List.getElem?_set_self li] at e1
                rw [ei] at e2
                cases e1; cases e2
                rw [ev]
                exact ⟨.ref a, rfl, .lst eu (fun z => z.2 rfl) (ob.2.mvN (fun _ _ e _ _ => e) ob.1)⟩
              · rw [List.getElem?_set_ne hj] at e1
                have q := S.sl j sv x e1 e2
                have far : ∀ {b : Addr}, sv.own = true → x = some (.ref b) → b ≠ a := fun {b} ow ex z => by
                  subst z
                  exact S.dis i j _ sv b hj e e1 rfl ow (by rw [ei, ev]) (by rw [e2, ex])
                cases sv with
                | un => trivial
                | va d => obtain ⟨v, q1, q2⟩ := q; exact ⟨v, q1, q2.sub fun _ z => z.1⟩
                | ow o => obtain ⟨b, u, q1, q2, q3⟩ := q; exact ⟨b, u, q1, ⟨q2, far rfl q1⟩, q3⟩
                | io o => obtain ⟨b, u, q1, q2, q3⟩ := q; exact ⟨b, u, q1, ⟨q2, far rfl q1⟩, q3⟩
                | cl r => exact q
                | sc ns => exact q
            · have f1 : i ≠ j := fun z => by subst z; rw [List.getElem?_set_self li] at e1; cases e1; cases o1
              have f2 : i ≠ k := fun z => by subst z; rw [List.getElem?_set_self li] at e2; cases e2; cases o2
              rw [List.getElem?_set_ne f1] at e1
              rw [List.getElem?_set_ne f2] at e2
              exact S.dis j k b c p hjk e1 e2 o1 o2 e3
            · obtain ⟨o, e1, e2⟩ := S.ioa p hp
              refine ⟨o, ?_, e2⟩
              rw [List.getElem?_set_ne (fun z => by rw [z, e1] at e; cases e)]
              exact e1
          exact h1.go G _ _ _ σ H E S1 h
        | _ => exact ob.elim
      | _ => exact h.elim
    | _ => exact h.elim⟩
end

/-! ### what is walked -/
def ItR (K : PySem.W.Frag) (g : List (D × V)) (J : It) (items : List D) : Prop :=
  ∀ (O : Addr → Prop) (H : Hp), (∀ q ∈ g, Rp K O H q.1 q.2) → ∀ i : Nat, (i < items.length → J.go i H ∧ ∀ x H', J.yld i H x H' → ∃ d, items[i]? = some d ∧ L2.Same H H' ∧ Rp K O H' d x) ∧ (i = items.length → J.stop i H)
structure CoI (F : Fr) (W : WX) (wi : TI) (m : LM) (p : Bool) : Prop where
  go : ∀ G O M ρ σ H (R : It → Hp → Prop), SR F G O M ρ σ H → Post F W G O M ρ σ H p (m ρ) (fun items H' => ∀ J g, ItR F.K g J items → (∀ q ∈ g, Rp F.K O H' q.1 q.2) → R J H') → wi σ H R
structure MI (X : Cx) (F : Fr) (W : WX) (tg iter : Expr) (wi : TI) (m : LM) (p : Bool) : Prop where
  k : X.K = F.K
  pe : PI X tg iter wi
  co : CoI F W wi m p

def runFor (g : GM) (b : SM) : List D → SM
  | [], ρ => .ok (.nx, ρ)
  | d :: ds, ρ => (oOut (g d ρ)).bind fun ρ1 => (b ρ1).bind fun x => match x.1 with
    | .nx => runFor g b ds x.2
    | .ct => runFor g b ds x.2
    | .bk => .ok (.nx, x.2)
    | .rt d => .ok (.rt d, x.2)
def sFor (i : LM) (g : GM) (b : SM) : SM := fun ρ => (i ρ).bind fun x => runFor g b x.1 x.2

section
variable {F : Fr} {W : WX} {G : List (D × V)} {O M : Addr → Prop} {ρ ρ1 : List Sv} {σ : St} {H H1 H2 : Hp}
theorem SR.ghosts (S : SR F G O M ρ σ H) {g : List (D × V)} (r : ∀ q ∈ g, Rp F.K O H q.1 q.2) : SR F (g ++ G) O M ρ σ H :=
  ⟨S.len, S.hx, S.tabs, S.ofo, S.mo, S.wf, S.mw, S.dom, S.sl, S.dis, fun p hp => (List.mem_append.mp hp).elim (r p) (S.gh p), S.ioa⟩
theorem SR.gdrop {g : List (D × V)} (S : SR F (g ++ G) O M ρ σ H) : SR F G O M ρ σ H := S.unghost fun p hp => List.mem_append_right _ hp
theorem ExP.ghosts {g : List (D × V)} {c : String} {d : D} (h : ExP F W G c d) : ExP F W (g ++ G) c d := fun σ dx v H' a b u x r => h σ dx v H' a b (fun hi => by
  obtain ⟨O, M, n, S⟩ := u hi
  exact ⟨O, M, n, S.gdrop⟩) x r
theorem SPost.ghosts {fr : Bool} {g : List (D × V)} {r : Out (Fl × List Sv)} {E : Ends} (h : SPost F W G fr r E) : SPost F W (g ++ G) fr r E := by
  cases r with
  | ok x =>
    obtain ⟨x, ρ'⟩ := x
    cases x with
    | nx => exact fun O M σ H S => h O M σ H S.gdrop
    | rt d => exact fun O M σ H v S => h O M σ H v S.gdrop
    | bk => exact fun O M σ H S => h O M σ H S.gdrop
    | ct => exact fun O M σ H S => h O M σ H S.gdrop
  | exc c d => exact ExP.ghosts (show ExP F W G c d from h)
  | bad => exact h
theorem cs_for {fr : Bool} {wi : TI} {g : TG} {tb : TS} {im : LM} {gm : GM} {bm : SM} {p : Bool} {ix : List Nat} (hi : CoI F W wi im p) (hg : CoG F W g gm ix) (hb : CoS F W fr tb bm) : CoS F W fr (tFor wi g tb) (sFor im gm bm) := ⟨fun G O M ρ σ H E S h => by
  unfold sFor at h
  refine hi.go G O M ρ σ H _ S ?_
  cases e : im ρ with
  | bad => rw [e] at h; exact h
  | exc c d => rw [e] at h; exact h
  | ok x =>
    obtain ⟨items, ρ1⟩ := x
    rw [e] at h
    intro H1 S1 _ _ J g' hJ hgh
    have h : SPost F W G fr (runFor gm bm items ρ1) E := h
    refine ⟨fun i m σ' H' => m = items.length - i ∧ i ≤ items.length ∧ ∃ O' M' ρ', SR F (g' ++ G) O' M' ρ' σ' H' ∧ SPost F W (g' ++ G) fr (runFor gm bm (items.drop i) ρ') E, ⟨items.length, by simp, Nat.zero_le _, O, M, ρ1, S1.ghosts hgh, by simpa using h.ghosts⟩, ?_⟩
    rintro i m σ' H' ⟨rfl, hle, O', M', ρ', S', h'⟩
    have J1 := hJ O' H' (fun q hq => S'.gh q (List.mem_append_left _ hq)) i
    by_cases hlt : i < items.length
    · obtain ⟨go, y⟩ := J1.1 hlt
      refine .inr ⟨go, fun σ2 H2 => items.length - (i + 1) = items.length - (i + 1) ∧ i + 1 ≤ items.length ∧ ∃ O' M' ρ', SR F (g' ++ G) O' M' ρ' σ2 H2 ∧ SPost F W (g' ++ G) fr (runFor gm bm (items.drop (i + 1)) ρ') E, fun σ2 H2 n => ⟨items.length - (i + 1), by omega, n⟩, fun x H2 hy => ?_⟩
      obtain ⟨d, ed, sm, rd⟩ := y x H2 hy
      have edr : items.drop i = d :: items.drop (i + 1) := by
        rw [List.drop_eq_getElem_cons hlt]
        have : items[i] = d := by
          have := List.getElem?_eq_getElem hlt
          rw [ed] at this
          exact (Option.some.inj this).symm
        rw [this]
      rw [edr] at h'
      have h' : SPost F W (g' ++ G) fr ((oOut (gm d ρ')).bind fun ρ1 => (bm ρ1).bind fun x => match x.1 with
        | .nx => runFor gm bm (items.drop (i + 1)) x.2
        | .ct => runFor gm bm (items.drop (i + 1)) x.2
        | .bk => .ok (.nx, x.2)
        | .rt d => .ok (.rt d, x.2)) E := h'
      cases e2 : gm d ρ' with
      | none => rw [e2] at h'; exact h'.elim
      | some ρ2 =>
        rw [e2] at h'
        refine hg.go (g' ++ G) O' M' ρ' σ' H2 d x _ (S'.same sm) rd ρ2 e2 fun σ2 S2 _ _ _ _ => ?_
        refine hb.go (g' ++ G) O' M' ρ2 σ2 H2 _ S2 ?_
        have h' : SPost F W (g' ++ G) fr ((bm ρ2).bind fun x => match x.1 with
          | .nx => runFor gm bm (items.drop (i + 1)) x.2
          | .ct => runFor gm bm (items.drop (i + 1)) x.2
          | .bk => .ok (.nx, x.2)
          | .rt d => .ok (.rt d, x.2)) E := h'
        cases e3 : bm ρ2 with
        | bad => rw [e3] at h'; exact h'
        | exc c d => rw [e3] at h'; exact h'
        | ok y =>
          obtain ⟨y, ρ3⟩ := y
          rw [e3] at h'
          cases y with
          | nx => exact fun O3 M3 σ3 H3 S3 => ⟨rfl, hlt, O3, M3, ρ3, S3, h'⟩
          | ct => exact fun O3 M3 σ3 H3 S3 => ⟨rfl, hlt, O3, M3, ρ3, S3, h'⟩
          | bk => exact h'
          | rt d => exact h'
    · have e0 : items.drop i = [] := List.drop_eq_nil_of_le (Nat.le_of_not_lt hlt)
      rw [e0] at h'
      exact .inl ⟨J1.2 (Nat.le_antisymm hle (Nat.le_of_not_lt hlt)), h' O' M' σ' H' S'⟩⟩
end

/-! ### while -/
/-- a while's run, with its number of turns -/
inductive Runs (c : TM) (b : SM) : Nat → List Sv → Out (Fl × List Sv) → Prop
  | stop {ρ ρ1} : c ρ = .ok (false, ρ1) → Runs c b 0 ρ (.ok (.nx, ρ1))
  | cexc {ρ k d} : c ρ = .exc k d → Runs c b 0 ρ (.exc k d)
  | nx {n ρ ρ1 ρ2 r} : c ρ = .ok (true, ρ1) → b ρ1 = .ok (.nx, ρ2) → Runs c b n ρ2 r → Runs c b (n + 1) ρ r
  | ct {n ρ ρ1 ρ2 r} : c ρ = .ok (true, ρ1) → b ρ1 = .ok (.ct, ρ2) → Runs c b n ρ2 r → Runs c b (n + 1) ρ r
  | bk {ρ ρ1 ρ2} : c ρ = .ok (true, ρ1) → b ρ1 = .ok (.bk, ρ2) → Runs c b 0 ρ (.ok (.nx, ρ2))
  | rt {ρ ρ1 ρ2 d} : c ρ = .ok (true, ρ1) → b ρ1 = .ok (.rt d, ρ2) → Runs c b 0 ρ (.ok (.rt d, ρ2))
  | bexc {ρ ρ1 k d} : c ρ = .ok (true, ρ1) → b ρ1 = .exc k d → Runs c b 0 ρ (.exc k d)
open Classical in
noncomputable def sWhile (c : TM) (b : SM) : SM := fun ρ => if h : ∃ r n, Runs c b n ρ r then choose h else .bad
theorem Runs.det {c : TM} {b : SM} {n : Nat} {ρ : List Sv} {r : Out (Fl × List Sv)} (h : Runs c b n ρ r) : ∀ {n' : Nat} {r' : Out (Fl × List Sv)}, Runs c b n' ρ r' → r = r' := by
  induction h with
  | stop e => intro n' r' h'; cases h' <;> simp_all
  | cexc e => intro n' r' h'; cases h' <;> simp_all
  | nx e e2 _ ih => intro n' r' h'; cases h' <;> first | (simp_all; done) | (rename_i f2 f g; rw [e] at f; cases f; rw [e2] at f2; cases f2; exact ih g)
  | ct e e2 _ ih => intro n' r' h'; cases h' <;> first | (simp_all; done) | (rename_i f2 f g; rw [e] at f; cases f; rw [e2] at f2; cases f2; exact ih g)
  | bk e e2 => intro n' r' h'; cases h' <;> simp_all
  | rt e e2 => intro n' r' h'; cases h' <;> simp_all
  | bexc e e2 => intro n' r' h'; cases h' <;> simp_all
theorem while_of {c : TM} {b : SM} {n : Nat} {ρ : List Sv} {r : Out (Fl × List Sv)} (h : Runs c b n ρ r) : sWhile c b ρ = r := by
  have e : ∃ r n, Runs c b n ρ r := ⟨r, n, h⟩
  unfold sWhile
  rw [dif_pos e]
  obtain ⟨n', h'⟩ := Classical.choose_spec e
  exact h'.det h
section
variable {F : Fr} {W : WX}
theorem cs_while {fr : Bool} {tc : TT} {tb : TS} {c : TM} {b : SM} {p : Bool} (hc : CoT F W tc c p) (hb : CoS F W fr tb b) : CoS F W fr (tWhile tc tb) (sWhile c b) := ⟨fun G O M ρ σ H E S h => by
  have ex : ∃ r n, Runs c b n ρ r := by
    unfold sWhile at h
    by_cases q : ∃ r n, Runs c b n ρ r
    · exact q
    · rw [dif_neg q] at h; exact h.elim
  obtain ⟨r, n, hr⟩ := ex
  rw [while_of hr] at h
  refine ⟨fun n σ' H' => ∃ O' M' ρ' r', SR F G O' M' ρ' σ' H' ∧ Runs c b n ρ' r' ∧ SPost F W G fr r' E, ⟨n, O, M, ρ, r, S, hr, h⟩, ?_⟩
  rintro n σ' H' ⟨O', M', ρ', r', S', hr', h'⟩
  refine hc.go G O' M' ρ' σ' H' _ S' ?_
  cases hr' with
  | stop e => rw [e]; exact fun H2 S2 _ _ => iteF (h' _ _ _ _ S2)
  | cexc e => rw [e]; exact h'
  | nx e e2 g =>
    rw [e]
    intro H2 S2 _ _
    refine iteT ?_
    refine ⟨fun σ3 H3 => ∃ O' M' ρ' r', SR F G O' M' ρ' σ3 H3 ∧ Runs c b _ ρ' r' ∧ SPost F W G fr r' E, fun σ3 H3 z => ⟨_, Nat.lt_succ_self _, z⟩, hb.go G O' M' _ σ' H2 _ S2 ?_⟩
    rw [e2]
    exact fun O3 M3 σ3 H3 S3 => ⟨O3, M3, _, _, S3, g, h'⟩
  | ct e e2 g =>
    rw [e]
    intro H2 S2 _ _
    refine iteT ?_
    refine ⟨fun σ3 H3 => ∃ O' M' ρ' r', SR F G O' M' ρ' σ3 H3 ∧ Runs c b _ ρ' r' ∧ SPost F W G fr r' E, fun σ3 H3 z => ⟨_, Nat.lt_succ_self _, z⟩, hb.go G O' M' _ σ' H2 _ S2 ?_⟩
    rw [e2]
    exact fun O3 M3 σ3 H3 S3 => ⟨O3, M3, _, _, S3, g, h'⟩
  | bk e e2 =>
    rw [e]
    intro H2 S2 _ _
    refine iteT ?_
    exact ⟨fun _ _ => False, fun _ _ z => z.elim, hb.go G O' M' _ σ' H2 _ S2 (by rw [e2]; exact h')⟩
  | rt e e2 =>
    rw [e]
    intro H2 S2 _ _
    refine iteT ?_
    exact ⟨fun _ _ => False, fun _ _ z => z.elim, hb.go G O' M' _ σ' H2 _ S2 (by rw [e2]; exact h')⟩
  | bexc e e2 =>
    rw [e]
    intro H2 S2 _ _
    refine iteT ?_
    exact ⟨fun _ _ => False, fun _ _ z => z.elim, hb.go G O' M' _ σ' H2 _ S2 (by rw [e2]; exact h')⟩⟩
end
end Mi

set_option Elab.async false
set_option linter.all false
set_option maxRecDepth 100000
set_option maxHeartbeats 4000000
/-! Mi4: statements and targets of the text; what is walked; list comprehensions. -/
namespace Mi
open PySem PySem.Spec PyProof.Rows L2

section
variable {X : Cx} {F : Fr} {W : WX} {fr : Bool} {e c : Expr} {te : TE} {m : EM} {ef : Ef} {pos pos' : Pos} {st : Stmt} {rest a b : List Stmt} {t u : TS} {sa sb : SM} {tc : TT} {mc : TM} {p : Bool}
theorem mg_name (i : Nat) {x : Str} (hK : X.K = F.K := by rfl) (hN : X.N.Nodup := by exact of_decide_eq_true (by kernel_rfl)) (hi : X.N[i]? = some x := by rfl) (hx : Loc X.env.scope x := by first | exact Or.inl rfl | exact Or.inr rfl)
    (hf : X.fn x = true ∨ X.env.scope.names.lookup x = some .local := by first | exact Or.inl rfl | exact Or.inr rfl) : MG X F W (.Name x pos) (gName i) (gmName i) [i] := ⟨hK, pg_name hN hi hx hf, cg_name⟩
theorem mgs_nil (hK : X.K = F.K := by rfl) : MGs X F W [] gNil gmNil [] := ⟨hK, pgs_nil, cg_nil⟩
theorem mgs_cons {es : List Expr} {g : TG} {gm : GM} {ix iy : List Nat} {gs : TGs} {gms : GMs} (h1 : MG X F W e g gm ix) (h2 : MGs X F W es gs gms iy) (hs : (assignEach (e :: es) X.env).map (·.2) = assign e X.env :: (assignEach es X.env).map (·.2) := by rfl) : MGs X F W (e :: es) (gCons g gs) (gmCons gm gms) (ix ++ iy) :=
  ⟨h1.k, pgs_cons h1.pe h2.pe hs, cg_cons h1.co h2.co⟩
theorem mg_tup {es : List Expr} {k n : Nat} {iy : List Nat} {gs : TGs} {gms : GMs} (hc : X.calm = true) (h2 : MGs X F W es gs gms iy) (hn : (assignEach es X.env).length = n := by rfl) (hst : (assignEach es X.env).findIdx? (·.1) = none := by rfl) : MG X F W (.Tuple es k pos) (gTup F.K n gs) (gmTup n gms) iy := by
  refine ⟨h2.k, ?_, cg_tup h2.co⟩
  have q := pg_tup (pos := pos) (k := k) hc h2.pe hn hst
  rw [h2.k] at q
  exact q

theorem mss_nil (hK : X.K = F.K := by rfl) : MSs X F W fr [] tNext sNx := ⟨hK, pss_nil, cs_nx⟩
theorem mss_cons (h1 : MS X F W fr st t sa) (h2 : MSs X F W fr rest u sb) : MSs X F W fr (st :: rest) (tSeq t u) (sSeq sa sb) := ⟨h1.k, pss_cons h1.pe h2.pe, cs_seq h1.co h2.co⟩
theorem mss_one (h1 : MS X F W fr st t sa) : MSs X F W fr [st] t sa := ⟨h1.k, pss_one h1.pe, h1.co⟩
theorem ms_pass (hK : X.K = F.K := by rfl) : MS X F W fr (.Pass pos) tNext sNx := ⟨hK, ps_pass, cs_nx⟩
theorem ms_doc {x j} (hK : X.K = F.K := by rfl) : MS X F W fr (.Expr (.Constant (.str x) j pos) pos') tNext sNx := ⟨hK, ps_doc, cs_nx⟩
theorem ms_break (hK : X.K = F.K := by rfl) : MS X F W fr (.Break pos) tBreak sBk := ⟨hK, ps_break, cs_bk⟩
theorem ms_cont (hK : X.K = F.K := by rfl) : MS X F W fr (.Continue pos) tCont sCt := ⟨hK, ps_continue, cs_ct⟩
theorem ms_expr (h : ME X F W e te m ef) (hs : swapsWith e none pos.line X.env = pure false := by rfl) : MS X F W fr (.Expr e pos) (tDrop te) (sDrop m) := ⟨h.k, ps_expr h.pe hs, cs_drop h.co⟩
theorem ms_ret (h : ME X F W e te m ef) (hf : (!fr || ef.f) = true := by rfl) : MS X F W fr (.Return (some e) pos) (tRet te) (sRet m) := ⟨h.k, ps_ret h.pe, cs_ret h.co hf⟩
theorem ms_retOwn (i : Nat) {x : Str} (hK : X.K = F.K := by rfl) (hN : X.N[i]? = some x := by rfl) (hv : Vis X.env.scope x := by first | exact Or.inl rfl | exact Or.inr (Or.inl rfl) | exact Or.inr (Or.inr rfl))
    (hd : (x == ("__debug__" : Str)) = false := by decide) (hcd : (x == ("__classdict__" : Str)) = false := by decide) : MS X F W fr (.Return (some (.Name x pos')) pos) (tRet (tVar i)) (sRet (eOwn i)) := ⟨hK, ps_ret (pe_var hN hv hd hcd), cs_retOwn⟩
theorem ms_retN (hf : fr = false := by rfl) (hK : X.K = F.K := by rfl) : MS X F W fr (.Return none pos) tRetN sRetN := ⟨hK, ps_retN, cs_retN hf⟩
theorem ms_if (hc : MT X F W c tc mc p) (ha : MSs X F W fr a t sa) (hb : MSs X F W fr b u sb) : MS X F W fr (.If c a b pos) (tIfS tc t u) (sIf mc sa sb) := ⟨hc.k, ps_if hc.pe ha.pe hb.pe, cs_if hc.co ha.co hb.co⟩
theorem ms_set (i : Nat) {x : Str} (h : ME X F W e te m ef) (hb : ef.b = false := by rfl) (hN : X.N.Nodup := by exact of_decide_eq_true (by kernel_rfl)) (hi : X.N[i]? = some x := by rfl) (hx : Loc X.env.scope x := by first | exact Or.inl rfl | exact Or.inr rfl) (hs : swapsWith e (some (.Name x pos')) pos.line X.env = pure false := by rfl)
    (hf : X.fn x = true ∨ X.env.scope.names.lookup x = some .local := by first | exact Or.inl rfl | exact Or.inr rfl) : MS X F W fr (.Assign [.Name x pos'] e pos) (tAsg te (gName i)) (sSet i m) := ⟨h.k, ps_set hN hi hx h.pe hs hf, cs_set h.co hb⟩
theorem ms_own (i : Nat) {x : Str} (h : ME X F W e te m ef) (hb : ef.f = true := by rfl) (hN : X.N.Nodup := by exact of_decide_eq_true (by kernel_rfl)) (hi : X.N[i]? = some x := by rfl) (hx : Loc X.env.scope x := by first | exact Or.inl rfl | exact Or.inr rfl) (hs : swapsWith e (some (.Name x pos')) pos.line X.env = pure false := by rfl)
    (hf : X.fn x = true ∨ X.env.scope.names.lookup x = some .local := by first | exact Or.inl rfl | exact Or.inr rfl) : MS X F W fr (.Assign [.Name x pos'] e pos) (tAsg te (gName i)) (sOwn i m) := ⟨h.k, ps_set hN hi hx h.pe hs hf, cs_own h.co hb⟩
theorem ms_asg {tg : Expr} {g : TG} {gm : GM} {ix : List Nat} (h : ME X F W e te m ef) (hg : MG X F W tg g gm ix) (hb : ef.b = false := by rfl) (hs : swapsWithSole [tg] e pos.line X.env = pure false := by rfl) (hw : swappedStores [tg] e X.env = pure none := by rfl)
    (h1 : (assignEach [tg] X.env).map (·.2) = [assign tg X.env] := by rfl) : MS X F W fr (.Assign [tg] e pos) (tAsg te g) (sAsgG gm m) := ⟨h.k, ps_asg h.pe hg.pe hs hw h1, cs_asg h.co hg.co hb⟩
theorem ms_par (i j : Nat) {x y : Str} {e1 e2 : Expr} {ta : TA} {am : LM} {px py pt : Pos} {kt k2 pt2} (hc : X.calm = true) (h : MA X F W [e1, e2] ta am false p) (hw : swappedStores [.Tuple [.Name x px, .Name y py] kt pt] (.Tuple [e1, e2] k2 pt2) X.env = pure (some [x, y]) := by rfl)
    (hN : X.N.Nodup := by exact of_decide_eq_true (by kernel_rfl)) (hi : X.N[i]? = some x := by rfl) (hj : X.N[j]? = some y := by rfl) (hij : i ≠ j := by decide) (hx : X.env.scope.names.lookup x = some .local := by rfl) (hy : X.env.scope.names.lookup y = some .local := by rfl)
    (hs : swapsWithSole [.Tuple [.Name x px, .Name y py] kt pt] (.Tuple [e1, e2] k2 pt2) pos.line X.env = pure false := by rfl) : MS X F W fr (.Assign [.Tuple [.Name x px, .Name y py] kt pt] (.Tuple [e1, e2] k2 pt2) pos) (tPar i j ta) (sPar i j am) :=
  ⟨h.k, ps_par hc hN hi hj hij hx hy h.pe hw hs, cs_par h.co⟩
theorem ms_freeze (i : Nat) (h : MS X F W fr st t sa) : MS X F W fr st t (sFreeze i sa) := ⟨h.k, h.pe, cs_freeze h.co⟩
theorem ms_for {tg iter : Expr} {wi : TI} {im : LM} {g : TG} {gm : GM} {ix : List Nat} (hp : PassesOwn (model X.prog X.w) X.A X.env X.xe) (hc : X.calm = true) (hi : MI X F W tg iter wi im p) (hg : MG X F W tg g gm ix) (hb : MSs X F W fr a t sa)
    (hs : ∀ x, foldedSetIterable iter X.env x = pure x := by intro _; rfl) : MS X F W fr (.For tg iter a [] pos) (tFor wi g t) (sFor im gm sa) := ⟨hi.k, ps_for hp hc hi.pe hg.pe hb.pe hs, cs_for hi.co hg.co hb.co⟩
theorem ms_while (hp : PassesOwn (model X.prog X.w) X.A X.env X.xe) (hc : MT X F W c tc mc p) (hb : MSs X F W fr a t sa) : MS X F W fr (.While c a [] pos) (tWhile tc t) (sWhile mc sa) := ⟨hc.k, ps_while hp hc.pe hb.pe, cs_while hc.co hb.co⟩
end

/-! ### what is walked: a list, a tuple, a text -/
def signsOf (x : Str) : List D := x.cps.toList.map fun c => PyData.str ⟨#[c]⟩
def itemsOf : D → Option (List D)
  | .list xs => some xs
  | .tuple xs => some xs
  | .str x => some (signsOf x)
  | _ => none
def iSeq (K : PySem.W.Frag) (tl : TE) : TI := fun σ H R => tl σ H fun x H1 => (∃ a, x = .ref a ∧ (∃ xs, SqL K H1 a xs) ∧ R (Itl K a) H1) ∨ (∃ a, x = .ref a ∧ (∃ xs, SqT K H1 a xs) ∧ R (Itt K a) H1) ∨ (∃ z, x = .str z ∧ R (Its z) H1)
def lSeq (a : EM) : LM := fun ρ => (a ρ).bind fun x => (oOut (itemsOf x.1)).bind fun r => .ok (r, x.2)
theorem pi_seq {X : Cx} {tg l : Expr} {tl : TE} (hl : PE X l tl) : PI X tg l (iSeq X.K tl) := by
  refine ⟨fun pins s0 σ H R I0 h => thn (hl.run pins s0 σ H _ I0 h) fun v s z => ?_⟩
  obtain ⟨x, H1, I, rv, q⟩ := z
  rcases q with ⟨a, ex, ⟨xs, hq⟩, q⟩ | ⟨a, ex, ⟨xs, hq⟩, q⟩ | ⟨z, ex, q⟩
  · subst ex
    cases rv
    obtain ⟨its, _, pl, _⟩ := I.list hq
    exact wpAny_pyIter_list pl.isList (pi_one (tk := s.toks) I _ (turn_list a _) ⟨_, Heap.get?_push_size _ rfl, rfl, rfl⟩ q)
  · subst ex
    cases rv
    obtain ⟨its, _, pl, _⟩ := I.tuple hq
    exact wpAny_pyIter_tuple (show s.heap.IsTuple a its.toArray from pl) (pi_one (tk := s.toks) I _ (turn_tuple a _) ⟨_, Heap.get?_push_size _ rfl, rfl, rfl⟩ q)
  · subst ex
    obtain ⟨t, et⟩ := rv
    subst et
    cases ha : z.cps.all (· < 128) with
    | false => exact wpAny_pyIter_wide ha (pi_one (tk := s.toks) I _ (turn_str _ z t _ (.inr rfl)) ⟨_, Heap.get?_push_size _ rfl, rfl, rfl⟩ q)
    | true => exact wpAny_pyIter_ascii ha (pi_one (tk := s.toks) I _ (turn_str _ z t _ (.inl rfl)) ⟨_, Heap.get?_push_size _ rfl, rfl, rfl⟩ q)

section
variable {K : PySem.W.Frag} {O : Addr → Prop} {H : Hp}
theorem rp_list {ds : List D} {v : V} (r : Rp K O H (.list ds) v) : ∃ a vs, v = .ref a ∧ SqL K H a vs ∧ RpL K O H ds vs := by
  cases r with
  | lst h _ r => exact ⟨_, _, rfl, SqL.of h, r⟩
theorem rp_tuple {ds : List D} {v : V} (r : Rp K O H (.tuple ds) v) : ∃ a vs, v = .ref a ∧ SqT K H a vs ∧ RpL K O H ds vs := by
  cases r with
  | tup h r => exact ⟨_, _, rfl, h, r⟩
theorem it_list {ds : List D} {a : Addr} : ItR K [(.list ds, .ref a)] (Itl K a) ds := fun O H g i => by
  obtain ⟨a', vs, e, hs, r⟩ := rp_list (g _ (List.mem_singleton.mpr rfl))
  cases e
  refine ⟨fun hi => ?_, fun hi => ⟨vs, hs, by rw [← r.len]; exact Nat.le_of_eq hi.symm⟩⟩
  obtain ⟨v, hv, rv⟩ := r.at_ (i := i) (d := ds[i]) (by simp [hi])
  refine ⟨⟨vs, v, hs, hv⟩, fun x H' y => ?_⟩
  obtain ⟨e1, e2⟩ := y
  subst e1
  have := e2 vs hs
  rw [hv] at this
  cases this
  exact ⟨ds[i], by simp [hi], L2.Same.refl _, rv⟩
theorem it_tuple {ds : List D} {a : Addr} : ItR K [(.tuple ds, .ref a)] (Itt K a) ds := fun O H g i => by
  obtain ⟨a', vs, e, hs, r⟩ := rp_tuple (g _ (List.mem_singleton.mpr rfl))
  cases e
  refine ⟨fun hi => ?_, fun hi => ⟨vs, hs, by rw [← r.len]; exact Nat.le_of_eq hi.symm⟩⟩
  obtain ⟨v, hv, rv⟩ := r.at_ (i := i) (d := ds[i]) (by simp [hi])
  refine ⟨⟨vs, v, hs, hv⟩, fun x H' y => ?_⟩
  obtain ⟨e1, e2⟩ := y
  subst e1
  have := e2 vs hs
  rw [hv] at this
  cases this
  exact ⟨ds[i], by simp [hi], L2.Same.refl _, rv⟩
theorem it_str {z : Str} : ItR K [] (Its z) (signsOf z) := fun O H _ i => by
  have hl : (signsOf z).length = z.cps.size := by unfold signsOf; rw [List.length_map, Array.length_toList]
  refine ⟨fun hi => ?_, fun hi => by rw [hl] at hi; exact Nat.le_of_eq hi.symm⟩
  rw [hl] at hi
  refine ⟨hi, fun x H' y => ?_⟩
  obtain ⟨e1, c, e2, e3⟩ := y
  subst e1 e3
  refine ⟨.str ⟨#[c]⟩, ?_, L2.Same.refl _, .str _⟩
  unfold signsOf
  rw [List.getElem?_map, Array.getElem?_toList, e2]
  rfl
/-- lo, lo + 1, .. -/
def countD (lo : Int) (n : Nat) : List D := (List.range n).map fun k => PyData.int (lo + (k : Nat))
theorem it_range {lo : Int} {n : Nat} : ItR K [] (Itr lo n) (countD lo n) := fun O H _ i => by
  have hl : (countD lo n).length = n := by unfold countD; rw [List.length_map, List.length_range]
  refine ⟨fun hi => ?_, fun hi => by rw [hl] at hi; exact Nat.le_of_eq hi.symm⟩
  rw [hl] at hi
  refine ⟨hi, fun x H' y => ?_⟩
  obtain ⟨e1, e2⟩ := y
  subst e1 e2
  refine ⟨.int (lo + (i : Nat)), ?_, L2.Same.refl _, .int _⟩
  unfold countD
  rw [List.getElem?_map, List.getElem?_range hi]
  rfl
def stepD (lo c : Int) (n : Nat) : List D := (List.range n).map fun k => PyData.int (lo + (k : Nat) * c)
theorem it_step {lo c : Int} {n : Nat} : ItR K [] (Itc lo c n) (stepD lo c n) := fun O H _ i => by
  have hl : (stepD lo c n).length = n := by unfold stepD; rw [List.length_map, List.length_range]
  refine ⟨fun hi => ?_, fun hi => by rw [hl] at hi; exact Nat.le_of_eq hi.symm⟩
  rw [hl] at hi
  refine ⟨hi, fun x H' y => ?_⟩
  obtain ⟨e1, e2⟩ := y
  subst e1 e2
  refine ⟨.int (lo + (i : Nat) * c), ?_, L2.Same.refl _, .int _⟩
  unfold stepD
  rw [List.getElem?_map, List.getElem?_range hi]
  rfl
def enumD (ds : List D) : List D := ds.zipIdx.map fun p => PyData.tuple [.int (p.2 : Nat), p.1]
theorem enumD_len (ds : List D) : (enumD ds).length = ds.length := by unfold enumD; rw [List.length_map, List.length_zipIdx]
theorem enumD_at {ds : List D} {i : Nat} (hi : i < ds.length) : (enumD ds)[i]? = some (.tuple [.int (i : Nat), ds[i]]) := by
  unfold enumD
  rw [List.getElem?_map, List.getElem?_zipIdx]
  simp [hi]
theorem it_enum {ds : List D} {a : Addr} : ItR K [(.list ds, .ref a)] (Ite K a) (enumD ds) := fun O H g i => by
  obtain ⟨a', vs, e, hs, r⟩ := rp_list (g _ (List.mem_singleton.mpr rfl))
  cases e
  rw [enumD_len]
  refine ⟨fun hi => ?_, fun hi => ⟨vs, hs, by rw [← r.len]; exact Nat.le_of_eq hi.symm⟩⟩
  obtain ⟨v, hv, rv⟩ := r.at_ (i := i) (d := ds[i]) (by simp [hi])
  refine ⟨⟨vs, v, hs, hv⟩, fun x H' y => ?_⟩
  obtain ⟨T, x0, e1, n, e2, e3⟩ := y
  have := e3 vs hs
  rw [hv] at this
  cases this
  subst e1 e2
  exact ⟨_, enumD_at hi, same_new n, rp_tupN n (.cons (.int _) (.cons rv .nil))⟩
def zipD (ds es : List D) : List D := (ds.zip es).map fun p => PyData.tuple [p.1, p.2]
theorem it_zip {ds es : List D} {a b : Addr} : ItR K [(.list ds, .ref a), (.list es, .ref b)] (Itz K a b) (zipD ds es) := fun O H g i => by
  obtain ⟨a', vs, e, hs, r⟩ := rp_list (g (.list ds, .ref a) (by simp))
  cases e
  obtain ⟨b', ws, e, hs', r'⟩ := rp_list (g (.list es, .ref b) (by simp))
  cases e
  have hl : (zipD ds es).length = min ds.length es.length := by unfold zipD; rw [List.length_map, List.length_zip]
  rw [hl]
  refine ⟨fun hi => ?_, fun hi => ⟨vs, ws, hs, hs', by rw [← r.len, ← r'.len]; omega⟩⟩
  have h1 : i < ds.length := by omega
  have h2 : i < es.length := by omega
  obtain ⟨v, hv, rv⟩ := r.at_ (i := i) (d := ds[i]) (by simp [h1])
  obtain ⟨u, hu, ru⟩ := r'.at_ (i := i) (d := es[i]) (by simp [h2])
  refine ⟨⟨vs, ws, v, u, hs, hs', hv, hu⟩, fun x H' y => ?_⟩
  obtain ⟨T, x0, y0, e1, n, e2, e3, e4⟩ := y
  have q := e3 vs hs
  rw [hv] at q
  cases q
  have q := e4 ws hs'
  rw [hu] at q
  cases q
  subst e1 e2
  refine ⟨.tuple [ds[i], es[i]], ?_, same_new n, rp_tupN n (.cons rv (.cons ru .nil))⟩
  unfold zipD
  have q : (ds.zip es)[i]? = some (ds[i], es[i]) := List.getElem?_zip_eq_some.mpr ⟨by simp [h1], by simp [h2]⟩
  rw [List.getElem?_map, q]
  rfl
end
section
variable {F : Fr} {W : WX}
theorem ci_seq {tl : TE} {m : EM} {e1 : Ef} (h1 : CoE F W tl m e1) (hb : e1.b = false) : CoI F W (iSeq F.K tl) (lSeq m) e1.p := ⟨fun G O M ρ σ H R S h => by
  unfold lSeq at h
  refine h1.go G O M ρ σ H _ S ?_
  cases e : m ρ with
  | bad => rw [e] at h; exact h
  | exc c d => rw [e] at h; exact h
  | ok x =>
    obtain ⟨x, ρ1⟩ := x
    rw [e] at h
    intro H1 S1 m1 x1 v r _
    rw [hb] at r
    cases x with
    | list ds =>
      obtain ⟨a, vs, ev, hs, rl⟩ := rp_list r
      subst ev
      exact .inl ⟨a, rfl, ⟨vs, hs⟩, h H1 S1 m1 x1 _ _ it_list fun q hq => by rw [List.mem_singleton.mp hq]; exact r⟩
    | tuple ds =>
      obtain ⟨a, vs, ev, hs, rl⟩ := rp_tuple r
      subst ev
      exact .inr (.inl ⟨a, rfl, ⟨vs, hs⟩, h H1 S1 m1 x1 _ _ it_tuple fun q hq => by rw [List.mem_singleton.mp hq]; exact r⟩)
    | str z => cases r; exact .inr (.inr ⟨z, rfl, h H1 S1 m1 x1 _ _ it_str fun q hq => absurd hq (by simp)⟩)
    | _ => exact h.elim⟩
def lRng1 (a : LM) : LM := fun ρ => (a ρ).bind fun x => match x.1 with
  | [.int j] => if -(2 ^ 62) ≤ j ∧ j < 2 ^ 62 then .ok (countD 0 j.toNat, x.2) else .bad
  | _ => .bad
def lRng2 (a : LM) : LM := fun ρ => (a ρ).bind fun x => match x.1 with
  | [.int i, .int j] => if (-(2 ^ 62) ≤ i ∧ i < 2 ^ 62) ∧ -(2 ^ 62) ≤ j ∧ j < 2 ^ 62 then .ok (countD i (j - i).toNat, x.2) else .bad
  | _ => .bad
theorem ci_rng1 {ta : TA} {m : LM} {p b : Bool} (h1 : CoA F W ta m b p) : CoI F W (iRng1 ta) (lRng1 m) p := ⟨fun G O M ρ σ H R S h => by
  unfold lRng1 at h
  refine h1.go G O M ρ σ H _ S ?_
  cases e : m ρ with
  | bad => rw [e] at h; exact h
  | exc c d => rw [e] at h; exact h
  | ok x =>
    obtain ⟨x, ρ1⟩ := x
    rw [e] at h
    intro H1 S1 m1 x1 vs r
    match x, vs, r with
    | [.int j], _, .cons (.int _) .nil =>
      have h : Post F W G O M ρ σ H p (if -(2 ^ 62) ≤ j ∧ j < 2 ^ 62 then .ok (countD 0 j.toNat, ρ1) else .bad) _ := h
      by_cases hz : -(2 ^ 62) ≤ j ∧ j < 2 ^ 62
      · rw [if_pos hz] at h
        exact ⟨j, rfl, hz.1, hz.2, h H1 S1 m1 x1 _ [] it_range fun q hq => absurd hq (by simp)⟩
      · rw [if_neg hz] at h; exact h.elim
    | [], _, _ => exact h.elim
    | .none :: _, _, _ => exact h.elim
    | .bool _ :: _, _, _ => exact h.elim
    | .str _ :: _, _, _ => exact h.elim
    | .list _ :: _, _, _ => exact h.elim
    | .tuple _ :: _, _, _ => exact h.elim
    | .dict _ :: _, _, _ => exact h.elim
    | .int _ :: _ :: _, _, _ => exact h.elim⟩
theorem ci_rng2 {ta : TA} {m : LM} {p b : Bool} (h1 : CoA F W ta m b p) : CoI F W (iRng2 ta) (lRng2 m) p := ⟨fun G O M ρ σ H R S h => by
  unfold lRng2 at h
  refine h1.go G O M ρ σ H _ S ?_
  cases e : m ρ with
  | bad => rw [e] at h; exact h
  | exc c d => rw [e] at h; exact h
  | ok x =>
    obtain ⟨x, ρ1⟩ := x
    rw [e] at h
    intro H1 S1 m1 x1 vs r
    dsimp only [Out.bind] at h
    split at h
    · rename_i i j
      match vs, r with
      | _, .cons (.int _) (.cons (.int _) .nil) =>
        by_cases hz : (-(2 ^ 62) ≤ i ∧ i < 2 ^ 62) ∧ -(2 ^ 62) ≤ j ∧ j < 2 ^ 62
        · rw [if_pos hz] at h
          exact ⟨i, j, rfl, ⟨hz.1.1, hz.1.2, hz.2.1, hz.2.2⟩, h H1 S1 m1 x1 _ [] it_range fun q hq => absurd hq (by simp)⟩
        · rw [if_neg hz] at h; exact h.elim
    · exact h.elim⟩
end

/-! ### list comprehensions -/
def wipeS (ρ : List Sv) : List Nat → List Sv
  | [] => ρ
  | v :: vs => (wipeS ρ vs).set v .un
/-- the names of the block: their values outside come back -/
def backS (ρ0 ρ : List Sv) : List Nat → List Sv
  | [] => ρ
  | v :: vs => (backS ρ0 ρ vs).set v (ρ0.getD v .un)
def freeAt (ρ : List Sv) : List Nat → Bool
  | [] => true
  | v :: vs => (match ρ[v]? with | some s => !s.own | none => false) && freeAt ρ vs
/-- in a block nothing may be raised -/
def Out.calm {α : Type} : Out α → Out α
  | .ok a => .ok a
  | _ => .bad
def runLc (g : GM) (t : TM) (m : EM) : List D → List Sv → List D → Out (List D × List Sv)
  | [], ρ, acc => .ok (acc, ρ)
  | d :: ds, ρ, acc => (oOut (g d ρ)).bind fun ρ1 => (t ρ1).calm.bind fun x =>
    if x.1 = true then (m x.2).calm.bind fun y => if acc.length < 16777216 then runLc g t m ds y.2 (acc ++ [y.1]) else .bad
    else runLc g t m ds x.2 acc
/-- the block's names are forgotten ahead of each turn -/
def eLc (i : LM) (g : GM) (t : TM) (m : EM) (vs : List Nat) : EM := fun ρ => (i ρ).bind fun x =>
  if freeAt x.2 vs = true then (runLc (fun d r => g d (wipeS r vs)) t m x.1 x.2 []).bind fun y => .ok (.list y.1, backS x.2 y.2 vs) else .bad
def mYes : TM := fun ρ => .ok (true, ρ)
section
variable {F : Fr} {W : WX} {G : List (D × V)} {O M : Addr → Prop} {ρ ρ1 : List Sv} {σ : L2.St} {H H1 H2 : Hp}
theorem ct_yes : CoT F W tYes mYes true := ⟨fun G O M ρ σ H Q S h => h H S (Sim.refl ρ) (Hx.refl _ H)⟩
theorem wipe_len (ρ : List Sv) : ∀ vs : List Nat, (wipeS ρ vs).length = ρ.length
  | [] => rfl
  | v :: vs => by unfold wipeS; rw [List.length_set, wipe_len ρ vs]
theorem wipeS_out {i : Nat} : ∀ {vs : List Nat}, i ∉ vs → (wipeS ρ vs)[i]? = ρ[i]?
  | [], _ => rfl
  | v :: vs, h => by
    unfold wipeS
    rw [List.getElem?_set_ne (fun e => h (by rw [e]; exact List.mem_cons_self)), wipeS_out (fun z => h (List.mem_cons_of_mem _ z))]
theorem wipeS_in {i : Nat} (hi : i < ρ.length) : ∀ {vs : List Nat}, i ∈ vs → (wipeS ρ vs)[i]? = some .un
  | v :: vs, h => by
    unfold wipeS
    by_cases e : v = i
    · subst e
      rw [List.getElem?_set_self (by rw [wipe_len]; exact hi)]
    · rw [List.getElem?_set_ne e, wipeS_in hi ((List.mem_cons.mp h).resolve_left fun z => e z.symm)]
theorem backS_len {ρ0 : List Sv} : ∀ vs : List Nat, (backS ρ0 ρ vs).length = ρ.length
  | [] => rfl
  | v :: vs => by unfold backS; rw [List.length_set, backS_len vs]
theorem backS_out {ρ0 : List Sv} {i : Nat} : ∀ {vs : List Nat}, i ∉ vs → (backS ρ0 ρ vs)[i]? = ρ[i]?
  | [], _ => rfl
  | v :: vs, h => by
    unfold backS
    rw [List.getElem?_set_ne (fun e => h (by rw [e]; exact List.mem_cons_self)), backS_out (fun z => h (List.mem_cons_of_mem _ z))]
theorem backS_in {ρ0 : List Sv} {i : Nat} (hi : i < ρ.length) : ∀ {vs : List Nat}, i ∈ vs → (backS ρ0 ρ vs)[i]? = some (ρ0.getD i .un)
  | v :: vs, h => by
    unfold backS
    by_cases e : v = i
    · subst e
      rw [List.getElem?_set_self (by rw [backS_len]; exact hi)]
    · rw [List.getElem?_set_ne e, backS_in hi ((List.mem_cons.mp h).resolve_left fun z => e z.symm)]
theorem freeAt_of : ∀ {vs : List Nat} {i : Nat}, freeAt ρ vs = true → i ∈ vs → ∃ s, ρ[i]? = some s ∧ s.own = false
  | v :: vs, i, h, hi => by
    unfold freeAt at h
    obtain ⟨h1, h2⟩ := Bool.and_eq_true_iff.mp h
    by_cases e : i = v
    · subst e
      cases q : ρ[i]? with
      | none => rw [q] at h1; cases h1
      | some s => rw [q] at h1; exact ⟨s, rfl, by simpa using h1⟩
    · exact freeAt_of h2 ((List.mem_cons.mp hi).resolve_left e)
theorem wipeV_out {σ : L2.St} {i : Nat} {vs : List Nat} (h : i ∉ vs) : (wipe σ vs)[i]? = σ[i]? := L2.wipe_out h
theorem wipeV_in {σ : L2.St} {i : Nat} (hi : i < σ.length) : ∀ {vs : List Nat}, i ∈ vs → (wipe σ vs)[i]? = some none
  | v :: vs, h => by
    unfold wipe
    by_cases e : v = i
    · subst e
      rw [List.getElem?_set_self (by rw [wipe_length]; exact hi)]
    · rw [List.getElem?_set_ne e, wipeV_in hi ((List.mem_cons.mp h).resolve_left fun z => e z.symm)]
theorem wipe_eq {σ τ : L2.St} {vs : List Nat} (hl : τ.length = σ.length) (h : ∀ i, i ∉ vs → τ[i]? = (wipe σ vs)[i]?) : wipe τ vs = wipe σ vs := by
  refine List.ext_getElem? fun i => ?_
  by_cases hi : i ∈ vs
  · by_cases l : i < σ.length
    · rw [wipeV_in (by rw [hl]; exact l) hi, wipeV_in l hi]
    · rw [List.getElem?_eq_none (by rw [wipe_length, hl]; omega), List.getElem?_eq_none (by rw [wipe_length]; omega)]
  · rw [wipeV_out hi, h i hi]
/-- the names at vs forgotten -/
theorem SR.wipe {vs : List Nat} (S : SR F G O M ρ σ H) (hf : ∀ i ∈ vs, ∀ s, ρ[i]? = some s → s.own = false) : SR F G O M (wipeS ρ vs) (L2.wipe σ vs) H := by
  have fwd : ∀ {i : Nat} {s : Sv}, (wipeS ρ vs)[i]? = some s → s.own = true → i ∉ vs ∧ ρ[i]? = some s := fun {i s} e o => by
    by_cases hi : i ∈ vs
    · have l : i < ρ.length := by rw [← wipe_len ρ vs]; exact (List.getElem?_eq_some_iff.mp e).1
      rw [wipeS_in l hi] at e
      cases e; cases o
    · exact ⟨hi, by rw [← wipeS_out hi]; exact e⟩
  refine ⟨by rw [wipe_len, wipe_length, S.len], S.hx, S.tabs, S.ofo, S.mo, S.wf, S.mw, S.dom, fun i sv x e1 e2 => ?_, fun i j a b p hij e1 e2 o1 o2 e3 => ?_, S.gh, fun p hp => ?_⟩
  · by_cases hi : i ∈ vs
    · have l : i < ρ.length := by rw [← wipe_len ρ vs]; exact (List.getElem?_eq_some_iff.mp e1).1
      rw [wipeS_in l hi] at e1
      cases e1
      trivial
    · rw [wipeS_out hi] at e1
      rw [wipeV_out hi] at e2
      exact S.sl i sv x e1 e2
  · obtain ⟨n1, q1⟩ := fwd e1 o1
    obtain ⟨n2, q2⟩ := fwd e2 o2
    rw [wipeV_out n1] at e3
    rw [wipeV_out n2]
    exact S.dis i j a b p hij q1 q2 o1 o2 e3
  · obtain ⟨o, e1, e2⟩ := S.ioa p hp
    have hi : p.1 ∉ vs := fun z => by have := hf p.1 z _ e1; cases this
    exact ⟨o, by rw [wipeS_out hi]; exact e1, by rw [wipeV_out hi]; exact e2⟩
/-- a list beside, which nothing that is known leans on, is written -/
theorem SR.side {p : Addr} {xs ys : List V} (S : SR F G O M ρ σ H) (ho : O p) (hm : ¬ M p) (h0 : F.H0 p = none) (hp : H p = some (.lst xs)) : SR F G O M ρ σ (upd H p (.lst ys)) := by
  have kp : ∀ b o, H b = some o → NoTbl o → (¬ O b ∨ Fix o) → upd H p (.lst ys) b = some o := fun b o e n f => by
    by_cases hb : b = p
    · subst hb
      rw [hp] at e
      cases e
      exact f.elim (fun z => absurd ho z) fun z => z.elim
    · rw [upd_ne hb]; exact e
  have kf : ∀ b o, H b = some o → NoTbl o → Fix o → upd H p (.lst ys) b = some o := fun b o e n f => kp b o e n (.inr f)
  have ex : ∀ b o, H b = some o → (∀ xs, o ≠ .lst xs) → upd H p (.lst ys) b = some o := fun b o e n => by
    rw [upd_ne (fun z => by subst z; rw [hp] at e; cases e; exact n xs rfl)]
    exact e
  refine ⟨S.len, ⟨fun b o e n f => ?_, fun b e => ?_⟩, fun q hq => ?_, S.ofo, S.mo, S.wf, S.mw, fun b z => ?_, fun i sv x e1 e2 => ?_, S.dis, fun q hq => (S.gh q hq).mv kp fun _ z => .inl z, S.ioa⟩
  · rw [upd_ne (fun z => by subst z; rw [h0] at e; cases e)]
    exact S.hx.kp b o e n f
  · by_cases hb : b = p
    · subst hb; exact absurd h0 e
    · rw [upd_ne hb]; exact S.hx.dm b e
  · obtain ⟨ps, t1, t2, t3⟩ := S.tabs q hq
    refine ⟨ps, ex _ _ t1 (fun _ z => by cases z), t2, fun pos cv hc => ?_⟩
    obtain ⟨c, c1, c2⟩ := t3 pos cv hc
    exact ⟨c, c1, ex _ _ c2 (fun _ z => by unfold LamX.CodeO at z; cases z)⟩
  · by_cases hb : b = p
    · subst hb; rw [upd_same]; exact fun z => by cases z
    · rw [upd_ne hb]; exact S.dom b z
  · have q := S.sl i sv x e1 e2
    have keep : ∀ {a : Addr} {u : HO}, M a → H a = some u → upd H p (.lst ys) a = some u := fun {a u} m e => by
      rw [upd_ne (fun z => hm (by rw [← z]; exact m))]; exact e
    cases sv with
    | un => trivial
    | va d => obtain ⟨v, q1, q2⟩ := q; exact ⟨v, q1, q2.mv kp fun _ z => .inl z⟩
    | ow o => obtain ⟨a, u, q1, q2, q3, q4, q5⟩ := q; exact ⟨a, u, q1, q2, q3, keep q2 q4, q5.mv kf⟩
    | io o => obtain ⟨a, u, q1, q2, q3, q4, q5⟩ := q; exact ⟨a, u, q1, q2, q3, keep q2 q4, q5.mv kf⟩
    | cl r => exact q
    | sc ns => obtain ⟨a, q1, q2⟩ := q; exact ⟨a, q1, q2.keep kf⟩
abbrev WN : WX := fun _ _ _ _ => False
theorem wipe_sim {ρ2 ρ4 ρk : List Sv} {ix vs : List Nat} (hv : ∀ i ∈ ix, i ∈ vs) (h0 : Sim (wipeS ρ1 vs) (wipeS ρk vs)) (h1 : ∀ i, i ∉ ix → ρ2[i]? = (wipeS ρk vs)[i]?) (hl : ρ2.length = ρk.length) (h2 : Sim ρ2 ρ4) : Sim (wipeS ρ1 vs) (wipeS ρ4 vs) := by
  have l4 : ρ4.length = ρk.length := h2.1.symm.trans hl
  refine ⟨by have := h0.1; rw [wipe_len, wipe_len] at this ⊢; rw [l4]; exact this, fun i a b ea eb => ?_⟩
  by_cases hi : i ∈ vs
  · have l : i < ρ4.length := by rw [← wipe_len ρ4 vs]; exact (List.getElem?_eq_some_iff.mp eb).1
    have l1 : i < ρ1.length := by rw [← wipe_len ρ1 vs]; exact (List.getElem?_eq_some_iff.mp ea).1
    rw [wipeS_in l hi] at eb
    rw [wipeS_in l1 hi] at ea
    cases ea; cases eb
    trivial
  · rw [wipeS_out hi] at eb
    have l : i < ρ2.length := by rw [h2.1]; exact (List.getElem?_eq_some_iff.mp eb).1
    have e2 : ρ2[i]? = some ρ2[i] := by simp [l]
    have q := h2.2 i _ b e2 eb
    rw [h1 i (fun z => hi (hv i z))] at e2
    exact Sv.sim_trans (h0.2 i a _ ea e2) q
theorem SR.back {G' : List (D × V)} {O' : Addr → Prop} {ρk : List Sv} {vs : List Nat} (S1 : SR F G O M ρ1 σ H1) (hfr : freeAt ρ1 vs = true) (Se : SR F (G' ++ G) O' M (wipeS ρk vs) (L2.wipe σ vs) H) (hO : ∀ a, O a → O' a) (hx : Hx M H1 H) (sm : Sim (wipeS ρ1 vs) (wipeS ρk vs)) :
    SR F G O M (backS ρ1 ρk vs) σ H ∧ Sim ρ1 (backS ρ1 ρk vs) := by
  have hl : ρ1.length = ρk.length := by have := sm.1; rw [wipe_len, wipe_len] at this; exact this
  have inn : ∀ {i : Nat} {s : Sv}, i ∈ vs → (backS ρ1 ρk vs)[i]? = some s → ρ1[i]? = some s ∧ s.own = false := fun {i s} hi e => by
    have l : i < ρk.length := by rw [← backS_len (ρ0 := ρ1) vs]; exact (List.getElem?_eq_some_iff.mp e).1
    rw [backS_in l hi] at e
    obtain ⟨s', e', o'⟩ := freeAt_of hfr hi
    have : ρ1.getD i .un = s' := by rw [List.getD_eq_getElem?_getD, e']; rfl
    rw [this] at e
    cases e
    exact ⟨e', o'⟩
  have out : ∀ {i : Nat}, i ∉ vs → (backS ρ1 ρk vs)[i]? = (wipeS ρk vs)[i]? := fun {i} hi => by rw [backS_out hi, wipeS_out hi]
  refine ⟨⟨by rw [backS_len, ← hl]; exact S1.len, Se.hx, Se.tabs, S1.ofo, S1.mo, S1.wf, S1.mw, fun a z => Se.dom a (hO a z), fun i sv x e1 e2 => ?_, fun i j a b p hij e1 e2 o1 o2 e3 => ?_, fun p hp => (Se.gh p (List.mem_append_right _ hp)).sub hO, fun p hp => ?_⟩, by rw [backS_len]; exact hl, fun i a b ea eb => ?_⟩
  · by_cases hi : i ∈ vs
    · obtain ⟨e', o'⟩ := inn hi e1
      have q := S1.sl i sv x e' e2
      cases sv with
      | va d => obtain ⟨v, q1, q2⟩ := q; exact ⟨v, q1, q2.hx hx S1.mo⟩
      | un => trivial
      | cl r => exact q
      | sc ns => obtain ⟨a, q1, q2⟩ := q; exact ⟨a, q1, q2.keep hx.fixed⟩
      | ow o => cases o'
      | io o => cases o'
    · rw [out hi] at e1
      have q := Se.sl i sv x e1 (by rw [wipeV_out hi]; exact e2)
      cases sv with
      | va d => obtain ⟨v, q1, q2⟩ := q; exact ⟨v, q1, q2.sub hO⟩
      | _ => exact q
  · have ni : ∀ {i : Nat} {s : Sv}, (backS ρ1 ρk vs)[i]? = some s → s.own = true → i ∉ vs := fun {i s} e o hi => by
      have := (inn hi e).2
      rw [o] at this; cases this
    have n1 := ni e1 o1
    have n2 := ni e2 o2
    rw [out n1] at e1
    rw [out n2] at e2
    have q := Se.dis i j a b p hij e1 e2 o1 o2
    rw [wipeV_out n1, wipeV_out n2] at q
    exact q e3
  · obtain ⟨o, e1, e2⟩ := S1.ioa p hp
    have ni : p.1 ∉ vs := fun z => by
      obtain ⟨s, e', o'⟩ := freeAt_of hfr z
      rw [e1] at e'; cases e'; cases o'
    have l : p.1 < (wipeS ρk vs).length := by rw [← sm.1, wipe_len]; exact (List.getElem?_eq_some_iff.mp e1).1
    have e3 : (wipeS ρk vs)[p.1]? = some (wipeS ρk vs)[p.1] := by simp [l]
    have q := sm.2 p.1 _ _ (by rw [wipeS_out ni]; exact e1) e3
    cases e : (wipeS ρk vs)[p.1] with
    | io o' => exact ⟨o', by rw [out ni, e3, e], e2⟩
    | _ => rw [e] at q; exact q.elim
  · by_cases hi : i ∈ vs
    · have := (inn hi eb).1
      rw [ea] at this
      cases this
      exact a.sim_refl
    · exact sm.2 i a b (by rw [wipeS_out hi]; exact ea) (by rw [← out hi]; exact eb)
theorem co_lc {wi : TI} {g : TG} {tt : TT} {te : TE} {im : LM} {gm : GM} {tm : TM} {em : EM} {p1 p2 : Bool} {ix vs : List Nat} {e3 : Ef} (hi : CoI F W wi im p1) (hg : CoG F WN g gm ix) (ht : CoT F WN tt tm p2) (he : CoE F WN te em e3) (hb : e3.b = false) (hv : ∀ i ∈ ix, i ∈ vs) :
    CoE F W (tLc wi g tt te vs) (eLc im gm tm em vs) ⟨false, p1 && (p2 && e3.p), true⟩ := ⟨fun G O M ρ σ H Q S h => by
  unfold eLc at h
  refine hi.go G O M ρ σ H _ S ?_
  cases e : im ρ with
  | bad => rw [e] at h; exact h
  | exc c d => rw [e] at h; exact h
  | ok x =>
    obtain ⟨items, ρ1⟩ := x
    rw [e] at h
    intro H1 S1 m1 x1 J g' hJ hgh D hD
    have h : EPost F W G O M ρ σ H ⟨false, p1 && (p2 && e3.p), true⟩ (if freeAt ρ1 vs = true then (runLc (fun d r => gm d (wipeS r vs)) tm em items ρ1 []).bind fun y => .ok (PyData.list y.1, backS ρ1 y.2 vs) else .bad) Q := h
    by_cases hfr : freeAt ρ1 vs = true
    case neg => rw [if_neg hfr] at h; exact h.elim
    rw [if_pos hfr] at h
    -- the block's own set of addresses that data avoid: the new list among them
    have nO : ¬ O D := fun z => S1.dom D z hD
    have nM : ¬ M D := fun z => nO (S1.mo D z)
    have nH : F.H0 D = none := S1.hx.fresh hD
    have sm0 : L2.Same H1 (upd H1 D (.lst [])) := same_new hD
    have T0 := S1.same sm0
    have S2 : SR F (g' ++ G) (fun b => O b ∨ b = D) M ρ1 σ (upd H1 D (.lst [])) := (S1.ghosts hgh).avoid (Hx.of_same sm0) T0.tabs (fun _ z => .inl z) (fun b z => z.imp id fun q => by rw [q]; exact hD)
      (fun b z => z.elim (T0.dom b) fun q => by rw [q, upd_same]; exact fun z => by cases z) (Sim.refl ρ1) fun i sv x ea eb ow => by
        have q := T0.sl i sv x ea eb
        cases sv with
        | ow o => exact q
        | io o => exact q
        | _ => cases ow
    have S3 := S2.wipe (vs := vs) fun i hi s es => by
      obtain ⟨s', e', o'⟩ := freeAt_of hfr hi
      rw [es] at e'; cases e'; exact o'
    refine ⟨fun i m H' => m = items.length - i ∧ i ≤ items.length ∧ ∃ ρk ds acc, SR F (g' ++ G) (fun b => O b ∨ b = D) M (wipeS ρk vs) (L2.wipe σ vs) H' ∧ Sim (wipeS ρ1 vs) (wipeS ρk vs) ∧ Hx (Pm (p2 && e3.p) M) H1 H' ∧ H' D = some (.lst acc) ∧ RpL F.K (fun b => O b ∨ b = D) H' ds acc ∧
      EPost F W G O M ρ σ H ⟨false, p1 && (p2 && e3.p), true⟩ ((runLc (fun d r => gm d (wipeS r vs)) tm em (items.drop i) ρk ds).bind fun y => .ok (.list y.1, backS ρ1 y.2 vs)) Q,
      ⟨items.length, by simp, Nat.zero_le _, ρ1, [], [], S3, Sim.refl _, Hx.of_same sm0, upd_same, .nil, by simpa using h⟩, ?_⟩
    rintro i m H' ⟨rfl, hle, ρk, ds, acc, Sk, smk, xk, hDk, rl, hk⟩
    have J1 := hJ (fun b => O b ∨ b = D) H' (fun q hq => Sk.gh q (List.mem_append_left _ hq)) i
    by_cases hlt : i < items.length
    case neg =>
      have e0 : items.drop i = [] := List.drop_eq_nil_of_le (Nat.le_of_not_lt hlt)
      rw [e0] at hk
      obtain ⟨Sb, mb⟩ := S1.back hfr Sk (fun _ z => .inl z) xk.pm smk
      refine .inl ⟨J1.2 (Nat.le_antisymm hle (Nat.le_of_not_lt hlt)), hk H' Sb (m1.trans mb) (x1.pp xk) _ (.lst hDk nO (rl.sub fun _ z => .inl z)) fun _ => ⟨D, rfl, x1.fresh hD, fun xs z => ?_⟩⟩
      cases z
      exact ⟨acc, hDk, rl.sub fun _ z => z.elim⟩
    obtain ⟨go, y⟩ := J1.1 hlt
    refine .inr ⟨go, fun H2 => items.length - (i + 1) = items.length - (i + 1) ∧ i + 1 ≤ items.length ∧ ∃ ρk ds acc, SR F (g' ++ G) (fun b => O b ∨ b = D) M (wipeS ρk vs) (L2.wipe σ vs) H2 ∧ Sim (wipeS ρ1 vs) (wipeS ρk vs) ∧ Hx (Pm (p2 && e3.p) M) H1 H2 ∧ H2 D = some (.lst acc) ∧ RpL F.K (fun b => O b ∨ b = D) H2 ds acc ∧
      EPost F W G O M ρ σ H ⟨false, p1 && (p2 && e3.p), true⟩ ((runLc (fun d r => gm d (wipeS r vs)) tm em (items.drop (i + 1)) ρk ds).bind fun y => .ok (.list y.1, backS ρ1 y.2 vs)) Q, fun H2 n => ⟨items.length - (i + 1), by omega, n⟩, fun x H2 hy => ?_⟩
    obtain ⟨d, ed, sm, rd⟩ := y x H2 hy
    have edr : items.drop i = d :: items.drop (i + 1) := by
      rw [List.drop_eq_getElem_cons hlt]
      have q := List.getElem?_eq_getElem hlt
      rw [ed] at q
      rw [← Option.some.inj q]
    rw [edr] at hk
    have hk : EPost F W G O M ρ σ H ⟨false, p1 && (p2 && e3.p), true⟩ (((oOut (gm d (wipeS ρk vs))).bind fun ρ1 => (tm ρ1).calm.bind fun x =>
        if x.1 = true then (em x.2).calm.bind fun y => if ds.length < 16777216 then runLc (fun d r => gm d (wipeS r vs)) tm em (items.drop (i + 1)) y.2 (ds ++ [y.1]) else .bad
        else runLc (fun d r => gm d (wipeS r vs)) tm em (items.drop (i + 1)) x.2 ds).bind fun y => .ok (.list y.1, backS ρ1 y.2 vs)) Q := hk
    cases e2 : gm d (wipeS ρk vs) with
    | none => rw [e2] at hk; exact hk.elim
    | some ρ2 =>
      rw [e2] at hk
      refine hg.go (g' ++ G) _ M _ _ H2 d x _ (Sk.same sm) rd ρ2 e2 fun σ2 T2 l2 k2 q2 o2 => ?_
      have wq : L2.wipe σ2 vs = L2.wipe σ vs := wipe_eq (by rw [l2, wipe_length]) fun j hj => k2 j fun z => hj (hv j z)
      have len2 : ρ2.length = ρk.length := by rw [T2.len, l2, ← Sk.len, wipe_len]
      have own2 : ∀ j ∈ vs, ∀ s, ρ2[j]? = some s → s.own = false := fun j hj s es => by
        by_cases hx : j ∈ ix
        · exact o2 j s es hx
        · rw [q2 j hx] at es
          have l : j < ρk.length := by rw [← wipe_len ρk vs]; exact (List.getElem?_eq_some_iff.mp es).1
          rw [wipeS_in l hj] at es
          cases es; rfl
      have own3 : ∀ {ρ' : List Sv}, Sim ρ2 ρ' → ∀ j ∈ vs, ∀ s, ρ'[j]? = some s → s.own = false := fun {ρ'} sm j hj s es => by
        have l : j < ρ2.length := by rw [sm.1]; exact (List.getElem?_eq_some_iff.mp es).1
        have e' : ρ2[j]? = some ρ2[j] := by simp [l]
        rw [← Sv.sim_own (sm.2 j _ s e' es)]
        exact own2 j hj _ e'
      refine ⟨wq, ht.go (g' ++ G) _ M ρ2 σ2 H2 _ T2 ?_⟩
      have hk : EPost F W G O M ρ σ H ⟨false, p1 && (p2 && e3.p), true⟩ (((tm ρ2).calm.bind fun x =>
        if x.1 = true then (em x.2).calm.bind fun y => if ds.length < 16777216 then runLc (fun d r => gm d (wipeS r vs)) tm em (items.drop (i + 1)) y.2 (ds ++ [y.1]) else .bad
        else runLc (fun d r => gm d (wipeS r vs)) tm em (items.drop (i + 1)) x.2 ds).bind fun y => .ok (.list y.1, backS ρ1 y.2 vs)) Q := hk
      cases e4 : tm ρ2 with
      | bad => rw [e4] at hk; exact hk.elim
      | exc c d => rw [e4] at hk; exact hk.elim
      | ok z =>
        obtain ⟨b, ρ3⟩ := z
        rw [e4] at hk
        intro H4 S4 m4 x4
        have D2 : H2 D = some (.lst acc) := sm D _ hDk
        have D4 : H4 D = some (.lst acc) := x4.kp D _ D2 (nt_lst _) fun z => absurd z.2 nM
        have x14 : Hx (Pm (p2 && e3.p) M) H1 H4 := xk.trans ((Hx.of_same sm).trans (x4.mono fun _ z => ⟨by rw [z.1]; rfl, z.2⟩))
        have rl4 : RpL F.K (fun b => O b ∨ b = D) H4 ds acc := (rl.same sm).hx x4.pm Sk.mo
        cases b with
        | false =>
          refine iteF ⟨rfl, hlt, ρ3, ds, acc, ?_, wipe_sim hv smk q2 len2 m4, x14, D4, rl4, hk⟩
          have := S4.wipe (own3 m4)
          rw [wq] at this
          exact this
        | true =>
          refine iteT (he.go (g' ++ G) _ M ρ3 σ2 H4 _ S4 ?_)
          have hk : EPost F W G O M ρ σ H ⟨false, p1 && (p2 && e3.p), true⟩ (((em ρ3).calm.bind fun y => if ds.length < 16777216 then runLc (fun d r => gm d (wipeS r vs)) tm em (items.drop (i + 1)) y.2 (ds ++ [y.1]) else .bad).bind fun y => .ok (.list y.1, backS ρ1 y.2 vs)) Q := hk
          cases e5 : em ρ3 with
          | bad => rw [e5] at hk; exact hk.elim
          | exc c d => rw [e5] at hk; exact hk.elim
          | ok w =>
            obtain ⟨w, ρ4⟩ := w
            rw [e5] at hk
            intro H5 S5 m5 x5 v r5 _
            rw [hb] at r5
            have hk : EPost F W G O M ρ σ H ⟨false, p1 && (p2 && e3.p), true⟩ ((if ds.length < 16777216 then runLc (fun d r => gm d (wipeS r vs)) tm em (items.drop (i + 1)) ρ4 (ds ++ [w]) else .bad).bind fun y => .ok (.list y.1, backS ρ1 y.2 vs)) Q := hk
            by_cases hz : ds.length < 16777216
            case neg => rw [if_neg hz] at hk; exact hk.elim
            rw [if_pos hz] at hk
            have D5 : H5 D = some (.lst acc) := x5.kp D _ D4 (nt_lst _) fun z => absurd z.2 nM
            have x15 : Hx (Pm (p2 && e3.p) M) H1 H5 := x14.trans (x5.mono fun _ z => ⟨by rw [z.1, Bool.and_false], z.2⟩)
            have rl5 : RpL F.K (fun b => O b ∨ b = D) H5 (ds ++ [w]) (acc ++ [v]) := (rl4.hx x5.pm Sk.mo).app (.cons r5 .nil)
            refine ⟨acc, D5, by rw [← rl.len, sizeLine_eq]; exact hz, rfl, hlt, ρ4, ds ++ [w], acc ++ [v], ?_, wipe_sim hv smk q2 len2 (m4.trans m5), ⟨fun b o eb n f => ?_, fun b eb => ?_⟩, upd_same, ?_, hk⟩
            · have q := S5.wipe (own3 (m4.trans m5))
              rw [wq] at q
              exact q.side (.inr rfl) nM nH D5
            · rw [upd_ne (ne_of_none eb hD)]
              exact x15.kp b o eb n f
            · by_cases hbD : b = D
              · rw [hbD, upd_same]; exact fun z => by cases z
              · rw [upd_ne hbD]; exact x15.dm b eb
            · refine rl5.mv (fun b o eb n f => ?_) fun _ z => .inl z
              by_cases hbD : b = D
              · subst hbD
                rw [D5] at eb
                cases eb
                exact f.elim (fun z => absurd (.inr rfl) z) fun z => z.elim
              · rw [upd_ne hbD]; exact eb⟩
end
end Mi

set_option Elab.async false
set_option linter.all false
set_option maxRecDepth 100000
set_option maxHeartbeats 4000000
/-! Mi5: comprehensions of the text; defs and their calls. -/
namespace Mi
open PySem PySem.Spec PyProof.Rows L2

section
variable {X : Cx} {F : Fr} {W : WX} {fr : Bool}
structure MTs (X : Cx) (F : Fr) (W : WX) (ifs : List Expr) (t : TT) (m : TM) (p : Bool) : Prop where
  k : X.K = F.K
  pe : PTs X ifs t
  co : CoT F W t m p
theorem mts_nil (hK : X.K = F.K := by rfl) : MTs X F W [] tYes mYes true := ⟨hK, pts_nil, ct_yes⟩
theorem mts_one {c : Expr} {t : TT} {m : TM} {p : Bool} (h : MT X F W c t m p) : MTs X F W [c] t m p := ⟨h.k, pts_one h.pe, h.co⟩
abbrev Blk (X : Cx) (scope : Scope) (s : Shared) (H : Hp) (C : Addr) (cl : List (Str × Addr)) (fp : List Addr) : Cx := X.blk s H scope (compEnvC scope cl C X.env) fp
theorem me_lc {own : List (Str × Nat)} {elt tg iter : Expr} {ifs : List Expr} {scope : Scope} {pos : Pos} {wi : TI} {g : TG} {tt : TT} {te : TE} {im : LM} {gm : GM} {tm : TM} {em : EM} {p1 p2 : Bool} {ix : List Nat} {e3 : Ef} (hc : X.calm = true) (hi : MI X F W tg iter wi im p1)
    (hg : ∀ s H C cl fp, MG (Blk X scope s H C cl fp) F WN tg g gm ix) (ht : ∀ s H C cl fp, MTs (Blk X scope s H C cl fp) F WN ifs tt tm p2) (he : ∀ s H C cl fp, ME (Blk X scope s H C cl fp) F WN elt te em e3)
    (hN : X.N.Nodup := by exact of_decide_eq_true (by kernel_rfl)) (ok : blkC X.N X.env.scope scope own = true := by kernel_rfl) (hb : e3.b = false := by rfl) (hv : ∀ i ∈ ix, i ∈ own.map (·.2) := by decide) (hs : ∀ x, foldedSetIterable iter X.env x = pure x := by intro _; rfl) :
    ME X F W (.ListComp elt [⟨tg, iter, ifs, 0⟩] scope pos) (tLc wi g tt te (own.map (·.2))) (eLc im gm tm em (own.map (·.2))) ⟨false, p1 && (p2 && e3.p), true⟩ :=
  ⟨hi.k, pe_lc hc hN hi.pe (blkOk_by ok) (fun s H C cl fp => (hg s H C cl fp).pe) (fun s H C cl fp => (ht s H C cl fp).pe) (fun s H C cl fp => (he s H C cl fp).pe) hs,
    co_lc hi.co (hg X.s_0 X.H_0 0 [] []).co (ht X.s_0 X.H_0 0 [] []).co (he X.s_0 X.H_0 0 [] []).co hb hv⟩
/-- name = [..] on one line, a local name -/
theorem ms_setLc (i : Nat) {own : List (Str × Nat)} {y : Str} {py spos : Pos} {elt tg iter : Expr} {ifs : List Expr} {scope : Scope} {pos : Pos} {wi : TI} {g : TG} {tt : TT} {te : TE} {im : LM} {gm : GM} {tm : TM} {em : EM} {p1 p2 : Bool} {ix : List Nat} {e3 : Ef} (hc : X.calm = true) (hi : MI X F W tg iter wi im p1)
    (hg : ∀ s H C cl fp, MG (Blk X scope s H C cl fp) F WN tg g gm ix) (ht : ∀ s H C cl fp, MTs (Blk X scope s H C cl fp) F WN ifs tt tm p2) (he : ∀ s H C cl fp, ME (Blk X scope s H C cl fp) F WN elt te em e3)
    (hN : X.N.Nodup := by exact of_decide_eq_true (by kernel_rfl)) (ok : blkC X.N X.env.scope scope own = true := by kernel_rfl) (hb : e3.b = false := by rfl) (hv : ∀ i ∈ ix, i ∈ own.map (·.2) := by decide) (hs : ∀ x, foldedSetIterable iter X.env x = pure x := by intro _; rfl)
    (hy : X.N[i]? = some y := by rfl) (hyl : X.env.scope.names.lookup y = some .local := by rfl) (hsw : swapsWith (.ListComp elt [⟨tg, iter, ifs, 0⟩] scope pos) (some (.Name y py)) spos.line X.env = pure true := by exact sw_true rfl rfl rfl (by kernel_rfl)) :
    MS X F W fr (.Assign [.Name y py] (.ListComp elt [⟨tg, iter, ifs, 0⟩] scope pos) spos) (tAsg (tLc wi g tt te (own.map (·.2))) (gName i)) (sSet i (eLc im gm tm em (own.map (·.2)))) :=
  ⟨hi.k, ps_setLc hc hN hy hyl hsw hi.pe (blkOk_by ok) (fun s H C cl fp => (hg s H C cl fp).pe) (fun s H C cl fp => (ht s H C cl fp).pe) (fun s H C cl fp => (he s H C cl fp).pe) hs,
    cs_set (co_lc hi.co (hg X.s_0 X.H_0 0 [] []).co (ht X.s_0 X.H_0 0 [] []).co (he X.s_0 X.H_0 0 [] []).co hb hv) rfl⟩
theorem ms_ownLc (i : Nat) {own : List (Str × Nat)} {y : Str} {py spos : Pos} {elt tg iter : Expr} {ifs : List Expr} {scope : Scope} {pos : Pos} {wi : TI} {g : TG} {tt : TT} {te : TE} {im : LM} {gm : GM} {tm : TM} {em : EM} {p1 p2 : Bool} {ix : List Nat} {e3 : Ef} (hc : X.calm = true) (hi : MI X F W tg iter wi im p1)
    (hg : ∀ s H C cl fp, MG (Blk X scope s H C cl fp) F WN tg g gm ix) (ht : ∀ s H C cl fp, MTs (Blk X scope s H C cl fp) F WN ifs tt tm p2) (he : ∀ s H C cl fp, ME (Blk X scope s H C cl fp) F WN elt te em e3)
    (hN : X.N.Nodup := by exact of_decide_eq_true (by kernel_rfl)) (ok : blkC X.N X.env.scope scope own = true := by kernel_rfl) (hb : e3.b = false := by rfl) (hv : ∀ i ∈ ix, i ∈ own.map (·.2) := by decide) (hs : ∀ x, foldedSetIterable iter X.env x = pure x := by intro _; rfl)
    (hy : X.N[i]? = some y := by rfl) (hyl : X.env.scope.names.lookup y = some .local := by rfl) (hsw : swapsWith (.ListComp elt [⟨tg, iter, ifs, 0⟩] scope pos) (some (.Name y py)) spos.line X.env = pure true := by exact sw_true rfl rfl rfl (by kernel_rfl)) :
    MS X F W fr (.Assign [.Name y py] (.ListComp elt [⟨tg, iter, ifs, 0⟩] scope pos) spos) (tAsg (tLc wi g tt te (own.map (·.2))) (gName i)) (sOwn i (eLc im gm tm em (own.map (·.2)))) :=
  ⟨hi.k, ps_setLc hc hN hy hyl hsw hi.pe (blkOk_by ok) (fun s H C cl fp => (hg s H C cl fp).pe) (fun s H C cl fp => (ht s H C cl fp).pe) (fun s H C cl fp => (he s H C cl fp).pe) hs,
    cs_own (co_lc hi.co (hg X.s_0 X.H_0 0 [] []).co (ht X.s_0 X.H_0 0 [] []).co (he X.s_0 X.H_0 0 [] []).co hb hv) rfl⟩
theorem mi_seq {tg l : Expr} {tl : TE} {m : EM} {e1 : Ef} (h : ME X F W l tl m e1) (hb : e1.b = false := by rfl) : MI X F W tg l (iSeq F.K tl) (lSeq m) e1.p := ⟨h.k, by have q := pi_seq (tg := tg) h.pe; rw [h.k] at q; exact q, ci_seq h.co hb⟩
theorem mi_rng1 {tg a : Expr} {ta : TA} {m : LM} {b p : Bool} {q pos : Pos} (hm : X.mg "range" = none) (h : MA X F W [a] ta m b p) (hg : Gl X "range" := by rfl) (hs : starEach [a] X.env = [(false, eval a X.env)] := by rfl) : MI X F W tg (.Call (.Name "range" q) [a] [] pos) (iRng1 ta) (lRng1 m) p :=
  ⟨h.k, pi_range1 hg hm h.pe hs, ci_rng1 h.co⟩
theorem mi_rng2 {tg a c : Expr} {ta : TA} {m : LM} {b p : Bool} {q pos : Pos} (hm : X.mg "range" = none) (h : MA X F W [a, c] ta m b p) (hg : Gl X "range" := by rfl) (hs : starEach [a, c] X.env = [(false, eval a X.env), (false, eval c X.env)] := by rfl) (hs2 : starEach [c] X.env = [(false, eval c X.env)] := by rfl) : MI X F W tg (.Call (.Name "range" q) [a, c] [] pos) (iRng2 ta) (lRng2 m) p :=
  ⟨h.k, pi_range2 hg hm h.pe hs hs2, ci_rng2 h.co⟩
end

/-! ### defs -/
/-- what is fixed for a law's walk: the program, the world, the written part, the globals, the heap at the entry, the code tables, the classes -/
structure Su where
  P : Program
  w : World
  K : PySem.W.Frag
  mg : Str → Option Value
  base : Heap
  T : List (Addr × Str)
  ca : String → Addr
abbrev FM := List Sv → Out (D × List Sv)
/-- what follows a call that changes the objects at U -/
def RPost (S : Su) (O U : Addr → Prop) (H : Hp) (r : Out D) (Q : VK) (E : XK) (more : D → V → Hp → Prop) : Prop :=
  match r with
  | .ok d => ∀ v H', Hx U H H' → LamX.Tabs S.T H' → Rp S.K O H' d v → more d v H' → Q v H'
  | .exc c d => ∀ dx v H', Hx U H H' → LamX.Tabs S.T H' → H' dx = some (.xd [(("what" : Str), v)]) → Rp S.K O H' d v → E (.ref (S.ca c)) (some dx) H'
  | .bad => False
/-- v is a function without parameters that comes to r, wherever it is called from here on -/
def Clo (S : Su) (k : Nat) (O U : Addr → Prop) (s : Shared) (H : Hp) (v : V) (r : Out D) : Prop :=
  ∃ f, v = .ref f ∧ ∀ (fs : List Addr) (s1 : Shared) (H1 : Hp), Un fs [] H H1 s.heap s1.heap → s1.os = s.os → Hx U H H1 → LamX.Tabs S.T H1 → PySem.W.FnAt f s1.heap ∧
    ∀ (A : Around) (outer : List Env) (Q : VK) (E : XK), Env0 S.P S.w S.K S.mg S.base A outer s1 H1 → Room k A → A.guards = some [] → RPost S O No H1 r Q E (fun _ _ _ => True) →
      codeAny (model S.P S.w) A (.call (.ref f) ⟨[], []⟩) (CR (L2.CX S.P S.w) outer S.P S.w H1 s1 Q E) s1
def ArgR (S : Su) (O U : Addr → Prop) (CF : V → Out D → Prop) (H : Hp) : Sv → V → Prop
  | .va d, v => Rp S.K O H d v
  | .io o, v => ∃ a u, v = .ref a ∧ U a ∧ H a = some u ∧ ObR S.K H o u
  | .cl r, v => CF v r
  | .sc ns, v => ∃ a, v = .ref a ∧ Fz S.K H a (ns.map V.int)
  | _, _ => False
def moreOf (S : Su) (fr : Bool) (H : Hp) (vs : List V) (avs0 avs : List Sv) (d : D) (v : V) (H' : Hp) : Prop :=
  (fr = true → Fresh S.K H H' d v) ∧ ∀ (i : Nat) (o0 o : Ob) (a : Addr), avs0[i]? = some (.io o0) → avs[i]? = some (.io o) → vs[i]? = some (.ref a) → ∃ u, H' a = some u ∧ ObR S.K H' o u
def outV {α β : Type} : Out (α × β) → Out α
  | .ok x => .ok x.1
  | .exc c d => .exc c d
  | .bad => .bad
def outR {β : Type} (b : β) : Out (D × β) → β
  | .ok x => x.2
  | _ => b
/-- the promise of a def with the mirror m -/
structure Prom (S : Su) (m : FM) (fr : Bool) (CF : (Addr → Prop) → (Addr → Prop) → V → Out D → Prop) (vs : List V) (H : Hp) (Q : VK) (E : XK) (avs : List Sv) (O U : Addr → Prop) : Prop where
  dom : ∀ a, O a → H a ≠ none
  sub : ∀ a, U a → O a
  tabs : LamX.Tabs S.T H
  args : Paired (ArgR S O U (CF O U) H) avs vs
  dis : ∀ (i j : Nat) (a b : Ob) (p : Addr), i ≠ j → avs[i]? = some (.io a) → avs[j]? = some (.io b) → vs[i]? = some (.ref p) → vs[j]? ≠ some (.ref p)
  post : RPost S O U H (outV (m avs)) Q E (moreOf S fr H vs avs (outR [] (m avs)))
structure FnM (S : Su) (kc k : Nat) (f : Addr) (fd : FuncData) (ps : List Str) (m : FM) (fr : Bool) : Prop where
  run : ∀ (A : Around) (outer : List Env) (s : Shared) (H : Hp) (args : Args) (us : List Value) (vs : List V) (Q : VK) (E : XK) (avs : List Sv) (O U : Addr → Prop), Room k A → A.guards = some [] → Env0 S.P S.w S.K S.mg S.base A outer s H → BindsTo s fd args (ps.zip us) → Vals vs us → vs.length = ps.length →
    Prom S m fr (fun O U v r => Clo S kc O U s H v r) vs H Q E avs O U → codeAny (model S.P S.w) A (.call (.ref f) args) (CR (L2.CX S.P S.w) outer S.P S.w H s Q E) s
/-- a body's mirror as a def's -/
def mBody (n : Nat) (fr : Bool) (sm : SM) : FM := fun avs => (sm (avs ++ List.replicate (n - avs.length) .un)).bind fun x => match x.1 with
  | .nx => if fr = true then .bad else .ok (.none, x.2.take avs.length)
  | .rt d => .ok (d, x.2.take avs.length)
  | _ => .bad
def iosOf (avs : List Sv) (vs : List V) : List (Nat × Addr) := (List.range avs.length).filterMap fun i => match (avs[i]? : Option Sv), (vs[i]? : Option V) with
  | some (Sv.io _), some (V.ref a) => some (i, a)
  | _, _ => none
theorem mem_ios {avs : List Sv} {vs : List V} {p : Nat × Addr} (h : p ∈ iosOf avs vs) : ∃ o, avs[p.1]? = some (.io o) ∧ vs[p.1]? = some (.ref p.2) := by
  obtain ⟨i, hi, e⟩ := List.mem_filterMap.mp h
  split at e
  · rename_i o a e1 e2
    cases e
    exact ⟨o, e1, e2⟩
  · cases e
theorem ios_mem {avs : List Sv} {vs : List V} {i : Nat} {o : Ob} {a : Addr} (h : avs[i]? = some (.io o)) (h' : vs[i]? = some (.ref a)) : (i, a) ∈ iosOf avs vs :=
  List.mem_filterMap.mpr ⟨i, List.mem_range.mpr (List.getElem?_eq_some_iff.mp h).1, by rw [h, h']⟩
theorem paired_at {α β : Type} {R : α → β → Prop} : ∀ {l : List α} {r : List β} {i : Nat} {a : α} {b : β}, Paired R l r → l[i]? = some a → r[i]? = some b → R a b
  | _, _, i, _, _, .nil, e, _ => by simp at e
  | _, _, 0, _, _, .cons h _, e, e' => by simp at e e'; subst e; subst e'; exact h
  | _, _, i + 1, a, b, .cons _ t, e, e' => paired_at (i := i) t (by simpa using e) (by simpa using e')
/-- the frame of a def's body -/
def frOf (S : Su) (kc : Nat) (O U : Addr → Prop) (s : Shared) (H : Hp) (avs : List Sv) (vs : List V) : Fr := ⟨S.K, S.T, S.ca, O, U, H, fun v r => Clo S kc O U s H v r, iosOf avs vs⟩
theorem sr_start {S : Su} {m : FM} {fr : Bool} {kc : Nat} {s : Shared} {vs : List V} {H : Hp} {Q : VK} {E : XK} {avs : List Sv} {O U : Addr → Prop} {N : List Str} (p : Prom S m fr (fun O U v r => Clo S kc O U s H v r) vs H Q E avs O U) (hl : vs.length ≤ N.length) :
    SR (frOf S kc O U s H avs vs) [] O U (avs ++ List.replicate (N.length - avs.length) .un) (L2.start N vs) H := by
  have la : avs.length = vs.length := Paired.length p.args
  have at1 : ∀ {i : Nat} {sv : Sv}, (avs ++ List.replicate (N.length - avs.length) Sv.un)[i]? = some sv → (i < avs.length ∧ avs[i]? = some sv) ∨ sv = .un := fun {i sv} e => by
    by_cases hi : i < avs.length
    · rw [List.getElem?_append_left hi] at e
      exact .inl ⟨hi, e⟩
    · rw [List.getElem?_append_right (Nat.le_of_not_lt hi), List.getElem?_replicate] at e
      split at e
      · cases e; exact .inr rfl
      · cases e
  have at2 : ∀ {i : Nat}, i < vs.length → (L2.start N vs)[i]? = (vs[i]?).map some := fun {i} hi => by
    unfold L2.start
    rw [List.getElem?_append_left (by simpa using hi), List.getElem?_map]
  have own : ∀ {i : Nat} {sv : Sv}, (avs ++ List.replicate (N.length - avs.length) Sv.un)[i]? = some sv → sv.own = true → ∃ o v, sv = .io o ∧ i < vs.length ∧ avs[i]? = some (.io o) ∧ vs[i]? = some v ∧ ∃ a u, v = .ref a ∧ U a ∧ H a = some u ∧ ObR S.K H o u := fun {i sv} e o => by
    rcases at1 e with ⟨hi, e'⟩ | e'
    · have hv : i < vs.length := by rw [← la]; exact hi
      have ev : vs[i]? = some vs[i] := by simp [hv]
      have q := paired_at p.args e' ev
      cases sv with
      | io ob => exact ⟨ob, vs[i], rfl, hv, e', ev, q⟩
      | ow ob => exact q.elim
      | _ => cases o
    · rw [e'] at o; cases o
  refine ⟨?_, Hx.refl _ H, p.tabs, fun _ z => z, p.sub, p.sub, fun a z => .inl z, p.dom, fun i sv x e1 e2 => ?_, fun i j a b q hij e1 e2 o1 o2 e3 => ?_, fun _ z => absurd z (by simp), fun q hq => ?_⟩
  · unfold L2.start
    simp only [List.length_append, List.length_replicate, List.length_map]
    omega
  · rcases at1 e1 with ⟨hi, e'⟩ | e'
    · have hv : i < vs.length := by rw [← la]; exact hi
      have ev : vs[i]? = some vs[i] := by simp [hv]
      rw [at2 hv, ev] at e2
      cases e2
      have q := paired_at p.args e' ev
      cases sv with
      | va d => exact ⟨_, rfl, q⟩
      | io o =>
        obtain ⟨a, u, q1, q2, q3, q4⟩ := q
        exact ⟨a, u, by rw [← q1], q2, q2, q3, q4⟩
      | cl r => exact ⟨_, rfl, q⟩
      | sc ns => obtain ⟨a, q1, q2⟩ := q; exact ⟨a, by rw [q1], q2⟩
      | un => trivial
      | ow o => exact q.elim
    · subst e'; trivial
  · obtain ⟨oa, va, ea, la1, a1, a2, _⟩ := own e1 o1
    obtain ⟨ob, vb, eb, lb1, b1, b2, _⟩ := own e2 o2
    rw [at2 la1, a2] at e3
    rw [at2 lb1, b2]
    intro z
    have e3 : va = .ref q := Option.some.inj (Option.some.inj e3)
    have z : vb = .ref q := Option.some.inj (Option.some.inj z)
    subst e3
    subst z
    exact p.dis i j oa ob q hij a1 b1 a2 b2
  · obtain ⟨o, e1, e2⟩ := mem_ios hq
    have hi : q.1 < avs.length := (List.getElem?_eq_some_iff.mp e1).1
    exact ⟨o, by rw [List.getElem?_append_left hi]; exact e1, by rw [at2 (by rw [← la]; exact hi), e2]; rfl⟩
/-- what a body's end gives the caller -/
theorem sp_end {S : Su} {fr : Bool} {kc n : Nat} {sm : SM} {s : Shared} {vs : List V} {H : Hp} {Q : VK} {E : XK} {avs : List Sv} {O U : Addr → Prop} (p : Prom S (mBody n fr sm) fr (fun O U v r => Clo S kc O U s H v r) vs H Q E avs O U) :
    SPost (frOf S kc O U s H avs vs) (fun cls d _ H' => E cls d H') [] fr (sm (avs ++ List.replicate (n - avs.length) .un)) { nx := fun _ H' => Q .non H', rt := Q } := by
  have la : avs.length = vs.length := Paired.length p.args
  have post := p.post
  have ex : mBody n fr sm avs = (sm (avs ++ List.replicate (n - avs.length) .un)).bind fun x => match x.1 with
    | .nx => if fr = true then .bad else .ok (.none, x.2.take avs.length)
    | .rt d => .ok (d, x.2.take avs.length)
    | _ => .bad := rfl
  rw [ex] at post
  have io : ∀ {O' M' : Addr → Prop} {ρ' : List Sv} {σ' : L2.St} {H' : Hp}, SR (frOf S kc O U s H avs vs) [] O' M' ρ' σ' H' → ∀ (i : Nat) (o0 o : Ob) (a : Addr), avs[i]? = some (.io o0) → (ρ'.take avs.length)[i]? = some (.io o) → vs[i]? = some (.ref a) → ∃ u, H' a = some u ∧ ObR S.K H' o u := fun {O' M' ρ' σ' H'} S' i o0 o a e0 e1 e2 => by
    have hi : i < avs.length := (List.getElem?_eq_some_iff.mp e0).1
    have e3 : ρ'[i]? = some (.io o) := by rw [List.getElem?_take_of_lt hi] at e1; exact e1
    obtain ⟨_, _, e5⟩ := S'.ioa (i, a) (ios_mem e0 e2)
    obtain ⟨a', u, q1, q2, q3, q4, q5⟩ := S'.sl i _ _ e3 e5
    cases q1
    exact ⟨u, q4, q5⟩
  cases e : sm (avs ++ List.replicate (n - avs.length) .un) with
  | bad => rw [e] at post; exact post.elim
  | exc c d =>
    rw [e] at post
    exact fun σ' dx v H' h1 h2 _ h3 h4 => post dx v H' h1 h2 h3 h4
  | ok x =>
    obtain ⟨x, ρ'⟩ := x
    rw [e] at post
    cases x with
    | nx =>
      have post : RPost S O U H (outV (if fr = true then .bad else .ok (PyData.none, ρ'.take avs.length))) Q E (moreOf S fr H vs avs (outR [] (if fr = true then .bad else .ok (PyData.none, ρ'.take avs.length)))) := post
      by_cases hf : fr = true
      · rw [if_pos hf] at post; exact post.elim
      · rw [if_neg hf] at post
        exact fun O' M' σ' H' S' => post .non H' S'.hx S'.tabs .non ⟨fun z => absurd z hf, io S'⟩
    | rt d => exact fun O' M' σ' H' v S' r f => post v H' S'.hx S'.tabs r ⟨f, io S'⟩
    | bk => exact post.elim
    | ct => exact post.elim
theorem deeper_guards (A : Around) (env : Env) : (A.deeper env).guards = A.guards := by
  first | rfl | simp [Around.deeper]
/-- the context of a body -/
abbrev Bx (S : Su) (N : List Str) (qual : Str) (scope : Scope) (f : Addr) (cdv : Value) (A : Around) (outer : List Env) (s : Shared) (H : Hp) (E : XK) : Cx := cxOf (L2.CX S.P S.w) S.P S.w S.K S.mg S.base N qual scope f cdv A outer s H E
/-- THE RULE for a def: its body by one derivation, for every frame -/
theorem fnm_of {S : Su} {kc k : Nat} {f : Addr} {qual : Str} {st : Stmt} {x : Str} {fd : FuncData} {N ps : List Str} {fr : Bool} {sm : SM} (Fn : Fun S.K x qual st f fd) (Sc : FnScope N ps (defScope st))
    (hbody : ∀ (cdv : Value) (A : Around) (outer : List Env) (s : Shared) (H : Hp) (E : XK) (F : Fr), F.K = S.K → F.T = S.T → F.ca = S.ca → F.H0 = H → (∀ v r, F.CF v r → Clo S kc F.OF F.WF s H v r) → Room k (A.deeper (envOfC qual (defScope st) s.heap.objs.size f cdv)) → A.guards = some [] →
      ∃ t, MSs (Bx S N qual (defScope st) f cdv A outer s H E) F (fun cls d _ H' => E cls d H') fr (defBody st) t sm) : FnM S kc (k + 1) f fd ps (mBody N.length fr sm) fr := by
  obtain ⟨oc, od, kV, doc, pm, an, cdv, ct, osl, efd, lk, hcd⟩ := Fn.ex
  subst efd
  refine ⟨fun A outer s H args us vs Q E avs O U hr hg e0 hb hv hl p => ?_⟩
  refine LamX.run_ofS lk hcd Sc hr e0 hb hv hl fun hr2 => ?_
  obtain ⟨t, ht⟩ := hbody cdv A outer s H E (frOf S kc O U s H avs vs) rfl rfl rfl rfl (fun v r z => z) hr2 hg
  have hpl : ps.length ≤ N.length := by
    have q := congrArg List.length Sc.pre
    rw [List.length_take] at q
    omega
  exact ⟨t, ht.pe, ht.co.go _ _ _ _ _ H _ (sr_start p (by rw [hl]; exact hpl)) (sp_end p)⟩
theorem FnM.mono {S : Su} {kc kc' k k' : Nat} {f : Addr} {fd : FuncData} {ps : List Str} {m : FM} {fr : Bool} (h : FnM S kc k f fd ps m fr) (hk : k ≤ k') : FnM S kc k' f fd ps m fr :=
  ⟨fun A outer s H args us vs Q E avs O U hr => h.run A outer s H args us vs Q E avs O U (hr.mono hk)⟩

/-! ### calls -/
/-- how positional arguments bind -/
def BindP (K : PySem.W.Frag) (fd : FuncData) (ps : List Str) : Prop := ∀ (s : Shared) (us : List Value), K.In s.heap → us.length = ps.length → BindsTo s fd ⟨us, []⟩ (ps.zip us)
/-- positional ones, then keywords; ix: which of them each parameter takes -/
def pick {α : Type} (ix : List Nat) (l : List α) : List α := ix.filterMap fun i => l[i]?
structure BindK (K : PySem.W.Frag) (fd : FuncData) (ps : List Str) (nu : Nat) (ks : List Str) (ix : List Nat) : Prop where
  to : ∀ (s : Shared) (us ws : List Value), K.In s.heap → us.length = nu → ws.length = ks.length → BindsTo s fd ⟨us, ks.zip ws⟩ (ps.zip (pick ix (us ++ ws)))
  len : ix.length = ps.length
  lt : ∀ i ∈ ix, i < nu + ks.length
theorem pick_paired {α β : Type} {R : α → β → Prop} {l : List α} {r : List β} (h : Paired R l r) : ∀ ix : List Nat, Paired R (pick ix l) (pick ix r)
  | [] => .nil
  | i :: ix => by
    have ih := pick_paired h ix
    unfold pick at ih ⊢
    rw [List.filterMap_cons, List.filterMap_cons]
    have hl : l.length = r.length := Paired.length h
    by_cases hi : i < l.length
    · have e1 : l[i]? = some l[i] := by simp [hi]
      have hi' : i < r.length := by rw [← hl]; exact hi
      have e2 : r[i]? = some r[i] := by simp [hi']
      rw [e1, e2]
      exact .cons (paired_at h e1 e2) ih
    · have e1 : l[i]? = none := List.getElem?_eq_none (Nat.le_of_not_lt hi)
      have e2 : r[i]? = none := List.getElem?_eq_none (by rw [← hl]; exact Nat.le_of_not_lt hi)
      rw [e1, e2]
      exact ih
theorem pick_len {α : Type} {l : List α} : ∀ {ix : List Nat}, (∀ i ∈ ix, i < l.length) → (pick ix l).length = ix.length
  | [], _ => rfl
  | i :: ix, h => by
    have ih := pick_len (l := l) (ix := ix) fun j hj => h j (List.mem_cons_of_mem _ hj)
    unfold pick at ih ⊢
    have hi := h i List.mem_cons_self
    have e1 : l[i]? = some l[i] := by simp [hi]
    rw [List.filterMap_cons, e1]
    show (l[i] :: ix.filterMap fun i => l[i]?).length = ix.length + 1
    rw [List.length_cons, ih]
theorem rpl_paired {K : PySem.W.Frag} {O : Addr → Prop} {H : Hp} : ∀ {ds : List D} {vs : List V}, RpL K O H ds vs → Paired (fun d v => Rp K O H d v) ds vs
  | _, _, .nil => .nil
  | _, _, .cons r t => .cons r (rpl_paired t)
theorem paired_rpl {K : PySem.W.Frag} {O : Addr → Prop} {H : Hp} : ∀ {ds : List D} {vs : List V}, Paired (fun d v => Rp K O H d v) ds vs → RpL K O H ds vs
  | _, _, .nil => .nil
  | _, _, .cons r t => .cons r (paired_rpl t)
/-- what stands at a global name -/
structure Glob (X : Cx) (x : Str) (f : Addr) : Prop where
  m : X.mg x = some (.ref f)
  kp : PySem.W.keepIn X.K (.ref f) = true
/-- a context of this set-up -/
structure On (S : Su) (X : Cx) (F : Fr) (W : WX) (k : Nat) : Prop where
  P : X.prog = S.P
  w : X.w = S.w
  K : X.K = S.K
  mg : X.mg = S.mg
  base : X.base = S.base
  FK : F.K = S.K
  FT : F.T = S.T
  ca : F.ca = S.ca
  tk : Takes X W
  room : Room k X.A
  gd : X.A.guards = some []
theorem On.mono {S : Su} {X : Cx} {F : Fr} {W : WX} {k k' : Nat} (h : On S X F W k) (e : k' ≤ k) : On S X F W k' := ⟨h.P, h.w, h.K, h.mg, h.base, h.FK, h.FT, h.ca, h.tk, h.room.mono e, h.gd⟩
/-- a body's context -/
theorem on_body {S : Su} {N : List Str} {qual : Str} {scope : Scope} {f : Addr} {cdv : Value} {A : Around} {outer : List Env} {s : Shared} {H : Hp} {E : XK} {F : Fr} {k : Nat} (h1 : F.K = S.K) (h2 : F.T = S.T) (h3 : F.ca = S.ca) (hr : Room k (A.deeper (envOfC qual scope s.heap.objs.size f cdv))) (hg : A.guards = some []) :
    On S (Bx S N qual scope f cdv A outer s H E) F (fun cls d _ H' => E cls d H') k := ⟨rfl, rfl, rfl, rfl, rfl, h1, h2, h3, takes_of rfl rfl rfl rfl, hr, (deeper_guards A _).trans hg⟩
theorem takes_no {X : Cx} : Takes X WN := fun _ _ x => by
  obtain ⟨_, _, _, _, _, _, _, _, _, _, _, _, _, _, _, _, z⟩ := x
  exact z.elim
/-- a comprehension's block -/
theorem On.blk {S : Su} {X : Cx} {F : Fr} {W : WX} {k : Nat} (h : On S X F W k) (scope : Scope) (s : Shared) (H : Hp) (C : Addr) (cl : List (Str × Addr)) (fp : List Addr) : On S (Blk X scope s H C cl fp) F WN k := ⟨h.P, h.w, h.K, h.mg, h.base, h.FK, h.FT, h.ca, takes_no, h.room, h.gd⟩
/-- the promise at a call, from the reading -/
def tFn (S : Su) (kc : Nat) (m : FM) (fr : Bool) (W : WX) (t : TA) : TE := fun σ H Q => t σ H fun vs H1 => ∃ avs O U, Prom S m fr (fun _ _ _ _ => False) vs H1 Q (fun cls d H2 => W cls d σ H2) avs O U
theorem Prom.clo {S : Su} {m : FM} {fr : Bool} {CF CF' : (Addr → Prop) → (Addr → Prop) → V → Out D → Prop} {vs : List V} {H : Hp} {Q : VK} {E : XK} {avs : List Sv} {O U : Addr → Prop} (p : Prom S m fr CF vs H Q E avs O U) (h : ∀ O U v r, CF O U v r → CF' O U v r) : Prom S m fr CF' vs H Q E avs O U :=
  ⟨p.dom, p.sub, p.tabs, Paired.mapP p.args fun a b z => by cases a <;> first | exact z | exact h _ _ _ _ z, p.dis, p.post⟩
section
variable {S : Su} {X : Cx} {F : Fr} {W : WX} {kc k : Nat} {f : Addr} {fd : FuncData} {ps : List Str} {m : FM} {fr : Bool}
/-- the def is run -/
theorem run_fm {pins : List (Addr × Obj)} {σ : L2.St} {H : Hp} {s : Shared} {Q : VK} {us ws zs' : List Value} {ks : List Str} {zs : List V} {avs : List Sv} {O U : Addr → Prop} (o : On S X F W k) (Fn : FnM S kc k f fd ps m fr) (I : Inv X pins σ H s) (hb : BindsTo s fd ⟨us, ks.zip ws⟩ (ps.zip zs')) (rz : Vals zs zs') (hl : zs.length = ps.length)
    (p : Prom S m fr (fun O U v r => Clo S kc O U s H v r) zs H Q (fun cls d H2 => W cls d σ H2) avs O U) : wpAny (model X.prog X.w) X.A (PySem.call (.ref f) us (ks.zip ws)) (EP X pins σ Q) X.xe s := by
  have e0 := I.env0
  rw [o.P, o.w, o.K, o.mg, o.base] at e0
  rw [o.P, o.w]
  refine wpAny_call (codeAny_mono (Fn.run X.A X.stack s H _ _ zs Q _ avs O U o.room o.gd e0 hb rz hl p) fun r s2 hq => ?_)
  rw [← o.P, ← o.w] at hq
  match r, hq with
  | .error e, hq => exact o.tk _ _ (XE.of_call I (fun _ _ _ z => z) hq)
  | .ok (.ret u), hq => exact I.after hq
/-- f(e, ..): the promise at the values -/
def tCal (S : Su) (m : FM) (fr : Bool) (W : WX) (n : Nat) (t : TA) : TE := fun σ H Q => t σ H fun vs H1 => vs.length = n ∧ ∃ avs O U, Prom S m fr (fun _ _ _ _ => False) vs H1 Q (fun cls d H2 => W cls d σ H2) avs O U
def tCalK (S : Su) (m : FM) (fr : Bool) (W : WX) (n nk : Nat) (ix : List Nat) (t tk : TA) : TE := fun σ H Q => t σ H fun vs H1 => tk σ H1 fun zs H2 => (vs.length = n ∧ zs.length = nk) ∧ ∃ avs O U, Prom S m fr (fun _ _ _ _ => False) (pick ix (vs ++ zs)) H2 Q (fun cls d H2 => W cls d σ H2) avs O U
theorem pe_cal {x : Str} {q pos : Pos} {e : Expr} {es : List Expr} {t : TA} (o : On S X F W k) (Fn : FnM S kc k f fd ps m fr) (gl : Glob X x f) (hb : BindP X.K fd ps) (ha : PA X (e :: es) t) (hg : Gl X x) (hdb : (x == ("__debug__" : Str)) = false) (he : starEach (e :: es) X.env = (false, eval e X.env) :: starEach es X.env) (hpl : (backTo pos (starEach es X.env)).any (·.1) = false) :
    PE X (.Call (.Name x q) (e :: es) [] pos) (tCal S m fr W ps.length t) := ⟨fun pins s σ H Q I h => by
  refine wpAny_Call_Name_kw (ld_glob I hg gl.m (PySem.W.callWith_K (h₀ := X.base) I.ok.mod.kin gl.kp (thn (ha.run pos pins s σ H _ I h) fun us s1 z => ?_) he hpl) hdb)
  obtain ⟨vs, H1, J, rv, hl, avs, O, U, p⟩ := z
  exact ⟨J.kIn, run_fm (ks := []) (ws := []) o Fn J (hb s1 us J.kIn (by rw [← rv.length]; exact hl)) rv hl (p.clo fun _ _ _ _ z => z.elim)⟩⟩
theorem pe_calK {x : Str} {q pos : Pos} {e : Expr} {es : List Expr} {kws : List Keyword} {ks : List Str} {ix : List Nat} {nu : Nat} {t tk : TA} (o : On S X F W k) (Fn : FnM S kc k f fd ps m fr) (gl : Glob X x f) (hb : BindK X.K fd ps nu ks ix) (ha : PA X (e :: es) t) (hk : PK X kws tk) (hg : Gl X x) (hdb : (x == ("__debug__" : Str)) = false)
    (hall : (backToKw pos (keywordEach kws X.env)).all (·.1.isSome) = true) (hks : (backToKw pos (keywordEach kws X.env)).filterMap (·.1) = ks) (he : starEach (e :: es) X.env = (false, eval e X.env) :: starEach es X.env) (hpl : ((backTo pos (starEach (e :: es) X.env)).any (·.1) || (backToKw pos (keywordEach kws X.env)).any (·.1.isNone)) = false) :
    PE X (.Call (.Name x q) (e :: es) kws pos) (tCalK S m fr W nu ks.length ix t tk) := ⟨fun pins s σ H Q I h => by
  refine wpAny_Call_Name_kw (ld_glob I hg gl.m (PySem.W.callWith_KW (h₀ := X.base) I.ok.mod.kin gl.kp hall (thn (ha.run pos pins s σ H _ I h) fun us s1 z => ?_) hpl he) hdb)
  obtain ⟨vs, H1, J, rv, h2⟩ := z
  refine thn (hk.run pos pins s1 σ H1 _ J h2) fun ws s2 z => ?_
  obtain ⟨zs, H2, J2, rz, ⟨hl, hl2⟩, avs, O, U, p⟩ := z
  rw [hks]
  refine ⟨J2.kIn, run_fm o Fn J2 (hb.to s2 us ws J2.kIn (by rw [← rv.length]; exact hl) (by rw [← rz.length]; exact hl2)) (pick_paired (rv.append rz) ix) ?_ (p.clo fun _ _ _ _ z => z.elim)⟩
  rw [pick_len fun i hi => by rw [List.length_append, hl, hl2]; exact hb.lt i hi]
  exact hb.len⟩
theorem pe_calK0 {x : Str} {q pos : Pos} {kws : List Keyword} {ks : List Str} {ix : List Nat} {tk : TA} (o : On S X F W k) (Fn : FnM S kc k f fd ps m fr) (gl : Glob X x f) (hb : BindK X.K fd ps 0 ks ix) (hk : PK X kws tk) (hg : Gl X x) (hdb : (x == ("__debug__" : Str)) = false)
    (hall : (backToKw pos (keywordEach kws X.env)).all (·.1.isSome) = true) (hks : (backToKw pos (keywordEach kws X.env)).filterMap (·.1) = ks) (hpl : ((backTo pos (starEach [] X.env)).any (·.1) || (backToKw pos (keywordEach kws X.env)).any (·.1.isNone)) = false) :
    PE X (.Call (.Name x q) [] kws pos) (tCalK S m fr W 0 ks.length ix tNil tk) := ⟨fun pins s σ H Q I h => by
  refine wpAny_Call_Name_kw (ld_glob I hg gl.m (PySem.W.callWith_KW0 (h₀ := X.base) I.ok.mod.kin gl.kp hall (thn (hk.run pos pins s σ H _ I h) fun ws s2 z => ?_) hpl) hdb)
  obtain ⟨zs, H2, J2, rz, ⟨_, hl2⟩, avs, O, U, p⟩ := z
  rw [hks]
  refine ⟨J2.kIn, run_fm (us := []) o Fn J2 (hb.to s2 [] ws J2.kIn rfl (by rw [← rz.length]; exact hl2)) (pick_paired rz ix) ?_ (p.clo fun _ _ _ _ z => z.elim)⟩
  rw [pick_len fun i hi => by rw [hl2]; have := hb.lt i hi; omega]
  exact hb.len⟩
/-- a call at values, its mirror -/
def eCall (m : FM) (n : Nat) (a : LM) : EM := fun ρ => (a ρ).bind fun x => if x.1.length = n then (m (x.1.map .va)).bind fun y => .ok (y.1, x.2) else .bad
def eCallK (m : FM) (n nk : Nat) (ix : List Nat) (a b : LM) : EM := fun ρ => (a ρ).bind fun x => (b x.2).bind fun z => if x.1.length = n ∧ z.1.length = nk then (m ((pick ix (x.1 ++ z.1)).map .va)).bind fun y => .ok (y.1, z.2) else .bad
theorem args_va {O U : Addr → Prop} {CF : V → Out D → Prop} {H : Hp} : ∀ {ds : List D} {vs : List V}, RpL S.K O H ds vs → Paired (ArgR S O U CF H) (ds.map .va) vs
  | _, _, .nil => .nil
  | _, _, .cons r t => .cons r (args_va t)
theorem prom_va {G : List (D × V)} {O M : Addr → Prop} {ρ ρ1 : List Sv} {σ : L2.St} {H H1 : Hp} {Q : VK} {b p : Bool} {ds : List D} {vs : List V} (hF : F.K = S.K ∧ F.T = S.T ∧ F.ca = S.ca) (S1 : SR F G O M ρ1 σ H1) (m1 : Sim ρ ρ1) (x1 : Hx (Pm p M) H H1) (r : RpL F.K (Av F O b) H1 ds vs)
    (h : EPost F W G O M ρ σ H ⟨b, p, fr⟩ ((m (ds.map .va)).bind fun y => .ok (y.1, ρ1)) Q) : ∃ avs O' U, Prom S m fr (fun _ _ _ _ => False) vs H1 Q (fun cls d H2 => W cls d σ H2) avs O' U := by
  obtain ⟨eK, eT, ec⟩ := hF
  refine ⟨ds.map .va, Av F O b, No, S1.avdom b, fun _ z => z.elim, eT ▸ S1.tabs, ?_, fun i j a b p _ ea _ => ?_, ?_⟩
  · exact args_va (eK ▸ r)
  · rw [List.getElem?_map] at ea
    cases q : ds[i]? with
    | none => rw [q] at ea; cases ea
    | some d => rw [q] at ea; cases ea
  · cases e : m (ds.map .va) with
    | bad => rw [e] at h; exact h.elim
    | exc c d =>
      rw [e] at h
      intro dx v H' hx ht hd hr
      rw [← ec]
      rw [← eT] at ht
      rw [← eK] at hr
      exact h σ dx v H' (S1.out hx.none) ht (S1.unAll hx.none ht) hd (hr.sub fun a z => by
        unfold Av
        cases b with
        | false => exact S1.ofo a z
        | true => exact z)
    | ok y =>
      rw [e] at h
      intro v H' hx ht hr hm
      rw [← eT] at ht
      rw [← eK] at hr
      refine h H' (S1.grow hx ht) m1 (x1.trans hx.tp) v hr fun z => ?_
      have q := (hm.1 z).back x1
      rw [← eK] at q
      exact q
theorem co_call {n : Nat} {t : TA} {a : LM} {b p : Bool} (hF : F.K = S.K ∧ F.T = S.T ∧ F.ca = S.ca) (ha : CoA F W t a b p) : CoE F W (tCal S m fr W n t) (eCall m n a) ⟨b, p, fr⟩ := ⟨fun G O M ρ σ H Q S0 h => by
  unfold eCall at h
  refine ha.go G O M ρ σ H _ S0 ?_
  cases e : a ρ with
  | bad => rw [e] at h; exact h
  | exc c d => rw [e] at h; exact h
  | ok x =>
    obtain ⟨ds, ρ1⟩ := x
    rw [e] at h
    intro H1 S1 m1 x1 vs r
    have h : EPost F W G O M ρ σ H ⟨b, p, fr⟩ (if ds.length = n then (m (ds.map .va)).bind fun y => .ok (y.1, ρ1) else .bad) Q := h
    by_cases hn : ds.length = n
    · rw [if_pos hn] at h
      exact ⟨by rw [← r.len]; exact hn, prom_va hF S1 m1 x1 r h⟩
    · rw [if_neg hn] at h; exact h.elim⟩
theorem rpl_pick {K : PySem.W.Frag} {O : Addr → Prop} {H : Hp} {ds : List D} {vs : List V} (r : RpL K O H ds vs) (ix : List Nat) : RpL K O H (pick ix ds) (pick ix vs) := paired_rpl (pick_paired (rpl_paired r) ix)
theorem co_callK {n nk : Nat} {ix : List Nat} {t tk : TA} {a a2 : LM} {b b2 p p2 : Bool} (hF : F.K = S.K ∧ F.T = S.T ∧ F.ca = S.ca) (ha : CoA F W t a b p) (hk : CoA F W tk a2 b2 p2) (hp : (!b || p2) = true) : CoE F W (tCalK S m fr W n nk ix t tk) (eCallK m n nk ix a a2) ⟨b || b2, p && p2, fr⟩ := ⟨fun G O M ρ σ H Q S0 h => by
  unfold eCallK at h
  refine ha.go G O M ρ σ H _ S0 ?_
  cases e : a ρ with
  | bad => rw [e] at h; exact h
  | exc c d => rw [e] at h; exact h
  | ok x =>
    obtain ⟨ds, ρ1⟩ := x
    rw [e] at h
    intro H1 S1 m1 x1 vs r
    refine hk.go G O M ρ1 σ H1 _ S1 ?_
    have h : EPost F W G O M ρ σ H ⟨b || b2, p && p2, fr⟩ ((a2 ρ1).bind fun z => if ds.length = n ∧ z.1.length = nk then (m ((pick ix (ds ++ z.1)).map .va)).bind fun y => .ok (y.1, z.2) else .bad) Q := h
    cases e2 : a2 ρ1 with
    | bad => rw [e2] at h; exact h
    | exc c d => rw [e2] at h; exact h
    | ok y =>
      obtain ⟨es, ρ2⟩ := y
      rw [e2] at h
      intro H2 S2 m2 x2 zs rz
      have h : EPost F W G O M ρ σ H ⟨b || b2, p && p2, fr⟩ (if ds.length = n ∧ es.length = nk then (m ((pick ix (ds ++ es)).map .va)).bind fun y => .ok (y.1, ρ2) else .bad) Q := h
      by_cases hn : ds.length = n ∧ es.length = nk
      · rw [if_pos hn] at h
        have q1 : RpL F.K (Av F O (b || b2)) H2 ds vs := (r.keep S1 hp x2).av S1 fun z => by rw [z]; rfl
        have q2 : RpL F.K (Av F O (b || b2)) H2 es zs := rz.av S1 fun z => by rw [z, Bool.or_true]
        exact ⟨⟨by rw [← r.len]; exact hn.1, by rw [← rz.len]; exact hn.2⟩, prom_va hF S2 (m1.trans m2) (x1.pp x2) (rpl_pick (q1.app q2) ix) h⟩
      · rw [if_neg hn] at h; exact h.elim⟩
/-- f(x, ..), x an owned object that f changes -/
def getOb (ρ : List Sv) (i : Nat) : Option Ob := match ρ[i]? with
  | some (.io o) => some o
  | some (.ow o) => some o
  | _ => none
def setOb (ρ : List Sv) (i : Nat) (o : Ob) : List Sv := match ρ[i]? with
  | some (.io _) => ρ.set i (.io o)
  | some (.ow _) => ρ.set i (.ow o)
  | _ => ρ
def eCallS (m : FM) (n i : Nat) (a : LM) : EM := fun ρ => if (getOb ρ i).isSome = true then (a ρ).bind fun x => (oOut (getOb x.2 i)).bind fun ob =>
  if x.1.length + 1 = n then (m (.io ob :: x.1.map .va)).bind fun y => match y.2 with
    | .io o' :: _ => .ok (y.1, setOb x.2 i o')
    | _ => .bad
  else .bad
  else .bad
theorem getOb_at {G : List (D × V)} {O M : Addr → Prop} {ρ : List Sv} {σ : L2.St} {H : Hp} {i : Nat} {ob : Ob} (S1 : SR F G O M ρ σ H) (h : getOb ρ i = some ob) : ∃ a u sv, ρ[i]? = some sv ∧ sv.own = true ∧ σ[i]? = some (some (.ref a)) ∧ M a ∧ H a = some u ∧ ObR F.K H ob u ∧
    ∀ o' u' H', H' a = some u' → ObR F.K H' o' u' → ∀ sv' x, (setOb ρ i o')[i]? = some sv' → σ[i]? = some x → SlR F O M H' sv' x := by
  unfold getOb at h
  cases e : ρ[i]? with
  | none => rw [e] at h; cases h
  | some sv =>
    rw [e] at h
    have li : i < ρ.length := (List.getElem?_eq_some_iff.mp e).1
    have l : i < σ.length := by rw [← S1.len]; exact li
    have es : σ[i]? = some σ[i] := by simp [l]
    have q := S1.sl i sv _ e es
    cases sv with
    | io o =>
      cases h
      obtain ⟨a, u, q1, q2, q3, q4, q5⟩ := q
      refine ⟨a, u, _, rfl, rfl, by rw [es, q1], q2, q4, q5, fun o' u' H' e1 e2 sv' x e3 e4 => ?_⟩
      unfold setOb at e3
      rw [e] at e3
      rw [List.getElem?_set_self li] at e3
      cases e3
      rw [es, q1] at e4
      cases e4
      exact ⟨a, u', rfl, q2, q3, e1, e2⟩
    | ow o =>
      cases h
      obtain ⟨a, u, q1, q2, q3, q4, q5⟩ := q
      refine ⟨a, u, _, rfl, rfl, by rw [es, q1], q2, q4, q5, fun o' u' H' e1 e2 sv' x e3 e4 => ?_⟩
      unfold setOb at e3
      rw [e] at e3
      rw [List.getElem?_set_self li] at e3
      cases e3
      rw [es, q1] at e4
      cases e4
      exact ⟨a, u', rfl, q2, q3, e1, e2⟩
    | _ => cases h
theorem setOb_sim (ρ : List Sv) (i : Nat) (o : Ob) : Sim ρ (setOb ρ i o) ∧ ∀ j, j ≠ i → (setOb ρ i o)[j]? = ρ[j]? := by
  have main : ∀ sv sv' : Sv, ρ[i]? = some sv → sv.sim sv' → Sim ρ (ρ.set i sv') := fun sv sv' e sm => ⟨by rw [List.length_set], fun j a b ea eb => by
    by_cases hj : i = j
    · subst hj
      rw [List.getElem?_set_self (List.getElem?_eq_some_iff.mp e).1] at eb
      rw [e] at ea
      cases ea; cases eb
      exact sm
    · rw [List.getElem?_set_ne hj, ea] at eb
      cases eb
      exact a.sim_refl⟩
  unfold setOb
  cases e : ρ[i]? with
  | none => exact ⟨Sim.refl ρ, fun _ _ => rfl⟩
  | some sv =>
    cases sv with
    | io o' => exact ⟨main _ _ e trivial, fun j hj => List.getElem?_set_ne (Ne.symm hj)⟩
    | ow o' => exact ⟨main _ _ e trivial, fun j hj => List.getElem?_set_ne (Ne.symm hj)⟩
    | _ => exact ⟨Sim.refl ρ, fun _ _ => rfl⟩
/-- an owned object written: the state behind -/
theorem SR.wrote {G : List (D × V)} {O M : Addr → Prop} {ρ : List Sv} {σ : L2.St} {H H' : Hp} {i : Nat} {ob o' : Ob} {a : Addr} {u' : HO} {U : Addr → Prop} (S1 : SR F G O M ρ σ H) (h : getOb ρ i = some ob) (ea : σ[i]? = some (some (.ref a))) (hU : ∀ b, U b → b = a) (hx : Hx U H H') (ht : LamX.Tabs F.T H') (e1 : H' a = some u') (e2 : ObR F.K H' o' u') :
    SR F G O M (setOb ρ i o') σ H' := by
  obtain ⟨a', u, sv, q1, q2, q3, q4, q5, q6, q7⟩ := getOb_at S1 h
  rw [ea] at q3
  cases q3
  obtain ⟨sm, out⟩ := setOb_sim ρ i o'
  refine S1.chg [i] (fun b z => ?_) hx ht sm (fun j hj => out j fun z => hj (by simp [z])) fun j hj sv' x e3 e4 => ?_
  · rw [hU b z]
    exact ⟨q4, i, by simp, sv, q1, q2, ea⟩
  · have : j = i := by simpa using hj
    subst this
    exact q7 o' u' H' e1 e2 sv' x e3 e4
theorem co_callS {n i : Nat} {t : TA} {a : LM} {p : Bool} (hF : F.K = S.K ∧ F.T = S.T ∧ F.ca = S.ca) (ha : CoA F W t a false p) : CoE F W (tCal S m fr W n (tCons (tVar i) t)) (eCallS m n i a) ⟨false, false, fr⟩ := ⟨fun G O M ρ σ H Q S0 h => by
  unfold eCallS at h
  by_cases h0 : (getOb ρ i).isSome = true
  case neg => rw [if_neg h0] at h; exact h.elim
  rw [if_pos h0] at h
  have post : ∀ v, σ[i]? = some (some v) → t σ H (fun vs H1 => (v :: vs).length = n ∧ ∃ avs O' U, Prom S m fr (fun _ _ _ _ => False) (v :: vs) H1 Q (fun cls d H2 => W cls d σ H2) avs O' U) := by
    intro v ev
    refine ha.go G O M ρ σ H _ S0 ?_
    cases e : a ρ with
    | bad => rw [e] at h; exact h
    | exc c d => rw [e] at h; exact h
    | ok x =>
      obtain ⟨ds, ρ1⟩ := x
      rw [e] at h
      intro H1 S1 m1 x1 vs r
      have h : EPost F W G O M ρ σ H ⟨false, false, fr⟩ ((oOut (getOb ρ1 i)).bind fun ob => if ds.length + 1 = n then (m (.io ob :: ds.map .va)).bind fun y => match y.2 with
        | .io o' :: _ => .ok (y.1, setOb ρ1 i o')
        | _ => .bad
        else .bad) Q := h
      cases e2 : getOb ρ1 i with
      | none => rw [e2] at h; exact h.elim
      | some ob =>
        rw [e2] at h
        have h : EPost F W G O M ρ σ H ⟨false, false, fr⟩ (if ds.length + 1 = n then (m (.io ob :: ds.map .va)).bind fun y => match y.2 with
          | .io o' :: _ => .ok (y.1, setOb ρ1 i o')
          | _ => .bad
          else .bad) Q := h
        by_cases hn : ds.length + 1 = n
        case neg => rw [if_neg hn] at h; exact h.elim
        rw [if_pos hn] at h
        obtain ⟨ad, u, sv, q1, q2, q3, q4, q5, q6, q7⟩ := getOb_at S1 e2
        have ev' : v = .ref ad := by
          rw [ev] at q3
          exact Option.some.inj (Option.some.inj q3)
        subst ev'
        obtain ⟨eK, eT, ec⟩ := hF
        refine ⟨by rw [List.length_cons, ← r.len]; exact hn, .io ob :: ds.map .va, O, fun b => b = ad, S1.dom, fun b z => by rw [z]; exact S1.mo ad q4, eT ▸ S1.tabs, .cons ⟨ad, u, rfl, rfl, q5, eK ▸ q6⟩ (args_va (show RpL S.K O H1 ds vs from eK ▸ r)), fun j l b c p hjl eb ec' => ?_, ?_⟩
        · have z0 : ∀ {j : Nat} {b : Ob}, (Sv.io ob :: ds.map Sv.va)[j]? = some (.io b) → j = 0 := fun {j b} e => by
            cases j with
            | zero => rfl
            | succ j =>
              rw [List.getElem?_cons_succ, List.getElem?_map] at e
              cases q : ds[j]? with
              | none => rw [q] at e; cases e
              | some d => rw [q] at e; cases e
          rw [z0 eb, z0 ec'] at hjl
          exact absurd rfl hjl
        · cases e3 : m (.io ob :: ds.map .va) with
          | bad => rw [e3] at h; exact h.elim
          | exc c d =>
            rw [e3] at h
            intro dx w H' hx ht hd hr
            rw [← ec]
            rw [← eT] at ht
            rw [← eK] at hr
            exact h σ dx w H' (S1.out (hx.mono fun b z => by rw [z]; exact q4)) ht (S1.unAll (hx.mono fun b z => by rw [z]; exact q4) ht) hd (hr.sub S1.ofo)
          | ok y =>
            obtain ⟨d, avs'⟩ := y
            rw [e3] at h
            intro w H' hx ht hr hm
            rw [← eT] at ht
            rw [← eK] at hr
            match avs', h, hm with
            | .io o' :: _, h, hm =>
              obtain ⟨u', w1, w2⟩ := hm.2 0 ob o' ad rfl rfl rfl
              rw [← eK] at w2
              have h : EPost F W G O M ρ σ H ⟨false, false, fr⟩ (.ok (d, setOb ρ1 i o')) Q := h
              refine h H' (S1.wrote e2 ev (fun b z => z) hx ht w1 w2) (m1.trans (setOb_sim ρ1 i o').1) (x1.pm.trans (hx.mono fun b z => by rw [z]; exact q4) |>.mono fun b z => ⟨rfl, z⟩) w hr fun z => ?_
              have q := (hm.1 z).back x1
              rw [← eK] at q
              exact q
  obtain ⟨ob, eo⟩ := Option.isSome_iff_exists.mp h0
  obtain ⟨ad, _, _, _, _, q3, _⟩ := getOb_at S0 eo
  exact ⟨_, q3, post _ q3⟩⟩
end
end Mi

set_option Elab.async false
set_option linter.all false
set_option maxRecDepth 100000
set_option maxHeartbeats 4000000
/-! Mi6: functions without parameters: handed on, called, made. -/
namespace Mi
open PySem PySem.Spec PyProof.Rows L2

/-! ### call() -/
def eCl (i : Nat) : EM := fun ρ => match ρ[i]? with
  | some (.cl r) => r.bind fun d => .ok (d, ρ)
  | _ => .bad
def tCl (F : Fr) (S : Su) (W : WX) (i : Nat) : TE := fun σ H Q => ∃ v r, σ[i]? = some (some v) ∧ F.CF v r ∧ Hx F.WF F.H0 H ∧ LamX.Tabs F.T H ∧ RPost S F.OF No H r Q (fun cls d H2 => W cls d σ H2) fun _ _ _ => True
section
variable {S : Su} {X : Cx} {F : Fr} {W : WX} {k : Nat}
theorem co_cl {i : Nat} (hF : F.K = S.K ∧ F.T = S.T ∧ F.ca = S.ca) : CoE F W (tCl F S W i) (eCl i) ⟨true, true, false⟩ := ⟨fun G O M ρ σ H Q Z h => by
  unfold eCl at h
  cases e : ρ[i]? with
  | none => rw [e] at h; exact h.elim
  | some sv =>
    rw [e] at h
    cases sv with
    | cl r =>
      have l : i < σ.length := by rw [← Z.len]; exact (List.getElem?_eq_some_iff.mp e).1
      obtain ⟨v, ev, r'⟩ := Z.sl i _ σ[i] e (by simp [l])
      refine ⟨v, r, by simp [l, ev], r', Z.hx, Z.tabs, ?_⟩
      obtain ⟨eK, eT, ec⟩ := hF
      cases r with
      | bad => exact h.elim
      | exc c d =>
        intro dx w H' hx ht hd hr
        rw [← ec]
        rw [← eT] at ht
        rw [← eK] at hr
        exact h σ dx w H' (Z.out hx.none) ht (Z.unAll hx.none ht) hd hr
      | ok d =>
        intro w H' hx ht hr _
        rw [← eT] at ht
        rw [← eK] at hr
        exact h H' (Z.grow hx ht) (Sim.refl ρ) hx.tp w hr fun q => Bool.noConfusion q
    | _ => exact h.elim⟩
/-- the context is that of a def's body: what it knows of closures is told at its entry -/
structure Ent (S : Su) (X : Cx) (F : Fr) (kc : Nat) : Prop where
  h0 : X.H_0 = F.H0
  ex : X.ex = []
  cf : ∀ v r, F.CF v r → Clo S kc F.OF F.WF X.s_0 X.H_0 v r
theorem pe_cl {x : Str} {i : Nat} {p1 p2 : Pos} (o : On S X F W k) (en : Ent S X F k) (hN : X.N[i]? = some x) (hv : Vis X.env.scope x) (hd : (x == ("__debug__" : Str)) = false) (hcd : (x == ("__classdict__" : Str)) = false) : PE X (.Call (.Name x p1) [] [] p2) (tCl F S W i) := ⟨fun pins s σ H Q I h => by
  obtain ⟨v, r, ev, hcf, hx, ht, post⟩ := h
  obtain ⟨f, ef, run⟩ := en.cf v r hcf
  subst ef
  refine wpAny_Call_Name_kw (thn ((pe_var (pos := p1) hN hv hd hcd).run pins s σ H (fun w H1 => w = .ref f ∧ H1 = H) I ⟨_, ev, rfl, rfl⟩) fun u s1 ⟨w, H1, I1, r1, q1⟩ => ?_)
  obtain ⟨ew, eH⟩ := q1
  subst ew
  subst eH
  obtain rfl : u = Value.ref f := r1
  have e0 := I1.env0
  rw [o.P, o.w, o.K, o.mg, o.base] at e0
  have un : Un X.fs [] X.H_0 H1 X.s_0.heap s1.heap := by have q := I1.base; rw [en.ex] at q; exact q
  obtain ⟨fa, rc⟩ := run X.fs s1 H1 un I1.os (by rw [en.h0]; exact hx) (by rw [← o.FT]; exact ht)
  have rc := rc X.A X.stack Q (fun cls d H2 => W cls d σ H2) e0 o.room o.gd post
  rw [← o.P, ← o.w] at rc
  refine PySem.W.callWith_F0 fa (wpAny_call (codeAny_mono rc fun r s2 hq => ?_))
  match r, hq with
  | .error e, hq => exact o.tk _ _ (XE.of_call I1 (fun _ _ _ z => z) hq)
  | .ok (.ret u), hq => exact I1.after hq⟩
end

/-! ### lambda: made, run -/
section
variable {X : Cx} {pins : List (Addr × Obj)} {σ : L2.St} {H : Hp} {s : Shared}
abbrev lamObj (X : Cx) (params : Arguments) (body : Expr) (scope : Scope) (pm : Value) (c' : Addr) (ctv : Value) : Obj := PySem.W.kla_obj "<lambda>" (X.env.qual ++ "<lambda>") params body scope (cloFrom X.env.cells scope.names []) pm c' ctv
theorem nt_ext (p : Heap → Prop) : NoTbl (.ext p) := fun _ z => by cases z
/-- the lambda is made -/
theorem lam_mk {T : List (Addr × Str)} {c P : Addr} {params : Arguments} {body : Expr} {scope : Scope} {pos : Pos} {E : Value → Shared → Prop} {Q : Value → Shared → Prop} (I : Inv X pins σ H s) (TB : LamX.TabB X.base X.mg c P) (hc0 : X.env.code = .ref c)
    (tm : (P, X.env.qual ++ "<lambda>") ∈ T) (tu : ∀ p ∈ T, p.1 = P → p.2 = X.env.qual ++ "<lambda>") (tt : LamX.Tabs T H) (hdef : defaultsOf params X.env = ([], [])) (L : LamX.LamS X.env.scope scope)
    (h : ∀ (f c' : Addr) (pm ctv : Value) (H1 : Hp) (s' : Shared), Inv X ((f, lamObj X params body scope pm c' ctv) :: pins) σ H1 s' → Hx No H H1 → LamX.Tabs T H1 → H1 c' = some (LamX.CodeO c' (X.env.qual ++ "<lambda>")) → Q (.ref f) s') :
    wpAny (model X.prog X.w) X.A (eval (.Lambda params body scope pos) X.env) Q E s := by
  obtain ⟨ps, e1, e2, e3⟩ := tt _ tm
  have q1 : s.heap.get? P = some { cls := .none, data := .fields ps } := I.hok P _ e1
  have q2 : s.heap.BuiltinsAt X.mg P := TB.bm.keeps I.bk
  have cl := closure_ok (L.has I.ok)
  have fin : ∀ {f c' : Addr} {pm ctv : Value} {H1 : Hp} {h' : Heap} {tk : Nat}, s.heap.objs.size ≤ f → Inv X pins σ H1 { s with heap := h', toks := tk } → h'.get? f = some (lamObj X params body scope pm c' ctv) → H1 f = none → Hx No H H1 → LamX.Tabs T H1 → H1 c' = some (LamX.CodeO c' (X.env.qual ++ "<lambda>")) → Q (.ref f) { s with heap := h', toks := tk } := fun {f c' pm ctv H1 h' tk} z1 z2 z3 z4 z5 z6 z7 => by
    refine h f c' pm ctv H1 _ (z2.pins_of fun p hp => ?_) z5 z6 z7
    rcases List.mem_cons.mp hp with rfl | hp
    · exact ⟨z3, z4, Nat.ne_of_gt (Nat.lt_of_lt_of_le I.lt z1), I.nofs z1, fun v z => by cases z⟩
    · exact z2.pin p (List.mem_append_right _ hp)
  refine PySem.W.kla_eval hdef ?_
  cases ha : codeAmong pos ps.toList with
  | some cv =>
    obtain ⟨c', rfl, hco⟩ := e3 pos cv ha
    refine PySem.W.kla_makeFunctionHit cl I.ok.glob (I.mod.glob.keeps I.bk) hc0 (TB.code.keeps I.bk) q1 e2 ha q2 fun ctv h' tk hx hz => ?_
    exact fin hz (I.kept fun b o e => Heap.get?_push_of_some _ (hx b o e)) (Heap.get?_push_size _ rfl) (I.hok.fresh hz) (Hx.refl _ H) tt hco
  | none =>
    refine PySem.W.kla_makeFunction cl I.ok.glob (I.mod.glob.keeps I.bk) hc0 (TB.code.keeps I.bk) q1 e2 ha TB.gP q2 fun c' ctv h' tk hx hge hlt hrec htb => ?_
    obtain ⟨c2, oc, vs, t, ec, w1, w2, w3⟩ := hrec
    cases ec
    have nC : H c' = none := I.hok.fresh hge
    have nPc : P ≠ c' := ne_of_none e1 nC
    have hz : s.heap.objs.size ≤ h'.objs.size := Nat.le_trans hge (Nat.le_of_lt hlt)
    generalize hT2 : ps ++ #[rawInt pos.line, rawInt pos.col, Value.ref c'] = ps2 at *
    have eL : ps2.toList = ps.toList ++ [rawInt pos.line, rawInt pos.col, .ref c'] := by rw [← hT2]; simp
    have at_c : upd (upd H P (.tbl ps2)) c' (LamX.CodeO c' (X.env.qual ++ "<lambda>")) c' = some (LamX.CodeO c' (X.env.qual ++ "<lambda>")) := upd_same
    have at_P : upd (upd H P (.tbl ps2)) c' (LamX.CodeO c' (X.env.qual ++ "<lambda>")) P = some (.tbl ps2) := by rw [upd_ne nPc, upd_same]
    have off : ∀ b, b ≠ P → b ≠ c' → upd (upd H P (.tbl ps2)) c' (LamX.CodeO c' (X.env.qual ++ "<lambda>")) b = H b := fun b h1 h2 => by rw [upd_ne h2, upd_ne h1]
    have hx1 : Hx No H (upd (upd H P (.tbl ps2)) c' (LamX.CodeO c' (X.env.qual ++ "<lambda>"))) := by
      refine ⟨fun b o e n _ => ?_, fun b e => ?_⟩
      · rw [off b (fun z => by subst z; rw [e1] at e; exact n ps (Option.some.inj e).symm) (ne_of_none e nC)]
        exact e
      · by_cases hb : b = c'
        · rw [hb, at_c]; exact fun z => by cases z
        · by_cases hp : b = P
          · rw [hp, at_P]; exact fun z => by cases z
          · rw [off b hp hb]; exact e
    have co : ∀ b q, H b = some (LamX.CodeO b q) → upd (upd H P (.tbl ps2)) c' (LamX.CodeO c' (X.env.qual ++ "<lambda>")) b = some (LamX.CodeO b q) := fun b q e => hx1.kp b _ e (nt_ext _) fun z => z.elim
    refine fin hz (LamX.inv_table (q := X.env.qual ++ "<lambda>") (ps := ps) (more := #[rawInt pos.line, rawInt pos.col, .ref c']) (P := P) (c := c') I e1 (fun b o hb e => Heap.get?_push_of_some _ (hx b o hb e)) (by rw [hT2]; exact Heap.get?_push_of_some _ htb) hge ⟨oc, vs, t, Heap.get?_push_of_some _ w1, w2, w3⟩ |> fun q => by rw [hT2] at q; exact q) (Heap.get?_push_size _ rfl) ?_ hx1 (fun p hp => ?_) at_c
    · rw [off _ (Nat.ne_of_gt (Nat.lt_of_lt_of_le (Heap.lt_size q1) hz)) (Nat.ne_of_gt hlt)]
      exact I.hok.fresh hz
    · by_cases hb : p.1 = P
      · rw [tu p hp hb, hb]
        refine ⟨ps2, at_P, by rw [eL]; exact PySem.TriplesOk_snoc _ _ _ _ e2, fun p' cv hv => ?_⟩
        rw [eL] at hv
        rcases LamX.among_app _ e2 hv with z | z
        · obtain ⟨c0, y1, y2⟩ := e3 p' cv z
          exact ⟨c0, y1, co _ _ y2⟩
        · exact ⟨c', z, at_c⟩
      · obtain ⟨ps', y1, y2, y3⟩ := tt p hp
        refine ⟨ps', by rw [off _ hb (ne_of_none y1 nC)]; exact y1, y2, fun p' cv hv => ?_⟩
        obtain ⟨c0, y4, y5⟩ := y3 p' cv hv
        exact ⟨c0, y4, co _ _ y5⟩
/-- the lambda's body begins -/
theorem lam_go {A : Around} {outer : List Env} {E : XK} {scope : Scope} {f c' : Addr} {fs : List Addr} {H1 : Hp} {s1 : Shared} {h1 : Heap} {tk : Nat} (I : Inv X pins σ H s) (L : LamX.LamS X.env.scope scope) (e0 : Env0 X.prog X.w X.K X.mg X.base A outer s1 H1) (hd : A.handled = none)
    (un : Un fs [] H H1 s.heap s1.heap) (ns : h1.Ns s1.heap.objs.size fun y => ([] : List (Str × Value)).reverse.lookup y) (kp : ∀ b o, s1.heap.get? b = some o → h1.get? b = some o) :
    Inv (LamX.lamCx X A outer s1 H1 E scope f c') [] σ H1 { s1 with heap := h1, toks := tk } := by
  have fr1 : ∀ {y}, (y, NameKind.free) ∈ scope.names → ∃ c, X.env.cells.lookup y = some c := fun {y} hy => L.has I.ok (y, .free) hy rfl
  have up : ∀ {y c}, (cloFrom X.env.cells scope.names []).lookup y = some c → X.env.cells.lookup y = some c := fun {y c} e => by
    rcases cloFrom_mem (PySem.mem_of_lookup e) with z | ⟨z1, z2⟩
    · exact absurd z (by simp)
    · obtain ⟨c1, e1⟩ := fr1 z1
      have : c = c1 := by rw [z2, e1] <;> rfl
      rw [this, e1]
  have down : ∀ {y}, scope.names.lookup y = some .free → ∃ c, (cloFrom X.env.cells scope.names []).lookup y = some c := fun {y} e =>
    mem_lookup (cloFrom_has (cells := X.env.cells) (acc := []) (PySem.mem_of_lookup e : (y, NameKind.free) ∈ scope.names))
  have cellK : ∀ {c : Addr} {v : Option Value}, H c = none → s.heap.IsCell c v → h1.IsCell c v := fun {c v} n z => by
    obtain ⟨o, z1, z2⟩ := z
    obtain ⟨sl, q⟩ := un.any z1 n (by simp)
    exact ⟨{ o with slots := sl }, kp _ _ q, z2⟩
  have noEx : ∀ b : Addr, b ∉ (LamX.lamCx X A outer s1 H1 E scope f c').ex := fun b => List.not_mem_nil
  have ok : (LamX.lamCx X A outer s1 H1 E scope f c').Ok := by
    refine ⟨e0.mod, L.kind, rfl, rfl, Nat.le_refl _, fun y z c a b => I.ok.inj y z c (up a) (up b), fun y hy => ?_, fun y c z _ => (by cases (show false = true from z)), fun _ => hd, Around.frames_deeper e0.frames, .inr ⟨rfl, rfl⟩, fun b z => absurd z (noEx b), e0.bs, e0.bsz, fun b _ _ => noEx b,
      fun b z => absurd z (noEx b), e0.funs, e0.frf⟩
    rcases (show scope.names.lookup y = some .cell ∨ scope.names.lookup y = some .free from hy) with k | k
    · exact absurd rfl (L.own _ (PySem.mem_of_lookup k)).2
    · exact down k
  refine ⟨ok, rfl, e0.bare, Un.kept kp, ⟨_, ns, fun i y v a b k => ?_⟩, fun y c e => ?_, e0.hok.fresh (Nat.le_refl _), fun y c e => ?_, fun q hq => absurd (show q ∈ ([] : List (Addr × Obj)) ++ [] from hq) (by simp), e0.hok.kept kp, I.len⟩
  · rcases (show Vis scope y from k) with k | k | k
    · exact absurd rfl (L.own _ (PySem.mem_of_lookup k)).1
    · exact absurd rfl (L.own _ (PySem.mem_of_lookup k)).2
    · have vis : Vis X.env.scope y := .inr (L.free _ (PySem.mem_of_lookup k) rfl)
      obtain ⟨m, _, look⟩ := I.loc
      obtain ⟨u, r, q⟩ := look i y v a b vis
      obtain ⟨c2, e2⟩ := down k
      refine ⟨u, r, .inr ⟨.inr k, c2, e2, ?_⟩⟩
      rcases q with ⟨k1, _⟩ | ⟨_, c3, e3, z⟩
      · have k1 : X.env.scope.names.lookup y = some .local := k1
        have k2 : X.env.scope.names.lookup y = some .cell ∨ X.env.scope.names.lookup y = some .free := L.free _ (PySem.mem_of_lookup k) rfl
        rw [k1] at k2
        rcases k2 with k2 | k2 <;> cases k2
      · have e4 := up e2
        rw [e3] at e4
        cases e4
        exact cellK (I.freeC y _ e3) z
  · obtain ⟨v, z⟩ := I.cell y c (up e)
    exact ⟨v, cellK (I.freeC y c (up e)) z⟩
  · obtain ⟨v, o, z1, _⟩ := I.cell y c (up e)
    exact un.free c o z1 (I.freeC y c (up e)) (by simp)
end

/-- what a lambda sees of its maker's names; b: also of lists that the maker changes -/
def capS (b : Bool) : Sv → Sv
  | .va d => .va d
  | .ow (.lst xs) => if b = true then .va (.list xs) else .un
  | .sc ns => .sc ns
  | _ => .un
def capL (b : Bool) (ρ : List Sv) : List Sv := ρ.map (capS b)
theorem capS_own (b : Bool) (x : Sv) : (capS b x).own = false := by
  cases x with
  | ow o => cases o <;> cases b <;> rfl
  | _ => rfl
theorem capL_at {b : Bool} {ρ : List Sv} {i : Nat} {sv : Sv} (h : (capL b ρ)[i]? = some sv) : ∃ x, ρ[i]? = some x ∧ sv = capS b x := by
  unfold capL at h
  rw [List.getElem?_map] at h
  cases e : ρ[i]? with
  | none => rw [e] at h; cases h
  | some x => rw [e] at h; cases h; exact ⟨x, rfl, rfl⟩
section
variable {S : Su} {X : Cx} {F : Fr} {W : WX} {k kb : Nat}
/-- the state at the body's entry -/
theorem sr_cap {G : List (D × V)} {O M Oc : Addr → Prop} {ρ : List Sv} {σ : L2.St} {H H1 : Hp} {b : Bool} (Z : SR F G O M ρ σ H) (hO : ∀ a, Oc a → O a) (hw : b = true → ∀ a, Oc a → F.OF a) (hx : Hx No H H1) (ht : LamX.Tabs F.T H1) :
    SR ⟨F.K, F.T, F.ca, Oc, No, H1, fun _ _ => False, []⟩ [] Oc No (capL b ρ) σ H1 := by
  refine ⟨by unfold capL; rw [List.length_map, Z.len], Hx.refl _ _, ht, fun _ z => z, fun _ z => z.elim, fun _ z => z.elim, fun _ z => z.elim, fun a z => hx.dm a (Z.dom a (hO a z)), fun i sv x e1 e2 => ?_, fun i j a c p _ e1 _ o1 => ?_, fun _ z => absurd z (by simp), fun _ z => absurd z (by simp)⟩
  · obtain ⟨y, e3, rfl⟩ := capL_at e1
    have q := Z.sl i y x e3 e2
    cases y with
    | va d =>
      obtain ⟨v, e4, r⟩ := q
      exact ⟨v, e4, (r.sub hO).hx hx fun _ z => z.elim⟩
    | sc ns => obtain ⟨a, e4, z⟩ := q; exact ⟨a, e4, z.keep hx.fixed⟩
    | ow o =>
      cases o with
      | lst xs =>
        cases b with
        | false => trivial
        | true =>
          obtain ⟨a, u, e4, m, n, eu, ob⟩ := q
          cases u with
          | lst vs => exact ⟨.ref a, e4, .lst (hx.kp a _ eu (nt_lst _) fun z => z.elim) (fun z => n (hw rfl a z)) (ob.2.mvN (hx.fixed) ob.1)⟩
          | _ => exact ob.elim
      | _ => trivial
    | _ => trivial
  · obtain ⟨y, _, rfl⟩ := capL_at e1
    rw [capS_own] at o1
    cases o1
/-- what a lambda's body is shown to do -/
def LamB (S : Su) (X : Cx) (kb : Nat) (scope : Scope) (body : Expr) (mb : EM) (eb : Ef) : Prop :=
  ∀ (A : Around) (outer : List Env) (s1 : Shared) (H1 : Hp) (E : XK) (f c' : Addr) (F1 : Fr), F1.K = S.K → F1.T = S.T → F1.ca = S.ca → F1.H0 = H1 → (∀ v r, ¬ F1.CF v r) → On S (LamX.lamCx X A outer s1 H1 E scope f c') F1 (fun cls d _ H' => E cls d H') kb →
    ∃ t, ME (LamX.lamCx X A outer s1 H1 E scope f c') F1 (fun cls d _ H' => E cls d H') body t mb eb
theorem on_lam {A : Around} {outer : List Env} {s1 : Shared} {H1 : Hp} {E : XK} {scope : Scope} {f c' : Addr} {F1 : Fr} (o : On S X F W k) (h1 : F1.K = S.K) (h2 : F1.T = S.T) (h3 : F1.ca = S.ca) (hr : Room kb (A.deeper (LamX.lamEnv X scope s1.heap.objs.size f c'))) (hg : A.guards = some []) :
    On S (LamX.lamCx X A outer s1 H1 E scope f c') F1 (fun cls d _ H' => E cls d H') kb := ⟨o.P, o.w, o.K, o.mg, o.base, h1, h2, h3, takes_of rfl rfl rfl rfl, hr, (deeper_guards A _).trans hg⟩
theorem clo_lam {pins : List (Addr × Obj)} {G : List (D × V)} {O M Oc : Addr → Prop} {ρ : List Sv} {σ : L2.St} {H : Hp} {s : Shared} {b : Bool} {params : Arguments} {body : Expr} {scope : Scope} {pm ctv : Value} {f c' : Addr} {mb : EM} {eb : Ef}
    (o : On S X F W k) (Z : SR F G O M ρ σ H) (I : Inv X pins σ H s) (L : LamX.LamS X.env.scope scope) (hf : s.heap.get? f = some (lamObj X params body scope pm c' ctv)) (hfn : H f = none) (hc : H c' = some (LamX.CodeO c' (X.env.qual ++ "<lambda>")))
    (hbind : bindArgs (PySem.W.kla_fn "<lambda>" (X.env.qual ++ "<lambda>") params body scope (cloFrom X.env.cells scope.names []) pm (.ref c') ctv) ⟨[], []⟩ = pure []) (hB : LamB S X kb scope body mb eb) (hp : eb.p = true)
    (hO : ∀ a, Oc a → O a) (hw : b = true → ∀ a, Oc a → F.OF a) : Clo S (kb + 1) Oc No s H (.ref f) (outV (mb (capL b ρ))) := by
  refine ⟨f, rfl, fun fs s1 H1 un hos hx ht => ?_⟩
  obtain ⟨sl, of1⟩ := un.any hf hfn (by simp)
  refine ⟨⟨_, _, _, _, of1⟩, fun A outer Q E e0 hr hg post => ?_⟩
  have hc1 := hx.kp c' _ hc (nt_ext _) fun z => z.elim
  obtain ⟨⟨oc, vs, t, w1, w2, w3⟩, _, _⟩ := e0.hok c' _ hc1
  have e0' := e0
  rw [← o.P, ← o.w, ← o.K, ← o.mg, ← o.base] at e0'
  have lim : s1.heap.NoLimit := e0.mod.nolimit.keeps fun b o e => (e0.bs b o e).1
  refine PySem.W.kla_callFunE hr.depth of1 rfl L.co L.gen rfl ⟨c', oc, vs, t, rfl, w1, w2, w3⟩ ?_
  rw [hbind]
  refine wpAny_pure (wpAny_newFunctionEnv (fun y hy => (L.own y hy).2) (fun y hy => absurd hy (by simp)) (fun h1 ns sb => ⟨lim.fresh _ sb, ?_⟩) L.kind)
  have kp : ∀ b o, s1.heap.get? b = some o → h1.get? b = some o := fun b o e => sb.extBut b o (fun z => by rw [z] at e; exact absurd (Heap.lt_size e) (Nat.lt_irrefl _)) (Heap.get?_push_of_some _ e)
  show codeAny _ _ (.expr body (LamX.lamEnv X scope s1.heap.objs.size f c')) _ _
  have J := lam_go (E := E) (scope := scope) (f := f) (c' := c') (tk := s1.toks + ([] : List (Str × Value)).length) I L e0' hr.hd un ns kp
  have eK : F.K = S.K := o.FK
  have eT : F.T = S.T := o.FT
  have o1 := on_lam (F1 := ⟨F.K, F.T, F.ca, Oc, No, H1, fun _ _ => False, []⟩) (outer := outer) (E := E) (H1 := H1) (A := A) (s1 := s1) (scope := scope) (f := f) (c' := c') (kb := kb) o eK eT o.ca (hr.deeper _) hg
  obtain ⟨tb, me⟩ := hB A outer s1 H1 E f c' ⟨F.K, F.T, F.ca, Oc, No, H1, fun _ _ => False, []⟩ eK eT o.ca rfl (fun _ _ z => z) o1
  have S1 := sr_cap (b := b) Z hO hw hx (by rw [eT]; exact ht)
  have go := me.co.go [] Oc No (capL b ρ) σ H1 Q S1 (by
    cases e : mb (capL b ρ) with
    | bad => rw [e] at post; exact post.elim
    | exc c d =>
      rw [e] at post
      intro σ' dx v H' x1 t1 _ y1 r1
      have t1 : LamX.Tabs F.T H' := t1
      rw [eT] at t1
      have r1 : Rp F.K Oc H' d v := r1
      rw [eK] at r1
      show E (.ref (F.ca c)) (some dx) H'
      rw [o.ca]
      exact post dx v H' x1 t1 y1 r1
    | ok x =>
      obtain ⟨d, ρ'⟩ := x
      rw [e] at post
      intro H' S' _ x' v r _
      have r : Rp F.K Oc H' d v := r.sub fun a z => by
        unfold Av
        split <;> exact z
      rw [eK] at r
      have t1 := S'.tabs
      have t1 : LamX.Tabs F.T H' := t1
      rw [eT] at t1
      exact post v H' (x'.weak (q := true) (fun _ => hp)).pt t1 r trivial)
  have run := me.pe.run [] _ σ H1 Q J go
  rw [← o.P, ← o.w]
  refine PySem.W.kla_codeExpr (wpAny_mono run (fun v s' hq => ?_) fun e s' hq => hq)
  obtain ⟨w', H', J', rv, q⟩ := hq
  exact ⟨w', H', J'.os, J'.bare, J'.base, J'.hok, rv, q⟩
end

/-! ### g(lambda: body, e, ..) -/
def eLam (m : FM) (n : Nat) (b : Bool) (mb : EM) (a : LM) : EM := fun ρ => (a ρ).bind fun x => if x.1.length + 1 = n then (m (.cl (outV (mb (capL b x.2))) :: x.1.map .va)).bind fun y => .ok (y.1, x.2) else .bad
/-- the reading: what is to be shown for the mirror -/
def tMir (F : Fr) (W : WX) (m : EM) (e : Ef) : TE := fun σ H Q => ∃ G O M ρ, SR F G O M ρ σ H ∧ EPost F W G O M ρ σ H e (m ρ) Q
theorem co_mir {F : Fr} {W : WX} {m : EM} {e : Ef} : CoE F W (tMir F W m e) m e := ⟨fun G O M ρ σ H Q S h => ⟨G, O, M, ρ, S, h⟩⟩
/-- where a lambda's code objects are told -/
structure LamT (S : Su) (X : Cx) : Prop where
  ex : ∃ c P, LamX.TabB X.base X.mg c P ∧ X.env.code = .ref c ∧ (P, X.env.qual ++ "<lambda>") ∈ S.T ∧ ∀ p ∈ S.T, p.1 = P → p.2 = X.env.qual ++ "<lambda>"
section
variable {S : Su} {X : Cx} {F : Fr} {W : WX} {k kb : Nat} {f : Addr} {fd : FuncData} {ps : List Str} {m : FM} {fr : Bool}
theorem me_lam {x : Str} {q pos lpos : Pos} {params : Arguments} {body : Expr} {scope : Scope} {es : List Expr} {ta : TA} {am : LM} {mb : EM} {eb : Ef} {ba p : Bool} (b : Bool) (o : On S X F W k) (Fn : FnM S (kb + 1) k f fd ps m fr) (gl : Glob X x f) (hb : BindP X.K fd ps) (lt : LamT S X) (ha : MA X F W es ta am ba p) (hB : LamB S X kb scope body mb eb)
    (hL : LamX.lamSB X.env.scope scope = true := by kernel_rfl) (hp : eb.p = true := by rfl) (hdef : defaultsOf params X.env = ([], []) := by rfl)
    (hbind : ∀ (q : Str) (cl : List (Str × Addr)) (pm cv ctv : Value), bindArgs (PySem.W.kla_fn "<lambda>" q params body scope cl pm cv ctv) ⟨[], []⟩ = pure [] := by intros; rfl)
    (hg : Gl X x := by rfl) (hdb : (x == ("__debug__" : Str)) = false := by decide) (he : starEach (.Lambda params body scope lpos :: es) X.env = (false, eval (.Lambda params body scope lpos) X.env) :: starEach es X.env := by rfl) (hpl : (backTo pos (starEach es X.env)).any (·.1) = false := by rfl) :
    ME X F W (.Call (.Name x q) (.Lambda params body scope lpos :: es) [] pos) (tMir F W (eLam m ps.length b mb am) ⟨b || ba, p, fr⟩) (eLam m ps.length b mb am) ⟨b || ba, p, fr⟩ := by
  refine ⟨ha.k, ⟨fun pins s σ H Q I h => ?_⟩, co_mir⟩
  obtain ⟨G, O, M, ρ, S0, h⟩ := h
  obtain ⟨c, P, TB, hc0, tm, tu⟩ := lt.ex
  have L := LamX.lamS_by hL
  have eK : F.K = S.K := o.FK
  have eT : F.T = S.T := o.FT
  have ec : F.ca = S.ca := o.ca
  have tt := S0.tabs
  rw [eT] at tt
  refine wpAny_Call_Name_kw (ld_glob I hg gl.m (PySem.W.callWith_K (h₀ := X.base) I.ok.mod.kin gl.kp ?_ he hpl) hdb)
  show wpAny _ _ (spliced ((false, eval (.Lambda params body scope lpos) X.env) :: backTo pos (starEach es X.env))) _ _ s
  refine Calls.spliced_cons (lam_mk I TB hc0 tm tu tt hdef L fun v c' pm ctv H1 s1 I1 x1 T1 hco => ?_)
  have S1 := S0.grow x1 (by rw [eT]; exact T1)
  have hrun := ha.co.go G O M ρ σ H1 (fun vs H2 => ∃ ds ρ2, am ρ = .ok (ds, ρ2) ∧ SR F G O M ρ2 σ H2 ∧ Sim ρ ρ2 ∧ Hx (Pm p M) H1 H2 ∧ RpL F.K (Av F O ba) H2 ds vs) S1 (by
    unfold eLam at h
    cases e : am ρ with
    | bad => rw [e] at h; exact h
    | exc c d => rw [e] at h; exact h
    | ok y => exact fun H2 S2 m2 x2 vs r => ⟨y.1, y.2, rfl, S2, m2, x2, r⟩)
  refine thn (ha.pe.run pos _ s1 σ H1 _ I1 hrun) fun us s2 z => ?_
  obtain ⟨vs, H2, I2, rv, ds, ρ2, e2, S2, m2, x2, r⟩ := z
  have hpin := I2.pin (v, lamObj X params body scope pm c' ctv) (List.mem_append_right _ List.mem_cons_self)
  have hc2 : H2 c' = some (LamX.CodeO c' (X.env.qual ++ "<lambda>")) := x2.kp c' _ hco (nt_ext _) fun _ => trivial
  unfold eLam at h
  rw [e2] at h
  have h : EPost F W G O M ρ σ H ⟨b || ba, p, fr⟩ (if ds.length + 1 = ps.length then (m (.cl (outV (mb (capL b ρ2))) :: ds.map .va)).bind fun y => .ok (y.1, ρ2) else .bad) Q := h
  by_cases hn : ds.length + 1 = ps.length
  case neg => rw [if_neg hn] at h; exact h.elim
  rw [if_pos hn] at h
  have hO : ∀ a, Av F O (b || ba) a → O a := fun a z => by
    unfold Av at z
    split at z
    · exact S2.ofo a z
    · exact z
  have clo : Clo S (kb + 1) (Av F O (b || ba)) No s2 H2 (.ref v) (outV (mb (capL b ρ2))) := clo_lam o S2 I2 L hpin.1 hpin.2.1 hc2 (hbind _ _ _ _ _) hB hp hO fun hbt a z => by
    unfold Av at z
    rw [hbt] at z
    exact z
  have r' : RpL S.K (Av F O (b || ba)) H2 ds vs := by
    have q := r.av (c := b || ba) S2 fun z => by rw [z, Bool.or_true]
    rw [eK] at q
    exact q
  have prom : Prom S m fr (fun O U v r => Clo S (kb + 1) O U s2 H2 v r) (.ref v :: vs) H2 Q (fun cls d H2 => W cls d σ H2) (.cl (outV (mb (capL b ρ2))) :: ds.map .va) (Av F O (b || ba)) No := by
    refine ⟨S2.avdom _, fun _ z => z.elim, by have q := S2.tabs; rw [eT] at q; exact q, .cons clo (args_va r'), fun i j a b p _ ea _ => ?_, ?_⟩
    · cases i with
      | zero => cases ea
      | succ i =>
        rw [List.getElem?_cons_succ, List.getElem?_map] at ea
        cases q : ds[i]? with
        | none => rw [q] at ea; cases ea
        | some d => rw [q] at ea; cases ea
    · cases e : m (.cl (outV (mb (capL b ρ2))) :: ds.map .va) with
      | bad => rw [e] at h; exact h.elim
      | exc c d =>
        rw [e] at h
        intro dx w H' hx ht hd hr
        rw [← ec]
        rw [← eT] at ht
        rw [← eK] at hr
        exact h σ dx w H' (S2.out hx.none) ht (S2.unAll hx.none ht) hd (hr.sub fun a z => by
          unfold Av
          split
          · exact z
          · exact S2.ofo a z)
      | ok y =>
        rw [e] at h
        intro w H' hx ht hr hm
        rw [← eT] at ht
        rw [← eK] at hr
        refine h H' (S2.grow hx ht) m2 ((x1.tp.trans x2).trans hx.tp) w hr fun z => ?_
        have q := ((hm.1 z).back x2).back x1
        rw [← eK] at q
        exact q
  have hl : (V.ref v :: vs).length = ps.length := by rw [List.length_cons, ← r.len]; exact hn
  refine ⟨I2.kIn, wpAny_mono (run_fm (zs := .ref v :: vs) (us := .ref v :: us) (ks := []) (ws := []) o Fn I2 (hb s2 (.ref v :: us) I2.kIn (by rw [List.length_cons, ← rv.length, ← List.length_cons (a := V.ref v)]; exact hl)) (Paired.cons (show L2.RelV (V.ref v) (Value.ref v) from rfl) rv) hl prom) (fun u s3 hq => ?_) fun _ _ hq => hq⟩
  obtain ⟨w, H3, I3, r3, q3⟩ := hq
  exact ⟨w, H3, I3.pins_of fun z hz => I3.pin z (List.mem_append_right _ (List.mem_cons_of_mem _ hz)), r3, q3⟩
end

/-! ### f(call, e, ..), f(script, e, ..): a function, the script handed on -/
theorem Clo.on {S : Su} {k : Nat} {O U : Addr → Prop} {s s2 : Shared} {H H2 : Hp} {v : V} {r : Out D} {fs : List Addr} (c : Clo S k O U s H v r) (un : Un fs [] H H2 s.heap s2.heap) (hos : s2.os = s.os) (hx : Hx U H H2) : Clo S k O No s2 H2 v r := by
  obtain ⟨f, e, run⟩ := c
  refine ⟨f, e, fun fs' s1 H1 un' hos' hx' ht => run (fs ++ fs') s1 H1 ?_ (hos'.trans hos) (hx.trans hx'.none) ht⟩
  exact (un.mono (fun b hb => List.mem_append_left _ hb) fun _ z => z).trans (un'.mono (fun b hb => List.mem_append_right _ hb) fun _ z => z)
def Sv.spc : Sv → Bool
  | .cl _ => true
  | .sc _ => true
  | _ => false
def eCallP (m : FM) (n i : Nat) (a : LM) : EM := fun ρ => match ρ[i]? with
  | some sv => if sv.spc = true then (a ρ).bind fun x => if x.1.length + 1 = n then (m (sv :: x.1.map .va)).bind fun y => .ok (y.1, x.2) else .bad else .bad
  | none => .bad
section
variable {S : Su} {X : Cx} {F : Fr} {W : WX} {kc k : Nat} {f : Addr} {fd : FuncData} {ps : List Str} {m : FM} {fr : Bool}
theorem me_callP (i : Nat) {x y : Str} {q q2 pos : Pos} {es : List Expr} {ta : TA} {am : LM} {ba p : Bool} (o : On S X F W k) (Fn : FnM S kc k f fd ps m fr) (gl : Glob X x f) (hb : BindP X.K fd ps) (en : Ent S X F kc ∨ ∀ v r, ¬ F.CF v r) (ha : MA X F W es ta am ba p)
    (hN : X.N[i]? = some y := by rfl) (hv : Vis X.env.scope y := by first | exact Or.inl rfl | exact Or.inr (Or.inl rfl) | exact Or.inr (Or.inr rfl)) (hd : (y == ("__debug__" : Str)) = false := by decide) (hcd : (y == ("__classdict__" : Str)) = false := by decide)
    (hg : Gl X x := by rfl) (hdb : (x == ("__debug__" : Str)) = false := by decide) (he : starEach (.Name y q2 :: es) X.env = (false, eval (.Name y q2) X.env) :: starEach es X.env := by rfl) (hpl : (backTo pos (starEach es X.env)).any (·.1) = false := by rfl) :
    ME X F W (.Call (.Name x q) (.Name y q2 :: es) [] pos) (tMir F W (eCallP m ps.length i am) ⟨true, p, fr⟩) (eCallP m ps.length i am) ⟨true, p, fr⟩ := by
  refine ⟨ha.k, ⟨fun pins s σ H Q I h => ?_⟩, co_mir⟩
  obtain ⟨G, O, M, ρ, S0, h⟩ := h
  have eK : F.K = S.K := o.FK
  have eT : F.T = S.T := o.FT
  have ec : F.ca = S.ca := o.ca
  unfold eCallP at h
  cases e : ρ[i]? with
  | none => rw [e] at h; exact h.elim
  | some sv =>
    rw [e] at h
    have h : EPost F W G O M ρ σ H ⟨true, p, fr⟩ (if sv.spc = true then (am ρ).bind fun x => if x.1.length + 1 = ps.length then (m (sv :: x.1.map .va)).bind fun y => .ok (y.1, x.2) else .bad else .bad) Q := h
    by_cases hsp : sv.spc = true
    case neg => rw [if_neg hsp] at h; exact h.elim
    rw [if_pos hsp] at h
    have l : i < σ.length := by rw [← S0.len]; exact (List.getElem?_eq_some_iff.mp e).1
    have ev0 : σ[i]? = some σ[i] := by simp [l]
    have q0 := S0.sl i sv _ e ev0
    obtain ⟨v, ev⟩ : ∃ v, σ[i] = some v := by
      cases sv with
      | cl r => obtain ⟨v, z, _⟩ := q0; exact ⟨v, z⟩
      | sc ns => obtain ⟨a, z, _⟩ := q0; exact ⟨_, z⟩
      | _ => cases hsp
    rw [ev] at ev0 q0
    refine wpAny_Call_Name_kw (ld_glob I hg gl.m (PySem.W.callWith_K (h₀ := X.base) I.ok.mod.kin gl.kp (thn ((pa_cons (pe_var (pos := q2) (i := i) hN hv hd hcd) ha.pe he).run pos pins s σ H (fun vs H2 => ∃ ws, vs = v :: ws ∧ ∃ ds ρ2, am ρ = .ok (ds, ρ2) ∧ SR F G O M ρ2 σ H2 ∧ Sim ρ ρ2 ∧ Hx (Pm p M) H H2 ∧ RpL F.K (Av F O ba) H2 ds ws) I ?_) fun us s2 z => ?_) he hpl) hdb)
    · exact ⟨v, ev0, ha.co.go G O M ρ σ H _ S0 (by
        cases e : am ρ with
        | bad => rw [e] at h; exact h
        | exc c d => rw [e] at h; exact h
        | ok y => exact fun H2 S2 m2 x2 vs r => ⟨vs, rfl, y.1, y.2, rfl, S2, m2, x2, r⟩)⟩
    · obtain ⟨vs, H2, I2, rv, ws, rfl, ds, ρ2, e2, S2, m2, x2, r⟩ := z
      rw [e2] at h
      have h : EPost F W G O M ρ σ H ⟨true, p, fr⟩ (if ds.length + 1 = ps.length then (m (sv :: ds.map .va)).bind fun y => .ok (y.1, ρ2) else .bad) Q := h
      by_cases hn : ds.length + 1 = ps.length
      case neg => rw [if_neg hn] at h; exact h.elim
      rw [if_pos hn] at h
      have r' : RpL S.K (Av F O true) H2 ds ws := by
        have q := r.av (c := true) S2 fun _ => rfl
        rw [eK] at q
        exact q
      have arg : ArgR S (Av F O true) No (fun v r => Clo S kc (Av F O true) No s2 H2 v r) H2 sv v := by
        cases sv with
        | cl rr =>
          obtain ⟨v', z, cf⟩ := q0
          cases z
          rcases en with en | en
          · have un : Un X.fs [] X.H_0 H2 X.s_0.heap s2.heap := by have q := I2.base; rw [en.ex] at q; exact q
            have c0 := (en.cf _ _ cf).on un I2.os (by rw [en.h0]; exact S2.hx)
            exact c0
          · exact absurd cf (en _ _)
        | sc ns =>
          obtain ⟨a, z, fz⟩ := q0
          cases z
          have q := fz.keep (H' := H2) x2.fixed
          rw [eK] at q
          exact ⟨a, rfl, q⟩
        | _ => cases hsp
      have prom : Prom S m fr (fun O U v r => Clo S kc O U s2 H2 v r) (v :: ws) H2 Q (fun cls d H2 => W cls d σ H2) (sv :: ds.map .va) (Av F O true) No := by
        refine ⟨S2.avdom _, fun _ z => z.elim, by have q := S2.tabs; rw [eT] at q; exact q, .cons arg (args_va r'), fun i j a b p _ ea _ => ?_, ?_⟩
        · cases i with
          | zero => cases ea; cases hsp
          | succ i =>
            rw [List.getElem?_cons_succ, List.getElem?_map] at ea
            cases q : ds[i]? with
            | none => rw [q] at ea; cases ea
            | some d => rw [q] at ea; cases ea
        · cases e : m (sv :: ds.map .va) with
          | bad => rw [e] at h; exact h.elim
          | exc c d =>
            rw [e] at h
            intro dx w H' hx ht hd hr
            rw [← ec]
            rw [← eT] at ht
            rw [← eK] at hr
            exact h σ dx w H' (S2.out hx.none) ht (S2.unAll hx.none ht) hd hr
          | ok y =>
            rw [e] at h
            intro w H' hx ht hr hm
            rw [← eT] at ht
            rw [← eK] at hr
            refine h H' (S2.grow hx ht) m2 (x2.trans hx.tp) w hr fun z => ?_
            have q := (hm.1 z).back x2
            rw [← eK] at q
            exact q
      have hl : (v :: ws).length = ps.length := by rw [List.length_cons, ← r.len]; exact hn
      exact ⟨I2.kIn, run_fm (ks := []) (ws := []) o Fn I2 (hb s2 us I2.kIn (by rw [← rv.length]; exact hl)) rv hl prom⟩
/-! ### calls of defs: the text's -/
theorem me_call {x : Str} {q pos : Pos} {e : Expr} {es : List Expr} {t : TA} {a : LM} {b p : Bool} (o : On S X F W k) (Fn : FnM S kc k f fd ps m fr) (gl : Glob X x f) (hb : BindP X.K fd ps) (ha : MA X F W (e :: es) t a b p) (hg : Gl X x := by rfl) (hdb : (x == ("__debug__" : Str)) = false := by decide)
    (he : starEach (e :: es) X.env = (false, eval e X.env) :: starEach es X.env := by rfl) (hpl : (backTo pos (starEach es X.env)).any (·.1) = false := by rfl) : ME X F W (.Call (.Name x q) (e :: es) [] pos) (tCal S m fr W ps.length t) (eCall m ps.length a) ⟨b, p, fr⟩ :=
  ⟨ha.k, pe_cal o Fn gl hb ha.pe hg hdb he hpl, co_call ⟨o.FK, o.FT, o.ca⟩ ha.co⟩
/-- f() -/
def eCall0 (m : FM) : EM := fun ρ => (m []).bind fun y => .ok (y.1, ρ)
theorem me_call0 {x : Str} {q pos : Pos} (o : On S X F W k) (Fn : FnM S kc k f fd [] m fr) (gl : Glob X x f) (hb : BindP X.K fd []) (hg : Gl X x := by rfl) (hdb : (x == ("__debug__" : Str)) = false := by decide) : ME X F W (.Call (.Name x q) [] [] pos) (tMir F W (eCall0 m) ⟨false, true, fr⟩) (eCall0 m) ⟨false, true, fr⟩ := by
  refine ⟨o.K.trans o.FK.symm, ⟨fun pins s σ H Q I h => ?_⟩, co_mir⟩
  obtain ⟨G, O, M, ρ, S0, h⟩ := h
  refine wpAny_Call_Name_kw (ld_glob I hg gl.m (PySem.W.callWith_K0 I.kIn gl.kp ?_) hdb)
  obtain ⟨avs, O', U, p⟩ := prom_va (m := m) (fr := fr) (b := false) (p := true) (ds := []) (vs := []) (Q := Q) (W := W) ⟨o.FK, o.FT, o.ca⟩ S0 (Sim.refl ρ) (Hx.refl _ H) .nil h
  exact run_fm (us := []) (ks := []) (ws := []) (zs := []) o Fn I (hb s [] I.kIn rfl) .nil rfl (p.clo fun _ _ _ _ z => z.elim)
/-- f(x, e, ..), x an object that f changes -/
theorem me_callS (i : Nat) {x y : Str} {q q2 pos : Pos} {es : List Expr} {ta : TA} {am : LM} {p : Bool} (o : On S X F W k) (Fn : FnM S kc k f fd ps m fr) (gl : Glob X x f) (hb : BindP X.K fd ps) (ha : MA X F W es ta am false p)
    (hN : X.N[i]? = some y := by rfl) (hv : Vis X.env.scope y := by first | exact Or.inl rfl | exact Or.inr (Or.inl rfl) | exact Or.inr (Or.inr rfl)) (hd : (y == ("__debug__" : Str)) = false := by decide) (hcd : (y == ("__classdict__" : Str)) = false := by decide)
    (hg : Gl X x := by rfl) (hdb : (x == ("__debug__" : Str)) = false := by decide) (he : starEach (.Name y q2 :: es) X.env = (false, eval (.Name y q2) X.env) :: starEach es X.env := by rfl) (hpl : (backTo pos (starEach es X.env)).any (·.1) = false := by rfl) :
    ME X F W (.Call (.Name x q) (.Name y q2 :: es) [] pos) (tCal S m fr W ps.length (tCons (tVar i) ta)) (eCallS m ps.length i am) ⟨false, false, fr⟩ :=
  ⟨ha.k, pe_cal o Fn gl hb (pa_cons (pe_var (pos := q2) (i := i) hN hv hd hcd) ha.pe he) hg hdb he hpl, co_callS ⟨o.FK, o.FT, o.ca⟩ ha.co⟩
/-! ### keywords -/
structure MK (X : Cx) (F : Fr) (W : WX) (kws : List Keyword) (t : TA) (m : LM) (b p : Bool) : Prop where
  k : X.K = F.K
  pe : PK X kws t
  co : CoA F W t m b p
theorem mk_nil (hK : X.K = F.K := by rfl) : MK X F W [] tNil lNil false true := ⟨hK, pk_nil, co_nil⟩
theorem mk_cons {nm : Option Str} {e : Expr} {kpos : Pos} {kws : List Keyword} {ta : TE} {ma : EM} {t : TA} {a : LM} {e1 : Ef} {b p : Bool} (ha : ME X F W e ta ma e1) (hr : MK X F W kws t a b p) (hp : (!e1.b || p) = true := by rfl) : MK X F W (⟨nm, e, kpos⟩ :: kws) (tCons ta t) (lCons ma a) (e1.b || b) (e1.p && p) :=
  ⟨hr.k, pk_cons ha.pe hr.pe, co_cons ha.co hr.co hp⟩
theorem me_callK {x : Str} {q pos : Pos} {e : Expr} {es : List Expr} {kws : List Keyword} {ks : List Str} {ix : List Nat} {nu : Nat} {t tk : TA} {a a2 : LM} {b b2 p p2 : Bool} (o : On S X F W k) (Fn : FnM S kc k f fd ps m fr) (gl : Glob X x f) (hb : BindK X.K fd ps nu ks ix) (ha : MA X F W (e :: es) t a b p) (hk : MK X F W kws tk a2 b2 p2) (hp : (!b || p2) = true := by rfl)
    (hg : Gl X x := by rfl) (hdb : (x == ("__debug__" : Str)) = false := by decide) (hall : (backToKw pos (keywordEach kws X.env)).all (·.1.isSome) = true := by rfl) (hks : (backToKw pos (keywordEach kws X.env)).filterMap (·.1) = ks := by rfl)
    (he : starEach (e :: es) X.env = (false, eval e X.env) :: starEach es X.env := by rfl) (hpl : ((backTo pos (starEach (e :: es) X.env)).any (·.1) || (backToKw pos (keywordEach kws X.env)).any (·.1.isNone)) = false := by rfl) :
    ME X F W (.Call (.Name x q) (e :: es) kws pos) (tCalK S m fr W nu ks.length ix t tk) (eCallK m nu ks.length ix a a2) ⟨b || b2, p && p2, fr⟩ :=
  ⟨ha.k, pe_calK o Fn gl hb ha.pe hk.pe hg hdb hall hks he hpl, co_callK ⟨o.FK, o.FT, o.ca⟩ ha.co hk.co hp⟩
theorem me_callK0 {x : Str} {q pos : Pos} {kws : List Keyword} {ks : List Str} {ix : List Nat} {tk : TA} {a2 : LM} {b2 p2 : Bool} (o : On S X F W k) (Fn : FnM S kc k f fd ps m fr) (gl : Glob X x f) (hb : BindK X.K fd ps 0 ks ix) (hk : MK X F W kws tk a2 b2 p2)
    (hg : Gl X x := by rfl) (hdb : (x == ("__debug__" : Str)) = false := by decide) (hall : (backToKw pos (keywordEach kws X.env)).all (·.1.isSome) = true := by rfl) (hks : (backToKw pos (keywordEach kws X.env)).filterMap (·.1) = ks := by rfl)
    (hpl : ((backTo pos (starEach [] X.env)).any (·.1) || (backToKw pos (keywordEach kws X.env)).any (·.1.isNone)) = false := by rfl) :
    ME X F W (.Call (.Name x q) [] kws pos) (tCalK S m fr W 0 ks.length ix tNil tk) (eCallK m 0 ks.length ix lNil a2) ⟨b2, p2, fr⟩ :=
  ⟨hk.k, pe_calK0 o Fn gl hb hk.pe hg hdb hall hks hpl, by
    have q := co_callK (S := S) (m := m) (fr := fr) (W := W) (ix := ix) (n := 0) (nk := ks.length) ⟨o.FK, o.FT, o.ca⟩ co_nil hk.co rfl
    simpa using q⟩
/-- call() -/
theorem me_cl (i : Nat) {x : Str} {p1 p2 : Pos} (o : On S X F W k) (en : Ent S X F k) (hN : X.N[i]? = some x := by rfl) (hv : Vis X.env.scope x := by first | exact Or.inl rfl | exact Or.inr (Or.inl rfl) | exact Or.inr (Or.inr rfl)) (hd : (x == ("__debug__" : Str)) = false := by decide) (hcd : (x == ("__classdict__" : Str)) = false := by decide) :
    ME X F W (.Call (.Name x p1) [] [] p2) (tCl F S W i) (eCl i) ⟨true, true, false⟩ := ⟨o.K.trans o.FK.symm, pe_cl o en hN hv hd hcd, co_cl ⟨o.FK, o.FT, o.ca⟩⟩
end
end Mi

set_option Elab.async false
set_option linter.all false
set_option maxRecDepth 100000
set_option maxHeartbeats 4000000
/-! Mi7: operations on data and their mirrors. -/
namespace Mi
open PySem PySem.Spec PyProof.Rows L2

abbrev maxSz : Nat := 1000000
theorem maxSz_le : maxSz ≤ sizeLine := by decide
/-! ### whole numbers -/
def vII (f : Int → Int → Out D) : D → D → Out D
  | .int i, .int j => f i j
  | _, _ => .bad
theorem vII_ok {f : Int → Int → Out D} {d1 d2 d : D} (e : vII f d1 d2 = .ok d) : ∃ i j, d1 = .int i ∧ d2 = .int j ∧ f i j = .ok d := by
  unfold vII at e
  split at e
  · exact ⟨_, _, rfl, rfl, e⟩
  · cases e
section
variable {K : PySem.W.Frag}
theorem v2_rI {C : Int → Int → Prop} {h : Int → Int → Int} {c : Int → Int → Bool} (hc : ∀ i j, c i j = true → C i j) : V2 K (rI C fun i j => .int (h i j)) (vII fun i j => if c i j = true then .ok (.int (h i j)) else .bad) true false := by
  have key : ∀ {d1 d2 d : D}, (vII fun i j => if c i j = true then .ok (.int (h i j)) else .bad) d1 d2 = .ok d → ∃ i j, d1 = .int i ∧ d2 = .int j ∧ C i j ∧ d = .int (h i j) := fun {d1 d2 d} e => by
    obtain ⟨i, j, e1, e2, e3⟩ := vII_ok e
    by_cases q : c i j = true
    · rw [if_pos q] at e3
      cases e3
      exact ⟨i, j, e1, e2, hc i j q, rfl⟩
    · rw [if_neg q] at e3; cases e3
  refine ⟨fun A H x y d1 d2 d Q hA r1 r2 e k => ?_, fun _ d1 d2 d e => ?_, fun d1 d2 c' d e => ?_⟩
  · obtain ⟨i, j, rfl, rfl, hij, rfl⟩ := key e
    cases r1; cases r2
    exact ⟨i, j, rfl, rfl, hij, k _ H (L2.Same.refl H) (.int _) fun z => nomatch z⟩
  · obtain ⟨i, j, rfl, rfl, hij, rfl⟩ := key e
    rfl
  · unfold vII at e
    split at e
    · dsimp only at e
      split at e <;> cases e
    · cases e
theorem v2_rI0 {h : Int → Int → Int} : V2 K (rI0 fun i j => .int (h i j)) (vII fun i j => .ok (.int (h i j))) true false := by
  refine ⟨fun A H x y d1 d2 d Q hA r1 r2 e k => ?_, fun _ d1 d2 d e => ?_, fun d1 d2 c' d e => ?_⟩
  · obtain ⟨i, j, rfl, rfl, e⟩ := vII_ok e
    cases e
    cases r1; cases r2
    exact ⟨i, j, rfl, rfl, k _ H (L2.Same.refl H) (.int _) fun z => nomatch z⟩
  · obtain ⟨i, j, rfl, rfl, e⟩ := vII_ok e
    cases e
    rfl
  · unfold vII at e
    split at e <;> cases e
/-- the bound of what is multiplied, divided by -/
def big : Nat := 2 ^ 4000
theorem lt_big {n k : Nat} (h : n < 2 ^ k) (hk : k ≤ 4000) : n < big := Nat.lt_of_lt_of_le h (Nat.pow_le_pow_right (by decide) hk)
theorem log_big {i : Int} (h : i.natAbs < big) : i.natAbs.log2 < 4000 := by
  by_cases z : i.natAbs = 0
  · rw [z]; decide
  · exact (Nat.log2_lt z).mpr h
def vSub : D → D → Out D := vII fun i j => .ok (.int (i - j))
def mulB (i j : Int) : Bool := decide (i.natAbs < big) && decide (j.natAbs < big)
def vMul : D → D → Out D := vII fun i j => if mulB i j = true then .ok (.int (i * j)) else .bad
def divB (_ j : Int) : Bool := decide (0 < j) && decide (j.natAbs < big)
def vFdiv : D → D → Out D := vII fun i j => if divB i j = true then .ok (.int (i / j)) else .bad
def modB (_ j : Int) : Bool := decide (0 < j)
def vMod : D → D → Out D := vII fun i j => if modB i j = true then .ok (.int (i % j)) else .bad
def powB (i j : Int) : Bool := decide (0 ≤ j) && (decide (j ≤ 1000000) && decide (i.natAbs < 2 ^ 64))
def vPow : D → D → Out D := vII fun i j => if powB i j = true then .ok (.int (i ^ j.toNat)) else .bad
theorem v_sub : V2 K (rI0 fun i j => .int (i - j)) vSub true false := v2_rI0
theorem v_mul : V2 K (rI CMulW fun i j => .int (i * j)) vMul true false := v2_rI fun i j h => by
  unfold mulB at h
  obtain ⟨h1, h2⟩ := Bool.and_eq_true_iff.mp h
  have h1 := log_big (of_decide_eq_true h1)
  have h2 := log_big (of_decide_eq_true h2)
  unfold CMulW
  omega
theorem v_fdiv : V2 K (rI CDivW fun i j => .int (i / j)) vFdiv true false := v2_rI fun i j h => by
  unfold divB at h
  obtain ⟨h1, h2⟩ := Bool.and_eq_true_iff.mp h
  have h2 := log_big (of_decide_eq_true h2)
  exact ⟨of_decide_eq_true h1, by omega⟩
theorem v_mod : V2 K (rI (fun _ j => 0 < j) fun i j => .int (i % j)) vMod true false := v2_rI fun i j h => of_decide_eq_true h
theorem v_pow : V2 K (rI CPow fun i j => .int (i ^ j.toNat)) vPow true false := v2_rI fun i j h => by
  unfold powB at h
  obtain ⟨h1, h2⟩ := Bool.and_eq_true_iff.mp h
  obtain ⟨h2, h3⟩ := Bool.and_eq_true_iff.mp h2
  exact ⟨of_decide_eq_true h1, of_decide_eq_true h2, of_decide_eq_true h3⟩
def vNeg : D → Out D
  | .int i => .ok (.int (-i))
  | _ => .bad
theorem v_neg : V1 K (rU fun i => .int (-i)) vNeg true false := by
  refine ⟨fun A H x d1 d Q hA r1 e k => ?_, fun _ d1 d e => ?_, fun d1 c' d e => ?_⟩
  · unfold vNeg at e
    split at e
    · cases e
      cases r1
      exact ⟨_, rfl, k _ H (L2.Same.refl H) (.int _) fun z => nomatch z⟩
    · cases e
  · unfold vNeg at e
    split at e <;> cases e
    rfl
  · unfold vNeg at e
    split at e <;> cases e

/-! ### order -/
def intsOf : List D → Option (List Int)
  | [] => some []
  | .int i :: r => (intsOf r).map (i :: ·)
  | _ => none
theorem intsOf_eq : ∀ {ds : List D} {ns : List Int}, intsOf ds = some ns → ds = ns.map PyData.int
  | [], ns, e => by cases e; rfl
  | .int i :: r, ns, e => by
    unfold intsOf at e
    obtain ⟨ms, e1, e2⟩ := Option.map_eq_some_iff.mp e
    subst e2
    rw [intsOf_eq e1]
    rfl
  | .none :: _, _, e => by cases e
  | .bool _ :: _, _, e => by cases e
  | .str _ :: _, _, e => by cases e
  | .list _ :: _, _, e => by cases e
  | .tuple _ :: _, _, e => by cases e
  | .dict _ :: _, _, e => by cases e
theorem intsOf_map : ∀ ns : List Int, intsOf (ns.map PyData.int) = some ns
  | [] => rfl
  | n :: r => by
    show ((intsOf (r.map PyData.int)).map (n :: ·)) = _
    rw [intsOf_map r]
    rfl
theorem rpl_ints {O : Addr → Prop} {H : Hp} : ∀ {ns : List Int} {vs : List V}, RpL K O H (ns.map PyData.int) vs → vs = ns.map V.int
  | [], _, .nil => rfl
  | _ :: r, _, .cons (.int _) t => by rw [rpl_ints t]; rfl
abbrev rLt2 (K : PySem.W.Frag) : R2 := fun x y H Q => rI0 (fun i j => .bl (decide (i < j))) x y H Q ∨ ((∃ i j, x = .str i ∧ y = .str j ∧ Q (.bl (decide (i.cps.toList < j.cps.toList))) H) ∨ rLtT K x y H Q)
def vLt : D → D → Out D
  | .int i, .int j => .ok (.bool (decide (i < j)))
  | .str i, .str j => .ok (.bool (decide (i.cps.toList < j.cps.toList)))
  | .tuple xs, .tuple ys => (oOut (intsOf xs)).bind fun ns => (oOut (intsOf ys)).bind fun ms => .ok (.bool (HT.lexLt ns ms))
  | _, _ => .bad
theorem op_lt2 {X : Cx} (hu : X.A.units < cLine) : OpR X (compareOp .Lt) (rLt2 X.K) := op_lt.or (op_lt_str.or (op_ltT hu))
theorem v_lt : V2 K (rLt2 K) vLt true false := by
  refine ⟨fun A H x y d1 d2 d Q hA r1 r2 e k => ?_, fun _ d1 d2 d e => ?_, fun d1 d2 c' d e => ?_⟩
  · unfold vLt at e
    split at e
    · cases e; cases r1; cases r2
      exact .inl ⟨_, _, rfl, rfl, k _ H (L2.Same.refl H) (.bl _) fun z => nomatch z⟩
    · cases e; cases r1; cases r2
      exact .inr (.inl ⟨_, _, rfl, rfl, k _ H (L2.Same.refl H) (.bl _) fun z => nomatch z⟩)
    · rename_i xs ys
      cases e1 : intsOf xs with
      | none => rw [e1] at e; cases e
      | some ns =>
        cases e2 : intsOf ys with
        | none => rw [e1, e2] at e; cases e
        | some ms =>
          rw [e1, e2] at e
          cases e
          have e1 := intsOf_eq e1
          have e2 := intsOf_eq e2
          subst e1 e2
          cases r1 with
          | tup h1 l1 =>
            cases r2 with
            | tup h2 l2 =>
              rw [rpl_ints l1] at h1
              rw [rpl_ints l2] at h2
              exact .inr (.inr ⟨_, _, ns, ms, rfl, rfl, h1, h2, k _ H (L2.Same.refl H) (.bl _) fun z => nomatch z⟩)
    · cases e
  · unfold vLt at e
    split at e
    · cases e; rfl
    · cases e; rfl
    · rename_i xs ys
      cases e1 : intsOf xs with
      | none => rw [e1] at e; cases e
      | some ns =>
        cases e2 : intsOf ys with
        | none => rw [e1, e2] at e; cases e
        | some ms => rw [e1, e2] at e; cases e; rfl
    · cases e
  · unfold vLt at e
    split at e
    · cases e
    · cases e
    · rename_i xs ys
      cases e1 : intsOf xs with
      | none => rw [e1] at e; cases e
      | some ns =>
        cases e2 : intsOf ys with
        | none => rw [e1, e2] at e; cases e
        | some ms => rw [e1, e2] at e; cases e
    · cases e
theorem v2_cmp {h : Int → Int → Bool} : V2 K (rI0 fun i j => .bl (h i j)) (vII fun i j => .ok (.bool (h i j))) true false := by
  refine ⟨fun A H x y d1 d2 d Q hA r1 r2 e k => ?_, fun _ d1 d2 d e => ?_, fun d1 d2 c' d e => ?_⟩
  · obtain ⟨i, j, rfl, rfl, e⟩ := vII_ok e
    cases e
    cases r1; cases r2
    exact ⟨i, j, rfl, rfl, k _ H (L2.Same.refl H) (.bl _) fun z => nomatch z⟩
  · obtain ⟨i, j, rfl, rfl, e⟩ := vII_ok e
    cases e
    rfl
  · unfold vII at e
    split at e <;> cases e
def vLe : D → D → Out D := vII fun i j => .ok (.bool (decide (i ≤ j)))
def vGt : D → D → Out D := vII fun i j => .ok (.bool (decide (j < i)))
def vGe : D → D → Out D := vII fun i j => .ok (.bool (decide (j ≤ i)))
def vLtI : D → D → Out D := vII fun i j => .ok (.bool (decide (i < j)))
theorem v_ltI : V2 K (rI0 fun i j => .bl (decide (i < j))) vLtI true false := v2_cmp
theorem v_le : V2 K (rI0 fun i j => .bl (decide (i ≤ j))) vLe true false := v2_cmp
theorem v_gt : V2 K (rI0 fun i j => .bl (decide (j < i))) vGt true false := v2_cmp
theorem v_ge : V2 K (rI0 fun i j => .bl (decide (j ≤ i))) vGe true false := v2_cmp

/-! ### == -/
def okEq (d e : D) : Bool := SeqAt.shaped d && SeqAt.shaped e
def vEqB (neg : Bool) : D → D → Out D
  | .int i, .int j => .ok (.bool (neg ^^ decide (i = j)))
  | .str i, .str j => .ok (.bool (neg ^^ decide (i = j)))
  | .bool i, .bool j => .ok (.bool (neg ^^ decide (i = j)))
  | d, e => if okEq d e = true then .ok (.bool (neg ^^ PyData.eqv d e)) else .bad
def vEq : D → D → Out D := vEqB false
def vNe : D → D → Out D := vEqB true
abbrev rEq2 (K : PySem.W.Frag) : R2 := fun x y H Q => rEq x y H Q ∨ rEqD K x y H Q
abbrev rNe2 (K : PySem.W.Frag) : R2 := fun x y H Q => rNe x y H Q ∨ rNeD K x y H Q
theorem op_eq2 {X : Cx} (hu : X.A.units + 64 < cLine) : OpR X (compareOp .Eq) (rEq2 X.K) := op_eq.or (op_eqD hu)
theorem op_ne2 {X : Cx} (hu : X.A.units + 64 < cLine) : OpR X (compareOp .NotEq) (rNe2 X.K) := op_ne.or (op_neD hu)
theorem vEqB_bool {neg : Bool} {d1 d2 : D} : (∃ b, vEqB neg d1 d2 = .ok (.bool b)) ∨ vEqB neg d1 d2 = .bad := by
  unfold vEqB
  split
  · exact .inl ⟨_, rfl⟩
  · exact .inl ⟨_, rfl⟩
  · exact .inl ⟨_, rfl⟩
  · by_cases h : okEq d1 d2 = true
    · rw [if_pos h]; exact .inl ⟨_, rfl⟩
    · rw [if_neg h]; exact .inr rfl
theorem dec_V {a b : V} {p : Prop} [Decidable p] (h : (a = b) ↔ p) : decide (a = b) = decide p := by
  by_cases q : p
  · rw [decide_eq_true q, decide_eq_true (h.mpr q)]
  · rw [decide_eq_false q, decide_eq_false (fun z => q (h.mp z))]
theorem v_eq : V2 K (rEq2 K) vEq true false := by
  refine ⟨fun A H x y d1 d2 d Q hA r1 r2 e k => ?_, fun _ d1 d2 d e => ?_, fun d1 d2 c' d e => ?_⟩
  · unfold vEq vEqB at e
    split at e
    · cases e; cases r1; cases r2
      exact .inl ⟨rfl, by rw [dec_V (p := _ = _) ⟨fun z => V.int.inj z, fun z => by rw [z]⟩]; exact k _ H (L2.Same.refl H) (by rw [Bool.false_xor]; exact .bl _) fun z => nomatch z⟩
    · cases e; cases r1; cases r2
      exact .inl ⟨rfl, by rw [dec_V (p := _ = _) ⟨fun z => V.str.inj z, fun z => by rw [z]⟩]; exact k _ H (L2.Same.refl H) (by rw [Bool.false_xor]; exact .bl _) fun z => nomatch z⟩
    · cases e; cases r1; cases r2
      exact .inl ⟨rfl, by rw [dec_V (p := _ = _) ⟨fun z => V.bl.inj z, fun z => by rw [z]⟩]; exact k _ H (L2.Same.refl H) (by rw [Bool.false_xor]; exact .bl _) fun z => nomatch z⟩
    · by_cases h : okEq d1 d2 = true
      · rw [if_pos h] at e
        cases e
        obtain ⟨h1, h2⟩ := Bool.and_eq_true_iff.mp h
        exact .inr ⟨d1, d2, r1.dp, r2.dp, h1, h2, k _ H (L2.Same.refl H) (by rw [Bool.false_xor]; exact .bl _) fun z => nomatch z⟩
      · rw [if_neg h] at e; cases e
  · rcases vEqB_bool (neg := false) (d1 := d1) (d2 := d2) with ⟨b, q⟩ | q
    · have e : vEqB false d1 d2 = .ok d := e
      rw [q] at e; cases e; rfl
    · have e : vEqB false d1 d2 = .ok d := e
      rw [q] at e; cases e
  · have e : vEqB false d1 d2 = .exc c' d := e
    rcases vEqB_bool (neg := false) (d1 := d1) (d2 := d2) with ⟨b, q⟩ | q <;> rw [q] at e <;> cases e
theorem v_ne : V2 K (rNe2 K) vNe true false := by
  refine ⟨fun A H x y d1 d2 d Q hA r1 r2 e k => ?_, fun _ d1 d2 d e => ?_, fun d1 d2 c' d e => ?_⟩
  · unfold vNe vEqB at e
    split at e
    · cases e; cases r1; cases r2
      exact .inl ⟨rfl, by rw [dec_V (p := _ = _) ⟨fun z => V.int.inj z, fun z => by rw [z]⟩]; exact k _ H (L2.Same.refl H) (by rw [Bool.true_xor]; exact .bl _) fun z => nomatch z⟩
    · cases e; cases r1; cases r2
      exact .inl ⟨rfl, by rw [dec_V (p := _ = _) ⟨fun z => V.str.inj z, fun z => by rw [z]⟩]; exact k _ H (L2.Same.refl H) (by rw [Bool.true_xor]; exact .bl _) fun z => nomatch z⟩
    · cases e; cases r1; cases r2
      exact .inl ⟨rfl, by rw [dec_V (p := _ = _) ⟨fun z => V.bl.inj z, fun z => by rw [z]⟩]; exact k _ H (L2.Same.refl H) (by rw [Bool.true_xor]; exact .bl _) fun z => nomatch z⟩
    · by_cases h : okEq d1 d2 = true
      · rw [if_pos h] at e
        cases e
        obtain ⟨h1, h2⟩ := Bool.and_eq_true_iff.mp h
        exact .inr ⟨d1, d2, r1.dp, r2.dp, h1, h2, k _ H (L2.Same.refl H) (by rw [Bool.true_xor]; exact .bl _) fun z => nomatch z⟩
      · rw [if_neg h] at e; cases e
  · rcases vEqB_bool (neg := true) (d1 := d1) (d2 := d2) with ⟨b, q⟩ | q
    · have e : vEqB true d1 d2 = .ok d := e
      rw [q] at e; cases e; rfl
    · have e : vEqB true d1 d2 = .ok d := e
      rw [q] at e; cases e
  · have e : vEqB true d1 d2 = .exc c' d := e
    rcases vEqB_bool (neg := true) (d1 := d1) (d2 := d2) with ⟨b, q⟩ | q <;> rw [q] at e <;> cases e
end
end Mi

set_option Elab.async false
set_option linter.all false
set_option maxRecDepth 100000
set_option maxHeartbeats 4000000
/-! Mi8: + of all kinds, in, is, subscripts, slices. -/
namespace Mi
open PySem PySem.Spec PyProof.Rows L2
section
variable {K : PySem.W.Frag}
theorem fresh_new {A : Addr → Prop} {H : Hp} {p : Addr} {ds : List D} {vs : List V} (n : H p = none) (r : RpL K No H ds vs) : Fresh K H (upd H p (.lst vs)) (.list ds) (.ref p) :=
  ⟨p, rfl, n, fun xs e => by cases e; exact ⟨vs, upd_same, r.same (same_new n)⟩⟩
theorem RpL.no {A : Addr → Prop} {H : Hp} {ds : List D} {vs : List V} (r : RpL K A H ds vs) : RpL K No H ds vs := r.sub fun _ z => z.elim
theorem Rp.no {A : Addr → Prop} {H : Hp} {d : D} {v : V} (r : Rp K A H d v) : Rp K No H d v := r.sub fun _ z => z.elim
theorem rp_ls {A : Addr → Prop} {H : Hp} {ds : List D} {v : V} (r : Rp K A H (.list ds) v) : ∃ a vs, v = .ref a ∧ H a = some (.lst vs) ∧ RpL K A H ds vs := by
  cases r with
  | lst h _ r => exact ⟨_, _, rfl, h, r⟩
/-! ### + -/
def vAdd : D → D → Out D
  | .int i, .int j => .ok (.int (i + j))
  | .str x, .str y => if x.length + y.length ≤ maxSz then .ok (.str (x ++ y)) else .bad
  | .tuple xs, .tuple ys => if xs.isEmpty = false ∧ xs.length + ys.length ≤ maxSz then .ok (.tuple (xs ++ ys)) else .bad
  | .list xs, .list ys => if xs.length + ys.length ≤ maxSz then .ok (.list (xs ++ ys)) else .bad
  | _, _ => .bad
/-- of lists: new -/
def vAddL : D → D → Out D
  | .list xs, .list ys => if xs.length + ys.length ≤ maxSz then .ok (.list (xs ++ ys)) else .bad
  | _, _ => .bad
abbrev rAdd2 (K : PySem.W.Frag) : R2 := fun x y H Q => rI0 (fun i j => .int (i + j)) x y H Q ∨ ((∃ i j, x = .str i ∧ y = .str j ∧ i.length + j.length ≤ sizeLine ∧ Q (.str (i ++ j)) H) ∨ (rCatT K x y H Q ∨ rCat x y H Q))
theorem op_add2 {X : Cx} : OpR X (binaryOp .Add) (rAdd2 X.K) := op_add.or (op_add_str.or (op_catT.or op_cat))
theorem sz_le {n : Nat} (h : n ≤ maxSz) : n ≤ sizeLine := Nat.le_trans h maxSz_le
theorem cat_go {A : Addr → Prop} {H : Hp} {xs ys : List D} {x y : V} {f : Bool} {Q : VK} (hA : ∀ a, A a → H a ≠ none) (r1 : Rp K A H (.list xs) x) (r2 : Rp K A H (.list ys) y) (h : xs.length + ys.length ≤ maxSz) (k : ∀ v H', L2.Same H H' → Rp K A H' (.list (xs ++ ys)) v → (f = true → Fresh K H H' (.list (xs ++ ys)) v) → Q v H') : rCat x y H Q := by
  obtain ⟨a, vs, rfl, ha, l1⟩ := rp_ls r1
  obtain ⟨b, ws, rfl, hb, l2⟩ := rp_ls r2
  refine ⟨a, b, vs, ws, rfl, rfl, ha, hb, by rw [← l1.len, ← l2.len]; exact sz_le h, fun p n => k _ _ (same_new n) (rp_lstN n hA (l1.app l2)) fun _ => fresh_new (A := A) n (l1.app l2).no⟩
theorem v_addL : V2 K rCat vAddL false true := by
  refine ⟨fun A H x y d1 d2 d Q hA r1 r2 e k => ?_, fun q => (nomatch q), fun d1 d2 c' d e => ?_⟩
  · unfold vAddL at e
    split at e
    · split at e
      · rename_i h
        cases e
        exact cat_go (f := true) hA r1 r2 h k
      · cases e
    · cases e
  · unfold vAddL at e
    split at e
    · split at e <;> cases e
    · cases e
theorem v_add : V2 K (rAdd2 K) vAdd false false := by
  refine ⟨fun A H x y d1 d2 d Q hA r1 r2 e k => ?_, fun q => (nomatch q), fun d1 d2 c' d e => ?_⟩
  · unfold vAdd at e
    split at e
    · cases e; cases r1; cases r2
      exact .inl ⟨_, _, rfl, rfl, k _ H (L2.Same.refl H) (.int _) fun z => nomatch z⟩
    · split at e
      · rename_i h
        cases e; cases r1; cases r2
        exact .inr (.inl ⟨_, _, rfl, rfl, sz_le h, k _ H (L2.Same.refl H) (.str _) fun z => nomatch z⟩)
      · cases e
    · split at e
      · rename_i xs ys h
        cases e
        obtain ⟨a, vs, rfl, ha, l1⟩ := rp_tuple r1
        obtain ⟨b, ws, rfl, hb, l2⟩ := rp_tuple r2
        have hx : vs ≠ [] := fun z => by
          subst z
          cases l1
          exact absurd h.1 (by decide)
        refine .inr (.inr (.inl ⟨a, b, vs, ws, rfl, rfl, ha, hb, hx, by rw [← l1.len, ← l2.len]; exact sz_le h.2, fun z => ?_, fun z p n => k _ _ (same_new n) (rp_tupN n (l1.app l2)) fun z => nomatch z⟩))
        subst z
        cases l2
        rw [List.append_nil] at k
        exact k _ H (L2.Same.refl H) r1 fun z => nomatch z
      · cases e
    · split at e
      · rename_i h
        cases e
        exact .inr (.inr (.inr (cat_go (f := false) hA r1 r2 h k)))
      · cases e
    · cases e
  · unfold vAdd at e
    split at e
    · cases e
    · split at e <;> cases e
    · split at e <;> cases e
    · split at e <;> cases e
    · cases e
/-! ### x is None -/
def vIsN (neg : Bool) : D → D → Out D
  | .none, .none => .ok (.bool !neg)
  | _, .none => .ok (.bool neg)
  | _, _ => .bad
theorem vIsN_ok {neg : Bool} {d1 d2 d : D} (e : vIsN neg d1 d2 = .ok d) : d2 = .none ∧ ((d1 = .none ∧ d = .bool (!neg)) ∨ (d1 ≠ .none ∧ d = .bool neg)) := by
  unfold vIsN at e
  split at e
  · cases e; exact ⟨rfl, .inl ⟨rfl, rfl⟩⟩
  · rename_i h
    cases e
    exact ⟨rfl, .inr ⟨fun z => h z, rfl⟩⟩
  · cases e
theorem vIsN_exc {neg : Bool} {d1 d2 : D} {c : String} {d : D} : vIsN neg d1 d2 ≠ .exc c d := fun e => by
  unfold vIsN at e
  split at e <;> cases e
theorem rp_non1 {A : Addr → Prop} {H : Hp} {x : V} (r : Rp K A H .none x) : decide (x = .non) = true := by
  cases r; rfl
theorem rp_non2 {A : Addr → Prop} {H : Hp} {d : D} {x : V} (r : Rp K A H d x) (n : d ≠ .none) : decide (x = .non) = false := by
  cases r <;> first | exact absurd rfl n | exact decide_eq_false fun z => nomatch z
theorem v_isN : V2 K (fun x y H Q => y = .non ∧ Q (.bl (decide (x = .non))) H) (vIsN false) true false := by
  refine ⟨fun A H x y d1 d2 d Q hA r1 r2 e k => ?_, fun _ d1 d2 d e => ?_, fun d1 d2 c' d => vIsN_exc⟩
  · obtain ⟨rfl, q⟩ := vIsN_ok e
    cases r2
    rcases q with ⟨rfl, rfl⟩ | ⟨q, rfl⟩
    · exact ⟨rfl, k _ H (L2.Same.refl H) (by rw [rp_non1 r1]; exact .bl _) fun z => nomatch z⟩
    · exact ⟨rfl, k _ H (L2.Same.refl H) (by rw [rp_non2 r1 q]; exact .bl _) fun z => nomatch z⟩
  · obtain ⟨_, ⟨_, rfl⟩ | ⟨_, rfl⟩⟩ := vIsN_ok e <;> rfl
theorem v_notN : V2 K (fun x y H Q => y = .non ∧ Q (.bl (!decide (x = .non))) H) (vIsN true) true false := by
  refine ⟨fun A H x y d1 d2 d Q hA r1 r2 e k => ?_, fun _ d1 d2 d e => ?_, fun d1 d2 c' d => vIsN_exc⟩
  · obtain ⟨rfl, q⟩ := vIsN_ok e
    cases r2
    rcases q with ⟨rfl, rfl⟩ | ⟨q, rfl⟩
    · exact ⟨rfl, k _ H (L2.Same.refl H) (by rw [rp_non1 r1]; exact .bl _) fun z => nomatch z⟩
    · exact ⟨rfl, k _ H (L2.Same.refl H) (by rw [rp_non2 r1 q]; exact .bl _) fun z => nomatch z⟩
  · obtain ⟨_, ⟨_, rfl⟩ | ⟨_, rfl⟩⟩ := vIsN_ok e <;> rfl
/-! ### in -/
def flatD : D → Bool
  | .none => true
  | .bool _ => true
  | .int _ => true
  | .str _ => true
  | _ => false
def signIn (neg : Bool) (l : List Nat) (z : Str) : Out D := match l with
  | [c] => .ok (.bool (neg ^^ decide (c ∈ z.cps.toList)))
  | _ => .bad
def vInB (neg : Bool) (d e : D) : Out D := match e with
  | .str z => (match d with
    | .str x => signIn neg x.cps.toList z
    | _ => .bad)
  | .list ds => if flatD d = true ∧ ds.all flatD = true then .ok (.bool (neg ^^ ds.any fun z => PyData.eqv z d)) else if okEq d (.list ds) = true then .ok (.bool (neg ^^ ds.any fun z => PyData.eqv z d)) else .bad
  | .tuple ds => if flatD d = true ∧ ds.all flatD = true then .ok (.bool (neg ^^ ds.any fun z => PyData.eqv z d)) else .bad
  | _ => .bad
theorem flat_V {A : Addr → Prop} {H : Hp} {d : D} {v : V} (r : Rp K A H d v) (h : flatD d = true) : flatV v = true := by
  cases r <;> first | rfl | cases h
theorem eqv_V {A : Addr → Prop} {H : Hp} {d e : D} {v w : V} (r : Rp K A H d v) (r' : Rp K A H e w) (h : flatD d = true) (h' : flatD e = true) : eqV v w = PyData.eqv d e := by
  cases r with
  | lst _ _ _ => exact absurd h Bool.false_ne_true
  | tup _ _ => exact absurd h Bool.false_ne_true
  | _ => cases r' with
    | lst _ _ _ => exact absurd h' Bool.false_ne_true
    | tup _ _ => exact absurd h' Bool.false_ne_true
    | _ => simp only [eqV, PyData.eqv]
theorem in_V {A : Addr → Prop} {H : Hp} {d : D} {v : V} (r : Rp K A H d v) (h : flatD d = true) : ∀ {ds : List D} {vs : List V}, RpL K A H ds vs → ds.all flatD = true → vs.all flatV = true ∧ (vs.any fun y => eqV y v) = ds.any fun z => PyData.eqv z d
  | _, _, .nil, _ => ⟨rfl, rfl⟩
  | _ :: _, _, .cons q t, ha => by
    rw [List.all_cons] at ha
    obtain ⟨h1, h2⟩ := Bool.and_eq_true_iff.mp ha
    obtain ⟨e1, e2⟩ := in_V r h t h2
    rw [List.all_cons, List.any_cons, List.any_cons, e1, e2, flat_V q h1, eqv_V q r h1 h]
    exact ⟨rfl, rfl⟩
def vIn : D → D → Out D := vInB false
def vNotIn : D → D → Out D := vInB true
abbrev rIn2 (K : PySem.W.Frag) : R2 := fun x y H Q => rInS x y H Q ∨ (rIn K false x y H Q ∨ rInD K x y H Q)
abbrev rNotIn2 (K : PySem.W.Frag) : R2 := fun x y H Q => rNotInS x y H Q ∨ (rIn K true x y H Q ∨ rNotInD K x y H Q)
theorem op_in2 {X : Cx} (hu : X.A.units + 65 < cLine) : OpR X (compareOp .In) (rIn2 X.K) := op_inS.or (op_in_seq.or (op_inD hu))
theorem op_notIn2 {X : Cx} (hu : X.A.units + 65 < cLine) : OpR X (compareOp .NotIn) (rNotIn2 X.K) := op_notInS.or (op_notIn_seq.or (op_notInD hu))
theorem signIn_ok {neg : Bool} {l : List Nat} {z : Str} {d : D} (e : signIn neg l z = .ok d) : ∃ c, l = [c] ∧ d = .bool (neg ^^ decide (c ∈ z.cps.toList)) := by
  unfold signIn at e
  split at e
  · cases e; exact ⟨_, rfl, rfl⟩
  · cases e
theorem one_sign {x : Str} {c : Nat} (h : x.cps.toList = [c]) : x = ⟨#[c]⟩ := by
  obtain ⟨a⟩ := x
  have : a = #[c] := Array.toList_inj.mp h
  rw [this]
theorem vInB_go {neg : Bool} {A : Addr → Prop} {H : Hp} {x y : V} {d1 d2 d : D} {P : Prop} (r1 : Rp K A H d1 x) (r2 : Rp K A H d2 y) (e : vInB neg d1 d2 = .ok d)
    (h1 : ∀ c z, x = .str ⟨#[c]⟩ → y = .str z → d = .bool (neg ^^ decide (c ∈ z.cps.toList)) → P)
    (h2 : ∀ p xs, y = .ref p → (SqL K H p xs ∨ SqT K H p xs) → flatV x = true → xs.all flatV = true → d = .bool (neg ^^ inV x xs) → P)
    (h3 : ∀ ds : List D, Dp K H x d1 → Dp K H y (.list ds) → SeqAt.shaped d1 = true → SeqAt.shaped (.list ds) = true → d = .bool (neg ^^ ds.any fun z => PyData.eqv z d1) → P) : P := by
  unfold vInB at e
  cases d2 with
  | str z =>
    cases d1 with
    | str x =>
      obtain ⟨c, ec, ed⟩ := signIn_ok e
      cases r1; cases r2
      exact h1 c z (by rw [one_sign ec]) rfl ed
    | _ => cases e
  | list ds =>
    dsimp only at e
    by_cases hf : flatD d1 = true ∧ ds.all flatD = true
    · rw [if_pos hf] at e
      cases e
      obtain ⟨a, vs, rfl, ha, l⟩ := rp_list r2
      obtain ⟨f1, f2⟩ := in_V r1 hf.1 l hf.2
      exact h2 a vs rfl (.inl ha) (flat_V r1 hf.1) f1 (by unfold inV; rw [f2])
    · rw [if_neg hf] at e
      by_cases ho : okEq d1 (.list ds) = true
      · rw [if_pos ho] at e
        cases e
        obtain ⟨o1, o2⟩ := Bool.and_eq_true_iff.mp ho
        exact h3 ds r1.dp r2.dp o1 o2 rfl
      · rw [if_neg ho] at e; cases e
  | tuple ds =>
    dsimp only at e
    by_cases hf : flatD d1 = true ∧ ds.all flatD = true
    · rw [if_pos hf] at e
      cases e
      obtain ⟨a, vs, rfl, ha, l⟩ := rp_tuple r2
      obtain ⟨f1, f2⟩ := in_V r1 hf.1 l hf.2
      exact h2 a vs rfl (.inr ha) (flat_V r1 hf.1) f1 (by unfold inV; rw [f2])
    · rw [if_neg hf] at e; cases e
  | _ => cases e
theorem vInB_bool {neg : Bool} {d1 d2 : D} : (∃ b, vInB neg d1 d2 = .ok (.bool b)) ∨ vInB neg d1 d2 = .bad := by
  unfold vInB
  cases d2 with
  | str z =>
    cases d1 with
    | str x =>
      dsimp only
      unfold signIn
      split
      · exact .inl ⟨_, rfl⟩
      · exact .inr rfl
    | _ => exact .inr rfl
  | list ds =>
    dsimp only
    split
    · exact .inl ⟨_, rfl⟩
    · split
      · exact .inl ⟨_, rfl⟩
      · exact .inr rfl
  | tuple ds =>
    dsimp only
    split
    · exact .inl ⟨_, rfl⟩
    · exact .inr rfl
  | _ => exact .inr rfl
theorem vInB_sc {neg : Bool} {d1 d2 d : D} (e : vInB neg d1 d2 = .ok d) : noL d = true := by
  rcases vInB_bool (neg := neg) (d1 := d1) (d2 := d2) with ⟨b, q⟩ | q <;> rw [q] at e <;> cases e
  rfl
theorem vInB_ne {neg : Bool} {d1 d2 d : D} {c : String} (e : vInB neg d1 d2 = .exc c d) : False := by
  rcases vInB_bool (neg := neg) (d1 := d1) (d2 := d2) with ⟨b, q⟩ | q <;> rw [q] at e <;> cases e
theorem v_in : V2 K (rIn2 K) vIn true false := by
  refine ⟨fun A H x y d1 d2 d Q hA r1 r2 e k => ?_, fun _ d1 d2 d e => vInB_sc (neg := false) e, fun d1 d2 c' d e => vInB_ne (neg := false) e⟩
  have fin : ∀ b, d = .bool (false ^^ b) → Q (.bl b) H := fun b eb => k _ H (L2.Same.refl H) (by rw [eb, Bool.false_xor]; exact .bl _) fun z => nomatch z
  exact vInB_go (neg := false) r1 r2 e (fun c z e1 e2 e3 => .inl ⟨c, z, e1, e2, fin _ e3⟩) (fun p xs e1 e2 e3 e4 e5 => .inr (.inl ⟨p, xs, e1, e2, e3, e4, fin _ e5⟩)) fun ds e1 e2 e3 e4 e5 => .inr (.inr ⟨d1, ds, e1, e2, e3, e4, fin _ e5⟩)
theorem v_notIn : V2 K (rNotIn2 K) vNotIn true false := by
  refine ⟨fun A H x y d1 d2 d Q hA r1 r2 e k => ?_, fun _ d1 d2 d e => vInB_sc (neg := true) e, fun d1 d2 c' d e => vInB_ne (neg := true) e⟩
  have fin : ∀ b, d = .bool (true ^^ b) → Q (.bl (!b)) H := fun b eb => k _ H (L2.Same.refl H) (by rw [eb, Bool.true_xor]; exact .bl _) fun z => nomatch z
  exact vInB_go (neg := true) r1 r2 e (fun c z e1 e2 e3 => .inl ⟨c, z, e1, e2, fin _ e3⟩) (fun p xs e1 e2 e3 e4 e5 => .inr (.inl ⟨p, xs, e1, e2, e3, e4, fin _ e5⟩)) fun ds e1 e2 e3 e4 e5 => .inr (.inr ⟨d1, ds, e1, e2, e3, e4, fin _ e5⟩)
/-! ### xs[i] -/
def atD (xs : List D) (i : Int) : Out D := oOut (atI xs i)
def vIx : D → D → Out D
  | .list xs, .int i => oOut (atI xs i)
  | .tuple xs, .int i => oOut (atI xs i)
  | .str z, .int i => if z.length ≤ maxSz then (oOut (atI z.cps.toList i)).bind fun c => .ok (.str ⟨#[c]⟩) else .bad
  | _, _ => .bad
theorem atI_rp {A : Addr → Prop} {H : Hp} {ds : List D} {vs : List V} {i : Int} {d : D} (r : RpL K A H ds vs) (e : atI ds i = some d) : ∃ v, atI vs i = some v ∧ Rp K A H d v := by
  unfold atI at e ⊢
  rw [← r.len]
  cases q : ixN ds.length i with
  | none => rw [q] at e; cases e
  | some j =>
    rw [q] at e
    exact r.at_ e
theorem oOut_ok {α : Type} {o : Option α} {a : α} (e : oOut o = .ok a) : o = some a := by
  cases o with
  | none => cases e
  | some b => cases e; rfl
theorem oOut_exc {α : Type} {o : Option α} {c : String} {d : D} (e : oOut o = .exc c d) : False := by
  cases o <;> cases e
theorem v_ix : V2 K (rIx K) vIx false false := by
  refine ⟨fun A H x y d1 d2 d Q hA r1 r2 e k => ?_, fun q => (nomatch q), fun d1 d2 c' d e => ?_⟩
  · unfold vIx at e
    split at e
    · obtain ⟨a, vs, rfl, ha, l⟩ := rp_list r1
      cases r2
      obtain ⟨v, ev, rv⟩ := atI_rp l (oOut_ok e)
      exact .inl ⟨a, vs, _, v, rfl, rfl, ha, ev, k v H (L2.Same.refl H) rv fun z => nomatch z⟩
    · obtain ⟨a, vs, rfl, ha, l⟩ := rp_tuple r1
      cases r2
      obtain ⟨v, ev, rv⟩ := atI_rp l (oOut_ok e)
      exact .inr (.inl ⟨a, vs, _, v, rfl, rfl, ha, ev, k v H (L2.Same.refl H) rv fun z => nomatch z⟩)
    · rename_i z i
      split at e
      · rename_i hz
        cases q : atI z.cps.toList i with
        | none => rw [q] at e; cases e
        | some c =>
          rw [q] at e
          cases e; cases r1; cases r2
          exact .inr (.inr ⟨z, i, c, rfl, rfl, sz_le hz, q, k _ H (L2.Same.refl H) (.str _) fun z => nomatch z⟩)
      · cases e
    · cases e
  · unfold vIx at e
    split at e
    · exact oOut_exc e
    · exact oOut_exc e
    · split at e
      · rename_i z i _
        cases q : atI z.cps.toList i <;> rw [q] at e <;> cases e
      · cases e
    · cases e
end
end Mi

set_option Elab.async false
set_option linter.all false
set_option maxRecDepth 100000
set_option maxHeartbeats 4000000
/-! Mi9: calls of built-ins on data, slices, methods of texts. -/
namespace Mi
open PySem PySem.Spec PyProof.Rows L2
section
variable {K : PySem.W.Frag}
/-! ### one value -/
def v1L (g : D → Out D) : List D → Out D
  | [d] => g d
  | _ => .bad
theorem vn_of1 {r : List V → Hp → VK → Prop} {g : D → Out D} {s f : Bool} (go : ∀ (A : Addr → Prop) (H : Hp) (x : V) (d1 d : D) (Q : VK), (∀ a, A a → H a ≠ none) → Rp K A H d1 x → g d1 = .ok d → (∀ v H', L2.Same H H' → Rp K A H' d v → (f = true → Fresh K H H' d v) → Q v H') → r [x] H Q)
    (sc : s = true → ∀ d1 d, g d1 = .ok d → noL d = true) (ne : ∀ d1 c d, g d1 ≠ .exc c d) : VN K r (v1L g) s f := by
  have key : ∀ {ds d}, v1L g ds = .ok d → ∃ d1, ds = [d1] ∧ g d1 = .ok d := fun {ds d} e => by
    unfold v1L at e
    split at e
    · exact ⟨_, rfl, e⟩
    · cases e
  refine ⟨fun A H xs ds d Q hA rl e k => ?_, fun q ds d e => ?_, fun ds c d e => ?_⟩
  · obtain ⟨d1, rfl, e⟩ := key e
    cases rl with
    | cons r1 t => cases t; exact go A H _ d1 d Q hA r1 e k
  · obtain ⟨d1, rfl, e⟩ := key e
    exact sc q d1 d e
  · unfold v1L at e
    split at e
    · exact ne _ _ _ e
    · cases e
def vLen : D → Out D
  | .str x => if x.length ≤ maxSz then .ok (.int x.length) else .bad
  | .list xs => .ok (.int xs.length)
  | .tuple xs => .ok (.int xs.length)
  | _ => .bad
abbrev rLen2 (K : PySem.W.Frag) : List V → Hp → VK → Prop := fun xs H Q => ∃ x n, xs = [x] ∧ LenV K x H n ∧ Q (.int n) H
theorem v_len : VN K (rLen2 K) (v1L vLen) true false := vn_of1 (fun A H x d1 d Q hA r1 e k => by
    unfold vLen at e
    split at e
    · split at e
      · rename_i z hz
        cases e; cases r1
        exact ⟨_, _, rfl, ⟨sz_le hz, rfl⟩, k _ H (L2.Same.refl H) (.int _) fun z => nomatch z⟩
      · cases e
    · cases e
      obtain ⟨a, vs, rfl, ha, l⟩ := rp_list r1
      exact ⟨_, _, rfl, .inl ⟨vs, ha, rfl⟩, k _ H (L2.Same.refl H) (by rw [l.len]; exact .int _) fun z => nomatch z⟩
    · cases e
      obtain ⟨a, vs, rfl, ha, l⟩ := rp_tuple r1
      exact ⟨_, _, rfl, .inr ⟨vs, ha, rfl⟩, k _ H (L2.Same.refl H) (by rw [l.len]; exact .int _) fun z => nomatch z⟩
    · cases e) (fun _ d1 d e => by
    unfold vLen at e
    split at e
    · split at e <;> cases e; rfl
    · cases e; rfl
    · cases e; rfl
    · cases e) fun d1 c d e => by
    unfold vLen at e
    split at e
    · split at e <;> cases e
    · cases e
    · cases e
    · cases e
abbrev rInt2 : List V → Hp → VK → Prop := fun xs H Q => (∃ i, xs = [.int i] ∧ Q (.int i) H) ∨ ∃ k, xs = [.bl k] ∧ Q (.int (if k then 1 else 0)) H
abbrev rTuple2 (K : PySem.W.Frag) : List V → Hp → VK → Prop := fun xs H Q => ∃ p ys, xs = [.ref p] ∧ ((SqL K H p ys ∧ ∀ l, H l = none → Q (.ref l) (upd H l (.tup ys))) ∨ (SqT K H p ys ∧ Q (.ref p) H))
abbrev rList2 (K : PySem.W.Frag) : List V → Hp → VK → Prop := fun xs H Q => ∃ p ys, xs = [.ref p] ∧ (SqL K H p ys ∨ SqT K H p ys) ∧ ∀ l, H l = none → Q (.ref l) (upd H l (.lst ys))
def vInt : D → Out D
  | .int i => .ok (.int i)
  | .bool k => .ok (.int (if k then 1 else 0))
  | _ => .bad
theorem v_int : VN K (fun xs H Q => (∃ i, xs = [.int i] ∧ Q (.int i) H) ∨ ∃ k, xs = [.bl k] ∧ Q (.int (if k then 1 else 0)) H) (v1L vInt) true false := vn_of1 (fun A H x d1 d Q hA r1 e k => by
    unfold vInt at e
    split at e
    · cases e; cases r1
      exact .inl ⟨_, rfl, k _ H (L2.Same.refl H) (.int _) fun z => nomatch z⟩
    · cases e; cases r1
      exact .inr ⟨_, rfl, k _ H (L2.Same.refl H) (.int _) fun z => nomatch z⟩
    · cases e) (fun _ d1 d e => by
    unfold vInt at e
    split at e <;> cases e <;> rfl) fun d1 c d e => by
    unfold vInt at e
    split at e <;> cases e
def vTuple : D → Out D
  | .list xs => .ok (.tuple xs)
  | .tuple xs => .ok (.tuple xs)
  | _ => .bad
theorem v_tuple : VN K (fun xs H Q => ∃ p ys, xs = [.ref p] ∧ ((SqL K H p ys ∧ ∀ l, H l = none → Q (.ref l) (upd H l (.tup ys))) ∨ (SqT K H p ys ∧ Q (.ref p) H))) (v1L vTuple) false false := vn_of1 (fun A H x d1 d Q hA r1 e k => by
    unfold vTuple at e
    split at e
    · cases e
      obtain ⟨a, vs, rfl, ha, l⟩ := rp_list r1
      exact ⟨a, vs, rfl, .inl ⟨ha, fun p n => k _ _ (same_new n) (rp_tupN n l) fun z => nomatch z⟩⟩
    · cases e
      obtain ⟨a, vs, rfl, ha, l⟩ := rp_tuple r1
      exact ⟨a, vs, rfl, .inr ⟨ha, k _ H (L2.Same.refl H) r1 fun z => nomatch z⟩⟩
    · cases e) (fun q => nomatch q) fun d1 c d e => by
    unfold vTuple at e
    split at e <;> cases e
def vList : D → Out D
  | .list xs => .ok (.list xs)
  | .tuple xs => .ok (.list xs)
  | _ => .bad
theorem v_list : VN K (fun xs H Q => ∃ p ys, xs = [.ref p] ∧ (SqL K H p ys ∨ SqT K H p ys) ∧ ∀ l, H l = none → Q (.ref l) (upd H l (.lst ys))) (v1L vList) false true := vn_of1 (fun A H x d1 d Q hA r1 e k => by
    unfold vList at e
    split at e
    · cases e
      obtain ⟨a, vs, rfl, ha, l⟩ := rp_list r1
      exact ⟨a, vs, rfl, .inl ha, fun p n => k _ _ (same_new n) (rp_lstN n hA l) fun _ => fresh_new (A := A) n l.no⟩
    · cases e
      obtain ⟨a, vs, rfl, ha, l⟩ := rp_tuple r1
      exact ⟨a, vs, rfl, .inr ha, fun p n => k _ _ (same_new n) (rp_lstN n hA l) fun _ => fresh_new (A := A) n l.no⟩
    · cases e) (fun q => nomatch q) fun d1 c d e => by
    unfold vList at e
    split at e <;> cases e
/-! ### all, any -/
def boolsOf : List D → Option (List Bool)
  | [] => some []
  | .bool i :: r => (boolsOf r).map (i :: ·)
  | _ => none
theorem boolsOf_eq : ∀ {ds : List D} {ns : List Bool}, boolsOf ds = some ns → ds = ns.map PyData.bool
  | [], ns, e => by cases e; rfl
  | .bool i :: r, ns, e => by
    unfold boolsOf at e
    obtain ⟨ms, e1, e2⟩ := Option.map_eq_some_iff.mp e
    subst e2
    rw [boolsOf_eq e1]
    rfl
  | .none :: _, _, e => by cases e
  | .int _ :: _, _, e => by cases e
  | .str _ :: _, _, e => by cases e
  | .list _ :: _, _, e => by cases e
  | .tuple _ :: _, _, e => by cases e
  | .dict _ :: _, _, e => by cases e
theorem boolsOf_map : ∀ ns : List Bool, boolsOf (ns.map PyData.bool) = some ns
  | [] => rfl
  | n :: r => by
    show ((boolsOf (r.map PyData.bool)).map (n :: ·)) = _
    rw [boolsOf_map r]
    rfl
theorem rpl_bools {O : Addr → Prop} {H : Hp} : ∀ {ns : List Bool} {vs : List V}, RpL K O H (ns.map PyData.bool) vs → vs = ns.map V.bl
  | [], _, .nil => rfl
  | _ :: r, _, .cons (.bl _) t => by rw [rpl_bools t]; rfl
def vAgg (g : List Bool → Bool) : D → Out D
  | .list xs => (oOut (boolsOf xs)).bind fun bs => .ok (.bool (g bs))
  | _ => .bad
theorem v_agg {g : List Bool → Bool} : VN K (fun vs H Q => ∃ (a : Addr) (bs : List Bool), vs = [V.ref a] ∧ SqL K H a (bs.map V.bl) ∧ Q (.bl (g bs)) H) (v1L (vAgg g)) true false := by
  have key : ∀ {d1 d}, vAgg g d1 = .ok d → ∃ bs : List Bool, d1 = .list (bs.map PyData.bool) ∧ d = .bool (g bs) := fun {d1 d} e => by
    unfold vAgg at e
    split at e
    · rename_i xs
      cases q : boolsOf xs with
      | none => rw [q] at e; cases e
      | some bs => rw [q] at e; cases e; exact ⟨bs, by rw [boolsOf_eq q], rfl⟩
    · cases e
  refine vn_of1 (fun A H x d1 d Q hA r1 e k => ?_) (fun _ d1 d e => ?_) fun d1 c d e => ?_
  · obtain ⟨bs, rfl, rfl⟩ := key e
    obtain ⟨a, vs, rfl, ha, l⟩ := rp_list r1
    rw [rpl_bools l] at ha
    exact ⟨a, bs, rfl, ha, k _ H (L2.Same.refl H) (.bl _) fun z => nomatch z⟩
  · obtain ⟨bs, rfl, rfl⟩ := key e
    rfl
  · unfold vAgg at e
    split at e
    · rename_i xs
      cases q : boolsOf xs <;> rw [q] at e <;> cases e
    · cases e
def vAll : D → Out D := vAgg fun bs => bs.all id
def vAny : D → Out D := vAgg fun bs => bs.any id
theorem v_all : VN K (rAll K) (v1L vAll) true false := v_agg
theorem v_any : VN K (rAny K) (v1L vAny) true false := v_agg
/-! ### repr -/
def okRepr (d : D) : Bool := d.showable && (!d.hasDict && (decide (d.depth ≤ 60) && decide (d.shown.length ≤ sizeLine)))
def vRepr (d : D) : Out D := if okRepr d = true then .ok (.str d.shown) else .bad
def rRepr (K : PySem.W.Frag) : List V → Hp → VK → Prop := fun xs H Q => ∃ x d, xs = [x] ∧ Dp K H x d ∧ okRepr d = true ∧ Q (.str d.shown) H
theorem okRepr_of {d : D} (h : okRepr d = true) : d.showable = true ∧ d.hasDict = false ∧ d.depth ≤ 60 ∧ d.shown.length ≤ sizeLine := by
  unfold okRepr at h
  simp only [Bool.and_eq_true, Bool.not_eq_true', decide_eq_true_eq] at h
  exact h
theorem call_repr {X : Cx} (hu : X.A.units + 64 < cLine) (hg : X.A.guards = some []) : CallR X (.builtin "repr") (rRepr X.K) := by
  intro pins s σ H xs us Q I r h
  obtain ⟨x, d, rfl, hd, hk, q⟩ := h
  obtain ⟨h1, h2, h3, h4⟩ := okRepr_of hk
  obtain ⟨u, rfl, rx⟩ := vals1 r
  obtain ⟨as, rd⟩ := Dp.reads I d x u hd rx
  have fin : ∀ (h' : Heap) (tk t : Nat), (∀ b o, s.heap.get? b = some o → h'.get? b = some o) → EP X pins σ Q (.str d.shown t) { s with heap := h', toks := tk } := fun h' tk t kp => ⟨.str _, H, I.kept (t' := tk) kp, ⟨t, rfl⟩, q⟩
  cases rd with
  | none => exact PySem.P.repr_of_none (fin _ _ _ fun _ _ e => e)
  | bool b => exact PySem.P.repr_of_bool (fin _ _ _ fun _ _ e => e)
  | int i t => exact PySem.P.repr_of_int (by simpa [PyData.showable] using h1) (fin _ _ _ fun _ _ e => e)
  | str y t => exact PySem.P.repr_of_str (fin _ _ _ fun _ _ e => e)
  | list a1 a2 a3 a4 => exact repr_of_reads' (.list a1 a2 a3 a4) h1 (PyData.noDict_hsm h2) hg (by omega) (fun _ _ e => e) (fun h' u tk kp => fin _ _ _ kp) h4
  | tuple a1 a2 a3 a4 => exact repr_of_reads' (.tuple a1 a2 a3 a4) h1 (PyData.noDict_hsm h2) hg (by omega) (fun _ _ e => e) (fun h' u tk kp => fin _ _ _ kp) h4
  | dict _ _ _ _ _ => simp [PyData.hasDict] at h2
theorem v_repr : VN K (rRepr K) (v1L vRepr) true false := vn_of1 (fun A H x d1 d Q hA r1 e k => by
    unfold vRepr at e
    split at e
    · rename_i h
      cases e
      exact ⟨x, d1, rfl, r1.dp, h, k _ H (L2.Same.refl H) (.str _) fun z => nomatch z⟩
    · cases e) (fun _ d1 d e => by
    unfold vRepr at e
    split at e <;> cases e
    rfl) fun d1 c d e => by
    unfold vRepr at e
    split at e <;> cases e
end
end Mi

set_option Elab.async false
set_option linter.all false
set_option maxRecDepth 100000
set_option maxHeartbeats 4000000
/-! Mi10: the text's operators, calls of built-ins, subscripts, slices, methods. -/
namespace Mi
open PySem PySem.Spec PyProof.Rows L2
theorem ME.castK {X : Cx} {F : Fr} {W : WX} {e : Expr} {t : PySem.W.Frag → TE} {m : EM} {ef : Ef} (h : ME X F W e (t X.K) m ef) : ME X F W e (t F.K) m ef := by
  have q := h
  rw [h.k] at q
  exact q
theorem MT.castK {X : Cx} {F : Fr} {W : WX} {e : Expr} {t : PySem.W.Frag → TT} {m : TM} {p : Bool} (h : MT X F W e (t X.K) m p) : MT X F W e (t F.K) m p := by
  have q := h
  rw [h.k] at q
  exact q
/-! ### arguments, a built-in -/
def eN (g : List D → Out D) (a : LM) : EM := fun ρ => (a ρ).bind fun x => (g x.1).bind fun z => .ok (z, x.2)
section
variable {X : Cx} {F : Fr} {W : WX}
theorem co_N {ta : TA} {a : LM} {b p : Bool} {r : List V → Hp → VK → Prop} {g : List D → Out D} {s f : Bool} (ha : CoA F W ta a b p) (hr : VN F.K r g s f) : CoE F W (tCB r ta) (eN g a) ⟨b && !s, p, f⟩ := ⟨fun G O M ρ σ H Q S h => by
  unfold eN at h
  refine ha.go G O M ρ σ H _ S ?_
  cases e : a ρ with
  | bad => rw [e] at h; exact h
  | exc c d => rw [e] at h; exact h
  | ok x =>
    obtain ⟨x, ρ1⟩ := x
    rw [e] at h
    intro H1 S1 m1 x1 vs r1
    have h : Post F W G O M ρ σ H p ((g x).bind fun z => .ok (z, ρ1)) _ := h
    cases e3 : g x with
    | bad => rw [e3] at h; exact h.elim
    | exc c d => exact absurd e3 (hr.ne _ _ _)
    | ok z =>
      rw [e3] at h
      refine hr.go (Av F O b) H1 vs x z Q (S1.avdom _) r1 e3 fun w H3 sm r3 f3 => ?_
      exact h H3 (S1.same sm) m1 (x1.trans (Hx.of_same sm)) w (Av.sc r3 fun z => hr.sc z _ _ e3) fun z => (f3 z).back x1⟩
theorem me_B {id : String} {x : Str} {p pos : Pos} {e : Expr} {es : List Expr} {r : List V → Hp → VK → Prop} {g : List D → Out D} {s f : Bool} {t : TA} {a : LM} {b pp : Bool} (hc : CallR X (.builtin id) r) (hr : VN X.K r g s f) (hm : X.mg x = none) (hv : bootBuiltins x = some (.builtin id)) (ha : MA X F W (e :: es) t a b pp) (hg : Gl X x := by rfl) (hn : x ≠ "__name__" := by decide) (hdb : (x == ("__debug__" : Str)) = false := by decide)
    (he : starEach (e :: es) X.env = (false, eval e X.env) :: starEach es X.env := by rfl) (hpl : (backTo pos (starEach es X.env)).any (·.1) = false := by rfl) : ME X F W (.Call (.Name x p) (e :: es) [] pos) (tCB r t) (eN g a) ⟨b && !s, pp, f⟩ :=
  ⟨ha.k, pe_callB hc hg hm hv ha.pe hn hdb he hpl, co_N ha.co (by rw [← ha.k]; exact hr)⟩
theorem me_T {T : String} {x : Str} {p pos : Pos} {e : Expr} {es : List Expr} {r : List V → Hp → VK → Prop} {g : List D → Out D} {s f : Bool} {t : TA} {a : LM} {b pp : Bool} (hc : CallR X (.type T) r) (hr : VN X.K r g s f) (hm : X.mg x = none) (hv : bootBuiltins x = some (.type T)) (ha : MA X F W (e :: es) t a b pp) (hg : Gl X x := by rfl) (hn : x ≠ "__name__" := by decide) (hdb : (x == ("__debug__" : Str)) = false := by decide)
    (he : starEach (e :: es) X.env = (false, eval e X.env) :: starEach es X.env := by rfl) (hpl : (backTo pos (starEach es X.env)).any (·.1) = false := by rfl) : ME X F W (.Call (.Name x p) (e :: es) [] pos) (tCB r t) (eN g a) ⟨b && !s, pp, f⟩ :=
  ⟨ha.k, pe_callTy hc hg hm hv ha.pe hn hdb he hpl, co_N ha.co (by rw [← ha.k]; exact hr)⟩
/-! ### the operators -/
variable {a b : Expr} {ta tb : TE} {ma mb : EM} {e1 e2 : Ef} {pos : Pos}
theorem me_add (ha : ME X F W a ta ma e1) (hb : ME X F W b tb mb e2) (hp : (!e1.b || e2.p) = true := by rfl) : ME X F W (.BinOp a .Add b pos) (tOp (rAdd2 F.K) ta tb) (eOp vAdd ma mb) ⟨(e1.b || e2.b) && !false, e1.p && e2.p, false⟩ := ME.castK (t := fun K => (tOp (rAdd2 K) ta tb)) (show ME X F W (.BinOp a .Add b pos) (tOp (rAdd2 X.K) ta tb) (eOp vAdd ma mb) ⟨(e1.b || e2.b) && !false, e1.p && e2.p, false⟩ from me_op op_add2 (by rw [ha.k]; exact v_add) ha hb hp)
theorem me_addL (ha : ME X F W a ta ma e1) (hb : ME X F W b tb mb e2) (hp : (!e1.b || e2.p) = true := by rfl) : ME X F W (.BinOp a .Add b pos) (tOp rCat ta tb) (eOp vAddL ma mb) ⟨(e1.b || e2.b) && !false, e1.p && e2.p, true⟩ := me_op op_cat v_addL ha hb hp
theorem me_sub (ha : ME X F W a ta ma e1) (hb : ME X F W b tb mb e2) (hp : (!e1.b || e2.p) = true := by rfl) : ME X F W (.BinOp a .Sub b pos) (tOp (rI0 fun i j => .int (i - j)) ta tb) (eOp vSub ma mb) ⟨(e1.b || e2.b) && !true, e1.p && e2.p, false⟩ := me_op op_sub v_sub ha hb hp
theorem me_mul (ha : ME X F W a ta ma e1) (hb : ME X F W b tb mb e2) (hp : (!e1.b || e2.p) = true := by rfl) : ME X F W (.BinOp a .Mult b pos) (tOp (rI CMulW fun i j => .int (i * j)) ta tb) (eOp vMul ma mb) ⟨(e1.b || e2.b) && !true, e1.p && e2.p, false⟩ := me_op op_mulW v_mul ha hb hp
theorem me_fdiv (ha : ME X F W a ta ma e1) (hb : ME X F W b tb mb e2) (hp : (!e1.b || e2.p) = true := by rfl) : ME X F W (.BinOp a .FloorDiv b pos) (tOp (rI CDivW fun i j => .int (i / j)) ta tb) (eOp vFdiv ma mb) ⟨(e1.b || e2.b) && !true, e1.p && e2.p, false⟩ := me_op op_fdivW v_fdiv ha hb hp
theorem me_mod (ha : ME X F W a ta ma e1) (hb : ME X F W b tb mb e2) (hp : (!e1.b || e2.p) = true := by rfl) : ME X F W (.BinOp a .Mod b pos) (tOp (rI (fun _ j => 0 < j) fun i j => .int (i % j)) ta tb) (eOp vMod ma mb) ⟨(e1.b || e2.b) && !true, e1.p && e2.p, false⟩ := me_op op_mod v_mod ha hb hp
theorem me_pow (ha : ME X F W a ta ma e1) (hb : ME X F W b tb mb e2) (hp : (!e1.b || e2.p) = true := by rfl) : ME X F W (.BinOp a .Pow b pos) (tOp (rI CPow fun i j => .int (i ^ j.toNat)) ta tb) (eOp vPow ma mb) ⟨(e1.b || e2.b) && !true, e1.p && e2.p, false⟩ := me_op op_pow v_pow ha hb hp
theorem me_neg (ha : ME X F W a ta ma e1) : ME X F W (.UnaryOp .USub a pos) (tUn (rU fun i => .int (-i)) ta) (eUn vNeg ma) ⟨e1.b && !true, e1.p, false⟩ := me_un un_neg v_neg ha
section
variable {S : Su} {k : Nat}
theorem me_lt (o : On S X F W k) (ha : ME X F W a ta ma e1) (hb : ME X F W b tb mb e2) (hp : (!e1.b || e2.p) = true := by rfl) : ME X F W (.Compare a [.Lt] [b] pos) (tOp (rLt2 F.K) ta tb) (eOp vLt ma mb) ⟨(e1.b || e2.b) && !true, e1.p && e2.p, false⟩ := ME.castK (t := fun K => (tOp (rLt2 K) ta tb)) (show ME X F W (.Compare a [.Lt] [b] pos) (tOp (rLt2 X.K) ta tb) (eOp vLt ma mb) ⟨(e1.b || e2.b) && !true, e1.p && e2.p, false⟩ from me_cmp (op_lt2 o.room.units0) (by rw [ha.k]; exact v_lt) ha hb (nomark _) hp)
theorem me_le (o : On S X F W k) (ha : ME X F W a ta ma e1) (hb : ME X F W b tb mb e2) (hp : (!e1.b || e2.p) = true := by rfl) : ME X F W (.Compare a [.LtE] [b] pos) (tOp (rI0 fun i j => .bl (decide (i ≤ j))) ta tb) (eOp vLe ma mb) ⟨(e1.b || e2.b) && !true, e1.p && e2.p, false⟩ := me_cmp op_le v_le ha hb (nomark _) hp
theorem me_gt (o : On S X F W k) (ha : ME X F W a ta ma e1) (hb : ME X F W b tb mb e2) (hp : (!e1.b || e2.p) = true := by rfl) : ME X F W (.Compare a [.Gt] [b] pos) (tOp (rI0 fun i j => .bl (decide (j < i))) ta tb) (eOp vGt ma mb) ⟨(e1.b || e2.b) && !true, e1.p && e2.p, false⟩ := me_cmp op_gt v_gt ha hb (nomark _) hp
theorem me_ge (o : On S X F W k) (ha : ME X F W a ta ma e1) (hb : ME X F W b tb mb e2) (hp : (!e1.b || e2.p) = true := by rfl) : ME X F W (.Compare a [.GtE] [b] pos) (tOp (rI0 fun i j => .bl (decide (j ≤ i))) ta tb) (eOp vGe ma mb) ⟨(e1.b || e2.b) && !true, e1.p && e2.p, false⟩ := me_cmp op_ge v_ge ha hb (nomark _) hp
theorem me_eq (o : On S X F W k) (ha : ME X F W a ta ma e1) (hb : ME X F W b tb mb e2) (hp : (!e1.b || e2.p) = true := by rfl) : ME X F W (.Compare a [.Eq] [b] pos) (tOp (rEq2 F.K) ta tb) (eOp vEq ma mb) ⟨(e1.b || e2.b) && !true, e1.p && e2.p, false⟩ := ME.castK (t := fun K => (tOp (rEq2 K) ta tb)) (show ME X F W (.Compare a [.Eq] [b] pos) (tOp (rEq2 X.K) ta tb) (eOp vEq ma mb) ⟨(e1.b || e2.b) && !true, e1.p && e2.p, false⟩ from me_cmp (op_eq2 o.room.units) (by rw [ha.k]; exact v_eq) ha hb (nomark _) hp)
theorem me_ne (o : On S X F W k) (ha : ME X F W a ta ma e1) (hb : ME X F W b tb mb e2) (hp : (!e1.b || e2.p) = true := by rfl) : ME X F W (.Compare a [.NotEq] [b] pos) (tOp (rNe2 F.K) ta tb) (eOp vNe ma mb) ⟨(e1.b || e2.b) && !true, e1.p && e2.p, false⟩ := ME.castK (t := fun K => (tOp (rNe2 K) ta tb)) (show ME X F W (.Compare a [.NotEq] [b] pos) (tOp (rNe2 X.K) ta tb) (eOp vNe ma mb) ⟨(e1.b || e2.b) && !true, e1.p && e2.p, false⟩ from me_cmp (op_ne2 o.room.units) (by rw [ha.k]; exact v_ne) ha hb (nomark _) hp)
theorem units65 (o : On S X F W k) : X.A.units + 65 < cLine := by have := o.room.un; omega
theorem me_in (o : On S X F W k) (ha : ME X F W a ta ma e1) (hb : ME X F W b tb mb e2) (hm : behindInMarks .In b = false := by rfl) (hp : (!e1.b || e2.p) = true := by rfl) : ME X F W (.Compare a [.In] [b] pos) (tOp (rIn2 F.K) ta tb) (eOp vIn ma mb) ⟨(e1.b || e2.b) && !true, e1.p && e2.p, false⟩ := ME.castK (t := fun K => (tOp (rIn2 K) ta tb)) (show ME X F W (.Compare a [.In] [b] pos) (tOp (rIn2 X.K) ta tb) (eOp vIn ma mb) ⟨(e1.b || e2.b) && !true, e1.p && e2.p, false⟩ from me_cmp (op_in2 (units65 o)) (by rw [ha.k]; exact v_in) ha hb hm hp)
theorem me_notIn (o : On S X F W k) (ha : ME X F W a ta ma e1) (hb : ME X F W b tb mb e2) (hm : behindInMarks .NotIn b = false := by rfl) (hp : (!e1.b || e2.p) = true := by rfl) : ME X F W (.Compare a [.NotIn] [b] pos) (tOp (rNotIn2 F.K) ta tb) (eOp vNotIn ma mb) ⟨(e1.b || e2.b) && !true, e1.p && e2.p, false⟩ := ME.castK (t := fun K => (tOp (rNotIn2 K) ta tb)) (show ME X F W (.Compare a [.NotIn] [b] pos) (tOp (rNotIn2 X.K) ta tb) (eOp vNotIn ma mb) ⟨(e1.b || e2.b) && !true, e1.p && e2.p, false⟩ from me_cmp (op_notIn2 (units65 o)) (by rw [ha.k]; exact v_notIn) ha hb hm hp)
theorem me_isN (o : On S X F W k) (ha : ME X F W a ta ma e1) (hb : ME X F W b tb mb e2) (hp : (!e1.b || e2.p) = true := by rfl) : ME X F W (.Compare a [.Is] [b] pos) (tOp (fun x y H Q => y = .non ∧ Q (.bl (decide (x = .non))) H) ta tb) (eOp (vIsN false) ma mb) ⟨(e1.b || e2.b) && !true, e1.p && e2.p, false⟩ := me_cmp op_isN v_isN ha hb (nomark _) hp
theorem me_notN (o : On S X F W k) (ha : ME X F W a ta ma e1) (hb : ME X F W b tb mb e2) (hp : (!e1.b || e2.p) = true := by rfl) : ME X F W (.Compare a [.IsNot] [b] pos) (tOp (fun x y H Q => y = .non ∧ Q (.bl (!decide (x = .non))) H) ta tb) (eOp (vIsN true) ma mb) ⟨(e1.b || e2.b) && !true, e1.p && e2.p, false⟩ := me_cmp op_notN v_notN ha hb (nomark _) hp
/-- a comparison as a test -/
theorem cmp_isTrue {op : CmpOp} (h : behindInMarks op b = false) : True := trivial
/-! ### built-ins -/
variable {e : Expr} {p pos : Pos} {t : TA} {am : LM} {bb pp : Bool}
theorem me_len (hm : X.mg "len" = none) (ha : MA X F W [e] t am bb pp) (hg : Gl X "len" := by rfl) (he : starEach [e] X.env = [(false, eval e X.env)] := by rfl) : ME X F W (.Call (.Name "len" p) [e] [] pos) (tCB (rLen2 F.K) t) (eN (v1L vLen) am) ⟨bb && !true, pp, false⟩ := ME.castK (t := fun K => (tCB (rLen2 K) t)) (show ME X F W (.Call (.Name "len" p) [e] [] pos) (tCB (rLen2 X.K) t) (eN (v1L vLen) am) ⟨bb && !true, pp, false⟩ from me_B call_len v_len hm boot_len ha hg (by decide) (by decide) he)
theorem me_intC (hm : X.mg "int" = none) (ha : MA X F W [e] t am bb pp) (hg : Gl X "int" := by rfl) (he : starEach [e] X.env = [(false, eval e X.env)] := by rfl) : ME X F W (.Call (.Name "int" p) [e] [] pos) (tCB rInt2 t) (eN (v1L vInt) am) ⟨bb && !true, pp, false⟩ := me_T call_int1 v_int hm (by decide +kernel) ha hg (by decide) (by decide) he
theorem me_tupleC (hm : X.mg "tuple" = none) (ha : MA X F W [e] t am bb pp) (hg : Gl X "tuple" := by rfl) (he : starEach [e] X.env = [(false, eval e X.env)] := by rfl) : ME X F W (.Call (.Name "tuple" p) [e] [] pos) (tCB (rTuple2 F.K) t) (eN (v1L vTuple) am) ⟨bb && !false, pp, false⟩ := ME.castK (t := fun K => (tCB (rTuple2 K) t)) (show ME X F W (.Call (.Name "tuple" p) [e] [] pos) (tCB (rTuple2 X.K) t) (eN (v1L vTuple) am) ⟨bb && !false, pp, false⟩ from me_T call_tuple_of v_tuple hm (by decide +kernel) ha hg (by decide) (by decide) he)
theorem me_listC (hm : X.mg "list" = none) (ha : MA X F W [e] t am bb pp) (hg : Gl X "list" := by rfl) (he : starEach [e] X.env = [(false, eval e X.env)] := by rfl) : ME X F W (.Call (.Name "list" p) [e] [] pos) (tCB (rList2 F.K) t) (eN (v1L vList) am) ⟨bb && !false, pp, true⟩ := ME.castK (t := fun K => (tCB (rList2 K) t)) (show ME X F W (.Call (.Name "list" p) [e] [] pos) (tCB (rList2 X.K) t) (eN (v1L vList) am) ⟨bb && !false, pp, true⟩ from me_T call_list_of v_list hm (by decide +kernel) ha hg (by decide) (by decide) he)
theorem me_all (hc : X.calm = true) (hm : X.mg "all" = none) (ha : MA X F W [e] t am bb pp) (hg : Gl X "all" := by rfl) (he : starEach [e] X.env = [(false, eval e X.env)] := by rfl) : ME X F W (.Call (.Name "all" p) [e] [] pos) (tCB (rAll F.K) t) (eN (v1L vAll) am) ⟨bb && !true, pp, false⟩ := ME.castK (t := fun K => (tCB (rAll K) t)) (show ME X F W (.Call (.Name "all" p) [e] [] pos) (tCB (rAll X.K) t) (eN (v1L vAll) am) ⟨bb && !true, pp, false⟩ from me_B (cr_all hc) v_all hm (by decide +kernel) ha hg (by decide) (by decide) he)
theorem me_any (hc : X.calm = true) (hm : X.mg "any" = none) (ha : MA X F W [e] t am bb pp) (hg : Gl X "any" := by rfl) (he : starEach [e] X.env = [(false, eval e X.env)] := by rfl) : ME X F W (.Call (.Name "any" p) [e] [] pos) (tCB (rAny F.K) t) (eN (v1L vAny) am) ⟨bb && !true, pp, false⟩ := ME.castK (t := fun K => (tCB (rAny K) t)) (show ME X F W (.Call (.Name "any" p) [e] [] pos) (tCB (rAny X.K) t) (eN (v1L vAny) am) ⟨bb && !true, pp, false⟩ from me_B (cr_any hc) v_any hm (by decide +kernel) ha hg (by decide) (by decide) he)
theorem me_repr (o : On S X F W k) (hm : X.mg "repr" = none) (ha : MA X F W [e] t am bb pp) (hg : Gl X "repr" := by rfl) (he : starEach [e] X.env = [(false, eval e X.env)] := by rfl) : ME X F W (.Call (.Name "repr" p) [e] [] pos) (tCB (rRepr F.K) t) (eN (v1L vRepr) am) ⟨bb && !true, pp, false⟩ := ME.castK (t := fun K => (tCB (rRepr K) t)) (show ME X F W (.Call (.Name "repr" p) [e] [] pos) (tCB (rRepr X.K) t) (eN (v1L vRepr) am) ⟨bb && !true, pp, false⟩ from me_B (call_repr o.room.units o.gd) v_repr hm (by decide +kernel) ha hg (by decide) (by decide) he)
/-! ### subscripts -/
theorem me_ix (ha : ME X F W a ta ma e1) (hb : ME X F W b tb mb e2) (hs : PlainIx b := by intro _ _; rfl) (hp : (!e1.b || e2.p) = true := by rfl) : ME X F W (.Subscript a b pos) (tOp (rIx F.K) ta tb) (eOp vIx ma mb) ⟨(e1.b || e2.b) && !false, e1.p && e2.p, false⟩ := ME.castK (t := fun K => (tOp (rIx K) ta tb)) (show ME X F W (.Subscript a b pos) (tOp (rIx X.K) ta tb) (eOp vIx ma mb) ⟨(e1.b || e2.b) && !false, e1.p && e2.p, false⟩ from ⟨ha.k, pe_ix ix_seq ha.pe hb.pe hs, co_op ha.co hb.co (by rw [ha.k]; exact v_ix) hp⟩)
/-- an item of a list that this def changes; any operation on such a list whose answer holds no list -/
def eSl2 (g : D → D → Out D) (i : Nat) (b : EM) : EM := fun ρ => if (getOb ρ i).isSome = true then (b ρ).bind fun y => match getOb y.2 i with
  | some (.lst xs) => (g (.list xs) y.1).bind fun z => if noL z = true then .ok (z, y.2) else .bad
  | _ => .bad
  else .bad
theorem co_sl2 {i : Nat} {r : R2} {g : D → D → Out D} {s f : Bool} (hb : CoE F W tb mb e2) (hr : V2 F.K r g s f) : CoE F W (tOp r (tVar i) tb) (eSl2 g i mb) ⟨false, e2.p, false⟩ := ⟨fun G O M ρ σ H Q S h => by
  unfold eSl2 at h
  by_cases h0 : (getOb ρ i).isSome = true
  case neg => rw [if_neg h0] at h; exact h.elim
  rw [if_pos h0] at h
  have post : ∀ v, (∀ a, σ[i]? = some (some (.ref a)) → v = .ref a) → tb σ H fun y H2 => r v y H2 Q := by
    intro v hv
    refine hb.go G O M ρ σ H _ S ?_
    cases e : mb ρ with
    | bad => rw [e] at h; exact h
    | exc c d => rw [e] at h; exact h
    | ok y =>
      obtain ⟨y, ρ1⟩ := y
      rw [e] at h
      intro H1 S1 m1 x1 u r1 _
      have h : Post F W G O M ρ σ H e2.p (match getOb ρ1 i with
        | some (.lst xs) => (g (.list xs) y).bind fun z => if noL z = true then .ok (z, ρ1) else .bad
        | _ => .bad) _ := h
      cases eo : getOb ρ1 i with
      | none => rw [eo] at h; exact h.elim
      | some ob =>
        rw [eo] at h
        cases ob with
        | lst xs =>
          obtain ⟨ad, u2, sv, q1, q2, q3, q4, q5, q6, q7⟩ := getOb_at S1 eo
          cases u2 with
          | lst vs =>
            have h : Post F W G O M ρ σ H e2.p ((g (.list xs) y).bind fun z => if noL z = true then .ok (z, ρ1) else .bad) _ := h
            cases e3 : g (.list xs) y with
            | bad => rw [e3] at h; exact h.elim
            | exc c d => exact absurd e3 (hr.ne _ _ _ _)
            | ok z =>
              rw [e3] at h
              have h : Post F W G O M ρ σ H e2.p (if noL z = true then .ok (z, ρ1) else .bad) _ := h
              by_cases hz : noL z = true
              · rw [if_pos hz] at h
                rw [hv ad q3]
                refine hr.go No H1 _ _ _ _ z Q (fun _ z => z.elim) (.lst q5 (fun z => z) q6.2) r1.no e3 fun w H3 sm r3 _ => ?_
                exact h H3 (S1.same sm) m1 (x1.trans (Hx.of_same sm)) w (r3.noL hz) fun z => nomatch z
              · rw [if_neg hz] at h; exact h.elim
          | _ => exact q6.elim
        | _ => exact h.elim
  obtain ⟨ob, eo⟩ := Option.isSome_iff_exists.mp h0
  obtain ⟨ad, _, _, _, _, q3, _⟩ := getOb_at S eo
  exact ⟨_, q3, post _ fun a ea => by rw [q3] at ea; exact Option.some.inj (Option.some.inj ea)⟩⟩
theorem me_ixS (i : Nat) {x : Str} {pv : Pos} (hb : ME X F W b tb mb e2) (hN : X.N[i]? = some x := by rfl) (hv : Vis X.env.scope x := by first | exact Or.inl rfl | exact Or.inr (Or.inl rfl) | exact Or.inr (Or.inr rfl)) (hd : (x == ("__debug__" : Str)) = false := by decide) (hcd : (x == ("__classdict__" : Str)) = false := by decide)
    (hs : PlainIx b := by intro _ _; rfl) : ME X F W (.Subscript (.Name x pv) b pos) (tOp (rIx F.K) (tVar i) tb) (eSl2 vIx i mb) ⟨false, e2.p, false⟩ := ME.castK (t := fun K => (tOp (rIx K) (tVar i) tb)) (show ME X F W (.Subscript (.Name x pv) b pos) (tOp (rIx X.K) (tVar i) tb) (eSl2 vIx i mb) ⟨false, e2.p, false⟩ from ⟨hb.k, pe_ix ix_seq (pe_var hN hv hd hcd) hb.pe hs, co_sl2 hb.co (by rw [hb.k]; exact v_ix)⟩)
end
end
end Mi

set_option Elab.async false
set_option linter.all false
set_option maxRecDepth 100000
set_option maxHeartbeats 4000000
/-! Mi11: globals, slices, methods of texts, isinstance, chains; lists that the def changes. -/
namespace Mi
open PySem PySem.Spec PyProof.Rows L2
section
variable {X : Cx} {F : Fr} {W : WX}
/-! ### constants of the module -/
theorem me_gc {x : Str} {v : V} {d : D} {pos : Pos} (hK : X.K = F.K) (h : ∃ u, X.mg x = some u ∧ RelV v u) (r : ∀ O H, Rp X.K O H d v) (hg : Gl X x := by rfl) (hd : (x == ("__debug__" : Str)) = false := by decide) : ME X F W (.Name x pos) (tC v) (eC d) ⟨false, true, false⟩ := by
  obtain ⟨u, hm, ru⟩ := h
  refine ⟨hK, pe_glob hg hm ru hd, ⟨fun G O M ρ σ H Q S h => h H S (Sim.refl ρ) (Hx.refl _ H) v (by rw [← hK]; exact r _ _) fun z => nomatch z⟩⟩
theorem me_gint {x : Str} {i : Int} {pos : Pos} (hK : X.K = F.K) (h : ∃ u, X.mg x = some u ∧ RelV (.int i) u) (hg : Gl X x := by rfl) (hd : (x == ("__debug__" : Str)) = false := by decide) : ME X F W (.Name x pos) (tC (.int i)) (eC (.int i)) ⟨false, true, false⟩ := me_gc hK h (fun _ _ => .int i) hg hd
theorem me_gstr {x : Str} {i : Str} {pos : Pos} (hK : X.K = F.K) (h : ∃ u, X.mg x = some u ∧ RelV (.str i) u) (hg : Gl X x := by rfl) (hd : (x == ("__debug__" : Str)) = false := by decide) : ME X F W (.Name x pos) (tC (.str i)) (eC (.str i)) ⟨false, true, false⟩ := me_gc hK h (fun _ _ => .str i) hg hd
/-! ### slices -/
abbrev PM := List Sv → Out (Option Int × List Sv)
structure CoO (F : Fr) (W : WX) (t : TO) (m : PM) (p : Bool) : Prop where
  go : ∀ G O M ρ σ H (Q : Option Int → Hp → Prop), SR F G O M ρ σ H → Post F W G O M ρ σ H p (m ρ) Q → t σ H Q
structure MO (X : Cx) (F : Fr) (W : WX) (e : Option Expr) (t : TO) (m : PM) (p : Bool) : Prop where
  pe : PO X e t
  co : CoO F W t m p
def oNone : PM := fun ρ => .ok (none, ρ)
def oSome (a : EM) : PM := fun ρ => (a ρ).bind fun x => match x.1 with
  | .int i => .ok (some i, x.2)
  | _ => .bad
theorem mo_none : MO X F W none tNoPart oNone true := ⟨po_none, ⟨fun G O M ρ σ H Q S h => h H S (Sim.refl ρ) (Hx.refl _ H)⟩⟩
theorem mo_some {a : Expr} {ta : TE} {ma : EM} {e : Ef} (h : ME X F W a ta ma e) : MO X F W (some a) (tPart ta) (oSome ma) e.p := ⟨po_some h.pe, ⟨fun G O M ρ σ H Q S q => by
  unfold oSome at q
  refine h.co.go G O M ρ σ H _ S ?_
  cases er : ma ρ with
  | bad => rw [er] at q; exact q
  | exc c d => rw [er] at q; exact q
  | ok x =>
    obtain ⟨x, ρ1⟩ := x
    rw [er] at q
    intro H1 S1 m1 x1 v r _
    cases x with
    | int i => cases r; exact ⟨i, rfl, q H1 S1 m1 x1⟩
    | _ => exact q.elim⟩⟩
def cutD (xs : List D) (lo hi : Option Int) : List D := (xs.drop (HT.sIx xs.length 0 lo)).take (HT.sIx xs.length xs.length hi - HT.sIx xs.length 0 lo)
def vSl : D → Option Int → Option Int → Out D
  | .str z, lo, hi => if z.length ≤ maxSz then .ok (.str (cutS z lo hi)) else .bad
  | .list xs, lo, hi => .ok (.list (cutD xs lo hi))
  | .tuple xs, lo, hi => if HT.sIx xs.length 0 lo = 0 ∧ HT.sIx xs.length xs.length hi = xs.length then .bad else .ok (.tuple (cutD xs lo hi))
  | _, _, _ => .bad
def vSlL : D → Option Int → Option Int → Out D
  | .list xs, lo, hi => .ok (.list (cutD xs lo hi))
  | _, _, _ => .bad
def eSl (g : D → Option Int → Option Int → Out D) (a : EM) (lo hi : PM) : EM := fun ρ => (a ρ).bind fun x => (lo x.2).bind fun l => (hi l.2).bind fun u => (g x.1 l.1 u.1).bind fun z => .ok (z, u.2)
abbrev RS := V → Option Int → Option Int → Hp → VK → Prop
structure VS (K : PySem.W.Frag) (r : RS) (g : D → Option Int → Option Int → Out D) (f : Bool) : Prop where
  go : ∀ (A : Addr → Prop) (H : Hp) (x : V) (lo hi : Option Int) (d1 d : D) (Q : VK), (∀ a, A a → H a ≠ none) → Rp K A H d1 x → g d1 lo hi = .ok d → (∀ v H', L2.Same H H' → Rp K A H' d v → (f = true → Fresh K H H' d v) → Q v H') → r x lo hi H Q
  ne : ∀ d1 lo hi c d, g d1 lo hi ≠ .exc c d
theorem co_sl {ta : TE} {ma : EM} {e : Ef} {tl th : TO} {ml mh : PM} {p1 p2 : Bool} {r : RS} {g : D → Option Int → Option Int → Out D} {f : Bool} (ha : CoE F W ta ma e) (hl : CoO F W tl ml p1) (hh : CoO F W th mh p2) (hr : VS F.K r g f) (hp : (!e.b || (p1 && p2)) = true) : CoE F W (tSl r ta tl th) (eSl g ma ml mh) ⟨e.b, e.p && (p1 && p2), f⟩ := ⟨fun G O M ρ σ H Q S h => by
  unfold eSl at h
  refine ha.go G O M ρ σ H _ S ?_
  cases q1 : ma ρ with
  | bad => rw [q1] at h; exact h
  | exc c d => rw [q1] at h; exact h
  | ok x =>
    obtain ⟨x, ρ1⟩ := x
    rw [q1] at h
    intro H1 S1 m1 x1 v r1 _
    refine hl.go G O M ρ1 σ H1 _ S1 ?_
    have h : Post F W G O M ρ σ H (e.p && (p1 && p2)) ((ml ρ1).bind fun l => (mh l.2).bind fun u => (g x l.1 u.1).bind fun z => .ok (z, u.2)) _ := h
    cases q2 : ml ρ1 with
    | bad => rw [q2] at h; exact h
    | exc c d => rw [q2] at h; exact h
    | ok l =>
      obtain ⟨l, ρ2⟩ := l
      rw [q2] at h
      intro H2 S2 m2 x2
      refine hh.go G O M ρ2 σ H2 _ S2 ?_
      have h : Post F W G O M ρ σ H (e.p && (p1 && p2)) ((mh ρ2).bind fun u => (g x l u.1).bind fun z => .ok (z, u.2)) _ := h
      cases q3 : mh ρ2 with
      | bad => rw [q3] at h; exact h
      | exc c d => rw [q3] at h; exact h
      | ok u =>
        obtain ⟨u, ρ3⟩ := u
        rw [q3] at h
        intro H3 S3 m3 x3
        have h : Post F W G O M ρ σ H (e.p && (p1 && p2)) ((g x l u).bind fun z => .ok (z, ρ3)) _ := h
        cases q4 : g x l u with
        | bad => rw [q4] at h; exact h.elim
        | exc c d => exact absurd q4 (hr.ne _ _ _ _ _)
        | ok z =>
          rw [q4] at h
          have r3 : Rp F.K (Av F O e.b) H3 x v := r1.keep S1 hp (x2.pp x3)
          refine hr.go (Av F O e.b) H3 v l u x z Q (S3.avdom _) r3 q4 fun w H4 sm r4 f4 => ?_
          exact h H4 (S3.same sm) ((m1.trans m2).trans m3) ((x1.pp (x2.pp x3)).trans (Hx.of_same sm)) w r4 fun z => ((f4 z).back (x2.pp x3)).back x1⟩
abbrev rSl2 (K : PySem.W.Frag) : RS := fun x lo hi H Q => rSlS x lo hi H Q ∨ (rSlL K x lo hi H Q ∨ rSlT K x lo hi H Q)
theorem RpL.cut {K : PySem.W.Frag} {A : Addr → Prop} {H : Hp} {ds : List D} {vs : List V} (r : RpL K A H ds vs) (lo hi : Option Int) : RpL K A H (cutD ds lo hi) (cutV vs lo hi) := by
  unfold cutD cutV
  rw [r.len]
  exact (r.drop _).take _
theorem v_sl {K : PySem.W.Frag} : VS K (rSl2 K) vSl false := by
  refine ⟨fun A H x lo hi d1 d Q hA r1 e k => ?_, fun d1 lo hi c d e => ?_⟩
  · unfold vSl at e
    split at e
    · split at e
      · rename_i hz
        cases e; cases r1
        exact .inl ⟨_, rfl, sz_le hz, k _ H (L2.Same.refl H) (.str _) fun z => nomatch z⟩
      · cases e
    · cases e
      obtain ⟨a, vs, rfl, ha, l⟩ := rp_list r1
      exact .inr (.inl ⟨a, vs, rfl, ha, fun p n => k _ _ (same_new n) (rp_lstN n hA (l.cut lo hi)) fun z => nomatch z⟩)
    · split at e
      · cases e
      · rename_i hw
        cases e
        obtain ⟨a, vs, rfl, ha, l⟩ := rp_tuple r1
        exact .inr (.inr ⟨a, vs, rfl, ha, by rw [← l.len]; exact hw, fun p n => k _ _ (same_new n) (rp_tupN n (l.cut lo hi)) fun z => nomatch z⟩)
    · cases e
  · unfold vSl at e
    split at e
    · split at e <;> cases e
    · cases e
    · split at e <;> cases e
    · cases e
theorem v_slL {K : PySem.W.Frag} : VS K (rSlL K) vSlL true := by
  refine ⟨fun A H x lo hi d1 d Q hA r1 e k => ?_, fun d1 lo hi c d e => ?_⟩
  · unfold vSlL at e
    split at e
    · cases e
      obtain ⟨a, vs, rfl, ha, l⟩ := rp_list r1
      exact ⟨a, vs, rfl, ha, fun p n => k _ _ (same_new n) (rp_lstN n hA (l.cut lo hi)) fun _ => fresh_new (A := A) n (l.cut lo hi).no⟩
    · cases e
  · unfold vSlL at e
    split at e <;> cases e
theorem me_sl {a : Expr} {ta : TE} {ma : EM} {e : Ef} {lo hi : Option Expr} {tl th : TO} {ml mh : PM} {p1 p2 : Bool} {pos pos2 : Pos} (ha : ME X F W a ta ma e) (hl : MO X F W lo tl ml p1) (hh : MO X F W hi th mh p2) (hp : (!e.b || (p1 && p2)) = true := by rfl) :
    ME X F W (.Subscript a (.Slice lo hi none pos2) pos) (tSl (rSl2 F.K) ta tl th) (eSl vSl ma ml mh) ⟨e.b, e.p && (p1 && p2), false⟩ := ME.castK (t := fun K => (tSl (rSl2 K) ta tl th)) (show ME X F W (.Subscript a (.Slice lo hi none pos2) pos) (tSl (rSl2 X.K) ta tl th) (eSl vSl ma ml mh) ⟨e.b, e.p && (p1 && p2), false⟩ from ⟨ha.k, pe_slice (sl_str.or (sl_list.or sl_tup)) ha.pe hl.pe hh.pe, co_sl ha.co hl.co hh.co (by rw [ha.k]; exact v_sl) hp⟩)
theorem me_slL {a : Expr} {ta : TE} {ma : EM} {e : Ef} {lo hi : Option Expr} {tl th : TO} {ml mh : PM} {p1 p2 : Bool} {pos pos2 : Pos} (ha : ME X F W a ta ma e) (hl : MO X F W lo tl ml p1) (hh : MO X F W hi th mh p2) (hp : (!e.b || (p1 && p2)) = true := by rfl) :
    ME X F W (.Subscript a (.Slice lo hi none pos2) pos) (tSl (rSlL F.K) ta tl th) (eSl vSlL ma ml mh) ⟨e.b, e.p && (p1 && p2), true⟩ := ME.castK (t := fun K => (tSl (rSlL K) ta tl th)) (show ME X F W (.Subscript a (.Slice lo hi none pos2) pos) (tSl (rSlL X.K) ta tl th) (eSl vSlL ma ml mh) ⟨e.b, e.p && (p1 && p2), true⟩ from ⟨ha.k, pe_slice sl_list ha.pe hl.pe hh.pe, co_sl ha.co hl.co hh.co (by rw [ha.k]; exact v_slL) hp⟩)
/-! ### methods of texts -/
def vsIndex : D → D → Out D
  | .str a, .str b => (match Builtin.Str.occurrences a b 0 a.length 1 with
    | k :: _ => .ok (.int (k : Nat))
    | [] => .bad)
  | _, _ => .bad
def strsOf : List D → Option (List Str)
  | [] => some []
  | .str i :: r => (strsOf r).map (i :: ·)
  | _ => none
theorem strsOf_eq : ∀ {ds : List D} {ns : List Str}, strsOf ds = some ns → ds = ns.map PyData.str
  | [], ns, e => by cases e; rfl
  | .str i :: r, ns, e => by
    unfold strsOf at e
    obtain ⟨ms, e1, e2⟩ := Option.map_eq_some_iff.mp e
    subst e2
    rw [strsOf_eq e1]
    rfl
  | .none :: _, _, e => by cases e
  | .int _ :: _, _, e => by cases e
  | .bool _ :: _, _, e => by cases e
  | .list _ :: _, _, e => by cases e
  | .tuple _ :: _, _, e => by cases e
  | .dict _ :: _, _, e => by cases e
theorem strsOf_map : ∀ ns : List Str, strsOf (ns.map PyData.str) = some ns
  | [] => rfl
  | n :: r => by
    show ((strsOf (r.map PyData.str)).map (n :: ·)) = _
    rw [strsOf_map r]
    rfl
theorem rpl_strs {K : PySem.W.Frag} {O : Addr → Prop} {H : Hp} : ∀ {ns : List Str} {vs : List V}, RpL K O H (ns.map PyData.str) vs → vs = ns.map V.str
  | [], _, .nil => rfl
  | _ :: r, _, .cons (.str _) t => by rw [rpl_strs t]; rfl
def joinOf (a : Str) (ys : List Str) : Out D := if (ys.map (·.length)).sum + ys.length * a.length ≤ 16777216 then .ok (.str (Txt.join a ys)) else .bad
def vsJoin : D → D → Out D
  | .str a, .list xs => (oOut (strsOf xs)).bind (joinOf a)
  | .str a, .tuple xs => (oOut (strsOf xs)).bind (joinOf a)
  | _, _ => .bad
/-- x.name(y), x a text -/
def tTM1 (r : V → List V → Hp → VK → Prop) : R2 := fun x y H Q => (∃ a, x = .str a) ∧ r x [y] H Q
theorem v_sIndex {K : PySem.W.Frag} : V2 K (fun x y H Q => ∃ a b k rest, x = .str a ∧ y = .str b ∧ Builtin.Str.occurrences a b 0 a.length 1 = k :: rest ∧ Q (.int (k : Nat)) H) vsIndex true false := by
  have key : ∀ {d1 d2 d : D}, vsIndex d1 d2 = .ok d → ∃ a b k rest, d1 = .str a ∧ d2 = .str b ∧ Builtin.Str.occurrences a b 0 a.length 1 = k :: rest ∧ d = .int (k : Nat) := fun {d1 d2 d} e => by
    unfold vsIndex at e
    split at e
    · rename_i a b
      cases q : Builtin.Str.occurrences a b 0 a.length 1 with
      | nil => rw [q] at e; cases e
      | cons k rest => rw [q] at e; cases e; exact ⟨a, b, k, rest, rfl, rfl, q, rfl⟩
    · cases e
  refine ⟨fun A H x y d1 d2 d Q hA r1 r2 e k => ?_, fun _ d1 d2 d e => ?_, fun d1 d2 c' d e => ?_⟩
  · obtain ⟨a, b, j, rest, rfl, rfl, q, rfl⟩ := key e
    cases r1; cases r2
    exact ⟨a, b, j, rest, rfl, rfl, q, k _ H (L2.Same.refl H) (.int _) fun z => nomatch z⟩
  · obtain ⟨a, b, j, rest, rfl, rfl, q, rfl⟩ := key e
    rfl
  · unfold vsIndex at e
    split at e
    · split at e <;> cases e
    · cases e
theorem pe_sIndex {o e : Expr} {to te : TE} {apos pos : Pos} (ho : PE X o to) (he : PE X e te) (hs : starEach [e] X.env = [(false, eval e X.env)] := by rfl) (hbase : attributeBase o "index" X.env (eval o X.env) = eval o X.env := by rfl) (hline : (apos.endLine == pos.line) = true := by rfl) :
    PE X (.Call (.Attribute o "index" apos) [e] [] pos) (tM1 (fun x xs H Q => ∃ a b k rest, x = .str a ∧ xs = [.str b] ∧ Builtin.Str.occurrences a b 0 a.length 1 = k :: rest ∧ Q (.int (k : Nat)) H) to te) :=
  pe_m1 F.slot_str_index F.type_str_index (fun pins s σ H x xs v us Q I rx rs h => by
    obtain ⟨a, b, k, rest, rfl, rfl, q, w⟩ := h
    obtain ⟨t, rfl⟩ := rx
    cases rs with
    | cons r1 rs =>
      cases rs
      obtain ⟨u, rfl⟩ := r1
      exact PySem.SC.index q ⟨.int (k : Nat), H, I.tok _, ⟨_, rfl⟩, w⟩) ho he hs hbase hline
def isStr : D → Bool
  | .str _ => true
  | _ => false
theorem isStr_of {d : D} (h : isStr d = true) : ∃ a, d = .str a := by
  cases d <;> first | exact ⟨_, rfl⟩ | cases h
def eM1 (g : D → D → Out D) (a b : EM) : EM := fun ρ => (a ρ).bind fun x => if isStr x.1 = true then (b x.2).bind fun y => (g x.1 y.1).bind fun z => .ok (z, y.2) else .bad
def eM0 (g : D → Out D) (a : EM) : EM := fun ρ => (a ρ).bind fun x => if isStr x.1 = true then (g x.1).bind fun z => .ok (z, x.2) else .bad
theorem co_m1 {to te : TE} {mo me : EM} {e1 e2 : Ef} {r : V → List V → Hp → VK → Prop} {g : D → D → Out D} {s f : Bool} (ho : CoE F W to mo e1) (he : CoE F W te me e2) (hr : V2 F.K (fun x y => r x [y]) g s f) (hp : (!e1.b || e2.p) = true) :
    CoE F W (tM1 r to te) (eM1 g mo me) ⟨(e1.b || e2.b) && !s, e1.p && e2.p, f⟩ := ⟨fun G O M ρ σ H Q S h => by
  unfold eM1 at h
  refine ho.go G O M ρ σ H _ S ?_
  cases q1 : mo ρ with
  | bad => rw [q1] at h; exact h
  | exc c d => rw [q1] at h; exact h
  | ok x =>
    obtain ⟨x, ρ1⟩ := x
    rw [q1] at h
    intro H1 S1 m1 x1 v r1 _
    have h : Post F W G O M ρ σ H (e1.p && e2.p) (if isStr x = true then (me ρ1).bind fun y => (g x y.1).bind fun z => .ok (z, y.2) else .bad) _ := h
    by_cases hx : isStr x = true
    case neg => rw [if_neg hx] at h; exact h.elim
    rw [if_pos hx] at h
    obtain ⟨a, rfl⟩ := isStr_of hx
    have r0 := r1
    cases r1
    refine ⟨⟨a, rfl⟩, he.go G O M ρ1 σ H1 _ S1 ?_⟩
    cases q2 : me ρ1 with
    | bad => rw [q2] at h; exact h
    | exc c d => rw [q2] at h; exact h
    | ok y =>
      obtain ⟨y, ρ2⟩ := y
      rw [q2] at h
      intro H2 S2 m2 x2 u r2 _
      have h : Post F W G O M ρ σ H (e1.p && e2.p) ((g (.str a) y).bind fun z => .ok (z, ρ2)) _ := h
      cases e3 : g (.str a) y with
      | bad => rw [e3] at h; exact h.elim
      | exc c d => exact absurd e3 (hr.ne _ _ _ _)
      | ok z =>
        rw [e3] at h
        have q2 : Rp F.K (Av F O (e1.b || e2.b)) H2 y u := r2.av S2 fun z => by rw [z, Bool.or_true]
        refine hr.go (Av F O (e1.b || e2.b)) H2 (.str a) u (.str a) y z Q (S2.avdom _) (.str a) q2 e3 fun w H3 sm r3 f3 => ?_
        exact h H3 (S2.same sm) (m1.trans m2) ((x1.pp x2).trans (Hx.of_same sm)) w (Av.sc r3 fun z => hr.sc z _ _ _ e3) fun z => ((f3 z).back x2).back x1⟩
theorem co_m0 {to : TE} {mo : EM} {e1 : Ef} {r : V → List V → Hp → VK → Prop} {g : D → Out D} {s f : Bool} (ho : CoE F W to mo e1) (hr : V1 F.K (fun x => r x []) g s f) : CoE F W (tM0 r to) (eM0 g mo) ⟨e1.b && !s, e1.p, f⟩ := ⟨fun G O M ρ σ H Q S h => by
  unfold eM0 at h
  refine ho.go G O M ρ σ H _ S ?_
  cases q1 : mo ρ with
  | bad => rw [q1] at h; exact h
  | exc c d => rw [q1] at h; exact h
  | ok x =>
    obtain ⟨x, ρ1⟩ := x
    rw [q1] at h
    intro H1 S1 m1 x1 v r1 _
    have h : Post F W G O M ρ σ H e1.p (if isStr x = true then (g x).bind fun z => .ok (z, ρ1) else .bad) _ := h
    by_cases hx : isStr x = true
    case neg => rw [if_neg hx] at h; exact h.elim
    rw [if_pos hx] at h
    obtain ⟨a, rfl⟩ := isStr_of hx
    have r0 := r1
    cases r1
    refine ⟨⟨a, rfl⟩, ?_⟩
    have h : Post F W G O M ρ σ H e1.p ((g (.str a)).bind fun z => .ok (z, ρ1)) _ := h
    cases e3 : g (.str a) with
    | bad => rw [e3] at h; exact h.elim
    | exc c d => exact absurd e3 (hr.ne _ _ _)
    | ok z =>
      rw [e3] at h
      refine hr.go (Av F O e1.b) H1 (.str a) (.str a) z Q (S1.avdom _) (.str a) e3 fun w H3 sm r3 f3 => ?_
      exact h H3 (S1.same sm) m1 (x1.trans (Hx.of_same sm)) w (Av.sc r3 fun z => hr.sc z _ _ e3) fun z => (f3 z).back x1⟩
theorem v_sIndex1 {K : PySem.W.Frag} : V2 K (fun x y H Q => (fun x xs H Q => ∃ a b k rest, x = V.str a ∧ xs = [V.str b] ∧ Builtin.Str.occurrences a b 0 a.length 1 = k :: rest ∧ Q (.int (k : Nat)) H) x [y] H Q) vsIndex true false := by
  have q := v_sIndex (K := K)
  refine ⟨fun A H x y d1 d2 d Q hA r1 r2 e k => ?_, q.sc, q.ne⟩
  obtain ⟨a, b, j, rest, e1, e2, e3, e4⟩ := q.go A H x y d1 d2 d Q hA r1 r2 e k
  exact ⟨a, b, j, rest, e1, by rw [e2], e3, e4⟩
variable {o e : Expr} {to te : TE} {mo me : EM} {e1 e2 : Ef} {apos pos : Pos}
theorem me_sIndex (ho : ME X F W o to mo e1) (he : ME X F W e te me e2) (hp : (!e1.b || e2.p) = true := by rfl) (hs : starEach [e] X.env = [(false, eval e X.env)] := by rfl) (hbase : attributeBase o "index" X.env (eval o X.env) = eval o X.env := by rfl) (hline : (apos.endLine == pos.line) = true := by rfl) :
    ME X F W (.Call (.Attribute o "index" apos) [e] [] pos) (tM1 (fun x xs H Q => ∃ a b k rest, x = .str a ∧ xs = [.str b] ∧ Builtin.Str.occurrences a b 0 a.length 1 = k :: rest ∧ Q (.int (k : Nat)) H) to te) (eM1 vsIndex mo me) ⟨(e1.b || e2.b) && !true, e1.p && e2.p, false⟩ :=
  ⟨ho.k, pe_sIndex ho.pe he.pe hs hbase hline, co_m1 ho.co he.co v_sIndex1 hp⟩
abbrev rJoin2 (K : PySem.W.Frag) : V → List V → Hp → VK → Prop := fun x xs H Q => ∃ a p, ∃ ys : List Str, x = .str a ∧ xs = [.ref p] ∧ (SqL K H p (ys.map V.str) ∨ SqT K H p (ys.map V.str)) ∧ (ys.map (·.length)).sum + ys.length * a.length ≤ 16777216 ∧ Q (.str (Txt.join a ys)) H
theorem joinOf_ok {a : Str} {ys : List Str} {d : D} (e : joinOf a ys = .ok d) : (ys.map (·.length)).sum + ys.length * a.length ≤ 16777216 ∧ d = .str (Txt.join a ys) := by
  unfold joinOf at e
  split at e
  · rename_i h
    cases e
    exact ⟨h, rfl⟩
  · cases e
theorem v_sJoin {K : PySem.W.Frag} : V2 K (fun x y => rJoin2 K x [y]) vsJoin true false := by
  have key : ∀ {d1 d2 d : D}, vsJoin d1 d2 = .ok d → ∃ (a : Str) (ys : List Str), d1 = .str a ∧ (d2 = .list (ys.map PyData.str) ∨ d2 = .tuple (ys.map PyData.str)) ∧ (ys.map (·.length)).sum + ys.length * a.length ≤ 16777216 ∧ d = .str (Txt.join a ys) := fun {d1 d2 d} e => by
    unfold vsJoin at e
    split at e
    · rename_i a xs
      cases q : strsOf xs with
      | none => rw [q] at e; cases e
      | some ys =>
        rw [q] at e
        obtain ⟨h1, h2⟩ := joinOf_ok e
        exact ⟨a, ys, rfl, .inl (by rw [strsOf_eq q]), h1, h2⟩
    · rename_i a xs
      cases q : strsOf xs with
      | none => rw [q] at e; cases e
      | some ys =>
        rw [q] at e
        obtain ⟨h1, h2⟩ := joinOf_ok e
        exact ⟨a, ys, rfl, .inr (by rw [strsOf_eq q]), h1, h2⟩
    · cases e
  refine ⟨fun A H x y d1 d2 d Q hA r1 r2 e k => ?_, fun _ d1 d2 d e => ?_, fun d1 d2 c' d e => ?_⟩
  · obtain ⟨a, ys, rfl, q, hz, rfl⟩ := key e
    cases r1
    rcases q with rfl | rfl
    · obtain ⟨b, vs, rfl, ha, l⟩ := rp_list r2
      rw [rpl_strs l] at ha
      exact ⟨a, b, ys, rfl, rfl, .inl ha, hz, k _ H (L2.Same.refl H) (.str _) fun z => nomatch z⟩
    · obtain ⟨b, vs, rfl, ha, l⟩ := rp_tuple r2
      rw [rpl_strs l] at ha
      exact ⟨a, b, ys, rfl, rfl, .inr ha, hz, k _ H (L2.Same.refl H) (.str _) fun z => nomatch z⟩
  · obtain ⟨a, ys, rfl, q, hz, rfl⟩ := key e
    rfl
  · unfold vsJoin at e
    split at e
    · rename_i a xs
      cases q : strsOf xs with
      | none => rw [q] at e; cases e
      | some ys =>
        rw [q] at e
        have e : joinOf a ys = .exc c' d := e
        unfold joinOf at e
        split at e <;> cases e
    · rename_i a xs
      cases q : strsOf xs with
      | none => rw [q] at e; cases e
      | some ys =>
        rw [q] at e
        have e : joinOf a ys = .exc c' d := e
        unfold joinOf at e
        split at e <;> cases e
    · cases e
theorem me_sJoin (ho : ME X F W o to mo e1) (he : ME X F W e te me e2) (hp : (!e1.b || e2.p) = true := by rfl) (hs : starEach [e] X.env = [(false, eval e X.env)] := by rfl) (hbase : attributeBase o "join" X.env (eval o X.env) = eval o X.env := by rfl) (hline : (apos.endLine == pos.line) = true := by rfl) :
    ME X F W (.Call (.Attribute o "join" apos) [e] [] pos) (tM1 (rJoin2 F.K) to te) (eM1 vsJoin mo me) ⟨(e1.b || e2.b) && !true, e1.p && e2.p, false⟩ := ME.castK (t := fun K => (tM1 (rJoin2 K) to te)) (show ME X F W (.Call (.Attribute o "join" apos) [e] [] pos) (tM1 (rJoin2 X.K) to te) (eM1 vsJoin mo me) ⟨(e1.b || e2.b) && !true, e1.p && e2.p, false⟩ from ⟨ho.k, pe_join ho.pe he.pe hs hbase hline, co_m1 ho.co he.co (by rw [ho.k]; exact v_sJoin) hp⟩)
def vsUpper : D → Out D
  | .str a => if a.length ≤ maxSz then .ok (.str (Txt.upper a)) else .bad
  | _ => .bad
abbrev rUpper2 : V → List V → Hp → VK → Prop := fun x xs H Q => ∃ a, x = .str a ∧ xs = [] ∧ a.length ≤ 5592405 ∧ Q (.str (Txt.upper a)) H
theorem v_sUpper {K : PySem.W.Frag} : V1 K (fun x => rUpper2 x []) vsUpper true false := by
  refine ⟨fun A H x d1 d Q hA r1 e k => ?_, fun _ d1 d e => ?_, fun d1 c' d e => ?_⟩
  · unfold vsUpper at e
    split at e
    · split at e
      · rename_i h
        cases e; cases r1
        exact ⟨_, rfl, rfl, Nat.le_trans h (by decide), k _ H (L2.Same.refl H) (.str _) fun z => nomatch z⟩
      · cases e
    · cases e
  · unfold vsUpper at e
    split at e
    · split at e <;> cases e
      rfl
    · cases e
  · unfold vsUpper at e
    split at e
    · split at e <;> cases e
    · cases e
theorem me_sUpper (ho : ME X F W o to mo e1) (hbase : attributeBase o "upper" X.env (eval o X.env) = eval o X.env := by rfl) (hline : (apos.endLine == pos.line) = true := by rfl) :
    ME X F W (.Call (.Attribute o "upper" apos) [] [] pos) (tM0 rUpper2 to) (eM0 vsUpper mo) ⟨e1.b && !true, e1.p, false⟩ := ⟨ho.k, pe_upper ho.pe hbase hline, co_m0 ho.co v_sUpper⟩
end
end Mi

set_option Elab.async false
set_option linter.all false
set_option maxRecDepth 100000
set_option maxHeartbeats 4000000
/-! Mi12: isinstance, chains of comparisons; lists and dicts that the def changes; the script. -/
namespace Mi
open PySem PySem.Spec PyProof.Rows L2
section
variable {X : Cx} {F : Fr} {W : WX}
/-! ### a type's name -/
theorem pe_tyN {x : Str} {T : String} {pos : Pos} (hm : X.mg x = none) (hv : bootBuiltins x = some (.type T)) (hg : Gl X x) (hn : x ≠ "__name__") (hdb : (x == ("__debug__" : Str)) = false) : PE X (.Name x pos) (tC (.ty T)) := ⟨fun pins s σ H Q I h => ld_blt I hg hm hv ⟨.ty T, H, I, rfl, h⟩ hn hdb⟩
def tyD : D → String
  | .none => "NoneType"
  | .bool _ => "bool"
  | .int _ => "int"
  | .str _ => "str"
  | .list _ => "list"
  | .tuple _ => "tuple"
  | .dict _ => "dict"
def vIsi (T : String) (d : D) : Out D := (oOut (kitB (tyD d) T)).bind fun b => .ok (.bool b)
theorem tyX_of {K : PySem.W.Frag} {A : Addr → Prop} {H : Hp} {d : D} {v : V} (r : Rp K A H d v) : TyX K H v (.type (tyD d)) := by
  cases r with
  | non => exact .base .non
  | bl b => exact .base (.bl b)
  | int i => exact .base (.int i)
  | str x => exact .base (.str x)
  | lst h _ _ => exact .base (.lst h)
  | tup h _ =>
    rcases h with (h | ⟨o, h⟩) | ⟨o, its, n, h1, h2, _⟩
    · exact .base (.tup h)
    · exact .fTuple h
    · exact .kTuple h1 h2
def eIsi (T : String) (a : EM) : EM := fun ρ => (a ρ).bind fun x => (vIsi T x.1).bind fun z => .ok (z, x.2)
theorem co_isi {T : String} {ta : TE} {ma : EM} {e : Ef} (ha : CoE F W ta ma e) : CoE F W (tCB (rIsi F.K) (tCons ta (tCons (tC (.ty T)) tNil))) (eIsi T ma) ⟨false, e.p, false⟩ := ⟨fun G O M ρ σ H Q S h => by
  unfold eIsi at h
  refine ha.go G O M ρ σ H _ S ?_
  cases q : ma ρ with
  | bad => rw [q] at h; exact h
  | exc c d => rw [q] at h; exact h
  | ok x =>
    obtain ⟨x, ρ1⟩ := x
    rw [q] at h
    intro H1 S1 m1 x1 v r _
    have h : Post F W G O M ρ σ H e.p ((vIsi T x).bind fun z => .ok (z, ρ1)) _ := h
    unfold vIsi at h
    cases qk : kitB (tyD x) T with
    | none => rw [qk] at h; exact h.elim
    | some b =>
      rw [qk] at h
      exact ⟨v, .ty T, .type (tyD x), .type T, b, rfl, .ty T, tyX_of r, kit_ty qk, h H1 S1 m1 x1 (.bl b) (.bl b) fun z => nomatch z⟩⟩
theorem me_isi {T : String} {x : Str} {a : Expr} {ta : TE} {ma : EM} {e : Ef} {p p2 pos : Pos} (hm : X.mg "isinstance" = none) (hmx : X.mg x = none) (hv : bootBuiltins x = some (.type T)) (ha : ME X F W a ta ma e) (hg : Gl X "isinstance" := by rfl) (hgx : Gl X x := by rfl) (hn : x ≠ "__name__" := by decide) (hdb : (x == ("__debug__" : Str)) = false := by decide)
    (he : starEach [a, .Name x p2] X.env = [(false, eval a X.env), (false, eval (.Name x p2) X.env)] := by rfl) (he2 : starEach [.Name x p2] X.env = [(false, eval (.Name x p2) X.env)] := by rfl) :
    ME X F W (.Call (.Name "isinstance" p) [a, .Name x p2] [] pos) (tCB (rIsi F.K) (tCons ta (tCons (tC (.ty T)) tNil))) (eIsi T ma) ⟨false, e.p, false⟩ := ME.castK (t := fun K => (tCB (rIsi K) (tCons ta (tCons (tC (.ty T)) tNil)))) (show ME X F W (.Call (.Name "isinstance" p) [a, .Name x p2] [] pos) (tCB (rIsi X.K) (tCons ta (tCons (tC (.ty T)) tNil))) (eIsi T ma) ⟨false, e.p, false⟩ from ⟨ha.k, pe_callB call_isi hg hm (by decide +kernel) (pa_cons ha.pe (pa_cons (pe_tyN hmx hv hgx hn hdb) pa_nil he2) (by rw [he, he2])) (by decide) (by decide) (by rw [he, he2]) (by rw [he2]; rfl), by
    have q := co_isi (T := T) ha.co
    rw [← ha.k] at q
    exact q⟩)
/-! ### a < b < c -/
def eChain (g g' : D → D → Out D) (a b c : EM) : EM := fun ρ => (a ρ).bind fun x => (b x.2).bind fun y => (g x.1 y.1).bind fun z => match z with
  | .bool true => (c y.2).bind fun w => (g' y.1 w.1).bind fun u => .ok (u, w.2)
  | .bool false => .ok (.bool false, y.2)
  | _ => .bad
theorem co_chain {ta tb tc : TE} {ma mb mc : EM} {e1 e2 e3 : Ef} {r r' : R2} {g g' : D → D → Out D} {f f' : Bool} (ha : CoE F W ta ma e1) (hb : CoE F W tb mb e2) (hc : CoE F W tc mc e3) (hr : V2 F.K r g true f) (hr' : V2 F.K r' g' true f') (hp : (!e1.b || e2.p) = true) (hp2 : (!e2.b || e3.p) = true) :
    CoE F W (tChain r r' ta tb tc) (eChain g g' ma mb mc) ⟨false, e1.p && (e2.p && e3.p), false⟩ := ⟨fun G O M ρ σ H Q S h => by
  unfold eChain at h
  refine ha.go G O M ρ σ H _ S ?_
  cases q1 : ma ρ with
  | bad => rw [q1] at h; exact h
  | exc c d => rw [q1] at h; exact h
  | ok x =>
    obtain ⟨x, ρ1⟩ := x
    rw [q1] at h
    intro H1 S1 m1 x1 v r1 _
    refine hb.go G O M ρ1 σ H1 _ S1 ?_
    have h : Post F W G O M ρ σ H (e1.p && (e2.p && e3.p)) ((mb ρ1).bind fun y => (g x y.1).bind fun z => match z with
      | .bool true => (mc y.2).bind fun w => (g' y.1 w.1).bind fun u => .ok (u, w.2)
      | .bool false => .ok (.bool false, y.2)
      | _ => .bad) _ := h
    cases q2 : mb ρ1 with
    | bad => rw [q2] at h; exact h
    | exc c d => rw [q2] at h; exact h
    | ok y =>
      obtain ⟨y, ρ2⟩ := y
      rw [q2] at h
      intro H2 S2 m2 x2 u r2 _
      have h : Post F W G O M ρ σ H (e1.p && (e2.p && e3.p)) ((g x y).bind fun z => match z with
        | .bool true => (mc ρ2).bind fun w => (g' y w.1).bind fun u => .ok (u, w.2)
        | .bool false => .ok (.bool false, ρ2)
        | _ => .bad) _ := h
      cases q3 : g x y with
      | bad => rw [q3] at h; exact h.elim
      | exc c d => exact absurd q3 (hr.ne _ _ _ _)
      | ok z =>
        rw [q3] at h
        have w1 : Rp F.K (Av F O (e1.b || e2.b)) H2 x v := (r1.keep S1 hp x2).av S1 fun z => by rw [z]; rfl
        have w2 : Rp F.K (Av F O (e1.b || e2.b)) H2 y u := r2.av S1 fun z => by rw [z, Bool.or_true]
        refine hr.go (Av F O (e1.b || e2.b)) H2 v u x y z _ (S2.avdom _) w1 w2 q3 fun w H3 sm r3 _ => ?_
        cases z with
        | bool bz =>
          cases r3
          refine ⟨bz, rfl, ?_⟩
          cases bz with
          | false =>
            refine iteF ?_
            exact h H3 (S2.same sm) (m1.trans m2) ((x1.pp (x2.weak (q := e2.p && e3.p) fun z => (Bool.and_eq_true_iff.mp z).1)).trans (Hx.of_same sm)) (.bl false) (.bl false) fun z => nomatch z
          | true =>
            refine iteT ?_
            have S3 := S2.same sm
            have r2' : Rp F.K (Av F O e2.b) H3 y u := r2.same sm
            refine hc.go G O M ρ2 σ H3 _ S3 ?_
            have h : Post F W G O M ρ σ H (e1.p && (e2.p && e3.p)) ((mc ρ2).bind fun w => (g' y w.1).bind fun u => .ok (u, w.2)) _ := h
            cases q4 : mc ρ2 with
            | bad => rw [q4] at h; exact h
            | exc c d => rw [q4] at h; exact h
            | ok w' =>
              obtain ⟨w', ρ4⟩ := w'
              rw [q4] at h
              intro H4 S4 m4 x4 u4 r4 _
              have h : Post F W G O M ρ σ H (e1.p && (e2.p && e3.p)) ((g' y w').bind fun u => .ok (u, ρ4)) _ := h
              cases q5 : g' y w' with
              | bad => rw [q5] at h; exact h.elim
              | exc c d => exact absurd q5 (hr'.ne _ _ _ _)
              | ok z5 =>
                rw [q5] at h
                have y1 : Rp F.K (Av F O (e2.b || e3.b)) H4 y u := (r2'.keep S3 hp2 x4).av S3 fun z => by rw [z]; rfl
                have y2 : Rp F.K (Av F O (e2.b || e3.b)) H4 w' u4 := r4.av S3 fun z => by rw [z, Bool.or_true]
                refine hr'.go (Av F O (e2.b || e3.b)) H4 u u4 y w' z5 Q (S4.avdom _) y1 y2 q5 fun w5 H5 sm5 r5 _ => ?_
                refine h H5 (S4.same sm5) ((m1.trans m2).trans m4) ((x1.pp ((x2.trans (Hx.of_same sm)).pp x4)).trans (Hx.of_same sm5)) w5 (r5.noL (hr'.sc rfl _ _ _ q5)) fun z => nomatch z
        | _ => exact h.elim⟩
variable {a b c : Expr} {ta tb tc : TE} {ma mb mc : EM} {e1 e2 e3 : Ef} {pos : Pos}
theorem me_chain {op op' : CmpOp} {r r' : R2} {g g' : D → D → Out D} {f f' : Bool} (ho : OpR X (compareOp op) r) (ho' : OpR X (compareOp op') r') (hr : V2 X.K r g true f) (hr' : V2 X.K r' g' true f') (ha : ME X F W a ta ma e1) (hb : ME X F W b tb mb e2) (hc : ME X F W c tc mc e3) (hp : (!e1.b || e2.p) = true := by rfl) (hp2 : (!e2.b || e3.p) = true := by rfl)
    (hm : lastMarks [op, op'] [b, c] = false := by with_unfolding_all rfl) : ME X F W (.Compare a [op, op'] [b, c] pos) (tChain r r' ta tb tc) (eChain g g' ma mb mc) ⟨false, e1.p && (e2.p && e3.p), false⟩ := ⟨ha.k, pe_chain ho ho' ha.pe hb.pe hc.pe hm, co_chain ha.co hb.co hc.co (by rw [← ha.k]; exact hr) (by rw [← ha.k]; exact hr') hp hp2⟩
theorem mt_chain {op op' : CmpOp} {r r' : R2} {g g' : D → D → Out D} {f f' : Bool} (ho : OpR X (compareOp op) r) (ho' : OpR X (compareOp op') r') (hr : V2 X.K r g true f) (hr' : V2 X.K r' g' true f') (ha : ME X F W a ta ma e1) (hb : ME X F W b tb mb e2) (hc : ME X F W c tc mc e3) (hp : (!e1.b || e2.p) = true := by rfl) (hp2 : (!e2.b || e3.p) = true := by rfl)
    (hm : lastMarks [op, op'] [b, c] = false := by with_unfolding_all rfl) : MT X F W (.Compare a [op, op'] [b, c] pos) (tTest (tChain r r' ta tb tc)) (eTst (eChain g g' ma mb mc)) (e1.p && (e2.p && e3.p)) := ⟨ha.k, pt_chain ho ho' ha.pe hb.pe hc.pe hm, co_tst (co_chain ha.co hb.co hc.co (by rw [← ha.k]; exact hr) (by rw [← ha.k]; exact hr') hp hp2)⟩
end
section
variable {X : Cx} {F : Fr} {W : WX} {S : Su} {k : Nat} {a b : Expr} {ta tb : TE} {ma mb : EM} {e1 e2 : Ef} {pos : Pos}
theorem mt_lt (o : On S X F W k) (ha : ME X F W a ta ma e1) (hb : ME X F W b tb mb e2) (hp : (!e1.b || e2.p) = true := by rfl) : MT X F W (.Compare a [.Lt] [b] pos) (tTest (tOp (rLt2 F.K) ta tb)) (eTst (eOp vLt ma mb)) (e1.p && e2.p) := MT.castK (t := fun K => (tTest (tOp (rLt2 K) ta tb))) (show MT X F W (.Compare a [.Lt] [b] pos) (tTest (tOp (rLt2 X.K) ta tb)) (eTst (eOp vLt ma mb)) (e1.p && e2.p) from mt_cmp (op_lt2 o.room.units0) (by rw [ha.k]; exact v_lt) ha hb (nomark _) hp)
theorem mt_le (o : On S X F W k) (ha : ME X F W a ta ma e1) (hb : ME X F W b tb mb e2) (hp : (!e1.b || e2.p) = true := by rfl) : MT X F W (.Compare a [.LtE] [b] pos) (tTest (tOp (rI0 fun i j => .bl (decide (i ≤ j))) ta tb)) (eTst (eOp vLe ma mb)) (e1.p && e2.p) := mt_cmp op_le v_le ha hb (nomark _) hp
theorem mt_gt (o : On S X F W k) (ha : ME X F W a ta ma e1) (hb : ME X F W b tb mb e2) (hp : (!e1.b || e2.p) = true := by rfl) : MT X F W (.Compare a [.Gt] [b] pos) (tTest (tOp (rI0 fun i j => .bl (decide (j < i))) ta tb)) (eTst (eOp vGt ma mb)) (e1.p && e2.p) := mt_cmp op_gt v_gt ha hb (nomark _) hp
theorem mt_ge (o : On S X F W k) (ha : ME X F W a ta ma e1) (hb : ME X F W b tb mb e2) (hp : (!e1.b || e2.p) = true := by rfl) : MT X F W (.Compare a [.GtE] [b] pos) (tTest (tOp (rI0 fun i j => .bl (decide (j ≤ i))) ta tb)) (eTst (eOp vGe ma mb)) (e1.p && e2.p) := mt_cmp op_ge v_ge ha hb (nomark _) hp
theorem mt_eq (o : On S X F W k) (ha : ME X F W a ta ma e1) (hb : ME X F W b tb mb e2) (hp : (!e1.b || e2.p) = true := by rfl) : MT X F W (.Compare a [.Eq] [b] pos) (tTest (tOp (rEq2 F.K) ta tb)) (eTst (eOp vEq ma mb)) (e1.p && e2.p) := MT.castK (t := fun K => (tTest (tOp (rEq2 K) ta tb))) (show MT X F W (.Compare a [.Eq] [b] pos) (tTest (tOp (rEq2 X.K) ta tb)) (eTst (eOp vEq ma mb)) (e1.p && e2.p) from mt_cmp (op_eq2 o.room.units) (by rw [ha.k]; exact v_eq) ha hb (nomark _) hp)
theorem mt_ne (o : On S X F W k) (ha : ME X F W a ta ma e1) (hb : ME X F W b tb mb e2) (hp : (!e1.b || e2.p) = true := by rfl) : MT X F W (.Compare a [.NotEq] [b] pos) (tTest (tOp (rNe2 F.K) ta tb)) (eTst (eOp vNe ma mb)) (e1.p && e2.p) := MT.castK (t := fun K => (tTest (tOp (rNe2 K) ta tb))) (show MT X F W (.Compare a [.NotEq] [b] pos) (tTest (tOp (rNe2 X.K) ta tb)) (eTst (eOp vNe ma mb)) (e1.p && e2.p) from mt_cmp (op_ne2 o.room.units) (by rw [ha.k]; exact v_ne) ha hb (nomark _) hp)
theorem mt_in (o : On S X F W k) (ha : ME X F W a ta ma e1) (hb : ME X F W b tb mb e2) (hm : behindInMarks .In b = false := by rfl) (hp : (!e1.b || e2.p) = true := by rfl) : MT X F W (.Compare a [.In] [b] pos) (tTest (tOp (rIn2 F.K) ta tb)) (eTst (eOp vIn ma mb)) (e1.p && e2.p) := MT.castK (t := fun K => (tTest (tOp (rIn2 K) ta tb))) (show MT X F W (.Compare a [.In] [b] pos) (tTest (tOp (rIn2 X.K) ta tb)) (eTst (eOp vIn ma mb)) (e1.p && e2.p) from mt_cmp (op_in2 (units65 o)) (by rw [ha.k]; exact v_in) ha hb hm hp)
theorem mt_notIn (o : On S X F W k) (ha : ME X F W a ta ma e1) (hb : ME X F W b tb mb e2) (hm : behindInMarks .NotIn b = false := by rfl) (hp : (!e1.b || e2.p) = true := by rfl) : MT X F W (.Compare a [.NotIn] [b] pos) (tTest (tOp (rNotIn2 F.K) ta tb)) (eTst (eOp vNotIn ma mb)) (e1.p && e2.p) := MT.castK (t := fun K => (tTest (tOp (rNotIn2 K) ta tb))) (show MT X F W (.Compare a [.NotIn] [b] pos) (tTest (tOp (rNotIn2 X.K) ta tb)) (eTst (eOp vNotIn ma mb)) (e1.p && e2.p) from mt_cmp (op_notIn2 (units65 o)) (by rw [ha.k]; exact v_notIn) ha hb hm hp)
theorem mt_isN (o : On S X F W k) (ha : ME X F W a ta ma e1) (hb : ME X F W b tb mb e2) (hp : (!e1.b || e2.p) = true := by rfl) : MT X F W (.Compare a [.Is] [b] pos) (tTest (tOp (fun x y H Q => y = .non ∧ Q (.bl (decide (x = .non))) H) ta tb)) (eTst (eOp (vIsN false) ma mb)) (e1.p && e2.p) := mt_cmp op_isN v_isN ha hb (nomark _) hp
theorem mt_notN (o : On S X F W k) (ha : ME X F W a ta ma e1) (hb : ME X F W b tb mb e2) (hp : (!e1.b || e2.p) = true := by rfl) : MT X F W (.Compare a [.IsNot] [b] pos) (tTest (tOp (fun x y H Q => y = .non ∧ Q (.bl (!decide (x = .non))) H) ta tb)) (eTst (eOp (vIsN true) ma mb)) (e1.p && e2.p) := mt_cmp op_notN v_notN ha hb (nomark _) hp
end
end Mi

set_option Elab.async false
set_option linter.all false
set_option maxRecDepth 100000
set_option maxHeartbeats 4000000
/-! Mi13: methods that change a list, items stored, dicts, the script. -/
namespace Mi
open PySem PySem.Spec PyProof.Rows L2
section
variable {X : Cx} {F : Fr} {W : WX}
/-! ### borrowed values set free -/
def clrOk : D → Bool
  | .list ds => noLs ds
  | d => noL d
def eClr (a : EM) : EM := fun ρ => (a ρ).bind fun x => if clrOk x.1 = true then .ok x else .bad
theorem me_clr {a : Expr} {ta : TE} {ma : EM} {e : Ef} (h : ME X F W a ta ma e) (hf : e.f = true) : ME X F W a ta (eClr ma) ⟨false, e.p, e.f⟩ := ⟨h.k, h.pe, ⟨fun G O M ρ σ H Q S q => by
  unfold eClr at q
  refine h.co.go G O M ρ σ H _ S ?_
  cases er : ma ρ with
  | bad => rw [er] at q; exact q
  | exc c d => rw [er] at q; exact q
  | ok x =>
    obtain ⟨x, ρ1⟩ := x
    rw [er] at q
    intro H1 S1 m1 x1 v r f
    have q : EPost F W G O M ρ σ H ⟨false, e.p, e.f⟩ (if clrOk x = true then .ok (x, ρ1) else .bad) Q := q
    by_cases hn : clrOk x = true
    case neg => rw [if_neg hn] at q; exact q.elim
    rw [if_pos hn] at q
    refine q H1 S1 m1 x1 v ?_ f
    cases x with
    | list ds =>
      obtain ⟨a', ev, n, l⟩ := f hf
      subst ev
      obtain ⟨vs, e1, e2⟩ := l ds rfl
      exact .lst e1 (fun z => S.dom a' z n) (e2.mvN (fun _ _ e _ _ => e) hn)
    | _ => exact r.noL hn⟩⟩
def eNoL (a : EM) : EM := fun ρ => (a ρ).bind fun x => if noL x.1 = true then .ok x else .bad
theorem me_noL {a : Expr} {ta : TE} {ma : EM} {e : Ef} (h : ME X F W a ta ma e) : ME X F W a ta (eNoL ma) ⟨false, e.p, e.f⟩ := ⟨h.k, h.pe, ⟨fun G O M ρ σ H Q S q => by
  unfold eNoL at q
  refine h.co.go G O M ρ σ H _ S ?_
  cases er : ma ρ with
  | bad => rw [er] at q; exact q
  | exc c d => rw [er] at q; exact q
  | ok x =>
    obtain ⟨x, ρ1⟩ := x
    rw [er] at q
    intro H1 S1 m1 x1 v r f
    have q : EPost F W G O M ρ σ H ⟨false, e.p, e.f⟩ (if noL x = true then .ok (x, ρ1) else .bad) Q := q
    by_cases hn : noL x = true
    · rw [if_pos hn] at q
      exact q H1 S1 m1 x1 v (r.noL hn) f
    · rw [if_neg hn] at q; exact q.elim⟩⟩
/-! ### xs.m(e, ..) -/
/-- a method that changes the list at l -/
structure VMt (K : PySem.W.Frag) (r : V → List V → Hp → VK → Prop) (g : List D → List D → Option (D × List D)) : Prop where
  go : ∀ (H : Hp) (l : Addr) (xs ds : List D) (vs ws : List V) (d : D) (ys : List D) (Q : VK), H l = some (.lst vs) → RpL K No H xs vs → RpL K No H ds ws → g xs ds = some (d, ys) → (∀ v us, RpL K No H ys us → Rp K No H d v → Q v (upd H l (.lst us))) → r (.ref l) ws H Q
def isLst : Option Ob → Bool
  | some (.lst _) => true
  | _ => false
theorem isLst_of {o : Option Ob} (h : isLst o = true) : ∃ xs, o = some (.lst xs) := by
  cases o with
  | none => cases h
  | some ob => cases ob <;> first | exact ⟨_, rfl⟩ | cases h
def eMeth (g : List D → List D → Option (D × List D)) (i : Nat) (a : LM) : EM := fun ρ => if isLst (getOb ρ i) = true then (a ρ).bind fun x => match getOb x.2 i with
  | some (.lst xs) => (oOut (g xs x.1)).bind fun z => if noL z.1 = true ∧ noLs z.2 = true then .ok (z.1, setOb x.2 i (.lst z.2)) else .bad
  | _ => .bad
  else .bad
theorem co_meth {i : Nat} {r : V → List V → Hp → VK → Prop} {g : List D → List D → Option (D × List D)} {ta : TA} {ma : LM} {b p : Bool} (ha : CoA F W ta ma b p) (hr : VMt F.K r g) : CoE F W (tBM F.K "list" r (tVar i) ta) (eMeth g i ma) ⟨false, false, false⟩ := ⟨fun G O M ρ σ H Q S h => by
  unfold eMeth at h
  by_cases h0 : isLst (getOb ρ i) = true
  case neg => rw [if_neg h0] at h; exact h.elim
  rw [if_pos h0] at h
  obtain ⟨xs0, eo⟩ := isLst_of h0
  obtain ⟨ad, u0, sv, q1, q2, q3, q4, q5, q6, q7⟩ := getOb_at S eo
  obtain ⟨vs0, rfl⟩ : ∃ vs, u0 = .lst vs := by
    cases u0 <;> first | exact ⟨_, rfl⟩ | exact q6.elim
  refine ⟨_, q3, .inl ⟨rfl, vs0, SqL.of q5⟩, ha.go G O M ρ σ H _ S ?_⟩
  cases er : ma ρ with
  | bad => rw [er] at h; exact h
  | exc c d => rw [er] at h; exact h
  | ok x =>
    obtain ⟨ds, ρ1⟩ := x
    rw [er] at h
    intro H1 S1 m1 x1 ws rw1
    have h : EPost F W G O M ρ σ H ⟨false, false, false⟩ (match getOb ρ1 i with
      | some (.lst xs) => (oOut (g xs ds)).bind fun z => if noL z.1 = true ∧ noLs z.2 = true then .ok (z.1, setOb ρ1 i (.lst z.2)) else .bad
      | _ => .bad) Q := h
    cases eo1 : getOb ρ1 i with
    | none => rw [eo1] at h; exact h.elim
    | some ob1 =>
      rw [eo1] at h
      cases ob1 with
      | lst xs =>
        obtain ⟨ad', u1, sv1, w1, w2, w3, w4, w5, w6, w7⟩ := getOb_at S1 eo1
        rw [q3] at w3
        cases w3
        cases u1 with
        | lst vs =>
          have h : EPost F W G O M ρ σ H ⟨false, false, false⟩ ((oOut (g xs ds)).bind fun z => if noL z.1 = true ∧ noLs z.2 = true then .ok (z.1, setOb ρ1 i (.lst z.2)) else .bad) Q := h
          cases eg : g xs ds with
          | none => rw [eg] at h; exact h.elim
          | some z =>
            obtain ⟨d, ys⟩ := z
            rw [eg] at h
            have h : EPost F W G O M ρ σ H ⟨false, false, false⟩ (if noL d = true ∧ noLs ys = true then .ok (d, setOb ρ1 i (.lst ys)) else .bad) Q := h
            by_cases hn : noL d = true ∧ noLs ys = true
            case neg => rw [if_neg hn] at h; exact h.elim
            rw [if_pos hn] at h
            refine hr.go H1 ad xs ds vs ws d ys Q w5 w6.2 (rw1.sub fun _ z => z.elim) eg fun v us r1 r2 => ?_
            have hw : Hx (fun b => b = ad) H1 (upd H1 ad (.lst us)) := Hx.write rfl ⟨_, w5, fun z => z⟩
            have ht : LamX.Tabs F.T (upd H1 ad (.lst us)) := fun q hq => by
              obtain ⟨ps, t1, t2, t3⟩ := S1.tabs q hq
              refine ⟨ps, by rw [upd_ne (fun z => by rw [z, w5] at t1; cases t1)]; exact t1, t2, fun pos cv hc => ?_⟩
              obtain ⟨c, z1, z2⟩ := t3 pos cv hc
              exact ⟨c, z1, by rw [upd_ne (fun z => by rw [z, w5] at z2; cases z2)]; exact z2⟩
            have Z := S1.wrote eo1 q3 (U := fun b => b = ad) (fun b z => z) hw ht upd_same (show ObR F.K (upd H1 ad (.lst us)) (.lst ys) (.lst us) from ⟨hn.2, r1.mvN hw.fixed hn.2⟩)
            exact h _ Z (m1.trans (setOb_sim ρ1 i (.lst ys)).1) (x1.pm.trans (hw.mono fun b z => by rw [z]; exact w4) |>.mono fun b z => ⟨rfl, z⟩) v (r2.mvN hw.fixed hn.1) fun z => nomatch z
        | _ => exact w6.elim
      | _ => exact h.elim⟩
end
end Mi

set_option Elab.async false
set_option linter.all false
set_option maxRecDepth 100000
set_option maxHeartbeats 4000000
/-! Mi14: append, extend, pop; items stored; dicts; the script. -/
namespace Mi
open PySem PySem.Spec PyProof.Rows L2
section
variable {K : PySem.W.Frag}
def gAppend (xs ds : List D) : Option (D × List D) := match ds with
  | [d] => if xs.length < maxSz then some (.none, xs ++ [d]) else none
  | _ => none
theorem vm_append : VMt K rAppend gAppend := ⟨fun H l xs ds vs ws d ys Q hl r1 r2 e k => by
  unfold gAppend at e
  split at e
  · split at e
    · rename_i dd h
      cases e
      cases r2 with
      | cons r t =>
        cases t
        exact ⟨l, vs, _, rfl, rfl, hl, by rw [← r1.len]; exact Nat.lt_of_lt_of_le h maxSz_le, k _ _ (r1.app (.cons r .nil)) .non⟩
    · cases e
  · cases e⟩
def gExtend (xs ds : List D) : Option (D × List D) := match ds with
  | [.list zs] => if xs.length + zs.length ≤ maxSz then some (.none, xs ++ zs) else none
  | _ => none
theorem vm_extend : VMt K rExtend gExtend := ⟨fun H l xs ds vs ws d ys Q hl r1 r2 e k => by
  unfold gExtend at e
  split at e
  · split at e
    · rename_i zs h
      cases e
      cases r2 with
      | cons r t =>
        cases t
        obtain ⟨b, us, rfl, hb, l2⟩ := rp_ls r
        exact ⟨l, b, vs, us, rfl, rfl, hl, hb, by rw [← r1.len, ← l2.len]; exact sz_le h, k _ _ (r1.app l2) .non⟩
    · cases e
  · cases e⟩
end
section
variable {X : Cx} {F : Fr} {W : WX}
theorem me_append (i : Nat) {x : Str} {pv apos cpos : Pos} {e : Expr} {t : TA} {am : LM} {b p : Bool} (ha : MA X F W [e] t am b p) (hN : X.N[i]? = some x := by rfl) (hv : Vis X.env.scope x := by first | exact Or.inl rfl | exact Or.inr (Or.inl rfl) | exact Or.inr (Or.inr rfl)) (hd : (x == ("__debug__" : Str)) = false := by decide) (hcd : (x == ("__classdict__" : Str)) = false := by decide)
    (hbase : attributeBase (.Name x pv) "append" X.env (eval (.Name x pv) X.env) = eval (.Name x pv) X.env := by rfl) (hline : (apos.endLine == cpos.line) = true := by rfl) (hs : starEach [e] X.env = [(false, eval e X.env)] := by rfl)
    (hfew : ((backTo cpos (starEach [e] X.env)).all (fun x => !x.1) && (backToKw cpos (keywordEach [] X.env)).all (fun x => x.1.isSome) && decide ([e].length + ([] : List Keyword).length + (if ([] : List Keyword).isEmpty then 0 else 1) < 30)) = true := by rfl) :
    ME X F W (.Call (.Attribute (.Name x pv) "append" apos) [e] [] cpos) (tBM F.K "list" rAppend (tVar i) t) (eMeth gAppend i am) ⟨false, false, false⟩ := ME.castK (t := fun K => (tBM K "list" rAppend (tVar i) t)) (show ME X F W (.Call (.Attribute (.Name x pv) "append" apos) [e] [] cpos) (tBM X.K "list" rAppend (tVar i) t) (eMeth gAppend i am) ⟨false, false, false⟩ from ⟨ha.k, pe_bm PySem.F.plainAttrs_list PySem.F.slot_list_append PySem.F.type_list_append mt_append (pe_var (i := i) hN hv hd hcd) ha.pe hbase hfew hline hs rfl, by
    have q := co_meth (i := i) ha.co vm_append
    rw [← ha.k] at q
    exact q⟩)
theorem me_extend (i : Nat) {x : Str} {pv apos cpos : Pos} {e : Expr} {t : TA} {am : LM} {b p : Bool} (ha : MA X F W [e] t am b p) (hN : X.N[i]? = some x := by rfl) (hv : Vis X.env.scope x := by first | exact Or.inl rfl | exact Or.inr (Or.inl rfl) | exact Or.inr (Or.inr rfl)) (hd : (x == ("__debug__" : Str)) = false := by decide) (hcd : (x == ("__classdict__" : Str)) = false := by decide)
    (hbase : attributeBase (.Name x pv) "extend" X.env (eval (.Name x pv) X.env) = eval (.Name x pv) X.env := by rfl) (hline : (apos.endLine == cpos.line) = true := by rfl) (hs : starEach [e] X.env = [(false, eval e X.env)] := by rfl)
    (hfew : ((backTo cpos (starEach [e] X.env)).all (fun x => !x.1) && (backToKw cpos (keywordEach [] X.env)).all (fun x => x.1.isSome) && decide ([e].length + ([] : List Keyword).length + (if ([] : List Keyword).isEmpty then 0 else 1) < 30)) = true := by rfl) :
    ME X F W (.Call (.Attribute (.Name x pv) "extend" apos) [e] [] cpos) (tBM F.K "list" rExtend (tVar i) t) (eMeth gExtend i am) ⟨false, false, false⟩ := ME.castK (t := fun K => (tBM K "list" rExtend (tVar i) t)) (show ME X F W (.Call (.Attribute (.Name x pv) "extend" apos) [e] [] cpos) (tBM X.K "list" rExtend (tVar i) t) (eMeth gExtend i am) ⟨false, false, false⟩ from ⟨ha.k, pe_bm PySem.F.plainAttrs_list PySem.F.slot_list_extend PySem.F.type_list_extend mt_extend (pe_var (i := i) hN hv hd hcd) ha.pe hbase hfew hline hs rfl, by
    have q := co_meth (i := i) ha.co vm_extend
    rw [← ha.k] at q
    exact q⟩)
/-! ### xs[b] = e -/
def setIxOf (o : Option Ob) (k x : D) : Option (List D) := match o, k with
  | some (.lst xs), .int k => (ixN xs.length k).bind fun j => if noL x = true then some (xs.set j x) else none
  | _, _ => none
theorem setIxOf_ok {o : Option Ob} {k x : D} {ys : List D} (h : setIxOf o k x = some ys) : ∃ xs i j, o = some (.lst xs) ∧ k = .int i ∧ ixN xs.length i = some j ∧ noL x = true ∧ ys = xs.set j x := by
  unfold setIxOf at h
  split at h
  · rename_i xs i
    cases q : ixN xs.length i with
    | none => rw [q] at h; cases h
    | some j =>
      rw [q] at h
      have h : (if noL x = true then some (xs.set j x) else none) = some ys := h
      by_cases hx : noL x = true
      · rw [if_pos hx] at h; cases h; exact ⟨xs, i, j, rfl, rfl, q, hx, rfl⟩
      · rw [if_neg hx] at h; cases h
  · cases h
def sSetIx (i : Nat) (a b : EM) : SM := fun ρ => (a ρ).bind fun x => if isLst (getOb x.2 i) = true then (b x.2).bind fun y => (oOut (setIxOf (getOb y.2 i) y.1 x.1)).bind fun ys => .ok (.nx, setOb y.2 i (.lst ys)) else .bad
theorem noLs_set : ∀ {xs : List D} {d : D} (j : Nat), noLs xs = true → noL d = true → noLs (xs.set j d) = true
  | [], _, _, _, _ => rfl
  | _ :: _, _, 0, h, hd => by
    unfold noLs at h
    rw [List.set_cons_zero]
    unfold noLs
    rw [hd, (Bool.and_eq_true_iff.mp h).2]
    rfl
  | _ :: _, _, j + 1, h, hd => by
    unfold noLs at h
    rw [List.set_cons_succ]
    unfold noLs
    rw [(Bool.and_eq_true_iff.mp h).1, noLs_set j (Bool.and_eq_true_iff.mp h).2 hd]
    rfl
theorem tabs_write {T : List (Addr × Str)} {H : Hp} {a : Addr} {o u : HO} (t : LamX.Tabs T H) (ha : H a = some o) (h1 : ∀ ps, o ≠ .tbl ps) (h2 : ∀ c q, o ≠ LamX.CodeO c q) : LamX.Tabs T (upd H a u) := fun q hq => by
  obtain ⟨ps, t1, t2, t3⟩ := t q hq
  refine ⟨ps, by rw [upd_ne (fun z => by rw [z, ha] at t1; exact h1 _ (Option.some.inj t1))]; exact t1, t2, fun pos cv hc => ?_⟩
  obtain ⟨c, z1, z2⟩ := t3 pos cv hc
  exact ⟨c, z1, by rw [upd_ne (fun z => by rw [z, ha] at z2; exact h2 _ _ (Option.some.inj z2))]; exact z2⟩
theorem cs_setIx {fr : Bool} {i : Nat} {ta tb : TE} {ma mb : EM} {e1 e2 : Ef} (ha : CoE F W ta ma e1) (hb : CoE F W tb mb e2) : CoS F W fr (tAsg ta (gSub (tVar i) tb rSetL)) (sSetIx i ma mb) := ⟨fun G O M ρ σ H E S h => by
  unfold sSetIx at h
  refine ha.go G O M ρ σ H _ S ?_
  cases er : ma ρ with
  | bad => rw [er] at h; exact h
  | exc c d => rw [er] at h; exact h
  | ok x =>
    obtain ⟨x, ρ1⟩ := x
    rw [er] at h
    intro H1 S1 m1 x1 v r1 _
    have h : SPost F W G fr (if isLst (getOb ρ1 i) = true then (mb ρ1).bind fun y => (oOut (setIxOf (getOb y.2 i) y.1 x)).bind fun ys => .ok (.nx, setOb y.2 i (.lst ys)) else .bad) E := h
    by_cases h0 : isLst (getOb ρ1 i) = true
    case neg => rw [if_neg h0] at h; exact h.elim
    rw [if_pos h0] at h
    obtain ⟨xs0, eo⟩ := isLst_of h0
    obtain ⟨ad, u0, sv, q1, q2, q3, q4, q5, q6, q7⟩ := getOb_at S1 eo
    refine ⟨_, q3, ?_⟩
    cases hx : noL x with
    | false =>
      refine hb.go G O M ρ1 σ H1 _ S1 ?_
      cases eb : mb ρ1 with
      | bad => rw [eb] at h; exact h
      | exc c d => rw [eb] at h; exact h
      | ok y =>
        obtain ⟨y, ρ2⟩ := y
        rw [eb] at h
        exfalso
        have h : SPost F W G fr ((oOut (setIxOf (getOb ρ2 i) y x)).bind fun ys => .ok (.nx, setOb ρ2 i (.lst ys))) E := h
        cases es : setIxOf (getOb ρ2 i) y x with
        | none => rw [es] at h; exact h
        | some ys =>
          obtain ⟨_, _, _, _, _, _, hx', _⟩ := setIxOf_ok es
          rw [hx] at hx'
          cases hx'
    | true =>
      have S1' := S1.ghost (r1.noL (O' := O) hx)
      refine hb.go ((x, v) :: G) O M ρ1 σ H1 _ S1' ?_
      cases eb : mb ρ1 with
      | bad => rw [eb] at h; exact h
      | exc c d => rw [eb] at h; exact ExP.ghosts (g := [(x, v)]) (show ExP F W G c d from h)
      | ok y =>
        obtain ⟨y, ρ2⟩ := y
        rw [eb] at h
        intro H2 S2' m2 x2 u r2 _
        have rv2 : Rp F.K O H2 x v := S2'.gh (x, v) List.mem_cons_self
        have S2 : SR F G O M ρ2 σ H2 := S2'.unghost fun p hp => List.mem_cons_of_mem _ hp
        have h : SPost F W G fr ((oOut (setIxOf (getOb ρ2 i) y x)).bind fun ys => .ok (.nx, setOb ρ2 i (.lst ys))) E := h
        cases es : setIxOf (getOb ρ2 i) y x with
        | none => rw [es] at h; exact h.elim
        | some ys =>
          rw [es] at h
          obtain ⟨xs, k, j, eo2, rfl, ej, _, rfl⟩ := setIxOf_ok es
          obtain ⟨ad', u1, sv1, w1, w2, w3, w4, w5, w6, w7⟩ := getOb_at S2 eo2
          rw [q3] at w3
          cases w3
          cases u1 with
          | lst vs =>
            cases r2
            refine ⟨ad, vs, k, j, rfl, rfl, w5, by rw [← w6.2.len]; exact ej, ?_⟩
            have hw : Hx (fun b => b = ad) H2 (upd H2 ad (.lst (vs.set j v))) := Hx.write rfl ⟨_, w5, fun z => z⟩
            have ht : LamX.Tabs F.T (upd H2 ad (.lst (vs.set j v))) := tabs_write S2.tabs w5 (fun _ z => by cases z) fun _ _ z => by unfold LamX.CodeO at z; cases z
            have hn := noLs_set j w6.1 hx
            have Z := S2.wrote eo2 q3 (U := fun b => b = ad) (fun b z => z) hw ht upd_same (show ObR F.K (upd H2 ad (.lst (vs.set j v))) (.lst (xs.set j x)) (.lst (vs.set j v)) from ⟨hn, (w6.2.set j (rv2.noL hx)).mvN hw.fixed hn⟩)
            exact h O M σ _ Z
          | _ => exact w6.elim⟩
theorem ms_setIx (i : Nat) {fr : Bool} {x : Str} {pv tpos pos : Pos} {b e : Expr} {ta tb : TE} {ma mb : EM} {e1 e2 : Ef} (he : ME X F W e ta ma e1) (hb : ME X F W b tb mb e2) (hN : X.N[i]? = some x := by rfl) (hv : Vis X.env.scope x := by first | exact Or.inl rfl | exact Or.inr (Or.inl rfl) | exact Or.inr (Or.inr rfl)) (hd : (x == ("__debug__" : Str)) = false := by decide) (hcd : (x == ("__classdict__" : Str)) = false := by decide)
    (ha : ∀ v, assign (.Subscript (.Name x pv) b tpos) X.env v = (do
      let ov ← holding [v] (eval (.Name x pv) X.env)
      let iv ← holding [v, ov] (eval b X.env)
      standAt tpos
      holding [v, ov, iv] (setItem ov iv v)
      release [v, ov, iv] []) := by intro _; rfl)
    (hs : swapsWithSole [.Subscript (.Name x pv) b tpos] e pos.line X.env = pure false := by rfl) (hw : swappedStores [.Subscript (.Name x pv) b tpos] e X.env = pure none := by rfl) (h1 : (assignEach [.Subscript (.Name x pv) b tpos] X.env).map (·.2) = [assign (.Subscript (.Name x pv) b tpos) X.env] := by rfl) :
    MS X F W fr (.Assign [.Subscript (.Name x pv) b tpos] e pos) (tAsg ta (gSub (tVar i) tb rSetL)) (sSetIx i ma mb) := ⟨he.k, ps_asg he.pe (pg_sub (pe_var (i := i) hN hv hd hcd) hb.pe set_list ha) hs hw h1, cs_setIx he.co hb.co⟩
/-! ### the script -/
def eScLen (i : Nat) : EM := fun ρ => match ρ[i]? with
  | some (.sc ns) => .ok (.int ns.length, ρ)
  | _ => .bad
theorem me_scLen (i : Nat) {x : Str} {p pv pos : Pos} (hK : X.K = F.K) (hm : X.mg "len" = none) (hN : X.N[i]? = some x := by rfl) (hv : Vis X.env.scope x := by first | exact Or.inl rfl | exact Or.inr (Or.inl rfl) | exact Or.inr (Or.inr rfl)) (hd : (x == ("__debug__" : Str)) = false := by decide) (hcd : (x == ("__classdict__" : Str)) = false := by decide)
    (hg : Gl X "len" := by rfl) (he : starEach [.Name x pv] X.env = [(false, eval (.Name x pv) X.env)] := by rfl) : ME X F W (.Call (.Name "len" p) [.Name x pv] [] pos) (tCB (rLen2 F.K) (tCons (tVar i) tNil)) (eScLen i) ⟨false, true, false⟩ := ME.castK (t := fun K => (tCB (rLen2 K) (tCons (tVar i) tNil))) (show ME X F W (.Call (.Name "len" p) [.Name x pv] [] pos) (tCB (rLen2 X.K) (tCons (tVar i) tNil)) (eScLen i) ⟨false, true, false⟩ from ⟨hK, pe_callB call_len hg hm boot_len (pa_cons (pe_var (i := i) hN hv hd hcd) pa_nil he) (by decide) (by decide) he, ⟨fun G O M ρ σ H Q S h => by
    unfold eScLen at h
    cases e : ρ[i]? with
    | none => rw [e] at h; exact h.elim
    | some sv =>
      rw [e] at h
      cases sv with
      | sc ns =>
        have l : i < σ.length := by rw [← S.len]; exact (List.getElem?_eq_some_iff.mp e).1
        obtain ⟨a, ea, fz⟩ := S.sl i _ σ[i] e (by simp [l])
        refine ⟨.ref a, by simp [l, ea], .ref a, _, rfl, .inl ⟨_, by rw [hK]; exact fz.sq, rfl⟩, ?_⟩
        rw [List.length_map]
        exact h H S (Sim.refl ρ) (Hx.refl _ H) _ (.int _) fun z => nomatch z
      | _ => exact h.elim⟩⟩)
def eScIx (i : Nat) (b : EM) : EM := fun ρ => match ρ[i]? with
  | some (.sc ns) => (b ρ).bind fun y => match y.1 with
    | .int k => (oOut (atI ns k)).bind fun z => .ok (PyData.int z, y.2)
    | _ => .bad
  | _ => .bad
theorem me_scIx (i : Nat) {x : Str} {pv pos : Pos} {b : Expr} {tb : TE} {mb : EM} {e2 : Ef} (hb : ME X F W b tb mb e2) (hN : X.N[i]? = some x := by rfl) (hv : Vis X.env.scope x := by first | exact Or.inl rfl | exact Or.inr (Or.inl rfl) | exact Or.inr (Or.inr rfl)) (hd : (x == ("__debug__" : Str)) = false := by decide) (hcd : (x == ("__classdict__" : Str)) = false := by decide)
    (hs : PlainIx b := by intro _ _; rfl) : ME X F W (.Subscript (.Name x pv) b pos) (tOp (rIxL F.K) (tVar i) tb) (eScIx i mb) ⟨false, e2.p, false⟩ := ME.castK (t := fun K => (tOp (rIxL K) (tVar i) tb)) (show ME X F W (.Subscript (.Name x pv) b pos) (tOp (rIxL X.K) (tVar i) tb) (eScIx i mb) ⟨false, e2.p, false⟩ from ⟨hb.k, pe_ix ix_list (pe_var (i := i) hN hv hd hcd) hb.pe hs, ⟨fun G O M ρ σ H Q S h => by
    unfold eScIx at h
    cases e : ρ[i]? with
    | none => rw [e] at h; exact h.elim
    | some sv =>
      rw [e] at h
      cases sv with
      | sc ns =>
        have l : i < σ.length := by rw [← S.len]; exact (List.getElem?_eq_some_iff.mp e).1
        obtain ⟨a, ea, fz⟩ := S.sl i _ σ[i] e (by simp [l])
        refine ⟨.ref a, by simp [l, ea], hb.co.go G O M ρ σ H _ S ?_⟩
        have h : Post F W G O M ρ σ H e2.p ((mb ρ).bind fun y => match y.1 with
          | .int k => (oOut (atI ns k)).bind fun z => .ok (PyData.int z, y.2)
          | _ => .bad) _ := h
        cases q : mb ρ with
        | bad => rw [q] at h; exact h
        | exc c d => rw [q] at h; exact h
        | ok y =>
          obtain ⟨y, ρ1⟩ := y
          rw [q] at h
          intro H1 S1 m1 x1 u r1 _
          cases y with
          | int k =>
            cases r1
            have h : Post F W G O M ρ σ H e2.p ((oOut (atI ns k)).bind fun z => .ok (PyData.int z, ρ1)) _ := h
            cases ez : atI ns k with
            | none => rw [ez] at h; exact h.elim
            | some z =>
              rw [ez] at h
              have fz1 := fz.keep (H' := H1) x1.fixed
              refine ⟨a, ns.map V.int, k, .int z, rfl, rfl, by rw [hb.k]; exact fz1.sq, ?_, h H1 S1 m1 x1 _ (.int _) fun z => nomatch z⟩
              unfold atI at ez ⊢
              rw [List.length_map]
              cases ej : ixN ns.length k with
              | none => rw [ej] at ez; cases ez
              | some j =>
                rw [ej] at ez
                have ez : ns[j]? = some z := ez
                show (ns.map V.int)[j]? = some (.int z)
                rw [List.getElem?_map, ez]
                rfl
          | _ => exact h.elim
      | _ => exact h.elim⟩⟩)
end
end Mi

set_option Elab.async false
set_option linter.all false
set_option maxRecDepth 100000
set_option maxHeartbeats 4000000
/-! Mi15: dicts of the def's own. -/
namespace Mi
open PySem PySem.Spec PyProof.Rows L2
section
variable {F : Fr} {W : WX} {G : List (D × V)} {O M : Addr → Prop} {ρ ρ1 : List Sv} {σ : L2.St} {H H2 : Hp}
theorem SR.ownNew {i : Nat} {a : Addr} {u : HO} {o : Ob} {r : List Sv} (S : SR F G O M ρ σ H) (S1 : SR F G O M ρ1 σ H2) (m1 : Sim ρ ρ1) (x1 : Hx M H H2) (n : H a = none) (ea : H2 a = some u) (ob : ObR F.K H2 o u) (e2 : setV ρ1 i (.ow o) = some r) :
    SR F G (fun b => O b ∨ b = a) (fun b => M b ∨ b = a) r (σ.set i (some (.ref a))) H2 := by
  obtain ⟨er, hi, no⟩ := setV_some e2
  subst er
  have nO : ¬ O a := fun z => S.dom a z n
  have nM : ¬ M a := fun z => nO (S.mo a z)
  have wider : ∀ {sv : Sv} {x : Option V}, sv.own = true → SlR F O M H2 sv x → SlR F (fun b => O b ∨ b = a) (fun b => M b ∨ b = a) H2 sv x := fun {sv x} ow q => by
    cases sv with
    | ow o => obtain ⟨b, w, z1, z2, z3⟩ := q; exact ⟨b, w, z1, .inl z2, z3⟩
    | io o => obtain ⟨b, w, z1, z2, z3⟩ := q; exact ⟨b, w, z1, .inl z2, z3⟩
    | _ => cases ow
  have S2 : SR F G (fun b => O b ∨ b = a) M ρ1 σ H2 := S.avoid x1 S1.tabs (fun _ z => .inl z) (fun b z => z.imp id fun q => by rw [q]; exact n) (fun b z => z.elim (S1.dom b) fun q => by rw [q, ea]; exact fun z => by cases z) m1 fun j sv x y1 y2 ow => by
    have q := S1.sl j sv x y1 y2
    cases sv <;> first | exact q | cases ow
  have S3 : SR F G (fun b => O b ∨ b = a) (fun b => M b ∨ b = a) ρ1 σ H2 := ⟨S2.len, S2.hx, S2.tabs, S2.ofo, fun b z => z.imp (S.mo b) id, S2.wf, fun b z => z.elim (S2.mw b) fun q => .inr (by rw [q]; exact S.hx.fresh n), S2.dom, (fun j sv x y1 y2 => by
    cases hs : sv.own with
    | true => exact wider hs (S1.sl j sv x y1 y2)
    | false =>
      have q := S2.sl j sv x y1 y2
      cases sv <;> first | exact q | cases hs), S2.dis, S2.gh, S2.ioa⟩
  refine S3.set hi no ⟨a, u, rfl, .inr rfl, fun z => nO (S.ofo a z), ea, ob⟩ (fun _ j b p hj y3 o3 y4 y5 => ?_) fun o z => by cases z
  cases y4
  have q := S1.sl j b _ y3 y5
  cases b with
  | ow o => obtain ⟨_, _, z1, z2, _⟩ := q; cases z1; exact nM z2
  | io o => obtain ⟨_, _, z1, z2, _⟩ := q; cases z1; exact nM z2
  | _ => cases o3
end
/-! ### tables -/
section
variable {κ : Type} [DecidableEq κ]
def getD' (kvs : List (κ × D)) (k : κ) : Option D := (kvs.find? fun kv => decide (kv.1 = k)).map (·.2)
def putD (kvs : List (κ × D)) (k : κ) (v : D) : List (κ × D) := if (kvs.any fun kv => decide (kv.1 = k)) = true then kvs.map (fun kv => if kv.1 = k then (kv.1, v) else kv) else kvs ++ [(k, v)]
theorem get_rel {K : PySem.W.Frag} {H : Hp} {k : κ} : ∀ {a : List (κ × D)} {b : List (κ × V)}, Paired (PRel K H) a b → (∀ d, getD' a k = some d → ∃ v, valV b k = some v ∧ noL d = true ∧ Rp K No H d v) ∧ (getD' a k = none → valV b k = none)
  | _, _, .nil => ⟨fun _ e => (by cases e), fun _ => rfl⟩
  | p :: _, q :: _, .cons ⟨h1, h2, h3⟩ t => by
    obtain ⟨ih1, ih2⟩ := get_rel (k := k) t
    unfold getD' valV at *
    by_cases e : p.1 = k
    · have e' : q.1 = k := by rw [← h1]; exact e
      simp only [List.find?_cons, e, e', decide_true, Option.map_some]
      exact ⟨fun d z => (by cases z; exact ⟨_, rfl, h2, h3⟩), fun z => by cases z⟩
    · have e' : ¬ q.1 = k := by rw [← h1]; exact e
      simp only [List.find?_cons, e, e', decide_false]
      exact ⟨ih1, ih2⟩
theorem any_rel {K : PySem.W.Frag} {H : Hp} {k : κ} : ∀ {a : List (κ × D)} {b : List (κ × V)}, Paired (PRel K H) a b → (a.any fun kv => decide (kv.1 = k)) = b.any fun kv => decide (kv.1 = k)
  | _, _, .nil => rfl
  | p :: _, q :: _, .cons ⟨h1, h2, h3⟩ t => by rw [List.any_cons, List.any_cons, any_rel t, h1]
theorem paired_snoc {α β : Type} {R : α → β → Prop} {x : α} {y : β} (r : R x y) : ∀ {a : List α} {b : List β}, Paired R a b → Paired R (a ++ [x]) (b ++ [y])
  | _, _, .nil => .cons r .nil
  | _, _, .cons h t => .cons h (paired_snoc r t)
theorem map_rel {K : PySem.W.Frag} {H : Hp} {k : κ} {d : D} {v : V} (n : noL d = true) (r : Rp K No H d v) : ∀ {a : List (κ × D)} {b : List (κ × V)}, Paired (PRel K H) a b → Paired (PRel K H) (a.map fun kv => if kv.1 = k then (kv.1, d) else kv) (b.map fun kv => if kv.1 = k then (kv.1, v) else kv)
  | _, _, .nil => .nil
  | p :: _, q :: _, .cons ⟨h1, h2, h3⟩ t => by
    refine .cons ?_ (map_rel n r t)
    show PRel K H (if p.1 = k then (p.1, d) else p) (if q.1 = k then (q.1, v) else q)
    by_cases e : p.1 = k
    · have e' : q.1 = k := by rw [← h1]; exact e
      rw [if_pos e, if_pos e']
      exact ⟨h1, n, r⟩
    · have e' : ¬ q.1 = k := by rw [← h1]; exact e
      rw [if_neg e, if_neg e']
      exact ⟨h1, h2, h3⟩
theorem put_rel {K : PySem.W.Frag} {H : Hp} {k : κ} {d : D} {v : V} (n : noL d = true) (r : Rp K No H d v) {a : List (κ × D)} {b : List (κ × V)} (h : Paired (PRel K H) a b) : Paired (PRel K H) (putD a k d) (putK b k v) := by
  unfold putD putK
  rw [any_rel h]
  by_cases e : (b.any fun kv => decide (kv.1 = k)) = true
  · rw [if_pos e, if_pos e]; exact map_rel n r h
  · rw [if_neg e, if_neg e]; exact paired_snoc ⟨rfl, n, r⟩ h
end
def mergeD (kvs more : List (Key × D)) : List (Key × D) := more.foldl (fun acc kv => putD acc kv.1 kv.2) kvs
theorem merge_rel {K : PySem.W.Frag} {H : Hp} : ∀ {m : List (Key × D)} {n : List (Key × V)} {a : List (Key × D)} {b : List (Key × V)}, Paired (PRel K H) m n → Paired (PRel K H) a b → Paired (PRel K H) (mergeD a m) (mergeK b n)
  | _, _, _, _, .nil, h => h
  | p :: _, q :: _, _, _, .cons ⟨h1, h2, h3⟩ t, h => by
    unfold mergeD mergeK
    rw [List.foldl_cons, List.foldl_cons, h1]
    exact merge_rel t (put_rel h2 h3 h)
def keyD : D → Option Key
  | .int i => some (.inl i)
  | .str x => some (.inr x)
  | _ => none
theorem key_rel {K : PySem.W.Frag} {A : Addr → Prop} {H : Hp} {d : D} {v : V} {k : Key} (r : Rp K A H d v) (h : keyD d = some k) : v = kV k := by
  cases r <;> first | (cases h; rfl) | cases h
def pairD : D → Option (Key × D)
  | .tuple [k, v] => if noL v = true then (keyD k).map fun k => (k, v) else none
  | _ => none
def pairsD : List D → Option (List (Key × D))
  | [] => some []
  | d :: ds => (pairD d).bind fun p => (pairsD ds).map (p :: ·)
theorem pairs_rel {K : PySem.W.Frag} {A : Addr → Prop} {H : Hp} : ∀ {ds : List D} {vs : List V} {kvs : List (Key × D)}, RpL K A H ds vs → pairsD ds = some kvs → ∃ (ps : List Addr) (ws : List (Key × V)), vs = ps.map V.ref ∧ Paired (fun p kv => SqT K H p [kV kv.1, kv.2]) ps ws ∧ Paired (PRel K H) kvs ws
  | _, _, _, .nil, e => by cases e; exact ⟨[], [], rfl, .nil, .nil⟩
  | d :: ds, v :: vs, kvs, .cons r t, e => by
    unfold pairsD at e
    cases e1 : pairD d with
    | none => rw [e1] at e; cases e
    | some p =>
      rw [e1] at e
      obtain ⟨ks, e2, e3⟩ := Option.map_eq_some_iff.mp (show (pairsD ds).map (p :: ·) = some kvs from e)
      subst e3
      obtain ⟨ps, ws, f1, f2, f3⟩ := pairs_rel t e2
      unfold pairD at e1
      split at e1
      · rename_i kd vd
        split at e1
        · rename_i hn
          obtain ⟨k, e4, e5⟩ := Option.map_eq_some_iff.mp e1
          subst e5
          obtain ⟨b, us, rfl, hb, l⟩ := rp_tuple r
          cases l with
          | cons r1 l1 =>
            cases l1 with
            | cons r2 l2 =>
              cases l2
              rename_i v1 v2
              have ek := key_rel r1 e4
              subst ek
              exact ⟨b :: ps, (k, v2) :: ws, by rw [f1]; rfl, .cons hb f2, .cons ⟨rfl, hn, r2.noL hn⟩ f3⟩
        · cases e1
      · cases e1
section
variable {X : Cx} {F : Fr} {W : WX}
/-! ### name = dict(list of pairs) -/
def sDictP (i : Nat) (a : LM) : SM := fun ρ => (a ρ).bind fun x => match x.1 with
  | [.list ds] => (oOut (pairsD ds)).bind fun kvs => (oOut (setV x.2 i (.ow (.dK (mergeD [] kvs))))).bind fun r => .ok (.nx, r)
  | _ => .bad
abbrev rDictP (K : PySem.W.Frag) : List V → Hp → VK → Prop := fun xs H Q => ∃ (a : Addr) (ps : List Addr) (kvs : List (Key × V)), xs = [.ref a] ∧ SqL K H a (ps.map V.ref) ∧ Paired (fun p kv => SqT K H p [kV kv.1, kv.2]) ps kvs ∧ ∀ p, H p = none → Q (.ref p) (upd H p (.dK (mergeK [] kvs)))
theorem cs_dictP {fr : Bool} {i : Nat} {ta : TA} {ma : LM} {b p : Bool} (ha : CoA F W ta ma b p) : CoS F W fr (tAsg (tCB (rDictP F.K) ta) (gName i)) (sDictP i ma) := ⟨fun G O M ρ σ H E S h => by
  unfold sDictP at h
  refine ha.go G O M ρ σ H _ S ?_
  cases er : ma ρ with
  | bad => rw [er] at h; exact h
  | exc c d => rw [er] at h; exact h
  | ok x =>
    obtain ⟨x, ρ1⟩ := x
    rw [er] at h
    intro H1 S1 m1 x1 vs r
    match x, vs, r, h with
    | [.list ds], _, .cons r1 .nil, h =>
      have h : SPost F W G fr ((oOut (pairsD ds)).bind fun kvs => (oOut (setV ρ1 i (.ow (.dK (mergeD [] kvs))))).bind fun r => .ok (.nx, r)) E := h
      cases e1 : pairsD ds with
      | none => rw [e1] at h; exact h.elim
      | some kvs =>
        rw [e1] at h
        have h : SPost F W G fr ((oOut (setV ρ1 i (.ow (.dK (mergeD [] kvs))))).bind fun r => .ok (.nx, r)) E := h
        cases e2 : setV ρ1 i (.ow (.dK (mergeD [] kvs))) with
        | none => rw [e2] at h; exact h.elim
        | some r' =>
          rw [e2] at h
          obtain ⟨a, us, rfl, hq, l⟩ := rp_list r1
          obtain ⟨ps, ws, rfl, f2, f3⟩ := pairs_rel l e1
          refine ⟨a, ps, ws, rfl, hq, f2, fun q n => ?_⟩
          have sm : L2.Same H1 (upd H1 q (.dK (mergeK [] ws))) := same_new n
          have rel : Paired (PRel F.K (upd H1 q (.dK (mergeK [] ws)))) (mergeD [] kvs) (mergeK [] ws) := PRel.mv (fun b o e _ _ => sm b o e) (merge_rel f3 .nil)
          exact h _ _ _ _ (S1.ownNew (S1.same sm) (Sim.refl ρ1) (Hx.of_same sm) n upd_same (show ObR F.K _ (.dK (mergeD [] kvs)) (.dK (mergeK [] ws)) from rel) e2)
    | [], _, _, h => exact h.elim
    | .none :: _, _, _, h => exact h.elim
    | .bool _ :: _, _, _, h => exact h.elim
    | .int _ :: _, _, _, h => exact h.elim
    | .str _ :: _, _, _, h => exact h.elim
    | .tuple _ :: _, _, _, h => exact h.elim
    | .dict _ :: _, _, _, h => exact h.elim
    | .list _ :: _ :: _, _, _, h => exact h.elim⟩
theorem ms_dictP (i : Nat) {fr : Bool} {x : Str} {p pos spos pos' : Pos} {e : Expr} {t : TA} {am : LM} {b pp : Bool} (hc : X.calm = true) (hm : X.mg "dict" = none) (ha : MA X F W [e] t am b pp) (hN : X.N.Nodup := by exact of_decide_eq_true (by kernel_rfl)) (hi : X.N[i]? = some x := by rfl) (hx : Loc X.env.scope x := by first | exact Or.inl rfl | exact Or.inr rfl) (hs : swapsWith (.Call (.Name "dict" p) [e] [] pos) (some (.Name x pos')) spos.line X.env = pure false := by rfl)
    (hf : X.fn x = true ∨ X.env.scope.names.lookup x = some .local := by first | exact Or.inl rfl | exact Or.inr rfl) (hg : Gl X "dict" := by rfl) (he : starEach [e] X.env = [(false, eval e X.env)] := by rfl) :
    MS X F W fr (.Assign [.Name x pos'] (.Call (.Name "dict" p) [e] [] pos) spos) (tAsg (tCB (rDictP X.K) t) (gName i)) (sDictP i am) := ⟨ha.k, ps_set hN hi hx (pe_callTy (call_dictP hc) hg hm (by decide +kernel) ha.pe (by decide) (by decide) he) hs hf, by
    have q := cs_dictP (fr := fr) (i := i) ha.co
    rw [← ha.k] at q
    exact q⟩
/-! ### d[e], read -/
def getOf (o : Option Ob) (k : D) : Option D := match o with
  | some (.dK kvs) => (keyD k).bind fun k => getD' kvs k
  | _ => none
theorem getOf_ok {o : Option Ob} {k d : D} (h : getOf o k = some d) : ∃ kvs kk, o = some (.dK kvs) ∧ keyD k = some kk ∧ getD' kvs kk = some d := by
  unfold getOf at h
  split at h
  · rename_i kvs
    obtain ⟨kk, h1, h2⟩ := Option.bind_eq_some_iff.mp h
    exact ⟨kvs, kk, rfl, h1, h2⟩
  · cases h
def eDGet (i : Nat) (b : EM) : EM := fun ρ => if (getOb ρ i).isSome = true then (b ρ).bind fun y => (oOut (getOf (getOb y.2 i) y.1)).bind fun d => .ok (d, y.2) else .bad
theorem co_dget {i : Nat} {tb : TE} {mb : EM} {e2 : Ef} (hb : CoE F W tb mb e2) : CoE F W (tDGet (tVar i) tb) (eDGet i mb) ⟨false, e2.p, false⟩ := ⟨fun G O M ρ σ H Q S h => by
  unfold eDGet at h
  by_cases h0 : (getOb ρ i).isSome = true
  case neg => rw [if_neg h0] at h; exact h.elim
  rw [if_pos h0] at h
  obtain ⟨ob, eo⟩ := Option.isSome_iff_exists.mp h0
  obtain ⟨ad, _, _, _, _, q3, _⟩ := getOb_at S eo
  refine ⟨_, q3, hb.go G O M ρ σ H _ S ?_⟩
  cases q : mb ρ with
  | bad => rw [q] at h; exact h
  | exc c d => rw [q] at h; exact h
  | ok y =>
    obtain ⟨y, ρ1⟩ := y
    rw [q] at h
    intro H1 S1 m1 x1 u r1 _
    have h : Post F W G O M ρ σ H e2.p ((oOut (getOf (getOb ρ1 i) y)).bind fun d => .ok (d, ρ1)) _ := h
    cases eg : getOf (getOb ρ1 i) y with
    | none => rw [eg] at h; exact h.elim
    | some d =>
      rw [eg] at h
      obtain ⟨kvs, kk, eo1, ek, ev⟩ := getOf_ok eg
      obtain ⟨ad', u1, sv1, w1, w2, w3, w4, w5, w6, w7⟩ := getOb_at S1 eo1
      rw [q3] at w3
      cases w3
      cases u1 with
      | dK ws =>
        obtain ⟨v, f1, f2, f3⟩ := (get_rel (k := kk) w6).1 d ev
        have eu := key_rel r1 ek
        subst eu
        refine ⟨ad, v, rfl, ?_, h H1 S1 m1 x1 v (f3.noL f2) fun z => nomatch z⟩
        have g := DGet.k (k := kk) w5
        rw [f1] at g
        exact g
      | _ => exact w6.elim⟩
theorem me_dget (i : Nat) {S : Su} {k : Nat} {x : Str} {pv pos : Pos} {b : Expr} {tb : TE} {mb : EM} {e2 : Ef} (o : On S X F W k) (hb : ME X F W b tb mb e2) (hN : X.N[i]? = some x := by rfl) (hv : Vis X.env.scope x := by first | exact Or.inl rfl | exact Or.inr (Or.inl rfl) | exact Or.inr (Or.inr rfl)) (hd : (x == ("__debug__" : Str)) = false := by decide) (hcd : (x == ("__classdict__" : Str)) = false := by decide)
    (hs : NoSl b := by intro _ _; rfl) : ME X F W (.Subscript (.Name x pv) b pos) (tDGet (tVar i) tb) (eDGet i mb) ⟨false, e2.p, false⟩ := ⟨hb.k, pe_dget (by have := o.room.un; omega) (pe_var (i := i) hN hv hd hcd) hb.pe hs, co_dget hb.co⟩
end
end Mi

set_option Elab.async false
set_option linter.all false
set_option maxRecDepth 100000
set_option maxHeartbeats 4000000
/-! Mi16: try with except clauses without names. -/
namespace Mi
open PySem PySem.Spec PyProof.Rows L2
/-- the reading of statements: what is to be shown for the mirror -/
def tMirS (F : Fr) (W : WX) (fr : Bool) (m : SM) : TS := fun D σ H => ∃ G O M ρ, SR F G O M ρ σ H ∧ SPost F W G fr (m ρ) D
theorem pss_mir {X : Cx} {F : Fr} {W : WX} {fr : Bool} {b : List Stmt} {t : TS} {m : SM} (h : MSs X F W fr b t m) : PSs X b (tMirS F W fr m) := ⟨fun pins s σ H D I q => by
  obtain ⟨G, O, M, ρ, S, p⟩ := q
  exact h.pe.run pins s σ H D I (h.co.go G O M ρ σ H D S p)⟩
theorem cos_mir {F : Fr} {W : WX} {fr : Bool} {m : SM} : CoS F W fr (tMirS F W fr m) m := ⟨fun G O M ρ σ H E S h => ⟨G, O, M, ρ, S, h⟩⟩
abbrev Hm : Type := (String → Option Bool) × SM
/-- the clauses, one after another; they know no name's value -/
def goH : List Hm → Nat → String → D → Out (Fl × List Sv)
  | [], _, c, d => .exc c d
  | (f, h) :: r, n, c, d => match f c with
    | some true => (h (List.replicate n .un)).calm
    | some false => goH r n c d
    | none => .bad
def sTry (b : SM) (hs : List Hm) : SM := fun ρ => match b ρ with
  | .exc c d => goH hs ρ.length c d
  | .ok x => .ok x
  | .bad => .bad
/-- one clause: its class stands at C; what the mirror says of classes is so -/
structure HdM (X : Cx) (F : Fr) (fr : Bool) (h : ExceptHandler) (m : Hm) : Prop where
  ex : ∃ (x : Str) (C : Addr) (np pos' : Pos) (b₀ : Stmt) (suite : List Stmt), h = .ExceptHandler (some (.Name x np)) none (b₀ :: suite) pos' ∧ Names X x (.ref C) ∧ (∀ c b, m.1 c = some b → PySem.W.exmOne X.K (.ref (F.ca c)) (.ref C) = some b) ∧
    ∀ (a : Addr) (pn : List (Addr × Obj)), ∃ t, MSs (X.suite a pn) F WN fr (b₀ :: suite) t m.2
theorem hd_mk {X : Cx} {F : Fr} {fr : Bool} {x : Str} {C : Addr} {np pos' : Pos} {b₀ : Stmt} {suite : List Stmt} {f : String → Option Bool} {sm : SM} (nm : Names X x (.ref C)) (ex : ∀ c b, f c = some b → PySem.W.exmOne X.K (.ref (F.ca c)) (.ref C) = some b) (su : ∀ (a : Addr) (pn : List (Addr × Obj)), ∃ t, MSs (X.suite a pn) F WN fr (b₀ :: suite) t sm) :
    HdM X F fr (.ExceptHandler (some (.Name x np)) none (b₀ :: suite) pos') (f, sm) := ⟨⟨x, C, np, pos', b₀, suite, rfl, nm, ex, su⟩⟩
inductive HdMs (X : Cx) (F : Fr) (fr : Bool) : List ExceptHandler → List Hm → Prop
  | nil : HdMs X F fr [] []
  | cons {h : ExceptHandler} {m : Hm} {hs : List ExceptHandler} {ms : List Hm} : HdM X F fr h m → HdMs X F fr hs ms → HdMs X F fr (h :: hs) (m :: ms)
section
variable {X : Cx} {F : Fr} {W : WX} {fr : Bool}
theorem SPost.okW {W' : WX} {G : List (D × V)} {x : Fl × List Sv} {D : Ends} (h : SPost F W G fr (.ok x) D) : SPost F W' G fr (.ok x) D := by
  obtain ⟨x, ρ'⟩ := x
  cases x <;> exact h
theorem pss_len {X : Cx} {b : List Stmt} {t : TS} (h : PSs X b t) : PSs X b (fun D σ H => σ.length = X.N.length → t D σ H) := ⟨fun pins s σ H D I q => h.run pins s σ H D I (q I.len)⟩
theorem hds_ok {hs : List ExceptHandler} {ms : List Hm} (h : HdMs X F fr hs ms) : ∃ l, HdsOk X hs l ∧ ∀ (G : List (D × V)) (D : Ends) (c : String) (d : PyData), F.ios = [] → SPost F W G fr (goH ms X.N.length c d) D →
    ∀ (σ : L2.St) (dx : Addr) (v : V) (H' : Hp), Hx F.WF F.H0 H' → LamX.Tabs F.T H' → (F.ios = [] → SRu F G σ H') → H' dx = some (.xd [(("what" : Str), v)]) → Rp F.K F.OF H' d v → wMany X.K W D l (.ref (F.ca c)) (some dx) σ H' := by
  induction h with
  | nil => exact ⟨[], .nil, fun G D c d hi h σ dx v H' h1 h2 h3 h4 h5 => h σ dx v H' h1 h2 h3 h4 h5⟩
  | @cons h m hs ms hd _ ih =>
    obtain ⟨l, ok, ih⟩ := ih
    obtain ⟨x, C, np, pos', b₀, suite, rfl, nm, ex, su⟩ := hd.ex
    refine ⟨(.ref C, fun a cls d D σ H => σ.length = X.N.length → tMirS F WN fr m.2 D σ H) :: l, .cons nm (fun a oe cls d pn _ _ => ?_) ok, fun G D c d hi h σ dx v H' h1 h2 h3 h4 h5 => ?_⟩
    · obtain ⟨t, ht⟩ := su a ((a, oe) :: pn)
      exact pss_len (X := X.suite a ((a, oe) :: pn)) (pss_mir ht)
    · unfold goH at h
      cases e : m.1 c with
      | none => rw [e] at h; exact h.elim
      | some b =>
        rw [e] at h
        refine ⟨b, ex c b e, fun hb a na hl' => ?_, fun hb => ?_⟩
        · subst hb
          obtain ⟨O, M, n, S⟩ := h3 hi
          have hn : n = X.N.length := by have := S.len; rw [List.length_replicate] at this; omega
          subst hn
          refine ⟨G, O, M, _, S, ?_⟩
          have h : SPost F W G fr ((m.2 (List.replicate X.N.length .un)).calm) D := h
          cases em : m.2 (List.replicate X.N.length .un) with
          | bad => rw [em] at h; exact h.elim
          | exc c d => rw [em] at h; exact h.elim
          | ok x => rw [em] at h; exact SPost.okW (show SPost F W G fr (.ok x) D from h)
        · subst hb
          exact ih G D c d hi h σ dx v H' h1 h2 h3 h4 h5
theorem ms_try {S : Su} {k : Nat} {body : List Stmt} {h₀ : ExceptHandler} {hds : List ExceptHandler} {ms : List Hm} {m : SM} {pos : Pos} (o : On S X F W k) (hst : X.stack = X.env :: X.outer) (hf : X.env.frame = some X.env.locals) (hi : F.ios = [])
    (hb : ∀ (W' : WX) (pn : List (Addr × Obj)) (xe : Value → Shared → Prop), Takes (X.tr pn xe) W' → PassesOwn (model X.prog X.w) X.A X.env xe → ∃ t, MSs (X.tr pn xe) F W' fr body t m) (hh : HdMs X F fr (h₀ :: hds) ms) :
    MS X F W fr (.Try body (h₀ :: hds) [] [] pos) (tMirS F W fr (sTry m ms)) (sTry m ms) := by
  obtain ⟨l, ok, hw⟩ := hds_ok (W := W) hh
  refine ⟨o.K.trans o.FK.symm, ⟨fun pins s σ H D I q => ?_⟩, cos_mir⟩
  obtain ⟨G, O, M, ρ, Z, p⟩ := q
  have hlen : ρ.length = X.N.length := Z.len.trans I.len
  refine (ps_try_many hst hf o.tk (tb := fun W' D σ H => σ.length = X.N.length → tMirS F W' fr m D σ H) (fun W' pn xe tk ps => ?_) ok).run pins s σ H D I fun _ => ⟨G, O, M, ρ, Z, ?_⟩
  · obtain ⟨t, ht⟩ := hb W' pn xe tk ps
    exact pss_len (X := X.tr pn xe) (pss_mir ht)
  · unfold sTry at p
    cases e : m ρ with
    | bad => rw [e] at p; exact p
    | ok x => rw [e] at p; exact SPost.okW (show SPost F W G fr (.ok x) D from p)
    | exc c d =>
      rw [e] at p
      have p : SPost F W G fr (goH ms ρ.length c d) D := p
      rw [hlen] at p
      intro σ' dx v H' h1 h2 h3 h4 h5
      exact hw G D c d hi p σ' dx v H' h1 h2 h3 h4 h5
end
end Mi

set_option Elab.async false
set_option linter.all false
set_option maxRecDepth 100000
set_option maxHeartbeats 4000000
/-! Mi17: defs as the head tells them; the end of a law. -/
namespace Mi
open PySem PySem.Spec PyProof.Rows L2
/-! ### contexts within try -/
theorem On.tr {S : Su} {X : Cx} {F : Fr} {W W' : WX} {k : Nat} {pn : List (Addr × Obj)} {xe : Value → Shared → Prop} (h : On S X F W k) (tk : Takes (X.tr pn xe) W') : On S (X.tr pn xe) F W' k := ⟨h.P, h.w, h.K, h.mg, h.base, h.FK, h.FT, h.ca, tk, h.room, h.gd⟩
theorem On.hk {S : Su} {X : Cx} {F : Fr} {W : WX} {k : Nat} (h : On S X F W k) : X.K = F.K := h.K.trans h.FK.symm
theorem suite_hk {X : Cx} {F : Fr} (h : X.K = F.K) (a : Addr) (pn : List (Addr × Obj)) : (X.suite a pn).K = F.K := h
theorem Ent.tr {S : Su} {X : Cx} {F : Fr} {k : Nat} {pn : List (Addr × Obj)} {xe : Value → Shared → Prop} (h : Ent S X F k) : Ent S (X.tr pn xe) F k := ⟨h.h0, h.ex, h.cf⟩
theorem LamT.tr {S : Su} {X : Cx} {pn : List (Addr × Obj)} {xe : Value → Shared → Prop} (h : LamT S X) : LamT S (X.tr pn xe) := ⟨h.ex⟩
/-- a comprehension's block within: its code object is the def's -/
theorem LamT.blk {S : Su} {X : Cx} {scope : Scope} {s : Shared} {H : Hp} {C : Addr} {cl : List (Str × Addr)} {fp : List Addr} (h : LamT S X) : LamT S (Blk X scope s H C cl fp) := ⟨h.ex⟩
/-! ### defs -/
/-- what a def's body is shown in -/
structure BodyIn (S : Su) (kc k : Nat) (p : He.Defn) (qual : Str) (scope : Scope) (N : List Str) (f : Addr) (cdv : Value) (A : Around) (outer : List Env) (s : Shared) (H : Hp) (E : XK) (F : Fr) : Prop where
  on : On S (Bx S N qual scope f cdv A outer s H E) F (fun cls d _ H' => E cls d H') k
  en : Ent S (Bx S N qual scope f cdv A outer s H E) F kc
  code : cdv = .ref (He.codeOf S.K p)
theorem fnm_ofD {S : Su} {kc k : Nat} {p : He.Defn} {x qual : Str} {params : Arguments} {body : List Stmt} {scope : Scope} {dvs : List V} {kws : List (Str × V)} {fd : FuncData} {N ps : List Str} {fr : Bool} {sm : SM} (Fn : FunD S.K x qual params body scope dvs kws (He.fAd S.K p) fd) (Sc : FnScope N ps scope)
    (hbody : ∀ (f : Addr) (cdv : Value) (A : Around) (outer : List Env) (s : Shared) (H : Hp) (E : XK) (F : Fr), BodyIn S kc k p qual scope N f cdv A outer s H E F → ∃ t, MSs (Bx S N qual scope f cdv A outer s H E) F (fun cls d _ H' => E cls d H') fr body t sm) : FnM S kc (k + 1) (He.fAd S.K p) fd ps (mBody N.length fr sm) fr := by
  obtain ⟨oc, od, dV, kV, doc, pm, an, cdv, ct, osl, efd, lk, hcd, _⟩ := Fn.ex
  subst efd
  refine ⟨fun A outer s H args us vs Q E avs O U hr hg e0 hb hv hl pr => ?_⟩
  refine LamX.run_ofS lk hcd Sc hr e0 hb hv hl fun hr2 => ?_
  obtain ⟨c, hc⟩ := He.codeIn_ref hcd
  obtain ⟨t, ht⟩ := hbody (He.fAd S.K p) cdv A outer s H E (frOf S kc O U s H avs vs) ⟨on_body rfl rfl rfl hr2 hg, ⟨rfl, rfl, fun v r z => z⟩, by rw [hc, He.codeOf_eq lk hc]⟩
  have hpl : ps.length ≤ N.length := by
    have q := congrArg List.length Sc.pre
    rw [List.length_take] at q
    omega
  exact ⟨t, ht.pe, ht.co.go _ _ _ _ _ H _ (sr_start pr (by rw [hl]; exact hpl)) (sp_end pr)⟩
theorem ios_none {S : Su} {kc k : Nat} {p : He.Defn} {qual : Str} {scope : Scope} {N : List Str} {f : Addr} {cdv : Value} {A : Around} {outer : List Env} {s : Shared} {H : Hp} {E : XK} {F : Fr} (b : BodyIn S kc k p qual scope N f cdv A outer s H E F) : True := trivial
/-- the tables of the defs that make lambdas -/
def tabsT (K : PySem.W.Frag) (tf : List (He.Defn × Str)) : List (Addr × Str) := tf.map fun p => ((He.cT K p.1).2, p.2 ++ ".<locals>." ++ "<lambda>")
def tabsNd (tf : List (He.Defn × Str)) (K : PySem.W.Frag) : Bool := decide ((tf.map fun p => (He.cT K p.1).2).Nodup)
theorem nodup_inj {α β : Type} {f : α → β} : ∀ {l : List α} {a b : α}, (l.map f).Nodup → a ∈ l → b ∈ l → f a = f b → a = b
  | x :: r, a, b, h, ha, hb, e => by
    rw [List.map_cons, List.nodup_cons] at h
    rcases List.mem_cons.mp ha with ea | ha
    · rcases List.mem_cons.mp hb with eb | hb
      · rw [ea, eb]
      · exact absurd (by rw [← ea, e]; exact List.mem_map_of_mem hb) h.1
    · rcases List.mem_cons.mp hb with eb | hb
      · exact absurd (by rw [← eb, ← e]; exact List.mem_map_of_mem ha) h.1
      · exact nodup_inj h.2 ha hb e
theorem lamT_of {S : Su} {kc k : Nat} {p : He.Defn} {qual : Str} {scope : Scope} {N : List Str} {f : Addr} {cdv : Value} {A : Around} {outer : List Env} {s : Shared} {H : Hp} {E : XK} {F : Fr} {tf : List (He.Defn × Str)} (b : BodyIn S kc k p qual scope N f cdv A outer s H E F) (hT : S.T = tabsT S.K tf) (nd : tabsNd tf S.K = true)
    (hp : (p, qual) ∈ tf) (TB : LamX.TabB S.base S.mg (He.cT S.K p).1 (He.cT S.K p).2) : LamT S (Bx S N qual scope f cdv A outer s H E) := by
  refine ⟨(He.cT S.K p).1, (He.cT S.K p).2, TB, b.code, ?_, fun q hq e => ?_⟩
  · rw [hT]
    exact List.mem_map.mpr ⟨(p, qual), hp, rfl⟩
  · rw [hT] at hq
    obtain ⟨r, hr, e2⟩ := List.mem_map.mp hq
    have : r = (p, qual) := nodup_inj (of_decide_eq_true nd) hr hp (by rw [← e2] at e; exact e)
    rw [← e2, this]
    rfl
/-! ### the law's end -/
/-- what is to be shown of the law at the head's heap -/
structure LawEnd (P : Program) (w : World) (mg : Str → Option Value) (fa : Addr) (n : Nat) (h : Heap) : Prop where
  ex : ∃ (K : PySem.W.Frag) (cs : List (Addr × Addr)) (T : List (Addr × Str)) (ca : String → Addr) (fd : FuncData) (x : Str) (kc k : Nat) (m : FM) (fr : Bool), K.In h ∧ (∀ p ∈ cs, h.get? p.2 = some { cls := .none, data := .fields #[] }) ∧ (∀ p ∈ cs, K.lookup p.2 = none) ∧ (∀ p ∈ cs, PySem.W.CodeHd h p.1 p.2) ∧
    (∀ p ∈ T, p.1 ∈ cs.map (·.2)) ∧ Room k callerA ∧ BindP K fd [x] ∧ (∀ ns : List Int, ns.length ≤ n → (∀ z ∈ ns, Builtin.Int.intBits z ≤ 1048576) → outV (m [.sc ns]) = .ok (.bool true)) ∧
    ∀ base : Heap, K.In base → base.Ns mainGlobals mg → (∀ p ∈ cs, LamX.TabB base mg p.1 p.2) → FnM ⟨P, w, K, mg, base, T, ca⟩ kc k fa fd [x] m fr
section
variable {P : Program} {w : World} {mg mb : Str → Option Value} {fa a : Addr} {n : Nat} {s1 : Shared} {vs : List Value} {ns : List Int}
theorem law_end (L : LawEnd P w mg fa n s1.heap) (hG : s1.heap.Ns mainGlobals mg) (hB : s1.heap.Ns builtinsNs mb) (hBB : ∀ x : Str, x ≠ "__name__" → mb x = bootBuiltins x) (lim : s1.heap.NoLimit) (gens : s1.gens = #[])
    (hbm : ∃ (bm : Addr) (ob : Obj), mg "__builtins__" = some (.ref bm) ∧ bm ≠ builtinsNs ∧ s1.heap.get? bm = some ob ∧ ob.cls = .type "module" ∧ ob.dict = some builtinsNs ∧ ob.data = .plain)
    (hobj : s1.heap.get? a = some { cls := .type "list", data := .seq vs.toArray }) (hi : IntsAre vs ns) (hl : ns.length ≤ n) (hn : n ≤ sizeLine) (bits : ∀ z ∈ ns, Builtin.Int.intBits z ≤ 1048576) :
    codeAny (model P w) callerA (.call (.ref fa) ⟨[.ref a], []⟩) (fun r s' => r = .ok (.ret (.bool true)) ∧ OldK s1.heap s'.heap ∧ s'.os = s1.os ∧ AllBare s'.gens) s1 := by
  obtain ⟨K, cs, T, ca, fd, x, kc, k, m, fr, kin, tabs, noK, cds, sub, room, bind, law, def_⟩ := L.ex
  have isTab : ∀ {b}, b ∈ cs.map (·.2) → s1.heap.get? b = some { cls := .none, data := .fields #[] } := fun {b} hb => by
    obtain ⟨p, hp, rfl⟩ := List.mem_map.mp hb
    exact tabs p hp
  have aNo : a ∉ cs.map (·.2) := fun z => by
    have q := isTab z
    rw [hobj] at q
    cases q
  have lens : vs.length = ns.length := hi.length
  have vals := vals_ints hi
  -- the abstract heap: the tables; the script, if the written part does not bear it
  generalize eH : (fun b => if b ∈ cs.map (·.2) then some (HO.tbl #[]) else if b = a ∧ K.lookup a = none then some (.frz { cls := .type "list", data := .seq vs.toArray } (.lst (ns.map V.int))) else none : Hp) = H
  have atT : ∀ {b}, b ∈ cs.map (·.2) → H b = some (.tbl #[]) := fun {b} hb => by rw [← eH]; exact if_pos hb
  have atA : K.lookup a = none → H a = some (.frz { cls := .type "list", data := .seq vs.toArray } (.lst (ns.map V.int))) := fun hk => by rw [← eH]; exact (if_neg aNo).trans (if_pos ⟨rfl, hk⟩)
  have inv : ∀ {b u}, H b = some u → (b ∈ cs.map (·.2) ∧ u = .tbl #[]) ∨ (b = a ∧ K.lookup a = none ∧ u = .frz { cls := .type "list", data := .seq vs.toArray } (.lst (ns.map V.int))) := fun {b u} e => by
    rw [← eH] at e
    dsimp only at e
    by_cases h1 : b ∈ cs.map (·.2)
    · rw [if_pos h1] at e; cases e; exact .inl ⟨h1, rfl⟩
    · rw [if_neg h1] at e
      by_cases h2 : b = a ∧ K.lookup a = none
      · rw [if_pos h2] at e; cases e; exact .inr ⟨h2.1, h2.2, rfl⟩
      · rw [if_neg h2] at e; cases e
  have hok : HOk P w H s1.heap := fun b u e => by
    rcases inv e with ⟨h1, rfl⟩ | ⟨rfl, h2, rfl⟩
    · exact isTab h1
    · exact ⟨hobj, by rw [List.length_map]; exact Nat.le_trans hl hn, vs, _, vals, hobj⟩
  have untracked : ∀ {b : Addr} {o : Obj}, s1.heap.get? b = some o → (∀ us c, o.data ≠ .seq us c) → o.data ≠ .fields #[] → H b = none := fun {b o} e n1 n2 => by
    cases q : H b with
    | none => rfl
    | some u =>
      rcases inv q with ⟨h1, _⟩ | ⟨h1, _, _⟩
      · rw [isTab h1] at e; cases e; exact absurd rfl n2
      · rw [h1, hobj] at e; cases e; exact absurd rfl (n1 _ _)
  have dictFree : ∀ {b : Addr} {o : Obj} {es : Array DictEntry} {c : Nat}, s1.heap.get? b = some o → o.data = .dict es c → H b = none := fun {b o es c} e d => untracked e (fun us c z => by rw [d] at z; cases z) fun z => by rw [d] at z; cases z
  have nsB : ∀ {b : Addr} {f : Str → Option Value}, s1.heap.Ns b f → (hidT s1.heap H).Ns b f := fun {b f} z => by
    obtain ⟨o, es, c, z1, z2, z3⟩ := z
    exact ⟨o, es, c, hidT_get z1 (dictFree z1 z2), z2, z3⟩
  have kB : K.In (hidT s1.heap H) := fun b o e => hidT_get (kin b o e) (by
    cases q : H b with
    | none => rfl
    | some u =>
      rcases inv q with ⟨h1, _⟩ | ⟨h1, h2, _⟩
      · obtain ⟨p, hp, rfl⟩ := List.mem_map.mp h1
        rw [noK p hp] at e; cases e
      · rw [h1, h2] at e; cases e)
  have mod : L2.Mod K mg (hidT s1.heap H) := by
    obtain ⟨mc, c1, c2⟩ := lim
    exact ⟨kB, nsB hG, ⟨mb, nsB hB, hBB⟩, ⟨mc, nsB c1, c2⟩⟩
  have tb : ∀ p ∈ cs, LamX.TabB (hidT s1.heap H) mg p.1 p.2 := fun p hp => by
    have hT := tabs p hp
    obtain ⟨og, es, c, g1, g2, g3⟩ := id hG
    refine ⟨?_, ?_, fun z => ?_⟩
    · obtain ⟨o, us, file, tf, flags, tg, inF, text, tt, y1, y2, y3, rest⟩ := cds p hp
      exact ⟨o, us, file, tf, flags, tg, inF, text, tt, hidT_get y1 (untracked y1 (fun us c z => by rw [y3] at z; cases z) fun z => by
        rw [y3] at z
        cases z
        simp at rest), y2, y3, rest⟩
    · obtain ⟨bm, ob, b1, b2, b3, b4, b5, b6⟩ := hbm
      refine ⟨bm, ob, b1, b2, fun z => ?_, fun z => ?_, hidT_get b3 (untracked b3 (fun us c z => by rw [b6] at z; cases z) fun z => by rw [b6] at z; cases z), b4, b5, b6⟩
      · rw [z, g1] at b3; cases b3; rw [g2] at b6; cases b6
      · rw [z, hT] at b3; cases b3; cases b6
    · rw [z, hT] at g1; cases g1; cases g2
  have e0 : Env0 P w K mg (hidT s1.heap H) callerA [] s1 H := ⟨rfl, mod, fun b o e => of_hidT e, Nat.le_of_eq (hidT_size _ _), trivial, fun b hb => absurd (show b ∈ ([] : List Addr) from hb) (by simp), hok, .of_eq gens⟩
  have fn := def_ _ kB (nsB hG) tb
  have fz : Fz K H a (ns.map V.int) := by
    cases q : K.lookup a with
    | none => exact .inl ⟨_, atA q⟩
    | some o =>
      have e := kin a o q
      rw [hobj] at e
      cases e
      exact .inr (.inr ⟨_, vs.toArray, _, q, rfl, rfl, rfl, by rw [List.size_toArray, lens]; exact Nat.le_trans hl hn, by simpa using vals⟩)
  have hb1 := bind s1 [.ref a] kin rfl
  refine codeAny_mono (fn.run callerA [] s1 H ⟨[.ref a], []⟩ [.ref a] [.ref a] (fun v _ => v = .bl true) (fun _ _ _ => False) [.sc ns] No No room rfl e0 hb1 (.cons rfl .nil) rfl ?_) fun r s' q => ?_
  · refine ⟨fun _ z => z.elim, fun _ z => z, fun p hp => LamX.TabS.nil (atT (sub p hp)), .cons ⟨a, rfl, fz⟩ .nil, fun i j b c p _ e _ => ?_, ?_⟩
    · match i, e with
      | 0, e => cases e
      | _ + 1, e => cases e
    · rw [law ns hl bits]
      intro v H' _ _ r _
      cases r
      rfl
  · match r, q with
    | .error e, q =>
      obtain ⟨_, _, _, _, _, _, _, _, _, _, _, _, _, _, _, _, z⟩ := q
    | .ok (.ret u), q =>
      obtain ⟨v, H', os, bare, un, hok', r', q⟩ := q
      have q : v = .bl true := q
      subst q
      obtain rfl : u = Value.bool true := r'
      have stays : ∀ b o, b ∉ cs.map (·.2) → s1.heap.get? b = some o → s'.heap.get? b = some o := fun b o nb e => by
        cases q : H b with
        | none => exact un.keep b o e q (fun z => absurd (show b ∈ ([] : List Addr) from z) (by simp)) (by simp)
        | some u =>
          rcases inv q with ⟨h1, _⟩ | ⟨rfl, _, rfl⟩
          · exact absurd h1 nb
          · obtain ⟨y1, _⟩ := hok' _ _ (un.frzs _ _ _ q)
            rw [hobj] at e
            cases e
            exact y1
      refine ⟨rfl, ⟨fun b o e => ?_, fun b o e => ?_⟩, os, bare⟩
      · by_cases hb : b ∈ cs.map (·.2)
        · obtain ⟨p, hp, rfl⟩ := List.mem_map.mp hb
          obtain ⟨more, z⟩ := un.tbls p.2 #[] (atT hb)
          have hm := hok' p.2 _ z
          rw [tabs p hp] at e
          cases e
          exact .inr (.inl ⟨((cds p hp).tab (tabs p hp)).isCodeTable, rfl, #[], more, rfl, by rw [Array.empty_append] at hm ⊢; exact hm⟩)
        · exact .inl (stays b o hb e)
      · by_cases hb : b ∈ cs.map (·.2)
        · obtain ⟨more, z⟩ := un.tbls b #[] (atT hb)
          exact ⟨_, hok' b _ z⟩
        · exact ⟨o, stays b o hb e⟩
end
/-- THE END -/
theorem walk_end {l : PySem.W.OpenLaw} {n : Nat} {q : Program} {loose : List Str} {XP : (Str → Option Value) → Heap → Prop} {YP : World → Heap → Prop} {d : DefRec} (hn : l.most = some n) (hn2 : n ≤ sizeLine) (hdf : d.params.defaults = [])
    (F : ∀ (w : World) (mg : Str → Option Value) (fa : Addr) (h : Heap), YP w h → h.Ns mainGlobals mg → mg d.name = some (.ref fa) → LawEnd l.prog w mg fa n h) : PySem.W.WalkO q loose XP YP l.row.toRowW d [] (fun f vs => PySem.call f vs) := by
  refine Att.attach_callB hn hdf fun w s₀ s1 mg mb fa o pm cd doc a vs ns G Y _ _ _ hmg hobj hi hl bits hg => ?_
  exact law_end (F w mg fa _ Y G.T.g hmg) G.T.g G.T.b G.T.builtins G.T.nolimit hg G.T.bmain hobj hi hl hn2 bits
end Mi

set_option Elab.async false
set_option linter.all false
set_option maxRecDepth 100000
set_option maxHeartbeats 4000000
/-! Mi18: the head's facts for a law's defs; defs as their callers see them. -/
namespace Mi
open PySem PySem.Spec PyProof.Rows L2
def noIo (avs : List Sv) : Bool := avs.all fun a => match a with
  | .io _ => false
  | _ => true
/-- a def that gets nothing to change -/
def mBodyN (n : Nat) (fr : Bool) (sm : SM) : FM := fun avs => if noIo avs = true then mBody n fr sm avs else .bad
theorem ios_of_noIo {avs : List Sv} (h : noIo avs = true) (vs : List V) : iosOf avs vs = [] := by
  unfold iosOf
  rw [List.filterMap_eq_nil_iff]
  intro i hi
  split
  · rename_i o a e1 e2
    have q := List.all_eq_true.mp h (.io o) (List.mem_of_getElem? e1)
    cases q
  · rfl
theorem fnm_ofN {S : Su} {kc k : Nat} {p : He.Defn} {x qual : Str} {params : Arguments} {body : List Stmt} {scope : Scope} {dvs : List V} {kws : List (Str × V)} {fd : FuncData} {N ps : List Str} {fr : Bool} {sm : SM} (Fn : FunD S.K x qual params body scope dvs kws (He.fAd S.K p) fd) (Sc : FnScope N ps scope)
    (hbody : ∀ (f : Addr) (cdv : Value) (A : Around) (outer : List Env) (s : Shared) (H : Hp) (E : XK) (F : Fr), BodyIn S kc k p qual scope N f cdv A outer s H E F → F.ios = [] → ∃ t, MSs (Bx S N qual scope f cdv A outer s H E) F (fun cls d _ H' => E cls d H') fr body t sm) : FnM S kc (k + 1) (He.fAd S.K p) fd ps (mBodyN N.length fr sm) fr := by
  obtain ⟨oc, od, dV, kV, doc, pm, an, cdv, ct, osl, efd, lk, hcd, _⟩ := Fn.ex
  subst efd
  refine ⟨fun A outer s H args us vs Q E avs O U hr hg e0 hb hv hl pr => ?_⟩
  have pst := pr.post
  unfold mBodyN at pst
  by_cases hn : noIo avs = true
  case neg => rw [if_neg hn] at pst; exact pst.elim
  rw [if_pos hn] at pst
  have pr : Prom S (mBody N.length fr sm) fr (fun O U v r => Clo S kc O U s H v r) vs H Q E avs O U := ⟨pr.dom, pr.sub, pr.tabs, pr.args, pr.dis, pst⟩
  refine LamX.run_ofS lk hcd Sc hr e0 hb hv hl fun hr2 => ?_
  obtain ⟨c, hc⟩ := He.codeIn_ref hcd
  obtain ⟨t, ht⟩ := hbody (He.fAd S.K p) cdv A outer s H E (frOf S kc O U s H avs vs) ⟨on_body rfl rfl rfl hr2 hg, ⟨rfl, rfl, fun v r z => z⟩, by rw [hc, He.codeOf_eq lk hc]⟩ (ios_of_noIo hn vs)
  have hpl : ps.length ≤ N.length := by
    have q := congrArg List.length Sc.pre
    rw [List.length_take] at q
    omega
  exact ⟨t, ht.pe, ht.co.go _ _ _ _ _ H _ (sr_start pr (by rw [hl]; exact hpl)) (sp_end pr)⟩
/-- what the head tells -/
structure Hd (S : Su) (fa : List He.Fa) (fn : List He.DefD) (tf : List (He.Defn × Str)) : Prop where
  glo : ∀ x, He.Fa.glo x ∈ fa → S.mg x = some (.ref (He.ga S.K x))
  free : ∀ x, He.Fa.free x ∈ fa → S.mg x = none
  int : ∀ x i, He.Fa.int x i ∈ fa → ∃ u, S.mg x = some u ∧ RelV (.int i) u
  str : ∀ x z, He.Fa.str x z ∈ fa → ∃ u, S.mg x = some u ∧ RelV (.str z) u
  ok : ∀ f ∈ fa, f.ok S.K = true
  df : ∀ d ∈ fn, ∃ fd, FunD S.K d.name d.qual d.params d.body d.scope (d.dvs S.K) (d.kws S.K) (He.fAd S.K d.at_) fd
  tb : ∀ p ∈ tf, LamX.TabB S.base S.mg (He.cT S.K p.1).1 (He.cT S.K p.1).2
  T : S.T = tabsT S.K tf
  nd : tabsNd tf S.K = true
theorem hd_of {S : Su} {fa : List He.Fa} {fn : List He.DefD} {tf : List (He.Defn × Str)} (X : S.K.In S.base) (G : S.base.Ns mainGlobals S.mg) (c : He.SaysD fa fn S.K) (tb : ∀ p ∈ tf, LamX.TabB S.base S.mg (He.cT S.K p.1).1 (He.cT S.K p.1).2) (hT : S.T = tabsT S.K tf) (nd : tabsNd tf S.K = true) : Hd S fa fn tf where
  glo := fun x h => He.glo_ok X G (c.facts h)
  free := fun x h => He.free_ok X G (c.facts h)
  int := fun x i h => by
    obtain ⟨t, e⟩ := He.int_ok X G (c.facts h)
    exact ⟨_, e, t, rfl⟩
  str := fun x z h => by
    obtain ⟨t, e⟩ := He.str_ok X G (c.facts h)
    exact ⟨_, e, t, rfl⟩
  ok := fun f h => c.facts h
  df := fun d h => c.defs h
  tb := tb
  T := hT
  nd := nd
/-- a def of the top, as a datum of the head's -/
abbrev dOf (x : Str) (st : Stmt) : He.DefD := ⟨(x, none), x, x, defArgs st, defBody st, defScope st, [], []⟩
/-- a def as its callers see it -/
structure Cal (S : Su) (kc k : Nat) (x : Str) (st : Stmt) (fd : FuncData) (ps : List Str) (m : FM) (fr : Bool) : Prop where
  fn : FnM S kc k (He.ga S.K x) fd ps m fr
  m : S.mg x = some (.ref (He.ga S.K x))
  F : FunD S.K x x (defArgs st) (defBody st) (defScope st) [] [] (He.ga S.K x) fd
  bd : BindP S.K fd ps
theorem Cal.gl {S : Su} {kc k : Nat} {x : Str} {st : Stmt} {fd : FuncData} {ps : List Str} {m : FM} {fr : Bool} (c : Cal S kc k x st fd ps m fr) {X : Cx} {F : Fr} {W : WX} {j : Nat} (o : On S X F W j) : Glob X x (He.ga S.K x) := ⟨by rw [o.mg]; exact c.m, by rw [o.K]; exact c.F.kp⟩
theorem Cal.bdX {S : Su} {kc k : Nat} {x : Str} {st : Stmt} {fd : FuncData} {ps : List Str} {m : FM} {fr : Bool} (c : Cal S kc k x st fd ps m fr) {X : Cx} {F : Fr} {W : WX} {j : Nat} (o : On S X F W j) : BindP X.K fd ps := by rw [o.K]; exact c.bd
theorem bindP_of {S : Su} {x : Str} {st : Stmt} {fd : FuncData} {f : Addr} {ps : List Str} (F : FunD S.K x x (defArgs st) (defBody st) (defScope st) [] [] f fd)
    (h : ∀ (kV doc pm : Value) (an : Option Addr) (cdv ct : Value) (us : List Value), us.length = ps.length → bindArgs (PySem.W.fnOf x x (defArgs st) (defBody st) (defScope st) .none kV doc pm an cdv ct) ⟨us, []⟩ = pure (ps.zip us)) : BindP S.K fd ps := fun s us _ hl => F.bindsA h s us hl
theorem bindK_of {S : Su} {X : Cx} {W : WX} {Fr0 : Fr} {j : Nat} {x : Str} {st : Stmt} {fd : FuncData} {f : Addr} {ps ks : List Str} {nu : Nat} {ix : List Nat} (o : On S X Fr0 W j) (F : FunD S.K x x (defArgs st) (defBody st) (defScope st) [] [] f fd)
    (h : ∀ (kV doc pm : Value) (an : Option Addr) (cdv ct : Value) (us ws : List Value), us.length = nu → ws.length = ks.length → bindArgs (PySem.W.fnOf x x (defArgs st) (defBody st) (defScope st) .none kV doc pm an cdv ct) ⟨us, ks.zip ws⟩ = pure (ps.zip (pick ix (us ++ ws)))) (hl : ix.length = ps.length := by rfl) (lt : ∀ i ∈ ix, i < nu + ks.length := by decide) : BindK X.K fd ps nu ks ix := by
  rw [o.K]
  obtain ⟨oc, od, dV, kV, doc, pm, an, cdv, ct, osl, rfl, lk, hcd, hD, hK⟩ := F.ex
  rcases hD with ⟨_, rfl⟩ | ⟨e, _⟩
  · exact ⟨fun s us ws _ h1 h2 => .of_eq (h kV doc pm an cdv ct us ws h1 h2), hl, lt⟩
  · exact absurd rfl e
/-! ### comprehensions, with their contexts -/
section
variable {S : Su} {X : Cx} {F : Fr} {W : WX} {k : Nat} {fr : Bool}
theorem me_lcO {own : List (Str × Nat)} {elt tg iter : Expr} {ifs : List Expr} {scope : Scope} {pos : Pos} {wi : TI} {g : TG} {tt : TT} {te : TE} {im : LM} {gm : GM} {tm : TM} {em : EM} {p1 p2 : Bool} {ix : List Nat} {e3 : Ef} (o : On S X F W k) (hc : X.calm = true) (hi : MI X F W tg iter wi im p1)
    (hg : ∀ s H C cl fp, On S (Blk X scope s H C cl fp) F WN k → MG (Blk X scope s H C cl fp) F WN tg g gm ix) (ht : ∀ s H C cl fp, On S (Blk X scope s H C cl fp) F WN k → MTs (Blk X scope s H C cl fp) F WN ifs tt tm p2) (he : ∀ s H C cl fp, On S (Blk X scope s H C cl fp) F WN k → ME (Blk X scope s H C cl fp) F WN elt te em e3)
    (hN : X.N.Nodup := by exact of_decide_eq_true (by kernel_rfl)) (ok : blkC X.N X.env.scope scope own = true := by kernel_rfl) (hb : e3.b = false := by rfl) (hv : ∀ i ∈ ix, i ∈ own.map (·.2) := by decide) (hs : ∀ x, foldedSetIterable iter X.env x = pure x := by intro _; rfl) :
    ME X F W (.ListComp elt [⟨tg, iter, ifs, 0⟩] scope pos) (tLc wi g tt te (own.map (·.2))) (eLc im gm tm em (own.map (·.2))) ⟨false, p1 && (p2 && e3.p), true⟩ :=
  me_lc hc hi (fun s H C cl fp => hg s H C cl fp (o.blk _ _ _ _ _ _)) (fun s H C cl fp => ht s H C cl fp (o.blk _ _ _ _ _ _)) (fun s H C cl fp => he s H C cl fp (o.blk _ _ _ _ _ _)) hN ok hb hv hs
theorem ms_setLcO (i : Nat) {own : List (Str × Nat)} {y : Str} {py spos : Pos} {elt tg iter : Expr} {ifs : List Expr} {scope : Scope} {pos : Pos} {wi : TI} {g : TG} {tt : TT} {te : TE} {im : LM} {gm : GM} {tm : TM} {em : EM} {p1 p2 : Bool} {ix : List Nat} {e3 : Ef} (o : On S X F W k) (hc : X.calm = true) (hi : MI X F W tg iter wi im p1)
    (hg : ∀ s H C cl fp, On S (Blk X scope s H C cl fp) F WN k → MG (Blk X scope s H C cl fp) F WN tg g gm ix) (ht : ∀ s H C cl fp, On S (Blk X scope s H C cl fp) F WN k → MTs (Blk X scope s H C cl fp) F WN ifs tt tm p2) (he : ∀ s H C cl fp, On S (Blk X scope s H C cl fp) F WN k → ME (Blk X scope s H C cl fp) F WN elt te em e3)
    (hN : X.N.Nodup := by exact of_decide_eq_true (by kernel_rfl)) (ok : blkC X.N X.env.scope scope own = true := by kernel_rfl) (hb : e3.b = false := by rfl) (hv : ∀ i ∈ ix, i ∈ own.map (·.2) := by decide) (hs : ∀ x, foldedSetIterable iter X.env x = pure x := by intro _; rfl)
    (hy : X.N[i]? = some y := by rfl) (hyl : X.env.scope.names.lookup y = some .local := by rfl) (hsw : swapsWith (.ListComp elt [⟨tg, iter, ifs, 0⟩] scope pos) (some (.Name y py)) spos.line X.env = pure true := by exact sw_true rfl rfl rfl (by kernel_rfl)) :
    MS X F W fr (.Assign [.Name y py] (.ListComp elt [⟨tg, iter, ifs, 0⟩] scope pos) spos) (tAsg (tLc wi g tt te (own.map (·.2))) (gName i)) (sSet i (eLc im gm tm em (own.map (·.2)))) :=
  ms_setLc i hc hi (fun s H C cl fp => hg s H C cl fp (o.blk _ _ _ _ _ _)) (fun s H C cl fp => ht s H C cl fp (o.blk _ _ _ _ _ _)) (fun s H C cl fp => he s H C cl fp (o.blk _ _ _ _ _ _)) hN ok hb hv hs hy hyl hsw
theorem ms_ownLcO (i : Nat) {own : List (Str × Nat)} {y : Str} {py spos : Pos} {elt tg iter : Expr} {ifs : List Expr} {scope : Scope} {pos : Pos} {wi : TI} {g : TG} {tt : TT} {te : TE} {im : LM} {gm : GM} {tm : TM} {em : EM} {p1 p2 : Bool} {ix : List Nat} {e3 : Ef} (o : On S X F W k) (hc : X.calm = true) (hi : MI X F W tg iter wi im p1)
    (hg : ∀ s H C cl fp, On S (Blk X scope s H C cl fp) F WN k → MG (Blk X scope s H C cl fp) F WN tg g gm ix) (ht : ∀ s H C cl fp, On S (Blk X scope s H C cl fp) F WN k → MTs (Blk X scope s H C cl fp) F WN ifs tt tm p2) (he : ∀ s H C cl fp, On S (Blk X scope s H C cl fp) F WN k → ME (Blk X scope s H C cl fp) F WN elt te em e3)
    (hN : X.N.Nodup := by exact of_decide_eq_true (by kernel_rfl)) (ok : blkC X.N X.env.scope scope own = true := by kernel_rfl) (hb : e3.b = false := by rfl) (hv : ∀ i ∈ ix, i ∈ own.map (·.2) := by decide) (hs : ∀ x, foldedSetIterable iter X.env x = pure x := by intro _; rfl)
    (hy : X.N[i]? = some y := by rfl) (hyl : X.env.scope.names.lookup y = some .local := by rfl) (hsw : swapsWith (.ListComp elt [⟨tg, iter, ifs, 0⟩] scope pos) (some (.Name y py)) spos.line X.env = pure true := by exact sw_true rfl rfl rfl (by kernel_rfl)) :
    MS X F W fr (.Assign [.Name y py] (.ListComp elt [⟨tg, iter, ifs, 0⟩] scope pos) spos) (tAsg (tLc wi g tt te (own.map (·.2))) (gName i)) (sOwn i (eLc im gm tm em (own.map (·.2)))) :=
  ms_ownLc i hc hi (fun s H C cl fp => hg s H C cl fp (o.blk _ _ _ _ _ _)) (fun s H C cl fp => ht s H C cl fp (o.blk _ _ _ _ _ _)) (fun s H C cl fp => he s H C cl fp (o.blk _ _ _ _ _ _)) hN ok hb hv hs hy hyl hsw
end
end Mi

set_option Elab.async false
set_option linter.all false
set_option maxRecDepth 100000
set_option maxHeartbeats 4000000
/-! Mi19: enumerate over a list, a text. -/
namespace Mi
open PySem PySem.Spec PyProof.Rows L2
/-- a text's signs, each in a new pair with its number -/
def Itn (z : Str) : It := ⟨fun i _ => i < z.cps.size, fun i H v H' => ∃ T c, v = .ref T ∧ H T = none ∧ H' = upd H T (.tup [.int (i : Nat), .str ⟨#[c]⟩]) ∧ z.cps[i]? = some c, fun i _ => i = z.cps.size⟩
theorem draws_str {P : Program} {w : World} {A : Around} (hh : A.handled = none) (it : Addr) (z : Str) (t : Tok) : Draws P w A it [it] z.cps.size (fun i v => ∃ c u, z.cps[i]? = some c ∧ v = .str ⟨#[c]⟩ u) (fun i h => h.IsStrIter it (strIterType z) z t i) := by
  unfold strIterType
  split
  · exact Draws.strAscii hh it z t
  · exact Draws.strWide hh it z t
theorem turn_enumS {P : Program} {w : World} {K : PySem.W.Frag} {elts : List Expr} {kk : Nat} {tpos : Pos} (z : Str) (t : Tok) (e it : Addr) :
    Turn P w K (.Tuple elts kk tpos) (Itn z) [e, it] e (fun i h => (∃ old, IsEnum h e it ((i : Nat) : Int) old) ∧ h.IsStrIter it (strIterType z) z t i ∧ e ≠ it) where
  mem := List.mem_cons_self
  obj := fun i h st b hb => by
    obtain ⟨⟨old, y1⟩, ⟨o, y2, _, y3⟩, _⟩ := st
    rcases List.mem_cons.mp hb with rfl | hb
    · exact ⟨_, y1, fun v q => nomatch q⟩
    · rw [List.mem_singleton.mp hb]
      exact ⟨o, y2, fun v q => by rw [y3] at q; cases q⟩
  keep := fun i h h' st k => by
    obtain ⟨⟨old, y1⟩, ⟨o, y2, y3⟩, ne⟩ := st
    exact ⟨⟨old, k e (by simp) _ y1⟩, ⟨o, k it (by simp) o y2, y3⟩, ne⟩
  item := by
    intro X hP hw hK hc i pins s σ H E I hf st hg
    subst hP hw hK
    obtain ⟨⟨old, y1⟩, y2, ne⟩ := st
    have el : e < s.heap.objs.size := Heap.lt_size y1
    have il : it < s.heap.objs.size := by obtain ⟨_, q, _⟩ := y2; exact Heap.lt_size q
    have hd : X.A.in1.handled = none := I.ok.hd hc
    refine wpAny_pyNext_enum_itemC (c := (i : Int)) (draws_str hd it z t) y1 y2 hg ne (fun q => ne (List.mem_singleton.mp q)) fun u h1 tk hu out st1 hT _ kp => ?_
    obtain ⟨c, tu, hcu, rfl⟩ := hu
    refine ⟨_, rfl, wpAny_letOwnedTupleGo_enum (s := { s with heap := h1, toks := tk + 1 }) out fun h2 he2 sb => ?_⟩
    have hT2 : h2.get? s.heap.objs.size = some { cls := .type "tuple", data := .seq #[.int (i : Int) tk, .str ⟨#[c]⟩ tu] } := (sb.2 _ (Nat.ne_of_gt el)).trans hT
    have new : ObjOk X.prog X.w (upd H s.heap.objs.size (.tup [.int (i : Nat), .str ⟨#[c]⟩])) h2 s.heap.objs.size (.tup [.int (i : Nat), .str ⟨#[c]⟩]) := ⟨by show 2 ≤ sizeLine; decide, [.int i tk, .str ⟨#[c]⟩ tu], .cons ⟨_, rfl⟩ (.cons ⟨_, rfl⟩ .nil), ⟨_, hT2, rfl, _, rfl⟩⟩
    have I1 : Inv X pins σ (upd H s.heap.objs.size (.tup [.int (i : Nat), .str ⟨#[c]⟩])) { s with heap := h2, toks := tk + 1 } :=
      I.turnedNew (ch := [e, it]) (fun b ob hb q => (sb.2 b (fun y => hb (by simp [y]))).trans (kp b ob (fun y => hb (by simp [y])) (fun y => hb (by simp [y])) q)) hf (Nat.le_refl _) new
    obtain ⟨o2, y3, y4⟩ := st1
    refine ⟨.ref s.heap.objs.size, _, I1, rfl, ⟨_, c, rfl, I.hok.fresh (Nat.le_refl _), rfl, hcu⟩, ⟨⟨.str ⟨#[c]⟩ tu, ?_⟩, ⟨o2, (sb.2 it (Ne.symm ne)).trans y3, y4⟩, ne⟩, fun b hb => ?_⟩
    · skip
      have q : ((i + 1 : Nat) : Int) = (i : Int) + 1 := by omega
      rw [q]
      exact he2
    · have bl : b < s.heap.objs.size := by
        rcases List.mem_cons.mp hb with q | q
        · rw [q]; exact el
        · rw [List.mem_singleton.mp q]; exact il
      rw [upd_ne (Nat.ne_of_lt bl)]
      exact (hf b hb).1
  done := by
    intro X hP hw hK hc i pins s σ H E I hf st hg
    subst hP hw hK
    obtain ⟨⟨old, y1⟩, y2, ne⟩ := st
    have hg : i = z.cps.size := hg
    subst hg
    obtain ⟨f0, f1, f2, f3, f4, f5⟩ := hf it (by simp)
    have hd : X.A.in1.handled = none := I.ok.hd hc
    exact wpAny_pyNext_enum_endD (draws_str hd it z t) y1 y2 fun h' eb => ⟨rfl, I.turned (t' := s.toks) (fun b o hb q => eb b o hb q) f0 f1 f3 f4 f5⟩
  self := fun A i s Q E st h => by
    obtain ⟨⟨_, y1⟩, _⟩ := st
    exact wpAny_pyIter_enum y1 h
/-- enumerate(e), e a list or a text -/
def iEnu (K : PySem.W.Frag) (ta : TA) : TI := fun σ H R => ta σ H fun vs H1 => (∃ a xs, vs = [.ref a] ∧ SqL K H1 a xs ∧ R (Ite K a) H1) ∨ ∃ z, vs = [.str z] ∧ R (Itn z) H1
theorem pi_enu {X : Cx} {e : Expr} {ta : TA} {p pos tpos : Pos} {elts : List Expr} {kk : Nat} (hg : Gl X "enumerate") (hm : X.mg "enumerate" = none) (ha : PA X [e] ta) (hs : starEach [e] X.env = [(false, eval e X.env)] := by rfl) :
    PI X (.Tuple elts kk tpos) (.Call (.Name "enumerate" p) [e] [] pos) (iEnu X.K ta) := by
  refine ⟨fun pins s σ H R I h => ?_⟩
  refine Call_ (ld_blt I hg hm (show bootBuiltins "enumerate" = some (.type "enumerate") by decide +kernel) (PyProof.Rows.callWith_type1 (thn (ha.run pos pins s σ H _ I h) fun us s1 z => ?_) hs rfl))
  obtain ⟨vs, H1, I1, r1, q⟩ := z
  have fp : ∀ {h' : Heap}, Inv X pins σ H1 { s1 with heap := h' } → ∀ b ∈ [s1.heap.objs.size + 1, s1.heap.objs.size], FpOk X pins H1 b := fun {h'} _ b hb => by
    have le : s1.heap.objs.size ≤ b := by
      rcases List.mem_cons.mp hb with y | y
      · rw [y]; omega
      · rw [List.mem_singleton.mp y]; exact Nat.le_refl _
    exact I1.fpOk le (I1.hok.fresh le)
  rcases q with ⟨a, xs, rfl, hq, q⟩ | ⟨z, rfl, q⟩
  · obtain ⟨u, rfl, ru⟩ := Vals.one r1
    cases ru
    obtain ⟨its, rv, pl, hz⟩ := I1.list hq
    refine call_enumerate_list pl.isList fun h' he hit _ hk => wpAny_pyIter_enum he ?_
    have I2 : Inv X pins σ H1 { s1 with heap := h' } := I1.kept (t' := s1.toks) hk
    exact ⟨_, [s1.heap.objs.size + 1, s1.heap.objs.size], _, _, H1, rfl, I2, turn_enum a _ s1.heap.objs.size, ⟨⟨.none, he⟩, hit, Nat.succ_ne_self _⟩, fp I2, q⟩
  · obtain ⟨u, rfl, t, rfl⟩ := Vals.one r1
    refine call_enumerate_str fun h' he hit _ hk => wpAny_pyIter_enum he ?_
    have I2 : Inv X pins σ H1 { s1 with heap := h' } := I1.kept (t' := s1.toks) hk
    exact ⟨_, [s1.heap.objs.size + 1, s1.heap.objs.size], _, _, H1, rfl, I2, turn_enumS z t _ s1.heap.objs.size, ⟨⟨.none, he⟩, hit, Nat.succ_ne_self _⟩, fp I2, q⟩
def lEnum (a : LM) : LM := fun ρ => (a ρ).bind fun x => match x.1 with
  | [.list ds] => .ok (enumD ds, x.2)
  | [.str z] => .ok (enumD (signsOf z), x.2)
  | _ => .bad
theorem it_enumS {K : PySem.W.Frag} {z : Str} : ItR K [] (Itn z) (enumD (signsOf z)) := fun O H _ i => by
  have hl : (signsOf z).length = z.cps.size := by unfold signsOf; rw [List.length_map, Array.length_toList]
  rw [enumD_len, hl]
  refine ⟨fun hi => ⟨hi, fun x H' y => ?_⟩, fun hi => hi⟩
  obtain ⟨T, c, e1, n, e2, e3⟩ := y
  subst e1 e2
  refine ⟨_, enumD_at (by rw [hl]; exact hi), same_new n, rp_tupN n (.cons (.int _) (.cons ?_ .nil))⟩
  have e4 : (signsOf z)[i]? = some (.str ⟨#[c]⟩) := by
    unfold signsOf
    rw [List.getElem?_map, Array.getElem?_toList, e3]
    rfl
  have e5 : (signsOf z)[i]'(by rw [hl]; exact hi) = .str ⟨#[c]⟩ := by
    have := List.getElem?_eq_getElem (l := signsOf z) (i := i) (by rw [hl]; exact hi)
    rw [e4] at this
    exact (Option.some.inj this).symm
  rw [e5]
  exact .str _
section
variable {X : Cx} {F : Fr} {W : WX}
theorem ci_enum {ta : TA} {m : LM} {p : Bool} (h1 : CoA F W ta m false p) : CoI F W (iEnu F.K ta) (lEnum m) p := ⟨fun G O M ρ σ H R S h => by
  unfold lEnum at h
  refine h1.go G O M ρ σ H _ S ?_
  cases e : m ρ with
  | bad => rw [e] at h; exact h
  | exc c d => rw [e] at h; exact h
  | ok x =>
    obtain ⟨x, ρ1⟩ := x
    rw [e] at h
    intro H1 S1 m1 x1 vs r
    match x, vs, r, h with
    | [.list ds], _, .cons r1 .nil, h =>
      obtain ⟨a, us, rfl, hs, rl⟩ := rp_list r1
      exact .inl ⟨a, us, rfl, hs, h H1 S1 m1 x1 _ _ it_enum fun q hq => by rw [List.mem_singleton.mp hq]; exact r1⟩
    | [.str z], _, .cons (.str _) .nil, h => exact .inr ⟨z, rfl, h H1 S1 m1 x1 _ [] it_enumS fun q hq => absurd hq (by simp)⟩
    | [], _, _, h => exact h.elim
    | .none :: _, _, _, h => exact h.elim
    | .bool _ :: _, _, _, h => exact h.elim
    | .int _ :: _, _, _, h => exact h.elim
    | .tuple _ :: _, _, _, h => exact h.elim
    | .dict _ :: _, _, _, h => exact h.elim
    | .list _ :: _ :: _, _, _, h => exact h.elim
    | .str _ :: _ :: _, _, _, h => exact h.elim⟩
theorem mi_enum {elts : List Expr} {kk : Nat} {tpos p pos : Pos} {e : Expr} {ta : TA} {m : LM} {pp : Bool} (hm : X.mg "enumerate" = none) (h : MA X F W [e] ta m false pp) (hg : Gl X "enumerate" := by rfl) (hs : starEach [e] X.env = [(false, eval e X.env)] := by rfl) : MI X F W (.Tuple elts kk tpos) (.Call (.Name "enumerate" p) [e] [] pos) (iEnu F.K ta) (lEnum m) pp :=
  ⟨h.k, by
    have q := pi_enu (elts := elts) (kk := kk) (tpos := tpos) (pos := pos) (p := p) hg hm h.pe hs
    rw [h.k] at q
    exact q, ci_enum h.co⟩
end
end Mi

set_option Elab.async false
set_option linter.all false
set_option maxRecDepth 100000
set_option maxHeartbeats 4000000
/-! printed by gen.py -/
namespace Mi
open PySem PySem.Spec PyProof.Rows L2
def topS (i : Nat) : Stmt := PySem.Challenge.pw_stopweighs_k46_names_and_signs.main.body.getD i (.Pass ⟨0, 0, 0, 0⟩)
def fa : List He.Fa := [.glo "Refused", .glo "_law_46_drawn", .glo "_law_46_is_name", .glo "_law_46_numbers", .glo "_law_46_order_right", .glo "_law_46_others", .glo "_law_46_signs", .glo "_law_46_texts_right", .glo "_law_46_things", .glo "_law_46_whole", .glo "_law_heard", .glo "_law_is", .glo "_law_one", .glo "_law_pool", .glo "_law_take", .glo "_law_yq_same", .glo "is_name", .glo "law", .glo "numbers_of", .glo "text_of", .free "all", .free "dict", .free "enumerate", .free "int", .free "isinstance", .free "len", .free "range", .free "repr", .free "str", .free "tuple", .int "MOST_NAME" 12, .str "SIGNS" "abcdefghijklmnopqrstuvwxyz0123456789_-", .str "WRITTEN" "abcdefghijklmnopqrstuvwxyz0123456789_-/", .exm "Refused" "Refused" true]
def tf : List (He.Defn × Str) := [(("_law_46_texts_right", none), "_law_46_texts_right"), (("_law_46_order_right", none), "_law_46_order_right"), (("_law_46_whole", none), "_law_46_whole"), (("law", none), "law")]
def fn : List He.DefD := [dOf "_law_yq_same" (topS 13), dOf "_law_heard" (topS 14), dOf "_law_pool" (topS 10), dOf "_law_46_signs" (topS 16), dOf "_law_take" (topS 11), dOf "_law_46_drawn" (topS 19), dOf "_law_one" (topS 12), dOf "_law_46_others" (topS 20), dOf "_law_46_things" (topS 21), dOf "_law_is" (topS 15), dOf "is_name" (topS 4), dOf "_law_46_is_name" (topS 17), dOf "_law_46_numbers" (topS 18), dOf "numbers_of" (topS 5), dOf "text_of" (topS 6), dOf "_law_46_texts_right" (topS 22), dOf "_law_46_order_right" (topS 23), dOf "_law_46_whole" (topS 24), dOf "law" (topS 25)]
theorem glo_Refused {S : Su} (h : Hd S fa fn tf) : S.mg "Refused" = some (.ref (He.ga S.K "Refused")) := h.glo _ (List.mem_of_getElem? (i := 0) rfl)
theorem glo__law_46_drawn {S : Su} (h : Hd S fa fn tf) : S.mg "_law_46_drawn" = some (.ref (He.ga S.K "_law_46_drawn")) := h.glo _ (List.mem_of_getElem? (i := 1) rfl)
theorem glo__law_46_is_name {S : Su} (h : Hd S fa fn tf) : S.mg "_law_46_is_name" = some (.ref (He.ga S.K "_law_46_is_name")) := h.glo _ (List.mem_of_getElem? (i := 2) rfl)
theorem glo__law_46_numbers {S : Su} (h : Hd S fa fn tf) : S.mg "_law_46_numbers" = some (.ref (He.ga S.K "_law_46_numbers")) := h.glo _ (List.mem_of_getElem? (i := 3) rfl)
theorem glo__law_46_order_right {S : Su} (h : Hd S fa fn tf) : S.mg "_law_46_order_right" = some (.ref (He.ga S.K "_law_46_order_right")) := h.glo _ (List.mem_of_getElem? (i := 4) rfl)
theorem glo__law_46_others {S : Su} (h : Hd S fa fn tf) : S.mg "_law_46_others" = some (.ref (He.ga S.K "_law_46_others")) := h.glo _ (List.mem_of_getElem? (i := 5) rfl)
theorem glo__law_46_signs {S : Su} (h : Hd S fa fn tf) : S.mg "_law_46_signs" = some (.ref (He.ga S.K "_law_46_signs")) := h.glo _ (List.mem_of_getElem? (i := 6) rfl)
theorem glo__law_46_texts_right {S : Su} (h : Hd S fa fn tf) : S.mg "_law_46_texts_right" = some (.ref (He.ga S.K "_law_46_texts_right")) := h.glo _ (List.mem_of_getElem? (i := 7) rfl)
theorem glo__law_46_things {S : Su} (h : Hd S fa fn tf) : S.mg "_law_46_things" = some (.ref (He.ga S.K "_law_46_things")) := h.glo _ (List.mem_of_getElem? (i := 8) rfl)
theorem glo__law_46_whole {S : Su} (h : Hd S fa fn tf) : S.mg "_law_46_whole" = some (.ref (He.ga S.K "_law_46_whole")) := h.glo _ (List.mem_of_getElem? (i := 9) rfl)
theorem glo__law_heard {S : Su} (h : Hd S fa fn tf) : S.mg "_law_heard" = some (.ref (He.ga S.K "_law_heard")) := h.glo _ (List.mem_of_getElem? (i := 10) rfl)
theorem glo__law_is {S : Su} (h : Hd S fa fn tf) : S.mg "_law_is" = some (.ref (He.ga S.K "_law_is")) := h.glo _ (List.mem_of_getElem? (i := 11) rfl)
theorem glo__law_one {S : Su} (h : Hd S fa fn tf) : S.mg "_law_one" = some (.ref (He.ga S.K "_law_one")) := h.glo _ (List.mem_of_getElem? (i := 12) rfl)
theorem glo__law_pool {S : Su} (h : Hd S fa fn tf) : S.mg "_law_pool" = some (.ref (He.ga S.K "_law_pool")) := h.glo _ (List.mem_of_getElem? (i := 13) rfl)
theorem glo__law_take {S : Su} (h : Hd S fa fn tf) : S.mg "_law_take" = some (.ref (He.ga S.K "_law_take")) := h.glo _ (List.mem_of_getElem? (i := 14) rfl)
theorem glo__law_yq_same {S : Su} (h : Hd S fa fn tf) : S.mg "_law_yq_same" = some (.ref (He.ga S.K "_law_yq_same")) := h.glo _ (List.mem_of_getElem? (i := 15) rfl)
theorem glo_is_name {S : Su} (h : Hd S fa fn tf) : S.mg "is_name" = some (.ref (He.ga S.K "is_name")) := h.glo _ (List.mem_of_getElem? (i := 16) rfl)
theorem glo_law {S : Su} (h : Hd S fa fn tf) : S.mg "law" = some (.ref (He.ga S.K "law")) := h.glo _ (List.mem_of_getElem? (i := 17) rfl)
theorem glo_numbers_of {S : Su} (h : Hd S fa fn tf) : S.mg "numbers_of" = some (.ref (He.ga S.K "numbers_of")) := h.glo _ (List.mem_of_getElem? (i := 18) rfl)
theorem glo_text_of {S : Su} (h : Hd S fa fn tf) : S.mg "text_of" = some (.ref (He.ga S.K "text_of")) := h.glo _ (List.mem_of_getElem? (i := 19) rfl)
theorem free_all {S : Su} (h : Hd S fa fn tf) : S.mg "all" = none := h.free _ (List.mem_of_getElem? (i := 20) rfl)
theorem free_dict {S : Su} (h : Hd S fa fn tf) : S.mg "dict" = none := h.free _ (List.mem_of_getElem? (i := 21) rfl)
theorem free_enumerate {S : Su} (h : Hd S fa fn tf) : S.mg "enumerate" = none := h.free _ (List.mem_of_getElem? (i := 22) rfl)
theorem free_int {S : Su} (h : Hd S fa fn tf) : S.mg "int" = none := h.free _ (List.mem_of_getElem? (i := 23) rfl)
theorem free_isinstance {S : Su} (h : Hd S fa fn tf) : S.mg "isinstance" = none := h.free _ (List.mem_of_getElem? (i := 24) rfl)
theorem free_len {S : Su} (h : Hd S fa fn tf) : S.mg "len" = none := h.free _ (List.mem_of_getElem? (i := 25) rfl)
theorem free_range {S : Su} (h : Hd S fa fn tf) : S.mg "range" = none := h.free _ (List.mem_of_getElem? (i := 26) rfl)
theorem free_repr {S : Su} (h : Hd S fa fn tf) : S.mg "repr" = none := h.free _ (List.mem_of_getElem? (i := 27) rfl)
theorem free_str {S : Su} (h : Hd S fa fn tf) : S.mg "str" = none := h.free _ (List.mem_of_getElem? (i := 28) rfl)
theorem free_tuple {S : Su} (h : Hd S fa fn tf) : S.mg "tuple" = none := h.free _ (List.mem_of_getElem? (i := 29) rfl)
theorem int_MOST_NAME {S : Su} (h : Hd S fa fn tf) : ∃ u, S.mg "MOST_NAME" = some u ∧ RelV (.int 12) u := h.int _ _ (List.mem_of_getElem? (i := 30) rfl)
theorem str_SIGNS {S : Su} (h : Hd S fa fn tf) : ∃ u, S.mg "SIGNS" = some u ∧ RelV (.str "abcdefghijklmnopqrstuvwxyz0123456789_-") u := h.str _ _ (List.mem_of_getElem? (i := 31) rfl)
theorem str_WRITTEN {S : Su} (h : Hd S fa fn tf) : ∃ u, S.mg "WRITTEN" = some u ∧ RelV (.str "abcdefghijklmnopqrstuvwxyz0123456789_-/") u := h.str _ _ (List.mem_of_getElem? (i := 32) rfl)
/-- where the classes stand -/
def CaOk (S : Su) : Prop := S.ca = fun x => He.ga S.K (Str.ofString x)
def isa_Refused (c : String) : Option Bool := if c = "Refused" then some true else none
theorem isa_Refused_ok {S : Su} {X : Cx} {F : Fr} (h : Hd S fa fn tf) (hca : CaOk S) (hK : X.K = S.K) (hc : F.ca = S.ca) : ∀ c b, isa_Refused c = some b → PySem.W.exmOne X.K (.ref (F.ca c)) (.ref (He.ga S.K "Refused")) = some b := fun c b e => by
  unfold isa_Refused at e
  rw [hK, hc, hca]
  by_cases q : c = "Refused"
  · rw [if_pos q] at e; cases e; rw [q]; exact He.exm_ok (h.ok (.exm "Refused" "Refused" true) (List.mem_of_getElem? (i := 33) rfl))
  rw [if_neg q] at e
  cases e
/-! _law_yq_same -/
abbrev st__law_yq_same : Stmt := topS 13
abbrev N__law_yq_same : List Str := ["one", "two"]
theorem sc__law_yq_same : FnScope N__law_yq_same ["one", "two"] (defScope st__law_yq_same) := ⟨rfl, rfl, rfl, by decide +kernel, rfl, by decide +kernel, by decide +kernel⟩
def b__law_yq_same : SM := (sRet (eOp vEq (eN (v1L vRepr) (lCons (eVar 0) lNil)) (eN (v1L vRepr) (lCons (eVar 1) lNil))))
def m__law_yq_same : FM := mBody 2 false b__law_yq_same
theorem f__law_yq_same {S : Su} (h : Hd S fa fn tf) (kc : Nat) : ∃ fd, Cal S kc 1 "_law_yq_same" st__law_yq_same fd ["one", "two"] m__law_yq_same false := by
  obtain ⟨fd, F⟩ := h.df (dOf "_law_yq_same" st__law_yq_same) (List.mem_of_getElem? (i := 0) rfl)
  refine ⟨fd, fnm_ofD (k := 0) (p := ("_law_yq_same", none)) F sc__law_yq_same (fun f cdv A outer s H E Fr b => ?_), glo__law_yq_same h, F, bindP_of (x := "_law_yq_same") (st := st__law_yq_same) F fun _ _ _ _ _ _ us hl => match us, hl with | [_, _], _ => rfl⟩
  have o := b.on
  have hk := o.K.trans o.FK.symm
  exact ⟨_, (mss_one (ms_ret (me_eq o (me_repr o (free_repr h) (ma_cons (me_var 0 hk) (ma_nil hk))) (me_repr o (free_repr h) (ma_cons (me_var 1 hk) (ma_nil hk))))))⟩
/-! _law_heard -/
abbrev st__law_heard : Stmt := topS 14
abbrev N__law_heard : List Str := ["call"]
theorem sc__law_heard : FnScope N__law_heard ["call"] (defScope st__law_heard) := ⟨rfl, rfl, rfl, by decide +kernel, rfl, by decide +kernel, by decide +kernel⟩
def b__law_heard : SM := (sTry (sRet (eTup (lCons (eC (.str "told")) (lCons (eCl 0) lNil)))) [(isa_Refused, (sRet (eTup (lCons (eC (.str "another")) (lCons (eC .none) lNil)))))])
def m__law_heard : FM := mBodyN 1 false b__law_heard
theorem f__law_heard {S : Su} (h : Hd S fa fn tf) (hca : CaOk S) (kc : Nat) : ∃ fd, Cal S kc (kc + 1) "_law_heard" st__law_heard fd ["call"] m__law_heard false := by
  obtain ⟨fd, F⟩ := h.df (dOf "_law_heard" st__law_heard) (List.mem_of_getElem? (i := 1) rfl)
  refine ⟨fd, fnm_ofN (k := kc + 0) (p := ("_law_heard", none)) F sc__law_heard (fun f cdv A outer s H E Fr b hios => ?_), glo__law_heard h, F, bindP_of (x := "_law_heard") (st := st__law_heard) F fun _ _ _ _ _ _ us hl => match us, hl with | [_], _ => rfl⟩
  have o := b.on
  have hk := o.K.trans o.FK.symm
  exact ⟨_, (mss_one (ms_try o rfl rfl hios (fun _ _ _ tk1 ps1 => have o1 := o.tr tk1; ⟨_, (mss_one (ms_ret (me_tup (ma_cons (me_str o1.hk) (ma_cons (me_cl 0 (o1.mono (by omega)) (Ent.tr b.en)) (ma_nil o1.hk))))))⟩) (HdMs.cons (hd_mk (x := "Refused") ⟨rfl, by decide, .inl (glo_Refused h)⟩ (isa_Refused_ok h hca o.K o.ca) fun a2 q2 => ⟨_, (mss_one (ms_ret (me_tup (ma_cons (me_str (suite_hk hk a2 q2)) (ma_cons (me_non (suite_hk hk a2 q2)) (ma_nil (suite_hk hk a2 q2)))))))⟩) HdMs.nil)))⟩
/-! _law_pool -/
abbrev st__law_pool : Stmt := topS 10
abbrev N__law_pool : List Str := ["script", "digits", "stirred", "at", "cell"]
theorem sc__law_pool : FnScope N__law_pool ["script"] (defScope st__law_pool) := ⟨rfl, rfl, rfl, by decide +kernel, rfl, by decide +kernel, by decide +kernel⟩
def b__law_pool : SM := (sSeq (sAsgG (gmTup 2 (gmCons (gmName 1) (gmCons (gmName 2) gmNil))) (eTup (lCons (eC (.int 0)) (lCons (eC (.int 7)) lNil))))
  (sSeq (sFor (lRng1 (lCons (eScLen 0) lNil)) (gmName 3) (sSeq (sSet 4 (eIf (eTst (eOp vGe (eScIx 0 (eVar 3)) (eC (.int 0)))) (eN (v1L vInt) (lCons (eScIx 0 (eVar 3)) lNil)) (eN (v1L vInt) (lCons (eOp vSub (eUn vNeg (eC (.int 1))) (eScIx 0 (eVar 3))) lNil))))
  (sSeq (sSet 2 (eOp vMod (eN (v1L vInt) (lCons (eOp vAdd (eOp vAdd (eOp vMul (eVar 2) (eC (.int 48271))) (eOp vMod (eVar 4) (eC (.int 2147483629)))) (eC (.int 11))) lNil)) (eC (.int 2147483647))))
  (sSet 1 (eIf (mAnd (eTst (eOp vGe (eVar 4) (eOp vPow (eC (.int 10)) (eC (.int 12))))) (eTst (eOp vLt (eVar 1) (eOp vPow (eC (.int 10)) (eC (.int 60)))))) (eN (v1L vInt) (lCons (eOp vAdd (eOp vMul (eVar 1) (eOp vPow (eC (.int 10)) (eC (.int 60)))) (eOp vMod (eVar 4) (eOp vPow (eC (.int 10)) (eC (.int 60))))) lNil)) (eVar 1))))))
  (sRet (eLst (lCons (eVar 1) (lCons (eVar 2) (lCons (eC (.int 0)) lNil)))))))
def m__law_pool : FM := mBody 5 true b__law_pool
theorem f__law_pool {S : Su} (h : Hd S fa fn tf) (kc : Nat) : ∃ fd, Cal S kc 1 "_law_pool" st__law_pool fd ["script"] m__law_pool true := by
  obtain ⟨fd, F⟩ := h.df (dOf "_law_pool" st__law_pool) (List.mem_of_getElem? (i := 2) rfl)
  refine ⟨fd, fnm_ofD (k := 0) (p := ("_law_pool", none)) F sc__law_pool (fun f cdv A outer s H E Fr b => ?_), glo__law_pool h, F, bindP_of (x := "_law_pool") (st := st__law_pool) F fun _ _ _ _ _ _ us hl => match us, hl with | [_], _ => rfl⟩
  have o := b.on
  have hk := o.K.trans o.FK.symm
  exact ⟨_, (mss_cons (ms_asg (me_tup (ma_cons (me_int hk) (ma_cons (me_int hk) (ma_nil hk)))) (mg_tup rfl (mgs_cons (mg_name 1 hk) (mgs_cons (mg_name 2 hk) (mgs_nil hk)))))
  (mss_cons (ms_for (passes_of rfl) rfl (mi_rng1 (free_range h) (ma_cons (me_scLen 0 hk (free_len h)) (ma_nil hk))) (mg_name 3 hk) (mss_cons (ms_set 4 (me_if (mt_ge o (me_scIx 0 (me_var 3 hk)) (me_int hk)) (me_intC (free_int h) (ma_cons (me_scIx 0 (me_var 3 hk)) (ma_nil hk))) (me_intC (free_int h) (ma_cons (me_sub (me_neg (me_int hk)) (me_scIx 0 (me_var 3 hk))) (ma_nil hk)))))
  (mss_cons (ms_set 2 (me_mod (me_intC (free_int h) (ma_cons (me_add (me_add (me_mul (me_var 2 hk) (me_int hk)) (me_mod (me_var 4 hk) (me_int hk))) (me_int hk)) (ma_nil hk))) (me_int hk)))
  (mss_one (ms_set 1 (me_if (MW.mt (mw_and (mt_ge o (me_var 4 hk) (me_pow (me_int hk) (me_int hk))) (mw_and1 (mt_lt o (me_var 1 hk) (me_pow (me_int hk) (me_int hk)))))) (me_intC (free_int h) (ma_cons (me_add (me_mul (me_var 1 hk) (me_pow (me_int hk) (me_int hk))) (me_mod (me_var 4 hk) (me_pow (me_int hk) (me_int hk)))) (ma_nil hk))) (me_var 1 hk)))))))
  (mss_one (ms_ret (me_lst (ma_cons (me_var 1 hk) (ma_cons (me_var 2 hk) (ma_cons (me_int hk) (ma_nil hk)))))))))⟩
/-! _law_46_signs -/
abbrev st__law_46_signs : Stmt := topS 16
abbrev N__law_46_signs : List Str := []
theorem sc__law_46_signs : FnScope N__law_46_signs [] (defScope st__law_46_signs) := ⟨rfl, rfl, rfl, by decide +kernel, rfl, by decide +kernel, by decide +kernel⟩
def b__law_46_signs : SM := (sRet (eC (.str "abcdefghijklmnopqrstuvwxyz0123456789_-/")))
def m__law_46_signs : FM := mBody 0 false b__law_46_signs
theorem f__law_46_signs {S : Su} (h : Hd S fa fn tf) (kc : Nat) : ∃ fd, Cal S kc 1 "_law_46_signs" st__law_46_signs fd [] m__law_46_signs false := by
  obtain ⟨fd, F⟩ := h.df (dOf "_law_46_signs" st__law_46_signs) (List.mem_of_getElem? (i := 3) rfl)
  refine ⟨fd, fnm_ofD (k := 0) (p := ("_law_46_signs", none)) F sc__law_46_signs (fun f cdv A outer s H E Fr b => ?_), glo__law_46_signs h, F, bindP_of (x := "_law_46_signs") (st := st__law_46_signs) F fun _ _ _ _ _ _ us hl => match us, hl with | [], _ => rfl⟩
  have o := b.on
  have hk := o.K.trans o.FK.symm
  exact ⟨_, (mss_one (ms_ret (me_str hk)))⟩
/-! _law_take -/
abbrev st__law_take : Stmt := topS 11
abbrev N__law_take : List Str := ["jar", "many", "found"]
theorem sc__law_take : FnScope N__law_take ["jar", "many"] (defScope st__law_take) := ⟨rfl, rfl, rfl, by decide +kernel, rfl, by decide +kernel, by decide +kernel⟩
def b__law_take : SM := (sSeq (sIf (eTst (eOp vGt (eSl2 vIx 0 (eC (.int 0))) (eC (.int 0)))) (sSeq (sSet 2 (eOp vMod (eN (v1L vInt) (lCons (eSl2 vIx 0 (eC (.int 0))) lNil)) (eVar 1)))
  (sSeq (sSetIx 0 (eOp vFdiv (eSl2 vIx 0 (eC (.int 0))) (eVar 1)) (eC (.int 0)))
  (sRet (eVar 2)))) sNx)
  (sSeq (sSetIx 0 (eOp vAdd (eSl2 vIx 0 (eC (.int 2))) (eC (.int 1))) (eC (.int 2)))
  (sSeq (sSetIx 0 (eOp vMod (eN (v1L vInt) (lCons (eOp vAdd (eOp vAdd (eOp vMul (eSl2 vIx 0 (eC (.int 1))) (eC (.int 39373))) (eOp vMul (eC (.int 7919)) (eSl2 vIx 0 (eC (.int 2))))) (eC (.int 7))) lNil)) (eC (.int 2147483647))) (eC (.int 1)))
  (sRet (eOp vMod (eN (v1L vInt) (lCons (eOp vFdiv (eOp vMod (eN (v1L vInt) (lCons (eOp vMul (eSl2 vIx 0 (eC (.int 1))) (eSl2 vIx 0 (eC (.int 1)))) lNil)) (eC (.int 2147483629))) (eC (.int 32))) lNil)) (eVar 1))))))
def m__law_take : FM := mBody 3 false b__law_take
theorem f__law_take {S : Su} (h : Hd S fa fn tf) (kc : Nat) : ∃ fd, Cal S kc 1 "_law_take" st__law_take fd ["jar", "many"] m__law_take false := by
  obtain ⟨fd, F⟩ := h.df (dOf "_law_take" st__law_take) (List.mem_of_getElem? (i := 4) rfl)
  refine ⟨fd, fnm_ofD (k := 0) (p := ("_law_take", none)) F sc__law_take (fun f cdv A outer s H E Fr b => ?_), glo__law_take h, F, bindP_of (x := "_law_take") (st := st__law_take) F fun _ _ _ _ _ _ us hl => match us, hl with | [_, _], _ => rfl⟩
  have o := b.on
  have hk := o.K.trans o.FK.symm
  exact ⟨_, (mss_cons (ms_if (mt_gt o (me_ixS 0 (me_int hk)) (me_int hk)) (mss_cons (ms_set 2 (me_mod (me_intC (free_int h) (ma_cons (me_ixS 0 (me_int hk)) (ma_nil hk))) (me_var 1 hk)))
  (mss_cons (ms_setIx 0 (me_fdiv (me_ixS 0 (me_int hk)) (me_var 1 hk)) (me_int hk))
  (mss_one (ms_ret (me_var 2 hk))))) (mss_nil hk))
  (mss_cons (ms_setIx 0 (me_add (me_ixS 0 (me_int hk)) (me_int hk)) (me_int hk))
  (mss_cons (ms_setIx 0 (me_mod (me_intC (free_int h) (ma_cons (me_add (me_add (me_mul (me_ixS 0 (me_int hk)) (me_int hk)) (me_mul (me_int hk) (me_ixS 0 (me_int hk)))) (me_int hk)) (ma_nil hk))) (me_int hk)) (me_int hk))
  (mss_one (ms_ret (me_mod (me_intC (free_int h) (ma_cons (me_fdiv (me_mod (me_intC (free_int h) (ma_cons (me_mul (me_ixS 0 (me_int hk)) (me_ixS 0 (me_int hk))) (ma_nil hk))) (me_int hk)) (me_int hk)) (ma_nil hk))) (me_var 1 hk)))))))⟩
/-! _law_46_drawn -/
abbrev st__law_46_drawn : Stmt := topS 19
abbrev N__law_46_drawn : List Str := ["jar", "many", "most", "go"]
theorem sc__law_46_drawn : FnScope N__law_46_drawn ["jar", "many", "most"] (defScope st__law_46_drawn) := ⟨rfl, rfl, rfl, by decide +kernel, rfl, by decide +kernel, by decide +kernel⟩
def b__law_46_drawn : SM := (sRet (eM1 vsJoin (eC (.str "")) (eLc (lRng1 (lCons (eVar 1) lNil)) (gmName 3) mYes (eOp vIx (eCall0 m__law_46_signs) (eCallS m__law_take 2 0 (lCons (eVar 2) lNil))) [3])))
def m__law_46_drawn : FM := mBody 4 false b__law_46_drawn
theorem f__law_46_drawn {S : Su} (h : Hd S fa fn tf) (kc : Nat) : ∃ fd, Cal S kc 2 "_law_46_drawn" st__law_46_drawn fd ["jar", "many", "most"] m__law_46_drawn false := by
  obtain ⟨_, c0⟩ := f__law_46_signs h 0
  obtain ⟨_, c1⟩ := f__law_take h 0
  obtain ⟨fd, F⟩ := h.df (dOf "_law_46_drawn" st__law_46_drawn) (List.mem_of_getElem? (i := 5) rfl)
  refine ⟨fd, fnm_ofD (k := 1) (p := ("_law_46_drawn", none)) F sc__law_46_drawn (fun f cdv A outer s H E Fr b => ?_), glo__law_46_drawn h, F, bindP_of (x := "_law_46_drawn") (st := st__law_46_drawn) F fun _ _ _ _ _ _ us hl => match us, hl with | [_, _, _], _ => rfl⟩
  have o := b.on
  have hk := o.K.trans o.FK.symm
  exact ⟨_, (mss_one (ms_ret (me_sJoin (me_str hk) (me_lcO (own := [("go", 3)]) o rfl (mi_rng1 (free_range h) (ma_cons (me_var 1 hk) (ma_nil hk))) (fun _ _ _ _ _ o4 => (mg_name 3 o4.hk)) (fun _ _ _ _ _ o4 => (mts_nil o4.hk)) (fun _ _ _ _ _ o4 => (me_ix (me_call0 (o4.mono (by omega)) c0.fn (c0.gl o4) (c0.bdX o4)) (me_callS 0 (o4.mono (by omega)) c1.fn (c1.gl o4) (c1.bdX o4) (ma_cons (me_var 2 o4.hk) (ma_nil o4.hk)))))))))⟩
/-! _law_one -/
abbrev st__law_one : Stmt := topS 12
abbrev N__law_one : List Str := ["jar", "things"]
theorem sc__law_one : FnScope N__law_one ["jar", "things"] (defScope st__law_one) := ⟨rfl, rfl, rfl, by decide +kernel, rfl, by decide +kernel, by decide +kernel⟩
def b__law_one : SM := (sRet (eOp vIx (eVar 1) (eCallS m__law_take 2 0 (lCons (eN (v1L vLen) (lCons (eVar 1) lNil)) lNil))))
def m__law_one : FM := mBody 2 false b__law_one
theorem f__law_one {S : Su} (h : Hd S fa fn tf) (kc : Nat) : ∃ fd, Cal S kc 2 "_law_one" st__law_one fd ["jar", "things"] m__law_one false := by
  obtain ⟨_, c0⟩ := f__law_take h 0
  obtain ⟨fd, F⟩ := h.df (dOf "_law_one" st__law_one) (List.mem_of_getElem? (i := 6) rfl)
  refine ⟨fd, fnm_ofD (k := 1) (p := ("_law_one", none)) F sc__law_one (fun f cdv A outer s H E Fr b => ?_), glo__law_one h, F, bindP_of (x := "_law_one") (st := st__law_one) F fun _ _ _ _ _ _ us hl => match us, hl with | [_, _], _ => rfl⟩
  have o := b.on
  have hk := o.K.trans o.FK.symm
  exact ⟨_, (mss_one (ms_ret (me_ix (me_var 1 hk) (me_callS 0 (o.mono (by omega)) c0.fn (c0.gl o) (c0.bdX o) (ma_cons (me_len (free_len h) (ma_cons (me_var 1 hk) (ma_nil hk))) (ma_nil hk))))))⟩
/-! _law_46_others -/
abbrev st__law_46_others : Stmt := topS 20
abbrev N__law_46_others : List Str := ["some", "sign"]
theorem sc__law_46_others : FnScope N__law_46_others [] (defScope st__law_46_others) := ⟨rfl, rfl, rfl, by decide +kernel, rfl, by decide +kernel, by decide +kernel⟩
def b__law_46_others : SM := (sSeq (sSet 0 (eLc (lSeq (eC (.str "ABZ /.,:;+=*~!?@#$&'()<>[]^{|}"))) (gmName 1) mYes (eVar 1) [1]))
  (sRet (eOp vAdd (eVar 0) (eLst (lCons (eC (.str "\t")) (lCons (eC (.str "\n")) (lCons (eC (.str "\t\n")) lNil)))))))
def m__law_46_others : FM := mBody 2 false b__law_46_others
theorem f__law_46_others {S : Su} (h : Hd S fa fn tf) (kc : Nat) : ∃ fd, Cal S kc 1 "_law_46_others" st__law_46_others fd [] m__law_46_others false := by
  obtain ⟨fd, F⟩ := h.df (dOf "_law_46_others" st__law_46_others) (List.mem_of_getElem? (i := 7) rfl)
  refine ⟨fd, fnm_ofD (k := 0) (p := ("_law_46_others", none)) F sc__law_46_others (fun f cdv A outer s H E Fr b => ?_), glo__law_46_others h, F, bindP_of (x := "_law_46_others") (st := st__law_46_others) F fun _ _ _ _ _ _ us hl => match us, hl with | [], _ => rfl⟩
  have o := b.on
  have hk := o.K.trans o.FK.symm
  exact ⟨_, (mss_cons (ms_setLcO 0 (own := [("sign", 1)]) o rfl (mi_seq (me_str hk)) (fun _ _ _ _ _ o5 => (mg_name 1 o5.hk)) (fun _ _ _ _ _ o5 => (mts_nil o5.hk)) (fun _ _ _ _ _ o5 => (me_var 1 o5.hk)))
  (mss_one (ms_ret (me_add (me_var 0 hk) (me_lst (ma_cons (me_str hk) (ma_cons (me_str hk) (ma_cons (me_str hk) (ma_nil hk)))))))))⟩
/-! _law_46_things -/
abbrev st__law_46_things : Stmt := topS 21
abbrev N__law_46_things : List Str := ["jar", "name", "at", "other", "made", "deep", "go", "sign"]
theorem sc__law_46_things : FnScope N__law_46_things ["jar"] (defScope st__law_46_things) := ⟨rfl, rfl, rfl, by decide +kernel, rfl, by decide +kernel, by decide +kernel⟩
def b__law_46_things : SM := (sSeq (sSet 1 (eCallS m__law_46_drawn 3 0 (lCons (eOp vAdd (eC (.int 1)) (eCallS m__law_take 2 0 (lCons (eC (.int 12)) lNil))) (lCons (eC (.int 38)) lNil))))
  (sSeq (sPar 2 3 (lCons (eCallS m__law_take 2 0 (lCons (eN (v1L vLen) (lCons (eVar 1) lNil)) lNil)) (lCons (eCallS m__law_one 2 0 (lCons (eCall0 m__law_46_others) lNil)) lNil)))
  (sSeq (sOwn 4 (eLst (lCons (eVar 1) (lCons (eOp vAdd (eOp vAdd (eSl vSl (eVar 1) oNone (oSome (eVar 2))) (eVar 3)) (eSl vSl (eVar 1) (oSome (eOp vAdd (eVar 2) (eC (.int 1)))) oNone)) (lCons (eOp vAdd (eSl vSl (eVar 1) oNone (oSome (eC (.int 11)))) (eVar 3)) (lCons (eVar 3) (lCons (eOp vAdd (eVar 1) (eC (.str " "))) (lCons (eOp vAdd (eC (.str " ")) (eVar 1)) (lCons (eM0 vsUpper (eVar 1)) lNil)))))))))
  (sSeq (sDrop (eMeth gExtend 4 (lCons (eLst (lCons (eCallS m__law_46_drawn 3 0 (lCons (eC (.int 12)) (lCons (eC (.int 38)) lNil))) (lCons (eCallS m__law_46_drawn 3 0 (lCons (eC (.int 13)) (lCons (eC (.int 38)) lNil))) (lCons (eCallS m__law_46_drawn 3 0 (lCons (eC (.int 400)) (lCons (eC (.int 38)) lNil))) (lCons (eOp vAdd (eC (.str "/")) (eSl vSl (eVar 1) oNone (oSome (eC (.int 5))))) lNil))))) lNil)))
  (sSeq (sSet 5 (eVar 1))
  (sSeq (sFor (lRng1 (lCons (eCallS m__law_one 2 0 (lCons (eLst (lCons (eC (.int 1)) (lCons (eC (.int 2)) (lCons (eC (.int 49)) lNil)))) lNil)) lNil)) (gmName 6) (sSet 5 (eTup (lCons (eVar 5) lNil))))
  (sRet (eOp vAdd (eOwn 4) (eLst (lCons (eC (.str "")) (lCons (eC .none) (lCons (eC (.int 0)) (lCons (eC (.int 5)) (lCons (eC (.bool true)) (lCons (eC (.bool false)) (lCons (eTup (lCons (eVar 1) lNil)) (lCons (eTup lNil) (lCons (eVar 5) (lCons (eN (v1L vTuple) (lCons (eLc (lSeq (eVar 1)) (gmName 7) mYes (eVar 7) [7]) lNil)) (lCons (eUn vNeg (eC (.int 1))) (lCons (eOp vPow (eC (.int 10)) (eC (.int 30))) lNil)))))))))))))))))))))
def m__law_46_things : FM := mBody 8 false b__law_46_things
theorem f__law_46_things {S : Su} (h : Hd S fa fn tf) (kc : Nat) : ∃ fd, Cal S kc 3 "_law_46_things" st__law_46_things fd ["jar"] m__law_46_things false := by
  obtain ⟨_, c0⟩ := f__law_46_drawn h 0
  obtain ⟨_, c1⟩ := f__law_take h 0
  obtain ⟨_, c2⟩ := f__law_one h 0
  obtain ⟨_, c3⟩ := f__law_46_others h 0
  obtain ⟨fd, F⟩ := h.df (dOf "_law_46_things" st__law_46_things) (List.mem_of_getElem? (i := 8) rfl)
  refine ⟨fd, fnm_ofD (k := 2) (p := ("_law_46_things", none)) F sc__law_46_things (fun f cdv A outer s H E Fr b => ?_), glo__law_46_things h, F, bindP_of (x := "_law_46_things") (st := st__law_46_things) F fun _ _ _ _ _ _ us hl => match us, hl with | [_], _ => rfl⟩
  have o := b.on
  have hk := o.K.trans o.FK.symm
  exact ⟨_, (mss_cons (ms_set 1 (me_callS 0 (o.mono (by omega)) c0.fn (c0.gl o) (c0.bdX o) (ma_cons (me_add (me_int hk) (me_callS 0 (o.mono (by omega)) c1.fn (c1.gl o) (c1.bdX o) (ma_cons (me_int hk) (ma_nil hk)))) (ma_cons (me_int hk) (ma_nil hk)))))
  (mss_cons (ms_par 2 3 rfl (ma_cons (me_callS 0 (o.mono (by omega)) c1.fn (c1.gl o) (c1.bdX o) (ma_cons (me_len (free_len h) (ma_cons (me_var 1 hk) (ma_nil hk))) (ma_nil hk))) (ma_cons (me_callS 0 (o.mono (by omega)) c2.fn (c2.gl o) (c2.bdX o) (ma_cons (me_call0 (o.mono (by omega)) c3.fn (c3.gl o) (c3.bdX o)) (ma_nil hk))) (ma_nil hk))))
  (mss_cons (ms_own 4 (me_lst (ma_cons (me_var 1 hk) (ma_cons (me_add (me_add (me_sl (me_var 1 hk) mo_none (mo_some (me_var 2 hk))) (me_var 3 hk)) (me_sl (me_var 1 hk) (mo_some (me_add (me_var 2 hk) (me_int hk))) mo_none)) (ma_cons (me_add (me_sl (me_var 1 hk) mo_none (mo_some (me_int hk))) (me_var 3 hk)) (ma_cons (me_var 3 hk) (ma_cons (me_add (me_var 1 hk) (me_str hk)) (ma_cons (me_add (me_str hk) (me_var 1 hk)) (ma_cons (me_sUpper (me_var 1 hk)) (ma_nil hk))))))))))
  (mss_cons (ms_expr (me_extend 4 (ma_cons (me_lst (ma_cons (me_callS 0 (o.mono (by omega)) c0.fn (c0.gl o) (c0.bdX o) (ma_cons (me_int hk) (ma_cons (me_int hk) (ma_nil hk)))) (ma_cons (me_callS 0 (o.mono (by omega)) c0.fn (c0.gl o) (c0.bdX o) (ma_cons (me_int hk) (ma_cons (me_int hk) (ma_nil hk)))) (ma_cons (me_callS 0 (o.mono (by omega)) c0.fn (c0.gl o) (c0.bdX o) (ma_cons (me_int hk) (ma_cons (me_int hk) (ma_nil hk)))) (ma_cons (me_add (me_str hk) (me_sl (me_var 1 hk) mo_none (mo_some (me_int hk)))) (ma_nil hk)))))) (ma_nil hk))))
  (mss_cons (ms_set 5 (me_var 1 hk))
  (mss_cons (ms_for (passes_of rfl) rfl (mi_rng1 (free_range h) (ma_cons (me_callS 0 (o.mono (by omega)) c2.fn (c2.gl o) (c2.bdX o) (ma_cons (me_lst (ma_cons (me_int hk) (ma_cons (me_int hk) (ma_cons (me_int hk) (ma_nil hk))))) (ma_nil hk))) (ma_nil hk))) (mg_name 6 hk) (mss_one (ms_set 5 (me_tup (ma_cons (me_var 5 hk) (ma_nil hk))))))
  (mss_one (ms_ret (me_add (me_own 4 hk) (me_lst (ma_cons (me_str hk) (ma_cons (me_non hk) (ma_cons (me_int hk) (ma_cons (me_int hk) (ma_cons (me_bl hk) (ma_cons (me_bl hk) (ma_cons (me_tup (ma_cons (me_var 1 hk) (ma_nil hk))) (ma_cons (me_tup (ma_nil hk)) (ma_cons (me_var 5 hk) (ma_cons (me_tupleC (free_tuple h) (ma_cons (me_lcO (own := [("sign", 7)]) o rfl (mi_seq (me_var 1 hk)) (fun _ _ _ _ _ o6 => (mg_name 7 o6.hk)) (fun _ _ _ _ _ o6 => (mts_nil o6.hk)) (fun _ _ _ _ _ o6 => (me_var 7 o6.hk))) (ma_nil hk))) (ma_cons (me_neg (me_int hk)) (ma_cons (me_pow (me_int hk) (me_int hk)) (ma_nil hk)))))))))))))))))))))))⟩
/-! _law_is -/
abbrev st__law_is : Stmt := topS 15
abbrev N__law_is : List Str := ["call", "owed"]
theorem sc__law_is : FnScope N__law_is ["call", "owed"] (defScope st__law_is) := ⟨rfl, rfl, rfl, by decide +kernel, rfl, by decide +kernel, by decide +kernel⟩
def b__law_is : SM := (sRet (eCall m__law_yq_same 2 (lCons (eCallP m__law_heard 1 0 lNil) (lCons (eTup (lCons (eC (.str "told")) (lCons (eVar 1) lNil))) lNil))))
def m__law_is : FM := mBody 2 false b__law_is
theorem f__law_is {S : Su} (h : Hd S fa fn tf) (hca : CaOk S) (kc : Nat) : ∃ fd, Cal S kc (kc + 2) "_law_is" st__law_is fd ["call", "owed"] m__law_is false := by
  obtain ⟨_, c0⟩ := f__law_yq_same h 0
  obtain ⟨_, c1⟩ := f__law_heard h hca kc
  obtain ⟨fd, F⟩ := h.df (dOf "_law_is" st__law_is) (List.mem_of_getElem? (i := 9) rfl)
  refine ⟨fd, fnm_ofD (k := kc + 1) (p := ("_law_is", none)) F sc__law_is (fun f cdv A outer s H E Fr b => ?_), glo__law_is h, F, bindP_of (x := "_law_is") (st := st__law_is) F fun _ _ _ _ _ _ us hl => match us, hl with | [_, _], _ => rfl⟩
  have o := b.on
  have hk := o.K.trans o.FK.symm
  exact ⟨_, (mss_one (ms_ret (me_call (o.mono (by omega)) c0.fn (c0.gl o) (c0.bdX o) (ma_cons (me_callP 0 (o.mono (by omega)) c1.fn (c1.gl o) (c1.bdX o) (.inl b.en) (ma_nil hk)) (ma_cons (me_tup (ma_cons (me_str hk) (ma_cons (me_var 1 hk) (ma_nil hk)))) (ma_nil hk))))))⟩
/-! is_name -/
abbrev st_is_name : Stmt := topS 4
abbrev N_is_name : List Str := ["thing", "sign"]
theorem sc_is_name : FnScope N_is_name ["thing"] (defScope st_is_name) := ⟨rfl, rfl, rfl, by decide +kernel, rfl, by decide +kernel, by decide +kernel⟩
def b_is_name : SM := (sSeq (sIf (mOr (mNot (eTst (eIsi "str" (eVar 0)))) (mNot (eTst (eChain vLe vLe (eC (.int 1)) (eN (v1L vLen) (lCons (eVar 0) lNil)) (eC (.int 12)))))) (sRet (eC (.bool false))) sNx)
  (sRet (eN (v1L vAll) (lCons (eLc (lSeq (eVar 0)) (gmName 1) mYes (eOp vIn (eVar 1) (eC (.str "abcdefghijklmnopqrstuvwxyz0123456789_-"))) [1]) lNil))))
def m_is_name : FM := mBody 2 false b_is_name
theorem f_is_name {S : Su} (h : Hd S fa fn tf) (kc : Nat) : ∃ fd, Cal S kc 1 "is_name" st_is_name fd ["thing"] m_is_name false := by
  obtain ⟨fd, F⟩ := h.df (dOf "is_name" st_is_name) (List.mem_of_getElem? (i := 10) rfl)
  refine ⟨fd, fnm_ofD (k := 0) (p := ("is_name", none)) F sc_is_name (fun f cdv A outer s H E Fr b => ?_), glo_is_name h, F, bindP_of (x := "is_name") (st := st_is_name) F fun _ _ _ _ _ _ us hl => match us, hl with | [_], _ => rfl⟩
  have o := b.on
  have hk := o.K.trans o.FK.symm
  exact ⟨_, (mss_cons (ms_if (MW.mt (mw_or (mt_not (mt_val (me_isi (T := "str") (free_isinstance h) (free_str h) (by decide +kernel) (me_var 0 hk)))) (mw_or1 (mt_not (mt_chain op_le op_le v_le v_le (me_int hk) (me_len (free_len h) (ma_cons (me_var 0 hk) (ma_nil hk))) (me_gint hk (int_MOST_NAME h))))))) (mss_one (ms_ret (me_bl hk))) (mss_nil hk))
  (mss_one (ms_ret (me_all rfl (free_all h) (ma_cons (me_lcO (own := [("sign", 1)]) o rfl (mi_seq (me_var 0 hk)) (fun _ _ _ _ _ o8 => (mg_name 1 o8.hk)) (fun _ _ _ _ _ o8 => (mts_nil o8.hk)) (fun _ _ _ _ _ o8 => (me_in o8 (me_var 1 o8.hk) (me_gstr o8.hk (str_SIGNS h))))) (ma_nil hk))))))⟩
/-! _law_46_is_name -/
abbrev st__law_46_is_name : Stmt := topS 17
abbrev N__law_46_is_name : List Str := ["thing", "sign"]
theorem sc__law_46_is_name : FnScope N__law_46_is_name ["thing"] (defScope st__law_46_is_name) := ⟨rfl, rfl, rfl, by decide +kernel, rfl, by decide +kernel, by decide +kernel⟩
def b__law_46_is_name : SM := (sSeq (sIf (mOr (mNot (eTst (eIsi "str" (eVar 0)))) (mNot (eTst (eChain vLe vLe (eC (.int 1)) (eN (v1L vLen) (lCons (eVar 0) lNil)) (eC (.int 12)))))) (sRet (eC (.bool false))) sNx)
  (sRet (eOp vEq (eLc (lSeq (eVar 0)) (gmName 1) (eTst (eOp vNotIn (eVar 1) (eSl vSl (eCall0 m__law_46_signs) oNone (oSome (eC (.int 38)))))) (eVar 1) [1]) (eLst lNil))))
def m__law_46_is_name : FM := mBody 2 false b__law_46_is_name
theorem f__law_46_is_name {S : Su} (h : Hd S fa fn tf) (kc : Nat) : ∃ fd, Cal S kc 2 "_law_46_is_name" st__law_46_is_name fd ["thing"] m__law_46_is_name false := by
  obtain ⟨_, c0⟩ := f__law_46_signs h 0
  obtain ⟨fd, F⟩ := h.df (dOf "_law_46_is_name" st__law_46_is_name) (List.mem_of_getElem? (i := 11) rfl)
  refine ⟨fd, fnm_ofD (k := 1) (p := ("_law_46_is_name", none)) F sc__law_46_is_name (fun f cdv A outer s H E Fr b => ?_), glo__law_46_is_name h, F, bindP_of (x := "_law_46_is_name") (st := st__law_46_is_name) F fun _ _ _ _ _ _ us hl => match us, hl with | [_], _ => rfl⟩
  have o := b.on
  have hk := o.K.trans o.FK.symm
  exact ⟨_, (mss_cons (ms_if (MW.mt (mw_or (mt_not (mt_val (me_isi (T := "str") (free_isinstance h) (free_str h) (by decide +kernel) (me_var 0 hk)))) (mw_or1 (mt_not (mt_chain op_le op_le v_le v_le (me_int hk) (me_len (free_len h) (ma_cons (me_var 0 hk) (ma_nil hk))) (me_int hk)))))) (mss_one (ms_ret (me_bl hk))) (mss_nil hk))
  (mss_one (ms_ret (me_eq o (me_lcO (own := [("sign", 1)]) o rfl (mi_seq (me_var 0 hk)) (fun _ _ _ _ _ o9 => (mg_name 1 o9.hk)) (fun _ _ _ _ _ o9 => (mts_one (mt_notIn o9 (me_var 1 o9.hk) (me_sl (me_call0 (o9.mono (by omega)) c0.fn (c0.gl o9) (c0.bdX o9)) mo_none (mo_some (me_int o9.hk)))))) (fun _ _ _ _ _ o9 => (me_var 1 o9.hk))) (me_lst (ma_nil hk))))))⟩
/-! _law_46_numbers -/
abbrev st__law_46_numbers : Stmt := topS 18
abbrev N__law_46_numbers : List Str := ["text", "by", "at", "sign"]
theorem sc__law_46_numbers : FnScope N__law_46_numbers ["text"] (defScope st__law_46_numbers) := ⟨rfl, rfl, rfl, by decide +kernel, rfl, by decide +kernel, by decide +kernel⟩
def b__law_46_numbers : SM := (sSeq (sDictP 1 (lCons (eLc (lEnum (lCons (eCall0 m__law_46_signs) lNil)) (gmTup 2 (gmCons (gmName 2) (gmCons (gmName 3) gmNil))) mYes (eTup (lCons (eVar 3) (lCons (eVar 2) lNil))) [2, 3]) lNil))
  (sRet (eN (v1L vTuple) (lCons (eLc (lSeq (eVar 0)) (gmName 3) mYes (eDGet 1 (eVar 3)) [3]) lNil))))
def m__law_46_numbers : FM := mBody 4 false b__law_46_numbers
theorem f__law_46_numbers {S : Su} (h : Hd S fa fn tf) (kc : Nat) : ∃ fd, Cal S kc 2 "_law_46_numbers" st__law_46_numbers fd ["text"] m__law_46_numbers false := by
  obtain ⟨_, c0⟩ := f__law_46_signs h 0
  obtain ⟨fd, F⟩ := h.df (dOf "_law_46_numbers" st__law_46_numbers) (List.mem_of_getElem? (i := 12) rfl)
  refine ⟨fd, fnm_ofD (k := 1) (p := ("_law_46_numbers", none)) F sc__law_46_numbers (fun f cdv A outer s H E Fr b => ?_), glo__law_46_numbers h, F, bindP_of (x := "_law_46_numbers") (st := st__law_46_numbers) F fun _ _ _ _ _ _ us hl => match us, hl with | [_], _ => rfl⟩
  have o := b.on
  have hk := o.K.trans o.FK.symm
  exact ⟨_, (mss_cons (ms_dictP 1 rfl (free_dict h) (ma_cons (me_lcO (own := [("at", 2), ("sign", 3)]) o rfl (mi_enum (free_enumerate h) (ma_cons (me_call0 (o.mono (by omega)) c0.fn (c0.gl o) (c0.bdX o)) (ma_nil hk))) (fun _ _ _ _ _ o10 => (mg_tup rfl (mgs_cons (mg_name 2 o10.hk) (mgs_cons (mg_name 3 o10.hk) (mgs_nil o10.hk))))) (fun _ _ _ _ _ o10 => (mts_nil o10.hk)) (fun _ _ _ _ _ o10 => (me_tup (ma_cons (me_var 3 o10.hk) (ma_cons (me_var 2 o10.hk) (ma_nil o10.hk)))))) (ma_nil hk)))
  (mss_one (ms_ret (me_tupleC (free_tuple h) (ma_cons (me_lcO (own := [("sign", 3)]) o rfl (mi_seq (me_var 0 hk)) (fun _ _ _ _ _ o11 => (mg_name 3 o11.hk)) (fun _ _ _ _ _ o11 => (mts_nil o11.hk)) (fun _ _ _ _ _ o11 => (me_dget 1 o11 (me_var 3 o11.hk)))) (ma_nil hk))))))⟩
/-! numbers_of -/
abbrev st_numbers_of : Stmt := topS 5
abbrev N_numbers_of : List Str := ["text", "sign"]
theorem sc_numbers_of : FnScope N_numbers_of ["text"] (defScope st_numbers_of) := ⟨rfl, rfl, rfl, by decide +kernel, rfl, by decide +kernel, by decide +kernel⟩
def b_numbers_of : SM := (sRet (eN (v1L vTuple) (lCons (eLc (lSeq (eVar 0)) (gmName 1) mYes (eM1 vsIndex (eC (.str "abcdefghijklmnopqrstuvwxyz0123456789_-/")) (eVar 1)) [1]) lNil)))
def m_numbers_of : FM := mBody 2 false b_numbers_of
theorem f_numbers_of {S : Su} (h : Hd S fa fn tf) (kc : Nat) : ∃ fd, Cal S kc 1 "numbers_of" st_numbers_of fd ["text"] m_numbers_of false := by
  obtain ⟨fd, F⟩ := h.df (dOf "numbers_of" st_numbers_of) (List.mem_of_getElem? (i := 13) rfl)
  refine ⟨fd, fnm_ofD (k := 0) (p := ("numbers_of", none)) F sc_numbers_of (fun f cdv A outer s H E Fr b => ?_), glo_numbers_of h, F, bindP_of (x := "numbers_of") (st := st_numbers_of) F fun _ _ _ _ _ _ us hl => match us, hl with | [_], _ => rfl⟩
  have o := b.on
  have hk := o.K.trans o.FK.symm
  exact ⟨_, (mss_one (ms_ret (me_tupleC (free_tuple h) (ma_cons (me_lcO (own := [("sign", 1)]) o rfl (mi_seq (me_var 0 hk)) (fun _ _ _ _ _ o13 => (mg_name 1 o13.hk)) (fun _ _ _ _ _ o13 => (mts_nil o13.hk)) (fun _ _ _ _ _ o13 => (me_sIndex (me_gstr o13.hk (str_WRITTEN h)) (me_var 1 o13.hk)))) (ma_nil hk)))))⟩
/-! text_of -/
abbrev st_text_of : Stmt := topS 6
abbrev N_text_of : List Str := ["numbers", "number"]
theorem sc_text_of : FnScope N_text_of ["numbers"] (defScope st_text_of) := ⟨rfl, rfl, rfl, by decide +kernel, rfl, by decide +kernel, by decide +kernel⟩
def b_text_of : SM := (sRet (eM1 vsJoin (eC (.str "")) (eLc (lSeq (eVar 0)) (gmName 1) mYes (eOp vIx (eC (.str "abcdefghijklmnopqrstuvwxyz0123456789_-/")) (eVar 1)) [1])))
def m_text_of : FM := mBody 2 false b_text_of
theorem f_text_of {S : Su} (h : Hd S fa fn tf) (kc : Nat) : ∃ fd, Cal S kc 1 "text_of" st_text_of fd ["numbers"] m_text_of false := by
  obtain ⟨fd, F⟩ := h.df (dOf "text_of" st_text_of) (List.mem_of_getElem? (i := 14) rfl)
  refine ⟨fd, fnm_ofD (k := 0) (p := ("text_of", none)) F sc_text_of (fun f cdv A outer s H E Fr b => ?_), glo_text_of h, F, bindP_of (x := "text_of") (st := st_text_of) F fun _ _ _ _ _ _ us hl => match us, hl with | [_], _ => rfl⟩
  have o := b.on
  have hk := o.K.trans o.FK.symm
  exact ⟨_, (mss_one (ms_ret (me_sJoin (me_str hk) (me_lcO (own := [("number", 1)]) o rfl (mi_seq (me_var 0 hk)) (fun _ _ _ _ _ o14 => (mg_name 1 o14.hk)) (fun _ _ _ _ _ o14 => (mts_nil o14.hk)) (fun _ _ _ _ _ o14 => (me_ix (me_gstr o14.hk (str_WRITTEN h)) (me_var 1 o14.hk)))))))⟩
/-! _law_46_texts_right -/
abbrev st__law_46_texts_right : Stmt := topS 22
abbrev N__law_46_texts_right : List Str := ["jar", "many", "text", "owed"]
theorem sc__law_46_texts_right : FnScope N__law_46_texts_right ["jar"] (defScope st__law_46_texts_right) := ⟨rfl, rfl, rfl, by decide +kernel, rfl, by decide +kernel, by decide +kernel⟩
def b__law_46_texts_right : SM := (sSeq (sFor (lSeq (eTup (lCons (eC (.int 0)) (lCons (eC (.int 1)) (lCons (eCallS m__law_take 2 0 (lCons (eC (.int 13)) lNil)) (lCons (eC (.int 12)) (lCons (eC (.int 200)) lNil))))))) (gmName 1) (sSeq (sSet 2 (eCallS m__law_46_drawn 3 0 (lCons (eVar 1) (lCons (eC (.int 39)) lNil))))
  (sSeq (sSet 3 (eCall m__law_46_numbers 1 (lCons (eVar 2) lNil)))
  (sSeq (sIf (mNot (eTst (eLam m__law_is 2 false (eTup (lCons (eCallK m_numbers_of 0 1 [0] lNil (lCons (eVar 2) lNil)) (lCons (eCallK m_text_of 0 1 [0] lNil (lCons (eVar 3) lNil)) lNil))) (lCons (eTup (lCons (eVar 3) (lCons (eVar 2) lNil))) lNil)))) (sRet (eC (.bool false))) sNx)
  (sIf (mNot (eTst (eLam m__law_is 2 false (eTup (lCons (eCall m_text_of 1 (lCons (eCall m_numbers_of 1 (lCons (eVar 2) lNil)) lNil)) (lCons (eCall m_numbers_of 1 (lCons (eCall m_text_of 1 (lCons (eVar 3) lNil)) lNil)) lNil))) (lCons (eTup (lCons (eVar 2) (lCons (eVar 3) lNil))) lNil)))) (sRet (eC (.bool false))) sNx)))))
  (sRet (eC (.bool true))))
def m__law_46_texts_right : FM := mBody 4 false b__law_46_texts_right
theorem f__law_46_texts_right {S : Su} (h : Hd S fa fn tf) (hca : CaOk S) (kc : Nat) : ∃ fd, Cal S kc 5 "_law_46_texts_right" st__law_46_texts_right fd ["jar"] m__law_46_texts_right false := by
  obtain ⟨_, c0⟩ := f__law_take h 0
  obtain ⟨_, c1⟩ := f__law_46_drawn h 0
  obtain ⟨_, c2⟩ := f__law_46_numbers h 0
  obtain ⟨_, c3⟩ := f_numbers_of h 0
  obtain ⟨_, c4⟩ := f_text_of h 0
  obtain ⟨_, c5⟩ := f__law_is h hca 2
  obtain ⟨fd, F⟩ := h.df (dOf "_law_46_texts_right" st__law_46_texts_right) (List.mem_of_getElem? (i := 15) rfl)
  refine ⟨fd, fnm_ofD (k := 4) (p := ("_law_46_texts_right", none)) F sc__law_46_texts_right (fun f cdv A outer s H E Fr b => ?_), glo__law_46_texts_right h, F, bindP_of (x := "_law_46_texts_right") (st := st__law_46_texts_right) F fun _ _ _ _ _ _ us hl => match us, hl with | [_], _ => rfl⟩
  have o := b.on
  have hk := o.K.trans o.FK.symm
  have lt := lamT_of b h.T h.nd (tf := tf) (List.mem_of_getElem? (i := 0) rfl) (h.tb (("_law_46_texts_right", none), "_law_46_texts_right") (List.mem_of_getElem? (i := 0) rfl))
  exact ⟨_, (mss_cons (ms_for (passes_of rfl) rfl (mi_seq (me_tup (ma_cons (me_int hk) (ma_cons (me_int hk) (ma_cons (me_callS 0 (o.mono (by omega)) c0.fn (c0.gl o) (c0.bdX o) (ma_cons (me_int hk) (ma_nil hk))) (ma_cons (me_int hk) (ma_cons (me_int hk) (ma_nil hk)))))))) (mg_name 1 hk) (mss_cons (ms_set 2 (me_callS 0 (o.mono (by omega)) c1.fn (c1.gl o) (c1.bdX o) (ma_cons (me_var 1 hk) (ma_cons (me_int hk) (ma_nil hk)))))
  (mss_cons (ms_set 3 (me_call (o.mono (by omega)) c2.fn (c2.gl o) (c2.bdX o) (ma_cons (me_var 2 hk) (ma_nil hk))))
  (mss_cons (ms_if (mt_not (mt_val (me_lam (kb := 1) false (o.mono (by omega)) c5.fn (c5.gl o) (c5.bdX o) lt (ma_cons (me_tup (ma_cons (me_var 3 hk) (ma_cons (me_var 2 hk) (ma_nil hk)))) (ma_nil hk)) (fun _ _ _ _ _ _ _ _ _ _ _ _ nc12 o12 => have hk12 := o12.hk; ⟨_, (me_tup (ma_cons (me_callK0 (o12.mono (by omega)) c3.fn (c3.gl o12) (bindK_of (ps := ["text"]) (ks := ["text"]) (nu := 0) (ix := [0]) o12 c3.F (fun _ _ _ _ _ _ us ws h1 h2 => match us, ws, h1, h2 with | [], [_], _, _ => rfl)) (mk_cons (me_var 2 hk12) (mk_nil hk12))) (ma_cons (me_callK0 (o12.mono (by omega)) c4.fn (c4.gl o12) (bindK_of (ps := ["numbers"]) (ks := ["numbers"]) (nu := 0) (ix := [0]) o12 c4.F (fun _ _ _ _ _ _ us ws h1 h2 => match us, ws, h1, h2 with | [], [_], _, _ => rfl)) (mk_cons (me_var 3 hk12) (mk_nil hk12))) (ma_nil hk12))))⟩)))) (mss_one (ms_ret (me_bl hk))) (mss_nil hk))
  (mss_one (ms_if (mt_not (mt_val (me_lam (kb := 1) false (o.mono (by omega)) c5.fn (c5.gl o) (c5.bdX o) lt (ma_cons (me_tup (ma_cons (me_var 2 hk) (ma_cons (me_var 3 hk) (ma_nil hk)))) (ma_nil hk)) (fun _ _ _ _ _ _ _ _ _ _ _ _ nc15 o15 => have hk15 := o15.hk; ⟨_, (me_tup (ma_cons (me_call (o15.mono (by omega)) c4.fn (c4.gl o15) (c4.bdX o15) (ma_cons (me_call (o15.mono (by omega)) c3.fn (c3.gl o15) (c3.bdX o15) (ma_cons (me_var 2 hk15) (ma_nil hk15))) (ma_nil hk15))) (ma_cons (me_call (o15.mono (by omega)) c3.fn (c3.gl o15) (c3.bdX o15) (ma_cons (me_call (o15.mono (by omega)) c4.fn (c4.gl o15) (c4.bdX o15) (ma_cons (me_var 3 hk15) (ma_nil hk15))) (ma_nil hk15))) (ma_nil hk15))))⟩)))) (mss_one (ms_ret (me_bl hk))) (mss_nil hk)))))))
  (mss_one (ms_ret (me_bl hk))))⟩
/-! _law_46_order_right -/
abbrev st__law_46_order_right : Stmt := topS 23
abbrev N__law_46_order_right : List Str := ["jar", "one", "other", "two", "owed"]
theorem sc__law_46_order_right : FnScope N__law_46_order_right ["jar"] (defScope st__law_46_order_right) := ⟨rfl, rfl, rfl, by decide +kernel, rfl, by decide +kernel, by decide +kernel⟩
def b__law_46_order_right : SM := (sSeq (sSet 1 (eCallS m__law_46_drawn 3 0 (lCons (eOp vAdd (eC (.int 1)) (eCallS m__law_take 2 0 (lCons (eC (.int 11)) lNil))) (lCons (eC (.int 38)) lNil))))
  (sSeq (sSet 2 (eCallS m__law_one 2 0 (lCons (eLst (lCons (eOp vAdd (eVar 1) (eC (.str "-"))) (lCons (eOp vAdd (eSl vSl (eVar 1) oNone (oSome (eUn vNeg (eC (.int 1))))) (eC (.str "-"))) (lCons (eOp vAdd (eC (.str "z")) (eSl vSl (eVar 1) (oSome (eC (.int 1))) oNone)) (lCons (eOp vAdd (eC (.str "0")) (eSl vSl (eVar 1) (oSome (eC (.int 1))) oNone)) (lCons (eCallS m__law_46_drawn 3 0 (lCons (eC (.int 5)) (lCons (eC (.int 38)) lNil))) lNil)))))) lNil)))
  (sSeq (sSet 3 (eTup (lCons (eCall m__law_46_numbers 1 (lCons (eVar 1) lNil)) (lCons (eCall m__law_46_numbers 1 (lCons (eVar 2) lNil)) lNil))))
  (sSeq (sSet 4 (eLst (lCons (eOp vLt (eOp vIx (eVar 3) (eC (.int 0))) (eOp vIx (eVar 3) (eC (.int 1)))) (lCons (eOp vLt (eOp vIx (eVar 3) (eC (.int 1))) (eOp vIx (eVar 3) (eC (.int 0)))) (lCons (eOp vEq (eVar 1) (eVar 2)) (lCons (eC (.bool true)) (lCons (eC (.bool true)) lNil)))))))
  (sRet (eLam m__law_is 2 false (eLst (lCons (eOp vLt (eCall m_numbers_of 1 (lCons (eVar 1) lNil)) (eCall m_numbers_of 1 (lCons (eVar 2) lNil))) (lCons (eOp vLt (eCall m_numbers_of 1 (lCons (eVar 2) lNil)) (eCall m_numbers_of 1 (lCons (eVar 1) lNil))) (lCons (eOp vEq (eCall m_numbers_of 1 (lCons (eVar 1) lNil)) (eCall m_numbers_of 1 (lCons (eVar 2) lNil))) (lCons (eCall m_is_name 1 (lCons (eVar 1) lNil)) (lCons (eCallK m_is_name 0 1 [0] lNil (lCons (eVar 2) lNil)) lNil)))))) (lCons (eVar 4) lNil)))))))
def m__law_46_order_right : FM := mBody 5 false b__law_46_order_right
theorem f__law_46_order_right {S : Su} (h : Hd S fa fn tf) (hca : CaOk S) (kc : Nat) : ∃ fd, Cal S kc 5 "_law_46_order_right" st__law_46_order_right fd ["jar"] m__law_46_order_right false := by
  obtain ⟨_, c0⟩ := f__law_46_drawn h 0
  obtain ⟨_, c1⟩ := f__law_take h 0
  obtain ⟨_, c2⟩ := f__law_one h 0
  obtain ⟨_, c3⟩ := f__law_46_numbers h 0
  obtain ⟨_, c4⟩ := f_numbers_of h 0
  obtain ⟨_, c5⟩ := f_is_name h 0
  obtain ⟨_, c6⟩ := f__law_is h hca 2
  obtain ⟨fd, F⟩ := h.df (dOf "_law_46_order_right" st__law_46_order_right) (List.mem_of_getElem? (i := 16) rfl)
  refine ⟨fd, fnm_ofD (k := 4) (p := ("_law_46_order_right", none)) F sc__law_46_order_right (fun f cdv A outer s H E Fr b => ?_), glo__law_46_order_right h, F, bindP_of (x := "_law_46_order_right") (st := st__law_46_order_right) F fun _ _ _ _ _ _ us hl => match us, hl with | [_], _ => rfl⟩
  have o := b.on
  have hk := o.K.trans o.FK.symm
  have lt := lamT_of b h.T h.nd (tf := tf) (List.mem_of_getElem? (i := 1) rfl) (h.tb (("_law_46_order_right", none), "_law_46_order_right") (List.mem_of_getElem? (i := 1) rfl))
  exact ⟨_, (mss_cons (ms_set 1 (me_callS 0 (o.mono (by omega)) c0.fn (c0.gl o) (c0.bdX o) (ma_cons (me_add (me_int hk) (me_callS 0 (o.mono (by omega)) c1.fn (c1.gl o) (c1.bdX o) (ma_cons (me_int hk) (ma_nil hk)))) (ma_cons (me_int hk) (ma_nil hk)))))
  (mss_cons (ms_set 2 (me_callS 0 (o.mono (by omega)) c2.fn (c2.gl o) (c2.bdX o) (ma_cons (me_lst (ma_cons (me_add (me_var 1 hk) (me_str hk)) (ma_cons (me_add (me_sl (me_var 1 hk) mo_none (mo_some (me_neg (me_int hk)))) (me_str hk)) (ma_cons (me_add (me_str hk) (me_sl (me_var 1 hk) (mo_some (me_int hk)) mo_none)) (ma_cons (me_add (me_str hk) (me_sl (me_var 1 hk) (mo_some (me_int hk)) mo_none)) (ma_cons (me_callS 0 (o.mono (by omega)) c0.fn (c0.gl o) (c0.bdX o) (ma_cons (me_int hk) (ma_cons (me_int hk) (ma_nil hk)))) (ma_nil hk))))))) (ma_nil hk))))
  (mss_cons (ms_set 3 (me_tup (ma_cons (me_call (o.mono (by omega)) c3.fn (c3.gl o) (c3.bdX o) (ma_cons (me_var 1 hk) (ma_nil hk))) (ma_cons (me_call (o.mono (by omega)) c3.fn (c3.gl o) (c3.bdX o) (ma_cons (me_var 2 hk) (ma_nil hk))) (ma_nil hk)))))
  (mss_cons (ms_set 4 (me_lst (ma_cons (me_lt o (me_ix (me_var 3 hk) (me_int hk)) (me_ix (me_var 3 hk) (me_int hk))) (ma_cons (me_lt o (me_ix (me_var 3 hk) (me_int hk)) (me_ix (me_var 3 hk) (me_int hk))) (ma_cons (me_eq o (me_var 1 hk) (me_var 2 hk)) (ma_cons (me_bl hk) (ma_cons (me_bl hk) (ma_nil hk))))))))
  (mss_one (ms_ret (me_lam (kb := 1) false (o.mono (by omega)) c6.fn (c6.gl o) (c6.bdX o) lt (ma_cons (me_var 4 hk) (ma_nil hk)) (fun _ _ _ _ _ _ _ _ _ _ _ _ nc16 o16 => have hk16 := o16.hk; ⟨_, (me_lst (ma_cons (me_lt o16 (me_call (o16.mono (by omega)) c4.fn (c4.gl o16) (c4.bdX o16) (ma_cons (me_var 1 hk16) (ma_nil hk16))) (me_call (o16.mono (by omega)) c4.fn (c4.gl o16) (c4.bdX o16) (ma_cons (me_var 2 hk16) (ma_nil hk16)))) (ma_cons (me_lt o16 (me_call (o16.mono (by omega)) c4.fn (c4.gl o16) (c4.bdX o16) (ma_cons (me_var 2 hk16) (ma_nil hk16))) (me_call (o16.mono (by omega)) c4.fn (c4.gl o16) (c4.bdX o16) (ma_cons (me_var 1 hk16) (ma_nil hk16)))) (ma_cons (me_eq o16 (me_call (o16.mono (by omega)) c4.fn (c4.gl o16) (c4.bdX o16) (ma_cons (me_var 1 hk16) (ma_nil hk16))) (me_call (o16.mono (by omega)) c4.fn (c4.gl o16) (c4.bdX o16) (ma_cons (me_var 2 hk16) (ma_nil hk16)))) (ma_cons (me_call (o16.mono (by omega)) c5.fn (c5.gl o16) (c5.bdX o16) (ma_cons (me_var 1 hk16) (ma_nil hk16))) (ma_cons (me_callK0 (o16.mono (by omega)) c5.fn (c5.gl o16) (bindK_of (ps := ["thing"]) (ks := ["thing"]) (nu := 0) (ix := [0]) o16 c5.F (fun _ _ _ _ _ _ us ws h1 h2 => match us, ws, h1, h2 with | [], [_], _, _ => rfl)) (mk_cons (me_var 2 hk16) (mk_nil hk16))) (ma_nil hk16)))))))⟩))))))))⟩
/-! _law_46_whole -/
abbrev st__law_46_whole : Stmt := topS 24
abbrev N__law_46_whole : List Str := ["script", "jar", "go", "thing", "signs", "at", "owed", "asks", "text"]
theorem sc__law_46_whole : FnScope N__law_46_whole ["script"] (defScope st__law_46_whole) := ⟨rfl, rfl, rfl, by decide +kernel, rfl, by decide +kernel, by decide +kernel⟩
def b__law_46_whole : SM := (sSeq (sOwn 1 (eCallP m__law_pool 1 0 lNil))
  (sSeq (sFor (lRng1 (lCons (eC (.int 8)) lNil)) (gmName 2) (sSeq (sFor (lSeq (eCallS m__law_46_things 1 1 lNil)) (gmName 3) (sIf (mNot (eTst (eLam m__law_is 2 false (eCall m_is_name 1 (lCons (eVar 3) lNil)) (lCons (eCall m__law_46_is_name 1 (lCons (eVar 3) lNil)) lNil)))) (sRet (eC (.bool false))) sNx))
  (sIf (mOr (mNot (eTst (eCallS m__law_46_texts_right 1 1 lNil))) (mNot (eTst (eCallS m__law_46_order_right 1 1 lNil)))) (sRet (eC (.bool false))) sNx)))
  (sSeq (sSet 4 (eCall0 m__law_46_signs))
  (sSeq (sFor (lRng1 (lCons (eC (.int 39)) lNil)) (gmName 5) (sSeq (sSet 6 (eTup (lCons (eOp vLt (eVar 5) (eC (.int 38))) (lCons (eTup (lCons (eVar 5) lNil)) (lCons (eOp vIx (eVar 4) (eVar 5)) lNil)))))
  (sIf (mNot (eTst (eLam m__law_is 2 false (eTup (lCons (eCall m_is_name 1 (lCons (eOp vIx (eVar 4) (eVar 5)) lNil)) (lCons (eCall m_numbers_of 1 (lCons (eOp vIx (eVar 4) (eVar 5)) lNil)) (lCons (eCall m_text_of 1 (lCons (eTup (lCons (eVar 5) lNil)) lNil)) lNil)))) (lCons (eVar 6) lNil)))) (sRet (eC (.bool false))) sNx)))
  (sSeq (sSet 7 (eLst (lCons (eTup (lCons (eC (.str "b_-9")) (lCons (eTup (lCons (eC (.int 1)) (lCons (eC (.int 36)) (lCons (eC (.int 37)) (lCons (eC (.int 35)) lNil))))) lNil))) (lCons (eTup (lCons (eC (.str "/a/0")) (lCons (eTup (lCons (eC (.int 38)) (lCons (eC (.int 0)) (lCons (eC (.int 38)) (lCons (eC (.int 26)) lNil))))) lNil))) (lCons (eTup (lCons (eC (.str "zz")) (lCons (eTup (lCons (eC (.int 25)) (lCons (eC (.int 25)) lNil))) lNil))) (lCons (eTup (lCons (eC (.str "")) (lCons (eTup lNil) lNil))) lNil))))))
  (sRet (eOp vEq (eLc (lSeq (eVar 7)) (gmTup 2 (gmCons (gmName 8) (gmCons (gmName 6) gmNil))) (mNot (eTst (eLam m__law_is 2 false (eTup (lCons (eCall m_numbers_of 1 (lCons (eVar 8) lNil)) (lCons (eCall m_text_of 1 (lCons (eVar 6) lNil)) lNil))) (lCons (eTup (lCons (eVar 6) (lCons (eVar 8) lNil))) lNil)))) (eC (.int 1)) [8, 6]) (eLst lNil))))))))
def m__law_46_whole : FM := mBody 9 false b__law_46_whole
theorem f__law_46_whole {S : Su} (h : Hd S fa fn tf) (hca : CaOk S) (kc : Nat) : ∃ fd, Cal S kc 6 "_law_46_whole" st__law_46_whole fd ["script"] m__law_46_whole false := by
  obtain ⟨_, c0⟩ := f__law_pool h kc
  obtain ⟨_, c1⟩ := f__law_46_things h 0
  obtain ⟨_, c2⟩ := f_is_name h 0
  obtain ⟨_, c3⟩ := f__law_is h hca 2
  obtain ⟨_, c4⟩ := f__law_46_is_name h 0
  obtain ⟨_, c5⟩ := f__law_46_texts_right h hca 0
  obtain ⟨_, c6⟩ := f__law_46_order_right h hca 0
  obtain ⟨_, c7⟩ := f__law_46_signs h 0
  obtain ⟨_, c8⟩ := f_numbers_of h 0
  obtain ⟨_, c9⟩ := f_text_of h 0
  obtain ⟨fd, F⟩ := h.df (dOf "_law_46_whole" st__law_46_whole) (List.mem_of_getElem? (i := 17) rfl)
  refine ⟨fd, fnm_ofD (k := 5) (p := ("_law_46_whole", none)) F sc__law_46_whole (fun f cdv A outer s H E Fr b => ?_), glo__law_46_whole h, F, bindP_of (x := "_law_46_whole") (st := st__law_46_whole) F fun _ _ _ _ _ _ us hl => match us, hl with | [_], _ => rfl⟩
  have o := b.on
  have hk := o.K.trans o.FK.symm
  have lt := lamT_of b h.T h.nd (tf := tf) (List.mem_of_getElem? (i := 2) rfl) (h.tb (("_law_46_whole", none), "_law_46_whole") (List.mem_of_getElem? (i := 2) rfl))
  exact ⟨_, (mss_cons (ms_own 1 (me_callP 0 (o.mono (by omega)) c0.fn (c0.gl o) (c0.bdX o) (.inl b.en) (ma_nil hk)))
  (mss_cons (ms_for (passes_of rfl) rfl (mi_rng1 (free_range h) (ma_cons (me_int hk) (ma_nil hk))) (mg_name 2 hk) (mss_cons (ms_for (passes_of rfl) rfl (mi_seq (me_callS 1 (o.mono (by omega)) c1.fn (c1.gl o) (c1.bdX o) (ma_nil hk))) (mg_name 3 hk) (mss_one (ms_if (mt_not (mt_val (me_lam (kb := 1) false (o.mono (by omega)) c3.fn (c3.gl o) (c3.bdX o) lt (ma_cons (me_call (o.mono (by omega)) c4.fn (c4.gl o) (c4.bdX o) (ma_cons (me_var 3 hk) (ma_nil hk))) (ma_nil hk)) (fun _ _ _ _ _ _ _ _ _ _ _ _ nc7 o7 => have hk7 := o7.hk; ⟨_, (me_call (o7.mono (by omega)) c2.fn (c2.gl o7) (c2.bdX o7) (ma_cons (me_var 3 hk7) (ma_nil hk7)))⟩)))) (mss_one (ms_ret (me_bl hk))) (mss_nil hk))))
  (mss_one (ms_if (MW.mt (mw_or (mt_not (mt_val (me_callS 1 (o.mono (by omega)) c5.fn (c5.gl o) (c5.bdX o) (ma_nil hk)))) (mw_or1 (mt_not (mt_val (me_callS 1 (o.mono (by omega)) c6.fn (c6.gl o) (c6.bdX o) (ma_nil hk))))))) (mss_one (ms_ret (me_bl hk))) (mss_nil hk)))))
  (mss_cons (ms_set 4 (me_call0 (o.mono (by omega)) c7.fn (c7.gl o) (c7.bdX o)))
  (mss_cons (ms_for (passes_of rfl) rfl (mi_rng1 (free_range h) (ma_cons (me_int hk) (ma_nil hk))) (mg_name 5 hk) (mss_cons (ms_set 6 (me_tup (ma_cons (me_lt o (me_var 5 hk) (me_int hk)) (ma_cons (me_tup (ma_cons (me_var 5 hk) (ma_nil hk))) (ma_cons (me_ix (me_var 4 hk) (me_var 5 hk)) (ma_nil hk))))))
  (mss_one (ms_if (mt_not (mt_val (me_lam (kb := 1) false (o.mono (by omega)) c3.fn (c3.gl o) (c3.bdX o) lt (ma_cons (me_var 6 hk) (ma_nil hk)) (fun _ _ _ _ _ _ _ _ _ _ _ _ nc17 o17 => have hk17 := o17.hk; ⟨_, (me_tup (ma_cons (me_call (o17.mono (by omega)) c2.fn (c2.gl o17) (c2.bdX o17) (ma_cons (me_ix (me_var 4 hk17) (me_var 5 hk17)) (ma_nil hk17))) (ma_cons (me_call (o17.mono (by omega)) c8.fn (c8.gl o17) (c8.bdX o17) (ma_cons (me_ix (me_var 4 hk17) (me_var 5 hk17)) (ma_nil hk17))) (ma_cons (me_call (o17.mono (by omega)) c9.fn (c9.gl o17) (c9.bdX o17) (ma_cons (me_tup (ma_cons (me_var 5 hk17) (ma_nil hk17))) (ma_nil hk17))) (ma_nil hk17)))))⟩)))) (mss_one (ms_ret (me_bl hk))) (mss_nil hk)))))
  (mss_cons (ms_set 7 (me_lst (ma_cons (me_tup (ma_cons (me_str hk) (ma_cons (me_tup (ma_cons (me_int hk) (ma_cons (me_int hk) (ma_cons (me_int hk) (ma_cons (me_int hk) (ma_nil hk)))))) (ma_nil hk)))) (ma_cons (me_tup (ma_cons (me_str hk) (ma_cons (me_tup (ma_cons (me_int hk) (ma_cons (me_int hk) (ma_cons (me_int hk) (ma_cons (me_int hk) (ma_nil hk)))))) (ma_nil hk)))) (ma_cons (me_tup (ma_cons (me_str hk) (ma_cons (me_tup (ma_cons (me_int hk) (ma_cons (me_int hk) (ma_nil hk)))) (ma_nil hk)))) (ma_cons (me_tup (ma_cons (me_str hk) (ma_cons (me_tup (ma_nil hk)) (ma_nil hk)))) (ma_nil hk)))))))
  (mss_one (ms_ret (me_eq o (me_lcO (own := [("text", 8), ("owed", 6)]) o rfl (mi_seq (me_var 7 hk)) (fun _ _ _ _ _ o18 => (mg_tup rfl (mgs_cons (mg_name 8 o18.hk) (mgs_cons (mg_name 6 o18.hk) (mgs_nil o18.hk))))) (fun _ _ _ _ _ o18 => (mts_one (mt_not (mt_val (me_lam (kb := 1) false (o18.mono (by omega)) c3.fn (c3.gl o18) (c3.bdX o18) (LamT.blk lt) (ma_cons (me_tup (ma_cons (me_var 6 o18.hk) (ma_cons (me_var 8 o18.hk) (ma_nil o18.hk)))) (ma_nil o18.hk)) (fun _ _ _ _ _ _ _ _ _ _ _ _ nc19 o19 => have hk19 := o19.hk; ⟨_, (me_tup (ma_cons (me_call (o19.mono (by omega)) c8.fn (c8.gl o19) (c8.bdX o19) (ma_cons (me_var 8 hk19) (ma_nil hk19))) (ma_cons (me_call (o19.mono (by omega)) c9.fn (c9.gl o19) (c9.bdX o19) (ma_cons (me_var 6 hk19) (ma_nil hk19))) (ma_nil hk19))))⟩)))))) (fun _ _ _ _ _ o18 => (me_int o18.hk))) (me_lst (ma_nil hk))))))))))⟩
/-! law -/
abbrev st_law : Stmt := topS 25
abbrev N_law : List Str := ["script"]
theorem sc_law : FnScope N_law ["script"] (defScope st_law) := ⟨rfl, rfl, rfl, by decide +kernel, rfl, by decide +kernel, by decide +kernel⟩
def b_law : SM := (sRet (eCall m__law_yq_same 2 (lCons (eLam m__law_heard 1 false (eCallP m__law_46_whole 1 0 lNil) lNil) (lCons (eTup (lCons (eC (.str "told")) (lCons (eC (.bool true)) lNil))) lNil))))
def m_law : FM := mBody 1 false b_law
theorem f_law {S : Su} (h : Hd S fa fn tf) (hca : CaOk S) (kc : Nat) : ∃ fd, Cal S kc 9 "law" st_law fd ["script"] m_law false := by
  obtain ⟨_, c0⟩ := f__law_yq_same h 0
  obtain ⟨_, c1⟩ := f__law_46_whole h hca 0
  obtain ⟨_, c2⟩ := f__law_heard h hca 7
  obtain ⟨fd, F⟩ := h.df (dOf "law" st_law) (List.mem_of_getElem? (i := 18) rfl)
  refine ⟨fd, fnm_ofD (k := 8) (p := ("law", none)) F sc_law (fun f cdv A outer s H E Fr b => ?_), glo_law h, F, bindP_of (x := "law") (st := st_law) F fun _ _ _ _ _ _ us hl => match us, hl with | [_], _ => rfl⟩
  have o := b.on
  have hk := o.K.trans o.FK.symm
  have lt := lamT_of b h.T h.nd (tf := tf) (List.mem_of_getElem? (i := 3) rfl) (h.tb (("law", none), "law") (List.mem_of_getElem? (i := 3) rfl))
  exact ⟨_, (mss_one (ms_ret (me_call (o.mono (by omega)) c0.fn (c0.gl o) (c0.bdX o) (ma_cons (me_lam (kb := 6) false (o.mono (by omega)) c2.fn (c2.gl o) (c2.bdX o) lt (ma_nil hk) (fun _ _ _ _ _ _ _ _ _ _ _ _ nc3 o3 => have hk3 := o3.hk; ⟨_, (me_callP 0 (o3.mono (by omega)) c1.fn (c1.gl o3) (c1.bdX o3) (.inr nc3) (ma_nil hk3))⟩)) (ma_cons (me_tup (ma_cons (me_str hk) (ma_cons (me_bl hk) (ma_nil hk)))) (ma_nil hk))))))⟩
end Mi

set_option Elab.async false
set_option linter.all false
set_option maxRecDepth 100000
set_option maxHeartbeats 0
/-! the head's run, the end; printed by gene.py -/
namespace Mi
open PySem PySem.Spec PyProof.Rows L2
abbrev Rw : PySem.W.OpenRow := PySem.W.OpenLaw.row PySem.Challenge.rw_stopweighs_k46_names_and_signs
def tfD : List He.Defn := tf.map (·.1)
abbrev hkX : PySem.W.Hook := He.hookX 4 fa fn [] tfD (tabsNd tf)
def obX (s : PySem.W.SharedT) : He.AlX := He.obsX 4 fa fn [] tfD (tabsNd tf) (HandSHeadRun.getT s)
theorem obX_eq (s : PySem.W.SharedT) : obX s = hkX.obs s.abs := He.obsX_eq (HandSHeadRun.getT_eq s)
def loose : List PySem.Str := ["SIGNS", "WRITTEN", "MOST_NAME", "is_name", "numbers_of", "text_of", "Refused", "_law_pool", "_law_take", "_law_one", "_law_yq_same", "_law_heard", "_law_is", "_law_46_signs", "_law_46_is_name", "_law_46_numbers", "_law_46_drawn", "_law_46_others", "_law_46_things", "_law_46_texts_right", "_law_46_order_right", "_law_46_whole"]
theorem runX (w : World) : HandSHeadRun.RunEq Rw (PySem.W.view Rw.prog [25]) hkX obX 4000 loose w := by
  intro os
  kernel_rfl
end Mi

set_option Elab.async false
set_option linter.all false
set_option maxRecDepth 100000
set_option maxHeartbeats 0
namespace Mi
open PySem PySem.Spec PyProof.Rows L2
/-- the plain law -/
def Plain : Prop := ∀ ns : List Int, ns.length ≤ 63 → (∀ z ∈ ns, Builtin.Int.intBits z ≤ 1048576) → outV (m_law [.sc ns]) = .ok (.bool true)
theorem law_at (plain : Plain) {P : Program} {w : World} {h : Heap} {mg : Str → Option Value} {f : Addr} (G : h.Ns mainGlobals mg) (hf : mg ("law" : Str) = some (.ref f)) (Y : hkX.says w h) : LawEnd P w mg f 63 h := by
  obtain ⟨K, X, c⟩ := Y
  have cd := c.t.d
  have S0 : ∀ base : Heap, K.In base → base.Ns mainGlobals mg → (∀ p ∈ tfD.map (He.cT K), LamX.TabB base mg p.1 p.2) → Hd ⟨P, w, K, mg, base, tabsT K tf, fun x => He.ga K (Str.ofString x)⟩ fa fn tf := fun base kb gb tb =>
    hd_of kb gb cd (fun p hp => tb _ (List.mem_map.mpr ⟨p.1, List.mem_map.mpr ⟨p, hp, rfl⟩, rfl⟩)) rfl c.more
  have mem : ∀ p ∈ tfD.map (He.cT K), ∃ q ∈ tfD, He.cT K q = p := fun p hp => List.mem_map.mp hp
  have ef : f = He.ga K "law" := by
    have e := hf.symm.trans (He.glo_ok X G (cd.facts (f := .glo "law") (List.mem_of_getElem? (i := 17) rfl)))
    cases e
    rfl
  subst ef
  -- the law's function object, whatever the base
  obtain ⟨fd, F⟩ := cd.defs (d := dOf "law" st_law) (List.mem_of_getElem? (i := 18) rfl)
  refine ⟨⟨K, tfD.map (He.cT K), tabsT K tf, fun x => He.ga K (Str.ofString x), fd, "script", 0, 9, m_law, false, X, fun p hp => ?_, fun p hp => ?_, fun p hp => ?_, fun p hp => ?_, ⟨rfl, by decide, by decide⟩, ?_, plain, fun base kb gb tb => ?_⟩⟩
  · obtain ⟨q, hq, rfl⟩ := mem p hp
    exact c.empty q hq
  · obtain ⟨q, hq, rfl⟩ := mem p hp
    exact c.out q hq
  · obtain ⟨q, hq, rfl⟩ := mem p hp
    exact PySem.W.codeHd_of_K X (c.hd q hq)
  · obtain ⟨q, hq, rfl⟩ := List.mem_map.mp hp
    exact List.mem_map.mpr ⟨He.cT K q.1, List.mem_map.mpr ⟨q.1, List.mem_map.mpr ⟨q, hq, rfl⟩, rfl⟩, rfl⟩
  · exact bindP_of (S := ⟨P, w, K, mg, h, [], fun _ => 0⟩) (x := "law") (st := st_law) F fun _ _ _ _ _ _ us hl => match us, hl with | [_], _ => rfl
  · obtain ⟨fd', cal⟩ := f_law (S0 base kb gb tb) rfl 0
    have fn := cal.fn
    have e : fd' = fd := by
      obtain ⟨_, _, _, _, _, _, _, _, _, _, _, e1, _⟩ := cal.F.ex
      obtain ⟨_, _, _, _, _, _, _, _, _, _, _, e2, _⟩ := F.ex
      have e3 := e1.symm.trans e2
      cases e3
      rfl
    rw [e] at fn
    exact fn
end Mi
open PySem PySem.W PySem.Calls PyProof.Rows
theorem Mi.holds_of (plain : Mi.Plain) : PySem.Challenge.rw_stopweighs_k46_names_and_signs.Holds := by
  w_on; o_law
  refine HandSHeadRun.head_any (r := OpenLaw.row PySem.Challenge.rw_stopweighs_k46_names_and_signs) (q := view (OpenLaw.row PySem.Challenge.rw_stopweighs_k46_names_and_signs).prog [25]) (H := Mi.hkX) (ob := Mi.obX) (M := 4000) (loose := Mi.loose) (d := HandSHeadRun.topDef (OpenLaw.row PySem.Challenge.rw_stopweighs_k46_names_and_signs).prog 25) (kwd := []) Mi.obX_eq
    (by kernel_rfl) (fun s => by kernel_rfl) Mi.runX (by kernel_rfl) (by kernel_rfl) (by kernel_rfl) (by rfl) (by first | assumption | decide +kernel) (by decide +kernel) ⟨rfl, rfl, rfl, rfl, rfl, by decide +kernel⟩ ?hw ?hc
  case hw => w_witness2
  case hc =>
    refine Mi.walk_end (l := PySem.Challenge.rw_stopweighs_k46_names_and_signs) (n := 63) rfl (by decide) (by kernel_rfl) fun w mg fa h Y G hm => ?_
    have hm2 : mg ("law" : PySem.Str) = some (.ref fa) := by
      have e : (HandSHeadRun.topDef (OpenLaw.row PySem.Challenge.rw_stopweighs_k46_names_and_signs).prog 25).name = ("law" : PySem.Str) := by kernel_rfl
      rw [← e]
      exact hm
    exact Mi.law_at plain G hm2 Y

set_option Elab.async false
set_option linter.all false
set_option maxRecDepth 100000
set_option maxHeartbeats 4000000
/-! Pl: plain laws about mirrors, for every law's proof. -/
namespace Mi
open PySem PySem.Spec PyProof.Rows L2
/-! ### loops by an invariant -/
theorem runFor_inv {g : GM} {b : SM} (I : Nat → List Sv → Prop) (items : List D) (step : ∀ (i : Nat) (d : D) (ρ : List Sv), items[i]? = some d → I i ρ → ∃ ρ1 ρ2, g d ρ = some ρ1 ∧ b ρ1 = .ok (.nx, ρ2) ∧ I (i + 1) ρ2) {ρ : List Sv} (h0 : I 0 ρ) : ∃ ρ', runFor g b items ρ = .ok (.nx, ρ') ∧ I items.length ρ' := by
  have go : ∀ (l : List D) (k : Nat) (ρ : List Sv), items.drop k = l → I k ρ → ∃ ρ', runFor g b l ρ = .ok (.nx, ρ') ∧ I (k + l.length) ρ' := by
    intro l
    induction l with
    | nil => intro k ρ _ hI; exact ⟨ρ, rfl, hI⟩
    | cons d l ih =>
      intro k ρ hd hI
      have e : items[k]? = some d := by
        have := List.getElem?_drop (xs := items) (i := k) (j := 0)
        rw [hd] at this
        simpa using this.symm
      obtain ⟨ρ1, ρ2, e1, e2, hI2⟩ := step k d ρ e hI
      have hd2 : items.drop (k + 1) = l := by
        rw [← List.drop_drop, hd]
        rfl
      obtain ⟨ρ', e3, hI3⟩ := ih (k + 1) ρ2 hd2 hI2
      refine ⟨ρ', ?_, by rw [List.length_cons, show k + (l.length + 1) = k + 1 + l.length by omega]; exact hI3⟩
      show (oOut (g d ρ)).bind (fun ρ1 => _) = _
      rw [e1]
      show (b ρ1).bind _ = _
      rw [e2]
      exact e3
  obtain ⟨ρ', e, h⟩ := go items 0 ρ rfl h0
  exact ⟨ρ', e, by rw [Nat.zero_add] at h; exact h⟩
/-- a loop that only looks: it goes through, or a body returns -/
theorem runFor_all {g : GM} {b : SM} (I : List Sv → Prop) (items : List D) (step : ∀ (d : D) (ρ : List Sv), d ∈ items → I ρ → ∃ ρ1 ρ2, g d ρ = some ρ1 ∧ b ρ1 = .ok (.nx, ρ2) ∧ I ρ2) {ρ : List Sv} (h0 : I ρ) : ∃ ρ', runFor g b items ρ = .ok (.nx, ρ') ∧ I ρ' :=
  runFor_inv (fun _ ρ => I ρ) items (fun _ d ρ e hI => step d ρ (List.mem_of_getElem? e) hI) h0
theorem runLc_inv {g : GM} {t : TM} {m : EM} (I : Nat → List Sv → List D → Prop) (items : List D)
    (step : ∀ (i : Nat) (d : D) (ρ : List Sv) (acc : List D), items[i]? = some d → I i ρ acc → acc.length ≤ i → ∃ ρ1 ρ2, g d ρ = some ρ1 ∧ ((t ρ1 = .ok (false, ρ2) ∧ I (i + 1) ρ2 acc) ∨ ∃ ρ3 x, t ρ1 = .ok (true, ρ2) ∧ m ρ2 = .ok (x, ρ3) ∧ I (i + 1) ρ3 (acc ++ [x])))
    (hz : items.length ≤ 1000000) {ρ : List Sv} (h0 : I 0 ρ []) : ∃ ρ' acc, runLc g t m items ρ [] = .ok (acc, ρ') ∧ I items.length ρ' acc ∧ acc.length ≤ items.length := by
  have go : ∀ (l : List D) (k : Nat) (ρ : List Sv) (acc : List D), items.drop k = l → I k ρ acc → acc.length ≤ k → k + l.length ≤ 1000000 → ∃ ρ' acc', runLc g t m l ρ acc = .ok (acc', ρ') ∧ I (k + l.length) ρ' acc' ∧ acc'.length ≤ k + l.length := by
    intro l
    induction l with
    | nil => intro k ρ acc _ hI hk _; exact ⟨ρ, acc, rfl, hI, hk⟩
    | cons d l ih =>
      intro k ρ acc hd hI hk hl
      rw [List.length_cons] at hl
      have e : items[k]? = some d := by
        have := List.getElem?_drop (xs := items) (i := k) (j := 0)
        rw [hd] at this
        simpa using this.symm
      obtain ⟨ρ1, ρ2, e1, q⟩ := step k d ρ acc e hI hk
      have hd2 : items.drop (k + 1) = l := by
        rw [← List.drop_drop, hd]
        rfl
      have el : k + (l.length + 1) = k + 1 + l.length := by omega
      rcases q with ⟨e2, hI2⟩ | ⟨ρ3, x, e2, e3, hI2⟩
      · obtain ⟨ρ', acc', e4, hI3, hl3⟩ := ih (k + 1) ρ2 acc hd2 hI2 (by omega) (by omega)
        refine ⟨ρ', acc', ?_, by rw [List.length_cons, el]; exact hI3, by rw [List.length_cons, el]; exact hl3⟩
        show (oOut (g d ρ)).bind (fun ρ1 => _) = _
        rw [e1]
        show ((t ρ1).calm).bind _ = _
        rw [e2]
        exact e4
      · obtain ⟨ρ', acc', e4, hI3, hl3⟩ := ih (k + 1) ρ3 (acc ++ [x]) hd2 hI2 (by rw [List.length_append, List.length_singleton]; omega) (by omega)
        refine ⟨ρ', acc', ?_, by rw [List.length_cons, el]; exact hI3, by rw [List.length_cons, el]; exact hl3⟩
        show (oOut (g d ρ)).bind (fun ρ1 => _) = _
        rw [e1]
        show ((t ρ1).calm).bind _ = _
        rw [e2]
        show ((m ρ2).calm).bind _ = _
        rw [e3]
        show (if acc.length < 16777216 then _ else _) = _
        rw [if_pos (by omega)]
        exact e4
  obtain ⟨ρ', acc, e, h, h2⟩ := go items 0 ρ [] rfl h0 (Nat.le_refl _) (by omega)
  exact ⟨ρ', acc, e, by rw [Nat.zero_add] at h; exact h, by rw [Nat.zero_add] at h2; exact h2⟩
/-- a comprehension that changes nothing, item by item -/
theorem runLc_map {g : GM} {m : EM} {items : List D} {f : D → D} (I : List Sv → Prop) (step : ∀ (d : D) (ρ : List Sv), d ∈ items → I ρ → ∃ ρ1 ρ2, g d ρ = some ρ1 ∧ m ρ1 = .ok (f d, ρ2) ∧ I ρ2) (hz : items.length ≤ 1000000) {ρ : List Sv} (h0 : I ρ) : ∃ ρ', runLc g mYes m items ρ [] = .ok (items.map f, ρ') ∧ I ρ' := by
  obtain ⟨ρ', acc, e, ⟨h, h2⟩, _⟩ := runLc_inv (t := mYes) (fun i ρ acc => I ρ ∧ acc = (items.take i).map f) items (fun i d ρ acc e hI _ => by
    obtain ⟨ρ1, ρ2, e1, e2, h⟩ := step d ρ (List.mem_of_getElem? e) hI.1
    refine ⟨ρ1, ρ1, e1, .inr ⟨ρ2, f d, rfl, e2, h, ?_⟩⟩
    rw [hI.2, List.take_add_one, e]
    simp) hz ⟨h0, rfl⟩
  rw [List.take_length] at h2
  exact ⟨ρ', by rw [e, h2], h⟩
/-! ### arithmetic's side conditions -/
theorem divB_of {i m : Int} (h : 0 < m) (h2 : m.natAbs < big) : divB i m = true := by
  unfold divB; rw [decide_eq_true h, decide_eq_true h2]; rfl
theorem modB_of {i m : Int} (h : 0 < m) : modB i m = true := by
  unfold modB; exact decide_eq_true h
theorem mulB_of {i j : Int} (h : i.natAbs < big) (h2 : j.natAbs < big) : mulB i j = true := by
  unfold mulB; rw [decide_eq_true h, decide_eq_true h2]; rfl
end Mi

set_option Elab.async false
set_option linter.all false
set_option maxRecDepth 100000
set_option maxHeartbeats 4000000
/-! Ap: the mirror's combinators at a row of slots (printed by appl.py), and blocks over a list. -/
namespace Mi
open PySem PySem.Spec PyProof.Rows L2
theorem nr {α : Sort _} {a b : α} (h : a = b) : a = b := h
theorem bind_k {α β : Type} (a : α) (f : α → Out β) : (Out.ok a).bind f = f a := nr rfl
theorem a_mBody (n : Nat) (fr : Bool) (sm : SM) (avs : List Sv) : mBody n fr sm avs = ((sm (avs ++ List.replicate (n - avs.length) .un)).bind fun x => match x.1 with
  | .nx => if fr = true then .bad else .ok (.none, x.2.take avs.length)
  | .rt d => .ok (d, x.2.take avs.length)
  | _ => .bad) := nr rfl
theorem a_mBodyN (n : Nat) (fr : Bool) (sm : SM) (avs : List Sv) : mBodyN n fr sm avs = (if noIo avs = true then mBody n fr sm avs else .bad) := nr rfl
theorem a_sSeq (a b : SM) (ρ : List Sv) : sSeq a b ρ = ((a ρ).bind fun x => match x.1 with
  | .nx => b x.2
  | f => .ok (f, x.2)) := nr rfl
theorem a_sIf (c : TM) (a b : SM) (ρ : List Sv) : sIf c a b ρ = ((c ρ).bind fun x => if x.1 = true then a x.2 else b x.2) := nr rfl
theorem a_sRet (a : EM) (ρ : List Sv) : sRet a ρ = ((a ρ).bind fun x => .ok (.rt x.1, x.2)) := nr rfl
theorem a_sSet (i : Nat) (a : EM) (ρ : List Sv) : sSet i a ρ = ((a ρ).bind fun x => (oOut (setV x.2 i (.va x.1))).bind fun r => .ok (.nx, r)) := nr rfl
theorem a_sNx (ρ : List Sv) : sNx ρ = (.ok (.nx, ρ)) := nr rfl
theorem a_sSetIx (i : Nat) (a b : EM) (ρ : List Sv) : sSetIx i a b ρ = ((a ρ).bind fun x => if isLst (getOb x.2 i) = true then (b x.2).bind fun y => (oOut (setIxOf (getOb y.2 i) y.1 x.1)).bind fun ys => .ok (.nx, setOb y.2 i (.lst ys)) else .bad) := nr rfl
theorem a_sOwn (i : Nat) (a : EM) (ρ : List Sv) : sOwn i a ρ = ((a ρ).bind fun x => match x.1 with
  | .list ds => if noLs ds = true then (oOut (setV x.2 i (.ow (.lst ds)))).bind fun r => .ok (.nx, r) else .bad
  | _ => .bad) := nr rfl
theorem a_sDrop (a : EM) (ρ : List Sv) : sDrop a ρ = ((a ρ).bind fun x => .ok (.nx, x.2)) := nr rfl
theorem a_sAsgG (g : GM) (a : EM) (ρ : List Sv) : sAsgG g a ρ = ((a ρ).bind fun x => (oOut (g x.1 x.2)).bind fun r => .ok (.nx, r)) := nr rfl
theorem a_sPar (i j : Nat) (r : LM) (ρ : List Sv) : sPar i j r ρ = ((r ρ).bind fun x => match x.1 with
  | [d, e] => (oOut (setV x.2 i (.va d))).bind fun ρ1 => (oOut (setV ρ1 j (.va e))).bind fun ρ2 => .ok (.nx, ρ2)
  | _ => .bad) := nr rfl
theorem a_eVar (i : Nat) (ρ : List Sv) : eVar i ρ = (match ρ[i]? with
  | some (.va d) => .ok (d, ρ)
  | _ => .bad) := nr rfl
theorem a_eC (d : D) (ρ : List Sv) : eC d ρ = (.ok (d, ρ)) := nr rfl
theorem a_eOp (g : D → D → Out D) (a b : EM) (ρ : List Sv) : eOp g a b ρ = ((a ρ).bind fun x => (b x.2).bind fun y => (g x.1 y.1).bind fun z => .ok (z, y.2)) := nr rfl
theorem a_eUn (g : D → Out D) (a : EM) (ρ : List Sv) : eUn g a ρ = ((a ρ).bind fun x => (g x.1).bind fun z => .ok (z, x.2)) := nr rfl
theorem a_eN (g : List D → Out D) (a : LM) (ρ : List Sv) : eN g a ρ = ((a ρ).bind fun x => (g x.1).bind fun z => .ok (z, x.2)) := nr rfl
theorem a_eSl2 (g : D → D → Out D) (i : Nat) (b : EM) (ρ : List Sv) : eSl2 g i b ρ = (if (getOb ρ i).isSome = true then (b ρ).bind fun y => match getOb y.2 i with
  | some (.lst xs) => (g (.list xs) y.1).bind fun z => if noL z = true then .ok (z, y.2) else .bad
  | _ => .bad
  else .bad) := nr rfl
theorem a_eOwn (i : Nat) (ρ : List Sv) : eOwn i ρ = (match ρ[i]? with
  | some (.ow (.lst xs)) => .ok (.list xs, ρ)
  | _ => .bad) := nr rfl
theorem a_eTst (a : EM) (ρ : List Sv) : eTst a ρ = ((a ρ).bind fun x => match x.1 with
  | .bool b => .ok (b, x.2)
  | _ => .bad) := nr rfl
theorem a_eIf (c : TM) (a b : EM) (ρ : List Sv) : eIf c a b ρ = ((c ρ).bind fun x => if x.1 = true then a x.2 else b x.2) := nr rfl
theorem a_eChain (g g' : D → D → Out D) (a b c : EM) (ρ : List Sv) : eChain g g' a b c ρ = ((a ρ).bind fun x => (b x.2).bind fun y => (g x.1 y.1).bind fun z => match z with
  | .bool true => (c y.2).bind fun w => (g' y.1 w.1).bind fun u => .ok (u, w.2)
  | .bool false => .ok (.bool false, y.2)
  | _ => .bad) := nr rfl
theorem a_eIsi (T : String) (a : EM) (ρ : List Sv) : eIsi T a ρ = ((a ρ).bind fun x => (vIsi T x.1).bind fun z => .ok (z, x.2)) := nr rfl
theorem a_mAnd (a b : TM) (ρ : List Sv) : mAnd a b ρ = ((a ρ).bind fun x => if x.1 = true then b x.2 else .ok (false, x.2)) := nr rfl
theorem a_mOr (a b : TM) (ρ : List Sv) : mOr a b ρ = ((a ρ).bind fun x => if x.1 = true then .ok (true, x.2) else b x.2) := nr rfl
theorem a_mNot (a : TM) (ρ : List Sv) : mNot a ρ = ((a ρ).bind fun x => .ok (!x.1, x.2)) := nr rfl
theorem a_mYes (ρ : List Sv) : mYes ρ = (.ok (true, ρ)) := nr rfl
theorem a_lCons (a : EM) (r : LM) (ρ : List Sv) : lCons a r ρ = ((a ρ).bind fun x => (r x.2).bind fun y => .ok (x.1 :: y.1, y.2)) := nr rfl
theorem a_lNil (ρ : List Sv) : lNil ρ = (.ok ([], ρ)) := nr rfl
theorem a_eTup (r : LM) (ρ : List Sv) : eTup r ρ = ((r ρ).bind fun x => if szOk x.1.length = true then .ok (.tuple x.1, x.2) else .bad) := nr rfl
theorem a_eLst (r : LM) (ρ : List Sv) : eLst r ρ = ((r ρ).bind fun x => if szOk x.1.length = true then .ok (.list x.1, x.2) else .bad) := nr rfl
theorem a_eCall (m : FM) (n : Nat) (a : LM) (ρ : List Sv) : eCall m n a ρ = ((a ρ).bind fun x => if x.1.length = n then (m (x.1.map .va)).bind fun y => .ok (y.1, x.2) else .bad) := nr rfl
theorem a_eCall0 (m : FM) (ρ : List Sv) : eCall0 m ρ = ((m []).bind fun y => .ok (y.1, ρ)) := nr rfl
theorem a_eCallS (m : FM) (n i : Nat) (a : LM) (ρ : List Sv) : eCallS m n i a ρ = (if (getOb ρ i).isSome = true then (a ρ).bind fun x => (oOut (getOb x.2 i)).bind fun ob =>
  if x.1.length + 1 = n then (m (.io ob :: x.1.map .va)).bind fun y => match y.2 with
    | .io o' :: _ => .ok (y.1, setOb x.2 i o')
    | _ => .bad
  else .bad
  else .bad) := nr rfl
theorem a_eCallK (m : FM) (n nk : Nat) (ix : List Nat) (a b : LM) (ρ : List Sv) : eCallK m n nk ix a b ρ = ((a ρ).bind fun x => (b x.2).bind fun z => if x.1.length = n ∧ z.1.length = nk then (m ((pick ix (x.1 ++ z.1)).map .va)).bind fun y => .ok (y.1, z.2) else .bad) := nr rfl
theorem a_eCallP (m : FM) (n i : Nat) (a : LM) (ρ : List Sv) : eCallP m n i a ρ = (match ρ[i]? with
  | some sv => if sv.spc = true then (a ρ).bind fun x => if x.1.length + 1 = n then (m (sv :: x.1.map .va)).bind fun y => .ok (y.1, x.2) else .bad else .bad
  | none => .bad) := nr rfl
theorem a_eLam (m : FM) (n : Nat) (b : Bool) (mb : EM) (a : LM) (ρ : List Sv) : eLam m n b mb a ρ = ((a ρ).bind fun x => if x.1.length + 1 = n then (m (.cl (outV (mb (capL b x.2))) :: x.1.map .va)).bind fun y => .ok (y.1, x.2) else .bad) := nr rfl
theorem a_eM1 (g : D → D → Out D) (a b : EM) (ρ : List Sv) : eM1 g a b ρ = ((a ρ).bind fun x => if isStr x.1 = true then (b x.2).bind fun y => (g x.1 y.1).bind fun z => .ok (z, y.2) else .bad) := nr rfl
theorem a_eM0 (g : D → Out D) (a : EM) (ρ : List Sv) : eM0 g a ρ = ((a ρ).bind fun x => if isStr x.1 = true then (g x.1).bind fun z => .ok (z, x.2) else .bad) := nr rfl
theorem a_eNotV (a : EM) (ρ : List Sv) : eNotV a ρ = ((a ρ).bind fun x => match x.1 with
  | .bool b => .ok (.bool (!b), x.2)
  | _ => .bad) := nr rfl
theorem a_eAndV (a b : EM) (ρ : List Sv) : eAndV a b ρ = ((a ρ).bind fun x => match x.1 with
  | .bool true => b x.2
  | .bool false => .ok (.bool false, x.2)
  | _ => .bad) := nr rfl
theorem a_eOrV (a b : EM) (ρ : List Sv) : eOrV a b ρ = ((a ρ).bind fun x => match x.1 with
  | .bool false => b x.2
  | .bool true => .ok (.bool true, x.2)
  | _ => .bad) := nr rfl
theorem a_eNoL (a : EM) (ρ : List Sv) : eNoL a ρ = ((a ρ).bind fun x => if noL x.1 = true then .ok x else .bad) := nr rfl
theorem a_eClr (a : EM) (ρ : List Sv) : eClr a ρ = ((a ρ).bind fun x => if clrOk x.1 = true then .ok x else .bad) := nr rfl
theorem a_eSl (g : D → Option Int → Option Int → Out D) (a : EM) (lo hi : PM) (ρ : List Sv) : eSl g a lo hi ρ = ((a ρ).bind fun x => (lo x.2).bind fun l => (hi l.2).bind fun u => (g x.1 l.1 u.1).bind fun z => .ok (z, u.2)) := nr rfl
theorem a_oSome (a : EM) (ρ : List Sv) : oSome a ρ = ((a ρ).bind fun x => match x.1 with
  | .int i => .ok (some i, x.2)
  | _ => .bad) := nr rfl
theorem a_oNone (ρ : List Sv) : oNone ρ = (.ok (none, ρ)) := nr rfl
theorem a_sFor (i : LM) (g : GM) (b : SM) (ρ : List Sv) : sFor i g b ρ = ((i ρ).bind fun x => runFor g b x.1 x.2) := nr rfl
theorem a_lSeq (a : EM) (ρ : List Sv) : lSeq a ρ = ((a ρ).bind fun x => (oOut (itemsOf x.1)).bind fun r => .ok (r, x.2)) := nr rfl
theorem a_lRng1 (a : LM) (ρ : List Sv) : lRng1 a ρ = ((a ρ).bind fun x => match x.1 with
  | [.int j] => if -(2 ^ 62) ≤ j ∧ j < 2 ^ 62 then .ok (countD 0 j.toNat, x.2) else .bad
  | _ => .bad) := nr rfl
theorem a_lRng2 (a : LM) (ρ : List Sv) : lRng2 a ρ = ((a ρ).bind fun x => match x.1 with
  | [.int i, .int j] => if (-(2 ^ 62) ≤ i ∧ i < 2 ^ 62) ∧ -(2 ^ 62) ≤ j ∧ j < 2 ^ 62 then .ok (countD i (j - i).toNat, x.2) else .bad
  | _ => .bad) := nr rfl
theorem a_lEnum (a : LM) (ρ : List Sv) : lEnum a ρ = ((a ρ).bind fun x => match x.1 with
  | [.list ds] => .ok (enumD ds, x.2)
  | [.str z] => .ok (enumD (signsOf z), x.2)
  | _ => .bad) := nr rfl
theorem a_sDictP (i : Nat) (a : LM) (ρ : List Sv) : sDictP i a ρ = ((a ρ).bind fun x => match x.1 with
  | [.list ds] => (oOut (pairsD ds)).bind fun kvs => (oOut (setV x.2 i (.ow (.dK (mergeD [] kvs))))).bind fun r => .ok (.nx, r)
  | _ => .bad) := nr rfl
theorem a_eDGet (i : Nat) (b : EM) (ρ : List Sv) : eDGet i b ρ = (if (getOb ρ i).isSome = true then (b ρ).bind fun y => (oOut (getOf (getOb y.2 i) y.1)).bind fun d => .ok (d, y.2) else .bad) := nr rfl
theorem a_eCl (i : Nat) (ρ : List Sv) : eCl i ρ = (match ρ[i]? with
  | some (.cl r) => r.bind fun d => .ok (d, ρ)
  | _ => .bad) := nr rfl
theorem a_eScIx (i : Nat) (b : EM) (ρ : List Sv) : eScIx i b ρ = (match ρ[i]? with
  | some (.sc ns) => (b ρ).bind fun y => match y.1 with
    | .int k => (oOut (atI ns k)).bind fun z => .ok (PyData.int z, y.2)
    | _ => .bad
  | _ => .bad) := nr rfl
theorem a_eScLen (i : Nat) (ρ : List Sv) : eScLen i ρ = (match ρ[i]? with
  | some (.sc ns) => .ok (.int ns.length, ρ)
  | _ => .bad) := nr rfl

theorem a_eMeth (g : List D → List D → Option (D × List D)) (i : Nat) (a : LM) (ρ : List Sv) : eMeth g i a ρ = (if isLst (getOb ρ i) = true then (a ρ).bind fun x => match getOb x.2 i with
  | some (.lst xs) => (oOut (g xs x.1)).bind fun z => if noL z.1 = true ∧ noLs z.2 = true then .ok (z.1, setOb x.2 i (.lst z.2)) else .bad
  | _ => .bad
  else .bad) := nr rfl
theorem set_set_at {ρ : List Sv} {v : Nat} {s : Sv} (h : ρ[v]? = some s) : ρ.set v s = ρ := by
  apply List.ext_getElem?
  intro j
  by_cases q : v = j
  · subst q
    have hl : v < ρ.length := (List.getElem?_eq_some_iff.mp h).1
    rw [List.getElem?_set_self hl, h]
  · rw [List.getElem?_set_ne q]
/-- a block over the items of a list, that changes nothing but its own name -/
theorem eLc_sel {α : Type} {i : LM} {t : TM} {m : EM} {ρ : List Sv} {l : List α} {e f : α → D} {p : α → Bool} (v : Nat) {s : Sv} (hi : i ρ = .ok (l.map e, ρ)) (hv : ρ[v]? = some s) (hs : s.own = false)
    (ht : ∀ c ∈ l, t (ρ.set v (.va (e c))) = .ok (p c, ρ.set v (.va (e c)))) (hm : ∀ c ∈ l, p c = true → m (ρ.set v (.va (e c))) = .ok (f c, ρ.set v (.va (e c)))) (hz : l.length ≤ 1000000) : eLc i (gmName v) t m [v] ρ = .ok (.list ((l.filter p).map f), ρ) := by
  have hl : v < ρ.length := (List.getElem?_eq_some_iff.mp hv).1
  obtain ⟨ρ', acc, e1, ⟨⟨s', hs', e2⟩, e3⟩, _⟩ := runLc_inv (g := fun d r => gmName v d (wipeS r [v])) (t := t) (m := m) (fun i ρ' acc => (∃ s', Sv.own s' = false ∧ ρ' = ρ.set v s') ∧ acc = ((l.take i).filter p).map f) (l.map e) (fun i d ρ1 acc e1 hI _ => by
    obtain ⟨⟨s1, h1, e2⟩, e3⟩ := hI
    rw [List.getElem?_map] at e1
    obtain ⟨c, e4, e5⟩ := Option.map_eq_some_iff.mp e1
    have hc : c ∈ l := List.mem_of_getElem? e4
    have g1 : gmName v d (wipeS ρ1 [v]) = some (ρ.set v (.va (e c))) := by
      subst e2 e5
      show setV (((ρ.set v s1)).set v .un) v (.va (e c)) = _
      rw [List.set_set]
      unfold setV
      rw [List.getElem?_set_self hl]
      show some ((ρ.set v .un).set v (.va (e c))) = _
      rw [List.set_set]
    have tk : l.take (i + 1) = l.take i ++ [c] := by rw [List.take_add_one, e4]; rfl
    refine ⟨ρ.set v (.va (e c)), ρ.set v (.va (e c)), g1, ?_⟩
    cases q : p c with
    | false =>
      refine .inl ⟨by rw [ht c hc, q], ⟨⟨_, rfl, rfl⟩, ?_⟩⟩
      rw [e3, tk, List.filter_append, List.filter_cons_of_neg (by rw [q]; exact Bool.false_ne_true), List.filter_nil, List.append_nil]
    | true =>
      refine .inr ⟨_, f c, by rw [ht c hc, q], hm c hc q, ⟨⟨_, rfl, rfl⟩, ?_⟩⟩
      rw [e3, tk, List.filter_append, List.filter_cons_of_pos q, List.filter_nil, List.map_append]
      rfl) (by rw [List.length_map]; exact hz) (ρ := ρ) ⟨⟨s, hs, (set_set_at hv).symm⟩, rfl⟩
  rw [List.length_map, List.take_length] at e3
  unfold eLc
  rw [hi]
  show (if freeAt ρ [v] = true then _ else _) = _
  have hf : freeAt ρ [v] = true := by
    show ((match ρ[v]? with | some s => !s.own | none => false) && true) = true
    rw [hv]
    show ((!s.own) && true) = true
    rw [hs]; rfl
  rw [if_pos hf]
  show (runLc (fun d r => gmName v d (wipeS r [v])) t m (l.map e) ρ []).bind _ = _
  rw [e1]
  show Out.ok (PyData.list acc, ρ'.set v (ρ.getD v .un)) = _
  have hg : ρ.getD v .un = s := by
    rw [List.getD_eq_getElem?_getD, hv]; rfl
  rw [hg, e2, List.set_set, set_set_at hv, e3]
theorem eLc_map {α : Type} {i : LM} {m : EM} {ρ : List Sv} {l : List α} {e f : α → D} (v : Nat) {s : Sv} (hi : i ρ = .ok (l.map e, ρ)) (hv : ρ[v]? = some s) (hs : s.own = false)
    (hm : ∀ c ∈ l, m (ρ.set v (.va (e c))) = .ok (f c, ρ.set v (.va (e c)))) (hz : l.length ≤ 1000000) : eLc i (gmName v) mYes m [v] ρ = .ok (.list (l.map f), ρ) := by
  have := eLc_sel (t := mYes) (p := fun _ => true) v hi hv hs (fun _ _ => rfl) (fun c hc _ => hm c hc) hz
  rw [show l.filter (fun _ => true) = l from List.filter_eq_self.mpr fun _ _ => rfl] at this
  exact this
end Mi

set_option Elab.async false
set_option linter.all false
set_option maxRecDepth 100000
set_option maxHeartbeats 4000000
set_option exponentiation.threshold 5000
namespace Mi
open PySem PySem.Spec PyProof.Rows L2
/-! ### the jar -/
/-- digits, stirred, how often; f more turns are borne -/
def Jar (f : Nat) (xs : List D) : Prop := ∃ a b c : Int, xs = [.int a, .int b, .int c] ∧ 0 ≤ a ∧ b.natAbs < 2 ^ 31 ∧ 0 ≤ c ∧ c + f ≤ 2 ^ 60
theorem Jar.noLs {f : Nat} {xs : List D} (h : Jar f xs) : noLs xs = true := by
  obtain ⟨a, b, c, rfl, _⟩ := h; rfl
theorem Jar.le {f g : Nat} {xs : List D} (h : Jar f xs) (hg : g ≤ f) : Jar g xs := by
  obtain ⟨a, b, c, e, h1, h2, h3, h4⟩ := h
  exact ⟨a, b, c, e, h1, h2, h3, by omega⟩
theorem take_pos (a b c m : Int) (ha : 0 < a) (hm : 0 < m) (hm2 : m.natAbs < big) : m__law_take [.io (.lst [.int a, .int b, .int c]), .va (.int m)] = .ok (.int (a % m), [.io (.lst [.int (a / m), .int b, .int c]), .va (.int m)]) := by
  simp [m__law_take, b__law_take, mBody, mBodyN, noIo, sSeq, sIf, sRet, sSet, sNx, sSetIx, sOwn, sDrop, sAsgG, sPar, eVar, eC, eOp, eUn, eN, eSl2, eOwn, eTst, eIf, eChain, eIsi, mAnd, mOr, mNot, mYes, lCons, lNil, v1L, vInt, vLen, vIx, vII, vAdd, vSub, vMul, vFdiv, vMod, vPow, vNeg, vGt, vGe, vLe, vLt, vEq, vNe, vEqB, getOb, setOb, isLst, setIxOf, oOut, setV, atI, ixN, noL, noLs, outV, outR, Out.bind, eTup, eLst, eCall, eCall0, eCallS, eCallK, eCallP, eLam, pick, eM1, eM0, isStr, eNotV, eAndV, eOrV, eNoL, eClr, clrOk, gmName, gmNil, gmCons, gmTup, eMeth, gAppend, gExtend, Out.calm, ha, divB_of hm hm2, modB_of hm]
theorem take_zero (a b c m : Int) (ha : ¬ 0 < a) (hm : 0 < m) (hb : b.natAbs < 2 ^ 31) (hc : c.natAbs < 2 ^ 61) : m__law_take [.io (.lst [.int a, .int b, .int c]), .va (.int m)] = .ok (.int (((b * 39373 + 7919 * (c + 1) + 7) % 2147483647 * ((b * 39373 + 7919 * (c + 1) + 7) % 2147483647) % 2147483629 / 32) % m), [.io (.lst [.int a, .int ((b * 39373 + 7919 * (c + 1) + 7) % 2147483647), .int (c + 1)]), .va (.int m)]) := by
  have h1 : mulB b 39373 = true := mulB_of (lt_big hb (by decide)) (by decide +kernel)
  have h2 : mulB 7919 (c + 1) = true := mulB_of (by decide +kernel) (lt_big (k := 62) (by omega) (by decide))
  have h3 : ∀ x : Int, mulB (x % 2147483647) (x % 2147483647) = true := fun x => mulB_of (lt_big (k := 32) (by omega) (by decide)) (lt_big (k := 32) (by omega) (by decide))
  have h4 : ∀ x : Int, divB x 32 = true := fun x => divB_of (by decide) (by decide +kernel)
  have h5 : ∀ x : Int, modB x 2147483647 = true := fun x => modB_of (by decide)
  have h6 : ∀ x : Int, modB x 2147483629 = true := fun x => modB_of (by decide)
  simp [m__law_take, b__law_take, mBody, mBodyN, noIo, sSeq, sIf, sRet, sSet, sNx, sSetIx, sOwn, sDrop, sAsgG, sPar, eVar, eC, eOp, eUn, eN, eSl2, eOwn, eTst, eIf, eChain, eIsi, mAnd, mOr, mNot, mYes, lCons, lNil, v1L, vInt, vLen, vIx, vII, vAdd, vSub, vMul, vFdiv, vMod, vPow, vNeg, vGt, vGe, vLe, vLt, vEq, vNe, vEqB, getOb, setOb, isLst, setIxOf, oOut, setV, atI, ixN, noL, noLs, outV, outR, Out.bind, eTup, eLst, eCall, eCall0, eCallS, eCallK, eCallP, eLam, pick, eM1, eM0, isStr, eNotV, eAndV, eOrV, eNoL, eClr, clrOk, gmName, gmNil, gmCons, gmTup, eMeth, gAppend, gExtend, Out.calm, ha, h1, h2, h3, h4, h5, h6, modB_of hm]
theorem take_jar {f : Nat} {xs : List D} {m : Int} (h : Jar (f + 1) xs) (hm : 0 < m) (hm2 : m.natAbs < big) : ∃ r ys, m__law_take [.io (.lst xs), .va (.int m)] = .ok (.int r, [.io (.lst ys), .va (.int m)]) ∧ 0 ≤ r ∧ r < m ∧ Jar f ys := by
  obtain ⟨a, b, c, rfl, h1, h2, h3, h4⟩ := h
  by_cases ha : 0 < a
  · exact ⟨_, _, take_pos a b c m ha hm hm2, Int.emod_nonneg _ (by omega), Int.emod_lt_of_pos _ hm, a / m, b, c, rfl, Int.ediv_nonneg h1 (by omega), h2, h3, by omega⟩
  · exact ⟨_, _, take_zero a b c m ha hm h2 (by omega), Int.emod_nonneg _ (by omega), Int.emod_lt_of_pos _ hm, a, _, c + 1, rfl, h1, by omega, by omega, by omega⟩
theorem one_jar {f : Nat} {xs ds : List D} (h : Jar (f + 1) xs) (h0 : ds ≠ []) (hz : ds.length < 2 ^ 60) : ∃ d ys, m__law_one [.io (.lst xs), .va (.list ds)] = .ok (d, [.io (.lst ys), .va (.list ds)]) ∧ d ∈ ds ∧ Jar f ys := by
  have hl : 0 < ds.length := List.length_pos_iff.mpr h0
  obtain ⟨r, ys, e, r0, r1, hj⟩ := take_jar (m := (ds.length : Int)) h (by omega) (lt_big (k := 60) (by omega) (by decide))
  have hr : r.toNat < ds.length := by omega
  refine ⟨ds[r.toNat], ys, ?_, List.getElem_mem hr, hj⟩
  have e1 : atI ds r = some ds[r.toNat] := by
    unfold atI ixN
    rw [if_pos r0, if_pos r1]
    exact List.getElem?_eq_getElem hr
  simp [m__law_one, b__law_one, mBody, sRet, eOp, eVar, eCallS, getOb, lCons, lNil, eN, v1L, vLen, Out.bind, oOut, e, setOb, vIx, e1]
def poolB (A B : EM) : SM := (sSeq (sSet 4 (eIf (eTst (eOp vGe (eScIx 0 (eVar 3)) (eC (.int 0)))) (eN (v1L vInt) (lCons (eScIx 0 (eVar 3)) lNil)) (eN (v1L vInt) (lCons (eOp vSub (eUn vNeg (eC (.int 1))) (eScIx 0 (eVar 3))) lNil))))
  (sSeq (sSet 2 (eOp vMod (eN (v1L vInt) (lCons (eOp vAdd (eOp vAdd (eOp vMul (eVar 2) (eC (.int 48271))) (eOp vMod (eVar 4) (eC (.int 2147483629)))) (eC (.int 11))) lNil)) (eC (.int 2147483647))))
  (sSet 1 (eIf (mAnd (eTst (eOp vGe (eVar 4) A)) (eTst (eOp vLt (eVar 1) B))) (eN (v1L vInt) (lCons (eOp vAdd (eOp vMul (eVar 1) B) (eOp vMod (eVar 4) B)) lNil)) (eVar 1)))))
/-- one turn of the pool's loop -/
theorem pool_step {A B : EM} {P Q : Int} (hA : ∀ ρ, A ρ = .ok (.int P, ρ)) (hB : ∀ ρ, B ρ = .ok (.int Q, ρ)) (hQ : 0 < Q) (hQ2 : Q.natAbs < big) (ns : List Int) (i : Nat) (n a b : Int) (y : Sv) (hn : ns[i]? = some n) (hy : y.own = false) (ha : 0 ≤ a) (hb : b.natAbs < 2 ^ 31) :
    ∃ a' b' z, poolB A B [.sc ns, .va (.int a), .va (.int b), .va (.int (i : Nat)), y] = .ok (.nx, [.sc ns, .va (.int a'), .va (.int b'), .va (.int (i : Nat)), .va (.int z)]) ∧ 0 ≤ a' ∧ b'.natAbs < 2 ^ 31 := by
  have hi : i < ns.length := (List.getElem?_eq_some_iff.mp hn).1
  have e1 : atI ns (i : Int) = some n := by
    unfold atI ixN
    rw [if_pos (by omega), if_pos (by omega)]
    simpa using hn
  have h1 : mulB b 48271 = true := mulB_of (lt_big hb (by decide)) (by decide +kernel)
  have h5 : ∀ x : Int, modB x 2147483647 = true := fun x => modB_of (by decide)
  have h6 : ∀ x : Int, modB x 2147483629 = true := fun x => modB_of (by decide)
  have hy' : ∀ o, y ≠ .io o := fun o z => by rw [z] at hy; cases hy
  let z : Int := if 0 ≤ n then n else -1 - n
  have hz : 0 ≤ z := by show 0 ≤ (if 0 ≤ n then n else -1 - n); split <;> omega
  have s1 : sSet 4 (eIf (eTst (eOp vGe (eScIx 0 (eVar 3)) (eC (.int 0)))) (eN (v1L vInt) (lCons (eScIx 0 (eVar 3)) lNil)) (eN (v1L vInt) (lCons (eOp vSub (eUn vNeg (eC (.int 1))) (eScIx 0 (eVar 3))) lNil))) [.sc ns, .va (.int a), .va (.int b), .va (.int (i : Nat)), y] = .ok (.nx, [.sc ns, .va (.int a), .va (.int b), .va (.int (i : Nat)), .va (.int z)]) := by
    by_cases h0 : 0 ≤ n
    · have ez : z = n := if_pos h0
      rw [ez]
      cases y <;> first | exact absurd rfl (hy' _) | simp [mBody, mBodyN, noIo, sSeq, sIf, sRet, sSet, sNx, sSetIx, sOwn, sDrop, sAsgG, sPar, eVar, eC, eOp, eUn, eN, eSl2, eOwn, eTst, eIf, eChain, eIsi, mAnd, mOr, mNot, mYes, lCons, lNil, v1L, vInt, vLen, vIx, vII, vAdd, vSub, vMul, vFdiv, vMod, vPow, vNeg, vGt, vGe, vLe, vLt, vEq, vNe, vEqB, getOb, setOb, isLst, setIxOf, oOut, setV, noL, noLs, outV, outR, Out.bind, eTup, eLst, eCall, eCall0, eCallS, eCallK, eCallP, eLam, pick, eM1, eM0, isStr, eNotV, eAndV, eOrV, eNoL, eClr, clrOk, gmName, gmNil, gmCons, gmTup, eMeth, gAppend, gExtend, Out.calm, eScIx, e1, h0]
    · have ez : z = -1 - n := if_neg h0
      rw [ez]
      cases y <;> first | exact absurd rfl (hy' _) | simp [mBody, mBodyN, noIo, sSeq, sIf, sRet, sSet, sNx, sSetIx, sOwn, sDrop, sAsgG, sPar, eVar, eC, eOp, eUn, eN, eSl2, eOwn, eTst, eIf, eChain, eIsi, mAnd, mOr, mNot, mYes, lCons, lNil, v1L, vInt, vLen, vIx, vII, vAdd, vSub, vMul, vFdiv, vMod, vPow, vNeg, vGt, vGe, vLe, vLt, vEq, vNe, vEqB, getOb, setOb, isLst, setIxOf, oOut, setV, noL, noLs, outV, outR, Out.bind, eTup, eLst, eCall, eCall0, eCallS, eCallK, eCallP, eLam, pick, eM1, eM0, isStr, eNotV, eAndV, eOrV, eNoL, eClr, clrOk, gmName, gmNil, gmCons, gmTup, eMeth, gAppend, gExtend, Out.calm, eScIx, e1, h0]
  clear_value z
  generalize eb : (b * 48271 + z % 2147483629 + 11) % 2147483647 = b2
  have hb2 : b2.natAbs < 2 ^ 31 := by omega
  have s2 : sSet 2 (eOp vMod (eN (v1L vInt) (lCons (eOp vAdd (eOp vAdd (eOp vMul (eVar 2) (eC (.int 48271))) (eOp vMod (eVar 4) (eC (.int 2147483629)))) (eC (.int 11))) lNil)) (eC (.int 2147483647))) [.sc ns, .va (.int a), .va (.int b), .va (.int (i : Nat)), .va (.int z)] = .ok (.nx, [.sc ns, .va (.int a), .va (.int b2), .va (.int (i : Nat)), .va (.int z)]) := by
    simp [mBody, mBodyN, noIo, sSeq, sIf, sRet, sSet, sNx, sSetIx, sOwn, sDrop, sAsgG, sPar, eVar, eC, eOp, eUn, eN, eSl2, eOwn, eTst, eIf, eChain, eIsi, mAnd, mOr, mNot, mYes, lCons, lNil, v1L, vInt, vLen, vIx, vII, vAdd, vSub, vMul, vFdiv, vMod, vPow, vNeg, vGt, vGe, vLe, vLt, vEq, vNe, vEqB, getOb, setOb, isLst, setIxOf, oOut, setV, noL, noLs, outV, outR, Out.bind, eTup, eLst, eCall, eCall0, eCallS, eCallK, eCallP, eLam, pick, eM1, eM0, isStr, eNotV, eAndV, eOrV, eNoL, eClr, clrOk, gmName, gmNil, gmCons, gmTup, eMeth, gAppend, gExtend, Out.calm, h1, h5, h6, eb]
  have s3 : ∃ a', 0 ≤ a' ∧ sSet 1 (eIf (mAnd (eTst (eOp vGe (eVar 4) A)) (eTst (eOp vLt (eVar 1) B))) (eN (v1L vInt) (lCons (eOp vAdd (eOp vMul (eVar 1) B) (eOp vMod (eVar 4) B)) lNil)) (eVar 1)) [.sc ns, .va (.int a), .va (.int b2), .va (.int (i : Nat)), .va (.int z)] = .ok (.nx, [.sc ns, .va (.int a'), .va (.int b2), .va (.int (i : Nat)), .va (.int z)]) := by
    by_cases c1 : P ≤ z
    · by_cases c2 : a < Q
      · have h2 : mulB a Q = true := mulB_of (by omega) hQ2
        have h7 : modB z Q = true := modB_of hQ
        refine ⟨a * Q + z % Q, Int.add_nonneg (Int.mul_nonneg ha (by omega)) (Int.emod_nonneg _ (by omega)), ?_⟩
        simp [mBody, mBodyN, noIo, sSeq, sIf, sRet, sSet, sNx, sSetIx, sOwn, sDrop, sAsgG, sPar, eVar, eC, eOp, eUn, eN, eSl2, eOwn, eTst, eIf, eChain, eIsi, mAnd, mOr, mNot, mYes, lCons, lNil, v1L, vInt, vLen, vIx, vII, vAdd, vSub, vMul, vFdiv, vMod, vPow, vNeg, vGt, vGe, vLe, vLt, vEq, vNe, vEqB, getOb, setOb, isLst, setIxOf, oOut, setV, noL, noLs, outV, outR, Out.bind, eTup, eLst, eCall, eCall0, eCallS, eCallK, eCallP, eLam, pick, eM1, eM0, isStr, eNotV, eAndV, eOrV, eNoL, eClr, clrOk, gmName, gmNil, gmCons, gmTup, eMeth, gAppend, gExtend, Out.calm, hA, hB, c1, c2, h2, h7]
      · exact ⟨a, ha, by simp [mBody, mBodyN, noIo, sSeq, sIf, sRet, sSet, sNx, sSetIx, sOwn, sDrop, sAsgG, sPar, eVar, eC, eOp, eUn, eN, eSl2, eOwn, eTst, eIf, eChain, eIsi, mAnd, mOr, mNot, mYes, lCons, lNil, v1L, vInt, vLen, vIx, vII, vAdd, vSub, vMul, vFdiv, vMod, vPow, vNeg, vGt, vGe, vLe, vLt, vEq, vNe, vEqB, getOb, setOb, isLst, setIxOf, oOut, setV, noL, noLs, outV, outR, Out.bind, eTup, eLst, eCall, eCall0, eCallS, eCallK, eCallP, eLam, pick, eM1, eM0, isStr, eNotV, eAndV, eOrV, eNoL, eClr, clrOk, gmName, gmNil, gmCons, gmTup, eMeth, gAppend, gExtend, Out.calm, hA, hB, c1, c2]⟩
    · exact ⟨a, ha, by simp [mBody, mBodyN, noIo, sSeq, sIf, sRet, sSet, sNx, sSetIx, sOwn, sDrop, sAsgG, sPar, eVar, eC, eOp, eUn, eN, eSl2, eOwn, eTst, eIf, eChain, eIsi, mAnd, mOr, mNot, mYes, lCons, lNil, v1L, vInt, vLen, vIx, vII, vAdd, vSub, vMul, vFdiv, vMod, vPow, vNeg, vGt, vGe, vLe, vLt, vEq, vNe, vEqB, getOb, setOb, isLst, setIxOf, oOut, setV, noL, noLs, outV, outR, Out.bind, eTup, eLst, eCall, eCall0, eCallS, eCallK, eCallP, eLam, pick, eM1, eM0, isStr, eNotV, eAndV, eOrV, eNoL, eClr, clrOk, gmName, gmNil, gmCons, gmTup, eMeth, gAppend, gExtend, Out.calm, hA, hB, c1]⟩
  obtain ⟨a', ha', s3⟩ := s3
  refine ⟨a', b2, z, ?_, ha', hb2⟩
  unfold poolB
  simp only [sSeq, s1, s2, s3, Out.bind]
theorem pw12 (ρ : List Sv) : eOp vPow (eC (.int 10)) (eC (.int 12)) ρ = .ok (.int 1000000000000, ρ) := by
  have h : powB 10 12 = true := by decide
  have e : (10 : Int) ^ (12 : Int).toNat = 1000000000000 := by decide
  show ((if powB 10 12 = true then Out.ok (PyData.int (10 ^ (12 : Int).toNat)) else .bad).bind fun z => .ok (z, ρ)) = _
  rw [if_pos h, e]
  rfl
theorem pw60 (ρ : List Sv) : eOp vPow (eC (.int 10)) (eC (.int 60)) ρ = .ok (.int 1000000000000000000000000000000000000000000000000000000000000, ρ) := by
  have h : powB 10 60 = true := by decide
  have e : (10 : Int) ^ (60 : Int).toNat = 1000000000000000000000000000000000000000000000000000000000000 := by decide
  show ((if powB 10 60 = true then Out.ok (PyData.int (10 ^ (60 : Int).toNat)) else .bad).bind fun z => .ok (z, ρ)) = _
  rw [if_pos h, e]
  rfl
theorem big60 : (1000000000000000000000000000000000000000000000000000000000000 : Int).natAbs < big := lt_big (k := 200) (by decide +kernel) (by decide)
end Mi

set_option Elab.async false
set_option linter.all false
set_option maxRecDepth 100000
set_option maxHeartbeats 4000000
namespace Mi
open PySem PySem.Spec PyProof.Rows L2
/-! ### signs, numbers, names -/
abbrev Wt : List Nat := [97, 98, 99, 100, 101, 102, 103, 104, 105, 106, 107, 108, 109, 110, 111, 112, 113, 114, 115, 116, 117, 118, 119, 120, 121, 122, 48, 49, 50, 51, 52, 53, 54, 55, 56, 57, 95, 45, 47]
abbrev T (l : List Nat) : D := .str ⟨l.toArray⟩
abbrev T1 (c : Nat) : D := .str ⟨#[c]⟩
abbrev num (c : Nat) : D := .int (Wt.idxOf c : Nat)
abbrev WS : Str := "abcdefghijklmnopqrstuvwxyz0123456789_-/"
abbrev W8 : Str := "abcdefghijklmnopqrstuvwxyz0123456789_-"
theorem WS_eq : WS = ⟨Wt.toArray⟩ := by decide +kernel
theorem W8_eq : W8 = ⟨(Wt.take 38).toArray⟩ := by decide +kernel
theorem items_str (z : Str) : itemsOf (.str z) = some (z.cps.toList.map T1) := rfl
theorem items_T (l : List Nat) : itemsOf (T l) = some (l.map T1) := rfl
theorem occ_ok : ∀ c ∈ Wt, Builtin.Str.occurrences WS ⟨#[c]⟩ 0 (Str.length WS) 1 = [Wt.idxOf c] := by decide +kernel
theorem index_ok {c : Nat} (h : c ∈ Wt) : vsIndex (.str WS) (T1 c) = .ok (num c) := by
  have := occ_ok c h
  show (match Builtin.Str.occurrences WS ⟨#[c]⟩ 0 (Str.length WS) 1 with | k :: _ => Out.ok (PyData.int (k : Nat)) | [] => .bad) = _
  rw [this]
theorem idx_lt : ∀ c ∈ Wt, Wt.idxOf c < 39 := by decide +kernel
theorem idx_get : ∀ c ∈ Wt, Wt[Wt.idxOf c]? = some c := by decide +kernel
theorem ixN_of {n k : Nat} (h : k < n) : ixN n (k : Int) = some k := by
  unfold ixN
  rw [if_pos (by omega), if_pos (by omega)]
  rfl
theorem atI_of {α : Type} {xs : List α} {k : Nat} {x : α} (h : xs[k]? = some x) : atI xs (k : Int) = some x := by
  unfold atI
  rw [ixN_of (List.getElem?_eq_some_iff.mp h).1]
  exact h
theorem sign_at {k c : Nat} (h : Wt[k]? = some c) : vIx (.str WS) (.int (k : Nat)) = .ok (T1 c) := by
  show (if Str.length WS ≤ maxSz then (oOut (atI (Str.cps WS).toList (k : Int))).bind (fun c => Out.ok (PyData.str ⟨#[c]⟩)) else .bad) = _
  rw [if_pos (by decide +kernel), show (Str.cps WS).toList = Wt by decide +kernel, atI_of h]
  rfl
theorem numbers_of_ok {l : List Nat} (hl : l.length ≤ 1000) (h : ∀ c ∈ l, c ∈ Wt) : m_numbers_of [.va (T l)] = .ok (.tuple (l.map num), [.va (T l)]) := by
  have e := eLc_map (i := lSeq (eVar 0)) (m := eM1 vsIndex (eC (.str WS)) (eVar 1)) (ρ := [.va (T l), .un]) (l := l) (e := T1) (f := num) 1 (s := .un) rfl rfl rfl (fun c hc => by
    have := index_ok (h c hc)
    simp only [a_mBody, a_mBodyN, a_sSeq, a_sIf, a_sRet, a_sSet, a_sNx, a_sSetIx, a_sOwn, a_sDrop, a_sAsgG, a_sPar, a_eVar, a_eC, a_eOp, a_eUn, a_eN, a_eSl2, a_eOwn, a_eTst, a_eIf, a_eIsi, a_mAnd, a_mOr, a_mNot, a_mYes, a_lCons, a_lNil, a_eTup, a_eLst, a_eCall, a_eCall0, a_eCallS, a_eCallK, a_eCallP, a_eLam, a_eM1, a_eM0, a_eNotV, a_eAndV, a_eOrV, a_eNoL, a_eClr, a_eSl, a_oSome, a_oNone, a_sFor, a_lSeq, a_lRng1, a_lRng2, a_lEnum, a_eDGet, a_eCl, a_eScIx, a_eScLen, a_eMeth, bind_k, List.length_cons, List.length_nil, List.cons_append, List.nil_append, List.append_nil, Nat.reduceAdd, Nat.reduceSub, Nat.sub_self, Nat.zero_add, Nat.sub_zero, List.replicate_succ, List.replicate_zero, List.take_succ_cons, List.take_zero, List.getElem?_cons_zero, List.getElem?_cons_succ, List.map_cons, List.map_nil, oOut, setV, getOb, setOb, List.set_cons_zero, List.set_cons_succ, reduceIte, outV, v1L, szOk, Nat.reduceLeDiff, Nat.zero_le, decide_true, eq_self, Sv.spc, Bool.false_eq_true, if_true, if_false, isStr, this]) (by omega)
  unfold m_numbers_of b_numbers_of
  simp only [a_mBody, a_mBodyN, a_sSeq, a_sIf, a_sRet, a_sSet, a_sNx, a_sSetIx, a_sOwn, a_sDrop, a_sAsgG, a_sPar, a_eVar, a_eC, a_eOp, a_eUn, a_eN, a_eSl2, a_eOwn, a_eTst, a_eIf, a_eIsi, a_mAnd, a_mOr, a_mNot, a_mYes, a_lCons, a_lNil, a_eTup, a_eLst, a_eCall, a_eCall0, a_eCallS, a_eCallK, a_eCallP, a_eLam, a_eM1, a_eM0, a_eNotV, a_eAndV, a_eOrV, a_eNoL, a_eClr, a_eSl, a_oSome, a_oNone, a_sFor, a_lSeq, a_lRng1, a_lRng2, a_lEnum, a_eDGet, a_eCl, a_eScIx, a_eScLen, a_eMeth, bind_k, List.length_cons, List.length_nil, List.cons_append, List.nil_append, List.append_nil, Nat.reduceAdd, Nat.reduceSub, Nat.sub_self, Nat.zero_add, Nat.sub_zero, List.replicate_succ, List.replicate_zero, List.take_succ_cons, List.take_zero, List.getElem?_cons_zero, List.getElem?_cons_succ, List.map_cons, List.map_nil, oOut, setV, getOb, setOb, List.set_cons_zero, List.set_cons_succ, reduceIte, outV, v1L, szOk, Nat.reduceLeDiff, Nat.zero_le, decide_true, eq_self, Sv.spc, Bool.false_eq_true, if_true, if_false, e, vTuple]
theorem strs_T (l : List Nat) : strsOf (l.map T1) = some (l.map fun c => (⟨#[c]⟩ : Str)) := by
  induction l with
  | nil => rfl
  | cons c l ih =>
    show (strsOf (l.map T1)).map _ = _
    rw [ih]; rfl
theorem join_single (l : List Nat) : Txt.join ⟨#[]⟩ (l.map fun c => (⟨#[c]⟩ : Str)) = ⟨l.toArray⟩ := by
  show Builtin.Str.glued _ _ = _
  rw [StrLaws.glued_eq_join]
  induction l with
  | nil => rfl
  | cons c l ih =>
    cases l with
    | nil => rfl
    | cons d l =>
      show (⟨#[c]⟩ : Str) ++ ⟨#[]⟩ ++ Str.join ⟨#[]⟩ ((d :: l).map fun c => (⟨#[c]⟩ : Str)) = _
      rw [ih]
      show (⟨#[c] ++ #[] ++ (d :: l).toArray⟩ : Str) = _
      congr 1
      simp
theorem join_T (l : List Nat) (hl : l.length ≤ 1000) : vsJoin (.str "") (.list (l.map T1)) = .ok (T l) := by
  show (oOut (strsOf (l.map T1))).bind (joinOf _) = _
  rw [strs_T]
  have e0 : ("" : Str) = ⟨#[]⟩ := by decide +kernel
  show joinOf ("" : Str) (l.map fun c => (⟨#[c]⟩ : Str)) = _
  rw [e0]
  unfold joinOf
  have e1 : ((l.map fun c => (⟨#[c]⟩ : Str)).map (·.length)).sum = l.length := by
    rw [List.map_map]
    clear hl
    induction l with
    | nil => rfl
    | cons c l ih => rw [List.map_cons, List.sum_cons, ih, List.length_cons]; show 1 + l.length = _; omega
  rw [e1, if_pos (by rw [List.length_map]; show l.length + l.length * 0 ≤ _; omega)]
  rw [join_single]
theorem text_of_ok {l : List Nat} (hl : l.length ≤ 1000) (h : ∀ c ∈ l, c ∈ Wt) : m_text_of [.va (.tuple (l.map num))] = .ok (T l, [.va (.tuple (l.map num))]) := by
  have e := eLc_map (i := lSeq (eVar 0)) (m := eOp vIx (eC (.str WS)) (eVar 1)) (ρ := [.va (.tuple (l.map num)), .un]) (l := l) (e := num) (f := T1) 1 (s := .un) rfl rfl rfl (fun c hc => by
    have := sign_at (idx_get c (h c hc))
    simp only [a_mBody, a_mBodyN, a_sSeq, a_sIf, a_sRet, a_sSet, a_sNx, a_sSetIx, a_sOwn, a_sDrop, a_sAsgG, a_sPar, a_eVar, a_eC, a_eOp, a_eUn, a_eN, a_eSl2, a_eOwn, a_eTst, a_eIf, a_eIsi, a_mAnd, a_mOr, a_mNot, a_mYes, a_lCons, a_lNil, a_eTup, a_eLst, a_eCall, a_eCall0, a_eCallS, a_eCallK, a_eCallP, a_eLam, a_eM1, a_eM0, a_eNotV, a_eAndV, a_eOrV, a_eNoL, a_eClr, a_eSl, a_oSome, a_oNone, a_sFor, a_lSeq, a_lRng1, a_lRng2, a_lEnum, a_eDGet, a_eCl, a_eScIx, a_eScLen, a_eMeth, bind_k, List.length_cons, List.length_nil, List.cons_append, List.nil_append, List.append_nil, Nat.reduceAdd, Nat.reduceSub, Nat.sub_self, Nat.zero_add, Nat.sub_zero, List.replicate_succ, List.replicate_zero, List.take_succ_cons, List.take_zero, List.getElem?_cons_zero, List.getElem?_cons_succ, List.map_cons, List.map_nil, oOut, setV, getOb, setOb, List.set_cons_zero, List.set_cons_succ, reduceIte, outV, v1L, szOk, Nat.reduceLeDiff, Nat.zero_le, decide_true, eq_self, Sv.spc, Bool.false_eq_true, if_true, if_false, this]) (by omega)
  have j := join_T l hl
  unfold m_text_of b_text_of
  simp only [a_mBody, a_mBodyN, a_sSeq, a_sIf, a_sRet, a_sSet, a_sNx, a_sSetIx, a_sOwn, a_sDrop, a_sAsgG, a_sPar, a_eVar, a_eC, a_eOp, a_eUn, a_eN, a_eSl2, a_eOwn, a_eTst, a_eIf, a_eIsi, a_mAnd, a_mOr, a_mNot, a_mYes, a_lCons, a_lNil, a_eTup, a_eLst, a_eCall, a_eCall0, a_eCallS, a_eCallK, a_eCallP, a_eLam, a_eM1, a_eM0, a_eNotV, a_eAndV, a_eOrV, a_eNoL, a_eClr, a_eSl, a_oSome, a_oNone, a_sFor, a_lSeq, a_lRng1, a_lRng2, a_lEnum, a_eDGet, a_eCl, a_eScIx, a_eScLen, a_eMeth, bind_k, List.length_cons, List.length_nil, List.cons_append, List.nil_append, List.append_nil, Nat.reduceAdd, Nat.reduceSub, Nat.sub_self, Nat.zero_add, Nat.sub_zero, List.replicate_succ, List.replicate_zero, List.take_succ_cons, List.take_zero, List.getElem?_cons_zero, List.getElem?_cons_succ, List.map_cons, List.map_nil, oOut, setV, getOb, setOb, List.set_cons_zero, List.set_cons_succ, reduceIte, outV, v1L, szOk, Nat.reduceLeDiff, Nat.zero_le, decide_true, eq_self, Sv.spc, Bool.false_eq_true, if_true, if_false, e, isStr, j]
/-! the signs and their numbers, by a dict -/
def byK : List (Key × D) := Wt.map fun c => (.inr ⟨#[c]⟩, num c)
theorem get_map (f : Nat → D) : ∀ (l : List Nat) (c : Nat), c ∈ l → getD' (l.map fun c => ((.inr ⟨#[c]⟩ : Key), f c)) (.inr ⟨#[c]⟩) = some (f c)
  | a :: l, c, h => by
    unfold getD'
    rw [List.map_cons, List.find?_cons]
    by_cases q : a = c
    · subst q
      rw [decide_eq_true rfl]
      rfl
    · have : ¬ (((.inr ⟨#[a]⟩ : Key), f a).1 = (.inr ⟨#[c]⟩ : Key)) := fun z => q (by cases z; rfl)
      rw [decide_eq_false this]
      exact get_map f l c ((List.mem_cons.mp h).resolve_left fun z => q z.symm)
theorem by_get {c : Nat} (h : c ∈ Wt) : getD' byK (.inr ⟨#[c]⟩) = some (num c) := get_map num Wt c h
theorem law_numbers_ok {l : List Nat} (hl : l.length ≤ 1000) (h : ∀ c ∈ l, c ∈ Wt) : m__law_46_numbers [.va (T l)] = .ok (.tuple (l.map num), [.va (T l)]) := by
  have e1 : sDictP 1 (lCons (eLc (lEnum (lCons (eCall0 m__law_46_signs) lNil)) (gmTup 2 (gmCons (gmName 2) (gmCons (gmName 3) gmNil))) mYes (eTup (lCons (eVar 3) (lCons (eVar 2) lNil))) [2, 3]) lNil) [.va (T l), .un, .un, .un] = .ok (.nx, [.va (T l), .ow (.dK byK), .un, .un]) := by
    kernel_rfl
  have e := eLc_map (i := lSeq (eVar 0)) (m := eDGet 1 (eVar 3)) (ρ := [.va (T l), .ow (.dK byK), .un, .un]) (l := l) (e := T1) (f := num) 3 (s := .un) rfl rfl rfl (fun c hc => by
    have := by_get (h c hc)
    simp only [a_mBody, a_mBodyN, a_sSeq, a_sIf, a_sRet, a_sSet, a_sNx, a_sSetIx, a_sOwn, a_sDrop, a_sAsgG, a_sPar, a_eVar, a_eC, a_eOp, a_eUn, a_eN, a_eSl2, a_eOwn, a_eTst, a_eIf, a_eIsi, a_mAnd, a_mOr, a_mNot, a_mYes, a_lCons, a_lNil, a_eTup, a_eLst, a_eCall, a_eCall0, a_eCallS, a_eCallK, a_eCallP, a_eLam, a_eM1, a_eM0, a_eNotV, a_eAndV, a_eOrV, a_eNoL, a_eClr, a_eSl, a_oSome, a_oNone, a_sFor, a_lSeq, a_lRng1, a_lRng2, a_lEnum, a_eDGet, a_eCl, a_eScIx, a_eScLen, a_eMeth, bind_k, List.length_cons, List.length_nil, List.cons_append, List.nil_append, List.append_nil, Nat.reduceAdd, Nat.reduceSub, Nat.sub_self, Nat.zero_add, Nat.sub_zero, List.replicate_succ, List.replicate_zero, List.take_succ_cons, List.take_zero, List.getElem?_cons_zero, List.getElem?_cons_succ, List.map_cons, List.map_nil, oOut, setV, getOb, setOb, List.set_cons_zero, List.set_cons_succ, reduceIte, outV, v1L, szOk, Nat.reduceLeDiff, Nat.zero_le, decide_true, eq_self, Sv.spc, Bool.false_eq_true, if_true, if_false, Option.isSome_some, getOf, keyD, Option.bind_some, this]) (by omega)
  unfold m__law_46_numbers b__law_46_numbers
  simp only [a_mBody, a_mBodyN, a_sSeq, a_sIf, a_sRet, a_sSet, a_sNx, a_sSetIx, a_sOwn, a_sDrop, a_sAsgG, a_sPar, a_eVar, a_eC, a_eOp, a_eUn, a_eN, a_eSl2, a_eOwn, a_eTst, a_eIf, a_eIsi, a_mAnd, a_mOr, a_mNot, a_mYes, a_lCons, a_lNil, a_eTup, a_eLst, a_eCall, a_eCall0, a_eCallS, a_eCallK, a_eCallP, a_eLam, a_eM1, a_eM0, a_eNotV, a_eAndV, a_eOrV, a_eNoL, a_eClr, a_eSl, a_oSome, a_oNone, a_sFor, a_lSeq, a_lRng1, a_lRng2, a_lEnum, a_eDGet, a_eCl, a_eScIx, a_eScLen, a_eMeth, bind_k, List.length_cons, List.length_nil, List.cons_append, List.nil_append, List.append_nil, Nat.reduceAdd, Nat.reduceSub, Nat.sub_self, Nat.zero_add, Nat.sub_zero, List.replicate_succ, List.replicate_zero, List.take_succ_cons, List.take_zero, List.getElem?_cons_zero, List.getElem?_cons_succ, List.map_cons, List.map_nil, oOut, setV, getOb, setOb, List.set_cons_zero, List.set_cons_succ, reduceIte, outV, v1L, szOk, Nat.reduceLeDiff, Nat.zero_le, decide_true, eq_self, Sv.spc, Bool.false_eq_true, if_true, if_false, e1, e, vTuple]
end Mi

set_option Elab.async false
set_option linter.all false
set_option maxRecDepth 100000
set_option maxHeartbeats 4000000
namespace Mi
open PySem PySem.Spec PyProof.Rows L2
abbrev W38 : List Nat := [97, 98, 99, 100, 101, 102, 103, 104, 105, 106, 107, 108, 109, 110, 111, 112, 113, 114, 115, 116, 117, 118, 119, 120, 121, 122, 48, 49, 50, 51, 52, 53, 54, 55, 56, 57, 95, 45]
theorem W38_eq : (Str.cps W8).toList = W38 := by decide +kernel
/-- is it a name -/
def isN : D → Bool
  | .str z => (decide (1 ≤ z.length) && decide (z.length ≤ 12)) && z.cps.toList.all (fun c => decide (c ∈ W38))
  | _ => false
/-- a thing that may be asked -/
def Gd (d : D) : Prop := ∀ z, d = .str z → z.length ≤ 1000 ∧ ∀ c ∈ z.cps.toList, c < 128
theorem isi_str (z : Str) : vIsi "str" (.str z) = .ok (.bool true) := rfl
theorem isi_no {d : D} (h : ∀ z, d ≠ .str z) : vIsi "str" d = .ok (.bool false) := by
  cases d <;> first | rfl | exact absurd rfl (h _)
theorem bools_of (f : Nat → Bool) : ∀ l : List Nat, boolsOf (l.map fun c => PyData.bool (f c)) = some (l.map f)
  | [] => rfl
  | c :: l => by
    show (boolsOf (l.map fun c => PyData.bool (f c))).map _ = _
    rw [bools_of f l]; rfl
theorem len_in {z : Str} (h : z.length ≤ 1000) : eChain vLe vLe (eC (.int 1)) (eN (v1L vLen) (lCons (eVar 0) lNil)) (eC (.int 12)) [.va (.str z), .un] = .ok (.bool (decide (1 ≤ z.length) && decide (z.length ≤ 12)), [.va (.str z), .un]) := by
  have e0 : vLen (.str z) = .ok (.int z.length) := by
    show (if z.length ≤ maxSz then _ else _) = _
    rw [if_pos (Nat.le_trans h (by decide +kernel))]
  have e1 : vLe (.int 1) (.int z.length) = .ok (.bool (decide (1 ≤ z.length))) := by
    show Out.ok (PyData.bool (decide ((1 : Int) ≤ (z.length : Int)))) = _
    rw [show decide ((1 : Int) ≤ (z.length : Int)) = decide (1 ≤ z.length) from decide_eq_decide.mpr (by omega)]
  have e2 : vLe (.int z.length) (.int 12) = .ok (.bool (decide (z.length ≤ 12))) := by
    show Out.ok (PyData.bool (decide ((z.length : Int) ≤ (12 : Int)))) = _
    rw [show decide ((z.length : Int) ≤ (12 : Int)) = decide (z.length ≤ 12) from decide_eq_decide.mpr (by omega)]
  simp only [a_mBody, a_mBodyN, a_sSeq, a_sIf, a_sRet, a_sSet, a_sNx, a_sSetIx, a_sOwn, a_sDrop, a_sAsgG, a_sPar, a_eVar, a_eC, a_eOp, a_eUn, a_eN, a_eSl2, a_eOwn, a_eTst, a_eIf, a_eIsi, a_mAnd, a_mOr, a_mNot, a_mYes, a_lCons, a_lNil, a_eTup, a_eLst, a_eCall, a_eCall0, a_eCallS, a_eCallK, a_eCallP, a_eLam, a_eM1, a_eM0, a_eNotV, a_eAndV, a_eOrV, a_eNoL, a_eClr, a_eSl, a_oSome, a_oNone, a_sFor, a_lSeq, a_lRng1, a_lRng2, a_lEnum, a_eDGet, a_eCl, a_eScIx, a_eScLen, a_eMeth, bind_k, List.length_cons, List.length_nil, List.cons_append, List.nil_append, List.append_nil, Nat.reduceAdd, Nat.reduceSub, Nat.sub_self, Nat.zero_add, Nat.sub_zero, List.replicate_succ, List.replicate_zero, List.take_succ_cons, List.take_zero, List.getElem?_cons_zero, List.getElem?_cons_succ, List.map_cons, List.map_nil, oOut, setV, getOb, setOb, List.set_cons_zero, List.set_cons_succ, reduceIte, outV, v1L, szOk, Nat.reduceLeDiff, Nat.zero_le, decide_true, eq_self, Sv.spc, Bool.false_eq_true, if_true, if_false, a_eChain, e0, e1]
  cases decide (1 ≤ z.length)
  · rfl
  · simp only [e2, bind_ok, Bool.true_and]
theorem is_name_ok {d : D} (h : Gd d) : m_is_name [.va d] = .ok (.bool (isN d), [.va d]) := by
  by_cases q : ∃ z, d = .str z
  · obtain ⟨z, rfl⟩ := q
    have h1 := len_in (h z rfl).1
    unfold m_is_name b_is_name
    by_cases c1 : (decide (1 ≤ z.length) && decide (z.length ≤ 12)) = true
    · have hz : z.length ≤ 12 := of_decide_eq_true (Bool.and_eq_true_iff.mp c1).2
      have e := eLc_map (i := lSeq (eVar 0)) (m := eOp vIn (eVar 1) (eC (.str W8))) (ρ := [.va (.str z), .un]) (l := z.cps.toList) (e := T1) (f := fun c => PyData.bool (decide (c ∈ W38))) 1 (s := .un) rfl rfl rfl (fun c hc => by
        have : vIn (T1 c) (.str W8) = .ok (.bool (decide (c ∈ W38))) := by
          show Out.ok (PyData.bool (false ^^ decide (c ∈ (Str.cps W8).toList))) = _
          rw [W38_eq, Bool.false_xor]
        simp only [a_mBody, a_mBodyN, a_sSeq, a_sIf, a_sRet, a_sSet, a_sNx, a_sSetIx, a_sOwn, a_sDrop, a_sAsgG, a_sPar, a_eVar, a_eC, a_eOp, a_eUn, a_eN, a_eSl2, a_eOwn, a_eTst, a_eIf, a_eIsi, a_mAnd, a_mOr, a_mNot, a_mYes, a_lCons, a_lNil, a_eTup, a_eLst, a_eCall, a_eCall0, a_eCallS, a_eCallK, a_eCallP, a_eLam, a_eM1, a_eM0, a_eNotV, a_eAndV, a_eOrV, a_eNoL, a_eClr, a_eSl, a_oSome, a_oNone, a_sFor, a_lSeq, a_lRng1, a_lRng2, a_lEnum, a_eDGet, a_eCl, a_eScIx, a_eScLen, a_eMeth, bind_k, List.length_cons, List.length_nil, List.cons_append, List.nil_append, List.append_nil, Nat.reduceAdd, Nat.reduceSub, Nat.sub_self, Nat.zero_add, Nat.sub_zero, List.replicate_succ, List.replicate_zero, List.take_succ_cons, List.take_zero, List.getElem?_cons_zero, List.getElem?_cons_succ, List.map_cons, List.map_nil, oOut, setV, getOb, setOb, List.set_cons_zero, List.set_cons_succ, reduceIte, outV, v1L, szOk, Nat.reduceLeDiff, Nat.zero_le, decide_true, eq_self, Sv.spc, Bool.false_eq_true, if_true, if_false, this]) (by rw [Array.length_toList]; exact Nat.le_trans hz (by decide))
      have e2 : vAll (.list (z.cps.toList.map fun c => PyData.bool (decide (c ∈ W38)))) = .ok (.bool (z.cps.toList.all fun c => decide (c ∈ W38))) := by
        show (oOut (boolsOf _)).bind _ = _
        rw [bools_of]
        show Out.ok (PyData.bool ((z.cps.toList.map fun c => decide (c ∈ W38)).all id)) = _
        rw [List.all_map]; rfl
      have e3 : isN (.str z) = z.cps.toList.all fun c => decide (c ∈ W38) := by
        show ((decide (1 ≤ z.length) && decide (z.length ≤ 12)) && _) = _
        rw [c1]; rfl
      rw [e3]
      simp only [a_mBody, a_sSeq, a_sIf, a_mOr, a_mNot, a_eTst, h1, c1, a_eIsi, a_eVar, isi_str, a_mBody, a_mBodyN, a_sSeq, a_sIf, a_sRet, a_sSet, a_sNx, a_sSetIx, a_sOwn, a_sDrop, a_sAsgG, a_sPar, a_eVar, a_eC, a_eOp, a_eUn, a_eN, a_eSl2, a_eOwn, a_eTst, a_eIf, a_eIsi, a_mAnd, a_mOr, a_mNot, a_mYes, a_lCons, a_lNil, a_eTup, a_eLst, a_eCall, a_eCall0, a_eCallS, a_eCallK, a_eCallP, a_eLam, a_eM1, a_eM0, a_eNotV, a_eAndV, a_eOrV, a_eNoL, a_eClr, a_eSl, a_oSome, a_oNone, a_sFor, a_lSeq, a_lRng1, a_lRng2, a_lEnum, a_eDGet, a_eCl, a_eScIx, a_eScLen, a_eMeth, bind_k, List.length_cons, List.length_nil, List.cons_append, List.nil_append, List.append_nil, Nat.reduceAdd, Nat.reduceSub, Nat.sub_self, Nat.zero_add, Nat.sub_zero, List.replicate_succ, List.replicate_zero, List.take_succ_cons, List.take_zero, List.getElem?_cons_zero, List.getElem?_cons_succ, List.map_cons, List.map_nil, oOut, setV, getOb, setOb, List.set_cons_zero, List.set_cons_succ, reduceIte, outV, v1L, szOk, Nat.reduceLeDiff, Nat.zero_le, decide_true, eq_self, Sv.spc, Bool.false_eq_true, if_true, if_false, e, e2, Bool.not_true, Bool.false_eq_true]
    · have c2 : (decide (1 ≤ z.length) && decide (z.length ≤ 12)) = false := by simpa using c1
      have e3 : isN (.str z) = false := by
        show ((decide (1 ≤ z.length) && decide (z.length ≤ 12)) && _) = _
        rw [c2]; rfl
      rw [e3]
      simp only [a_mBody, a_sSeq, a_sIf, a_mOr, a_mNot, a_eTst, List.length_cons, List.length_nil, List.cons_append, List.nil_append, Nat.reduceAdd, Nat.reduceSub, List.replicate_succ, List.replicate_zero, h1, c2, a_eIsi, a_eVar, isi_str, a_mBody, a_mBodyN, a_sSeq, a_sIf, a_sRet, a_sSet, a_sNx, a_sSetIx, a_sOwn, a_sDrop, a_sAsgG, a_sPar, a_eVar, a_eC, a_eOp, a_eUn, a_eN, a_eSl2, a_eOwn, a_eTst, a_eIf, a_eIsi, a_mAnd, a_mOr, a_mNot, a_mYes, a_lCons, a_lNil, a_eTup, a_eLst, a_eCall, a_eCall0, a_eCallS, a_eCallK, a_eCallP, a_eLam, a_eM1, a_eM0, a_eNotV, a_eAndV, a_eOrV, a_eNoL, a_eClr, a_eSl, a_oSome, a_oNone, a_sFor, a_lSeq, a_lRng1, a_lRng2, a_lEnum, a_eDGet, a_eCl, a_eScIx, a_eScLen, a_eMeth, bind_k, List.length_cons, List.length_nil, List.cons_append, List.nil_append, List.append_nil, Nat.reduceAdd, Nat.reduceSub, Nat.sub_self, Nat.zero_add, Nat.sub_zero, List.replicate_succ, List.replicate_zero, List.take_succ_cons, List.take_zero, List.getElem?_cons_zero, List.getElem?_cons_succ, List.map_cons, List.map_nil, oOut, setV, getOb, setOb, List.set_cons_zero, List.set_cons_succ, reduceIte, outV, v1L, szOk, Nat.reduceLeDiff, Nat.zero_le, decide_true, eq_self, Sv.spc, Bool.false_eq_true, if_true, if_false, Bool.not_true, Bool.not_false, Bool.false_eq_true]
  · have e := isi_no (d := d) fun z e => q ⟨z, e⟩
    have e3 : isN d = false := by
      cases d <;> first | rfl | exact absurd ⟨_, rfl⟩ q
    rw [e3]
    unfold m_is_name b_is_name
    simp only [a_mBody, a_mBodyN, a_sSeq, a_sIf, a_sRet, a_sSet, a_sNx, a_sSetIx, a_sOwn, a_sDrop, a_sAsgG, a_sPar, a_eVar, a_eC, a_eOp, a_eUn, a_eN, a_eSl2, a_eOwn, a_eTst, a_eIf, a_eIsi, a_mAnd, a_mOr, a_mNot, a_mYes, a_lCons, a_lNil, a_eTup, a_eLst, a_eCall, a_eCall0, a_eCallS, a_eCallK, a_eCallP, a_eLam, a_eM1, a_eM0, a_eNotV, a_eAndV, a_eOrV, a_eNoL, a_eClr, a_eSl, a_oSome, a_oNone, a_sFor, a_lSeq, a_lRng1, a_lRng2, a_lEnum, a_eDGet, a_eCl, a_eScIx, a_eScLen, a_eMeth, bind_k, List.length_cons, List.length_nil, List.cons_append, List.nil_append, List.append_nil, Nat.reduceAdd, Nat.reduceSub, Nat.sub_self, Nat.zero_add, Nat.sub_zero, List.replicate_succ, List.replicate_zero, List.take_succ_cons, List.take_zero, List.getElem?_cons_zero, List.getElem?_cons_succ, List.map_cons, List.map_nil, oOut, setV, getOb, setOb, List.set_cons_zero, List.set_cons_succ, reduceIte, outV, v1L, szOk, Nat.reduceLeDiff, Nat.zero_le, decide_true, eq_self, Sv.spc, Bool.false_eq_true, if_true, if_false, e, Bool.not_false]
theorem lay_T1 : ∀ (l : List Nat), (∀ c ∈ l, c < 128) → PyData.canLayAll0 (l.map T1) = true ∧ PyData.depthAll (l.map T1) = 0
  | [], _ => ⟨rfl, rfl⟩
  | c :: l, h => by
    obtain ⟨h1, h2⟩ := lay_T1 l fun c hc => h c (List.mem_cons_of_mem _ hc)
    have hc := h c List.mem_cons_self
    refine ⟨?_, ?_⟩
    · show (PyData.strOk ⟨#[c]⟩ && PyData.canLayAll0 (l.map T1)) = true
      rw [h1, Bool.and_true]
      unfold PyData.strOk
      simp
      omega
    · show max 0 (PyData.depthAll (l.map T1)) = 0
      rw [h2]; rfl
theorem shaped_T1 (l : List Nat) (h : ∀ c ∈ l, c < 128) : SeqAt.shaped (.list (l.map T1)) = true := by
  obtain ⟨h1, h2⟩ := lay_T1 l h
  show (PyData.canLayAll0 (l.map T1) && decide (PyData.depthAll (l.map T1) + 1 ≤ 64)) = true
  rw [h1, h2]; rfl
theorem law_is_name_ok {d : D} (h : Gd d) : m__law_46_is_name [.va d] = .ok (.bool (isN d), [.va d]) := by
  by_cases q : ∃ z, d = .str z
  · obtain ⟨z, rfl⟩ := q
    have h1 := len_in (h z rfl).1
    unfold m__law_46_is_name b__law_46_is_name
    by_cases c1 : (decide (1 ≤ z.length) && decide (z.length ≤ 12)) = true
    · have hz : z.length ≤ 12 := of_decide_eq_true (Bool.and_eq_true_iff.mp c1).2
      have e := eLc_sel (i := lSeq (eVar 0)) (t := eTst (eOp vNotIn (eVar 1) (eSl vSl (eCall0 m__law_46_signs) oNone (oSome (eC (.int 38)))))) (m := eVar 1) (ρ := [.va (.str z), .un]) (l := z.cps.toList) (e := T1) (f := T1) (p := fun c => !decide (c ∈ W38)) 1 (s := .un) rfl rfl rfl (fun c hc => by
        have e1 : eSl vSl (eCall0 m__law_46_signs) oNone (oSome (eC (.int 38))) [.va (.str z), .va (T1 c)] = .ok (.str W8, [.va (.str z), .va (T1 c)]) := by kernel_rfl
        have : vNotIn (T1 c) (.str W8) = .ok (.bool (!decide (c ∈ W38))) := by
          show Out.ok (PyData.bool (true ^^ decide (c ∈ (Str.cps W8).toList))) = _
          rw [W38_eq, Bool.true_xor]
        simp only [a_eTst, a_eOp, a_eVar, List.set_cons_zero, List.set_cons_succ, List.getElem?_cons_zero, List.getElem?_cons_succ, bind_ok, e1, this]) (fun c hc _ => rfl) (by rw [Array.length_toList]; exact Nat.le_trans hz (by decide))
      have hs : okEq (.list ((z.cps.toList.filter fun c => !decide (c ∈ W38)).map T1)) (.list []) = true := by
        unfold okEq
        rw [shaped_T1 _ fun c hc => (h z rfl).2 c (List.mem_filter.mp hc).1]
        decide +kernel
      have e2 : vEq (.list ((z.cps.toList.filter fun c => !decide (c ∈ W38)).map T1)) (.list []) = .ok (.bool (z.cps.toList.all fun c => decide (c ∈ W38))) := by
        show (if okEq _ _ = true then Out.ok (PyData.bool (false ^^ PyData.eqv _ _)) else .bad) = _
        rw [if_pos hs, Bool.false_xor]
        congr 2
        generalize z.cps.toList = l
        induction l with
        | nil => rfl
        | cons c l ih =>
          rw [List.filter_cons, List.all_cons]
          by_cases hc : c ∈ W38
          · rw [decide_eq_true hc, if_neg (by decide), Bool.true_and]; exact ih
          · rw [decide_eq_false hc, if_pos (by decide)]; rfl
      have e3 : isN (.str z) = z.cps.toList.all fun c => decide (c ∈ W38) := by
        show ((decide (1 ≤ z.length) && decide (z.length ≤ 12)) && _) = _
        rw [c1]; rfl
      rw [e3]
      simp only [a_mBody, a_sSeq, a_sIf, a_mOr, a_mNot, a_eTst, h1, c1, a_eIsi, a_eVar, isi_str, a_mBody, a_mBodyN, a_sSeq, a_sIf, a_sRet, a_sSet, a_sNx, a_sSetIx, a_sOwn, a_sDrop, a_sAsgG, a_sPar, a_eVar, a_eC, a_eOp, a_eUn, a_eN, a_eSl2, a_eOwn, a_eTst, a_eIf, a_eIsi, a_mAnd, a_mOr, a_mNot, a_mYes, a_lCons, a_lNil, a_eTup, a_eLst, a_eCall, a_eCall0, a_eCallS, a_eCallK, a_eCallP, a_eLam, a_eM1, a_eM0, a_eNotV, a_eAndV, a_eOrV, a_eNoL, a_eClr, a_eSl, a_oSome, a_oNone, a_sFor, a_lSeq, a_lRng1, a_lRng2, a_lEnum, a_eDGet, a_eCl, a_eScIx, a_eScLen, a_eMeth, bind_k, List.length_cons, List.length_nil, List.cons_append, List.nil_append, List.append_nil, Nat.reduceAdd, Nat.reduceSub, Nat.sub_self, Nat.zero_add, Nat.sub_zero, List.replicate_succ, List.replicate_zero, List.take_succ_cons, List.take_zero, List.getElem?_cons_zero, List.getElem?_cons_succ, List.map_cons, List.map_nil, oOut, setV, getOb, setOb, List.set_cons_zero, List.set_cons_succ, reduceIte, outV, v1L, szOk, Nat.reduceLeDiff, Nat.zero_le, decide_true, eq_self, Sv.spc, Bool.false_eq_true, if_true, if_false, e, e2, Bool.not_true, Bool.false_eq_true]
    · have c2 : (decide (1 ≤ z.length) && decide (z.length ≤ 12)) = false := by simpa using c1
      have e3 : isN (.str z) = false := by
        show ((decide (1 ≤ z.length) && decide (z.length ≤ 12)) && _) = _
        rw [c2]; rfl
      rw [e3]
      simp only [a_mBody, a_sSeq, a_sIf, a_mOr, a_mNot, a_eTst, List.length_cons, List.length_nil, List.cons_append, List.nil_append, Nat.reduceAdd, Nat.reduceSub, List.replicate_succ, List.replicate_zero, h1, c2, a_eIsi, a_eVar, isi_str, a_mBody, a_mBodyN, a_sSeq, a_sIf, a_sRet, a_sSet, a_sNx, a_sSetIx, a_sOwn, a_sDrop, a_sAsgG, a_sPar, a_eVar, a_eC, a_eOp, a_eUn, a_eN, a_eSl2, a_eOwn, a_eTst, a_eIf, a_eIsi, a_mAnd, a_mOr, a_mNot, a_mYes, a_lCons, a_lNil, a_eTup, a_eLst, a_eCall, a_eCall0, a_eCallS, a_eCallK, a_eCallP, a_eLam, a_eM1, a_eM0, a_eNotV, a_eAndV, a_eOrV, a_eNoL, a_eClr, a_eSl, a_oSome, a_oNone, a_sFor, a_lSeq, a_lRng1, a_lRng2, a_lEnum, a_eDGet, a_eCl, a_eScIx, a_eScLen, a_eMeth, bind_k, List.length_cons, List.length_nil, List.cons_append, List.nil_append, List.append_nil, Nat.reduceAdd, Nat.reduceSub, Nat.sub_self, Nat.zero_add, Nat.sub_zero, List.replicate_succ, List.replicate_zero, List.take_succ_cons, List.take_zero, List.getElem?_cons_zero, List.getElem?_cons_succ, List.map_cons, List.map_nil, oOut, setV, getOb, setOb, List.set_cons_zero, List.set_cons_succ, reduceIte, outV, v1L, szOk, Nat.reduceLeDiff, Nat.zero_le, decide_true, eq_self, Sv.spc, Bool.false_eq_true, if_true, if_false, Bool.not_true, Bool.not_false, Bool.false_eq_true]
  · have e := isi_no (d := d) fun z e => q ⟨z, e⟩
    have e3 : isN d = false := by
      cases d <;> first | rfl | exact absurd ⟨_, rfl⟩ q
    rw [e3]
    unfold m__law_46_is_name b__law_46_is_name
    simp only [a_mBody, a_mBodyN, a_sSeq, a_sIf, a_sRet, a_sSet, a_sNx, a_sSetIx, a_sOwn, a_sDrop, a_sAsgG, a_sPar, a_eVar, a_eC, a_eOp, a_eUn, a_eN, a_eSl2, a_eOwn, a_eTst, a_eIf, a_eIsi, a_mAnd, a_mOr, a_mNot, a_mYes, a_lCons, a_lNil, a_eTup, a_eLst, a_eCall, a_eCall0, a_eCallS, a_eCallK, a_eCallP, a_eLam, a_eM1, a_eM0, a_eNotV, a_eAndV, a_eOrV, a_eNoL, a_eClr, a_eSl, a_oSome, a_oNone, a_sFor, a_lSeq, a_lRng1, a_lRng2, a_lEnum, a_eDGet, a_eCl, a_eScIx, a_eScLen, a_eMeth, bind_k, List.length_cons, List.length_nil, List.cons_append, List.nil_append, List.append_nil, Nat.reduceAdd, Nat.reduceSub, Nat.sub_self, Nat.zero_add, Nat.sub_zero, List.replicate_succ, List.replicate_zero, List.take_succ_cons, List.take_zero, List.getElem?_cons_zero, List.getElem?_cons_succ, List.map_cons, List.map_nil, oOut, setV, getOb, setOb, List.set_cons_zero, List.set_cons_succ, reduceIte, outV, v1L, szOk, Nat.reduceLeDiff, Nat.zero_le, decide_true, eq_self, Sv.spc, Bool.false_eq_true, if_true, if_false, e, Bool.not_false]
/-! what is heard -/
theorem is_ok {d : D} (h : okRepr (.tuple [.str "told", d]) = true) : m__law_is [.cl (.ok d), .va d] = .ok (.bool true, [.cl (.ok d), .va d]) := by
  have e1 : m__law_heard [.cl (.ok d)] = .ok (.tuple [.str "told", d], [.cl (.ok d)]) := rfl
  have e2 : m__law_yq_same [.va (.tuple [.str "told", d]), .va (.tuple [.str "told", d])] = .ok (.bool true, [.va (.tuple [.str "told", d]), .va (.tuple [.str "told", d])]) := by
    have : vRepr (.tuple [.str "told", d]) = .ok (.str (PyData.shown (.tuple [.str "told", d]))) := if_pos h
    have e3 : ∀ s : Str, vEq (.str s) (.str s) = .ok (.bool true) := fun s => by
      show Out.ok (PyData.bool (false ^^ decide (s = s))) = _
      rw [decide_eq_true rfl]; rfl
    unfold m__law_yq_same b__law_yq_same
    simp only [a_mBody, a_mBodyN, a_sSeq, a_sIf, a_sRet, a_sSet, a_sNx, a_sSetIx, a_sOwn, a_sDrop, a_sAsgG, a_sPar, a_eVar, a_eC, a_eOp, a_eUn, a_eN, a_eSl2, a_eOwn, a_eTst, a_eIf, a_eIsi, a_mAnd, a_mOr, a_mNot, a_mYes, a_lCons, a_lNil, a_eTup, a_eLst, a_eCall, a_eCall0, a_eCallS, a_eCallK, a_eCallP, a_eLam, a_eM1, a_eM0, a_eNotV, a_eAndV, a_eOrV, a_eNoL, a_eClr, a_eSl, a_oSome, a_oNone, a_sFor, a_lSeq, a_lRng1, a_lRng2, a_lEnum, a_eDGet, a_eCl, a_eScIx, a_eScLen, a_eMeth, bind_k, List.length_cons, List.length_nil, List.cons_append, List.nil_append, List.append_nil, Nat.reduceAdd, Nat.reduceSub, Nat.sub_self, Nat.zero_add, Nat.sub_zero, List.replicate_succ, List.replicate_zero, List.take_succ_cons, List.take_zero, List.getElem?_cons_zero, List.getElem?_cons_succ, List.map_cons, List.map_nil, oOut, setV, getOb, setOb, List.set_cons_zero, List.set_cons_succ, reduceIte, outV, v1L, szOk, Nat.reduceLeDiff, Nat.zero_le, decide_true, eq_self, Sv.spc, Bool.false_eq_true, if_true, if_false, this, e3]
  unfold m__law_is b__law_is
  simp only [a_mBody, a_mBodyN, a_sSeq, a_sIf, a_sRet, a_sSet, a_sNx, a_sSetIx, a_sOwn, a_sDrop, a_sAsgG, a_sPar, a_eVar, a_eC, a_eOp, a_eUn, a_eN, a_eSl2, a_eOwn, a_eTst, a_eIf, a_eIsi, a_mAnd, a_mOr, a_mNot, a_mYes, a_lCons, a_lNil, a_eTup, a_eLst, a_eCall, a_eCall0, a_eCallS, a_eCallK, a_eCallP, a_eLam, a_eM1, a_eM0, a_eNotV, a_eAndV, a_eOrV, a_eNoL, a_eClr, a_eSl, a_oSome, a_oNone, a_sFor, a_lSeq, a_lRng1, a_lRng2, a_lEnum, a_eDGet, a_eCl, a_eScIx, a_eScLen, a_eMeth, bind_k, List.length_cons, List.length_nil, List.cons_append, List.nil_append, List.append_nil, Nat.reduceAdd, Nat.reduceSub, Nat.sub_self, Nat.zero_add, Nat.sub_zero, List.replicate_succ, List.replicate_zero, List.take_succ_cons, List.take_zero, List.getElem?_cons_zero, List.getElem?_cons_succ, List.map_cons, List.map_nil, oOut, setV, getOb, setOb, List.set_cons_zero, List.set_cons_succ, reduceIte, outV, v1L, szOk, Nat.reduceLeDiff, Nat.zero_le, decide_true, eq_self, Sv.spc, Bool.false_eq_true, if_true, if_false, e1, e2]
end Mi

set_option Elab.async false
set_option linter.all false
set_option maxRecDepth 100000
set_option maxHeartbeats 4000000
namespace Mi
open PySem PySem.Spec PyProof.Rows L2
theorem poolB_eq : b__law_pool = (sSeq (sAsgG (gmTup 2 (gmCons (gmName 1) (gmCons (gmName 2) gmNil))) (eTup (lCons (eC (.int 0)) (lCons (eC (.int 7)) lNil))))
  (sSeq (sFor (lRng1 (lCons (eScLen 0) lNil)) (gmName 3) (poolB (eOp vPow (eC (.int 10)) (eC (.int 12))) (eOp vPow (eC (.int 10)) (eC (.int 60)))))
  (sRet (eLst (lCons (eVar 1) (lCons (eVar 2) (lCons (eC (.int 0)) lNil))))))) := rfl
theorem count_at {n i : Nat} {d : D} (h : (countD 0 n)[i]? = some d) : d = .int (i : Nat) ∧ i < n := by
  unfold countD at h
  rw [List.getElem?_map] at h
  obtain ⟨k, h1, h2⟩ := Option.map_eq_some_iff.mp h
  have hi : i < n := by
    have := (List.getElem?_eq_some_iff.mp h1).1
    rwa [List.length_range] at this
  rw [List.getElem?_range hi] at h1
  cases h1
  refine ⟨?_, hi⟩
  rw [← h2, Int.zero_add]
theorem count_len (lo : Int) (n : Nat) : (countD lo n).length = n := by unfold countD; rw [List.length_map, List.length_range]
theorem r62a : -(2 ^ 62) ≤ (0 : Int) := by decide
theorem r62b : (1000 : Int) < 2 ^ 62 := by decide
theorem r62c {n : Nat} (h : n ≤ 1000) : (n : Int) < 2 ^ 62 := Int.lt_of_le_of_lt (show (n : Int) ≤ 1000 by omega) r62b
theorem r62d {n : Nat} : -(2 ^ 62) ≤ (n : Int) := Int.le_trans r62a (Int.natCast_nonneg n)
theorem rng_ok {a : LM} {n : Nat} {ρ ρ' : List Sv} (ha : a ρ = .ok ([.int (n : Nat)], ρ')) (hn : n ≤ 1000) : lRng1 a ρ = .ok (countD 0 n, ρ') := by
  have h : -(2 ^ 62) ≤ (n : Int) ∧ (n : Int) < 2 ^ 62 := ⟨r62d, r62c hn⟩
  have e : lRng1 a ρ = (a ρ).bind fun x => match x.1 with
    | [.int j] => if -(2 ^ 62) ≤ j ∧ j < 2 ^ 62 then .ok (countD 0 j.toNat, x.2) else .bad
    | _ => .bad := rfl
  rw [e, ha, bind_ok]
  generalize 2 ^ 62 = B at *
  simp only [h, and_self, if_true, Int.toNat_natCast]
theorem pool_jar (ns : List Int) (hn : ns.length ≤ 63) : ∃ xs, m__law_pool [.sc ns] = .ok (.list xs, [.sc ns]) ∧ Jar (2 ^ 50) xs := by
  obtain ⟨ρ', e, h⟩ := runFor_inv (g := gmName 3) (b := poolB (eOp vPow (eC (.int 10)) (eC (.int 12))) (eOp vPow (eC (.int 10)) (eC (.int 60)))) (fun i ρ => ∃ a b x y, ρ = [.sc ns, .va (.int a), .va (.int b), x, y] ∧ Sv.own x = false ∧ Sv.own y = false ∧ 0 ≤ a ∧ b.natAbs < 2 ^ 31) (countD 0 ns.length) (fun i d ρ e1 hI => by
    obtain ⟨a, b, x, y, rfl, hx, hy, ha, hb⟩ := hI
    obtain ⟨rfl, hi⟩ := count_at e1
    obtain ⟨a', b', z, e2, ha', hb'⟩ := pool_step pw12 pw60 (by decide) big60 ns i ns[i] a b y (List.getElem?_eq_getElem hi) hy ha hb
    refine ⟨[.sc ns, .va (.int a), .va (.int b), .va (.int (i : Nat)), y], _, ?_, e2, a', b', _, _, rfl, rfl, rfl, ha', hb'⟩
    cases x <;> first | rfl | cases hx) (ρ := [.sc ns, .va (.int 0), .va (.int 7), .un, .un]) ⟨0, 7, .un, .un, rfl, rfl, rfl, by decide, by decide⟩
  obtain ⟨a, b, x, y, rfl, hx, hy, ha, hb⟩ := h
  refine ⟨[.int a, .int b, .int 0], ?_, a, b, 0, rfl, ha, hb, by decide, by decide⟩
  unfold m__law_pool
  rw [poolB_eq]
  have e5 : lRng1 (lCons (eScLen 0) lNil) [.sc ns, .va (.int 0), .va (.int 7), .un, .un] = .ok (countD 0 ns.length, [.sc ns, .va (.int 0), .va (.int 7), .un, .un]) := rng_ok rfl (by omega)
  simp only [a_mBody, a_mBodyN, a_sSeq, a_sIf, a_sRet, a_sSet, a_sNx, a_sSetIx, a_sOwn, a_sDrop, a_sAsgG, a_sPar, a_eVar, a_eC, a_eOp, a_eUn, a_eN, a_eSl2, a_eOwn, a_eTst, a_eIf, a_eIsi, a_mAnd, a_mOr, a_mNot, a_mYes, a_lCons, a_lNil, a_eTup, a_eLst, a_eCall, a_eCall0, a_eCallS, a_eCallK, a_eCallP, a_eLam, a_eM1, a_eM0, a_eNotV, a_eAndV, a_eOrV, a_eNoL, a_eClr, a_eSl, a_oSome, a_oNone, a_sFor, a_lSeq, a_lRng2, a_lEnum, a_eDGet, a_eCl, a_eScIx, a_eScLen, a_eMeth, bind_k, List.length_cons, List.length_nil, List.cons_append, List.nil_append, List.append_nil, Nat.reduceAdd, Nat.reduceSub, Nat.sub_self, Nat.zero_add, Nat.sub_zero, List.replicate_succ, List.replicate_zero, List.take_succ_cons, List.take_zero, List.getElem?_cons_zero, List.getElem?_cons_succ, List.map_cons, List.map_nil, oOut, setV, getOb, setOb, List.set_cons_zero, List.set_cons_succ, reduceIte, outV, v1L, szOk, Nat.reduceLeDiff, Nat.zero_le, decide_true, eq_self, Sv.spc, Bool.false_eq_true, if_true, if_false, gmTup, gmCons, gmName, gmNil, Option.bind_some, e5, e]
/-! ### texts drawn -/
theorem take_sub {k : Nat} {c : Nat} (h : c ∈ Wt.take k) : c ∈ Wt := List.mem_of_mem_take h
theorem drawn_ok {f n k : Nat} {xs : List D} (h : Jar (f + n) xs) (hn : n ≤ 1000) (hk : 0 < k) (hk2 : k ≤ 39) : ∃ l ys, m__law_46_drawn [.io (.lst xs), .va (.int (n : Nat)), .va (.int (k : Nat))] = .ok (T l, [.io (.lst ys), .va (.int (n : Nat)), .va (.int (k : Nat))]) ∧ l.length = n ∧ (∀ c ∈ l, c ∈ Wt.take k) ∧ Jar f ys := by
  have e0 : m__law_46_signs [] = .ok (.str WS, []) := rfl
  obtain ⟨ρ', acc, e, ⟨s, ys, l, e1, e2, hs, hj, hl, hc⟩, _⟩ := runLc_inv (g := fun d r => gmName 3 d (wipeS r [3])) (t := mYes) (m := eOp vIx (eCall0 m__law_46_signs) (eCallS m__law_take 2 0 (lCons (eVar 2) lNil))) (fun i ρ acc => ∃ s ys l, ρ = [.io (.lst ys), .va (.int (n : Nat)), .va (.int (k : Nat)), s] ∧ acc = l.map T1 ∧ Sv.own s = false ∧ Jar (f + (n - i)) ys ∧ l.length = i ∧ ∀ c ∈ l, c ∈ Wt.take k) (countD 0 n) (fun i d ρ acc e1 hI _ => by
    obtain ⟨s, ys, l, rfl, rfl, hs, hj, hl, hc⟩ := hI
    obtain ⟨rfl, hi⟩ := count_at e1
    have hj2 : Jar (f + (n - (i + 1)) + 1) ys := hj.le (by omega)
    obtain ⟨r, zs, e2, r0, r1, hj3⟩ := take_jar (m := (k : Int)) hj2 (by omega) (lt_big (k := 10) (by omega) (by decide))
    obtain ⟨j, rfl⟩ := Int.eq_ofNat_of_zero_le r0
    have hjl : j < Wt.length := by show j < 39; omega
    have e3 := sign_at (List.getElem?_eq_getElem hjl)
    refine ⟨[.io (.lst ys), .va (.int (n : Nat)), .va (.int (k : Nat)), .va (.int (i : Nat))], [.io (.lst ys), .va (.int (n : Nat)), .va (.int (k : Nat)), .va (.int (i : Nat))], by rfl, .inr ⟨[.io (.lst zs), .va (.int (n : Nat)), .va (.int (k : Nat)), .va (.int (i : Nat))], T1 Wt[j], rfl, ?_, _, zs, l ++ [Wt[j]], rfl, by rw [List.map_append]; rfl, rfl, hj3, by rw [List.length_append, hl]; rfl, fun c hc2 => ?_⟩⟩
    · simp only [a_mBody, a_mBodyN, a_sSeq, a_sIf, a_sRet, a_sSet, a_sNx, a_sSetIx, a_sOwn, a_sDrop, a_sAsgG, a_sPar, a_eVar, a_eC, a_eOp, a_eUn, a_eN, a_eSl2, a_eOwn, a_eTst, a_eIf, a_eIsi, a_mAnd, a_mOr, a_mNot, a_mYes, a_lCons, a_lNil, a_eTup, a_eLst, a_eCall, a_eCall0, a_eCallS, a_eCallK, a_eCallP, a_eLam, a_eM1, a_eM0, a_eNotV, a_eAndV, a_eOrV, a_eNoL, a_eClr, a_eSl, a_oSome, a_oNone, a_sFor, a_lSeq, a_lRng1, a_lRng2, a_lEnum, a_eDGet, a_eCl, a_eScIx, a_eScLen, a_eMeth, bind_k, List.length_cons, List.length_nil, List.cons_append, List.nil_append, List.append_nil, Nat.reduceAdd, Nat.reduceSub, Nat.sub_self, Nat.zero_add, Nat.sub_zero, List.replicate_succ, List.replicate_zero, List.take_succ_cons, List.take_zero, List.getElem?_cons_zero, List.getElem?_cons_succ, List.map_cons, List.map_nil, oOut, setV, getOb, setOb, List.set_cons_zero, List.set_cons_succ, reduceIte, outV, v1L, szOk, Nat.reduceLeDiff, Nat.zero_le, decide_true, eq_self, Sv.spc, Bool.false_eq_true, if_true, if_false, e0, e2, e3, Option.isSome_some]
    · rcases List.mem_append.mp hc2 with q | q
      · exact hc c q
      · rw [List.mem_singleton.mp q]
        exact List.mem_take_iff_getElem.mpr ⟨j, by omega, rfl⟩) (by rw [count_len]; omega) (ρ := [.io (.lst xs), .va (.int (n : Nat)), .va (.int (k : Nat)), .un]) ⟨.un, xs, [], rfl, rfl, rfl, h, rfl, fun _ z => by cases z⟩
  rw [count_len] at hl hj
  subst e1 e2
  have hj' : Jar f ys := hj.le (by omega)
  refine ⟨l, ys, ?_, hl, hc, hj'⟩
  have e4 : eLc (lRng1 (lCons (eVar 1) lNil)) (gmName 3) mYes (eOp vIx (eCall0 m__law_46_signs) (eCallS m__law_take 2 0 (lCons (eVar 2) lNil))) [3] [.io (.lst xs), .va (.int (n : Nat)), .va (.int (k : Nat)), .un] = .ok (.list (l.map T1), [.io (.lst ys), .va (.int (n : Nat)), .va (.int (k : Nat)), .un]) := by
    have e5 : lRng1 (lCons (eVar 1) lNil) [.io (.lst xs), .va (.int (n : Nat)), .va (.int (k : Nat)), .un] = .ok (countD 0 n, [.io (.lst xs), .va (.int (n : Nat)), .va (.int (k : Nat)), .un]) := rng_ok rfl hn
    unfold eLc
    rw [e5]
    show (runLc (fun d r => gmName 3 d (wipeS r [3])) mYes _ (countD 0 n) _ []).bind _ = _
    rw [e]
    rfl
  have j := join_T l (by omega)
  unfold m__law_46_drawn b__law_46_drawn
  simp only [a_mBody, a_mBodyN, a_sSeq, a_sIf, a_sRet, a_sSet, a_sNx, a_sSetIx, a_sOwn, a_sDrop, a_sAsgG, a_sPar, a_eVar, a_eC, a_eOp, a_eUn, a_eN, a_eSl2, a_eOwn, a_eTst, a_eIf, a_eIsi, a_mAnd, a_mOr, a_mNot, a_mYes, a_lCons, a_lNil, a_eTup, a_eLst, a_eCall, a_eCall0, a_eCallS, a_eCallK, a_eCallP, a_eLam, a_eM1, a_eM0, a_eNotV, a_eAndV, a_eOrV, a_eNoL, a_eClr, a_eSl, a_oSome, a_oNone, a_sFor, a_lSeq, a_lRng2, a_lEnum, a_eDGet, a_eCl, a_eScIx, a_eScLen, a_eMeth, bind_k, List.length_cons, List.length_nil, List.cons_append, List.nil_append, List.append_nil, Nat.reduceAdd, Nat.reduceSub, Nat.sub_self, Nat.zero_add, Nat.sub_zero, List.replicate_succ, List.replicate_zero, List.take_succ_cons, List.take_zero, List.getElem?_cons_zero, List.getElem?_cons_succ, List.map_cons, List.map_nil, oOut, setV, getOb, setOb, List.set_cons_zero, List.set_cons_succ, reduceIte, outV, v1L, szOk, Nat.reduceLeDiff, Nat.zero_le, decide_true, eq_self, Sv.spc, Bool.false_eq_true, if_true, if_false, e4, isStr, j]
end Mi

set_option Elab.async false
set_option linter.all false
set_option maxRecDepth 100000
set_option maxHeartbeats 4000000
namespace Mi
open PySem PySem.Spec PyProof.Rows L2
/-! ### what may be shown -/
theorem ok_repr {d : D} (h1 : d.showable = true) (h2 : d.hasDict = false) (h3 : d.depth ≤ 50) (h4 : d.leavesShort 8 = true) (h5 : d.weight ≤ 20000) : okRepr (.tuple [.str "told", d]) = true := by
  have e4 : (PyData.tuple [.str "told", d]).leavesShort 8 = true := by
    show (PyData.leavesShort 8 (.str "told") && (d.leavesShort 8 && true)) = true
    rw [h4]; decide +kernel
  have e5 : (PyData.tuple [.str "told", d]).weight ≤ 30000 := by
    have e : PyData.weight (.str "told") = 4 := by decide +kernel
    simp only [PyData.weight, PyData.weightAll] at *
    omega
  have e6 := PyData.shown_le 8 (by decide) _ e4
  have e7 : (PyData.tuple [.str "told", d]).shown.length ≤ sizeLine := by
    rw [sizeLine_eq]
    omega
  unfold okRepr
  rw [decide_eq_true e7]
  have e1 : (PyData.tuple [.str "told", d]).showable = true := by
    show (true && (d.showable && true)) = true
    rw [h1]; rfl
  have e2 : (PyData.tuple [.str "told", d]).hasDict = false := by
    show (false || (d.hasDict || false)) = false
    rw [h2]; rfl
  have e3 : (PyData.tuple [.str "told", d]).depth ≤ 60 := by
    show max 0 (max d.depth 0) + 1 ≤ 60
    omega
  rw [e1, e2, decide_eq_true e3]
  rfl
theorem num_one : ∀ c ∈ Wt, (num c).showable = true ∧ (num c).hasDict = false ∧ (num c).depth = 0 ∧ (num c).leavesShort 8 = true ∧ (num c).weight ≤ 6 ∧ c < 128 := by decide +kernel
theorem nums_all : ∀ l : List Nat, (∀ c ∈ l, c ∈ Wt) → PyData.showableAll (l.map num) = true ∧ PyData.hasDictAll (l.map num) = false ∧ PyData.depthAll (l.map num) = 0 ∧ PyData.leavesShortAll 8 (l.map num) = true ∧ PyData.weightAll (l.map num) ≤ 10 * l.length
  | [], _ => ⟨rfl, rfl, rfl, rfl, Nat.zero_le _⟩
  | c :: l, h => by
    obtain ⟨h1, h2, h3, h4, h5⟩ := nums_all l fun c hc => h c (List.mem_cons_of_mem _ hc)
    obtain ⟨g1, g2, g3, g4, g5, _⟩ := num_one c (h c List.mem_cons_self)
    refine ⟨?_, ?_, ?_, ?_, ?_⟩
    · show ((num c).showable && PyData.showableAll (l.map num)) = true
      rw [g1, h1]; rfl
    · show ((num c).hasDict || PyData.hasDictAll (l.map num)) = false
      rw [g2, h2]; rfl
    · show max (num c).depth (PyData.depthAll (l.map num)) = 0
      rw [g3, h3]; rfl
    · show ((num c).leavesShort 8 && PyData.leavesShortAll 8 (l.map num)) = true
      rw [g4, h4]; rfl
    · simp only [List.map_cons, PyData.weightAll, List.length_cons]
      omega
theorem T_short (l : List Nat) (h : ∀ c ∈ l, c ∈ Wt) : PyData.leavesShort 8 (T l) = true := by
  show (l.all fun c => decide (c < 16 ^ 8)) = true
  rw [List.all_eq_true]
  intro c hc
  have := (num_one c (h c hc)).2.2.2.2.2
  exact decide_eq_true (by omega)
theorem pair_ok {l : List Nat} (hl : l.length ≤ 1000) (h : ∀ c ∈ l, c ∈ Wt) : okRepr (.tuple [.str "told", .tuple [.tuple (l.map num), T l]]) = true ∧ okRepr (.tuple [.str "told", .tuple [T l, .tuple (l.map num)]]) = true := by
  obtain ⟨h1, h2, h3, h4, h5⟩ := nums_all l h
  have t := T_short l h
  have tw : PyData.weight (T l) = l.length := rfl
  refine ⟨ok_repr ?_ ?_ ?_ ?_ ?_, ok_repr ?_ ?_ ?_ ?_ ?_⟩
  · show (PyData.showableAll (l.map num) && (true && true)) = true
    rw [h1]; rfl
  · show (PyData.hasDictAll (l.map num) || (false || false)) = false
    rw [h2]; rfl
  · show max (PyData.depthAll (l.map num) + 1) (max 0 0) + 1 ≤ 50
    rw [h3]; decide
  · show (PyData.leavesShortAll 8 (l.map num) && (PyData.leavesShort 8 (T l) && true)) = true
    rw [h4, t]; rfl
  · simp only [PyData.weight, PyData.weightAll] at *
    omega
  · show (true && (PyData.showableAll (l.map num) && true)) = true
    rw [h1]; rfl
  · show (false || (PyData.hasDictAll (l.map num) || false)) = false
    rw [h2]; rfl
  · show max 0 (max (PyData.depthAll (l.map num) + 1) 0) + 1 ≤ 50
    rw [h3]; decide
  · show (PyData.leavesShort 8 (T l) && (PyData.leavesShortAll 8 (l.map num) && true)) = true
    rw [h4, t]; rfl
  · simp only [PyData.weight, PyData.weightAll] at *
    omega
theorem lam_is {mb : EM} {a : LM} {b : Bool} {ρ : List Sv} {d : D} (ha : a ρ = .ok ([d], ρ)) (hb : outV (mb (capL b ρ)) = .ok d) (hk : okRepr (.tuple [.str "told", d]) = true) : eLam m__law_is 2 b mb a ρ = .ok (.bool true, ρ) := by
  have e := is_ok hk
  simp only [a_eLam, ha, bind_k, hb, List.length_cons, List.length_nil, Nat.zero_add, Nat.reduceAdd, if_true, List.map_cons, List.map_nil, e]
theorem pick0 (d : D) : pick [0] [d] = [d] := rfl
/-! ### texts -/
def trB : SM := (sSeq (sSet 2 (eCallS m__law_46_drawn 3 0 (lCons (eVar 1) (lCons (eC (.int 39)) lNil))))
  (sSeq (sSet 3 (eCall m__law_46_numbers 1 (lCons (eVar 2) lNil)))
  (sSeq (sIf (mNot (eTst (eLam m__law_is 2 false (eTup (lCons (eCallK m_numbers_of 0 1 [0] lNil (lCons (eVar 2) lNil)) (lCons (eCallK m_text_of 0 1 [0] lNil (lCons (eVar 3) lNil)) lNil))) (lCons (eTup (lCons (eVar 3) (lCons (eVar 2) lNil))) lNil)))) (sRet (eC (.bool false))) sNx)
  (sIf (mNot (eTst (eLam m__law_is 2 false (eTup (lCons (eCall m_text_of 1 (lCons (eCall m_numbers_of 1 (lCons (eVar 2) lNil)) lNil)) (lCons (eCall m_numbers_of 1 (lCons (eCall m_text_of 1 (lCons (eVar 3) lNil)) lNil)) lNil))) (lCons (eTup (lCons (eVar 2) (lCons (eVar 3) lNil))) lNil)))) (sRet (eC (.bool false))) sNx))))
theorem texts_step {f n : Nat} {xs : List D} {x y : Sv} (hx : Sv.own x = false) (hy : Sv.own y = false) (h : Jar (f + 200) xs) (hn : n ≤ 200) : ∃ ys x' y', trB [.io (.lst xs), .va (.int (n : Nat)), x, y] = .ok (.nx, [.io (.lst ys), .va (.int (n : Nat)), x', y']) ∧ Sv.own x' = false ∧ Sv.own y' = false ∧ Jar f ys := by
  obtain ⟨l, ys, e1, hl, hc, hj⟩ := drawn_ok (k := 39) (n := n) (f := f) (h.le (by omega)) (by omega) (by decide) (by decide)
  have e1 : m__law_46_drawn [.io (.lst xs), .va (.int (n : Nat)), .va (.int 39)] = .ok (T l, [.io (.lst ys), .va (.int (n : Nat)), .va (.int 39)]) := e1
  have hc : ∀ c ∈ l, c ∈ Wt := fun c q => take_sub (hc c q)
  have hl : l.length ≤ 1000 := by omega
  have e2 := law_numbers_ok hl hc
  have e3 := numbers_of_ok hl hc
  have e4 := text_of_ok hl hc
  obtain ⟨k1, k2⟩ := pair_ok hl hc
  have s1 : sSet 2 (eCallS m__law_46_drawn 3 0 (lCons (eVar 1) (lCons (eC (.int 39)) lNil))) [.io (.lst xs), .va (.int (n : Nat)), x, y] = .ok (.nx, [.io (.lst ys), .va (.int (n : Nat)), .va (T l), y]) := by
    cases x <;> first | (cases hx; done) | simp only [a_mBody, a_mBodyN, a_sSeq, a_sIf, a_sRet, a_sSet, a_sNx, a_sSetIx, a_sOwn, a_sDrop, a_sAsgG, a_sPar, a_eVar, a_eC, a_eOp, a_eUn, a_eN, a_eSl2, a_eOwn, a_eTst, a_eIf, a_eIsi, a_mAnd, a_mOr, a_mNot, a_mYes, a_lCons, a_lNil, a_eTup, a_eLst, a_eCall, a_eCall0, a_eCallS, a_eCallK, a_eCallP, a_eLam, a_eM1, a_eM0, a_eNotV, a_eAndV, a_eOrV, a_eNoL, a_eClr, a_eSl, a_oSome, a_oNone, a_sFor, a_lSeq, a_lRng1, a_lRng2, a_lEnum, a_eDGet, a_eCl, a_eScIx, a_eScLen, a_eMeth, bind_k, List.length_cons, List.length_nil, List.cons_append, List.nil_append, List.append_nil, Nat.reduceAdd, Nat.reduceSub, Nat.sub_self, Nat.zero_add, Nat.sub_zero, List.replicate_succ, List.replicate_zero, List.take_succ_cons, List.take_zero, List.getElem?_cons_zero, List.getElem?_cons_succ, List.map_cons, List.map_nil, oOut, setV, getOb, setOb, List.set_cons_zero, List.set_cons_succ, reduceIte, outV, v1L, szOk, Nat.reduceLeDiff, Nat.zero_le, decide_true, eq_self, Sv.spc, Bool.false_eq_true, if_true, if_false, Option.isSome_some, e1]
  have s2 : sSet 3 (eCall m__law_46_numbers 1 (lCons (eVar 2) lNil)) [.io (.lst ys), .va (.int (n : Nat)), .va (T l), y] = .ok (.nx, [.io (.lst ys), .va (.int (n : Nat)), .va (T l), .va (.tuple (l.map num))]) := by
    cases y <;> first | (cases hy; done) | simp only [a_mBody, a_mBodyN, a_sSeq, a_sIf, a_sRet, a_sSet, a_sNx, a_sSetIx, a_sOwn, a_sDrop, a_sAsgG, a_sPar, a_eVar, a_eC, a_eOp, a_eUn, a_eN, a_eSl2, a_eOwn, a_eTst, a_eIf, a_eIsi, a_mAnd, a_mOr, a_mNot, a_mYes, a_lCons, a_lNil, a_eTup, a_eLst, a_eCall, a_eCall0, a_eCallS, a_eCallK, a_eCallP, a_eLam, a_eM1, a_eM0, a_eNotV, a_eAndV, a_eOrV, a_eNoL, a_eClr, a_eSl, a_oSome, a_oNone, a_sFor, a_lSeq, a_lRng1, a_lRng2, a_lEnum, a_eDGet, a_eCl, a_eScIx, a_eScLen, a_eMeth, bind_k, List.length_cons, List.length_nil, List.cons_append, List.nil_append, List.append_nil, Nat.reduceAdd, Nat.reduceSub, Nat.sub_self, Nat.zero_add, Nat.sub_zero, List.replicate_succ, List.replicate_zero, List.take_succ_cons, List.take_zero, List.getElem?_cons_zero, List.getElem?_cons_succ, List.map_cons, List.map_nil, oOut, setV, getOb, setOb, List.set_cons_zero, List.set_cons_succ, reduceIte, outV, v1L, szOk, Nat.reduceLeDiff, Nat.zero_le, decide_true, eq_self, Sv.spc, Bool.false_eq_true, if_true, if_false, e2]
  have s3 : eLam m__law_is 2 false (eTup (lCons (eCallK m_numbers_of 0 1 [0] lNil (lCons (eVar 2) lNil)) (lCons (eCallK m_text_of 0 1 [0] lNil (lCons (eVar 3) lNil)) lNil))) (lCons (eTup (lCons (eVar 3) (lCons (eVar 2) lNil))) lNil) [.io (.lst ys), .va (.int (n : Nat)), .va (T l), .va (.tuple (l.map num))] = .ok (.bool true, [.io (.lst ys), .va (.int (n : Nat)), .va (T l), .va (.tuple (l.map num))]) := by
    refine lam_is (d := .tuple [.tuple (l.map num), T l]) rfl ?_ k1
    simp only [a_mBody, a_mBodyN, a_sSeq, a_sIf, a_sRet, a_sSet, a_sNx, a_sSetIx, a_sOwn, a_sDrop, a_sAsgG, a_sPar, a_eVar, a_eC, a_eOp, a_eUn, a_eN, a_eSl2, a_eOwn, a_eTst, a_eIf, a_eIsi, a_mAnd, a_mOr, a_mNot, a_mYes, a_lCons, a_lNil, a_eTup, a_eLst, a_eCall, a_eCall0, a_eCallS, a_eCallK, a_eCallP, a_eLam, a_eM1, a_eM0, a_eNotV, a_eAndV, a_eOrV, a_eNoL, a_eClr, a_eSl, a_oSome, a_oNone, a_sFor, a_lSeq, a_lRng1, a_lRng2, a_lEnum, a_eDGet, a_eCl, a_eScIx, a_eScLen, a_eMeth, bind_k, List.length_cons, List.length_nil, List.cons_append, List.nil_append, List.append_nil, Nat.reduceAdd, Nat.reduceSub, Nat.sub_self, Nat.zero_add, Nat.sub_zero, List.replicate_succ, List.replicate_zero, List.take_succ_cons, List.take_zero, List.getElem?_cons_zero, List.getElem?_cons_succ, List.map_cons, List.map_nil, oOut, setV, getOb, setOb, List.set_cons_zero, List.set_cons_succ, reduceIte, outV, v1L, szOk, Nat.reduceLeDiff, Nat.zero_le, decide_true, eq_self, Sv.spc, Bool.false_eq_true, if_true, if_false, capL, capS, pick0, e3, e4, and_self]
  have s4 : eLam m__law_is 2 false (eTup (lCons (eCall m_text_of 1 (lCons (eCall m_numbers_of 1 (lCons (eVar 2) lNil)) lNil)) (lCons (eCall m_numbers_of 1 (lCons (eCall m_text_of 1 (lCons (eVar 3) lNil)) lNil)) lNil))) (lCons (eTup (lCons (eVar 2) (lCons (eVar 3) lNil))) lNil) [.io (.lst ys), .va (.int (n : Nat)), .va (T l), .va (.tuple (l.map num))] = .ok (.bool true, [.io (.lst ys), .va (.int (n : Nat)), .va (T l), .va (.tuple (l.map num))]) := by
    refine lam_is (d := .tuple [T l, .tuple (l.map num)]) rfl ?_ k2
    simp only [a_mBody, a_mBodyN, a_sSeq, a_sIf, a_sRet, a_sSet, a_sNx, a_sSetIx, a_sOwn, a_sDrop, a_sAsgG, a_sPar, a_eVar, a_eC, a_eOp, a_eUn, a_eN, a_eSl2, a_eOwn, a_eTst, a_eIf, a_eIsi, a_mAnd, a_mOr, a_mNot, a_mYes, a_lCons, a_lNil, a_eTup, a_eLst, a_eCall, a_eCall0, a_eCallS, a_eCallK, a_eCallP, a_eLam, a_eM1, a_eM0, a_eNotV, a_eAndV, a_eOrV, a_eNoL, a_eClr, a_eSl, a_oSome, a_oNone, a_sFor, a_lSeq, a_lRng1, a_lRng2, a_lEnum, a_eDGet, a_eCl, a_eScIx, a_eScLen, a_eMeth, bind_k, List.length_cons, List.length_nil, List.cons_append, List.nil_append, List.append_nil, Nat.reduceAdd, Nat.reduceSub, Nat.sub_self, Nat.zero_add, Nat.sub_zero, List.replicate_succ, List.replicate_zero, List.take_succ_cons, List.take_zero, List.getElem?_cons_zero, List.getElem?_cons_succ, List.map_cons, List.map_nil, oOut, setV, getOb, setOb, List.set_cons_zero, List.set_cons_succ, reduceIte, outV, v1L, szOk, Nat.reduceLeDiff, Nat.zero_le, decide_true, eq_self, Sv.spc, Bool.false_eq_true, if_true, if_false, capL, capS, e3, e4]
  refine ⟨ys, .va (T l), .va (.tuple (l.map num)), ?_, rfl, rfl, hj⟩
  unfold trB
  simp only [a_sSeq, s1, s2, a_sIf, a_mNot, a_eTst, s3, s4, bind_k, Bool.not_true, Bool.false_eq_true, if_false, a_sNx]
theorem texts_ok {f : Nat} {xs : List D} (h : Jar (f + 1001) xs) : ∃ ys, m__law_46_texts_right [.io (.lst xs)] = .ok (.bool true, [.io (.lst ys)]) ∧ Jar f ys := by
  obtain ⟨r, zs, e1, r0, r1, hj⟩ := take_jar (m := 13) (f := f + 1000) h (by decide) (by decide +kernel)
  obtain ⟨j, rfl⟩ := Int.eq_ofNat_of_zero_le r0
  obtain ⟨ρ', e, ys, x, y, z, rfl, hx, hy, hz, hj2⟩ := runFor_inv (g := gmName 1) (b := trB) (fun i ρ => ∃ ys x y z, ρ = [.io (.lst ys), x, y, z] ∧ Sv.own x = false ∧ Sv.own y = false ∧ Sv.own z = false ∧ Jar (f + (5 - i) * 200) ys) [.int 0, .int 1, .int (j : Nat), .int 12, .int 200] (fun i d ρ ei hI => by
    obtain ⟨ys, x, y, z, rfl, hx, hy, hz, hj⟩ := hI
    have hi : i < 5 := (List.getElem?_eq_some_iff.mp ei).1
    have hd : ∃ n : Nat, d = .int (n : Nat) ∧ n ≤ 200 := by
      rcases i with _ | _ | _ | _ | _ | i
      · cases ei; exact ⟨0, rfl, by decide⟩
      · cases ei; exact ⟨1, rfl, by decide⟩
      · cases ei; exact ⟨j, rfl, by omega⟩
      · cases ei; exact ⟨12, rfl, by decide⟩
      · cases ei; exact ⟨200, rfl, by decide⟩
      · omega
    obtain ⟨n, rfl, hn⟩ := hd
    obtain ⟨ws, x', y', e2, hx', hy', hj3⟩ := texts_step (f := f + (5 - (i + 1)) * 200) hy hz (hj.le (by omega)) hn
    refine ⟨[.io (.lst ys), .va (.int (n : Nat)), y, z], _, ?_, e2, ws, _, _, _, rfl, rfl, hx', hy', hj3⟩
    cases x <;> first | rfl | cases hx) (ρ := [.io (.lst zs), .un, .un, .un]) ⟨zs, .un, .un, .un, rfl, rfl, rfl, rfl, hj⟩
  refine ⟨ys, ?_, hj2.le (by omega)⟩
  have eb : b__law_46_texts_right = (sSeq (sFor (lSeq (eTup (lCons (eC (.int 0)) (lCons (eC (.int 1)) (lCons (eCallS m__law_take 2 0 (lCons (eC (.int 13)) lNil)) (lCons (eC (.int 12)) (lCons (eC (.int 200)) lNil))))))) (gmName 1) trB) (sRet (eC (.bool true)))) := rfl
  have e1 : m__law_take [.io (.lst xs), .va (.int 13)] = .ok (.int (j : Nat), [.io (.lst zs), .va (.int 13)]) := e1
  unfold m__law_46_texts_right
  rw [eb]
  simp only [a_mBody, a_mBodyN, a_sSeq, a_sIf, a_sRet, a_sSet, a_sNx, a_sSetIx, a_sOwn, a_sDrop, a_sAsgG, a_sPar, a_eVar, a_eC, a_eOp, a_eUn, a_eN, a_eSl2, a_eOwn, a_eTst, a_eIf, a_eIsi, a_mAnd, a_mOr, a_mNot, a_mYes, a_lCons, a_lNil, a_eTup, a_eLst, a_eCall, a_eCall0, a_eCallS, a_eCallK, a_eCallP, a_eLam, a_eM1, a_eM0, a_eNotV, a_eAndV, a_eOrV, a_eNoL, a_eClr, a_eSl, a_oSome, a_oNone, a_sFor, a_lSeq, a_lRng1, a_lRng2, a_lEnum, a_eDGet, a_eCl, a_eScIx, a_eScLen, a_eMeth, bind_k, List.length_cons, List.length_nil, List.cons_append, List.nil_append, List.append_nil, Nat.reduceAdd, Nat.reduceSub, Nat.sub_self, Nat.zero_add, Nat.sub_zero, List.replicate_succ, List.replicate_zero, List.take_succ_cons, List.take_zero, List.getElem?_cons_zero, List.getElem?_cons_succ, List.map_cons, List.map_nil, oOut, setV, getOb, setOb, List.set_cons_zero, List.set_cons_succ, reduceIte, outV, v1L, szOk, Nat.reduceLeDiff, Nat.zero_le, decide_true, eq_self, Sv.spc, Bool.false_eq_true, if_true, if_false, Option.isSome_some, e1, itemsOf, e]
end Mi

set_option Elab.async false
set_option linter.all false
set_option maxRecDepth 100000
set_option maxHeartbeats 4000000
namespace Mi
open PySem PySem.Spec PyProof.Rows L2
/-! ### slices, sums of texts -/
theorem slice_ok {z : Str} (hz : z.length ≤ 1000) (lo hi : Option Int) : ∃ u : Str, vSl (.str z) lo hi = .ok (.str u) ∧ u.length ≤ z.length ∧ ∀ c ∈ u.cps.toList, c ∈ z.cps.toList := by
  refine ⟨cutS z lo hi, if_pos (Nat.le_trans hz (by decide +kernel)), ?_, ?_⟩
  · show (List.take _ (List.drop _ z.cps.toList)).toArray.size ≤ _
    rw [List.size_toArray]
    refine Nat.le_trans (List.length_take_le' _ _) ?_
    rw [List.length_drop, Array.length_toList]
    exact Nat.sub_le _ _
  · intro c hc
    exact List.mem_of_mem_drop (List.mem_of_mem_take hc)
theorem sadd_ok {x y : Str} (h : x.length + y.length ≤ 1000) : vAdd (.str x) (.str y) = .ok (.str (x ++ y)) := if_pos (Nat.le_trans h (by decide +kernel))
theorem sadd_len (x y : Str) : (x ++ y).length = x.length + y.length := Array.size_append
theorem sadd_mem {x y : Str} {c : Nat} (h : c ∈ (x ++ y).cps.toList) : c ∈ x.cps.toList ∨ c ∈ y.cps.toList := by
  have h : c ∈ (x.cps ++ y.cps).toList := h
  rw [Array.toList_append] at h
  exact List.mem_append.mp h
/-! ### order -/
theorem eqv_nums : ∀ l1 l2 : List Nat, (∀ c ∈ l1, c ∈ Wt) → (∀ c ∈ l2, c ∈ Wt) → PyData.eqvAll (l1.map num) (l2.map num) = decide (l1 = l2)
  | [], [], _, _ => rfl
  | [], _ :: _, _, _ => rfl
  | _ :: _, [], _, _ => rfl
  | a :: l1, b :: l2, h1, h2 => by
    show ((((Wt.idxOf a : Nat) : Int) == ((Wt.idxOf b : Nat) : Int)) && PyData.eqvAll (l1.map num) (l2.map num)) = _
    rw [eqv_nums l1 l2 (fun c hc => h1 c (List.mem_cons_of_mem _ hc)) (fun c hc => h2 c (List.mem_cons_of_mem _ hc))]
    have ha := idx_get a (h1 a List.mem_cons_self)
    have hb := idx_get b (h2 b List.mem_cons_self)
    by_cases q : a = b
    · subst q
      simp
    · have : ¬ ((Wt.idxOf a : Nat) : Int) = (Wt.idxOf b : Nat) := fun z => q (by
        have z : Wt.idxOf a = Wt.idxOf b := by omega
        rw [z, hb] at ha
        cases ha; rfl)
      rw [beq_eq_false_iff_ne.mpr this, Bool.false_and, decide_eq_false (fun z => q (List.cons.inj z).1)]
theorem lay_nums : ∀ l : List Nat, PyData.canLayAll0 (l.map num) = true
  | [] => rfl
  | c :: l => by
    show (true && PyData.canLayAll0 (l.map num)) = true
    rw [lay_nums l]; rfl
theorem shaped_nums (l : List Nat) (h : ∀ c ∈ l, c ∈ Wt) : SeqAt.shaped (.tuple (l.map num)) = true := by
  show (PyData.canLayAll0 (l.map num) && decide (PyData.depthAll (l.map num) + 1 ≤ 64)) = true
  rw [lay_nums, (nums_all l h).2.2.1]; rfl
theorem eq_nums {l1 l2 : List Nat} (h1 : ∀ c ∈ l1, c ∈ Wt) (h2 : ∀ c ∈ l2, c ∈ Wt) : vEq (.tuple (l1.map num)) (.tuple (l2.map num)) = .ok (.bool (decide (l1 = l2))) := by
  show (if (SeqAt.shaped _ && SeqAt.shaped _) = true then Out.ok (PyData.bool (false ^^ PyData.eqvAll _ _)) else .bad) = _
  rw [shaped_nums l1 h1, shaped_nums l2 h2, eqv_nums l1 l2 h1 h2]
  simp
theorem eq_T (l1 l2 : List Nat) : vEq (T l1) (T l2) = .ok (.bool (decide (l1 = l2))) := by
  show Out.ok (PyData.bool (false ^^ decide ((⟨l1.toArray⟩ : Str) = ⟨l2.toArray⟩))) = _
  rw [Bool.false_xor]
  congr 2
  exact decide_eq_decide.mpr ⟨fun z => by cases z; rfl, fun z => by rw [z]⟩
theorem ints_nums : ∀ l : List Nat, intsOf (l.map num) = some (l.map fun c => ((Wt.idxOf c : Nat) : Int))
  | [] => rfl
  | c :: l => by
    show (intsOf (l.map num)).map _ = _
    rw [ints_nums l]; rfl
def ltN (l1 l2 : List Nat) : Bool := HT.lexLt (l1.map fun c => ((Wt.idxOf c : Nat) : Int)) (l2.map fun c => ((Wt.idxOf c : Nat) : Int))
theorem lt_nums (l1 l2 : List Nat) : vLt (.tuple (l1.map num)) (.tuple (l2.map num)) = .ok (.bool (ltN l1 l2)) := by
  show (oOut (intsOf _)).bind (fun ns => (oOut (intsOf _)).bind fun ms => _) = _
  rw [ints_nums, ints_nums]; rfl
/-- a name's signs -/
def Nm (l : List Nat) : Prop := 1 ≤ l.length ∧ l.length ≤ 12 ∧ ∀ c ∈ l, c ∈ W38
theorem Nm.wt {l : List Nat} (h : Nm l) : ∀ c ∈ l, c ∈ Wt := fun c hc => List.mem_of_mem_take (i := 38) (h.2.2 c hc)
theorem Nm.isN {l : List Nat} (h : Nm l) : isN (T l) = true := by
  show ((decide (1 ≤ l.length) && decide (l.length ≤ 12)) && l.all (fun c => decide (c ∈ W38))) = true
  rw [decide_eq_true h.1, decide_eq_true h.2.1, List.all_eq_true.mpr fun c hc => decide_eq_true (h.2.2 c hc)]
  rfl
theorem Gd_T {l : List Nat} (hl : l.length ≤ 1000) (h : ∀ c ∈ l, c ∈ Wt) : Gd (T l) := fun z e => by
  cases e
  exact ⟨hl, fun c hc => (num_one c (h c hc)).2.2.2.2.2⟩
theorem str_T (z : Str) : (.str z : D) = T z.cps.toList := by cases z; rfl
theorem bools5 : ∀ a b c : Bool, okRepr (.tuple [.str "told", .list [.bool a, .bool b, .bool c, .bool true, .bool true]]) = true := by decide +kernel
theorem order_ok {f : Nat} {xs : List D} (h : Jar (f + 18) xs) : ∃ ys, m__law_46_order_right [.io (.lst xs)] = .ok (.bool true, [.io (.lst ys)]) ∧ Jar f ys := by
  obtain ⟨r, x1, e1, r0, r1, j1⟩ := take_jar (m := 11) (f := f + 17) h (by decide) (by decide +kernel)
  obtain ⟨r, rfl⟩ := Int.eq_ofNat_of_zero_le r0
  obtain ⟨l1, x2, e2, hl1, hc1, j2⟩ := drawn_ok (k := 38) (n := 1 + r) (f := f + 6) (j1.le (by omega)) (by omega) (by decide) (by decide)
  obtain ⟨l3, x3, e3, hl3, hc3, j3⟩ := drawn_ok (k := 38) (n := 5) (f := f + 1) j2 (by omega) (by decide) (by decide)
  have n1 : Nm l1 := ⟨by omega, by omega, hc1⟩
  obtain ⟨u, eu, hu, mu⟩ := slice_ok (z := ⟨l1.toArray⟩) (show l1.length ≤ 1000 by omega) none (some (-1))
  obtain ⟨v, ev, hv, mv⟩ := slice_ok (z := ⟨l1.toArray⟩) (show l1.length ≤ 1000 by omega) (some 1) none
  have hu : u.length ≤ 11 := Nat.le_trans hu (show l1.length ≤ 11 by omega)
  have hv : v.length ≤ 11 := Nat.le_trans hv (show l1.length ≤ 11 by omega)
  have hl : (⟨l1.toArray⟩ : Str).length ≤ 11 := show l1.length ≤ 11 by omega
  have k1 : Str.length "-" = 1 := by decide +kernel
  have k2 : Str.length "z" = 1 := by decide +kernel
  have k3 : Str.length "0" = 1 := by decide +kernel
  have a1 := sadd_ok (x := ⟨l1.toArray⟩) (y := "-") (by omega)
  have a2 := sadd_ok (x := u) (y := "-") (by omega)
  have a3 := sadd_ok (x := "z") (y := v) (by omega)
  have a4 := sadd_ok (x := "0") (y := v) (by omega)
  obtain ⟨d, x4, e4, hd, j4⟩ := one_jar (f := f) (ds := [.str (⟨l1.toArray⟩ ++ "-"), .str (u ++ "-"), .str ("z" ++ v), .str ("0" ++ v), T l3]) j3 (by simp) (show 5 < 2 ^ 60 by decide)
  have nd : ∃ l2, d = T l2 ∧ Nm l2 := by
    have c1 : ∀ c ∈ (Str.cps "-").toList, c ∈ W38 := by decide +kernel
    have c2 : ∀ c ∈ (Str.cps "z").toList, c ∈ W38 := by decide +kernel
    have c3 : ∀ c ∈ (Str.cps "0").toList, c ∈ W38 := by decide +kernel
    have key : ∀ x y : Str, 1 ≤ x.length + y.length → x.length + y.length ≤ 12 → (∀ c ∈ x.cps.toList, c ∈ W38) → (∀ c ∈ y.cps.toList, c ∈ W38) → ∃ l2, (.str (x ++ y) : D) = T l2 ∧ Nm l2 := fun x y q1 q2 q3 q4 => by
      have q5 := sadd_len x y
      have q6 : (x ++ y).cps.toList.length = (x ++ y).length := Array.length_toList
      exact ⟨_, str_T _, by omega, by omega, fun c hc => (sadd_mem hc).elim (q3 c) (q4 c)⟩
    simp only [List.mem_cons, List.not_mem_nil, or_false] at hd
    rcases hd with rfl | rfl | rfl | rfl | rfl
    · exact key _ _ (by omega) (by omega) hc1 c1
    · exact key _ _ (by omega) (by omega) (fun c hc => hc1 c (mu c hc)) c1
    · exact key _ _ (by omega) (by omega) c2 (fun c hc => hc1 c (mv c hc))
    · exact key _ _ (by omega) (by omega) c3 (fun c hc => hc1 c (mv c hc))
    · exact ⟨l3, rfl, by omega, by omega, hc3⟩
  obtain ⟨l2, rfl, n2⟩ := nd
  refine ⟨x4, ?_, j4⟩
  have w1 := law_numbers_ok (show l1.length ≤ 1000 by omega) n1.wt
  have w2 := law_numbers_ok (show l2.length ≤ 1000 from Nat.le_trans n2.2.1 (by decide)) n2.wt
  have v1 := numbers_of_ok (show l1.length ≤ 1000 by omega) n1.wt
  have v2 := numbers_of_ok (show l2.length ≤ 1000 from Nat.le_trans n2.2.1 (by decide)) n2.wt
  have i1 := is_name_ok (Gd_T (show l1.length ≤ 1000 by omega) n1.wt)
  have i2 := is_name_ok (Gd_T (show l2.length ≤ 1000 from Nat.le_trans n2.2.1 (by decide)) n2.wt)
  rw [n1.isN] at i1
  rw [n2.isN] at i2
  have e1 : m__law_take [.io (.lst xs), .va (.int 11)] = .ok (.int (r : Nat), [.io (.lst x1), .va (.int 11)]) := e1
  have p1 : vAdd (.int 1) (.int (r : Nat)) = .ok (.int ((1 + r : Nat) : Int)) := by
    show Out.ok (PyData.int (1 + (r : Int))) = _
    rw [show (1 : Int) + (r : Int) = ((1 + r : Nat) : Int) by omega]
  have e2 : m__law_46_drawn [.io (.lst x1), .va (.int ((1 + r : Nat) : Int)), .va (.int 38)] = .ok (T l1, [.io (.lst x2), .va (.int ((1 + r : Nat) : Int)), .va (.int 38)]) := e2
  have e3 : m__law_46_drawn [.io (.lst x2), .va (.int 5), .va (.int 38)] = .ok (T l3, [.io (.lst x3), .va (.int 5), .va (.int 38)]) := e3
  have ng : vNeg (.int 1) = .ok (.int (-1)) := rfl
  have s1 : sSet 1 (eCallS m__law_46_drawn 3 0 (lCons (eOp vAdd (eC (.int 1)) (eCallS m__law_take 2 0 (lCons (eC (.int 11)) lNil))) (lCons (eC (.int 38)) lNil))) [.io (.lst xs), .un, .un, .un, .un] = .ok (.nx, [.io (.lst x2), .va (T l1), .un, .un, .un]) := by
    simp only [a_mBody, a_mBodyN, a_sSeq, a_sIf, a_sRet, a_sSet, a_sNx, a_sSetIx, a_sOwn, a_sDrop, a_sAsgG, a_sPar, a_eVar, a_eC, a_eOp, a_eUn, a_eN, a_eSl2, a_eOwn, a_eTst, a_eIf, a_eIsi, a_mAnd, a_mOr, a_mNot, a_mYes, a_lCons, a_lNil, a_eTup, a_eLst, a_eCall, a_eCall0, a_eCallS, a_eCallK, a_eCallP, a_eLam, a_eM1, a_eM0, a_eNotV, a_eAndV, a_eOrV, a_eNoL, a_eClr, a_eSl, a_oSome, a_oNone, a_sFor, a_lSeq, a_lRng1, a_lRng2, a_lEnum, a_eDGet, a_eCl, a_eScIx, a_eScLen, a_eMeth, bind_k, List.length_cons, List.length_nil, List.cons_append, List.nil_append, List.append_nil, Nat.reduceAdd, Nat.reduceSub, Nat.sub_self, Nat.zero_add, Nat.sub_zero, List.replicate_succ, List.replicate_zero, List.take_succ_cons, List.take_zero, List.getElem?_cons_zero, List.getElem?_cons_succ, List.map_cons, List.map_nil, oOut, setV, getOb, setOb, List.set_cons_zero, List.set_cons_succ, reduceIte, outV, v1L, szOk, Nat.reduceLeDiff, Nat.zero_le, decide_true, eq_self, Sv.spc, Bool.false_eq_true, if_true, if_false, Option.isSome_some, e1, p1, e2]
  have s2 : sSet 2 (eCallS m__law_one 2 0 (lCons (eLst (lCons (eOp vAdd (eVar 1) (eC (.str "-"))) (lCons (eOp vAdd (eSl vSl (eVar 1) oNone (oSome (eUn vNeg (eC (.int 1))))) (eC (.str "-"))) (lCons (eOp vAdd (eC (.str "z")) (eSl vSl (eVar 1) (oSome (eC (.int 1))) oNone)) (lCons (eOp vAdd (eC (.str "0")) (eSl vSl (eVar 1) (oSome (eC (.int 1))) oNone)) (lCons (eCallS m__law_46_drawn 3 0 (lCons (eC (.int 5)) (lCons (eC (.int 38)) lNil))) lNil)))))) lNil)) [.io (.lst x2), .va (T l1), .un, .un, .un] = .ok (.nx, [.io (.lst x4), .va (T l1), .va (T l2), .un, .un]) := by
    simp only [a_mBody, a_mBodyN, a_sSeq, a_sIf, a_sRet, a_sSet, a_sNx, a_sSetIx, a_sOwn, a_sDrop, a_sAsgG, a_sPar, a_eVar, a_eC, a_eOp, a_eUn, a_eN, a_eSl2, a_eOwn, a_eTst, a_eIf, a_eIsi, a_mAnd, a_mOr, a_mNot, a_mYes, a_lCons, a_lNil, a_eTup, a_eLst, a_eCall, a_eCall0, a_eCallS, a_eCallK, a_eCallP, a_eLam, a_eM1, a_eM0, a_eNotV, a_eAndV, a_eOrV, a_eNoL, a_eClr, a_eSl, a_oSome, a_oNone, a_sFor, a_lSeq, a_lRng1, a_lRng2, a_lEnum, a_eDGet, a_eCl, a_eScIx, a_eScLen, a_eMeth, bind_k, List.length_cons, List.length_nil, List.cons_append, List.nil_append, List.append_nil, Nat.reduceAdd, Nat.reduceSub, Nat.sub_self, Nat.zero_add, Nat.sub_zero, List.replicate_succ, List.replicate_zero, List.take_succ_cons, List.take_zero, List.getElem?_cons_zero, List.getElem?_cons_succ, List.map_cons, List.map_nil, oOut, setV, getOb, setOb, List.set_cons_zero, List.set_cons_succ, reduceIte, outV, v1L, szOk, Nat.reduceLeDiff, Nat.zero_le, decide_true, eq_self, Sv.spc, Bool.false_eq_true, if_true, if_false, Option.isSome_some, a1, a2, a3, a4, ng, eu, ev, e3, e4]
  have s3 : eLam m__law_is 2 false (eLst (lCons (eOp vLt (eCall m_numbers_of 1 (lCons (eVar 1) lNil)) (eCall m_numbers_of 1 (lCons (eVar 2) lNil))) (lCons (eOp vLt (eCall m_numbers_of 1 (lCons (eVar 2) lNil)) (eCall m_numbers_of 1 (lCons (eVar 1) lNil))) (lCons (eOp vEq (eCall m_numbers_of 1 (lCons (eVar 1) lNil)) (eCall m_numbers_of 1 (lCons (eVar 2) lNil))) (lCons (eCall m_is_name 1 (lCons (eVar 1) lNil)) (lCons (eCallK m_is_name 0 1 [0] lNil (lCons (eVar 2) lNil)) lNil)))))) (lCons (eVar 4) lNil) [.io (.lst x4), .va (T l1), .va (T l2), .va (.tuple [.tuple (l1.map num), .tuple (l2.map num)]), .va (.list [.bool (ltN l1 l2), .bool (ltN l2 l1), .bool (decide (l1 = l2)), .bool true, .bool true])] = .ok (.bool true, [.io (.lst x4), .va (T l1), .va (T l2), .va (.tuple [.tuple (l1.map num), .tuple (l2.map num)]), .va (.list [.bool (ltN l1 l2), .bool (ltN l2 l1), .bool (decide (l1 = l2)), .bool true, .bool true])]) := by
    refine lam_is (d := .list [.bool (ltN l1 l2), .bool (ltN l2 l1), .bool (decide (l1 = l2)), .bool true, .bool true]) rfl ?_ (bools5 _ _ _)
    simp only [a_mBody, a_mBodyN, a_sSeq, a_sIf, a_sRet, a_sSet, a_sNx, a_sSetIx, a_sOwn, a_sDrop, a_sAsgG, a_sPar, a_eVar, a_eC, a_eOp, a_eUn, a_eN, a_eSl2, a_eOwn, a_eTst, a_eIf, a_eIsi, a_mAnd, a_mOr, a_mNot, a_mYes, a_lCons, a_lNil, a_eTup, a_eLst, a_eCall, a_eCall0, a_eCallS, a_eCallK, a_eCallP, a_eLam, a_eM1, a_eM0, a_eNotV, a_eAndV, a_eOrV, a_eNoL, a_eClr, a_eSl, a_oSome, a_oNone, a_sFor, a_lSeq, a_lRng1, a_lRng2, a_lEnum, a_eDGet, a_eCl, a_eScIx, a_eScLen, a_eMeth, bind_k, List.length_cons, List.length_nil, List.cons_append, List.nil_append, List.append_nil, Nat.reduceAdd, Nat.reduceSub, Nat.sub_self, Nat.zero_add, Nat.sub_zero, List.replicate_succ, List.replicate_zero, List.take_succ_cons, List.take_zero, List.getElem?_cons_zero, List.getElem?_cons_succ, List.map_cons, List.map_nil, oOut, setV, getOb, setOb, List.set_cons_zero, List.set_cons_succ, reduceIte, outV, v1L, szOk, Nat.reduceLeDiff, Nat.zero_le, decide_true, eq_self, Sv.spc, Bool.false_eq_true, if_true, if_false, capL, capS, pick0, v1, v2, i1, i2, lt_nums, eq_nums n1.wt n2.wt, and_self]
  have x0 : ∀ a b : D, vIx (.tuple [a, b]) (.int 0) = .ok a := fun _ _ => rfl
  have x1 : ∀ a b : D, vIx (.tuple [a, b]) (.int 1) = .ok b := fun _ _ => rfl
  unfold m__law_46_order_right b__law_46_order_right
  simp only [a_mBody, List.length_cons, List.length_nil, Nat.zero_add, Nat.reduceAdd, Nat.reduceSub, List.replicate_succ, List.replicate_zero, List.cons_append, List.nil_append, a_sSeq, s1, s2, bind_k]
  have s4 : sSet 3 (eTup (lCons (eCall m__law_46_numbers 1 (lCons (eVar 1) lNil)) (lCons (eCall m__law_46_numbers 1 (lCons (eVar 2) lNil)) lNil))) [.io (.lst x4), .va (T l1), .va (T l2), .un, .un] = .ok (.nx, [.io (.lst x4), .va (T l1), .va (T l2), .va (.tuple [.tuple (l1.map num), .tuple (l2.map num)]), .un]) := by
    simp only [a_mBody, a_mBodyN, a_sSeq, a_sIf, a_sRet, a_sSet, a_sNx, a_sSetIx, a_sOwn, a_sDrop, a_sAsgG, a_sPar, a_eVar, a_eC, a_eOp, a_eUn, a_eN, a_eSl2, a_eOwn, a_eTst, a_eIf, a_eIsi, a_mAnd, a_mOr, a_mNot, a_mYes, a_lCons, a_lNil, a_eTup, a_eLst, a_eCall, a_eCall0, a_eCallS, a_eCallK, a_eCallP, a_eLam, a_eM1, a_eM0, a_eNotV, a_eAndV, a_eOrV, a_eNoL, a_eClr, a_eSl, a_oSome, a_oNone, a_sFor, a_lSeq, a_lRng1, a_lRng2, a_lEnum, a_eDGet, a_eCl, a_eScIx, a_eScLen, a_eMeth, bind_k, List.length_cons, List.length_nil, List.cons_append, List.nil_append, List.append_nil, Nat.reduceAdd, Nat.reduceSub, Nat.sub_self, Nat.zero_add, Nat.sub_zero, List.replicate_succ, List.replicate_zero, List.take_succ_cons, List.take_zero, List.getElem?_cons_zero, List.getElem?_cons_succ, List.map_cons, List.map_nil, oOut, setV, getOb, setOb, List.set_cons_zero, List.set_cons_succ, reduceIte, outV, v1L, szOk, Nat.reduceLeDiff, Nat.zero_le, decide_true, eq_self, Sv.spc, Bool.false_eq_true, if_true, if_false, w1, w2]
  have s5 : sSet 4 (eLst (lCons (eOp vLt (eOp vIx (eVar 3) (eC (.int 0))) (eOp vIx (eVar 3) (eC (.int 1)))) (lCons (eOp vLt (eOp vIx (eVar 3) (eC (.int 1))) (eOp vIx (eVar 3) (eC (.int 0)))) (lCons (eOp vEq (eVar 1) (eVar 2)) (lCons (eC (.bool true)) (lCons (eC (.bool true)) lNil)))))) [.io (.lst x4), .va (T l1), .va (T l2), .va (.tuple [.tuple (l1.map num), .tuple (l2.map num)]), .un] = .ok (.nx, [.io (.lst x4), .va (T l1), .va (T l2), .va (.tuple [.tuple (l1.map num), .tuple (l2.map num)]), .va (.list [.bool (ltN l1 l2), .bool (ltN l2 l1), .bool (decide (l1 = l2)), .bool true, .bool true])]) := by
    simp only [a_mBody, a_mBodyN, a_sSeq, a_sIf, a_sRet, a_sSet, a_sNx, a_sSetIx, a_sOwn, a_sDrop, a_sAsgG, a_sPar, a_eVar, a_eC, a_eOp, a_eUn, a_eN, a_eSl2, a_eOwn, a_eTst, a_eIf, a_eIsi, a_mAnd, a_mOr, a_mNot, a_mYes, a_lCons, a_lNil, a_eTup, a_eLst, a_eCall, a_eCall0, a_eCallS, a_eCallK, a_eCallP, a_eLam, a_eM1, a_eM0, a_eNotV, a_eAndV, a_eOrV, a_eNoL, a_eClr, a_eSl, a_oSome, a_oNone, a_sFor, a_lSeq, a_lRng1, a_lRng2, a_lEnum, a_eDGet, a_eCl, a_eScIx, a_eScLen, a_eMeth, bind_k, List.length_cons, List.length_nil, List.cons_append, List.nil_append, List.append_nil, Nat.reduceAdd, Nat.reduceSub, Nat.sub_self, Nat.zero_add, Nat.sub_zero, List.replicate_succ, List.replicate_zero, List.take_succ_cons, List.take_zero, List.getElem?_cons_zero, List.getElem?_cons_succ, List.map_cons, List.map_nil, oOut, setV, getOb, setOb, List.set_cons_zero, List.set_cons_succ, reduceIte, outV, v1L, szOk, Nat.reduceLeDiff, Nat.zero_le, decide_true, eq_self, Sv.spc, Bool.false_eq_true, if_true, if_false, x0, x1, lt_nums, eq_T]
  simp only [s4, s5, bind_k, a_sRet, s3, List.take_succ_cons, List.take_zero]
end Mi

set_option Elab.async false
set_option linter.all false
set_option maxRecDepth 100000
set_option maxHeartbeats 4000000
namespace Mi
open PySem PySem.Spec PyProof.Rows L2
/-- a text that may be asked -/
def Gs (k : Nat) (z : Str) : Prop := z.length ≤ k ∧ ∀ c ∈ z.cps.toList, c < 128
theorem Gs.gd {k : Nat} {z : Str} (h : Gs k z) (hk : k ≤ 1000) : Gd (.str z) := fun w e => by
  cases e; exact ⟨Nat.le_trans h.1 hk, h.2⟩
theorem Gs.add {k j : Nat} {x y : Str} (h : Gs k x) (h' : Gs j y) : Gs (k + j) (x ++ y) :=
  ⟨by rw [sadd_len]; exact Nat.add_le_add h.1 h'.1, fun c hc => (sadd_mem hc).elim (h.2 c) (h'.2 c)⟩
theorem Gs.sl {k : Nat} {z : Str} (h : Gs k z) (hk : k ≤ 1000) (lo hi : Option Int) : ∃ u, vSl (.str z) lo hi = .ok (.str u) ∧ Gs k u := by
  obtain ⟨u, e, h1, h2⟩ := slice_ok (Nat.le_trans h.1 hk) lo hi
  exact ⟨u, e, Nat.le_trans h1 h.1, fun c hc => h.2 c (h2 c hc)⟩
theorem Gd_no {d : D} (h : ∀ z, d ≠ .str z) : Gd d := fun z e => absurd e (h z)
def othersL : List D := match m__law_46_others [] with | .ok (.list xs, _) => xs | _ => []
def okO : D → Bool
  | .str z => decide (z.length ≤ 2) && z.cps.toList.all fun c => decide (c < 128)
  | _ => false
theorem others_eq : m__law_46_others [] = .ok (.list othersL, []) := by kernel_rfl
theorem others_all : othersL.all okO = true := by kernel_rfl
theorem others_len : othersL.length = 33 := by kernel_rfl
theorem others_ok {d : D} (h : d ∈ othersL) : ∃ z, d = .str z ∧ Gs 2 z := by
  have q := List.all_eq_true.mp others_all d h
  cases d with
  | str z =>
    have q : (decide (z.length ≤ 2) && z.cps.toList.all fun c => decide (c < 128)) = true := q
    obtain ⟨q1, q2⟩ := Bool.and_eq_true_iff.mp q
    exact ⟨z, rfl, of_decide_eq_true q1, fun c hc => of_decide_eq_true (List.all_eq_true.mp q2 c hc)⟩
  | _ => cases q
theorem upper_one : ∀ c ∈ Wt, ((Unicode.upperOf c).length = 1 ∧ ∀ d ∈ Unicode.upperOf c, d < 128) := by decide +kernel
theorem mapIdx_c {α β : Type} (f : α → β) : ∀ l : List α, l.mapIdx (fun _ c => f c) = l.map f := by
  intro l
  apply List.ext_getElem?
  intro i
  simp
theorem up_eq (l : List Nat) : (Txt.upper ⟨l.toArray⟩).cps.toList = (l.map Unicode.upperOf).flatten := by
  show (((l.toArray).mapIdx fun _ c => (Unicode.upperOf c).toArray).flatten).toList = _
  rw [List.mapIdx_toArray, mapIdx_c]
  simp
  try (rw [List.flatMap_def])
  try rfl
theorem up_len (g : Nat → List Nat) : ∀ l : List Nat, (∀ c ∈ l, (g c).length = 1 ∧ ∀ d ∈ g c, d < 128) → (l.map g).flatten.length = l.length ∧ ∀ d ∈ (l.map g).flatten, d < 128
  | [], _ => ⟨rfl, fun _ z => by cases z⟩
  | c :: l, h => by
    obtain ⟨h1, h2⟩ := up_len g l fun c hc => h c (List.mem_cons_of_mem _ hc)
    obtain ⟨g1, g2⟩ := h c List.mem_cons_self
    rw [List.map_cons, List.flatten_cons]
    refine ⟨by rw [List.length_append, h1, g1, List.length_cons]; omega, fun d hd => ?_⟩
    rcases List.mem_append.mp hd with q | q
    · exact g2 d q
    · exact h2 d q
theorem upper_ok {l : List Nat} (hl : l.length ≤ 12) (h : ∀ c ∈ l, c ∈ Wt) : ∃ u, vsUpper (T l) = .ok (.str u) ∧ Gs 12 u := by
  refine ⟨Txt.upper ⟨l.toArray⟩, if_pos (Nat.le_trans hl (by decide +kernel)), ?_⟩
  have e := up_eq l
  obtain ⟨h1, h2⟩ := up_len Unicode.upperOf l fun c hc => upper_one c (h c hc)
  refine ⟨?_, fun c hc => h2 c (e ▸ hc)⟩
  show (Txt.upper ⟨l.toArray⟩).cps.size ≤ 12
  rw [← Array.length_toList, e, h1]
  exact hl
theorem Nm.gs {l : List Nat} (h : Nm l) : Gs 12 ⟨l.toArray⟩ := ⟨h.2.1, fun c hc => (num_one c (h.wt c hc)).2.2.2.2.2⟩
theorem drawn_gs {l : List Nat} {n : Nat} (hl : l.length = n) (h : ∀ c ∈ l, c ∈ Wt) : Gs n ⟨l.toArray⟩ := ⟨by rw [← hl]; exact Nat.le_refl _, fun c hc => (num_one c (h c hc)).2.2.2.2.2⟩
theorem pw30 : ∃ P, ∀ ρ : List Sv, eOp vPow (eC (.int 10)) (eC (.int 30)) ρ = .ok (.int P, ρ) := by
  refine ⟨10 ^ (30 : Int).toNat, fun ρ => ?_⟩
  have h : powB 10 30 = true := by decide
  show ((if powB 10 30 = true then Out.ok (PyData.int (10 ^ (30 : Int).toNat)) else .bad).bind fun z => .ok (z, ρ)) = _
  rw [if_pos h]
  rfl
def thB (P : EM) : SM := (sSeq (sSet 1 (eCallS m__law_46_drawn 3 0 (lCons (eOp vAdd (eC (.int 1)) (eCallS m__law_take 2 0 (lCons (eC (.int 12)) lNil))) (lCons (eC (.int 38)) lNil))))
  (sSeq (sPar 2 3 (lCons (eCallS m__law_take 2 0 (lCons (eN (v1L vLen) (lCons (eVar 1) lNil)) lNil)) (lCons (eCallS m__law_one 2 0 (lCons (eCall0 m__law_46_others) lNil)) lNil)))
  (sSeq (sOwn 4 (eLst (lCons (eVar 1) (lCons (eOp vAdd (eOp vAdd (eSl vSl (eVar 1) oNone (oSome (eVar 2))) (eVar 3)) (eSl vSl (eVar 1) (oSome (eOp vAdd (eVar 2) (eC (.int 1)))) oNone)) (lCons (eOp vAdd (eSl vSl (eVar 1) oNone (oSome (eC (.int 11)))) (eVar 3)) (lCons (eVar 3) (lCons (eOp vAdd (eVar 1) (eC (.str " "))) (lCons (eOp vAdd (eC (.str " ")) (eVar 1)) (lCons (eM0 vsUpper (eVar 1)) lNil)))))))))
  (sSeq (sDrop (eMeth gExtend 4 (lCons (eLst (lCons (eCallS m__law_46_drawn 3 0 (lCons (eC (.int 12)) (lCons (eC (.int 38)) lNil))) (lCons (eCallS m__law_46_drawn 3 0 (lCons (eC (.int 13)) (lCons (eC (.int 38)) lNil))) (lCons (eCallS m__law_46_drawn 3 0 (lCons (eC (.int 400)) (lCons (eC (.int 38)) lNil))) (lCons (eOp vAdd (eC (.str "/")) (eSl vSl (eVar 1) oNone (oSome (eC (.int 5))))) lNil))))) lNil)))
  (sSeq (sSet 5 (eVar 1))
  (sSeq (sFor (lRng1 (lCons (eCallS m__law_one 2 0 (lCons (eLst (lCons (eC (.int 1)) (lCons (eC (.int 2)) (lCons (eC (.int 49)) lNil)))) lNil)) lNil)) (gmName 6) (sSet 5 (eTup (lCons (eVar 5) lNil))))
  (sRet (eOp vAdd (eOwn 4) (eLst (lCons (eC (.str "")) (lCons (eC .none) (lCons (eC (.int 0)) (lCons (eC (.int 5)) (lCons (eC (.bool true)) (lCons (eC (.bool false)) (lCons (eTup (lCons (eVar 1) lNil)) (lCons (eTup lNil) (lCons (eVar 5) (lCons (eN (v1L vTuple) (lCons (eLc (lSeq (eVar 1)) (gmName 7) mYes (eVar 7) [7]) lNil)) (lCons (eUn vNeg (eC (.int 1))) (lCons P lNil)))))))))))))))))))))
theorem thB_eq : b__law_46_things = thB (eOp vPow (eC (.int 10)) (eC (.int 30))) := rfl
theorem things_ok {f : Nat} {xs : List D} (h : Jar (f + 500) xs) : ∃ ds ys, m__law_46_things [.io (.lst xs)] = .ok (.list ds, [.io (.lst ys)]) ∧ (∀ d ∈ ds, Gd d) ∧ Jar f ys := by
  obtain ⟨P, hP⟩ := pw30
  obtain ⟨r, x1, e1, r0, r1, j1⟩ := take_jar (m := 12) (f := f + 499) h (by decide) (by decide +kernel)
  obtain ⟨r, rfl⟩ := Int.eq_ofNat_of_zero_le r0
  obtain ⟨l, x2, e2, hl, hc, j2⟩ := drawn_ok (k := 38) (n := 1 + r) (f := f + 480) (j1.le (by omega)) (by omega) (by decide) (by decide)
  have nm : Nm l := ⟨by omega, by omega, hc⟩
  obtain ⟨a, x3, e3, a0, a1, j3⟩ := take_jar (m := (l.length : Int)) (f := f + 479) j2 (by omega) (lt_big (k := 10) (by omega) (by decide))
  obtain ⟨o, x4, e4, ho, j4⟩ := one_jar (f := f + 478) (ds := othersL) j3 (by intro z; have := others_len; rw [z] at this; cases this) (by rw [others_len]; decide)
  obtain ⟨o, rfl, go⟩ := others_ok ho
  obtain ⟨l6, x5, e5, hl6, hc6, j5⟩ := drawn_ok (k := 38) (n := 12) (f := f + 466) j4 (by omega) (by decide) (by decide)
  obtain ⟨l7, x6, e6, hl7, hc7, j6⟩ := drawn_ok (k := 38) (n := 13) (f := f + 453) j5 (by omega) (by decide) (by decide)
  obtain ⟨l8, x7, e7, hl8, hc8, j7⟩ := drawn_ok (k := 38) (n := 400) (f := f + 53) j6 (by omega) (by decide) (by decide)
  obtain ⟨m, x8, e8, hm, j8⟩ := one_jar (f := f + 52) (ds := [.int 1, .int 2, .int 49]) j7 (by simp) (show 3 < 2 ^ 60 by decide)
  have gn := nm.gs
  obtain ⟨u1, eu1, gu1⟩ := gn.sl (by decide) none (some a)
  obtain ⟨u2, eu2, gu2⟩ := gn.sl (by decide) (some (a + 1)) none
  obtain ⟨u3, eu3, gu3⟩ := gn.sl (by decide) none (some 11)
  obtain ⟨u4, eu4, gu4⟩ := gn.sl (by decide) none (some 5)
  obtain ⟨up, eup, gup⟩ := upper_ok nm.2.1 nm.wt
  have gb : Gs 1 (" " : Str) := ⟨by decide +kernel, by decide +kernel⟩
  have gk : Gs 1 ("/" : Str) := ⟨by decide +kernel, by decide +kernel⟩
  have add : ∀ {k j : Nat} {x y : Str}, Gs k x → Gs j y → k + j ≤ 1000 → vAdd (.str x) (.str y) = .ok (.str (x ++ y)) := fun h1 h2 h3 => sadd_ok (Nat.le_trans (Nat.add_le_add h1.1 h2.1) h3)
  have v1 := add gu1 go (by decide)
  have v2 := add (gu1.add go) gu2 (by decide)
  have v3 := add gu3 go (by decide)
  have v4 := add gn gb (by decide)
  have v5 := add gb gn (by decide)
  have v6 := add gk gu4 (by decide)
  have hlen : vLen (T l) = .ok (.int l.length) := if_pos (Nat.le_trans nm.2.1 (by decide +kernel))
  have pa : vAdd (.int a) (.int 1) = .ok (.int (a + 1)) := rfl
  have p1 : vAdd (.int 1) (.int (r : Nat)) = .ok (.int ((1 + r : Nat) : Int)) := by
    show Out.ok (PyData.int (1 + (r : Int))) = _
    rw [show (1 : Int) + (r : Int) = ((1 + r : Nat) : Int) by omega]
  have e1 : m__law_take [.io (.lst xs), .va (.int 12)] = .ok (.int (r : Nat), [.io (.lst x1), .va (.int 12)]) := e1
  have e2 : m__law_46_drawn [.io (.lst x1), .va (.int ((1 + r : Nat) : Int)), .va (.int 38)] = .ok (T l, [.io (.lst x2), .va (.int ((1 + r : Nat) : Int)), .va (.int 38)]) := e2
  have e5 : m__law_46_drawn [.io (.lst x4), .va (.int 12), .va (.int 38)] = .ok (T l6, [.io (.lst x5), .va (.int 12), .va (.int 38)]) := e5
  have e6 : m__law_46_drawn [.io (.lst x5), .va (.int 13), .va (.int 38)] = .ok (T l7, [.io (.lst x6), .va (.int 13), .va (.int 38)]) := e6
  have e7 : m__law_46_drawn [.io (.lst x6), .va (.int 400), .va (.int 38)] = .ok (T l8, [.io (.lst x7), .va (.int 400), .va (.int 38)]) := e7
  let made : List D := [T l, .str (u1 ++ o ++ u2), .str (u3 ++ o), .str o, .str (⟨l.toArray⟩ ++ " "), .str (" " ++ ⟨l.toArray⟩), .str up]
  let made2 : List D := made ++ [T l6, T l7, T l8, .str ("/" ++ u4)]
  have s1 : sSet 1 (eCallS m__law_46_drawn 3 0 (lCons (eOp vAdd (eC (.int 1)) (eCallS m__law_take 2 0 (lCons (eC (.int 12)) lNil))) (lCons (eC (.int 38)) lNil))) [.io (.lst xs), .un, .un, .un, .un, .un, .un, .un] = .ok (.nx, [.io (.lst x2), .va (T l), .un, .un, .un, .un, .un, .un]) := by
    simp only [a_mBody, a_mBodyN, a_sSeq, a_sIf, a_sRet, a_sSet, a_sNx, a_sSetIx, a_sOwn, a_sDrop, a_sAsgG, a_sPar, a_eVar, a_eC, a_eOp, a_eUn, a_eN, a_eSl2, a_eOwn, a_eTst, a_eIf, a_eIsi, a_mAnd, a_mOr, a_mNot, a_mYes, a_lCons, a_lNil, a_eTup, a_eLst, a_eCall, a_eCall0, a_eCallS, a_eCallK, a_eCallP, a_eLam, a_eM1, a_eM0, a_eNotV, a_eAndV, a_eOrV, a_eNoL, a_eClr, a_eSl, a_oSome, a_oNone, a_sFor, a_lSeq, a_lRng1, a_lRng2, a_lEnum, a_eDGet, a_eCl, a_eScIx, a_eScLen, a_eMeth, bind_k, List.length_cons, List.length_nil, List.cons_append, List.nil_append, List.append_nil, Nat.reduceAdd, Nat.reduceSub, Nat.sub_self, Nat.zero_add, Nat.sub_zero, List.replicate_succ, List.replicate_zero, List.take_succ_cons, List.take_zero, List.getElem?_cons_zero, List.getElem?_cons_succ, List.map_cons, List.map_nil, oOut, setV, getOb, setOb, List.set_cons_zero, List.set_cons_succ, reduceIte, outV, v1L, szOk, Nat.reduceLeDiff, Nat.zero_le, decide_true, eq_self, Sv.spc, Bool.false_eq_true, if_true, if_false, Option.isSome_some, e1, p1, e2]
  have s2 : sPar 2 3 (lCons (eCallS m__law_take 2 0 (lCons (eN (v1L vLen) (lCons (eVar 1) lNil)) lNil)) (lCons (eCallS m__law_one 2 0 (lCons (eCall0 m__law_46_others) lNil)) lNil)) [.io (.lst x2), .va (T l), .un, .un, .un, .un, .un, .un] = .ok (.nx, [.io (.lst x4), .va (T l), .va (.int a), .va (.str o), .un, .un, .un, .un]) := by
    simp only [a_mBody, a_mBodyN, a_sSeq, a_sIf, a_sRet, a_sSet, a_sNx, a_sSetIx, a_sOwn, a_sDrop, a_sAsgG, a_sPar, a_eVar, a_eC, a_eOp, a_eUn, a_eN, a_eSl2, a_eOwn, a_eTst, a_eIf, a_eIsi, a_mAnd, a_mOr, a_mNot, a_mYes, a_lCons, a_lNil, a_eTup, a_eLst, a_eCall, a_eCall0, a_eCallS, a_eCallK, a_eCallP, a_eLam, a_eM1, a_eM0, a_eNotV, a_eAndV, a_eOrV, a_eNoL, a_eClr, a_eSl, a_oSome, a_oNone, a_sFor, a_lSeq, a_lRng1, a_lRng2, a_lEnum, a_eDGet, a_eCl, a_eScIx, a_eScLen, a_eMeth, bind_k, List.length_cons, List.length_nil, List.cons_append, List.nil_append, List.append_nil, Nat.reduceAdd, Nat.reduceSub, Nat.sub_self, Nat.zero_add, Nat.sub_zero, List.replicate_succ, List.replicate_zero, List.take_succ_cons, List.take_zero, List.getElem?_cons_zero, List.getElem?_cons_succ, List.map_cons, List.map_nil, oOut, setV, getOb, setOb, List.set_cons_zero, List.set_cons_succ, reduceIte, outV, v1L, szOk, Nat.reduceLeDiff, Nat.zero_le, decide_true, eq_self, Sv.spc, Bool.false_eq_true, if_true, if_false, Option.isSome_some, hlen, e3, others_eq, e4]
  have s3 : sOwn 4 (eLst (lCons (eVar 1) (lCons (eOp vAdd (eOp vAdd (eSl vSl (eVar 1) oNone (oSome (eVar 2))) (eVar 3)) (eSl vSl (eVar 1) (oSome (eOp vAdd (eVar 2) (eC (.int 1)))) oNone)) (lCons (eOp vAdd (eSl vSl (eVar 1) oNone (oSome (eC (.int 11)))) (eVar 3)) (lCons (eVar 3) (lCons (eOp vAdd (eVar 1) (eC (.str " "))) (lCons (eOp vAdd (eC (.str " ")) (eVar 1)) (lCons (eM0 vsUpper (eVar 1)) lNil)))))))) [.io (.lst x4), .va (T l), .va (.int a), .va (.str o), .un, .un, .un, .un] = .ok (.nx, [.io (.lst x4), .va (T l), .va (.int a), .va (.str o), .ow (.lst made), .un, .un, .un]) := by
    have hn : noLs made = true := rfl
    simp only [a_mBody, a_mBodyN, a_sSeq, a_sIf, a_sRet, a_sSet, a_sNx, a_sSetIx, a_sOwn, a_sDrop, a_sAsgG, a_sPar, a_eVar, a_eC, a_eOp, a_eUn, a_eN, a_eSl2, a_eOwn, a_eTst, a_eIf, a_eIsi, a_mAnd, a_mOr, a_mNot, a_mYes, a_lCons, a_lNil, a_eTup, a_eLst, a_eCall, a_eCall0, a_eCallS, a_eCallK, a_eCallP, a_eLam, a_eM1, a_eM0, a_eNotV, a_eAndV, a_eOrV, a_eNoL, a_eClr, a_eSl, a_oSome, a_oNone, a_sFor, a_lSeq, a_lRng1, a_lRng2, a_lEnum, a_eDGet, a_eCl, a_eScIx, a_eScLen, a_eMeth, bind_k, List.length_cons, List.length_nil, List.cons_append, List.nil_append, List.append_nil, Nat.reduceAdd, Nat.reduceSub, Nat.sub_self, Nat.zero_add, Nat.sub_zero, List.replicate_succ, List.replicate_zero, List.take_succ_cons, List.take_zero, List.getElem?_cons_zero, List.getElem?_cons_succ, List.map_cons, List.map_nil, oOut, setV, getOb, setOb, List.set_cons_zero, List.set_cons_succ, reduceIte, outV, v1L, szOk, Nat.reduceLeDiff, Nat.zero_le, decide_true, eq_self, Sv.spc, Bool.false_eq_true, if_true, if_false, isStr, pa, eu1, eu2, eu3, eup, v1, v2, v3, v4, v5]
    rfl
  have s4 : sDrop (eMeth gExtend 4 (lCons (eLst (lCons (eCallS m__law_46_drawn 3 0 (lCons (eC (.int 12)) (lCons (eC (.int 38)) lNil))) (lCons (eCallS m__law_46_drawn 3 0 (lCons (eC (.int 13)) (lCons (eC (.int 38)) lNil))) (lCons (eCallS m__law_46_drawn 3 0 (lCons (eC (.int 400)) (lCons (eC (.int 38)) lNil))) (lCons (eOp vAdd (eC (.str "/")) (eSl vSl (eVar 1) oNone (oSome (eC (.int 5))))) lNil))))) lNil)) [.io (.lst x4), .va (T l), .va (.int a), .va (.str o), .ow (.lst made), .un, .un, .un] = .ok (.nx, [.io (.lst x7), .va (T l), .va (.int a), .va (.str o), .ow (.lst made2), .un, .un, .un]) := by
    simp only [a_mBody, a_mBodyN, a_sSeq, a_sIf, a_sRet, a_sSet, a_sNx, a_sSetIx, a_sOwn, a_sDrop, a_sAsgG, a_sPar, a_eVar, a_eC, a_eOp, a_eUn, a_eN, a_eSl2, a_eOwn, a_eTst, a_eIf, a_eIsi, a_mAnd, a_mOr, a_mNot, a_mYes, a_lCons, a_lNil, a_eTup, a_eLst, a_eCall, a_eCall0, a_eCallS, a_eCallK, a_eCallP, a_eLam, a_eM1, a_eM0, a_eNotV, a_eAndV, a_eOrV, a_eNoL, a_eClr, a_eSl, a_oSome, a_oNone, a_sFor, a_lSeq, a_lRng1, a_lRng2, a_lEnum, a_eDGet, a_eCl, a_eScIx, a_eScLen, a_eMeth, bind_k, List.length_cons, List.length_nil, List.cons_append, List.nil_append, List.append_nil, Nat.reduceAdd, Nat.reduceSub, Nat.sub_self, Nat.zero_add, Nat.sub_zero, List.replicate_succ, List.replicate_zero, List.take_succ_cons, List.take_zero, List.getElem?_cons_zero, List.getElem?_cons_succ, List.map_cons, List.map_nil, oOut, setV, getOb, setOb, List.set_cons_zero, List.set_cons_succ, reduceIte, outV, v1L, szOk, Nat.reduceLeDiff, Nat.zero_le, decide_true, eq_self, Sv.spc, Bool.false_eq_true, if_true, if_false, Option.isSome_some, e5, e6, e7, eu4, v6, isLst]
    rfl
  have s5 : sSet 5 (eVar 1) [.io (.lst x7), .va (T l), .va (.int a), .va (.str o), .ow (.lst made2), .un, .un, .un] = .ok (.nx, [.io (.lst x7), .va (T l), .va (.int a), .va (.str o), .ow (.lst made2), .va (T l), .un, .un]) := rfl
  have hm2 : ∃ n : Nat, m = .int (n : Nat) ∧ n ≤ 49 := by
    simp only [List.mem_cons, List.not_mem_nil, or_false] at hm
    rcases hm with rfl | rfl | rfl
    · exact ⟨1, rfl, by decide⟩
    · exact ⟨2, rfl, by decide⟩
    · exact ⟨49, rfl, by decide⟩
  obtain ⟨n, rfl, hn⟩ := hm2
  obtain ⟨ρ', e9, dp, s, rfl, hs, gdp⟩ := runFor_inv (g := gmName 6) (b := sSet 5 (eTup (lCons (eVar 5) lNil))) (fun i ρ => ∃ d s, ρ = [.io (.lst x8), .va (T l), .va (.int a), .va (.str o), .ow (.lst made2), .va d, s, .un] ∧ Sv.own s = false ∧ Gd d) (countD 0 n) (fun i d ρ ei hI => by
    obtain ⟨dp, s, rfl, hs, g⟩ := hI
    refine ⟨[.io (.lst x8), .va (T l), .va (.int a), .va (.str o), .ow (.lst made2), .va dp, .va d, .un], _, ?_, rfl, .tuple [dp], .va d, rfl, rfl, Gd_no fun z e => by cases e⟩
    cases s <;> first | rfl | cases hs) (ρ := [.io (.lst x8), .va (T l), .va (.int a), .va (.str o), .ow (.lst made2), .va (T l), .un, .un]) ⟨T l, .un, rfl, rfl, gn.gd (by decide)⟩
  have s6 : sFor (lRng1 (lCons (eCallS m__law_one 2 0 (lCons (eLst (lCons (eC (.int 1)) (lCons (eC (.int 2)) (lCons (eC (.int 49)) lNil)))) lNil)) lNil)) (gmName 6) (sSet 5 (eTup (lCons (eVar 5) lNil))) [.io (.lst x7), .va (T l), .va (.int a), .va (.str o), .ow (.lst made2), .va (T l), .un, .un] = .ok (.nx, [.io (.lst x8), .va (T l), .va (.int a), .va (.str o), .ow (.lst made2), .va dp, s, .un]) := by
    have q : lRng1 (lCons (eCallS m__law_one 2 0 (lCons (eLst (lCons (eC (.int 1)) (lCons (eC (.int 2)) (lCons (eC (.int 49)) lNil)))) lNil)) lNil) [.io (.lst x7), .va (T l), .va (.int a), .va (.str o), .ow (.lst made2), .va (T l), .un, .un] = .ok (countD 0 n, [.io (.lst x8), .va (T l), .va (.int a), .va (.str o), .ow (.lst made2), .va (T l), .un, .un]) := rng_ok (by simp only [a_mBody, a_mBodyN, a_sSeq, a_sIf, a_sRet, a_sSet, a_sNx, a_sSetIx, a_sOwn, a_sDrop, a_sAsgG, a_sPar, a_eVar, a_eC, a_eOp, a_eUn, a_eN, a_eSl2, a_eOwn, a_eTst, a_eIf, a_eIsi, a_mAnd, a_mOr, a_mNot, a_mYes, a_lCons, a_lNil, a_eTup, a_eLst, a_eCall, a_eCall0, a_eCallS, a_eCallK, a_eCallP, a_eLam, a_eM1, a_eM0, a_eNotV, a_eAndV, a_eOrV, a_eNoL, a_eClr, a_eSl, a_oSome, a_oNone, a_sFor, a_lSeq, a_lRng1, a_lRng2, a_lEnum, a_eDGet, a_eCl, a_eScIx, a_eScLen, a_eMeth, bind_k, List.length_cons, List.length_nil, List.cons_append, List.nil_append, List.append_nil, Nat.reduceAdd, Nat.reduceSub, Nat.sub_self, Nat.zero_add, Nat.sub_zero, List.replicate_succ, List.replicate_zero, List.take_succ_cons, List.take_zero, List.getElem?_cons_zero, List.getElem?_cons_succ, List.map_cons, List.map_nil, oOut, setV, getOb, setOb, List.set_cons_zero, List.set_cons_succ, reduceIte, outV, v1L, szOk, Nat.reduceLeDiff, Nat.zero_le, decide_true, eq_self, Sv.spc, Bool.false_eq_true, if_true, if_false, Option.isSome_some, e8]) (by omega)
    rw [a_sFor, q, bind_k]
    exact e9
  have e10 := eLc_map (i := lSeq (eVar 1)) (m := eVar 7) (ρ := [.io (.lst x8), .va (T l), .va (.int a), .va (.str o), .ow (.lst made2), .va dp, s, .un]) (l := l) (e := T1) (f := T1) 7 (s := .un) rfl rfl rfl (fun c hc => rfl) (by omega)
  let last : List D := [.str "", .none, .int 0, .int 5, .bool true, .bool false, .tuple [T l], .tuple [], dp, .tuple (l.map T1), .int (-1), .int P]
  have s7 : sRet (eOp vAdd (eOwn 4) (eLst (lCons (eC (.str "")) (lCons (eC .none) (lCons (eC (.int 0)) (lCons (eC (.int 5)) (lCons (eC (.bool true)) (lCons (eC (.bool false)) (lCons (eTup (lCons (eVar 1) lNil)) (lCons (eTup lNil) (lCons (eVar 5) (lCons (eN (v1L vTuple) (lCons (eLc (lSeq (eVar 1)) (gmName 7) mYes (eVar 7) [7]) lNil)) (lCons (eUn vNeg (eC (.int 1))) (lCons (eOp vPow (eC (.int 10)) (eC (.int 30))) lNil)))))))))))))) [.io (.lst x8), .va (T l), .va (.int a), .va (.str o), .ow (.lst made2), .va dp, s, .un] = .ok (.rt (.list (made2 ++ last)), [.io (.lst x8), .va (T l), .va (.int a), .va (.str o), .ow (.lst made2), .va dp, s, .un]) := by
    have ng : vNeg (.int 1) = .ok (.int (-1)) := rfl
    generalize eOp vPow (eC (.int 10)) (eC (.int 30)) = P' at hP
    simp only [a_mBody, a_mBodyN, a_sSeq, a_sIf, a_sRet, a_sSet, a_sNx, a_sSetIx, a_sOwn, a_sDrop, a_sAsgG, a_sPar, a_eVar, a_eC, a_eOp, a_eUn, a_eN, a_eSl2, a_eOwn, a_eTst, a_eIf, a_eIsi, a_mAnd, a_mOr, a_mNot, a_mYes, a_lCons, a_lNil, a_eTup, a_eLst, a_eCall, a_eCall0, a_eCallS, a_eCallK, a_eCallP, a_eLam, a_eM1, a_eM0, a_eNotV, a_eAndV, a_eOrV, a_eNoL, a_eClr, a_eSl, a_oSome, a_oNone, a_sFor, a_lSeq, a_lRng1, a_lRng2, a_lEnum, a_eDGet, a_eCl, a_eScIx, a_eScLen, a_eMeth, bind_k, List.length_cons, List.length_nil, List.cons_append, List.nil_append, List.append_nil, Nat.reduceAdd, Nat.reduceSub, Nat.sub_self, Nat.zero_add, Nat.sub_zero, List.replicate_succ, List.replicate_zero, List.take_succ_cons, List.take_zero, List.getElem?_cons_zero, List.getElem?_cons_succ, List.map_cons, List.map_nil, oOut, setV, getOb, setOb, List.set_cons_zero, List.set_cons_succ, reduceIte, outV, v1L, szOk, Nat.reduceLeDiff, Nat.zero_le, decide_true, eq_self, Sv.spc, Bool.false_eq_true, if_true, if_false, e10, vTuple, ng, hP]
    rfl
  refine ⟨made2 ++ last, x8, ?_, ?_, j8.le (by omega)⟩
  · unfold m__law_46_things b__law_46_things
    simp only [a_mBody, List.length_cons, List.length_nil, Nat.zero_add, Nat.reduceAdd, Nat.reduceSub, List.replicate_succ, List.replicate_zero, List.cons_append, List.nil_append, a_sSeq, s1, s2, s3, s4, s5, s6, s7, bind_k, List.take_succ_cons, List.take_zero]
  · intro d hd
    simp only [made2, made, last, List.mem_append, List.mem_cons, List.not_mem_nil, or_false] at hd
    have no : ∀ {d : D}, (∀ z, d ≠ .str z) → Gd d := Gd_no
    rcases hd with ((rfl | rfl | rfl | rfl | rfl | rfl | rfl) | (rfl | rfl | rfl | rfl)) | (rfl | rfl | rfl | rfl | rfl | rfl | rfl | rfl | rfl | rfl | rfl | rfl)
    · exact gn.gd (by decide)
    · exact ((gu1.add go).add gu2).gd (by decide)
    · exact (gu3.add go).gd (by decide)
    · exact go.gd (by decide)
    · exact (gn.add gb).gd (by decide)
    · exact (gb.add gn).gd (by decide)
    · exact gup.gd (by decide)
    · exact (drawn_gs hl6 fun c q => take_sub (hc6 c q)).gd (by decide)
    · exact (drawn_gs hl7 fun c q => take_sub (hc7 c q)).gd (by decide)
    · exact (drawn_gs hl8 fun c q => take_sub (hc8 c q)).gd (by decide)
    · exact (gk.add gu4).gd (by decide)
    · exact (show Gs 0 ("" : Str) from ⟨by decide +kernel, by decide +kernel⟩).gd (by decide)
    · exact no fun z e => by cases e
    · exact no fun z e => by cases e
    · exact no fun z e => by cases e
    · exact no fun z e => by cases e
    · exact no fun z e => by cases e
    · exact no fun z e => by cases e
    · exact no fun z e => by cases e
    · exact gdp
    · exact no fun z e => by cases e
    · exact no fun z e => by cases e
    · exact no fun z e => by cases e
end Mi

set_option Elab.async false
set_option linter.all false
set_option maxRecDepth 100000
set_option maxHeartbeats 4000000
namespace Mi
open PySem PySem.Spec PyProof.Rows L2
theorem bool_ok : ∀ b : Bool, okRepr (.tuple [.str "told", .bool b]) = true := by decide +kernel
/-! ### each thing of a row -/
def askB : SM := (sIf (mNot (eTst (eLam m__law_is 2 false (eCall m_is_name 1 (lCons (eVar 3) lNil)) (lCons (eCall m__law_46_is_name 1 (lCons (eVar 3) lNil)) lNil)))) (sRet (eC (.bool false))) sNx)
theorem ask_ok {ns : List Int} {o : Ob} {x y : Sv} {d : D} {r : List Sv} (h : Gd d) : askB (.sc ns :: .ow o :: x :: .va d :: r) = .ok (.nx, .sc ns :: .ow o :: x :: .va d :: r) := by
  have i1 := is_name_ok h
  have i2 := law_is_name_ok h
  have e : eLam m__law_is 2 false (eCall m_is_name 1 (lCons (eVar 3) lNil)) (lCons (eCall m__law_46_is_name 1 (lCons (eVar 3) lNil)) lNil) (.sc ns :: .ow o :: x :: .va d :: r) = .ok (.bool true, .sc ns :: .ow o :: x :: .va d :: r) := by
    refine lam_is (d := .bool (isN d)) ?_ ?_ (bool_ok _)
    · simp only [a_mBody, a_mBodyN, a_sSeq, a_sIf, a_sRet, a_sSet, a_sNx, a_sSetIx, a_sOwn, a_sDrop, a_sAsgG, a_sPar, a_eVar, a_eC, a_eOp, a_eUn, a_eN, a_eSl2, a_eOwn, a_eTst, a_eIf, a_eIsi, a_mAnd, a_mOr, a_mNot, a_mYes, a_lCons, a_lNil, a_eTup, a_eLst, a_eCall, a_eCall0, a_eCallS, a_eCallK, a_eCallP, a_eLam, a_eM1, a_eM0, a_eNotV, a_eAndV, a_eOrV, a_eNoL, a_eClr, a_eSl, a_oSome, a_oNone, a_sFor, a_lSeq, a_lRng1, a_lRng2, a_lEnum, a_eDGet, a_eCl, a_eScIx, a_eScLen, a_eMeth, bind_k, List.length_cons, List.length_nil, List.cons_append, List.nil_append, List.append_nil, Nat.reduceAdd, Nat.reduceSub, Nat.sub_self, Nat.zero_add, Nat.sub_zero, List.replicate_succ, List.replicate_zero, List.take_succ_cons, List.take_zero, List.getElem?_cons_zero, List.getElem?_cons_succ, List.map_cons, List.map_nil, oOut, setV, getOb, setOb, List.set_cons_zero, List.set_cons_succ, reduceIte, outV, v1L, szOk, Nat.reduceLeDiff, Nat.zero_le, decide_true, eq_self, Sv.spc, Bool.false_eq_true, if_true, if_false, i2]
    · simp only [a_mBody, a_mBodyN, a_sSeq, a_sIf, a_sRet, a_sSet, a_sNx, a_sSetIx, a_sOwn, a_sDrop, a_sAsgG, a_sPar, a_eVar, a_eC, a_eOp, a_eUn, a_eN, a_eSl2, a_eOwn, a_eTst, a_eIf, a_eIsi, a_mAnd, a_mOr, a_mNot, a_mYes, a_lCons, a_lNil, a_eTup, a_eLst, a_eCall, a_eCall0, a_eCallS, a_eCallK, a_eCallP, a_eLam, a_eM1, a_eM0, a_eNotV, a_eAndV, a_eOrV, a_eNoL, a_eClr, a_eSl, a_oSome, a_oNone, a_sFor, a_lSeq, a_lRng1, a_lRng2, a_lEnum, a_eDGet, a_eCl, a_eScIx, a_eScLen, a_eMeth, bind_k, List.length_cons, List.length_nil, List.cons_append, List.nil_append, List.append_nil, Nat.reduceAdd, Nat.reduceSub, Nat.sub_self, Nat.zero_add, Nat.sub_zero, List.replicate_succ, List.replicate_zero, List.take_succ_cons, List.take_zero, List.getElem?_cons_zero, List.getElem?_cons_succ, List.map_cons, List.map_nil, oOut, setV, getOb, setOb, List.set_cons_zero, List.set_cons_succ, reduceIte, outV, v1L, szOk, Nat.reduceLeDiff, Nat.zero_le, decide_true, eq_self, Sv.spc, Bool.false_eq_true, if_true, if_false, capL, capS, i1]
  unfold askB
  simp only [a_sIf, a_mNot, a_eTst, e, bind_k, Bool.not_true, Bool.false_eq_true, if_false, a_sNx]
def goB : SM := (sSeq (sFor (lSeq (eCallS m__law_46_things 1 1 lNil)) (gmName 3) askB)
  (sIf (mOr (mNot (eTst (eCallS m__law_46_texts_right 1 1 lNil))) (mNot (eTst (eCallS m__law_46_order_right 1 1 lNil)))) (sRet (eC (.bool false))) sNx))
theorem go_ok {ns : List Int} {f : Nat} {xs : List D} {x y : Sv} {r : List Sv} (hy : Sv.own y = false) (h : Jar (f + 1600) xs) : ∃ ys y', goB (.sc ns :: .ow (.lst xs) :: x :: y :: r) = .ok (.nx, .sc ns :: .ow (.lst ys) :: x :: y' :: r) ∧ Sv.own y' = false ∧ Jar f ys := by
  obtain ⟨ds, x1, e1, hd, j1⟩ := things_ok (f := f + 1100) (h.le (by omega))
  obtain ⟨x2, e2, j2⟩ := texts_ok (f := f + 99) (j1.le (by omega))
  obtain ⟨x3, e3, j3⟩ := order_ok (f := f) (j2.le (by omega))
  obtain ⟨ρ', e4, y', rfl, hy'⟩ := runFor_all (g := gmName 3) (b := askB) (fun ρ => ∃ y', ρ = .sc ns :: .ow (.lst x1) :: x :: y' :: r ∧ Sv.own y' = false) ds (fun d ρ hm hI => by
    obtain ⟨y', rfl, hy'⟩ := hI
    refine ⟨.sc ns :: .ow (.lst x1) :: x :: .va d :: r, _, ?_, ask_ok (y := y') (hd d hm), .va d, rfl, rfl⟩
    cases y' <;> first | rfl | cases hy') (ρ := .sc ns :: .ow (.lst x1) :: x :: y :: r) ⟨y, rfl, hy⟩
  refine ⟨x3, y', ?_, hy', j3⟩
  unfold goB
  simp only [a_mBody, a_mBodyN, a_sSeq, a_sIf, a_sRet, a_sSet, a_sNx, a_sSetIx, a_sOwn, a_sDrop, a_sAsgG, a_sPar, a_eVar, a_eC, a_eOp, a_eUn, a_eN, a_eSl2, a_eOwn, a_eTst, a_eIf, a_eIsi, a_mAnd, a_mOr, a_mNot, a_mYes, a_lCons, a_lNil, a_eTup, a_eLst, a_eCall, a_eCall0, a_eCallS, a_eCallK, a_eCallP, a_eLam, a_eM1, a_eM0, a_eNotV, a_eAndV, a_eOrV, a_eNoL, a_eClr, a_eSl, a_oSome, a_oNone, a_sFor, a_lSeq, a_lRng1, a_lRng2, a_lEnum, a_eDGet, a_eCl, a_eScIx, a_eScLen, a_eMeth, bind_k, List.length_cons, List.length_nil, List.cons_append, List.nil_append, List.append_nil, Nat.reduceAdd, Nat.reduceSub, Nat.sub_self, Nat.zero_add, Nat.sub_zero, List.replicate_succ, List.replicate_zero, List.take_succ_cons, List.take_zero, List.getElem?_cons_zero, List.getElem?_cons_succ, List.map_cons, List.map_nil, oOut, setV, getOb, setOb, List.set_cons_zero, List.set_cons_succ, reduceIte, outV, v1L, szOk, Nat.reduceLeDiff, Nat.zero_le, decide_true, eq_self, Sv.spc, Bool.false_eq_true, if_true, if_false, Option.isSome_some, e1, itemsOf, e4, e2, e3, Bool.not_true]
/-! ### sign by sign -/
def sgB : SM := (sSeq (sSet 6 (eTup (lCons (eOp vLt (eVar 5) (eC (.int 38))) (lCons (eTup (lCons (eVar 5) lNil)) (lCons (eOp vIx (eVar 4) (eVar 5)) lNil)))))
  (sIf (mNot (eTst (eLam m__law_is 2 false (eTup (lCons (eCall m_is_name 1 (lCons (eOp vIx (eVar 4) (eVar 5)) lNil)) (lCons (eCall m_numbers_of 1 (lCons (eOp vIx (eVar 4) (eVar 5)) lNil)) (lCons (eCall m_text_of 1 (lCons (eTup (lCons (eVar 5) lNil)) lNil)) lNil)))) (lCons (eVar 6) lNil)))) (sRet (eC (.bool false))) sNx))
theorem sg_all : ∀ k : Fin 39, okRepr (.tuple [.str "told", .tuple [.bool (decide ((k.1 : Int) < 38)), .tuple [.int (k.1 : Nat)], T1 (Wt[k.1]'k.2)]]) = true ∧ isN (T1 (Wt[k.1]'k.2)) = decide ((k.1 : Int) < 38) ∧ Wt.idxOf (Wt[k.1]'k.2) = k.1 := by decide +kernel
theorem sg_ok {ns : List Int} {o : Ob} {x y z w v : Sv} {k : Nat} (hk : k < 39) (hz : Sv.own z = false) : sgB [.sc ns, .ow o, x, y, .va (.str WS), .va (.int (k : Nat)), z, w, v] = .ok (.nx, [.sc ns, .ow o, x, y, .va (.str WS), .va (.int (k : Nat)), .va (.tuple [.bool (decide ((k : Int) < 38)), .tuple [.int (k : Nat)], T1 (Wt[k]'hk)]), w, v]) := by
  obtain ⟨q1, q2, q3⟩ := sg_all ⟨k, hk⟩
  have hc : Wt[k]'hk ∈ Wt := List.getElem_mem hk
  have e1 := sign_at (List.getElem?_eq_getElem (l := Wt) hk)
  have hc' : ∀ c ∈ [Wt[k]'hk], c ∈ Wt := fun c h => by rw [List.mem_singleton.mp h]; exact hc
  have e3 := numbers_of_ok (l := [Wt[k]'hk]) (by show 1 ≤ 1000; decide) hc'
  have e4 := text_of_ok (l := [Wt[k]'hk]) (by show 1 ≤ 1000; decide) hc'
  have hnum : num (Wt[k]'hk) = .int (k : Nat) := by
    show PyData.int ((Wt.idxOf (Wt[k]'hk) : Nat) : Int) = _
    rw [q3]
  rw [List.map_cons, List.map_nil, hnum] at e3 e4
  have e5 := is_name_ok (Gd_T (l := [Wt[k]'hk]) (by show 1 ≤ 1000; decide) hc')
  have q2' : isN (T [Wt[k]'hk]) = decide ((k : Int) < 38) := q2
  rw [q2'] at e5
  have e6 : vLt (.int (k : Nat)) (.int 38) = .ok (.bool (decide ((k : Int) < 38))) := rfl
  have s1 : sSet 6 (eTup (lCons (eOp vLt (eVar 5) (eC (.int 38))) (lCons (eTup (lCons (eVar 5) lNil)) (lCons (eOp vIx (eVar 4) (eVar 5)) lNil)))) [.sc ns, .ow o, x, y, .va (.str WS), .va (.int (k : Nat)), z, w, v] = .ok (.nx, [.sc ns, .ow o, x, y, .va (.str WS), .va (.int (k : Nat)), .va (.tuple [.bool (decide ((k : Int) < 38)), .tuple [.int (k : Nat)], T1 (Wt[k]'hk)]), w, v]) := by
    cases z <;> first | (cases hz; done) | simp only [a_mBody, a_mBodyN, a_sSeq, a_sIf, a_sRet, a_sSet, a_sNx, a_sSetIx, a_sOwn, a_sDrop, a_sAsgG, a_sPar, a_eVar, a_eC, a_eOp, a_eUn, a_eN, a_eSl2, a_eOwn, a_eTst, a_eIf, a_eIsi, a_mAnd, a_mOr, a_mNot, a_mYes, a_lCons, a_lNil, a_eTup, a_eLst, a_eCall, a_eCall0, a_eCallS, a_eCallK, a_eCallP, a_eLam, a_eM1, a_eM0, a_eNotV, a_eAndV, a_eOrV, a_eNoL, a_eClr, a_eSl, a_oSome, a_oNone, a_sFor, a_lSeq, a_lRng1, a_lRng2, a_lEnum, a_eDGet, a_eCl, a_eScIx, a_eScLen, a_eMeth, bind_k, List.length_cons, List.length_nil, List.cons_append, List.nil_append, List.append_nil, Nat.reduceAdd, Nat.reduceSub, Nat.sub_self, Nat.zero_add, Nat.sub_zero, List.replicate_succ, List.replicate_zero, List.take_succ_cons, List.take_zero, List.getElem?_cons_zero, List.getElem?_cons_succ, List.map_cons, List.map_nil, oOut, setV, getOb, setOb, List.set_cons_zero, List.set_cons_succ, reduceIte, outV, v1L, szOk, Nat.reduceLeDiff, Nat.zero_le, decide_true, eq_self, Sv.spc, Bool.false_eq_true, if_true, if_false, e1, e6]
  have s2 : eLam m__law_is 2 false (eTup (lCons (eCall m_is_name 1 (lCons (eOp vIx (eVar 4) (eVar 5)) lNil)) (lCons (eCall m_numbers_of 1 (lCons (eOp vIx (eVar 4) (eVar 5)) lNil)) (lCons (eCall m_text_of 1 (lCons (eTup (lCons (eVar 5) lNil)) lNil)) lNil)))) (lCons (eVar 6) lNil) [.sc ns, .ow o, x, y, .va (.str WS), .va (.int (k : Nat)), .va (.tuple [.bool (decide ((k : Int) < 38)), .tuple [.int (k : Nat)], T1 (Wt[k]'hk)]), w, v] = .ok (.bool true, [.sc ns, .ow o, x, y, .va (.str WS), .va (.int (k : Nat)), .va (.tuple [.bool (decide ((k : Int) < 38)), .tuple [.int (k : Nat)], T1 (Wt[k]'hk)]), w, v]) := by
    refine lam_is (d := .tuple [.bool (decide ((k : Int) < 38)), .tuple [.int (k : Nat)], T1 (Wt[k]'hk)]) rfl ?_ q1
    simp only [a_mBody, a_mBodyN, a_sSeq, a_sIf, a_sRet, a_sSet, a_sNx, a_sSetIx, a_sOwn, a_sDrop, a_sAsgG, a_sPar, a_eVar, a_eC, a_eOp, a_eUn, a_eN, a_eSl2, a_eOwn, a_eTst, a_eIf, a_eIsi, a_mAnd, a_mOr, a_mNot, a_mYes, a_lCons, a_lNil, a_eTup, a_eLst, a_eCall, a_eCall0, a_eCallS, a_eCallK, a_eCallP, a_eLam, a_eM1, a_eM0, a_eNotV, a_eAndV, a_eOrV, a_eNoL, a_eClr, a_eSl, a_oSome, a_oNone, a_sFor, a_lSeq, a_lRng1, a_lRng2, a_lEnum, a_eDGet, a_eCl, a_eScIx, a_eScLen, a_eMeth, bind_k, List.length_cons, List.length_nil, List.cons_append, List.nil_append, List.append_nil, Nat.reduceAdd, Nat.reduceSub, Nat.sub_self, Nat.zero_add, Nat.sub_zero, List.replicate_succ, List.replicate_zero, List.take_succ_cons, List.take_zero, List.getElem?_cons_zero, List.getElem?_cons_succ, List.map_cons, List.map_nil, oOut, setV, getOb, setOb, List.set_cons_zero, List.set_cons_succ, reduceIte, outV, v1L, szOk, Nat.reduceLeDiff, Nat.zero_le, decide_true, eq_self, Sv.spc, Bool.false_eq_true, if_true, if_false, capL, capS, e1, e3, e4, e5]
  unfold sgB
  simp only [a_sSeq, s1, a_sIf, a_mNot, a_eTst, s2, bind_k, Bool.not_true, Bool.false_eq_true, if_false, a_sNx]
/-! ### four by hand -/
abbrev asksL : List D := [.tuple [.str "b_-9", .tuple [.int 1, .int 36, .int 37, .int 35]], .tuple [.str "/a/0", .tuple [.int 38, .int 0, .int 38, .int 26]], .tuple [.str "zz", .tuple [.int 25, .int 25]], .tuple [.str "", .tuple []]]
def askL : EM := eLc (lSeq (eVar 7)) (gmTup 2 (gmCons (gmName 8) (gmCons (gmName 6) gmNil))) (mNot (eTst (eLam m__law_is 2 false (eTup (lCons (eCall m_numbers_of 1 (lCons (eVar 8) lNil)) (lCons (eCall m_text_of 1 (lCons (eVar 6) lNil)) lNil))) (lCons (eTup (lCons (eVar 6) (lCons (eVar 8) lNil))) lNil)))) (eC (.int 1)) [8, 6]
def askT : TM := (mNot (eTst (eLam m__law_is 2 false (eTup (lCons (eCall m_numbers_of 1 (lCons (eVar 8) lNil)) (lCons (eCall m_text_of 1 (lCons (eVar 6) lNil)) lNil))) (lCons (eTup (lCons (eVar 6) (lCons (eVar 8) lNil))) lNil))))
theorem hand_ok {ns : List Int} {o : Ob} {a b c d e : Sv} {l : List Nat} (hl : l.length ≤ 1000) (h : ∀ c ∈ l, c ∈ Wt) : askT [.sc ns, .ow o, a, b, c, d, .va (.tuple (l.map num)), e, .va (T l)] = .ok (false, [.sc ns, .ow o, a, b, c, d, .va (.tuple (l.map num)), e, .va (T l)]) := by
  have e3 := numbers_of_ok hl h
  have e4 := text_of_ok hl h
  obtain ⟨k1, k2⟩ := pair_ok hl h
  have s : eLam m__law_is 2 false (eTup (lCons (eCall m_numbers_of 1 (lCons (eVar 8) lNil)) (lCons (eCall m_text_of 1 (lCons (eVar 6) lNil)) lNil))) (lCons (eTup (lCons (eVar 6) (lCons (eVar 8) lNil))) lNil) [.sc ns, .ow o, a, b, c, d, .va (.tuple (l.map num)), e, .va (T l)] = .ok (.bool true, [.sc ns, .ow o, a, b, c, d, .va (.tuple (l.map num)), e, .va (T l)]) := by
    refine lam_is (d := .tuple [.tuple (l.map num), T l]) rfl ?_ k1
    simp only [a_mBody, a_mBodyN, a_sSeq, a_sIf, a_sRet, a_sSet, a_sNx, a_sSetIx, a_sOwn, a_sDrop, a_sAsgG, a_sPar, a_eVar, a_eC, a_eOp, a_eUn, a_eN, a_eSl2, a_eOwn, a_eTst, a_eIf, a_eIsi, a_mAnd, a_mOr, a_mNot, a_mYes, a_lCons, a_lNil, a_eTup, a_eLst, a_eCall, a_eCall0, a_eCallS, a_eCallK, a_eCallP, a_eLam, a_eM1, a_eM0, a_eNotV, a_eAndV, a_eOrV, a_eNoL, a_eClr, a_eSl, a_oSome, a_oNone, a_sFor, a_lSeq, a_lRng1, a_lRng2, a_lEnum, a_eDGet, a_eCl, a_eScIx, a_eScLen, a_eMeth, bind_k, List.length_cons, List.length_nil, List.cons_append, List.nil_append, List.append_nil, Nat.reduceAdd, Nat.reduceSub, Nat.sub_self, Nat.zero_add, Nat.sub_zero, List.replicate_succ, List.replicate_zero, List.take_succ_cons, List.take_zero, List.getElem?_cons_zero, List.getElem?_cons_succ, List.map_cons, List.map_nil, oOut, setV, getOb, setOb, List.set_cons_zero, List.set_cons_succ, reduceIte, outV, v1L, szOk, Nat.reduceLeDiff, Nat.zero_le, decide_true, eq_self, Sv.spc, Bool.false_eq_true, if_true, if_false, capL, capS, e3, e4]
  unfold askT
  simp only [a_mNot, a_eTst, s, bind_k, Bool.not_true]
theorem asks_list : ∀ d ∈ asksL, ∃ l : List Nat, d = .tuple [T l, .tuple (l.map num)] ∧ l.length ≤ 1000 ∧ ∀ c ∈ l, c ∈ Wt := by
  intro d hd
  simp only [List.mem_cons, List.not_mem_nil, or_false] at hd
  rcases hd with rfl | rfl | rfl | rfl
  · exact ⟨[98, 95, 45, 57], by kernel_rfl, by decide, by decide +kernel⟩
  · exact ⟨[47, 97, 47, 48], by kernel_rfl, by decide, by decide +kernel⟩
  · exact ⟨[122, 122], by kernel_rfl, by decide, by decide +kernel⟩
  · exact ⟨[], by kernel_rfl, by decide, by decide +kernel⟩
end Mi

set_option Elab.async false
set_option linter.all false
set_option maxRecDepth 100000
set_option maxHeartbeats 4000000
namespace Mi
open PySem PySem.Spec PyProof.Rows L2
theorem hand_all {ns : List Int} {o : Ob} {a b c d z w v : Sv} (hz : Sv.own z = false) (hv : Sv.own v = false) : askL [.sc ns, .ow o, a, b, c, d, z, .va (.list asksL), v] = .ok (.list [], [.sc ns, .ow o, a, b, c, d, z, .va (.list asksL), v]) := by
  obtain ⟨ρ', acc, e, ⟨⟨z', v', rfl, _, _⟩, rfl⟩, _⟩ := runLc_inv (g := fun d r => gmTup 2 (gmCons (gmName 8) (gmCons (gmName 6) gmNil)) d (wipeS r [8, 6])) (t := askT) (m := eC (.int 1)) (fun _ ρ acc => (∃ z' v', ρ = [.sc ns, .ow o, a, b, c, d, z', .va (.list asksL), v'] ∧ Sv.own z' = false ∧ Sv.own v' = false) ∧ acc = []) asksL (fun i dd ρ acc ei hI _ => by
    obtain ⟨⟨z', v', rfl, hz', hv'⟩, rfl⟩ := hI
    obtain ⟨l, rfl, hl, hc⟩ := asks_list dd (List.mem_of_getElem? ei)
    exact ⟨[.sc ns, .ow o, a, b, c, d, .va (.tuple (l.map num)), .va (.list asksL), .va (T l)], _, rfl, .inl ⟨hand_ok hl hc, ⟨_, _, rfl, rfl, rfl⟩, rfl⟩⟩) (by decide) (ρ := [.sc ns, .ow o, a, b, c, d, z, .va (.list asksL), v]) ⟨⟨z, v, rfl, hz, hv⟩, rfl⟩
  have hf : freeAt [.sc ns, .ow o, a, b, c, d, z, .va (.list asksL), v] [8, 6] = true := by
    show ((!v.own) && ((!z.own) && true)) = true
    rw [hz, hv]; rfl
  unfold askL eLc
  have e0 : lSeq (eVar 7) [.sc ns, .ow o, a, b, c, d, z, .va (.list asksL), v] = .ok (asksL, [.sc ns, .ow o, a, b, c, d, z, .va (.list asksL), v]) := rfl
  rw [e0, bind_k]
  rw [if_pos hf]
  have e' : runLc (fun d r => gmTup 2 (gmCons (gmName 8) (gmCons (gmName 6) gmNil)) d (wipeS r [8, 6])) (mNot (eTst (eLam m__law_is 2 false (eTup (lCons (eCall m_numbers_of 1 (lCons (eVar 8) lNil)) (lCons (eCall m_text_of 1 (lCons (eVar 6) lNil)) lNil))) (lCons (eTup (lCons (eVar 6) (lCons (eVar 8) lNil))) lNil)))) (eC (.int 1)) asksL [.sc ns, .ow o, a, b, c, d, z, .va (.list asksL), v] [] = .ok ([], [.sc ns, .ow o, a, b, c, d, z', .va (.list asksL), v']) := e
  rw [e', bind_k]
  rfl
theorem whole_eq : b__law_46_whole = (sSeq (sOwn 1 (eCallP m__law_pool 1 0 lNil))
  (sSeq (sFor (lRng1 (lCons (eC (.int 8)) lNil)) (gmName 2) goB)
  (sSeq (sSet 4 (eCall0 m__law_46_signs))
  (sSeq (sFor (lRng1 (lCons (eC (.int 39)) lNil)) (gmName 5) sgB)
  (sSeq (sSet 7 (eLst (lCons (eTup (lCons (eC (.str "b_-9")) (lCons (eTup (lCons (eC (.int 1)) (lCons (eC (.int 36)) (lCons (eC (.int 37)) (lCons (eC (.int 35)) lNil))))) lNil))) (lCons (eTup (lCons (eC (.str "/a/0")) (lCons (eTup (lCons (eC (.int 38)) (lCons (eC (.int 0)) (lCons (eC (.int 38)) (lCons (eC (.int 26)) lNil))))) lNil))) (lCons (eTup (lCons (eC (.str "zz")) (lCons (eTup (lCons (eC (.int 25)) (lCons (eC (.int 25)) lNil))) lNil))) (lCons (eTup (lCons (eC (.str "")) (lCons (eTup lNil) lNil))) lNil))))))
  (sRet (eOp vEq askL (eLst lNil)))))))) := rfl
theorem whole_ok (ns : List Int) (hn : ns.length ≤ 63) : m__law_46_whole [.sc ns] = .ok (.bool true, [.sc ns]) := by
  obtain ⟨xs, e1, j1⟩ := pool_jar ns hn
  have nl := j1.noLs
  have s1 : sOwn 1 (eCallP m__law_pool 1 0 lNil) [.sc ns, .un, .un, .un, .un, .un, .un, .un, .un] = .ok (.nx, [.sc ns, .ow (.lst xs), .un, .un, .un, .un, .un, .un, .un]) := by
    simp only [a_mBody, a_mBodyN, a_sSeq, a_sIf, a_sRet, a_sSet, a_sNx, a_sSetIx, a_sOwn, a_sDrop, a_sAsgG, a_sPar, a_eVar, a_eC, a_eOp, a_eUn, a_eN, a_eSl2, a_eOwn, a_eTst, a_eIf, a_eIsi, a_mAnd, a_mOr, a_mNot, a_mYes, a_lCons, a_lNil, a_eTup, a_eLst, a_eCall, a_eCall0, a_eCallS, a_eCallK, a_eCallP, a_eLam, a_eM1, a_eM0, a_eNotV, a_eAndV, a_eOrV, a_eNoL, a_eClr, a_eSl, a_oSome, a_oNone, a_sFor, a_lSeq, a_lRng1, a_lRng2, a_lEnum, a_eDGet, a_eCl, a_eScIx, a_eScLen, a_eMeth, bind_k, List.length_cons, List.length_nil, List.cons_append, List.nil_append, List.append_nil, Nat.reduceAdd, Nat.reduceSub, Nat.sub_self, Nat.zero_add, Nat.sub_zero, List.replicate_succ, List.replicate_zero, List.take_succ_cons, List.take_zero, List.getElem?_cons_zero, List.getElem?_cons_succ, List.map_cons, List.map_nil, oOut, setV, getOb, setOb, List.set_cons_zero, List.set_cons_succ, reduceIte, outV, v1L, szOk, Nat.reduceLeDiff, Nat.zero_le, decide_true, eq_self, Sv.spc, Bool.false_eq_true, if_true, if_false, e1, nl]
  obtain ⟨ρ', e2, ys, x, y, rfl, hx, hy, j2⟩ := runFor_inv (g := gmName 2) (b := goB) (fun i ρ => ∃ ys x y, ρ = [.sc ns, .ow (.lst ys), x, y, .un, .un, .un, .un, .un] ∧ Sv.own x = false ∧ Sv.own y = false ∧ Jar ((8 - i) * 1600) ys) (countD 0 8) (fun i d ρ ei hI => by
    obtain ⟨ys, x, y, rfl, hx, hy, hj⟩ := hI
    obtain ⟨rfl, hi⟩ := count_at ei
    obtain ⟨zs, y', e3, hy', hj'⟩ := go_ok (ns := ns) (f := (8 - (i + 1)) * 1600) (x := .va (.int (i : Nat))) (r := [.un, .un, .un, .un, .un]) hy (hj.le (by omega))
    refine ⟨[.sc ns, .ow (.lst ys), .va (.int (i : Nat)), y, .un, .un, .un, .un, .un], _, ?_, e3, zs, _, y', rfl, rfl, hy', hj'⟩
    cases x <;> first | rfl | cases hx) (ρ := [.sc ns, .ow (.lst xs), .un, .un, .un, .un, .un, .un, .un]) ⟨xs, .un, .un, rfl, rfl, rfl, j1.le (by decide)⟩
  have s2 : sFor (lRng1 (lCons (eC (.int 8)) lNil)) (gmName 2) goB [.sc ns, .ow (.lst xs), .un, .un, .un, .un, .un, .un, .un] = .ok (.nx, [.sc ns, .ow (.lst ys), x, y, .un, .un, .un, .un, .un]) := by
    have q : lRng1 (lCons (eC (.int 8)) lNil) [.sc ns, .ow (.lst xs), .un, .un, .un, .un, .un, .un, .un] = .ok (countD 0 8, [.sc ns, .ow (.lst xs), .un, .un, .un, .un, .un, .un, .un]) := rng_ok (n := 8) rfl (by decide)
    rw [a_sFor, q, bind_k]
    exact e2
  have s3 : sSet 4 (eCall0 m__law_46_signs) [.sc ns, .ow (.lst ys), x, y, .un, .un, .un, .un, .un] = .ok (.nx, [.sc ns, .ow (.lst ys), x, y, .va (.str WS), .un, .un, .un, .un]) := rfl
  obtain ⟨ρ', e4, z, w, rfl, hz, hw⟩ := runFor_inv (g := gmName 5) (b := sgB) (fun i ρ => ∃ z w, ρ = [.sc ns, .ow (.lst ys), x, y, .va (.str WS), z, w, .un, .un] ∧ Sv.own z = false ∧ Sv.own w = false) (countD 0 39) (fun i d ρ ei hI => by
    obtain ⟨z, w, rfl, hz, hw⟩ := hI
    obtain ⟨rfl, hi⟩ := count_at ei
    refine ⟨[.sc ns, .ow (.lst ys), x, y, .va (.str WS), .va (.int (i : Nat)), w, .un, .un], _, ?_, sg_ok hi hw, _, _, rfl, rfl, rfl⟩
    cases z <;> first | rfl | cases hz) (ρ := [.sc ns, .ow (.lst ys), x, y, .va (.str WS), .un, .un, .un, .un]) ⟨.un, .un, rfl, rfl, rfl⟩
  have s4 : sFor (lRng1 (lCons (eC (.int 39)) lNil)) (gmName 5) sgB [.sc ns, .ow (.lst ys), x, y, .va (.str WS), .un, .un, .un, .un] = .ok (.nx, [.sc ns, .ow (.lst ys), x, y, .va (.str WS), z, w, .un, .un]) := by
    have q : lRng1 (lCons (eC (.int 39)) lNil) [.sc ns, .ow (.lst ys), x, y, .va (.str WS), .un, .un, .un, .un] = .ok (countD 0 39, [.sc ns, .ow (.lst ys), x, y, .va (.str WS), .un, .un, .un, .un]) := rng_ok (n := 39) rfl (by decide)
    rw [a_sFor, q, bind_k]
    exact e4
  have s5 : sSet 7 (eLst (lCons (eTup (lCons (eC (.str "b_-9")) (lCons (eTup (lCons (eC (.int 1)) (lCons (eC (.int 36)) (lCons (eC (.int 37)) (lCons (eC (.int 35)) lNil))))) lNil))) (lCons (eTup (lCons (eC (.str "/a/0")) (lCons (eTup (lCons (eC (.int 38)) (lCons (eC (.int 0)) (lCons (eC (.int 38)) (lCons (eC (.int 26)) lNil))))) lNil))) (lCons (eTup (lCons (eC (.str "zz")) (lCons (eTup (lCons (eC (.int 25)) (lCons (eC (.int 25)) lNil))) lNil))) (lCons (eTup (lCons (eC (.str "")) (lCons (eTup lNil) lNil))) lNil))))) [.sc ns, .ow (.lst ys), x, y, .va (.str WS), z, w, .un, .un] = .ok (.nx, [.sc ns, .ow (.lst ys), x, y, .va (.str WS), z, w, .va (.list asksL), .un]) := rfl
  have s6 := hand_all (ns := ns) (o := .lst ys) (a := x) (b := y) (c := .va (.str WS)) (d := z) (z := w) (w := .un) (v := .un) hw rfl
  have e7 : vEq (.list []) (.list []) = .ok (.bool true) := by kernel_rfl
  unfold m__law_46_whole
  rw [whole_eq]
  simp only [a_mBody, a_mBodyN, List.length_cons, List.length_nil, Nat.zero_add, Nat.reduceAdd, Nat.reduceSub, List.replicate_succ, List.replicate_zero, List.cons_append, List.nil_append, a_sSeq, s1, s2, s3, s4, s5, bind_k, a_sRet, a_eOp, s6, a_eLst, a_lNil, szOk, Nat.zero_le, decide_true, if_true, e7, List.take_succ_cons, List.take_zero]
theorem outV_k {α β : Type} (x : α × β) : outV (Out.ok x) = .ok x.1 := nr rfl
theorem lam_at {m : FM} {n : Nat} {b : Bool} {mb : EM} {a : LM} {ρ ρ' ρ2 av : List Sv} {ds : List D} {d x : D} (ha : a ρ = .ok (ds, ρ')) (hn : ds.length + 1 = n) (hb : mb (capL b ρ') = .ok (d, ρ2)) (hm : m (.cl (.ok d) :: ds.map .va) = .ok (x, av)) : eLam m n b mb a ρ = .ok (x, ρ') := by
  rw [a_eLam, ha, bind_k]
  dsimp only
  rw [if_pos hn, hb, outV_k, hm, bind_k]
theorem callP_at {m : FM} {n i : Nat} {a : LM} {ρ av : List Sv} {sv : Sv} {ds : List D} {x : D} (h : ρ[i]? = some sv) (hs : sv.spc = true) (ha : a ρ = .ok (ds, ρ)) (hn : ds.length + 1 = n) (hm : m (sv :: ds.map .va) = .ok (x, av)) : eCallP m n i a ρ = .ok (x, ρ) := by
  rw [a_eCallP, h]
  dsimp only
  rw [if_pos hs, ha, bind_k]
  dsimp only
  rw [if_pos hn, hm, bind_k]
theorem law_gen {EL : EM} {Y : FM} {ρ av : List Sv} {d a b : D} (h1 : EL ρ = .ok (d, ρ)) (h2 : Y [.va d, .va (.tuple [a, b])] = .ok (.bool true, av)) : sRet (eCall Y 2 (lCons EL (lCons (eTup (lCons (eC a) (lCons (eC b) lNil))) lNil))) ρ = .ok (.rt (.bool true), ρ) := by
  simp only [a_mBody, a_mBodyN, a_sSeq, a_sIf, a_sRet, a_sSet, a_sNx, a_sSetIx, a_sOwn, a_sDrop, a_sAsgG, a_sPar, a_eVar, a_eC, a_eOp, a_eUn, a_eN, a_eSl2, a_eOwn, a_eTst, a_eIf, a_eIsi, a_mAnd, a_mOr, a_mNot, a_mYes, a_lCons, a_lNil, a_eTup, a_eLst, a_eCall, a_eCall0, a_eCallS, a_eCallK, a_eCallP, a_eLam, a_eM1, a_eM0, a_eNotV, a_eAndV, a_eOrV, a_eNoL, a_eClr, a_eSl, a_oSome, a_oNone, a_sFor, a_lSeq, a_lRng1, a_lRng2, a_lEnum, a_eDGet, a_eCl, a_eScIx, a_eScLen, a_eMeth, bind_k, List.length_cons, List.length_nil, List.cons_append, List.nil_append, List.append_nil, Nat.reduceAdd, Nat.reduceSub, Nat.sub_self, Nat.zero_add, Nat.sub_zero, List.replicate_succ, List.replicate_zero, List.take_succ_cons, List.take_zero, List.getElem?_cons_zero, List.getElem?_cons_succ, List.map_cons, List.map_nil, oOut, setV, getOb, setOb, List.set_cons_zero, List.set_cons_succ, reduceIte, outV, v1L, szOk, Nat.reduceLeDiff, Nat.zero_le, decide_true, eq_self, Sv.spc, Bool.false_eq_true, if_true, if_false, h1, h2]
theorem body_gen {B : SM} {s : Sv} {d : D} (h : B [s] = .ok (.rt d, [s])) : outV (mBody 1 false B [s]) = .ok d := by
  rw [a_mBody, show [s] ++ List.replicate (1 - [s].length) Sv.un = [s] from rfl, h, bind_k, outV_k]
theorem yq_gen (d : D) (h : okRepr d = true) : m__law_yq_same [.va d, .va d] = .ok (.bool true, [.va d, .va d]) := by
  have : vRepr d = .ok (.str (PyData.shown d)) := if_pos h
  have e3 : ∀ s : Str, vEq (.str s) (.str s) = .ok (.bool true) := fun s => by
    show Out.ok (PyData.bool (false ^^ decide (s = s))) = _
    rw [decide_eq_true rfl]; rfl
  unfold m__law_yq_same b__law_yq_same
  simp only [a_mBody, a_mBodyN, a_sSeq, a_sIf, a_sRet, a_sSet, a_sNx, a_sSetIx, a_sOwn, a_sDrop, a_sAsgG, a_sPar, a_eVar, a_eC, a_eOp, a_eUn, a_eN, a_eSl2, a_eOwn, a_eTst, a_eIf, a_eIsi, a_mAnd, a_mOr, a_mNot, a_mYes, a_lCons, a_lNil, a_eTup, a_eLst, a_eCall, a_eCall0, a_eCallS, a_eCallK, a_eCallP, a_eLam, a_eM1, a_eM0, a_eNotV, a_eAndV, a_eOrV, a_eNoL, a_eClr, a_eSl, a_oSome, a_oNone, a_sFor, a_lSeq, a_lRng1, a_lRng2, a_lEnum, a_eDGet, a_eCl, a_eScIx, a_eScLen, a_eMeth, bind_k, List.length_cons, List.length_nil, List.cons_append, List.nil_append, List.append_nil, Nat.reduceAdd, Nat.reduceSub, Nat.sub_self, Nat.zero_add, Nat.sub_zero, List.replicate_succ, List.replicate_zero, List.take_succ_cons, List.take_zero, List.getElem?_cons_zero, List.getElem?_cons_succ, List.map_cons, List.map_nil, oOut, setV, getOb, setOb, List.set_cons_zero, List.set_cons_succ, reduceIte, outV, v1L, szOk, Nat.reduceLeDiff, Nat.zero_le, decide_true, eq_self, Sv.spc, Bool.false_eq_true, if_true, if_false, this, e3]
theorem law_eq : b_law = sRet (eCall m__law_yq_same 2 (lCons (eLam m__law_heard 1 false (eCallP m__law_46_whole 1 0 lNil) lNil) (lCons (eTup (lCons (eC (.str "told")) (lCons (eC (.bool true)) lNil))) lNil))) := rfl
theorem plain : Plain := fun ns hn _ => by
  have w := whole_ok ns hn
  have e1 : m__law_heard [.cl (.ok (.bool true))] = .ok (.tuple [.str "told", .bool true], [.cl (.ok (.bool true))]) := rfl
  have e2 := yq_gen (.tuple [.str "told", .bool true]) (bool_ok true)
  have hc : capL false [.sc ns] = [.sc ns] := rfl
  have hw : eCallP m__law_46_whole 1 0 lNil (capL false [.sc ns]) = .ok (.bool true, [.sc ns]) := by
    rw [hc]
    exact callP_at (ds := []) rfl rfl rfl rfl w
  have hl : eLam m__law_heard 1 false (eCallP m__law_46_whole 1 0 lNil) lNil [.sc ns] = .ok (.tuple [.str "told", .bool true], [.sc ns]) := lam_at (ds := []) rfl rfl hw e1
  have hb : b_law [.sc ns] = .ok (.rt (.bool true), [.sc ns]) := by
    rw [law_eq]
    exact law_gen hl e2
  exact body_gen hb
end Mi

theorem PySem.Challenge.cw_stopweighs_k46_names_and_signs_holds : PySem.Challenge.rw_stopweighs_k46_names_and_signs.Holds :=
  Mi.holds_of Mi.plain
