import PyProof.Rows.All
import HandS.ForMost
import HandS.Walk
import HandS.Deep
import HandS.IsInst
import HandS.Conv
import HandS.SortInts
import HandS.Zip
import HandS.Defaults
import HandS.WordsList
import HandS.More
import HandS.List
import HandS.Property
import HandS.Iter
import KE.GoesMore
import KE.GoesEnum
import PySem.Challenge.RW_shelfterms_k51_whole_gates_hold
import HandS.Text
import HandS.MethStar
import HandS.Star
import HandS.ClsMeth
import HandS.NestedK
import KE.KSuper
import HandS.Ends
import HandS.Head0
import HandS.Head1
import HandS.Head2
import HandS.HeadEnd
import HandS.HeadHook1
import HandS.HeadHook2
set_option Elab.async false
set_option linter.all false
set_option maxRecDepth 100000
set_option maxHeartbeats 0
/-! DL1: data D, how the abstract heap bears it (Dt), what callees keep (Kp), the slots (EO). -/
namespace DL
open PySem PySem.Spec PyProof.Rows L2

/-- the kinds of the program's objects -/
inductive Kd where
  | cat | ev | gate
  deriving DecidableEq
def flds : Kd → List Str
  | .cat => ["names"]
  | .ev => ["catalog", "rows"]
  | .gate => ["inside", "exits", "blocks", "among", "place"]
/-- data; box: the law's draw box -/
inductive D where
  | non | bl (b : Bool) | int (i : Int) | str (x : Str) | tup (ds : List D) | lst (ds : List D) | obj (k : Kd) (ds : List D) | box | raw (p : Addr)

mutual
/-- no list and no box within -/
def D.imm : D → Bool
  | .tup ds => D.immA ds
  | .obj _ ds => D.immA ds
  | .lst _ => false
  | .box => false
  | .non => true
  | .bl _ => true
  | .int _ => true
  | .str _ => true
  | .raw _ => true
def D.immA : List D → Bool
  | [] => true
  | d :: ds => d.imm && D.immA ds
end
theorem immA_mem : ∀ {ds : List D}, (∀ d ∈ ds, d.imm = true) → D.immA ds = true
  | [], _ => rfl
  | d :: ds, h => by
    rw [D.immA, h d List.mem_cons_self, immA_mem fun x hx => h x (List.mem_cons_of_mem _ hx)]; rfl
theorem mem_immA : ∀ {ds : List D}, D.immA ds = true → ∀ d ∈ ds, d.imm = true
  | d :: ds, h, x, hx => by
    rw [D.immA, Bool.and_eq_true] at h
    rcases List.mem_cons.mp hx with rfl | hx
    · exact h.1
    · exact mem_immA h.2 x hx

/-! ### the box -/
def BoxV (vs : List V) : Prop := ∃ c i a s, vs = [.ref c, .int i, .int a, .int s]
def BoxO (o : HO) : Prop := ∃ vs, o = .lst vs ∧ BoxV vs
def BoxAt (H : Hp) (b c : Addr) (cells : List Int) : Prop :=
  ∃ i a s : Int, H b = some (.lst [.ref c, .int i, .int a, .int s]) ∧ H c = some (.lst (cells.map V.int)) ∧ 0 ≤ i ∧ cells.length ≤ 63
theorem not_boxV_ints (ns : List Int) : ¬ BoxV (ns.map V.int) := by
  rintro ⟨c, i, a, s, h⟩
  cases ns with
  | nil => cases h
  | cons n r => cases h
theorem not_boxO_ints (ns : List Int) : ¬ BoxO (.lst (ns.map V.int)) := by
  rintro ⟨vs, h, hb⟩
  cases h
  exact not_boxV_ints ns hb

/-- what callees keep: all but boxes; boxes stay boxes -/
structure Kp (H H' : Hp) : Prop where
  st : ∀ a o, H a = some o → ¬ BoxO o → H' a = some o
  bx : ∀ b c cells, BoxAt H b c cells → BoxAt H' b c cells
  dm : ∀ a, H a ≠ none → H' a ≠ none
theorem Kp.refl (H : Hp) : Kp H H := ⟨fun _ _ h _ => h, fun _ _ _ h => h, fun _ h => h⟩
theorem Kp.trans {H H1 H2 : Hp} (a : Kp H H1) (b : Kp H1 H2) : Kp H H2 :=
  ⟨fun x o h n => b.st x o (a.st x o h n) n, fun x c l h => b.bx x c l (a.bx x c l h), fun x h => b.dm x (a.dm x h)⟩
theorem Kp.back {H H' : Hp} (k : Kp H H') {p : Addr} (h : H' p = none) : H p = none := by
  cases e : H p with
  | none => rfl
  | some o => exact absurd h (k.dm p (by rw [e]; intro z; cases z))
theorem boxAt_upd {H : Hp} {b c p : Addr} {cells : List Int} {o : HO} (h : BoxAt H b c cells) (h1 : b ≠ p) (h2 : c ≠ p) : BoxAt (upd H p o) b c cells := by
  obtain ⟨i, a, s, e1, e2, r⟩ := h
  exact ⟨i, a, s, by rw [upd_ne h1]; exact e1, by rw [upd_ne h2]; exact e2, r⟩
theorem BoxAt.here {H : Hp} {b c : Addr} {cells : List Int} (h : BoxAt H b c cells) : H b ≠ none ∧ H c ≠ none := by
  obtain ⟨i, a, s, e1, e2, r⟩ := h
  exact ⟨(by rw [e1]; intro z; cases z), (by rw [e2]; intro z; cases z)⟩
/-- what was not there in H may be laid or changed -/
theorem Kp.mut {H H' : Hp} {p : Addr} {o : HO} (k : Kp H H') (h : H p = none) : Kp H (upd H' p o) := by
  have ne : ∀ a, H a ≠ none → a ≠ p := fun a ha e => ha (by rw [e]; exact h)
  refine ⟨fun a u e n => ?_, fun b c l hb => ?_, fun a ha => ?_⟩
  · rw [upd_ne (ne a (by rw [e]; intro z; cases z))]
    exact k.st a u e n
  · exact boxAt_upd (k.bx b c l hb) (ne b hb.here.1) (ne c hb.here.2)
  · rw [upd_ne (ne a ha)]
    exact k.dm a ha
theorem Kp.new {H : Hp} {p : Addr} {o : HO} (h : H p = none) : Kp H (upd H p o) := (Kp.refl H).mut h
theorem Kp.same {H H' : Hp} (s : Same H H') : Kp H H' := by
  refine ⟨fun a o e _ => s a o e, fun b c l h => ?_, fun a h => ?_⟩
  · obtain ⟨i, a, z, e1, e2, r⟩ := h
    exact ⟨i, a, z, s _ _ e1, s _ _ e2, r⟩
  · cases e : H a with
    | none => exact absurd e h
    | some o => rw [s a o e]; intro z; cases z
theorem Kp.rd {H H' : Hp} (k : Kp H H') {a : Addr} {xs : List V} (h : Rd H a (.tup xs)) : Rd H' a (.tup xs) := by
  rcases h with h | ⟨o, h⟩
  · exact .inl (k.st _ _ h (by rintro ⟨vs, e, _⟩; cases e))
  · exact .inr ⟨o, k.st _ _ h (by rintro ⟨vs, e, _⟩; cases e)⟩
theorem Kp.sqT {H H' : Hp} (k : Kp H H') {K : PySem.W.Frag} {a : Addr} {xs : List V} (h : SqT K H a xs) : SqT K H' a xs := by
  rcases h with h | h
  · exact .inl (k.rd h)
  · exact .inr h

/-! ### how the heap bears data -/
mutual
/-- v is d; no list of it stands in N -/
inductive Dt (K : PySem.W.Frag) (cl : Kd → Addr) (N : Addr → Prop) (H : Hp) : V → D → Prop
  | non : Dt K cl N H .non .non
  | bl (b : Bool) : Dt K cl N H (.bl b) (.bl b)
  | int (i : Int) : Dt K cl N H (.int i) (.int i)
  | str (x : Str) : Dt K cl N H (.str x) (.str x)
  | raw (p : Addr) : Dt K cl N H (.ref p) (.raw p)
  | tup {a : Addr} {vs : List V} {ds : List D} : SqT K H a vs → DtA K cl N H vs ds → Dt K cl N H (.ref a) (.tup ds)
  | lst {a : Addr} {vs : List V} {ds : List D} : H a = some (.lst vs) → ¬ N a → ¬ BoxV vs → DtA K cl N H vs ds → Dt K cl N H (.ref a) (.lst ds)
  | obj {a dx : Addr} {k : Kd} {fs : List (Str × V)} {ds : List D} : H a = some (.ins (cl k) dx fs) → fs.map (·.1) = flds k → DtA K cl N H (fs.map (·.2)) ds → Dt K cl N H (.ref a) (.obj k ds)
  | box {b c : Addr} {cells : List Int} : BoxAt H b c cells → ¬ N b → ¬ N c → Dt K cl N H (.ref b) .box
inductive DtA (K : PySem.W.Frag) (cl : Kd → Addr) (N : Addr → Prop) (H : Hp) : List V → List D → Prop
  | nil : DtA K cl N H [] []
  | cons {v : V} {d : D} {vs : List V} {ds : List D} : Dt K cl N H v d → DtA K cl N H vs ds → DtA K cl N H (v :: vs) (d :: ds)
end
/-- from (N, H) to (N', H') -/
structure Tr (N N' : Addr → Prop) (H H' : Hp) : Prop where
  tp : ∀ (K : PySem.W.Frag) a xs, SqT K H a xs → SqT K H' a xs
  ls : ∀ a vs, H a = some (.lst vs) → ¬ N a → ¬ BoxV vs → H' a = some (.lst vs) ∧ ¬ N' a
  ob : ∀ a C dx fs, H a = some (.ins C dx fs) → H' a = some (.ins C dx fs)
  bx : ∀ b c cells, BoxAt H b c cells → ¬ N b → ¬ N c → BoxAt H' b c cells ∧ ¬ N' b ∧ ¬ N' c
section
variable {K : PySem.W.Frag} {cl : Kd → Addr} {N N' : Addr → Prop} {H H' : Hp}
mutual
theorem Dt.tr (t : Tr N N' H H') : ∀ {v : V} {d : D}, Dt K cl N H v d → Dt K cl N' H' v d
  | _, _, .non => .non
  | _, _, .bl b => .bl b
  | _, _, .int i => .int i
  | _, _, .str x => .str x
  | _, _, .raw p => .raw p
  | _, _, .tup s h => .tup (t.tp K _ _ s) (DtA.tr t h)
  | _, _, .lst e n b h => .lst (t.ls _ _ e n b).1 (t.ls _ _ e n b).2 b (DtA.tr t h)
  | _, _, .obj e f h => .obj (t.ob _ _ _ _ e) f (DtA.tr t h)
  | _, _, .box b n m => .box (t.bx _ _ _ b n m).1 (t.bx _ _ _ b n m).2.1 (t.bx _ _ _ b n m).2.2
theorem DtA.tr (t : Tr N N' H H') : ∀ {vs : List V} {ds : List D}, DtA K cl N H vs ds → DtA K cl N' H' vs ds
  | _, _, .nil => .nil
  | _, _, .cons h r => .cons (Dt.tr t h) (DtA.tr t r)
end
theorem Tr.kp (k : Kp H H') : Tr N N H H' :=
  ⟨fun K _ _ h => k.sqT h, fun _ _ e n b => ⟨k.st _ _ e (by rintro ⟨vs, q, z⟩; cases q; exact b z), n⟩, fun _ _ _ _ e => k.st _ _ e (by rintro ⟨vs, q, z⟩; cases q), fun _ _ _ b n m => ⟨k.bx _ _ _ b, n, m⟩⟩
theorem Tr.weak (h : ∀ p, N' p → N p) : Tr N N' H H :=
  ⟨fun _ _ _ h => h, fun _ _ e n b => ⟨e, fun z => n (h _ z)⟩, fun _ _ _ _ e => e, fun _ _ _ b n m => ⟨b, fun z => n (h _ z), fun z => m (h _ z)⟩⟩
/-- N may grow by what is not there -/
theorem Tr.grow (h : ∀ p, N' p → N p ∨ H p = none) : Tr N N' H H := by
  refine ⟨fun _ _ _ h => h, fun a vs e n b => ⟨e, fun z => ?_⟩, fun _ _ _ _ e => e, fun b c l hb n m => ⟨hb, fun z => ?_, fun z => ?_⟩⟩
  · rcases h _ z with q | q
    · exact n q
    · rw [e] at q; cases q
  · rcases h _ z with q | q
    · exact n q
    · exact hb.here.1 q
  · rcases h _ z with q | q
    · exact m q
    · exact hb.here.2 q
/-- a list of N's own is changed -/
theorem Tr.chg {p : Addr} {xs ys : List V} (hp : N p) (e : H p = some (.lst xs)) : Tr N N H (upd H p (.lst ys)) := by
  refine ⟨fun K a zs h => ?_, fun a vs q n b => ⟨?_, n⟩, fun a C dx fs q => ?_, fun b c l hb n m => ⟨boxAt_upd hb (fun z => n (by rw [z]; exact hp)) (fun z => m (by rw [z]; exact hp)), n, m⟩⟩
  · rcases h with (h | ⟨o, h⟩) | h
    · exact .inl (.inl (by rw [upd_ne (ne_of h e (by intro q; cases q))]; exact h))
    · exact .inl (.inr ⟨o, by rw [upd_ne (ne_of h e (by intro q; cases q))]; exact h⟩)
    · exact .inr h
  · rw [upd_ne (fun z => n (by rw [z]; exact hp))]; exact q
  · rw [upd_ne (ne_of q e (by intro q; cases q))]; exact q
mutual
theorem Dt.im : ∀ {v : V} {d : D}, d.imm = true → Dt K cl N H v d → Dt K cl N' H v d
  | _, _, _, .non => .non
  | _, _, _, .bl b => .bl b
  | _, _, _, .int i => .int i
  | _, _, _, .str x => .str x
  | _, _, _, .raw p => .raw p
  | _, _, i, .tup s h => .tup s (DtA.im (by simpa [D.imm] using i) h)
  | _, _, i, .lst e n b h => by simp [D.imm] at i
  | _, _, i, .obj e f h => .obj e f (DtA.im (by simpa [D.imm] using i) h)
  | _, _, i, .box b n m => by simp [D.imm] at i
theorem DtA.im : ∀ {vs : List V} {ds : List D}, D.immA ds = true → DtA K cl N H vs ds → DtA K cl N' H vs ds
  | _, _, _, .nil => .nil
  | _, _, i, .cons h r => .cons (Dt.im (by rw [D.immA, Bool.and_eq_true] at i; exact i.1) h) (DtA.im (by rw [D.immA, Bool.and_eq_true] at i; exact i.2) r)
end
theorem DtA.length : ∀ {vs : List V} {ds : List D}, DtA K cl N H vs ds → vs.length = ds.length
  | _, _, .nil => rfl
  | _, _, .cons _ r => by rw [List.length_cons, List.length_cons, r.length]
theorem DtA.get : ∀ {vs : List V} {ds : List D} {i : Nat} {d : D}, DtA K cl N H vs ds → ds[i]? = some d → ∃ v, vs[i]? = some v ∧ Dt K cl N H v d
  | _, _, _, _, .nil, e => by simp at e
  | _, _, 0, _, .cons h _, e => by simp at e; subst e; exact ⟨_, rfl, h⟩
  | _, _, i + 1, d, .cons _ r, e => by
    obtain ⟨v, h1, h2⟩ := DtA.get (i := i) (d := d) r (by simpa using e)
    exact ⟨v, by simpa using h1, h2⟩
theorem DtA.get' : ∀ {vs : List V} {ds : List D} {i : Nat} {v : V}, DtA K cl N H vs ds → vs[i]? = some v → ∃ d, ds[i]? = some d ∧ Dt K cl N H v d
  | _, _, _, _, .nil, e => by simp at e
  | _, _, 0, _, .cons h _, e => by simp at e; subst e; exact ⟨_, rfl, h⟩
  | _, _, i + 1, d, .cons _ r, e => by
    obtain ⟨v, h1, h2⟩ := DtA.get' (i := i) (v := d) r (by simpa using e)
    exact ⟨v, by simpa using h1, h2⟩
theorem DtA.app : ∀ {vs ws : List V} {ds es : List D}, DtA K cl N H vs ds → DtA K cl N H ws es → DtA K cl N H (vs ++ ws) (ds ++ es)
  | _, _, _, _, .nil, h => h
  | _, _, _, _, .cons a r, h => .cons a (r.app h)
theorem DtA.take : ∀ {vs : List V} {ds : List D} (n : Nat), DtA K cl N H vs ds → DtA K cl N H (vs.take n) (ds.take n)
  | _, _, 0, _ => .nil
  | _, _, _ + 1, .nil => .nil
  | _, _, n + 1, .cons a r => .cons a (r.take n)
theorem DtA.drop : ∀ {vs : List V} {ds : List D} (n : Nat), DtA K cl N H vs ds → DtA K cl N H (vs.drop n) (ds.drop n)
  | _, _, 0, h => h
  | _, _, _ + 1, .nil => .nil
  | _, _, n + 1, .cons _ r => r.drop n
theorem DtA.erase : ∀ {vs : List V} {ds : List D} (n : Nat), DtA K cl N H vs ds → DtA K cl N H (vs.eraseIdx n) (ds.eraseIdx n)
  | _, _, _, .nil => .nil
  | _, _, 0, .cons _ r => r
  | _, _, n + 1, .cons a r => .cons a (r.erase n)
theorem DtA.one {v : V} {d : D} (h : Dt K cl N H v d) : DtA K cl N H [v] [d] := .cons h .nil
theorem DtA.ints : ∀ ns : List Int, DtA K cl N H (ns.map V.int) (ns.map D.int)
  | [] => .nil
  | n :: r => .cons (.int n) (DtA.ints r)
theorem DtA.of_ints : ∀ {ns : List Int} {vs : List V}, DtA K cl N H vs (ns.map D.int) → vs = ns.map V.int
  | [], _, .nil => rfl
  | n :: r, _, .cons (.int _) h => by rw [h.of_ints]; rfl
end

/-- data that is an int -/
def D.isI : D → Bool
  | .int _ => true
  | _ => false
/-- all ints, or none: no box -/
def hom (ds : List D) : Prop := (∀ d ∈ ds, d.isI = true) ∨ (∀ d ∈ ds, d.isI = false)
theorem hom.nobox {K : PySem.W.Frag} {cl : Kd → Addr} {N : Addr → Prop} {H : Hp} {vs : List V} {ds : List D} (h : hom ds) (r : DtA K cl N H vs ds) : ¬ BoxV vs := by
  rintro ⟨c, i, a, s, rfl⟩
  cases r with
  | cons r1 r =>
    cases r with
    | cons r2 r =>
      cases r2
      rcases h with h | h
      · have := h _ List.mem_cons_self
        cases r1 <;> exact Bool.false_ne_true this
      · have := h (.int i) (by simp)
        simp [D.isI] at this
theorem hom_nil : hom [] := .inl (by simp)
theorem hom_ints (ns : List Int) : hom (ns.map D.int) := .inl (by intro d hd; obtain ⟨n, _, rfl⟩ := List.mem_map.mp hd; rfl)
theorem hom_map {α : Type} (f : α → D) (h : ∀ x, (f x).isI = false) (l : List α) : hom (l.map f) := .inr (by intro d hd; obtain ⟨n, _, rfl⟩ := List.mem_map.mp hd; exact h n)
theorem hom_app_l {ds es : List D} (h : ∀ d ∈ ds, d.isI = false) (h2 : ∀ d ∈ es, d.isI = false) : hom (ds ++ es) := .inr (by intro d hd; rcases List.mem_append.mp hd with z | z; exact h d z; exact h2 d z)

/-! ### slots -/
/-- a slot: not told; a value that is d (true: apart from M too); a list of the def's own -/
inductive G where
  | un
  | v (b : Bool) (d : D)
  | ow (ds : List D)
def Ow (σ : L2.St) (γ : List G) (p : Addr) : Prop := ∃ (i : Nat) (ds : List D), γ[i]? = some (.ow ds) ∧ σ[i]? = some (some (.ref p))
def SpN (b : Bool) (M : Addr → Prop) (σ : L2.St) (γ : List G) (p : Addr) : Prop := (b = true ∧ M p) ∨ Ow σ γ p
structure EO (K : PySem.W.Frag) (cl : Kd → Addr) (M : Addr → Prop) (H0 H : Hp) (σ : L2.St) (γ : List G) : Prop where
  kp : Kp H0 H
  md : ∀ p, M p → H p ≠ none
  ln : σ.length = γ.length
  vl : ∀ (i : Nat) (b : Bool) (d : D), γ[i]? = some (.v b d) → ∃ v, σ[i]? = some (some v) ∧ Dt K cl (SpN b M σ γ) H v d
  ow : ∀ (i : Nat) (ds : List D), γ[i]? = some (.ow ds) → ∃ p vs, σ[i]? = some (some (.ref p)) ∧ H0 p = none ∧ ¬ M p ∧ H p = some (.lst vs) ∧ ¬ BoxV vs ∧ DtA K cl (SpN true M σ γ) H vs ds
  dj : ∀ (i j : Nat) (p : Addr) (ds es : List D), γ[i]? = some (.ow ds) → γ[j]? = some (.ow es) → σ[i]? = some (some (.ref p)) → σ[j]? = some (some (.ref p)) → i = j
section
variable {K : PySem.W.Frag} {cl : Kd → Addr} {M : Addr → Prop} {H0 H H' : Hp} {σ : L2.St} {γ : List G}
theorem EO.go (e : EO K cl M H0 H σ γ) (k : Kp H H') : EO K cl M H0 H' σ γ := by
  refine ⟨e.kp.trans k, fun p h => k.dm p (e.md p h), e.ln, fun i b d h => ?_, fun i ds h => ?_, e.dj⟩
  · obtain ⟨v, h1, h2⟩ := e.vl i b d h
    exact ⟨v, h1, h2.tr (.kp k)⟩
  · obtain ⟨p, vs, h1, h2, h3, h4, h5, h6⟩ := e.ow i ds h
    exact ⟨p, vs, h1, h2, h3, k.st _ _ h4 (by rintro ⟨ws, q, z⟩; cases q; exact h5 z), h5, h6.tr (.kp k)⟩
theorem EO.own (e : EO K cl M H0 H σ γ) {p : Addr} (h : Ow σ γ p) : H0 p = none ∧ ¬ M p ∧ ∃ vs, H p = some (.lst vs) ∧ ¬ BoxV vs := by
  obtain ⟨i, ds, h1, h2⟩ := h
  obtain ⟨q, vs, g1, g2, g3, g4, g5, g6⟩ := e.ow i ds h1
  rw [h2] at g1
  cases g1
  exact ⟨g2, g3, vs, g4, g5⟩
end

/-! ### results -/
/-- apart from M; apart from the own lists; a list is new -/
structure Md where
  m : Bool
  o : Bool
  f : Bool
abbrev mA : Md := ⟨false, false, false⟩
abbrev mO : Md := ⟨false, true, false⟩
abbrev mS : Md := ⟨true, true, false⟩
abbrev mF : Md := ⟨true, true, true⟩
abbrev mR : Md := ⟨true, false, false⟩
def RN (md : Md) (M : Addr → Prop) (σ : L2.St) (γ : List G) (p : Addr) : Prop := (md.m = true ∧ M p) ∨ (md.o = true ∧ Ow σ γ p)
def Res (K : PySem.W.Frag) (cl : Kd → Addr) (md : Md) (M : Addr → Prop) (H H' : Hp) (σ : L2.St) (γ : List G) (v : V) (d : D) : Prop :=
  Dt K cl (RN md M σ γ) H' v d ∧ (md.f = true → ∀ ds, d = .lst ds → ∃ p, v = .ref p ∧ H p = none)
/-- md is at most md' -/
def Md.le (a b : Md) : Bool := (!a.m || b.m) && (!a.o || b.o) && (!a.f || b.f)
section
variable {K : PySem.W.Frag} {cl : Kd → Addr} {M : Addr → Prop} {H0 H H1 H' : Hp} {σ : L2.St} {γ : List G} {v : V} {d : D} {a b : Md}
theorem Res.le (h : a.le b = true) (r : Res K cl b M H H' σ γ v d) : Res K cl a M H H' σ γ v d := by
  obtain ⟨am, ao, af⟩ := a
  obtain ⟨bm, bo, bf⟩ := b
  refine ⟨r.1.tr (.weak fun p hp => ?_), fun z => r.2 ?_⟩
  · rcases hp with ⟨h1, h2⟩ | ⟨h1, h2⟩
    · left; refine ⟨?_, h2⟩
      cases am <;> cases bm <;> simp_all [Md.le]
    · right; refine ⟨?_, h2⟩
      cases ao <;> cases bo <;> simp_all [Md.le]
  · cases af <;> cases bf <;> simp_all [Md.le]
theorem Res.im (i : d.imm = true) (r : Res K cl a M H H' σ γ v d) : Res K cl b M H H' σ γ v d :=
  ⟨r.1.im i, fun _ ds e => by subst e; simp [D.imm] at i⟩
/-- data without lists, however it came -/
theorem Res.of_im (i : d.imm = true) {N : Addr → Prop} (r : Dt K cl N H' v d) : Res K cl b M H H' σ γ v d :=
  ⟨r.im i, fun _ ds e => by subst e; simp [D.imm] at i⟩
theorem Res.go (k : Kp H' H1) (r : Res K cl a M H H' σ γ v d) : Res K cl a M H H1 σ γ v d := ⟨r.1.tr (.kp k), r.2⟩
theorem Res.bk (k : Kp H1 H) (r : Res K cl a M H H' σ γ v d) : Res K cl a M H1 H' σ γ v d :=
  ⟨r.1, fun z ds e => by obtain ⟨p, h1, h2⟩ := r.2 z ds e; exact ⟨p, h1, k.back h2⟩⟩
end
end DL

/-! DL2: judgements on the text that speak of data: expressions DE, tests DT, arguments DA; the rules of expressions. -/
namespace DL
open PySem PySem.Spec PyProof.Rows L2

/-! ### data compared -/
mutual
def D.py : D → PyData
  | .int i => .int i
  | .str x => .str x
  | .bl b => .bool b
  | .tup ds => .tuple (D.pyA ds)
  | .lst ds => .list (D.pyA ds)
  | .non => .none
  | .obj _ _ => .none
  | .box => .none
  | .raw _ => .none
def D.pyA : List D → List PyData
  | [] => []
  | d :: ds => d.py :: D.pyA ds
/-- comparable, at most n deep -/
def D.cm : Nat → D → Bool
  | _, .int _ => true
  | _, .non => true
  | _, .str x => PyData.strOk x
  | n, .tup ds => n != 0 && D.cmA (n - 1) ds
  | n, .lst ds => n != 0 && D.cmA (n - 1) ds
  | _, .bl _ => false
  | _, .obj _ _ => false
  | _, .box => false
  | _, .raw _ => false
def D.cmA : Nat → List D → Bool
  | _, [] => true
  | n, d :: ds => D.cm n d && D.cmA n ds
end
theorem cmA_of {n : Nat} : ∀ {ds : List D}, (∀ d ∈ ds, d.cm n = true) → D.cmA n ds = true
  | [], _ => by simp [D.cmA]
  | d :: ds, h => by
    rw [D.cmA, h d List.mem_cons_self, cmA_of fun x hx => h x (List.mem_cons_of_mem _ hx)]; rfl
theorem of_cmA {n : Nat} : ∀ {ds : List D}, D.cmA n ds = true → ∀ d ∈ ds, d.cm n = true
  | d :: ds, h, x, hx => by
    rw [D.cmA, Bool.and_eq_true] at h
    rcases List.mem_cons.mp hx with rfl | hx
    · exact h.1
    · exact of_cmA h.2 x hx
mutual
theorem cm_lay : ∀ (n : Nat) (d : D), d.cm n = true → d.py.canLay0 = true ∧ d.py.depth ≤ n
  | _, .int _, _ => ⟨by simp [D.py, PyData.canLay0], by simp [D.py, PyData.depth]⟩
  | _, .non, _ => ⟨by simp [D.py, PyData.canLay0], by simp [D.py, PyData.depth]⟩
  | _, .str x, h => ⟨by simpa [D.py, PyData.canLay0, D.cm] using h, by simp [D.py, PyData.depth]⟩
  | n, .tup ds, h => by
    simp only [D.cm, Bool.and_eq_true, bne_iff_ne] at h
    obtain ⟨a, b⟩ := cmA_lay (n - 1) ds h.2
    refine ⟨by simpa [D.py, PyData.canLay0] using a, ?_⟩
    simp only [D.py, PyData.depth]
    omega
  | n, .lst ds, h => by
    simp only [D.cm, Bool.and_eq_true, bne_iff_ne] at h
    obtain ⟨a, b⟩ := cmA_lay (n - 1) ds h.2
    refine ⟨by simpa [D.py, PyData.canLay0] using a, ?_⟩
    simp only [D.py, PyData.depth]
    omega
  | _, .bl _, h => by simp [D.cm] at h
  | _, .obj _ _, h => by simp [D.cm] at h
  | _, .box, h => by simp [D.cm] at h
  | _, .raw _, h => by simp [D.cm] at h
theorem cmA_lay : ∀ (n : Nat) (ds : List D), D.cmA n ds = true → PyData.canLayAll0 (D.pyA ds) = true ∧ PyData.depthAll (D.pyA ds) ≤ n
  | _, [], _ => ⟨by simp [D.pyA, PyData.canLayAll0], by simp [D.pyA, PyData.depthAll]⟩
  | n, d :: ds, h => by
    rw [D.cmA, Bool.and_eq_true] at h
    obtain ⟨a, b⟩ := cm_lay n d h.1
    obtain ⟨a', b'⟩ := cmA_lay n ds h.2
    refine ⟨by simp [D.pyA, PyData.canLayAll0, a, a'], ?_⟩
    simp only [D.pyA, PyData.depthAll]
    omega
end
mutual
theorem cm_eqv : ∀ (n m : Nat) (d e : D), d.cm n = true → e.cm m = true → (PyData.eqv d.py e.py = true ↔ d = e)
  | _, _, .int i, .int j, _, _ => by simp [D.py, PyData.eqv]
  | _, _, .non, .non, _, _ => by simp [D.py, PyData.eqv]
  | _, _, .str x, .str y, _, _ => by simp [D.py, PyData.eqv]
  | n, m, .tup ds, .tup es, h, h' => by
    simp only [D.cm, Bool.and_eq_true] at h h'
    simp only [D.py, PyData.eqv, D.tup.injEq]
    exact cmA_eqv _ _ ds es h.2 h'.2
  | n, m, .lst ds, .lst es, h, h' => by
    simp only [D.cm, Bool.and_eq_true] at h h'
    simp only [D.py, PyData.eqv, D.lst.injEq]
    exact cmA_eqv _ _ ds es h.2 h'.2
  | _, _, .int _, .non, _, _ => by simp [D.py, PyData.eqv]
  | _, _, .int _, .str _, _, _ => by simp [D.py, PyData.eqv]
  | _, _, .int _, .tup _, _, _ => by simp [D.py, PyData.eqv]
  | _, _, .int _, .lst _, _, _ => by simp [D.py, PyData.eqv]
  | _, _, .non, .int _, _, _ => by simp [D.py, PyData.eqv]
  | _, _, .non, .str _, _, _ => by simp [D.py, PyData.eqv]
  | _, _, .non, .tup _, _, _ => by simp [D.py, PyData.eqv]
  | _, _, .non, .lst _, _, _ => by simp [D.py, PyData.eqv]
  | _, _, .str _, .int _, _, _ => by simp [D.py, PyData.eqv]
  | _, _, .str _, .non, _, _ => by simp [D.py, PyData.eqv]
  | _, _, .str _, .tup _, _, _ => by simp [D.py, PyData.eqv]
  | _, _, .str _, .lst _, _, _ => by simp [D.py, PyData.eqv]
  | _, _, .tup _, .int _, _, _ => by simp [D.py, PyData.eqv]
  | _, _, .tup _, .non, _, _ => by simp [D.py, PyData.eqv]
  | _, _, .tup _, .str _, _, _ => by simp [D.py, PyData.eqv]
  | _, _, .tup _, .lst _, _, _ => by simp [D.py, PyData.eqv]
  | _, _, .lst _, .int _, _, _ => by simp [D.py, PyData.eqv]
  | _, _, .lst _, .non, _, _ => by simp [D.py, PyData.eqv]
  | _, _, .lst _, .str _, _, _ => by simp [D.py, PyData.eqv]
  | _, _, .lst _, .tup _, _, _ => by simp [D.py, PyData.eqv]
  | _, _, .bl _, _, h, _ => by simp [D.cm] at h
  | _, _, .obj _ _, _, h, _ => by simp [D.cm] at h
  | _, _, .box, _, h, _ => by simp [D.cm] at h
  | _, _, .raw _, _, h, _ => by simp [D.cm] at h
  | _, _, _, .bl _, _, h => by simp [D.cm] at h
  | _, _, _, .obj _ _, _, h => by simp [D.cm] at h
  | _, _, _, .box, _, h => by simp [D.cm] at h
  | _, _, _, .raw _, _, h => by simp [D.cm] at h
theorem cmA_eqv : ∀ (n m : Nat) (ds es : List D), D.cmA n ds = true → D.cmA m es = true → (PyData.eqvAll (D.pyA ds) (D.pyA es) = true ↔ ds = es)
  | _, _, [], [], _, _ => by simp [D.pyA, PyData.eqvAll]
  | _, _, [], _ :: _, _, _ => by simp [D.pyA, PyData.eqvAll]
  | _, _, _ :: _, [], _, _ => by simp [D.pyA, PyData.eqvAll]
  | n, m, d :: ds, e :: es, h, h' => by
    rw [D.cmA, Bool.and_eq_true] at h h'
    simp only [D.pyA, PyData.eqvAll, Bool.and_eq_true, List.cons.injEq]
    rw [cm_eqv n m d e h.1 h'.1, cmA_eqv n m ds es h.2 h'.2]
end
section
variable {K : PySem.W.Frag} {cl : Kd → Addr} {N : Addr → Prop} {H : Hp}
mutual
theorem Dt.dp' : ∀ {v : V} {d : D}, Dt K cl N H v d → ∀ n : Nat, d.cm n = true → Dp K H v d.py
  | _, _, .non, _, _ => by rw [D.py]; exact .non
  | _, _, .bl b, _, h => by simp [D.cm] at h
  | _, _, .raw b, _, h => by simp [D.cm] at h
  | _, _, .int i, _, _ => by rw [D.py]; exact .int i
  | _, _, .str x, _, _ => by rw [D.py]; exact .str x
  | _, _, .tup s r, n, h => by
    simp only [D.cm, Bool.and_eq_true] at h
    rw [D.py]; exact .tup s (DtA.dp' r _ h.2)
  | _, _, .lst e m b r, n, h => by
    simp only [D.cm, Bool.and_eq_true] at h
    rw [D.py]; exact .lst (SqL.of e) (DtA.dp' r _ h.2)
  | _, _, .obj _ _ _, _, h => by simp [D.cm] at h
  | _, _, .box _ _ _, _, h => by simp [D.cm] at h
theorem DtA.dp' : ∀ {vs : List V} {ds : List D}, DtA K cl N H vs ds → ∀ n : Nat, D.cmA n ds = true → DpAll K H vs (D.pyA ds)
  | _, _, .nil, _, _ => by rw [D.pyA]; exact .nil
  | _, _, .cons a r, n, h => by
    rw [D.cmA, Bool.and_eq_true] at h
    rw [D.pyA]; exact .cons (Dt.dp' a _ h.1) (DtA.dp' r _ h.2)
end
theorem Dt.dp {n : Nat} {v : V} {d : D} (h : d.cm n = true) (r : Dt K cl N H v d) : Dp K H v d.py := r.dp' n h
end
theorem cm_shaped {n : Nat} {d : D} (h : d.cm n = true) (hn : n ≤ 64) : SeqAt.shaped d.py = true := by
  obtain ⟨a, b⟩ := cm_lay n d h
  unfold SeqAt.shaped
  rw [a, decide_eq_true (Nat.le_trans b hn)]; rfl
theorem any_eqv {n m : Nat} {d : D} (h : d.cm n = true) : ∀ {ds : List D}, D.cmA m ds = true → (((D.pyA ds).any fun z => PyData.eqv z d.py) = true ↔ d ∈ ds)
  | [], _ => by simp [D.pyA]
  | e :: es, h' => by
    rw [D.cmA, Bool.and_eq_true] at h'
    simp only [D.pyA, List.any_cons, Bool.or_eq_true, List.mem_cons]
    rw [any_eqv h h'.2, cm_eqv m n e d h'.1 h]
    exact ⟨fun z => z.imp (fun e => e.symm) id, fun z => z.imp (fun e => e.symm) id⟩

/-! ### the best readings of a piece of text, for all contexts of a family -/
section
variable {ι : Type} (X : ι → Cx)
def rE (e : Expr) : TE := fun σ H Q => ∃ t, (∀ i, PE (X i) e t) ∧ t σ H Q
def rT (e : Expr) : TT := fun σ H Q => ∃ t, (∀ i, PT (X i) e t) ∧ t σ H Q
def rW (e : Expr) : TT := fun σ H Q => ∃ t, (∀ i, PW (X i) e t) ∧ t σ H Q
def rA (es : List Expr) : TA := fun σ H Q => ∃ t, (∀ i, PA (X i) es t) ∧ t σ H Q
end
section
variable {ι : Type} {X : ι → Cx}
theorem peR {e : Expr} (i : ι) : PE (X i) e (rE X e) := ⟨fun pins s σ H Q I ⟨_, h, q⟩ => (h i).run pins s σ H Q I q⟩
theorem ptR {e : Expr} (i : ι) : PT (X i) e (rT X e) := ⟨fun pins s σ H Q I ⟨_, h, q⟩ => (h i).run pins s σ H Q I q⟩
theorem pwR {e : Expr} (i : ι) : PW (X i) e (rW X e) := ⟨fun wh pins s σ H Q I ⟨_, h, q⟩ => (h i).run wh pins s σ H Q I q⟩
theorem paR {es : List Expr} (i : ι) : PA (X i) es (rA X es) := ⟨fun pos pins s σ H Q I ⟨_, h, q⟩ => (h i).run pos pins s σ H Q I q⟩
end

/-! ### judgements -/
section
variable (K : PySem.W.Frag) (cl : Kd → Addr)
def EvX (t : TE) (γ : List G) (md : Md) (P : D → Prop) : Prop :=
  ∀ M H0 H σ, EO K cl M H0 H σ γ → ∀ Q : VK, (∀ v H' d, Kp H H' → P d → Res K cl md M H H' σ γ v d → Q v H') → t σ H Q
def EvT (t : TT) (γ : List G) (P : Bool → Prop) : Prop :=
  ∀ M H0 H σ, EO K cl M H0 H σ γ → ∀ Q : Bool → Hp → Prop, (∀ b H', Kp H H' → P b → Q b H') → t σ H Q
def EvA (t : TA) (γ : List G) (md : Md) (P : List D → Prop) : Prop :=
  ∀ M H0 H σ, EO K cl M H0 H σ γ → ∀ Q : List V → Hp → Prop, (∀ vs H' ds, Kp H H' → P ds → DtA K cl (RN md M σ γ) H' vs ds → Q vs H') → t σ H Q
end
section
variable {ι : Type} (X : ι → Cx) (K : PySem.W.Frag) (cl : Kd → Addr)
def DE (e : Expr) (γ : List G) (md : Md) (P : D → Prop) : Prop := EvX K cl (rE X e) γ md P
def DTe (e : Expr) (γ : List G) (P : Bool → Prop) : Prop := EvT K cl (rT X e) γ P
def DW (e : Expr) (γ : List G) (P : Bool → Prop) : Prop := EvT K cl (rW X e) γ P
def DA (es : List Expr) (γ : List G) (md : Md) (P : List D → Prop) : Prop := EvA K cl (rA X es) γ md P
end
/-- exactly d -/
abbrev Is (d : D) : D → Prop := fun x => x = d
/-- an int with p -/
abbrev IsI (p : Int → Prop) : D → Prop := fun x => ∃ i, x = .int i ∧ p i
/-- a bool that tells φ -/
abbrev Vb (φ : Prop) : D → Prop := fun x => ∃ b : Bool, x = .bl b ∧ (b = true ↔ φ)
/-- a test that tells φ -/
abbrev Tt (φ : Prop) : Bool → Prop := fun b => (b = true ↔ φ)

section
variable {ι : Type} {X : ι → Cx} {K : PySem.W.Frag} {cl : Kd → Addr} {γ : List G} {e a b c : Expr} {es : List Expr} {pos : Pos} {md ma mb : Md} {P P' Pa Pb : D → Prop} {φ ψ : Prop}

theorem DE.mono (h : DE X K cl e γ md P) (hp : ∀ d, P d → P' d) : DE X K cl e γ md P' :=
  fun M H0 H σ E Q q => h M H0 H σ E Q fun v H' d k p r => q v H' d k (hp d p) r
theorem DE.le (h : DE X K cl e γ md P) (hl : ma.le md = true) : DE X K cl e γ ma P :=
  fun M H0 H σ E Q q => h M H0 H σ E Q fun v H' d k p r => q v H' d k p (r.le hl)
/-- data without lists may be taken in any mode -/
theorem DE.im (h : DE X K cl e γ md P) (hi : ∀ d, P d → d.imm = true) : DE X K cl e γ ma P :=
  fun M H0 H σ E Q q => h M H0 H σ E Q fun v H' d k p r => q v H' d k p (r.im (hi d p))
theorem DTe.mono {P P' : Bool → Prop} (h : DTe X K cl e γ P) (hp : ∀ d, P d → P' d) : DTe X K cl e γ P' :=
  fun M H0 H σ E Q q => h M H0 H σ E Q fun b H' k p => q b H' k (hp b p)
theorem DA.mono {P P' : List D → Prop} (h : DA X K cl es γ md P) (hp : ∀ d, P d → P' d) : DA X K cl es γ md P' :=
  fun M H0 H σ E Q q => h M H0 H σ E Q fun v H' d k p r => q v H' d k (hp d p) r
theorem Tt.iff (h : DTe X K cl e γ (Tt φ)) (hp : φ ↔ ψ) : DTe X K cl e γ (Tt ψ) := h.mono fun b z => z.trans hp

/-! ### names, constants -/
theorem de_var {j : Nat} {x : Str} {f : Bool} {d : D} (hj : γ[j]? = some (.v f d)) (hN : ∀ i, (X i).N[j]? = some x) (hv : ∀ i, Vis (X i).env.scope x) (h1 : (x == ("__debug__" : Str)) = false) (h2 : (x == ("__classdict__" : Str)) = false) :
    DE X K cl (.Name x pos) γ ⟨f, true, false⟩ (Is d) := by
  intro M H0 H σ E Q q
  obtain ⟨v, e1, r⟩ := E.vl j f d hj
  refine ⟨tVar j, fun i => pe_var (hN i) (hv i) h1 h2, v, e1, q v H d (Kp.refl H) rfl ⟨r.tr (.weak fun p hp => ?_), fun z => nomatch z⟩⟩
  rcases hp with hp | ⟨_, hp⟩
  · exact .inl hp
  · exact .inr hp
/-- an own list as it stands -/
theorem de_own {j : Nat} {x : Str} {ds : List D} (hj : γ[j]? = some (.ow ds)) (hN : ∀ i, (X i).N[j]? = some x) (hv : ∀ i, Vis (X i).env.scope x) (h1 : (x == ("__debug__" : Str)) = false) (h2 : (x == ("__classdict__" : Str)) = false) :
    DE X K cl (.Name x pos) γ mR (Is (.lst ds)) := by
  intro M H0 H σ E Q q
  obtain ⟨p, vs, e1, g1, g2, g3, g4, g5⟩ := E.ow j ds hj
  refine ⟨tVar j, fun i => pe_var (hN i) (hv i) h1 h2, _, e1, q _ H _ (Kp.refl H) rfl ⟨.lst g3 ?_ g4 (g5.tr (.weak fun p hp => ?_)), fun z => nomatch z⟩⟩
  · rintro (⟨_, z⟩ | ⟨z, _⟩)
    · exact g2 z
    · cases z
  · rcases hp with hp | ⟨z, _⟩
    · exact .inl hp
    · cases z
theorem de_int {i : Int} {k : Nat} : DE X K cl (.Constant (.int i) k pos) γ md (Is (.int i)) :=
  fun M H0 H σ E Q q => ⟨_, fun i => pe_int, q _ H _ (Kp.refl H) rfl (.of_im (N := fun _ => False) rfl (.int i))⟩
theorem de_bl {i : Bool} {k : Nat} : DE X K cl (.Constant (.bool i) k pos) γ md (Is (.bl i)) :=
  fun M H0 H σ E Q q => ⟨_, fun i => pe_bl, q _ H _ (Kp.refl H) rfl (.of_im (N := fun _ => False) rfl (.bl i))⟩
theorem de_non {k : Nat} : DE X K cl (.Constant .none k pos) γ md (Is .non) :=
  fun M H0 H σ E Q q => ⟨_, fun i => pe_non, q _ H _ (Kp.refl H) rfl (.of_im (N := fun _ => False) rfl .non)⟩
theorem de_str {i : Str} {k : Nat} : DE X K cl (.Constant (.str i) k pos) γ md (Is (.str i)) :=
  fun M H0 H σ E Q q => ⟨_, fun i => pe_str, q _ H _ (Kp.refl H) rfl (.of_im (N := fun _ => False) rfl (.str i))⟩
/-- a module's constant -/
theorem de_glob {x : Str} {v : V} {d : D} (hg : ∀ i, Gl (X i) x) (hm : ∀ i, ∃ u, (X i).mg x = some u ∧ RelV v u) (hd : ∀ H, Dt K cl (fun _ => False) H v d) (hi : d.imm = true) (h1 : (x == ("__debug__" : Str)) = false) : DE X K cl (.Name x pos) γ md (Is d) :=
  fun M H0 H σ E Q q => ⟨_, fun i => let ⟨_, h, r⟩ := hm i; pe_glob (hg i) h r h1, q _ H _ (Kp.refl H) rfl (.of_im hi (hd H))⟩

/-! ### arithmetic -/
/-- a two-place operation on ints, by its rule -/
theorem ev_int2 {r : R2} {p q s : Int → Prop} {ta tb : TE} (ha : EvX K cl ta γ ma (IsI p)) (hb : EvX K cl tb γ mb (IsI q)) (g : Int → Int → Int) (C : Int → Int → Prop) (hr : ∀ i j H Q, C i j → Q (.int (g i j)) H → r (.int i) (.int j) H Q)
    (hc : ∀ i j, p i → q j → C i j ∧ s (g i j)) : EvX K cl (tOp r ta tb) γ md (IsI s) := by
  intro M H0 H σ E Q k
  refine ha M H0 H σ E _ fun v H1 d k1 ⟨i, e1, p1⟩ r1 => ?_
  subst e1
  refine hb M H0 H1 σ (E.go k1) _ fun w H2 e k2 ⟨j, e2, p2⟩ r2 => ?_
  subst e2
  obtain ⟨r1, _⟩ := r1
  obtain ⟨r2, _⟩ := r2
  cases r1
  cases r2
  obtain ⟨c1, c2⟩ := hc i j p1 p2
  exact hr i j H2 Q c1 (k _ H2 _ (k1.trans k2) ⟨_, rfl, c2⟩ (.of_im (N := fun _ => False) rfl (.int _)))
theorem de_add {p q s : Int → Prop} (ha : DE X K cl a γ ma (IsI p)) (hb : DE X K cl b γ mb (IsI q)) (h : ∀ i j, p i → q j → s (i + j)) : DE X K cl (.BinOp a .Add b pos) γ md (IsI s) :=
  fun M H0 H σ E Q k => ⟨_, fun i => pe_op op_add (peR i) (peR i), ev_int2 ha hb (fun i j => i + j) (fun _ _ => True) (fun i j H Q _ q => ⟨i, j, rfl, rfl, q⟩) (fun i j x y => ⟨trivial, h i j x y⟩) M H0 H σ E Q k⟩
theorem de_sub {p q s : Int → Prop} (ha : DE X K cl a γ ma (IsI p)) (hb : DE X K cl b γ mb (IsI q)) (h : ∀ i j, p i → q j → s (i - j)) : DE X K cl (.BinOp a .Sub b pos) γ md (IsI s) :=
  fun M H0 H σ E Q k => ⟨_, fun i => pe_op op_sub (peR i) (peR i), ev_int2 ha hb (fun i j => i - j) (fun _ _ => True) (fun i j H Q _ q => ⟨i, j, rfl, rfl, q⟩) (fun i j x y => ⟨trivial, h i j x y⟩) M H0 H σ E Q k⟩
theorem de_mul {p q s : Int → Prop} (ha : DE X K cl a γ ma (IsI p)) (hb : DE X K cl b γ mb (IsI q)) (h : ∀ i j, p i → q j → CMul i j ∧ s (i * j)) : DE X K cl (.BinOp a .Mult b pos) γ md (IsI s) :=
  fun M H0 H σ E Q k => ⟨_, fun i => pe_op op_mul (peR i) (peR i), ev_int2 ha hb (fun i j => i * j) CMul (fun i j H Q c q => ⟨i, j, rfl, rfl, c, q⟩) h M H0 H σ E Q k⟩
theorem de_fdiv {p q s : Int → Prop} (ha : DE X K cl a γ ma (IsI p)) (hb : DE X K cl b γ mb (IsI q)) (h : ∀ i j, p i → q j → CDiv i j ∧ s (i / j)) : DE X K cl (.BinOp a .FloorDiv b pos) γ md (IsI s) :=
  fun M H0 H σ E Q k => ⟨_, fun i => pe_op op_fdiv (peR i) (peR i), ev_int2 ha hb (fun i j => i / j) CDiv (fun i j H Q c q => ⟨i, j, rfl, rfl, c, q⟩) h M H0 H σ E Q k⟩
theorem de_mod {p q s : Int → Prop} (ha : DE X K cl a γ ma (IsI p)) (hb : DE X K cl b γ mb (IsI q)) (h : ∀ i j, p i → q j → 0 < j ∧ s (i % j)) : DE X K cl (.BinOp a .Mod b pos) γ md (IsI s) :=
  fun M H0 H σ E Q k => ⟨_, fun i => pe_op op_mod (peR i) (peR i), ev_int2 ha hb (fun i j => i % j) (fun _ j => 0 < j) (fun i j H Q c q => ⟨i, j, rfl, rfl, c, q⟩) h M H0 H σ E Q k⟩
theorem de_pow {p q s : Int → Prop} (ha : DE X K cl a γ ma (IsI p)) (hb : DE X K cl b γ mb (IsI q)) (h : ∀ i j, p i → q j → CPow i j ∧ s (i ^ j.toNat)) : DE X K cl (.BinOp a .Pow b pos) γ md (IsI s) :=
  fun M H0 H σ E Q k => ⟨_, fun i => pe_op op_pow (peR i) (peR i), ev_int2 ha hb (fun i j => i ^ j.toNat) CPow (fun i j H Q c q => ⟨i, j, rfl, rfl, c, q⟩) h M H0 H σ E Q k⟩
theorem de_neg {p s : Int → Prop} (ha : DE X K cl a γ ma (IsI p)) (h : ∀ i, p i → s (-i)) : DE X K cl (.UnaryOp .USub a pos) γ md (IsI s) := by
  intro M H0 H σ E Q k
  refine ⟨_, fun i => pe_un un_neg (peR i), ha M H0 H σ E _ fun v H1 d k1 ⟨i, e1, p1⟩ r1 => ?_⟩
  subst e1
  obtain ⟨r1, _⟩ := r1
  cases r1
  exact ⟨i, rfl, k _ H1 _ k1 ⟨_, rfl, h i p1⟩ (.of_im (N := fun _ => False) rfl (.int _))⟩
/-- exact ints as IsI -/
theorem DE.i {n : Int} (h : DE X K cl e γ md (Is (.int n))) : DE X K cl e γ md (IsI (· = n)) := h.mono fun d z => ⟨n, z, rfl⟩
theorem DE.ex {n : Int} (h : DE X K cl e γ md (IsI (· = n))) : DE X K cl e γ md (Is (.int n)) := h.mono fun d z => by obtain ⟨i, e, rfl⟩ := z; exact e
theorem de_addE {i j : Int} (ha : DE X K cl a γ ma (Is (.int i))) (hb : DE X K cl b γ mb (Is (.int j))) : DE X K cl (.BinOp a .Add b pos) γ md (Is (.int (i + j))) := (de_add ha.i hb.i (by rintro _ _ rfl rfl; rfl)).ex
theorem de_subE {i j : Int} (ha : DE X K cl a γ ma (Is (.int i))) (hb : DE X K cl b γ mb (Is (.int j))) : DE X K cl (.BinOp a .Sub b pos) γ md (Is (.int (i - j))) := (de_sub ha.i hb.i (by rintro _ _ rfl rfl; rfl)).ex
theorem de_negE {i : Int} (ha : DE X K cl a γ ma (Is (.int i))) : DE X K cl (.UnaryOp .USub a pos) γ md (Is (.int (-i))) := (de_neg ha.i (by rintro _ rfl; rfl)).ex
theorem de_powE {i j : Int} (ha : DE X K cl a γ ma (Is (.int i))) (hb : DE X K cl b γ mb (Is (.int j))) (hc : CPow i j) : DE X K cl (.BinOp a .Pow b pos) γ md (Is (.int (i ^ j.toNat))) := (de_pow ha.i hb.i (by rintro _ _ rfl rfl; exact ⟨hc, rfl⟩)).ex

/-! ### comparisons -/
/-- an operation that tells φ, from two values -/
theorem ev_cmp {r : R2} {Φ : D → D → Prop} {ta tb : TE} (ha : EvX K cl ta γ ma Pa) (hb : EvX K cl tb γ mb Pb)
    (hr : ∀ (N N' : Addr → Prop) x y dx dy H Q, Pa dx → Pb dy → Dt K cl N H x dx → Dt K cl N' H y dy → (∀ b : Bool, (b = true ↔ Φ dx dy) → Q (.bl b) H) → r x y H Q) :
    ∀ M H0 H σ, EO K cl M H0 H σ γ → ∀ Q : VK, (∀ (b : Bool) H' dx dy, Kp H H' → Pa dx → Pb dy → (b = true ↔ Φ dx dy) → Q (.bl b) H') → tOp r ta tb σ H Q := by
  intro M H0 H σ E Q k
  refine ha M H0 H σ E _ fun v H1 d k1 p1 r1 => ?_
  refine hb M H0 H1 σ (E.go k1) _ fun w H2 e k2 p2 r2 => ?_
  exact hr _ _ v w d e H2 Q p1 p2 (r1.1.tr (.kp k2)) r2.1 fun b hb => k b H2 d e (k1.trans k2) p1 p2 hb
theorem de_cmp {op : CmpOp} {r : R2} {Φ : D → D → Prop} (ho : ∀ i, OpR (X i) (compareOp op) r) (hm : behindInMarks op b = false) (ha : DE X K cl a γ ma Pa) (hb : DE X K cl b γ mb Pb)
    (hr : ∀ (N N' : Addr → Prop) x y dx dy H Q, Pa dx → Pb dy → Dt K cl N H x dx → Dt K cl N' H y dy → (∀ b : Bool, (b = true ↔ Φ dx dy) → Q (.bl b) H) → r x y H Q)
    (hφ : ∀ dx dy, Pa dx → Pb dy → (Φ dx dy ↔ φ)) : DE X K cl (.Compare a [op] [b] pos) γ md (Vb φ) :=
  fun M H0 H σ E Q k => ⟨_, fun i => pe_cmpR (ho i) (peR i) (peR i) hm, ev_cmp ha hb hr M H0 H σ E Q fun b H' dx dy k1 p1 p2 h => k _ H' _ k1 ⟨b, rfl, h.trans (hφ dx dy p1 p2)⟩ (.of_im (N := fun _ => False) rfl (.bl b))⟩
theorem dt_cmp {op : CmpOp} {r : R2} {Φ : D → D → Prop} (ho : ∀ i, OpR (X i) (compareOp op) r) (hm : behindInMarks op b = false) (ha : DE X K cl a γ ma Pa) (hb : DE X K cl b γ mb Pb)
    (hr : ∀ (N N' : Addr → Prop) x y dx dy H Q, Pa dx → Pb dy → Dt K cl N H x dx → Dt K cl N' H y dy → (∀ b : Bool, (b = true ↔ Φ dx dy) → Q (.bl b) H) → r x y H Q)
    (hφ : ∀ dx dy, Pa dx → Pb dy → (Φ dx dy ↔ φ)) : DTe X K cl (.Compare a [op] [b] pos) γ (Tt φ) :=
  fun M H0 H σ E Q k => ⟨_, fun i => pt_cmpR (ho i) (peR i) (peR i) hm, ev_cmp ha hb hr M H0 H σ E _ fun b H' dx dy k1 p1 p2 h => ⟨b, rfl, k b H' k1 (h.trans (hφ dx dy p1 p2))⟩⟩
end
/-- what an int comparison asks -/
def CI (K : PySem.W.Frag) (cl : Kd → Addr) (op : CmpOp) (f : Int → Int → Prop) : Prop :=
  ∃ r : R2, (∀ X : Cx, OpR X (compareOp op) r) ∧ (∀ b, behindInMarks op b = false) ∧
    ∀ (i j : Int) (H : Hp) (Q : VK), (∀ b : Bool, (b = true ↔ f i j) → Q (.bl b) H) → r (.int i) (.int j) H Q
theorem ci_lt {K cl} : CI K cl .Lt (fun i j => i < j) := ⟨_, fun X => op_lt, fun b => nomark b, fun i j H Q k => ⟨i, j, rfl, rfl, k _ (by simp)⟩⟩
theorem ci_le {K cl} : CI K cl .LtE (fun i j => i ≤ j) := ⟨_, fun X => op_le, fun b => nomark b, fun i j H Q k => ⟨i, j, rfl, rfl, k _ (by simp)⟩⟩
theorem ci_gt {K cl} : CI K cl .Gt (fun i j => j < i) := ⟨_, fun X => op_gt, fun b => nomark b, fun i j H Q k => ⟨i, j, rfl, rfl, k _ (by simp)⟩⟩
theorem ci_ge {K cl} : CI K cl .GtE (fun i j => j ≤ i) := ⟨_, fun X => op_ge, fun b => nomark b, fun i j H Q k => ⟨i, j, rfl, rfl, k _ (by simp)⟩⟩
theorem ci_eq {K cl} : CI K cl .Eq (fun i j => i = j) := ⟨_, fun X => op_eq, fun b => nomark b, fun i j H Q k => ⟨rfl, k _ (by simp)⟩⟩
theorem ci_ne {K cl} : CI K cl .NotEq (fun i j => i ≠ j) := ⟨_, fun X => op_ne, fun b => nomark b, fun i j H Q k => ⟨rfl, k _ (by simp)⟩⟩
section
variable {ι : Type} {X : ι → Cx} {K : PySem.W.Frag} {cl : Kd → Addr} {γ : List G} {e a b c : Expr} {es : List Expr} {pos : Pos} {md ma mb mc : Md} {P P' Pa Pb : D → Prop} {φ ψ : Prop}
theorem ci_all {op : CmpOp} {f : Int → Int → Prop} {p q : Int → Prop} {r : R2} (h : ∀ (i j : Int) (H : Hp) (Q : VK), (∀ b : Bool, (b = true ↔ f i j) → Q (.bl b) H) → r (.int i) (.int j) H Q) (N N' : Addr → Prop) (x y : V) (dx dy : D) (H : Hp) (Q : VK)
    (px : IsI p dx) (py : IsI q dy) (tx : Dt K cl N H x dx) (ty : Dt K cl N' H y dy) (k : ∀ b : Bool, (b = true ↔ ∃ i j, dx = .int i ∧ dy = .int j ∧ f i j) → Q (.bl b) H) : r x y H Q := by
  obtain ⟨i, e1, _⟩ := px
  obtain ⟨j, e2, _⟩ := py
  subst e1 e2
  cases tx
  cases ty
  refine h i j H Q fun b hb => k b (hb.trans ⟨fun z => ⟨i, j, rfl, rfl, z⟩, fun ⟨i', j', e1, e2, z⟩ => ?_⟩)
  cases e1
  cases e2
  exact z
theorem dt_ci {op : CmpOp} {f : Int → Int → Prop} {p q : Int → Prop} (h : CI K cl op f) (ha : DE X K cl a γ ma (IsI p)) (hb : DE X K cl b γ mb (IsI q)) (hφ : ∀ i j, p i → q j → (f i j ↔ φ)) : DTe X K cl (.Compare a [op] [b] pos) γ (Tt φ) := by
  obtain ⟨r, h1, h2, h3⟩ := h
  refine dt_cmp (Φ := fun dx dy => ∃ i j, dx = .int i ∧ dy = .int j ∧ f i j) (fun i => h1 _) (h2 b) ha hb (ci_all (op := op) h3) fun dx dy ⟨i, e1, p1⟩ ⟨j, e2, p2⟩ => ?_
  subst e1 e2
  exact ⟨fun ⟨i', j', q1, q2, z⟩ => by cases q1; cases q2; exact (hφ _ _ p1 p2).mp z, fun z => ⟨i, j, rfl, rfl, (hφ i j p1 p2).mpr z⟩⟩
theorem de_ci {op : CmpOp} {f : Int → Int → Prop} {p q : Int → Prop} (h : CI K cl op f) (ha : DE X K cl a γ ma (IsI p)) (hb : DE X K cl b γ mb (IsI q)) (hφ : ∀ i j, p i → q j → (f i j ↔ φ)) : DE X K cl (.Compare a [op] [b] pos) γ md (Vb φ) := by
  obtain ⟨r, h1, h2, h3⟩ := h
  refine de_cmp (Φ := fun dx dy => ∃ i j, dx = .int i ∧ dy = .int j ∧ f i j) (fun i => h1 _) (h2 b) ha hb (ci_all (op := op) h3) fun dx dy ⟨i, e1, p1⟩ ⟨j, e2, p2⟩ => ?_
  subst e1 e2
  exact ⟨fun ⟨i', j', q1, q2, z⟩ => by cases q1; cases q2; exact (hφ _ _ p1 p2).mp z, fun z => ⟨i, j, rfl, rfl, (hφ i j p1 p2).mpr z⟩⟩
/-- exact -/
theorem dt_ciE {op : CmpOp} {f : Int → Int → Prop} {i j : Int} (h : CI K cl op f) (ha : DE X K cl a γ ma (Is (.int i))) (hb : DE X K cl b γ mb (Is (.int j))) : DTe X K cl (.Compare a [op] [b] pos) γ (Tt (f i j)) :=
  dt_ci h ha.i hb.i (by rintro _ _ rfl rfl; exact Iff.rfl)
theorem de_ciE {op : CmpOp} {f : Int → Int → Prop} {i j : Int} (h : CI K cl op f) (ha : DE X K cl a γ ma (Is (.int i))) (hb : DE X K cl b γ mb (Is (.int j))) : DE X K cl (.Compare a [op] [b] pos) γ md (Vb (f i j)) :=
  de_ci h ha.i hb.i (by rintro _ _ rfl rfl; exact Iff.rfl)
/-- a op b op' c, of exact ints -/
theorem ev_chain {r r' : R2} {f f' : Int → Int → Prop} {i j k : Int} {ta tb tc : TE} (hr : ∀ (i j : Int) (H : Hp) (Q : VK), (∀ b : Bool, (b = true ↔ f i j) → Q (.bl b) H) → r (.int i) (.int j) H Q)
    (hr' : ∀ (i j : Int) (H : Hp) (Q : VK), (∀ b : Bool, (b = true ↔ f' i j) → Q (.bl b) H) → r' (.int i) (.int j) H Q)
    (ha : EvX K cl ta γ ma (Is (.int i))) (hb : EvX K cl tb γ mb (Is (.int j))) (hc : EvX K cl tc γ mc (Is (.int k))) :
    ∀ M H0 H σ, EO K cl M H0 H σ γ → ∀ Q : VK, (∀ (b : Bool) H', Kp H H' → (b = true ↔ f i j ∧ f' j k) → Q (.bl b) H') → tChain r r' ta tb tc σ H Q := by
  intro M H0 H σ E Q q
  refine ha M H0 H σ E _ fun v H1 d k1 e1 r1 => ?_
  subst e1
  refine hb M H0 H1 σ (E.go k1) _ fun w H2 e k2 e2 r2 => ?_
  subst e2
  obtain ⟨r1, _⟩ := r1
  obtain ⟨r2, _⟩ := r2
  cases r1
  cases r2
  refine hr i j H2 _ fun b hb1 => ⟨b, rfl, ?_⟩
  by_cases hbt : b = true
  · rw [if_pos hbt]
    refine hc M H0 H2 σ ((E.go k1).go k2) _ fun u H3 e3 k3 e3' r3 => ?_
    subst e3'
    obtain ⟨r3, _⟩ := r3
    cases r3
    exact hr' j k H3 Q fun b' hb' => q b' H3 ((k1.trans k2).trans k3) (hb'.trans ⟨fun z => ⟨hb1.mp hbt, z⟩, fun z => z.2⟩)
  · rw [if_neg hbt]
    exact q false H2 (k1.trans k2) ⟨(fun z => nomatch z), fun z => absurd (hb1.mpr z.1) hbt⟩
theorem dt_chain {op op' : CmpOp} {f f' : Int → Int → Prop} {i j k : Int} (h : CI K cl op f) (h' : CI K cl op' f') (hm : lastMarks [op, op'] [b, c] = false)
    (ha : DE X K cl a γ ma (Is (.int i))) (hb : DE X K cl b γ mb (Is (.int j))) (hc : DE X K cl c γ mc (Is (.int k))) : DTe X K cl (.Compare a [op, op'] [b, c] pos) γ (Tt (f i j ∧ f' j k)) := by
  obtain ⟨r, h1, h2, h3⟩ := h
  obtain ⟨r', h1', h2', h3'⟩ := h'
  exact fun M H0 H σ E Q q => ⟨_, fun i => pt_chain (h1 _) (h1' _) (peR i) (peR i) (peR i) hm, ev_chain h3 h3' ha hb hc M H0 H σ E _ fun b H' k1 hb => ⟨b, rfl, q b H' k1 hb⟩⟩
theorem de_chain {op op' : CmpOp} {f f' : Int → Int → Prop} {i j k : Int} (h : CI K cl op f) (h' : CI K cl op' f') (hm : lastMarks [op, op'] [b, c] = false)
    (ha : DE X K cl a γ ma (Is (.int i))) (hb : DE X K cl b γ mb (Is (.int j))) (hc : DE X K cl c γ mc (Is (.int k))) : DE X K cl (.Compare a [op, op'] [b, c] pos) γ md (Vb (f i j ∧ f' j k)) := by
  obtain ⟨r, h1, h2, h3⟩ := h
  obtain ⟨r', h1', h2', h3'⟩ := h'
  exact fun M H0 H σ E Q q => ⟨_, fun i => pe_chain (h1 _) (h1' _) (peR i) (peR i) (peR i) hm, ev_chain h3 h3' ha hb hc M H0 H σ E _ fun b H' k1 hb => q _ H' _ k1 ⟨b, rfl, hb⟩ (.of_im (N := fun _ => False) rfl (.bl b))⟩

/-! ### == and in of data -/
theorem dt_eqD {n m : Nat} {d d' : D} (hu : ∀ i, (X i).A.units + 64 < cLine) (hK : ∀ i, (X i).K = K) (ha : DE X K cl a γ ma (Is d)) (hb : DE X K cl b γ mb (Is d')) (c1 : d.cm n = true) (c2 : d'.cm m = true) (hn : n ≤ 64) (hm : m ≤ 64) :
    DTe X K cl (.Compare a [.Eq] [b] pos) γ (Tt (d = d')) := by
  refine dt_cmp (r := rEqD K) (Φ := fun x y => x = y) (fun i => by rw [← hK i]; exact op_eqD (hu i)) (nomark b) ha hb (fun N N' x y dx dy H Q p1 p2 t1 t2 k => ?_) (fun dx dy p1 p2 => by rw [p1, p2])
  subst p1 p2
  exact ⟨_, _, t1.dp c1, t2.dp c2, cm_shaped c1 hn, cm_shaped c2 hm, k _ (cm_eqv _ _ _ _ c1 c2)⟩
theorem dt_neD {n m : Nat} {d d' : D} (hu : ∀ i, (X i).A.units + 64 < cLine) (hK : ∀ i, (X i).K = K) (ha : DE X K cl a γ ma (Is d)) (hb : DE X K cl b γ mb (Is d')) (c1 : d.cm n = true) (c2 : d'.cm m = true) (hn : n ≤ 64) (hm : m ≤ 64) :
    DTe X K cl (.Compare a [.NotEq] [b] pos) γ (Tt (d ≠ d')) := by
  refine dt_cmp (r := rNeD K) (Φ := fun x y => x ≠ y) (fun i => by rw [← hK i]; exact op_neD (hu i)) (nomark b) ha hb (fun N N' x y dx dy H Q p1 p2 t1 t2 k => ?_) (fun dx dy p1 p2 => by rw [p1, p2])
  subst p1 p2
  exact ⟨_, _, t1.dp c1, t2.dp c2, cm_shaped c1 hn, cm_shaped c2 hm, k _ (by rw [Bool.not_eq_true', ← Bool.not_eq_true, cm_eqv _ _ _ _ c1 c2])⟩
theorem de_eqD {n m : Nat} {d d' : D} (hu : ∀ i, (X i).A.units + 64 < cLine) (hK : ∀ i, (X i).K = K) (ha : DE X K cl a γ ma (Is d)) (hb : DE X K cl b γ mb (Is d')) (c1 : d.cm n = true) (c2 : d'.cm m = true) (hn : n ≤ 64) (hm : m ≤ 64) :
    DE X K cl (.Compare a [.Eq] [b] pos) γ md (Vb (d = d')) := by
  refine de_cmp (r := rEqD K) (Φ := fun x y => x = y) (fun i => by rw [← hK i]; exact op_eqD (hu i)) (nomark b) ha hb (fun N N' x y dx dy H Q p1 p2 t1 t2 k => ?_) (fun dx dy p1 p2 => by rw [p1, p2])
  subst p1 p2
  exact ⟨_, _, t1.dp c1, t2.dp c2, cm_shaped c1 hn, cm_shaped c2 hm, k _ (cm_eqv _ _ _ _ c1 c2)⟩
theorem de_neD {n m : Nat} {d d' : D} (hu : ∀ i, (X i).A.units + 64 < cLine) (hK : ∀ i, (X i).K = K) (ha : DE X K cl a γ ma (Is d)) (hb : DE X K cl b γ mb (Is d')) (c1 : d.cm n = true) (c2 : d'.cm m = true) (hn : n ≤ 64) (hm : m ≤ 64) :
    DE X K cl (.Compare a [.NotEq] [b] pos) γ md (Vb (d ≠ d')) := by
  refine de_cmp (r := rNeD K) (Φ := fun x y => x ≠ y) (fun i => by rw [← hK i]; exact op_neD (hu i)) (nomark b) ha hb (fun N N' x y dx dy H Q p1 p2 t1 t2 k => ?_) (fun dx dy p1 p2 => by rw [p1, p2])
  subst p1 p2
  exact ⟨_, _, t1.dp c1, t2.dp c2, cm_shaped c1 hn, cm_shaped c2 hm, k _ (by rw [Bool.not_eq_true', ← Bool.not_eq_true, cm_eqv _ _ _ _ c1 c2])⟩
end
/-- in, not in a tuple -/
def rInT (K : PySem.W.Frag) : R2 := fun x y H Q => ∃ d ds, Dp K H x d ∧ Dp K H y (.tuple ds) ∧ SeqAt.shaped d = true ∧ SeqAt.shaped (.tuple ds) = true ∧ Q (.bl (ds.any fun z => PyData.eqv z d)) H
def rNotInT (K : PySem.W.Frag) : R2 := fun x y H Q => ∃ d ds, Dp K H x d ∧ Dp K H y (.tuple ds) ∧ SeqAt.shaped d = true ∧ SeqAt.shaped (.tuple ds) = true ∧ Q (.bl (!ds.any fun z => PyData.eqv z d)) H
theorem room_inT {A : Around} {d : PyData} {ds : List PyData} (h : SeqAt.shaped d = true) (hu : A.units + 65 < cLine) : A.units + 1 + min (PyData.depthAll ds) d.depth < cLine := by
  have h1 := SeqAt.depth_of_shaped h
  have h2 : min (PyData.depthAll ds) d.depth ≤ d.depth := Nat.min_le_right _ _
  omega
theorem op_inT {X : Cx} (hu : X.A.units + 65 < cLine) : OpR X (compareOp .In) (rInT X.K) := by
  intro pins s σ H x y v u Q I rx ry h
  obtain ⟨d, ds, hd, he, sd, se, q⟩ := h
  obtain ⟨as, r1⟩ := Dp.reads I d x v hd rx
  obtain ⟨bs, r2⟩ := Dp.reads I (.tuple ds) y u he ry
  exact SeqAt.in_tuple_reads r2 r1 (SeqAt.canLay_of_shaped se) (SeqAt.canLay_of_shaped sd) (room_inT sd hu) ⟨.bl _, H, I, rfl, q⟩
theorem op_notInT {X : Cx} (hu : X.A.units + 65 < cLine) : OpR X (compareOp .NotIn) (rNotInT X.K) := by
  intro pins s σ H x y v u Q I rx ry h
  obtain ⟨d, ds, hd, he, sd, se, q⟩ := h
  obtain ⟨as, r1⟩ := Dp.reads I d x v hd rx
  obtain ⟨bs, r2⟩ := Dp.reads I (.tuple ds) y u he ry
  exact SeqAt.notIn_tuple_reads r2 r1 (SeqAt.canLay_of_shaped se) (SeqAt.canLay_of_shaped sd) (room_inT sd hu) ⟨.bl _, H, I, rfl, q⟩
/-- a sequence of data -/
inductive Sq : D → List D → Prop
  | l (ds : List D) : Sq (.lst ds) ds
  | t (ds : List D) : Sq (.tup ds) ds
def rInS (K : PySem.W.Frag) : R2 := fun x y H Q => rInD K x y H Q ∨ rInT K x y H Q
def rNotInS (K : PySem.W.Frag) : R2 := fun x y H Q => rNotInD K x y H Q ∨ rNotInT K x y H Q
section
variable {K : PySem.W.Frag} {cl : Kd → Addr}
theorem inS_of {N N' : Addr → Prop} {x y : V} {d s : D} {ds : List D} {n m : Nat} {H : Hp} {Q : VK} (hs : Sq s ds) (c1 : d.cm n = true) (c2 : D.cmA m ds = true) (hn : n ≤ 64) (hm : m ≤ 60) (tx : Dt K cl N H x d) (ty : Dt K cl N' H y s)
    (k : ∀ b : Bool, (b = true ↔ d ∈ ds) → Q (.bl b) H) : rInS K x y H Q := by
  have cs : s.cm (m + 1) = true := by
    cases hs <;> simp [D.cm, c2]
  have sh := cm_shaped cs (by omega)
  cases hs with
  | l => exact .inl ⟨_, D.pyA ds, tx.dp c1, by have := ty.dp cs; rwa [D.py] at this, cm_shaped c1 hn, by rwa [D.py] at sh, k _ (any_eqv c1 c2)⟩
  | t => exact .inr ⟨_, D.pyA ds, tx.dp c1, by have := ty.dp cs; rwa [D.py] at this, cm_shaped c1 hn, by rwa [D.py] at sh, k _ (any_eqv c1 c2)⟩
theorem notInS_of {N N' : Addr → Prop} {x y : V} {d s : D} {ds : List D} {n m : Nat} {H : Hp} {Q : VK} (hs : Sq s ds) (c1 : d.cm n = true) (c2 : D.cmA m ds = true) (hn : n ≤ 64) (hm : m ≤ 60) (tx : Dt K cl N H x d) (ty : Dt K cl N' H y s)
    (k : ∀ b : Bool, (b = true ↔ d ∉ ds) → Q (.bl b) H) : rNotInS K x y H Q := by
  have cs : s.cm (m + 1) = true := by
    cases hs <;> simp [D.cm, c2]
  have sh := cm_shaped cs (by omega)
  have e : ((!(D.pyA ds).any fun z => PyData.eqv z d.py) = true ↔ d ∉ ds) := by rw [Bool.not_eq_true', ← Bool.not_eq_true, any_eqv c1 c2]
  cases hs with
  | l => exact .inl ⟨_, D.pyA ds, tx.dp c1, by have := ty.dp cs; rwa [D.py] at this, cm_shaped c1 hn, by rwa [D.py] at sh, k _ e⟩
  | t => exact .inr ⟨_, D.pyA ds, tx.dp c1, by have := ty.dp cs; rwa [D.py] at this, cm_shaped c1 hn, by rwa [D.py] at sh, k _ e⟩
end
section
variable {ι : Type} {X : ι → Cx} {K : PySem.W.Frag} {cl : Kd → Addr} {γ : List G} {e a b c : Expr} {es : List Expr} {pos : Pos} {md ma mb mc : Md} {P P' Pa Pb : D → Prop} {φ ψ : Prop}
theorem dt_in {n m : Nat} {d s : D} {ds : List D} (hu : ∀ i, (X i).A.units + 65 < cLine) (hK : ∀ i, (X i).K = K) (hmk : behindInMarks .In b = false) (ha : DE X K cl a γ ma (Is d)) (hb : DE X K cl b γ mb (Is s)) (hs : Sq s ds)
    (c1 : d.cm n = true) (c2 : D.cmA m ds = true) (hn : n ≤ 64) (hm : m ≤ 60) : DTe X K cl (.Compare a [.In] [b] pos) γ (Tt (d ∈ ds)) := by
  refine dt_cmp (r := rInS K) (Φ := fun x y => x ∈ ds) (fun i => by rw [← hK i]; exact (op_inD (hu i)).or (op_inT (hu i))) hmk ha hb (fun N N' x y dx dy H Q p1 p2 t1 t2 k => ?_) (fun dx dy p1 p2 => by rw [p1])
  subst p1 p2
  exact inS_of hs c1 c2 hn hm t1 t2 k
theorem dt_notIn {n m : Nat} {d s : D} {ds : List D} (hu : ∀ i, (X i).A.units + 65 < cLine) (hK : ∀ i, (X i).K = K) (hmk : behindInMarks .NotIn b = false) (ha : DE X K cl a γ ma (Is d)) (hb : DE X K cl b γ mb (Is s)) (hs : Sq s ds)
    (c1 : d.cm n = true) (c2 : D.cmA m ds = true) (hn : n ≤ 64) (hm : m ≤ 60) : DTe X K cl (.Compare a [.NotIn] [b] pos) γ (Tt (d ∉ ds)) := by
  refine dt_cmp (r := rNotInS K) (Φ := fun x y => x ∉ ds) (fun i => by rw [← hK i]; exact (op_notInD (hu i)).or (op_notInT (hu i))) hmk ha hb (fun N N' x y dx dy H Q p1 p2 t1 t2 k => ?_) (fun dx dy p1 p2 => by rw [p1])
  subst p1 p2
  exact notInS_of hs c1 c2 hn hm t1 t2 k
theorem de_in {n m : Nat} {d s : D} {ds : List D} (hu : ∀ i, (X i).A.units + 65 < cLine) (hK : ∀ i, (X i).K = K) (hmk : behindInMarks .In b = false) (ha : DE X K cl a γ ma (Is d)) (hb : DE X K cl b γ mb (Is s)) (hs : Sq s ds)
    (c1 : d.cm n = true) (c2 : D.cmA m ds = true) (hn : n ≤ 64) (hm : m ≤ 60) : DE X K cl (.Compare a [.In] [b] pos) γ md (Vb (d ∈ ds)) := by
  refine de_cmp (r := rInS K) (Φ := fun x y => x ∈ ds) (fun i => by rw [← hK i]; exact (op_inD (hu i)).or (op_inT (hu i))) hmk ha hb (fun N N' x y dx dy H Q p1 p2 t1 t2 k => ?_) (fun dx dy p1 p2 => by rw [p1])
  subst p1 p2
  exact inS_of hs c1 c2 hn hm t1 t2 k

/-! ### is None; bools compared -/
theorem dt_isN {d : D} (ha : DE X K cl a γ ma (Is d)) {k : Nat} {p2 : Pos} : DTe X K cl (.Compare a [.Is] [.Constant .none k p2] pos) γ (Tt (d = .non)) := by
  refine dt_cmp (Pb := Is .non) (Φ := fun x y => x = .non) (fun i => op_isN) (nomark _) ha (mb := mA) de_non (fun N N' x y dx dy H Q p1 p2 t1 t2 k => ?_) (fun dx dy p1 p2 => by rw [p1])
  subst p1 p2
  cases t2
  refine ⟨rfl, k _ ?_⟩
  cases t1 <;> simp
theorem dt_eqB {φ ψ : Prop} (ha : DE X K cl a γ ma (Vb φ)) (hb : DE X K cl b γ mb (Vb ψ)) : DTe X K cl (.Compare a [.Eq] [b] pos) γ (Tt (φ ↔ ψ)) := by
  refine dt_cmp (Φ := fun x y => x = y) (fun i => op_eq) (nomark _) ha hb (fun N N' x y dx dy H Q p1 p2 t1 t2 k => ?_) (fun dx dy p1 p2 => ?_)
  · obtain ⟨b1, rfl, _⟩ := p1
    obtain ⟨b2, rfl, _⟩ := p2
    cases t1
    cases t2
    exact ⟨rfl, k _ (by simp)⟩
  · obtain ⟨b1, rfl, h1⟩ := p1
    obtain ⟨b2, rfl, h2⟩ := p2
    rw [← h1, ← h2]
    cases b1 <;> cases b2 <;> simp
theorem de_eqB {φ ψ : Prop} (ha : DE X K cl a γ ma (Vb φ)) (hb : DE X K cl b γ mb (Vb ψ)) : DE X K cl (.Compare a [.Eq] [b] pos) γ md (Vb (φ ↔ ψ)) := by
  refine de_cmp (Φ := fun x y => x = y) (fun i => op_eq) (nomark _) ha hb (fun N N' x y dx dy H Q p1 p2 t1 t2 k => ?_) (fun dx dy p1 p2 => ?_)
  · obtain ⟨b1, rfl, _⟩ := p1
    obtain ⟨b2, rfl, _⟩ := p2
    cases t1
    cases t2
    exact ⟨rfl, k _ (by simp)⟩
  · obtain ⟨b1, rfl, h1⟩ := p1
    obtain ⟨b2, rfl, h2⟩ := p2
    rw [← h1, ← h2]
    cases b1 <;> cases b2 <;> simp

/-! ### and, or, not -/
/-- an expression that is a bool, as a test -/
theorem dt_val (h : DE X K cl e γ ma (Vb φ)) (he : ∀ i whole, isTrue e (X i).env whole = (do let v ← whole; standAt e.pos; holding [v] (truthy v))) : DTe X K cl e γ (Tt φ) := by
  intro M H0 H σ E Q q
  refine ⟨_, fun i => pt_val (peR i) (he i), h M H0 H σ E _ fun v H' d k ⟨b, e1, hb⟩ r => ?_⟩
  subst e1
  obtain ⟨r, _⟩ := r
  cases r
  exact ⟨b, rfl, q b H' k hb⟩
theorem dt_w (h : DW X K cl e γ (Tt φ)) : DTe X K cl e γ (Tt φ) := fun M H0 H σ E Q q => ⟨_, fun i => (pwR i).pt, h M H0 H σ E Q q⟩
theorem dw_and1 (h : DTe X K cl a γ (Tt φ)) : DW X K cl (.BoolOp .And [a] pos) γ (Tt φ) := fun M H0 H σ E Q q => ⟨_, fun i => pw_and1 (ptR i), h M H0 H σ E Q q⟩
theorem dw_or1 (h : DTe X K cl a γ (Tt φ)) : DW X K cl (.BoolOp .Or [a] pos) γ (Tt φ) := fun M H0 H σ E Q q => ⟨_, fun i => pw_or1 (ptR i), h M H0 H σ E Q q⟩
theorem dw_and (h : DTe X K cl a γ (Tt φ)) (h2 : φ → DW X K cl (.BoolOp .And (b :: es) pos) γ (Tt ψ)) : DW X K cl (.BoolOp .And (a :: b :: es) pos) γ (Tt (φ ∧ ψ)) := by
  intro M H0 H σ E Q q
  refine ⟨_, fun i => pw_and (ptR i) (pwR i), h M H0 H σ E _ fun x H1 k hx => ?_⟩
  by_cases hb : x = true
  · rw [if_pos hb]
    exact h2 (hx.mp hb) M H0 H1 σ (E.go k) Q fun y H2 k2 hy => q y H2 (k.trans k2) (hy.trans ⟨fun z => ⟨hx.mp hb, z⟩, fun z => z.2⟩)
  · rw [if_neg hb]
    exact q false H1 k ⟨(fun z => nomatch z), fun z => absurd (hx.mpr z.1) hb⟩
theorem dw_or (h : DTe X K cl a γ (Tt φ)) (h2 : ¬ φ → DW X K cl (.BoolOp .Or (b :: es) pos) γ (Tt ψ)) : DW X K cl (.BoolOp .Or (a :: b :: es) pos) γ (Tt (φ ∨ ψ)) := by
  intro M H0 H σ E Q q
  refine ⟨_, fun i => pw_or (ptR i) (pwR i), h M H0 H σ E _ fun x H1 k hx => ?_⟩
  by_cases hb : x = true
  · rw [if_pos hb]
    exact q true H1 k ⟨fun _ => .inl (hx.mp hb), fun _ => rfl⟩
  · rw [if_neg hb]
    have nf : ¬ φ := fun z => hb (hx.mpr z)
    exact h2 nf M H0 H1 σ (E.go k) Q fun y H2 k2 hy => q y H2 (k.trans k2) (hy.trans ⟨fun z => .inr z, fun z => z.resolve_left nf⟩)
theorem dt_not (h : DTe X K cl a γ (Tt φ)) : DTe X K cl (.UnaryOp .Not a pos) γ (Tt (¬ φ)) :=
  fun M H0 H σ E Q q => ⟨_, fun i => pt_not (ptR i), h M H0 H σ E _ fun x H1 k hx => q _ H1 k (by cases x <;> simp_all [Tt])⟩
theorem de_not (h : DE X K cl a γ ma (Vb φ)) : DE X K cl (.UnaryOp .Not a pos) γ md (Vb (¬ φ)) := by
  intro M H0 H σ E Q q
  refine ⟨_, fun i => pe_not (peR i), h M H0 H σ E _ fun v H' d k ⟨b, e1, hb⟩ r => ?_⟩
  subst e1
  obtain ⟨r, _⟩ := r
  cases r
  exact ⟨b, rfl, q _ H' _ k ⟨_, rfl, by cases b <;> simp_all [Vb]⟩ (.of_im (N := fun _ => False) rfl (.bl _))⟩
theorem de_one {op} (h : DE X K cl a γ md P) : DE X K cl (.BoolOp op [a] pos) γ md P := fun M H0 H σ E Q q => ⟨_, fun i => pe_one (peR i), h M H0 H σ E Q q⟩
theorem de_and (h : DE X K cl a γ ma (Vb φ)) (h2 : φ → DE X K cl (.BoolOp .And (b :: es) pos) γ mb (Vb ψ)) : DE X K cl (.BoolOp .And (a :: b :: es) pos) γ md (Vb (φ ∧ ψ)) := by
  intro M H0 H σ E Q q
  refine ⟨_, fun i => pe_and (peR i) (peR i), h M H0 H σ E _ fun v H' d k ⟨x, e1, hx⟩ r => ?_⟩
  subst e1
  obtain ⟨r, _⟩ := r
  cases r
  refine ⟨x, rfl, ?_⟩
  by_cases hb : x = true
  · rw [if_pos hb]
    refine h2 (hx.mp hb) M H0 H' σ (E.go k) Q fun v2 H2 d2 k2 ⟨y, e2, hy⟩ r2 => q v2 H2 d2 (k.trans k2) ⟨y, e2, hy.trans ⟨fun z => ⟨hx.mp hb, z⟩, fun z => z.2⟩⟩ (.of_im (N := RN mb M σ γ) ?_ r2.1)
    rw [e2]; rfl
  · rw [if_neg hb]
    exact q _ H' _ k ⟨false, rfl, ⟨(fun z => nomatch z), fun z => absurd (hx.mpr z.1) hb⟩⟩ (.of_im (N := fun _ => False) rfl (.bl _))

/-! ### items, attributes -/
theorem de_ix {d s : D} {ds : List D} {i : Int} (hK : ∀ i, (X i).K = K) (ha : DE X K cl a γ ma (Is s)) (hb : DE X K cl b γ mb (Is (.int i))) (hs : Sq s ds) (hi : atI ds i = some d) (hp : PlainIx b) : DE X K cl (.Subscript a b pos) γ ⟨ma.m, ma.o, false⟩ (Is d) := by
  intro M H0 H σ E Q q
  refine ⟨tOp (rIx K) (rE X a) (rE X b), fun i => by rw [← hK i]; exact pe_ix ix_seq (peR i) (peR i) hp, ha M H0 H σ E _ fun v H1 d1 k1 e1 r1 => ?_⟩
  subst e1
  refine hb M H0 H1 σ (E.go k1) _ fun w H2 d2 k2 e2 r2 => ?_
  subst e2
  obtain ⟨r2, _⟩ := r2
  cases r2
  obtain ⟨r1, _⟩ := r1
  have r1 := r1.tr (.kp k2)
  have go : ∀ {p : Addr} {vs : List V}, DtA K cl (RN ma M σ γ) H2 vs ds → ∃ u, atI vs i = some u ∧ Dt K cl (RN ma M σ γ) H2 u d := fun {p vs} h => by
    unfold atI at hi ⊢
    rw [h.length]
    cases ej : ixN ds.length i with
    | none => rw [ej] at hi; cases hi
    | some j =>
      rw [ej] at hi
      exact h.get hi
  have fin : ∀ {u : V}, Dt K cl (RN ma M σ γ) H2 u d → Q u H2 := fun {u} h => q u H2 d (k1.trans k2) rfl ⟨h, fun z => nomatch z⟩
  cases hs with
  | l =>
    cases r1 with
    | lst e1 n1 b1 h1 =>
      obtain ⟨u, g1, g2⟩ := go (p := 0) h1
      exact .inl ⟨_, _, i, u, rfl, rfl, SqL.of e1, g1, fin g2⟩
  | t =>
    cases r1 with
    | tup e1 h1 =>
      obtain ⟨u, g1, g2⟩ := go (p := 0) h1
      exact .inr (.inl ⟨_, _, i, u, rfl, rfl, e1, g1, fin g2⟩)
/-- with a drawn index -/
theorem de_ixP {s : D} {ds : List D} {p : Int → Prop} (hK : ∀ i, (X i).K = K) (ha : DE X K cl a γ ma (Is s)) (hb : DE X K cl b γ mb (IsI p)) (hs : Sq s ds) (hi : ∀ i, p i → ∃ d, atI ds i = some d ∧ P d) (hp : PlainIx b) : DE X K cl (.Subscript a b pos) γ ⟨ma.m, ma.o, false⟩ P := by
  intro M H0 H σ E Q q
  refine ⟨tOp (rIx K) (rE X a) (rE X b), fun i => by rw [← hK i]; exact pe_ix ix_seq (peR i) (peR i) hp, ha M H0 H σ E _ fun v H1 d1 k1 e1 r1 => ?_⟩
  subst e1
  refine hb M H0 H1 σ (E.go k1) _ fun w H2 d2 k2 ⟨i, e2, hpi⟩ r2 => ?_
  subst e2
  obtain ⟨r2, _⟩ := r2
  cases r2
  obtain ⟨r1, _⟩ := r1
  have r1 := r1.tr (.kp k2)
  obtain ⟨d, hi, hpd⟩ := hi i hpi
  have go : ∀ {p : Addr} {vs : List V}, DtA K cl (RN ma M σ γ) H2 vs ds → ∃ u, atI vs i = some u ∧ Dt K cl (RN ma M σ γ) H2 u d := fun {p vs} h => by
    unfold atI at hi ⊢
    rw [h.length]
    cases ej : ixN ds.length i with
    | none => rw [ej] at hi; cases hi
    | some j =>
      rw [ej] at hi
      exact h.get hi
  have fin : ∀ {u : V}, Dt K cl (RN ma M σ γ) H2 u d → Q u H2 := fun {u} h => q u H2 d (k1.trans k2) hpd ⟨h, fun z => nomatch z⟩
  cases hs with
  | l =>
    cases r1 with
    | lst e1 n1 b1 h1 =>
      obtain ⟨u, g1, g2⟩ := go (p := 0) h1
      exact .inl ⟨_, _, i, u, rfl, rfl, SqL.of e1, g1, fin g2⟩
  | t =>
    cases r1 with
    | tup e1 h1 =>
      obtain ⟨u, g1, g2⟩ := go (p := 0) h1
      exact .inr (.inl ⟨_, _, i, u, rfl, rfl, e1, g1, fin g2⟩)
end
theorem lookup_at' : ∀ (fs : List (Str × V)) (j : Nat) {f : Str} {v : V}, (fs.map (·.1)).Nodup → (fs.map (·.1))[j]? = some f → (fs.map (·.2))[j]? = some v → fs.lookup f = some v
  | [], j, f, v, _, h, _ => by simp at h
  | (g, x) :: r, 0, f, v, _, h1, h2 => by
    simp at h1 h2
    subst h1 h2
    simp [List.lookup]
  | (g, x) :: r, j + 1, f, v, nd, h1, h2 => by
    have nd' : (g :: r.map (·.1)).Nodup := nd
    obtain ⟨n1, n2⟩ := List.nodup_cons.mp nd'
    have h1' : (r.map (·.1))[j]? = some f := by simpa using h1
    have h2' : (r.map (·.2))[j]? = some v := by simpa using h2
    have ne : f ≠ g := by
      rintro rfl
      exact n1 (List.mem_of_getElem? h1')
    rw [List.lookup_cons, show (f == g) = false from beq_eq_false_iff_ne.mpr ne]
    exact lookup_at' r j n2 h1' h2'
theorem lookup_at {fs : List (Str × V)} {ns : List Str} {f : Str} {j : Nat} {v : V} (hn : fs.map (·.1) = ns) (nd : ns.Nodup) (hf : ns[j]? = some f) (hv : (fs.map (·.2))[j]? = some v) : fs.lookup f = some v := by
  subst hn
  exact lookup_at' fs j nd hf hv
theorem flds_nd (k : Kd) : (flds k).Nodup := by cases k <;> decide +kernel
section
variable {ι : Type} {X : ι → Cx} {K : PySem.W.Frag} {cl : Kd → Addr} {γ : List G} {e a b c : Expr} {es : List Expr} {pos : Pos} {md ma mb mc : Md} {P P' Pa Pb : D → Prop} {φ ψ : Prop}
/-- o.f -/
theorem de_fld {k : Kd} {ds : List D} {f : Str} {j : Nat} {d : D} (hK : ∀ i, (X i).K = K) (ha : DE X K cl a γ ma (Is (.obj k ds))) (hc : Cls K (cl k)) (hn : NoAttr K (cl k) f) (hf : (flds k)[j]? = some f) (hd : ds[j]? = some d)
    (hb : ∀ i, attributeBase a f (X i).env (eval a (X i).env) = eval a (X i).env) : DE X K cl (.Attribute a f pos) γ ⟨ma.m, ma.o, false⟩ (Is d) := by
  intro M H0 H σ E Q q
  refine ⟨tFld K (rE X a) f, fun i => by rw [← hK i]; exact pe_fld (peR i) (hb i), ha M H0 H σ E _ fun v H1 d1 k1 e1 r1 => ?_⟩
  subst e1
  obtain ⟨r1, _⟩ := r1
  cases r1 with
  | obj e1 n1 h1 =>
    obtain ⟨u, g1, g2⟩ := h1.get hd
    exact ⟨_, _, _, _, u, rfl, e1, hc, hn, lookup_at n1 (flds_nd k) hf g1, q u H1 d k1 rfl ⟨g2, fun z => nomatch z⟩⟩
end
end DL

/-! DL3: arguments, displays, calls of own defs, built-ins, slices, list +. -/
namespace DL
open PySem PySem.Spec PyProof.Rows L2

/-- the world of the text -/
structure Wd where
  P : Program
  w : World
  K : PySem.W.Frag
  mg : Str → Option Value
  base : Heap
  cl : Kd → Addr
/-- X runs in it -/
structure Wd.at (W : Wd) (X : Cx) : Prop where
  p : X.prog = W.P
  w : X.w = W.w
  k : X.K = W.K
  g : X.mg = W.mg
  b : X.base = W.base
  c : X.calm = true

/-- a def that takes any data and gives new data: the arguments are enc x for an x with Pre -/
def Con {α : Type} (K : PySem.W.Frag) (cl : Kd → Addr) (n : Nat) (enc : α → List D) (Pre : α → Prop) (R : α → D → Prop) : Sp := fun vs H Q _ => ∃ x, DtA K cl (fun _ => False) H vs (enc x) ∧ (enc x).length = n ∧ Pre x ∧
  ∀ v H' d, Kp H H' → R x d → Dt K cl (fun a => H a ≠ none) H' v d → Q v H'
/-- a def whose result may hold its arguments -/
def ConS {α : Type} (K : PySem.W.Frag) (cl : Kd → Addr) (n : Nat) (enc : α → List D) (Pre : α → Prop) (R : α → D → Prop) : Sp := fun vs H Q _ => ∃ (N : Addr → Prop) (x : α), (∀ p, N p → H p ≠ none) ∧ DtA K cl N H vs (enc x) ∧ (enc x).length = n ∧ Pre x ∧
  ∀ v H' d, Kp H H' → R x d → Dt K cl N H' v d → Q v H'
/-- a def of the module under the name x, with its promise -/
def GFn (W : Wd) (x : Str) (k : Nat) (sp : Sp) : Prop :=
  ∃ f fd ps, FnOk W.P W.w W.K W.mg W.base CX0 k f fd ps sp ∧ W.mg x = some (.ref f) ∧ PySem.W.keepIn W.K (.ref f) = true ∧ Binds W.K fd ps []
/-- a method m of the kind c -/
def MFn (W : Wd) (c : Kd) (m : Str) (k : Nat) (sp : Sp) : Prop :=
  ∃ f fd ps, FnOk W.P W.w W.K W.mg W.base CX0 k f fd ps sp ∧ Cls W.K (W.cl c) ∧ Meth W.K (W.cl c) m f ∧ Binds W.K fd ps []

section
variable {ι : Type} {X : ι → Cx} {K : PySem.W.Frag} {cl : Kd → Addr} {γ : List G} {e a b c : Expr} {es : List Expr} {pos : Pos} {md ma mb mc : Md} {P P' Pa Pb : D → Prop} {φ ψ : Prop}
theorem da_nil : DA X K cl [] γ md (fun ds => ds = []) := fun M H0 H σ E Q q => ⟨_, fun i => pa_nil, q [] H [] (Kp.refl H) rfl .nil⟩
theorem da_cons {PA : List D → Prop} (h : DE X K cl e γ md P) (hr : DA X K cl es γ md PA) (hs : ∀ i, starEach (e :: es) (X i).env = (false, eval e (X i).env) :: starEach es (X i).env) :
    DA X K cl (e :: es) γ md (fun ds => ∃ d r, ds = d :: r ∧ P d ∧ PA r) := by
  intro M H0 H σ E Q q
  refine ⟨_, fun i => pa_cons (peR i) (paR i) (hs i), h M H0 H σ E _ fun v H1 d k1 p1 r1 => ?_⟩
  refine hr M H0 H1 σ (E.go k1) _ fun vs H2 ds k2 p2 r2 => q _ H2 (d :: ds) (k1.trans k2) ⟨d, ds, rfl, p1, p2⟩ (.cons ?_ r2)
  exact r1.1.tr (.kp k2)
/-- exact arguments -/
theorem da_consE {d : D} {ds : List D} (h : DE X K cl e γ md (Is d)) (hr : DA X K cl es γ md (fun x => x = ds)) (hs : ∀ i, starEach (e :: es) (X i).env = (false, eval e (X i).env) :: starEach es (X i).env) :
    DA X K cl (e :: es) γ md (fun x => x = d :: ds) := (da_cons h hr hs).mono fun x ⟨d', r, e1, e2, e3⟩ => by rw [e1, e2, e3]
theorem DA.le {PA : List D → Prop} (h : DA X K cl es γ md PA) (hl : ma.le md = true) : DA X K cl es γ ma PA := by
  obtain ⟨am, ao, af⟩ := ma
  obtain ⟨bm, bo, bf⟩ := md
  refine fun M H0 H σ E Q q => h M H0 H σ E Q fun vs H' ds k p r => q vs H' ds k p (r.tr (.weak fun x hx => ?_))
  rcases hx with ⟨h1, h2⟩ | ⟨h1, h2⟩
  · left; refine ⟨?_, h2⟩
    cases am <;> cases bm <;> simp_all [Md.le]
  · right; refine ⟨?_, h2⟩
    cases ao <;> cases bo <;> simp_all [Md.le]
theorem ownLe {M : Addr → Prop} {σ : L2.St} (md : Md) (p : Addr) (h : RN md M σ γ p) : RN mF M σ γ p := by
  rcases h with ⟨_, h⟩ | ⟨_, h⟩
  · exact .inl ⟨rfl, h⟩
  · exact .inr ⟨rfl, h⟩
/-- what is new lies apart -/
theorem rn_there {M : Addr → Prop} {H0 H : Hp} {σ : L2.St} (E : EO K cl M H0 H σ γ) {p : Addr} (h : RN md M σ γ p) : H p ≠ none := by
  rcases h with ⟨_, h⟩ | ⟨_, h⟩
  · exact E.md p h
  · obtain ⟨_, _, vs, e, _⟩ := E.own h
    rw [e]
    intro z
    cases z
theorem rn_apart {M : Addr → Prop} {H0 H : Hp} {σ : L2.St} (E : EO K cl M H0 H σ γ) {p : Addr} (h : H p = none) : ¬ RN md M σ γ p := fun z => rn_there E z h
/-- (a, b, ..) -/
theorem de_tup {PA : List D → Prop} (h : DA X K cl es γ md PA) (hl : ∀ ds, PA ds → ds.length ≤ 100000 ∧ P (.tup ds)) {k : Nat} : DE X K cl (.Tuple es k pos) γ md P := by
  intro M H0 H σ E Q q
  refine ⟨_, fun i => pe_tup (paR i), h M H0 H σ E _ fun vs H1 ds k1 p1 r1 => ⟨?_, fun p hp => ?_⟩⟩
  · rw [r1.length]
    exact Nat.le_trans (hl ds p1).1 (by decide)
  · exact q _ _ _ (k1.trans (Kp.new hp)) (hl ds p1).2 ⟨.tup (SqT.of upd_same) (r1.tr (.kp (Kp.new hp))), fun _ ds e => nomatch e⟩
theorem de_tupE {ds : List D} (h : DA X K cl es γ md (fun x => x = ds)) (hl : ds.length ≤ 100000) {k : Nat} : DE X K cl (.Tuple es k pos) γ md (Is (.tup ds)) := de_tup h fun x hx => by rw [hx]; exact ⟨hl, rfl⟩
/-- [a, b, ..] -/
theorem de_lst {PA : List D → Prop} (h : DA X K cl es γ md PA) (hl : ∀ ds, PA ds → ds.length ≤ 100000 ∧ hom ds ∧ P (.lst ds)) : DE X K cl (.List es pos) γ ⟨md.m, md.o, true⟩ P := by
  intro M H0 H σ E Q q
  refine ⟨_, fun i => pe_lst (paR i), h M H0 H σ E _ fun vs H1 ds k1 p1 r1 => ⟨?_, fun p hp => ?_⟩⟩
  · rw [r1.length]
    exact Nat.le_trans (hl ds p1).1 (by decide)
  · refine q _ _ _ (k1.trans (Kp.new hp)) (hl ds p1).2.2 ⟨.lst upd_same (rn_apart (md := md) (E.go k1) hp) ((hl ds p1).2.1.nobox r1) ((r1.tr (.kp (Kp.new hp)))), fun _ ds e => ⟨p, rfl, k1.back hp⟩⟩
theorem de_lstE {ds : List D} (h : DA X K cl es γ md (fun x => x = ds)) (hl : ds.length ≤ 100000) (hh : hom ds) : DE X K cl (.List es pos) γ ⟨md.m, md.o, true⟩ (Is (.lst ds)) := de_lst h fun x hx => by rw [hx]; exact ⟨hl, hh, rfl⟩
theorem de_nil : DE X K cl (.List [] pos) γ mF (Is (.lst [])) := de_lstE (md := mF) da_nil (by decide) hom_nil

/-! ### calls of own defs -/
variable {W : Wd} {α : Type} {enc : α → List D} {Pre : α → Prop} {R : α → D → Prop}
/-- f(..) -/
theorem de_call {x : Str} {k j n : Nat} {p : Pos} {PA : List D → Prop} (hX : ∀ i, W.at (X i)) (F : GFn W x k (Con W.K W.cl n enc Pre R)) (hr : ∀ i, Room j (X i).A) (hk : k ≤ j) (hg : ∀ i, Gl (X i) x)
    (ha : DA X W.K W.cl (e :: es) γ mA PA) (hp : ∀ ds, PA ds → ∃ x, ds = enc x ∧ (enc x).length = n ∧ Pre x ∧ ∀ d, R x d → P d) (hdb : (x == ("__debug__" : Str)) = false)
    (he : ∀ i, starEach (e :: es) (X i).env = (false, eval e (X i).env) :: starEach es (X i).env) (hpl : ∀ i, (backTo pos (starEach es (X i).env)).any (·.1) = false) : DE X W.K W.cl (.Call (.Name x p) (e :: es) [] pos) γ mF P := by
  obtain ⟨f, fd, ps, F, hm, hkp, hb⟩ := F
  intro M H0 H σ E Q q
  refine ⟨tCall (Con W.K W.cl n enc Pre R) [] E0 (rA X (e :: es)), fun i => ?_, ha M H0 H σ E _ fun vs H1 ds k1 p1 r1 => ?_⟩
  · obtain ⟨h1, h2, h3, h4, h5, h6⟩ := hX i
    rw [← h1, ← h2, ← h3, ← h4, ← h5] at F
    rw [← h4] at hm
    rw [← h3] at hkp hb
    rw [← h3]
    exact pe_call (by rw [h3] at F ⊢; exact F) ((hr i).mono hk) (hg i) hm hkp hb .nil pass0 (paR i) hdb (he i) (hpl i)
  · obtain ⟨x0, ex, a1, a2, a3⟩ := hp ds p1
    subst ex
    refine ⟨x0, by rw [List.append_nil]; exact r1.tr (.weak fun p z => z.elim), a1, a2, fun v H2 d k2 r2 t2 => q v H2 d (k1.trans k2) (a3 d r2) ⟨t2.tr (.weak fun p hp => ?_), fun _ ds e => ?_⟩⟩
    · exact rn_there (E.go k1) hp
    · subst e
      cases t2 with
      | lst e1 n1 b1 h1 =>
        refine ⟨_, rfl, k1.back ?_⟩
        rename_i p' vs'
        cases q' : H1 p' with
        | none => rfl
        | some o => exact absurd (by rw [q']; intro z; cases z) n1
/-- f(..), the result may hold the arguments -/
theorem de_callS {x : Str} {k j n : Nat} {p : Pos} {PA : List D → Prop} (hX : ∀ i, W.at (X i)) (F : GFn W x k (ConS W.K W.cl n enc Pre R)) (hr : ∀ i, Room j (X i).A) (hk : k ≤ j) (hg : ∀ i, Gl (X i) x)
    (ha : DA X W.K W.cl (e :: es) γ md PA) (hp : ∀ ds, PA ds → ∃ x, ds = enc x ∧ (enc x).length = n ∧ Pre x ∧ ∀ d, R x d → P d) (hdb : (x == ("__debug__" : Str)) = false)
    (he : ∀ i, starEach (e :: es) (X i).env = (false, eval e (X i).env) :: starEach es (X i).env) (hpl : ∀ i, (backTo pos (starEach es (X i).env)).any (·.1) = false) : DE X W.K W.cl (.Call (.Name x p) (e :: es) [] pos) γ ⟨md.m, md.o, false⟩ P := by
  obtain ⟨f, fd, ps, F, hm, hkp, hb⟩ := F
  intro M H0 H σ E Q q
  refine ⟨tCall (ConS W.K W.cl n enc Pre R) [] E0 (rA X (e :: es)), fun i => ?_, ha M H0 H σ E _ fun vs H1 ds k1 p1 r1 => ?_⟩
  · obtain ⟨h1, h2, h3, h4, h5, h6⟩ := hX i
    rw [← h1, ← h2, ← h3, ← h4, ← h5] at F
    rw [← h4] at hm
    rw [← h3] at hkp hb
    rw [← h3]
    exact pe_call (by rw [h3] at F ⊢; exact F) ((hr i).mono hk) (hg i) hm hkp hb .nil pass0 (paR i) hdb (he i) (hpl i)
  · obtain ⟨x0, ex, a1, a2, a3⟩ := hp ds p1
    subst ex
    exact ⟨RN md M σ γ, x0, fun p hp => rn_there (E.go k1) hp, by rw [List.append_nil]; exact r1, a1, a2, fun v H2 d k2 r2 t2 => q v H2 d (k1.trans k2) (a3 d r2) ⟨t2, fun z => nomatch z⟩⟩
/-- o.m(..) -/
theorem de_meth {c : Kd} {m : Str} {k j n : Nat} {o : Expr} {apos : Pos} {PA : List D → Prop} {pl : Sem Bool} {d0 : List D} (hX : ∀ i, W.at (X i)) (F : MFn W c m k (Con W.K W.cl n enc Pre R)) (hr : ∀ i, Room j (X i).A) (hk : k ≤ j)
    (hno : m ∉ flds c) (ho : DE X W.K W.cl o γ ma (Is (.obj c d0))) (ha : DA X W.K W.cl (e :: es) γ mA PA) (hp : ∀ ds, PA ds → ∃ x, D.obj c d0 :: ds = enc x ∧ (enc x).length = n ∧ Pre x ∧ ∀ d, R x d → P d)
    (he : ∀ i, starEach (e :: es) (X i).env = (false, eval e (X i).env) :: starEach es (X i).env) (hpl : ∀ i, (backTo pos (starEach es (X i).env)).any (·.1) = false)
    (ht : ∀ i, eval (.Call (.Attribute o m apos) (e :: es) [] pos) (X i).env = (do
      let ov ← eval o (X i).env
      standAt apos.atName
      let (f, first) ← holding [ov] (getMethod ov m pl)
      callWith pos f first (backTo pos (starEach (e :: es) (X i).env)) (backToKw pos (keywordEach [] (X i).env)))) : DE X W.K W.cl (.Call (.Attribute o m apos) (e :: es) [] pos) γ mF P := by
  obtain ⟨f, fd, ps, F, hc, hm, hb⟩ := F
  intro M H0 H σ E Q q
  refine ⟨tMeth (W.cl c) m (Con W.K W.cl n enc Pre R) [] E0 (rE X o) (rA X (e :: es)), fun i => ?_, ho M H0 H σ E _ fun v H1 d1 k1 e1 r1 => ?_⟩
  · obtain ⟨h1, h2, h3, h4, h5, h6⟩ := hX i
    rw [← h1, ← h2, ← h3, ← h4, ← h5] at F
    rw [← h3] at hc hm hb
    rw [← h3]
    exact pe_meth (peR i) hc hm (by rw [h3] at F ⊢; exact F) ((hr i).mono hk) hb .nil pass0 (paR i) (he i) (hpl i) (ht i)
  · subst e1
    obtain ⟨r1, _⟩ := r1
    cases r1 with
    | @obj a1 dx _ fs _ o1 o2 o3 =>
      refine ⟨a1, dx, fs, rfl, o1, ?_, ha M H0 H1 σ (E.go k1) _ fun vs H2 ds k2 p2 r2 => ?_⟩
      · cases ef : fs.lookup m with
        | none => rfl
        | some z =>
          refine absurd ?_ hno
          rw [← o2]
          exact List.mem_map.mpr ⟨(m, z), PySem.mem_of_lookup ef, rfl⟩
      · obtain ⟨x0, ex, a1', a2, a3⟩ := hp ds p2
        have self : Dt W.K W.cl (fun _ => False) H2 (.ref a1) (.obj c d0) := (Dt.obj o1 o2 o3).tr (Tr.weak (N := RN ma M σ γ) (N' := fun _ => False) fun p z => z.elim) |>.tr (.kp k2)
        refine ⟨x0, ex ▸ .cons self (by rw [List.append_nil]; exact r2.tr (.weak fun p z => z.elim)), a1', a2, fun v H3 d k3 r3 t3 => q v H3 d ((k1.trans k2).trans k3) (a3 d r3) ⟨t3.tr (.weak fun p hp => ?_), fun _ ds e => ?_⟩⟩
        · exact rn_there ((E.go k1).go k2) hp
        · subst e
          cases t3 with
          | lst e1 n1 b1 h1 =>
            refine ⟨_, rfl, (k1.trans k2).back ?_⟩
            rename_i p' vs'
            cases q' : H2 p' with
            | none => rfl
            | some o => exact absurd (by rw [q']; intro z; cases z) n1

/-! ### built-ins -/
theorem de_len {s : D} {ds : List D} {p : Pos} (hX : ∀ i, W.at (X i)) (hg : ∀ i, Gl (X i) "len") (hm : W.mg "len" = none) (ha : DE X W.K W.cl a γ ma (Is s)) (hs : Sq s ds)
    (he : ∀ i, starEach [a] (X i).env = (false, eval a (X i).env) :: starEach [] (X i).env) (hpl : ∀ i, (backTo pos (starEach [] (X i).env)).any (·.1) = false) : DE X W.K W.cl (.Call (.Name "len" p) [a] [] pos) γ md (Is (.int ds.length)) := by
  intro M H0 H σ E Q q
  refine ⟨tCB (fun xs H Q => ∃ p ys, xs = [.ref p] ∧ (SqL W.K H p ys ∨ SqT W.K H p ys) ∧ Q (.int ys.length) H) (rA X [a]), fun i => ?_, ?_⟩
  · obtain ⟨h1, h2, h3, h4, h5, h6⟩ := hX i
    rw [← h3]
    exact pe_callB call_len_seq (hg i) (by rw [h4]; exact hm) PySem.boot_len (paR i) (by decide +kernel) (by decide +kernel) (he i) (hpl i)
  · refine (da_cons ha da_nil he) M H0 H σ E _ fun vs H1 ds1 k1 ⟨d, r, e1, e2, e3⟩ r1 => ?_
    subst e1 e2 e3
    cases r1 with
    | cons t1 t2 =>
      cases t2
      have fin : ∀ n : Nat, n = ds.length → Q (.int n) H1 := fun n hn => by subst hn; exact q _ H1 _ k1 rfl (.of_im (N := fun _ => False) rfl (.int _))
      cases hs with
      | l =>
        cases t1 with
        | lst x1 x2 x3 x4 => exact ⟨_, _, rfl, .inl (SqL.of x1), fin _ x4.length⟩
      | t =>
        cases t1 with
        | tup x1 x4 => exact ⟨_, _, rfl, .inr x1, fin _ x4.length⟩
/-- list(s) -/
theorem de_list {s : D} {ds : List D} {p : Pos} (hX : ∀ i, W.at (X i)) (hg : ∀ i, Gl (X i) "list") (hm : W.mg "list" = none) (hv : bootBuiltins "list" = some (.type "list")) (ha : DE X W.K W.cl a γ ma (Is s)) (hs : Sq s ds) (hh : hom ds)
    (he : ∀ i, starEach [a] (X i).env = (false, eval a (X i).env) :: starEach [] (X i).env) (hpl : ∀ i, (backTo pos (starEach [] (X i).env)).any (·.1) = false) : DE X W.K W.cl (.Call (.Name "list" p) [a] [] pos) γ ⟨ma.m, ma.o, true⟩ (Is (.lst ds)) := by
  intro M H0 H σ E Q q
  refine ⟨tCB (fun xs H Q => ∃ p ys, xs = [.ref p] ∧ (SqL W.K H p ys ∨ SqT W.K H p ys) ∧ ∀ l, H l = none → Q (.ref l) (upd H l (.lst ys))) (rA X [a]), fun i => ?_, ?_⟩
  · obtain ⟨h1, h2, h3, h4, h5, h6⟩ := hX i
    rw [← h3]
    exact pe_callTy call_list_of (hg i) (by rw [h4]; exact hm) hv (paR i) (by decide +kernel) (by decide +kernel) (he i) (hpl i)
  · refine (da_cons ha da_nil he) M H0 H σ E _ fun vs H1 ds1 k1 ⟨d, r, e1, e2, e3⟩ r1 => ?_
    subst e1 e2 e3
    cases r1 with
    | cons t1 t2 =>
      cases t2
      have fin : ∀ {vs : List V}, DtA W.K W.cl (RN ma M σ γ) H1 vs ds → ∀ l, H1 l = none → Q (.ref l) (upd H1 l (.lst vs)) := fun {vs} h l hl =>
        q _ _ _ (k1.trans (Kp.new hl)) rfl ⟨.lst upd_same (rn_apart (md := ma) (E.go k1) hl) (hh.nobox h) (h.tr (.kp (Kp.new hl))), fun _ _ _ => ⟨l, rfl, k1.back hl⟩⟩
      cases hs with
      | l =>
        cases t1 with
        | lst x1 x2 x3 x4 => exact ⟨_, _, rfl, .inl (SqL.of x1), fin x4⟩
      | t =>
        cases t1 with
        | tup x1 x4 => exact ⟨_, _, rfl, .inr x1, fin x4⟩
/-- tuple(s) -/
theorem de_tuple {s : D} {ds : List D} {p : Pos} (hX : ∀ i, W.at (X i)) (hg : ∀ i, Gl (X i) "tuple") (hm : W.mg "tuple" = none) (hv : bootBuiltins "tuple" = some (.type "tuple")) (ha : DE X W.K W.cl a γ ma (Is s)) (hs : Sq s ds)
    (he : ∀ i, starEach [a] (X i).env = (false, eval a (X i).env) :: starEach [] (X i).env) (hpl : ∀ i, (backTo pos (starEach [] (X i).env)).any (·.1) = false) : DE X W.K W.cl (.Call (.Name "tuple" p) [a] [] pos) γ ⟨ma.m, ma.o, false⟩ (Is (.tup ds)) := by
  intro M H0 H σ E Q q
  refine ⟨tCB (fun xs H Q => ∃ p ys, xs = [.ref p] ∧ ((SqL W.K H p ys ∧ ∀ l, H l = none → Q (.ref l) (upd H l (.tup ys))) ∨ (SqT W.K H p ys ∧ Q (.ref p) H))) (rA X [a]), fun i => ?_, ?_⟩
  · obtain ⟨h1, h2, h3, h4, h5, h6⟩ := hX i
    rw [← h3]
    exact pe_callTy call_tuple_of (hg i) (by rw [h4]; exact hm) hv (paR i) (by decide +kernel) (by decide +kernel) (he i) (hpl i)
  · refine (da_cons ha da_nil he) M H0 H σ E _ fun vs H1 ds1 k1 ⟨d, r, e1, e2, e3⟩ r1 => ?_
    subst e1 e2 e3
    cases r1 with
    | cons t1 t2 =>
      cases t2
      cases hs with
      | l =>
        cases t1 with
        | lst x1 x2 x3 x4 => exact ⟨_, _, rfl, .inl ⟨SqL.of x1, fun l hl => q _ _ _ (k1.trans (Kp.new hl)) rfl ⟨.tup (SqT.of upd_same) (x4.tr (.kp (Kp.new hl))), fun z => nomatch z⟩⟩⟩
      | t =>
        cases t1 with
        | tup x1 x4 => exact ⟨_, _, rfl, .inr ⟨x1, q _ _ _ k1 rfl ⟨.tup x1 x4, fun z => nomatch z⟩⟩⟩
/-- int(i) -/
theorem de_intOf {q0 : Int → Prop} {p : Pos} (hX : ∀ i, W.at (X i)) (hg : ∀ i, Gl (X i) "int") (hm : W.mg "int" = none) (hv : bootBuiltins "int" = some (.type "int")) (ha : DE X W.K W.cl a γ ma (IsI q0))
    (he : ∀ i, starEach [a] (X i).env = (false, eval a (X i).env) :: starEach [] (X i).env) (hpl : ∀ i, (backTo pos (starEach [] (X i).env)).any (·.1) = false) : DE X W.K W.cl (.Call (.Name "int" p) [a] [] pos) γ md (IsI q0) := by
  intro M H0 H σ E Q q
  refine ⟨tCB (fun xs H Q => (∃ i, xs = [.int i] ∧ Q (.int i) H) ∨ ∃ k, xs = [.bl k] ∧ Q (.int (if k then 1 else 0)) H) (rA X [a]), fun i => ?_, ?_⟩
  · obtain ⟨h1, h2, h3, h4, h5, h6⟩ := hX i
    exact pe_callTy call_int1 (hg i) (by rw [h4]; exact hm) hv (paR i) (by decide +kernel) (by decide +kernel) (he i) (hpl i)
  · refine (da_cons ha da_nil he) M H0 H σ E _ fun vs H1 ds1 k1 ⟨d, r, e1, ⟨i, e2, hi⟩, e3⟩ r1 => ?_
    subst e1 e2 e3
    cases r1 with
    | cons t1 t2 =>
      cases t2
      cases t1
      exact .inl ⟨i, rfl, q _ H1 _ k1 ⟨i, rfl, hi⟩ (.of_im (N := fun _ => False) rfl (.int _))⟩
/-- int(b), a bool told by φ -/
theorem de_intOfB {φ : Prop} [Decidable φ] {p : Pos} (hX : ∀ i, W.at (X i)) (hg : ∀ i, Gl (X i) "int") (hm : W.mg "int" = none) (hv : bootBuiltins "int" = some (.type "int")) (ha : DE X W.K W.cl a γ ma (Vb φ))
    (he : ∀ i, starEach [a] (X i).env = (false, eval a (X i).env) :: starEach [] (X i).env) (hpl : ∀ i, (backTo pos (starEach [] (X i).env)).any (·.1) = false) : DE X W.K W.cl (.Call (.Name "int" p) [a] [] pos) γ md (Is (.int (if φ then 1 else 0))) := by
  intro M H0 H σ E Q q
  refine ⟨tCB (fun xs H Q => (∃ i, xs = [.int i] ∧ Q (.int i) H) ∨ ∃ k, xs = [.bl k] ∧ Q (.int (if k then 1 else 0)) H) (rA X [a]), fun i => ?_, ?_⟩
  · obtain ⟨h1, h2, h3, h4, h5, h6⟩ := hX i
    exact pe_callTy call_int1 (hg i) (by rw [h4]; exact hm) hv (paR i) (by decide +kernel) (by decide +kernel) (he i) (hpl i)
  · refine (da_cons ha da_nil he) M H0 H σ E _ fun vs H1 ds1 k1 ⟨d, r, e1, ⟨i, e2, hi⟩, e3⟩ r1 => ?_
    subst e1 e2 e3
    cases r1 with
    | cons t1 t2 =>
      cases t2
      cases t1
      refine .inr ⟨i, rfl, q _ H1 _ k1 ?_ (.of_im (N := fun _ => False) rfl (.int _))⟩
      by_cases hb : i = true
      · rw [if_pos hb, if_pos (hi.mp hb)]
      · rw [if_neg hb, if_neg fun z => hb (hi.mpr z)]
/-- max(i, j), min(i, j) -/
theorem de_max2 {i j : Int} {p : Pos} (hX : ∀ i, W.at (X i)) (hg : ∀ i, Gl (X i) "max") (hm : W.mg "max" = none) (hv : bootBuiltins "max" = some (.builtin "max")) (ha : DA X W.K W.cl (a :: es) γ ma (fun x => x = [.int i, .int j]))
    (he : ∀ i, starEach (a :: es) (X i).env = (false, eval a (X i).env) :: starEach es (X i).env) (hpl : ∀ i, (backTo pos (starEach es (X i).env)).any (·.1) = false) : DE X W.K W.cl (.Call (.Name "max" p) (a :: es) [] pos) γ md (Is (.int (if j > i then j else i))) := by
  intro M H0 H σ E Q q
  refine ⟨tCB (fun xs H Q => ∃ i j, xs = [.int i, .int j] ∧ Q (.int (if j > i then j else i)) H) (rA X (a :: es)), fun i => ?_, ?_⟩
  · obtain ⟨h1, h2, h3, h4, h5, h6⟩ := hX i
    exact pe_callB (call_max2 h6) (hg i) (by rw [h4]; exact hm) hv (paR i) (by decide +kernel) (by decide +kernel) (he i) (hpl i)
  · refine ha M H0 H σ E _ fun vs H1 ds1 k1 e1 r1 => ?_
    subst e1
    cases r1 with
    | cons t1 t2 =>
      cases t2 with
      | cons t2 t3 =>
        cases t3
        cases t1
        cases t2
        exact ⟨i, j, rfl, q _ H1 _ k1 rfl (.of_im (N := fun _ => False) rfl (.int _))⟩
theorem de_min2 {i j : Int} {p : Pos} (hX : ∀ i, W.at (X i)) (hg : ∀ i, Gl (X i) "min") (hm : W.mg "min" = none) (hv : bootBuiltins "min" = some (.builtin "min")) (ha : DA X W.K W.cl (a :: es) γ ma (fun x => x = [.int i, .int j]))
    (he : ∀ i, starEach (a :: es) (X i).env = (false, eval a (X i).env) :: starEach es (X i).env) (hpl : ∀ i, (backTo pos (starEach es (X i).env)).any (·.1) = false) : DE X W.K W.cl (.Call (.Name "min" p) (a :: es) [] pos) γ md (Is (.int (if j < i then j else i))) := by
  intro M H0 H σ E Q q
  refine ⟨tCB (fun xs H Q => ∃ i j, xs = [.int i, .int j] ∧ Q (.int (if j < i then j else i)) H) (rA X (a :: es)), fun i => ?_, ?_⟩
  · obtain ⟨h1, h2, h3, h4, h5, h6⟩ := hX i
    exact pe_callB (call_min2 h6) (hg i) (by rw [h4]; exact hm) hv (paR i) (by decide +kernel) (by decide +kernel) (he i) (hpl i)
  · refine ha M H0 H σ E _ fun vs H1 ds1 k1 e1 r1 => ?_
    subst e1
    cases r1 with
    | cons t1 t2 =>
      cases t2 with
      | cons t2 t3 =>
        cases t3
        cases t1
        cases t2
        exact ⟨i, j, rfl, q _ H1 _ k1 rfl (.of_im (N := fun _ => False) rfl (.int _))⟩
/-- sorted(list of ints): some sorted list -/
theorem de_sorted {ns : List Int} {p : Pos} (hX : ∀ i, W.at (X i)) (hg : ∀ i, Gl (X i) "sorted") (hm : W.mg "sorted" = none) (hv : bootBuiltins "sorted" = some (.builtin "sorted")) (ha : DE X W.K W.cl a γ ma (Is (.lst (ns.map D.int))))
    (he : ∀ i, starEach [a] (X i).env = (false, eval a (X i).env) :: starEach [] (X i).env) (hpl : ∀ i, (backTo pos (starEach [] (X i).env)).any (·.1) = false) :
    DE X W.K W.cl (.Call (.Name "sorted" p) [a] [] pos) γ mF (fun d => ∃ ms : List Int, d = .lst (ms.map D.int) ∧ ms.Perm ns) := by
  intro M H0 H σ E Q q
  refine ⟨tCB (rSortedI W.K) (rA X [a]), fun i => ?_, ?_⟩
  · obtain ⟨h1, h2, h3, h4, h5, h6⟩ := hX i
    rw [← h3]
    exact pe_callB cr_sortedI (hg i) (by rw [h4]; exact hm) hv (paR i) (by decide +kernel) (by decide +kernel) (he i) (hpl i)
  · refine (da_cons ha da_nil he) M H0 H σ E _ fun vs H1 ds1 k1 ⟨d, r, e1, e2, e3⟩ r1 => ?_
    subst e1 e2 e3
    cases r1 with
    | cons t1 t2 =>
      cases t2
      cases t1 with
      | lst x1 x2 x3 x4 =>
        obtain rfl := x4.of_ints
        refine ⟨_, ns, rfl, SqL.of x1, fun ms l h1 h2 hl => ?_⟩
        exact q _ _ _ (k1.trans (Kp.new hl)) ⟨ms, rfl, h1⟩ ⟨.lst upd_same (rn_apart (md := mF) (E.go k1) hl) (not_boxV_ints ms) (DtA.ints ms), fun _ _ _ => ⟨l, rfl, k1.back hl⟩⟩
/-- list(range(n)) -/
theorem de_listRange {n : Int} {p p2 pos2 : Pos} (hX : ∀ i, W.at (X i)) (hg : ∀ i, Gl (X i) "list") (hm : W.mg "list" = none) (hg2 : ∀ i, Gl (X i) "range") (hm2 : W.mg "range" = none) (ha : DE X W.K W.cl a γ ma (Is (.int n))) (h0 : 0 ≤ n) (h1 : n ≤ 16777216)
    (he : ∀ i, starEach [a] (X i).env = (false, eval a (X i).env) :: starEach [] (X i).env)
    (he2 : ∀ i, starEach [.Call (.Name "range" p2) [a] [] pos2] (X i).env = (false, eval (.Call (.Name "range" p2) [a] [] pos2) (X i).env) :: starEach [] (X i).env) :
    DE X W.K W.cl (.Call (.Name "list" p) [.Call (.Name "range" p2) [a] [] pos2] [] pos) γ mF (Is (.lst (((List.range n.toNat).map fun (i : Nat) => (i : Int)).map D.int))) := by
  intro M H0 H σ E Q q
  refine ⟨tLstRg (tRg1 (rE X a)), fun i => ?_, ha M H0 H σ E _ fun v H1 d k1 e1 r1 => ?_⟩
  · obtain ⟨h1, h2, h3, h4, h5, h6⟩ := hX i
    exact pe_listRg h6 (hg i) (by rw [h4]; exact hm) (prg_1 (hg2 i) (by rw [h4]; exact hm2) (peR i) (he i)) (he2 i)
  · subst e1
    obtain ⟨r1, _⟩ := r1
    cases r1
    refine ⟨n, rfl, RgOk.of_le (Int.le_refl 0) h1 (by decide) h0, fun l hl => ?_⟩
    have e : rgV 0 n = (((List.range n.toNat).map fun (i : Nat) => (i : Int)).map V.int) := by
      unfold rgV
      rw [List.map_map, Int.sub_zero]
      refine List.map_congr_left fun x _ => ?_
      show V.int (0 + (x : Int)) = V.int (x : Int)
      rw [Int.zero_add]
    rw [e]
    exact q _ _ _ (k1.trans (Kp.new hl)) rfl ⟨.lst upd_same (rn_apart (md := mF) (E.go k1) hl) (not_boxV_ints _) (DtA.ints _), fun _ _ _ => ⟨l, rfl, k1.back hl⟩⟩

/-! ### slices, + of lists -/
theorem sIx_lo (n k : Nat) (i : Int) (h : 0 ≤ i) : HT.sIx n k (some i) = min i.toNat n := by
  obtain ⟨j, rfl⟩ : ∃ j : Nat, i = (j : Int) := ⟨i.toNat, by omega⟩
  rw [HT.sIx_nat, Int.toNat_natCast]
/-- xs[lo:hi] of data -/
def cutD (ds : List D) (lo hi : Option Int) : List D := (ds.drop (HT.sIx ds.length 0 lo)).take (HT.sIx ds.length ds.length hi - HT.sIx ds.length 0 lo)
theorem cutD_mem {ds : List D} {lo hi : Option Int} : ∀ d ∈ cutD ds lo hi, d ∈ ds := fun d h => List.mem_of_mem_drop (List.mem_of_mem_take h)
/-- a slice's part -/
def DPo (X : ι → Cx) (K : PySem.W.Frag) (cl : Kd → Addr) (o : Option Expr) (γ : List G) (i : Option Int) : Prop :=
  ∃ t : TO, (∀ j, PO (X j) o t) ∧ ∀ M H0 H σ, EO K cl M H0 H σ γ → ∀ Q : Option Int → Hp → Prop, (∀ H', Kp H H' → Q i H') → t σ H Q
theorem dpo_none : DPo X K cl none γ none := ⟨_, fun j => po_none, fun M H0 H σ E Q q => q H (Kp.refl H)⟩
theorem dpo_some {i : Int} (h : DE X K cl e γ ma (Is (.int i))) : DPo X K cl (some e) γ (some i) := by
  refine ⟨_, fun j => po_some (peR j), fun M H0 H σ E Q q => h M H0 H σ E _ fun v H1 d k1 e1 r1 => ?_⟩
  subst e1
  obtain ⟨r1, _⟩ := r1
  cases r1
  exact ⟨i, rfl, q H1 k1⟩
theorem DtA.cut {N : Addr → Prop} {H : Hp} {vs : List V} {ds : List D} (lo hi : Option Int) (h : DtA K cl N H vs ds) : DtA K cl N H (cutV vs lo hi) (cutD ds lo hi) := by
  unfold cutV cutD
  rw [h.length]
  exact (h.drop _).take _
theorem de_slice {ds : List D} {lo hi : Option Expr} {i j : Option Int} {p2 : Pos} (hK : ∀ i, (X i).K = K) (ha : DE X K cl a γ ma (Is (.lst ds))) (hl : DPo X K cl lo γ i) (hh : DPo X K cl hi γ j) (hm : hom (cutD ds i j)) :
    DE X K cl (.Subscript a (.Slice lo hi none p2) pos) γ ⟨ma.m, ma.o, true⟩ (Is (.lst (cutD ds i j))) := by
  obtain ⟨tl, hl1, hl2⟩ := hl
  obtain ⟨th, hh1, hh2⟩ := hh
  intro M H0 H σ E Q q
  refine ⟨tSl (rSlL K) (rE X a) tl th, fun i => by rw [← hK i]; exact pe_slice sl_list (peR i) (hl1 i) (hh1 i), ha M H0 H σ E _ fun v H1 d k1 e1 r1 => ?_⟩
  subst e1
  obtain ⟨r1, _⟩ := r1
  refine hl2 M H0 H1 σ (E.go k1) _ fun H2 k2 => hh2 M H0 H2 σ ((E.go k1).go k2) _ fun H3 k3 => ?_
  have r1 := (r1.tr (.kp k2)).tr (.kp k3)
  cases r1 with
  | lst x1 x2 x3 x4 =>
    refine ⟨_, _, rfl, SqL.of x1, fun l hl => ?_⟩
    have x5 := x4.cut i j
    exact q _ _ _ (((k1.trans k2).trans k3).trans (Kp.new hl)) rfl ⟨.lst upd_same (rn_apart (md := ma) (((E.go k1).go k2).go k3) hl) (hm.nobox x5) (x5.tr (.kp (Kp.new hl))), fun _ _ _ => ⟨l, rfl, ((k1.trans k2).trans k3).back hl⟩⟩
/-- a + b, lists -/
theorem de_cat {ds es' : List D} (ha : DE X K cl a γ md (Is (.lst ds))) (hb : DE X K cl b γ md (Is (.lst es'))) (hh : hom (ds ++ es')) (hl : ds.length + es'.length ≤ 100000) : DE X K cl (.BinOp a .Add b pos) γ ⟨md.m, md.o, true⟩ (Is (.lst (ds ++ es'))) := by
  intro M H0 H σ E Q q
  refine ⟨tOp rCat (rE X a) (rE X b), fun i => pe_op op_cat (peR i) (peR i), ha M H0 H σ E _ fun v H1 d k1 e1 r1 => ?_⟩
  subst e1
  refine hb M H0 H1 σ (E.go k1) _ fun w H2 d2 k2 e2 r2 => ?_
  subst e2
  obtain ⟨r1, _⟩ := r1
  obtain ⟨r2, _⟩ := r2
  have r1 := r1.tr (.kp k2)
  cases r1 with
  | lst x1 x2 x3 x4 =>
    cases r2 with
    | lst y1 y2 y3 y4 =>
      refine ⟨_, _, _, _, rfl, rfl, x1, y1, ?_, fun l hl => ?_⟩
      · rw [x4.length, y4.length]
        exact Nat.le_trans hl (by decide)
      · have x5 := x4.app y4
        exact q _ _ _ ((k1.trans k2).trans (Kp.new hl)) rfl ⟨.lst upd_same (rn_apart (md := md) ((E.go k1).go k2) hl) (hh.nobox x5) (x5.tr (.kp (Kp.new hl))), fun _ _ _ => ⟨l, rfl, (k1.trans k2).back hl⟩⟩
end
end DL

/-! DL4: slots stored, own lists changed, targets, iterators, statements, loops, comprehensions. -/
namespace DL
open PySem PySem.Spec PyProof.Rows L2

section
variable {K : PySem.W.Frag} {cl : Kd → Addr} {M : Addr → Prop} {H0 H H' : Hp} {σ : L2.St} {γ : List G}
theorem get_set_v {j i : Nat} {g : G} {x : Option V} (hl : σ.length = γ.length) (hj : j < γ.length) : (i = j ∧ (γ.set j g)[i]? = some g ∧ (σ.set j x)[i]? = some x) ∨ (i ≠ j ∧ (γ.set j g)[i]? = γ[i]? ∧ (σ.set j x)[i]? = σ[i]?) := by
  by_cases h : i = j
  · subst h
    exact .inl ⟨rfl, by rw [List.getElem?_set_self hj], by rw [List.getElem?_set_self (by omega)]⟩
  · exact .inr ⟨h, by rw [List.getElem?_set_ne (Ne.symm h)], by rw [List.getElem?_set_ne (Ne.symm h)]⟩
theorem EO.set_v {md : Md} {j : Nat} {v : V} {d : D} (E : EO K cl M H0 H σ γ) (hj : j < γ.length) (r : Dt K cl (RN md M σ γ) H v d) (ho : md.o = true) : EO K cl M H0 H (σ.set j (some v)) (γ.set j (.v md.m d)) := by
  have ow : ∀ p, Ow (σ.set j (some v)) (γ.set j (.v md.m d)) p → Ow σ γ p := by
    rintro p ⟨i, ds, h1, h2⟩
    rcases get_set_v (i := i) (g := .v md.m d) (x := some v) E.ln hj with ⟨rfl, g1, g2⟩ | ⟨ne, g1, g2⟩
    · rw [g1] at h1; cases h1
    · exact ⟨i, ds, by rw [← g1]; exact h1, by rw [← g2]; exact h2⟩
  have sp : ∀ b p, SpN b M (σ.set j (some v)) (γ.set j (.v md.m d)) p → SpN b M σ γ p := fun b p h => h.imp id (ow p)
  refine ⟨E.kp, E.md, by rw [List.length_set, List.length_set]; exact E.ln, fun i b d' h => ?_, fun i ds h => ?_, fun i i' p ds es h1 h2 h3 h4 => ?_⟩
  · rcases get_set_v (i := i) (g := .v md.m d) (x := some v) E.ln hj with ⟨rfl, g1, g2⟩ | ⟨ne, g1, g2⟩
    · rw [g1] at h
      cases h
      refine ⟨v, g2, r.tr (.weak fun p hp => ?_)⟩
      rcases hp with hp | hp
      · exact .inl hp
      · exact .inr ⟨ho, ow p hp⟩
    · rw [g1] at h
      obtain ⟨u, e1, e2⟩ := E.vl i b d' h
      exact ⟨u, by rw [g2]; exact e1, e2.tr (.weak (sp b))⟩
  · rcases get_set_v (i := i) (g := .v md.m d) (x := some v) E.ln hj with ⟨rfl, g1, g2⟩ | ⟨ne, g1, g2⟩
    · rw [g1] at h; cases h
    · rw [g1] at h
      obtain ⟨p, vs, e1, e2, e3, e4, e5, e6⟩ := E.ow i ds h
      exact ⟨p, vs, by rw [g2]; exact e1, e2, e3, e4, e5, e6.tr (.weak (sp true))⟩
  · rcases get_set_v (i := i) (g := .v md.m d) (x := some v) E.ln hj with ⟨rfl, g1, g2⟩ | ⟨ne, g1, g2⟩
    · rw [g1] at h1; cases h1
    · rcases get_set_v (i := i') (g := .v md.m d) (x := some v) E.ln hj with ⟨rfl, g1', g2'⟩ | ⟨ne', g1', g2'⟩
      · rw [g1'] at h2; cases h2
      · rw [g1] at h1
        rw [g1'] at h2
        rw [g2] at h3
        rw [g2'] at h4
        exact E.dj i i' p ds es h1 h2 h3 h4
/-- a new list becomes the def's own -/
theorem EO.set_ow {j : Nat} {p : Addr} {vs : List V} {ds : List D} {N : Addr → Prop} (E : EO K cl M H0 H σ γ) (hj : j < γ.length) (hp : H p = none) (k : Kp H H') (e : H' p = some (.lst vs)) (hb : ¬ BoxV vs) (hi : D.immA ds = true) (hd : DtA K cl N H' vs ds) :
    EO K cl M H0 H' (σ.set j (some (.ref p))) (γ.set j (.ow ds)) := by
  have ow : ∀ q, Ow (σ.set j (some (.ref p))) (γ.set j (.ow ds)) q → Ow σ γ q ∨ H q = none := by
    rintro q ⟨i, ds', h1, h2⟩
    rcases get_set_v (i := i) (g := .ow ds) (x := some (.ref p)) E.ln hj with ⟨rfl, g1, g2⟩ | ⟨ne, g1, g2⟩
    · rw [g2] at h2
      cases h2
      exact .inr hp
    · exact .inl ⟨i, ds', by rw [← g1]; exact h1, by rw [← g2]; exact h2⟩
  have sp : ∀ b q, SpN b M (σ.set j (some (.ref p))) (γ.set j (.ow ds)) q → SpN b M σ γ q ∨ H q = none := fun b q h => by
    rcases h with h | h
    · exact .inl (.inl h)
    · rcases ow q h with z | z
      · exact .inl (.inr z)
      · exact .inr z
  have E1 := E.go k
  have notp : ∀ (i : Nat) (ds' : List D), γ[i]? = some (.ow ds') → σ[i]? ≠ some (some (.ref p)) := fun i ds' h1 h2 => by
    obtain ⟨q, vs', e1, e2, e3, e4, _⟩ := E.ow i ds' h1
    rw [h2] at e1
    cases e1
    rw [hp] at e4
    cases e4
  refine ⟨E1.kp, E1.md, by rw [List.length_set, List.length_set]; exact E.ln, fun i b d' h => ?_, fun i ds' h => ?_, fun i i' q ds' es h1 h2 h3 h4 => ?_⟩
  · rcases get_set_v (i := i) (g := .ow ds) (x := some (.ref p)) E.ln hj with ⟨rfl, g1, g2⟩ | ⟨ne, g1, g2⟩
    · rw [g1] at h; cases h
    · rw [g1] at h
      obtain ⟨u, e1, e2⟩ := E.vl i b d' h
      exact ⟨u, by rw [g2]; exact e1, (e2.tr (.grow (sp b))).tr (.kp k)⟩
  · rcases get_set_v (i := i) (g := .ow ds) (x := some (.ref p)) E.ln hj with ⟨rfl, g1, g2⟩ | ⟨ne, g1, g2⟩
    · rw [g1] at h
      cases h
      exact ⟨p, vs, g2, E.kp.back hp, fun z => E.md p z hp, e, hb, hd.im hi⟩
    · rw [g1] at h
      obtain ⟨q, us, e1, e2, e3, e4, e5, e6⟩ := E.ow i ds' h
      exact ⟨q, us, by rw [g2]; exact e1, e2, e3, k.st _ _ e4 (by rintro ⟨ws, z, y⟩; cases z; exact e5 y), e5, (e6.tr (.grow (sp true))).tr (.kp k)⟩
  · rcases get_set_v (i := i) (g := .ow ds) (x := some (.ref p)) E.ln hj with ⟨rfl, g1, g2⟩ | ⟨ne, g1, g2⟩
    · rcases get_set_v (i := i') (g := .ow ds) (x := some (.ref p)) E.ln hj with ⟨rfl, g1', g2'⟩ | ⟨ne', g1', g2'⟩
      · rfl
      · rw [g2] at h3
        cases h3
        rw [g1'] at h2
        rw [g2'] at h4
        exact absurd h4 (notp i' es h2)
    · rcases get_set_v (i := i') (g := .ow ds) (x := some (.ref p)) E.ln hj with ⟨rfl, g1', g2'⟩ | ⟨ne', g1', g2'⟩
      · rw [g2'] at h4
        cases h4
        rw [g1] at h1
        rw [g2] at h3
        exact absurd h3 (notp i ds' h1)
      · rw [g1] at h1
        rw [g1'] at h2
        rw [g2] at h3
        rw [g2'] at h4
        exact E.dj i i' q ds' es h1 h2 h3 h4
/-- an own list is changed -/
theorem EO.chg {j : Nat} {p : Addr} {vs ws : List V} {ds es : List D} (E : EO K cl M H0 H σ γ) (hj : γ[j]? = some (.ow ds)) (hp : σ[j]? = some (some (.ref p))) (e : H p = some (.lst vs)) (hb : ¬ BoxV ws) (hd : DtA K cl (SpN true M σ γ) H ws es) :
    EO K cl M H0 (upd H p (.lst ws)) σ (γ.set j (.ow es)) := by
  have hjl : j < γ.length := (List.getElem?_eq_some_iff.mp hj).1
  obtain ⟨p', vs', e1, e2, e3, e4, e5, e6⟩ := E.ow j ds hj
  rw [hp] at e1
  cases e1
  have owp : Ow σ γ p := ⟨j, ds, hj, hp⟩
  have gs : ∀ i, (i = j ∧ (γ.set j (.ow es))[i]? = some (.ow es)) ∨ (i ≠ j ∧ (γ.set j (.ow es))[i]? = γ[i]?) := fun i => by
    by_cases h : i = j
    · subst h; exact .inl ⟨rfl, by rw [List.getElem?_set_self hjl]⟩
    · exact .inr ⟨h, by rw [List.getElem?_set_ne (Ne.symm h)]⟩
  have ow : ∀ q, Ow σ (γ.set j (.ow es)) q → Ow σ γ q := by
    rintro q ⟨i, ds', h1, h2⟩
    rcases gs i with ⟨rfl, g⟩ | ⟨ne, g⟩
    · exact ⟨i, ds, hj, h2⟩
    · exact ⟨i, ds', by rw [← g]; exact h1, h2⟩
  have sp : ∀ b q, SpN b M σ (γ.set j (.ow es)) q → SpN b M σ γ q := fun b q h => h.imp id (ow q)
  have chg : ∀ b, Tr (SpN b M σ γ) (SpN b M σ γ) H (upd H p (.lst ws)) := fun b => .chg (.inr owp) e
  refine ⟨E.kp.mut e2, fun q h => ?_, by rw [List.length_set]; exact E.ln, fun i b d' h => ?_, fun i ds' h => ?_, fun i i' q ds' es' h1 h2 h3 h4 => ?_⟩
  · by_cases z : q = p
    · rw [z, upd_same]; intro y; cases y
    · rw [upd_ne z]; exact E.md q h
  · rcases gs i with ⟨rfl, g⟩ | ⟨ne, g⟩
    · rw [g] at h; cases h
    · rw [g] at h
      obtain ⟨u, f1, f2⟩ := E.vl i b d' h
      exact ⟨u, f1, (f2.tr (chg b)).tr (.weak (sp b))⟩
  · rcases gs i with ⟨rfl, g⟩ | ⟨ne, g⟩
    · rw [g] at h
      cases h
      exact ⟨p, ws, hp, e2, e3, upd_same, hb, (hd.tr (chg true)).tr (.weak (sp true))⟩
    · rw [g] at h
      obtain ⟨q, us, f1, f2, f3, f4, f5, f6⟩ := E.ow i ds' h
      have nq : q ≠ p := fun z => ne (E.dj i j p ds' ds h hj (by rw [← z]; exact f1) hp)
      exact ⟨q, us, f1, f2, f3, by rw [upd_ne nq]; exact f4, f5, (f6.tr (chg true)).tr (.weak (sp true))⟩
  · have fix : ∀ (i : Nat) (ds' : List D), (γ.set j (.ow es))[i]? = some (.ow ds') → ∃ ds'', γ[i]? = some (.ow ds'') := fun i ds' h => by
      rcases gs i with ⟨rfl, g⟩ | ⟨ne, g⟩
      · exact ⟨ds, hj⟩
      · exact ⟨ds', by rw [← g]; exact h⟩
    obtain ⟨a, h1⟩ := fix i ds' h1
    obtain ⟨b, h2⟩ := fix i' es' h2
    exact E.dj i i' q a b h1 h2 h3 h4
/-- an own list is given up: from here on it is data -/
theorem EO.give {j : Nat} {ds : List D} (E : EO K cl M H0 H σ γ) (hj : γ[j]? = some (.ow ds)) : EO K cl M H0 H σ (γ.set j (.v true (.lst ds))) := by
  have hjl : j < γ.length := (List.getElem?_eq_some_iff.mp hj).1
  obtain ⟨p, vs, e1, e2, e3, e4, e5, e6⟩ := E.ow j ds hj
  have gs : ∀ i, (i = j ∧ (γ.set j (.v true (.lst ds)))[i]? = some (.v true (.lst ds))) ∨ (i ≠ j ∧ (γ.set j (.v true (.lst ds)))[i]? = γ[i]?) := fun i => by
    by_cases h : i = j
    · subst h; exact .inl ⟨rfl, by rw [List.getElem?_set_self hjl]⟩
    · exact .inr ⟨h, by rw [List.getElem?_set_ne (Ne.symm h)]⟩
  have ow : ∀ q, Ow σ (γ.set j (.v true (.lst ds))) q → Ow σ γ q ∧ q ≠ p := by
    rintro q ⟨i, ds', h1, h2⟩
    rcases gs i with ⟨rfl, g⟩ | ⟨ne, g⟩
    · rw [g] at h1; cases h1
    · rw [g] at h1
      exact ⟨⟨i, ds', h1, h2⟩, fun z => ne (E.dj i j p ds' ds h1 hj (by rw [← z]; exact h2) e1)⟩
  have sp : ∀ b q, SpN b M σ (γ.set j (.v true (.lst ds))) q → SpN b M σ γ q := fun b q h => h.imp id fun z => (ow q z).1
  refine ⟨E.kp, E.md, by rw [List.length_set]; exact E.ln, fun i b d' h => ?_, fun i ds' h => ?_, fun i i' q ds' es' h1 h2 h3 h4 => ?_⟩
  · rcases gs i with ⟨rfl, g⟩ | ⟨ne, g⟩
    · rw [g] at h
      cases h
      refine ⟨_, e1, .lst e4 ?_ e5 (e6.tr (.weak (sp true)))⟩
      rintro (⟨_, z⟩ | z)
      · exact e3 z
      · exact (ow p z).2 rfl
    · rw [g] at h
      obtain ⟨u, f1, f2⟩ := E.vl i b d' h
      exact ⟨u, f1, f2.tr (.weak (sp b))⟩
  · rcases gs i with ⟨rfl, g⟩ | ⟨ne, g⟩
    · rw [g] at h; cases h
    · rw [g] at h
      obtain ⟨q, us, f1, f2, f3, f4, f5, f6⟩ := E.ow i ds' h
      exact ⟨q, us, f1, f2, f3, f4, f5, f6.tr (.weak (sp true))⟩
  · rcases gs i with ⟨rfl, g⟩ | ⟨ne, g⟩
    · rw [g] at h1; cases h1
    · rcases gs i' with ⟨rfl, g'⟩ | ⟨ne', g'⟩
      · rw [g'] at h2; cases h2
      · rw [g] at h1
        rw [g'] at h2
        exact E.dj i i' q ds' es' h1 h2 h3 h4
/-- slots forgotten -/
theorem EO.sub {γ' : List G} (E : EO K cl M H0 H σ γ) (hl : γ'.length = γ.length) (h : ∀ (i : Nat) (g : G), γ'[i]? = some g → g = G.un ∨ γ[i]? = some g) : EO K cl M H0 H σ γ' := by
  have ow : ∀ q, Ow σ γ' q → Ow σ γ q := by
    rintro q ⟨i, ds', h1, h2⟩
    rcases h i _ h1 with z | z
    · cases z
    · exact ⟨i, ds', z, h2⟩
  have sp : ∀ b q, SpN b M σ γ' q → SpN b M σ γ q := fun b q h => h.imp id (ow q)
  refine ⟨E.kp, E.md, by rw [hl]; exact E.ln, fun i b d' g => ?_, fun i ds' g => ?_, fun i i' q ds' es' h1 h2 h3 h4 => ?_⟩
  · rcases h i _ g with z | z
    · cases z
    · obtain ⟨u, f1, f2⟩ := E.vl i b d' z
      exact ⟨u, f1, f2.tr (.weak (sp b))⟩
  · rcases h i _ g with z | z
    · cases z
    · obtain ⟨q, us, f1, f2, f3, f4, f5, f6⟩ := E.ow i ds' z
      exact ⟨q, us, f1, f2, f3, f4, f5, f6.tr (.weak (sp true))⟩
  · rcases h i _ h1 with z | z
    · cases z
    · rcases h i' _ h2 with y | y
      · cases y
      · exact E.dj i i' q ds' es' z y h3 h4

/-! ### the heap without the own lists -/
open Classical in
noncomputable def hide (O : Addr → Prop) (H : Hp) : Hp := fun b => if O b then none else H b
theorem hide_at {O : Addr → Prop} {p : Addr} (h : O p) : hide O H p = none := by unfold hide; rw [if_pos h]
theorem hide_of {O : Addr → Prop} {p : Addr} (h : ¬ O p) : hide O H p = H p := by unfold hide; rw [if_neg h]
theorem of_hide {O : Addr → Prop} {p : Addr} {o : HO} (h : hide O H p = some o) : ¬ O p ∧ H p = some o := by
  by_cases z : O p
  · rw [hide_at z] at h; cases h
  · rw [hide_of z] at h; exact ⟨z, h⟩
theorem kp_hide0 {O : Addr → Prop} : Kp (hide O H) H := by
  refine ⟨fun a o h _ => (of_hide h).2, fun b c l h => ?_, fun a h => ?_⟩
  · obtain ⟨i, a, s, e1, e2, r⟩ := h
    exact ⟨i, a, s, (of_hide e1).2, (of_hide e2).2, r⟩
  · cases e : hide O H a with
    | none => exact absurd e h
    | some o => rw [(of_hide e).2]; intro z; cases z
theorem EO.hide (E : EO K cl M H0 H σ γ) : EO K cl M (hide (Ow σ γ) H) H σ γ := by
  refine ⟨kp_hide0, E.md, E.ln, E.vl, fun i ds h => ?_, E.dj⟩
  obtain ⟨p, vs, e1, e2, e3, e4, e5, e6⟩ := E.ow i ds h
  exact ⟨p, vs, e1, hide_at ⟨i, ds, h, e1⟩, e3, e4, e5, e6⟩
theorem EO.kph (E : EO K cl M H0 H σ γ) : Kp H0 (DL.hide (Ow σ γ) H) := by
  have no : ∀ a, H0 a ≠ none → ¬ Ow σ γ a := fun a ha z => ha (E.own z).1
  refine ⟨fun a o h n => ?_, fun b c l h => ?_, fun a h => ?_⟩
  · rw [hide_of (no a (by rw [h]; intro z; cases z))]
    exact E.kp.st a o h n
  · obtain ⟨i, a, s, e1, e2, r⟩ := E.kp.bx b c l h
    exact ⟨i, a, s, by rw [hide_of (no b h.here.1)]; exact e1, by rw [hide_of (no c h.here.2)]; exact e2, r⟩
  · rw [hide_of (no a h)]
    exact E.kp.dm a h
theorem EO.base {Hr : Hp} (E : EO K cl M Hr H σ γ) (k : Kp H0 Hr) : EO K cl M H0 H σ γ := by
  refine ⟨k.trans E.kp, E.md, E.ln, E.vl, fun i ds h => ?_, E.dj⟩
  obtain ⟨p, vs, e1, e2, e3, e4, e5, e6⟩ := E.ow i ds h
  exact ⟨p, vs, e1, k.back e2, e3, e4, e5, e6⟩
/-- data apart from the own lists, in the heap without them -/
theorem Tr.hid {md : Md} {b : Bool} (E : EO K cl M H0 H σ γ) (ho : md.o = true) (hb : md.m = b) : Tr (RN md M σ γ) (fun p => (b = true ∧ M p) ∨ DL.hide (Ow σ γ) H p = none) H (DL.hide (Ow σ γ) H) := by
  have noT : ∀ a o, H a = some o → (∀ xs, o ≠ .lst xs) → ¬ Ow σ γ a := fun a o h n z => by
    obtain ⟨_, _, vs, e, _⟩ := E.own z
    rw [h] at e
    cases e
    exact n _ rfl
  have no : ∀ a, ¬ RN md M σ γ a → ¬ Ow σ γ a := fun a h z => h (.inr ⟨ho, z⟩)
  have nn : ∀ a, H a ≠ none → ¬ RN md M σ γ a → ¬ ((b = true ∧ M a) ∨ DL.hide (Ow σ γ) H a = none) := fun a ha h z => by
    rcases z with z | z
    · exact h (.inl (by rw [hb]; exact z))
    · rw [hide_of (no a h)] at z
      exact ha z
  refine ⟨fun K a xs h => ?_, fun a vs e n bv => ⟨by rw [hide_of (no a n)]; exact e, nn a (by rw [e]; intro z; cases z) n⟩, fun a C dx fs e => by rw [hide_of (noT a _ e (fun xs z => nomatch z))]; exact e, fun x c l h n m => ⟨?_, nn x h.here.1 n, nn c h.here.2 m⟩⟩
  · rcases h with (h | ⟨o, h⟩) | h
    · exact .inl (.inl (by rw [hide_of (noT a _ h (fun xs z => nomatch z))]; exact h))
    · exact .inl (.inr ⟨o, by rw [hide_of (noT a _ h (fun xs z => nomatch z))]; exact h⟩)
    · exact .inr h
  · obtain ⟨i, a, s, e1, e2, r⟩ := h
    exact ⟨i, a, s, by rw [hide_of (no x n)]; exact e1, by rw [hide_of (no c m)]; exact e2, r⟩
end

/-! ### readings of statements, targets, iterators -/
section
variable {ι : Type} (X : ι → Cx)
def rS (s : Stmt) : TS := fun D σ H => ∃ t, (∀ i, PS (X i) s t) ∧ t D σ H
def rSs (s : List Stmt) : TS := fun D σ H => ∃ t, (∀ i, PSs (X i) s t) ∧ t D σ H
def rG (e : Expr) : TG := fun v σ H Q => ∃ t, (∀ i, PG (X i) e t) ∧ t v σ H Q
def rI (tg e : Expr) : TI := fun σ H R => ∃ t, (∀ i, PI (X i) tg e t) ∧ t σ H R
def rTs (es : List Expr) : TT := fun σ H Q => ∃ t, (∀ i, PTs (X i) es t) ∧ t σ H Q
end
section
variable {ι : Type} {X : ι → Cx}
theorem psR {s : Stmt} (i : ι) : PS (X i) s (rS X s) := ⟨fun pins s σ H D I ⟨_, h, q⟩ => (h i).run pins s σ H D I q⟩
theorem pssR {s : List Stmt} (i : ι) : PSs (X i) s (rSs X s) := ⟨fun pins s σ H D I ⟨_, h, q⟩ => (h i).run pins s σ H D I q⟩
theorem pgR {e : Expr} (i : ι) : PG (X i) e (rG X e) := ⟨fun pins s σ H v u Q I r ⟨_, h, q⟩ => (h i).run pins s σ H v u Q I r q⟩
theorem piR {tg e : Expr} (i : ι) : PI (X i) tg e (rI X tg e) := ⟨fun pins s σ H R I ⟨_, h, q⟩ => (h i).run pins s σ H R I q⟩
theorem ptsR {es : List Expr} (i : ι) : PTs (X i) es (rTs X es) := ⟨fun pins s σ H Q I ⟨_, h, q⟩ => (h i).run pins s σ H Q I q⟩
end
/-- what is wanted behind a statement -/
structure Po where
  nx : List G → Prop
  rt : D → Prop
  bk : List G → Prop := fun _ => False
  ct : List G → Prop := fun _ => False
section
variable (K : PySem.W.Frag) (cl : Kd → Addr)
def EvS (t : TS) (γ : List G) (J : Po) : Prop := ∀ M H0 H σ, EO K cl M H0 H σ γ → ∀ D : Ends, (∀ σ' H' γ', EO K cl M H0 H' σ' γ' → J.nx γ' → D.nx σ' H') → (∀ σ' H' γ', EO K cl M H0 H' σ' γ' → J.bk γ' → D.bk σ' H') →
  (∀ σ' H' γ', EO K cl M H0 H' σ' γ' → J.ct γ' → D.ct σ' H') → (∀ v H' d, Kp H0 H' → J.rt d → Dt K cl M H' v d → D.rt v H') → t D σ H
/-- d (mode b) stored; sl: the slots that may change -/
def EvG (g : TG) (γ : List G) (b : Bool) (d : D) (sl : List Nat) (Γ : List G → Prop) : Prop := ∀ M H0 H σ v, EO K cl M H0 H σ γ → Dt K cl (RN ⟨b, true, false⟩ M σ γ) H v d → ∀ Q : L2.St → Hp → Prop,
  (∀ σ' H' γ', EO K cl M H0 H' σ' γ' → Kp H H' → σ'.length = σ.length → (∀ i, i ∉ sl → σ'[i]? = σ[i]?) → Γ γ' → Q σ' H') → g v σ H Q
/-- n items, the i-th is a d with item i d (mode b) -/
def EvI (wi : TI) (γ : List G) (b : Bool) (n : Nat) (item : Nat → D → Prop) : Prop := ∀ M H0 H σ, EO K cl M H0 H σ γ → ∀ R : It → Hp → Prop,
  (∀ (J : It) (H' : Hp) (Gd : Hp → Prop) (Y : Nat → Hp → V → Hp → Prop), Kp H H' → Walk J n Gd Y → (∀ H1, Kp (hide (Ow σ γ) H') H1 → Gd H1) →
    (∀ i H1 x H1', i < n → Kp (hide (Ow σ γ) H') H1 → Y i H1 x H1' → Kp H1 H1' ∧ ∃ d, item i d ∧ Dt K cl (fun p => (b = true ∧ M p) ∨ hide (Ow σ γ) H' p = none) H1' x d) → R J H') → wi σ H R
end
section
variable {ι : Type} (X : ι → Cx) (K : PySem.W.Frag) (cl : Kd → Addr)
def DS (s : Stmt) (γ : List G) (J : Po) : Prop := EvS K cl (rS X s) γ J
def DSs (s : List Stmt) (γ : List G) (J : Po) : Prop := EvS K cl (rSs X s) γ J
def DG (e : Expr) (γ : List G) (b : Bool) (d : D) (sl : List Nat) (Γ : List G → Prop) : Prop := EvG K cl (rG X e) γ b d sl Γ
def DI (tg e : Expr) (γ : List G) (b : Bool) (n : Nat) (item : Nat → D → Prop) : Prop := EvI K cl (rI X tg e) γ b n item
def DTs (es : List Expr) (γ : List G) (P : Bool → Prop) : Prop := EvT K cl (rTs X es) γ P
end

section
variable {ι : Type} {X : ι → Cx} {K : PySem.W.Frag} {cl : Kd → Addr} {γ : List G} {e a b c iter tg : Expr} {es : List Expr} {st : Stmt} {sts sts2 : List Stmt} {pos : Pos} {md ma mb mc : Md} {P P' Pa Pb : D → Prop} {φ ψ : Prop} {J : Po} {W : Wd}
theorem dss_nil (h : J.nx γ) : DSs X K cl [] γ J := fun M H0 H σ E D q1 q2 q3 q4 => ⟨_, fun i => pss_nil, q1 σ H γ E h⟩
theorem dss_cons {I : List G → Prop} (h : DS X K cl st γ ⟨I, J.rt, J.bk, J.ct⟩) (h2 : ∀ γ', I γ' → DSs X K cl sts γ' J) : DSs X K cl (st :: sts) γ J :=
  fun M H0 H σ E D q1 q2 q3 q4 => ⟨_, fun i => pss_cons (psR i) (pssR i), h M H0 H σ E _ (fun σ' H' γ' E' p => h2 γ' p M H0 H' σ' E' D q1 q2 q3 q4) q2 q3 q4⟩
theorem dss_one (h : DS X K cl st γ J) : DSs X K cl [st] γ J := fun M H0 H σ E D q1 q2 q3 q4 => ⟨_, fun i => pss_one (psR i), h M H0 H σ E D q1 q2 q3 q4⟩
theorem ds_pass (h : J.nx γ) : DS X K cl (.Pass pos) γ J := fun M H0 H σ E D q1 q2 q3 q4 => ⟨_, fun i => ps_pass, q1 σ H γ E h⟩
theorem ds_cont (h : J.ct γ) : DS X K cl (.Continue pos) γ J := fun M H0 H σ E D q1 q2 q3 q4 => ⟨_, fun i => ps_continue, q3 σ H γ E h⟩
theorem ds_break (h : J.bk γ) : DS X K cl (.Break pos) γ J := fun M H0 H σ E D q1 q2 q3 q4 => ⟨_, fun i => ps_break, q2 σ H γ E h⟩
/-- return e -/
theorem ds_ret (h : DE X K cl e γ md P) (hm : md.m = true) (hp : ∀ d, P d → J.rt d) : DS X K cl (.Return (some e) pos) γ J := by
  refine fun M H0 H σ E D q1 q2 q3 q4 => ⟨_, fun i => ps_ret (peR i), h M H0 H σ E _ fun v H' d k p r => q4 v H' d (E.kp.trans k) (hp d p) (r.1.tr (.weak fun x hx => .inl ⟨hm, hx⟩))⟩
/-- if c: .. else: .. -/
theorem ds_if (hc : DTe X K cl c γ (Tt φ)) (h1 : φ → DSs X K cl sts γ J) (h2 : ¬ φ → DSs X K cl sts2 γ J) : DS X K cl (.If c sts sts2 pos) γ J := by
  refine fun M H0 H σ E D q1 q2 q3 q4 => ⟨_, fun i => ps_if (ptR i) (pssR i) (pssR i), hc M H0 H σ E _ fun b H' k hb => ?_⟩
  by_cases z : b = true
  · rw [if_pos z]
    exact h1 (hb.mp z) M H0 H' σ (E.go k) D q1 q2 q3 q4
  · rw [if_neg z]
    exact h2 (fun y => z (hb.mpr y)) M H0 H' σ (E.go k) D q1 q2 q3 q4
/-- an expression whose value is dropped -/
theorem ds_expr (h : DE X K cl e γ md P) (hp : ∀ d, P d → J.nx γ) (hs : ∀ i, swapsWith e none pos.line (X i).env = pure false) : DS X K cl (.Expr e pos) γ J :=
  fun M H0 H σ E D q1 q2 q3 q4 => ⟨_, fun i => ps_expr (peR i) (hs i), h M H0 H σ E _ fun v H' d k p r => q1 σ H' γ (E.go k) (hp d p)⟩
/-- x = e -/
theorem ds_set {j : Nat} {x : Str} {px : Pos} (hN : ∀ i, (X i).N.Nodup) (hx : ∀ i, (X i).N[j]? = some x) (hl : ∀ i, Loc (X i).env.scope x) (hf : ∀ i, (X i).fn x = true ∨ (X i).env.scope.names.lookup x = some .local) (hs : ∀ i, swapsWith e (some (.Name x px)) pos.line (X i).env = pure false)
    (hj : j < γ.length) (h : DE X K cl e γ md P) (ho : md.o = true) (hp : ∀ d, P d → J.nx (γ.set j (.v md.m d))) : DS X K cl (.Assign [.Name x px] e pos) γ J :=
  fun M H0 H σ E D q1 q2 q3 q4 => ⟨_, fun i => ps_set (hN i) (hx i) (hl i) (peR i) (hs i) (hf i), h M H0 H σ E _ fun v H' d k p r => q1 _ H' _ ((E.go k).set_v hj r.1 ho) (hp d p)⟩
/-- x = a new list of the def's own -/
theorem ds_setO {j : Nat} {x : Str} {px : Pos} (hN : ∀ i, (X i).N.Nodup) (hx : ∀ i, (X i).N[j]? = some x) (hl : ∀ i, Loc (X i).env.scope x) (hf : ∀ i, (X i).fn x = true ∨ (X i).env.scope.names.lookup x = some .local) (hs : ∀ i, swapsWith e (some (.Name x px)) pos.line (X i).env = pure false)
    (hj : j < γ.length) (h : DE X K cl e γ md P) (ho : md.f = true) (hp : ∀ d, P d → ∃ ds, d = .lst ds ∧ D.immA ds = true ∧ J.nx (γ.set j (.ow ds))) : DS X K cl (.Assign [.Name x px] e pos) γ J := by
  refine fun M H0 H σ E D q1 q2 q3 q4 => ⟨_, fun i => ps_set (hN i) (hx i) (hl i) (peR i) (hs i) (hf i), h M H0 H σ E _ fun v H' d k p r => ?_⟩
  obtain ⟨ds, e1, e2, e3⟩ := hp d p
  subst e1
  obtain ⟨r1, r2⟩ := r
  obtain ⟨p', rfl, hn⟩ := r2 ho ds rfl
  cases r1 with
  | lst x1 x2 x3 x4 => exact q1 _ H' _ (E.set_ow hj hn k x1 x3 e2 x4) e3
/-- xs.append(e), xs the def's own -/
theorem ds_app {j : Nat} {x : Str} {px apos cpos : Pos} {ds : List D} (hx : ∀ i, (X i).N[j]? = some x) (hv : ∀ i, Vis (X i).env.scope x) (h1 : (x == ("__debug__" : Str)) = false) (h2 : (x == ("__classdict__" : Str)) = false) (hj : γ[j]? = some (.ow ds))
    (h : DE X K cl e γ md P) (hm : md.m = true) (ho : md.o = true) (hz : ds.length < 100000) (hp : ∀ d, P d → hom (ds ++ [d]) ∧ J.nx (γ.set j (.ow (ds ++ [d]))))
    (he : ∀ i, starEach [e] (X i).env = (false, eval e (X i).env) :: starEach [] (X i).env)
    (hbm : ∀ i t, PE (X i) e t → PE (X i) (.Call (.Attribute (.Name x px) "append" apos) [e] [] cpos) (tBM K "list" rAppend (tVar j) (tCons t tNil)))
    (hs : ∀ i, swapsWith (.Call (.Attribute (.Name x px) "append" apos) [e] [] cpos) none pos.line (X i).env = pure false) : DS X K cl (.Expr (.Call (.Attribute (.Name x px) "append" apos) [e] [] cpos) pos) γ J := by
  intro M H0 H σ E D q1 q2 q3 q4
  refine ⟨_, fun i => ps_expr (hbm i _ (peR i)) (hs i), ?_⟩
  obtain ⟨p, vs, e1, e2, e3, e4, e5, e6⟩ := E.ow j ds hj
  refine ⟨_, e1, .inl ⟨rfl, _, SqL.of e4⟩, h M H0 H σ E _ fun v H' d k p' r => ?_⟩
  have E1 := E.go k
  have e4' := k.st _ _ e4 (by rintro ⟨ws, z, y⟩; cases z; exact e5 y)
  have e6' := e6.tr (.kp k)
  refine ⟨p, vs, v, rfl, rfl, e4', Nat.lt_of_lt_of_le (by rw [e6.length]; exact hz) (by decide), ?_⟩
  have r6 : DtA K cl (SpN true M σ γ) H' (vs ++ [v]) (ds ++ [d]) := e6'.app (.one (r.1.tr (.weak fun x hx => ?_)))
  · exact q1 σ _ _ (E1.chg hj e1 e4' ((hp d p').1.nobox r6) r6) (hp d p').2
  · rcases hx with ⟨_, hx⟩ | hx
    · exact .inl ⟨hm, hx⟩
    · exact .inr ⟨ho, hx⟩
/-- giving an own list up ahead of a statement -/
theorem ds_give {j : Nat} {ds : List D} (hj : γ[j]? = some (.ow ds)) (h : DS X K cl st (γ.set j (.v true (.lst ds))) J) : DS X K cl st γ J := fun M H0 H σ E D q1 q2 q3 q4 => h M H0 H σ (E.give hj) D q1 q2 q3 q4
theorem dss_give {j : Nat} {ds : List D} (hj : γ[j]? = some (.ow ds)) (h : DSs X K cl sts (γ.set j (.v true (.lst ds))) J) : DSs X K cl sts γ J := fun M H0 H σ E D q1 q2 q3 q4 => h M H0 H σ (E.give hj) D q1 q2 q3 q4
theorem DSs.mono {J' : Po} (h : DSs X K cl sts γ J') (h1 : ∀ g, J'.nx g → J.nx g) (h2 : ∀ g, J'.bk g → J.bk g) (h3 : ∀ g, J'.ct g → J.ct g) (h4 : ∀ g, J'.rt g → J.rt g) : DSs X K cl sts γ J :=
  fun M H0 H σ E D q1 q2 q3 q4 => h M H0 H σ E D (fun σ' H' γ' E' p => q1 σ' H' γ' E' (h1 γ' p)) (fun σ' H' γ' E' p => q2 σ' H' γ' E' (h2 γ' p)) (fun σ' H' γ' E' p => q3 σ' H' γ' E' (h3 γ' p)) (fun v H' d k p r => q4 v H' d k (h4 d p) r)
theorem DSs.sub {γ' : List G} (hl : γ'.length = γ.length) (hg : ∀ (i : Nat) (g : G), γ'[i]? = some g → g = G.un ∨ γ[i]? = some g) (h : DSs X K cl sts γ' J) : DSs X K cl sts γ J := fun M H0 H σ E D q1 q2 q3 q4 => h M H0 H σ (E.sub hl hg) D q1 q2 q3 q4

/-! ### targets -/
theorem dg_name {j : Nat} {x : Str} {f : Bool} {d : D} {Γ : List G → Prop} (hN : ∀ i, (X i).N.Nodup) (hx : ∀ i, (X i).N[j]? = some x) (hl : ∀ i, Loc (X i).env.scope x) (hf : ∀ i, (X i).fn x = true ∨ (X i).env.scope.names.lookup x = some .local) (hj : j < γ.length)
    (h : Γ (γ.set j (.v f d))) : DG X K cl (.Name x pos) γ f d [j] Γ := by
  refine fun M H0 H σ v E r Q q => ⟨_, fun i => pg_name (hN i) (hx i) (hl i) (hf i), q _ H _ (E.set_v hj r rfl) (Kp.refl H) (by rw [List.length_set]) (fun i hi => ?_) h⟩
  rw [List.getElem?_set_ne]
  intro z
  exact hi (by rw [z]; exact List.mem_cons_self)
/-- several names, one after another -/
def EvGs (K : PySem.W.Frag) (cl : Kd → Addr) (g : TGs) (γ : List G) (b : Bool) (ds : List D) (sl : List Nat) (Γ : List G → Prop) : Prop := ∀ M H0 H σ vs, EO K cl M H0 H σ γ → DtA K cl (RN ⟨b, true, false⟩ M σ γ) H vs ds → ∀ Q : L2.St → Hp → Prop,
  (∀ σ' H' γ', EO K cl M H0 H' σ' γ' → Kp H H' → σ'.length = σ.length → (∀ i, i ∉ sl → σ'[i]? = σ[i]?) → Γ γ' → Q σ' H') → g vs σ H Q
def rGs (X : ι → Cx) (es : List Expr) : TGs := fun vs σ H Q => ∃ t, (∀ i, PGs (X i) es t) ∧ t vs σ H Q
theorem pgsR {es : List Expr} (i : ι) : PGs (X i) es (rGs X es) := ⟨fun pins s σ H vs us Q I r ⟨_, h, q⟩ => (h i).run pins s σ H vs us Q I r q⟩
def DGs (X : ι → Cx) (K : PySem.W.Frag) (cl : Kd → Addr) (es : List Expr) (γ : List G) (b : Bool) (ds : List D) (sl : List Nat) (Γ : List G → Prop) : Prop := EvGs K cl (rGs X es) γ b ds sl Γ
theorem dgs_nil {f : Bool} {Γ : List G → Prop} (h : Γ γ) : DGs X K cl [] γ f [] [] Γ := by
  intro M H0 H σ vs E r Q q
  cases r
  exact ⟨_, fun i => pgs_nil, rfl, q σ H γ E (Kp.refl H) rfl (fun i _ => rfl) h⟩
theorem dgs_cons {j : Nat} {x : Str} {f : Bool} {d : D} {ds : List D} {sl : List Nat} {Γ : List G → Prop} (hN : ∀ i, (X i).N.Nodup) (hx : ∀ i, (X i).N[j]? = some x) (hl : ∀ i, Loc (X i).env.scope x) (hf : ∀ i, (X i).fn x = true ∨ (X i).env.scope.names.lookup x = some .local) (hj : j < γ.length)
    (hs : ∀ i, (assignEach (.Name x pos :: es) (X i).env).map (·.2) = assign (.Name x pos) (X i).env :: (assignEach es (X i).env).map (·.2)) (h : DGs X K cl es (γ.set j (.v f d)) f ds sl Γ) : DGs X K cl (.Name x pos :: es) γ f (d :: ds) (j :: sl) Γ := by
  intro M H0 H σ vs E r Q q
  cases r with
  | cons r1 r2 =>
    refine ⟨_, fun i => pgs_cons (pg_name (hN i) (hx i) (hl i) (hf i)) (pgsR i) (hs i), _, _, rfl, ?_⟩
    have E1 := E.set_v hj r1 rfl
    refine h M H0 H _ _ E1 (r2.tr (.weak fun p hp => ?_)) Q fun σ' H' γ' E' k hl' hi' hg => q σ' H' γ' E' k (by rw [hl', List.length_set]) (fun i hi => ?_) hg
    · rcases hp with hp | ⟨_, i, ds', h1, h2⟩
      · exact .inl hp
      · right
        refine ⟨rfl, ?_⟩
        rcases get_set_v (i := i) (g := .v f d) (x := some _) E.ln hj with ⟨rfl, g1, g2⟩ | ⟨ne, g1, g2⟩
        · have h1' : (γ.set i (.v f d))[i]? = some (.ow ds') := h1
          rw [g1] at h1'; cases h1'
        · exact ⟨i, ds', by rw [← g1]; exact h1, by rw [← g2]; exact h2⟩
    · rw [hi' i (fun z => hi (List.mem_cons_of_mem _ z)), List.getElem?_set_ne]
      intro z
      exact hi (by rw [z]; exact List.mem_cons_self)
theorem dg_tup {k : Nat} {f : Bool} {ds : List D} {sl : List Nat} {Γ : List G → Prop} {n : Nat} (hK : ∀ i, (X i).K = K) (hc : ∀ i, (X i).calm = true) (hn : ∀ i, (assignEach es (X i).env).length = n) (hst : ∀ i, (assignEach es (X i).env).findIdx? (·.1) = none)
    (hl : ds.length = n) (h : DGs X K cl es γ f ds sl Γ) : DG X K cl (.Tuple es k pos) γ f (.tup ds) sl Γ := by
  intro M H0 H σ v E r Q q
  refine ⟨gTup K n (rGs X es), fun i => by rw [← hK i]; exact pg_tup (hc i) (pgsR i) (hn i) (hst i), ?_⟩
  cases r with
  | tup x1 x4 => exact ⟨_, _, rfl, x1, by rw [x4.length]; exact hl, h M H0 H σ _ E x4 Q q⟩
/-- (a, b, ..) = e -/
theorem ds_asg {d : D} {sl : List Nat} (h : DE X K cl e γ md (Is d)) (ho : md.o = true) (hg : DG X K cl tg γ md.m d sl J.nx) (hs : ∀ i, swapsWithSole [tg] e pos.line (X i).env = pure false) (hw : ∀ i, swappedStores [tg] e (X i).env = pure none)
    (h1 : ∀ i, (assignEach [tg] (X i).env).map (·.2) = [assign tg (X i).env]) : DS X K cl (.Assign [tg] e pos) γ J := by
  refine fun M H0 H σ E D q1 q2 q3 q4 => ⟨_, fun i => ps_asg (peR i) (pgR i) (hs i) (hw i) (h1 i), h M H0 H σ E _ fun v H' d' k p r => ?_⟩
  subst p
  refine hg M H0 H' σ v (E.go k) (r.1.tr (.weak fun x hx => ?_)) _ fun σ' H2 γ' E' k' _ _ hg' => q1 σ' H2 γ' E' hg'
  rcases hx with hx | ⟨_, hx⟩
  · exact .inl hx
  · exact .inr ⟨ho, hx⟩

/-! ### iterators -/
theorem di_list {ds : List D} (hK : ∀ i, (X i).K = K) (h : DE X K cl e γ md (Is (.lst ds))) (ho : md.o = true) : DI X K cl tg e γ md.m ds.length (fun i d => ds[i]? = some d) := by
  intro M H0 H σ E R q
  refine ⟨iList K (rE X e), fun i => by rw [← hK i]; exact pi_list (peR i), h M H0 H σ E _ fun v H' d k p r => ?_⟩
  subst p
  have E1 := E.go k
  have r1 := r.1.tr (Tr.hid E1 ho rfl)
  cases r.1 with
  | lst x1 x2 x3 x4 =>
    cases r1 with
    | lst y1 y2 y3 y4 =>
      obtain rfl : _ = _ := HO.lst.inj (Option.some.inj ((of_hide y1).2.symm.trans x1))
      refine ⟨_, rfl, ⟨_, SqL.of x1⟩, q _ H' (fun H1 => SqL K H1 _ _) _ k (by rw [← x4.length]; exact walk_list) (fun H1 k1 => SqL.of (k1.st _ _ y1 (by rintro ⟨ws, z, y⟩; cases z; exact x3 y))) fun i H1 x H1' hi k1 y => ?_⟩
      obtain ⟨rfl, hx⟩ := y
      obtain ⟨d, h1, h2⟩ := y4.get' hx
      exact ⟨Kp.refl _, d, h1, h2.tr (.kp k1)⟩
theorem di_tup {ds : List D} (hK : ∀ i, (X i).K = K) (h : DE X K cl e γ md (Is (.tup ds))) (ho : md.o = true) : DI X K cl tg e γ md.m ds.length (fun i d => ds[i]? = some d) := by
  intro M H0 H σ E R q
  refine ⟨iTup K (rE X e), fun i => by rw [← hK i]; exact pi_tup (peR i), h M H0 H σ E _ fun v H' d k p r => ?_⟩
  subst p
  have E1 := E.go k
  have t := Tr.hid (md := md) E1 ho rfl
  cases r.1 with
  | tup x1 x4 =>
    have y1 := t.tp K _ _ x1
    have y4 := x4.tr t
    refine ⟨_, rfl, ⟨_, x1⟩, q _ H' (fun H1 => SqT K H1 _ _) _ k (by rw [← x4.length]; exact walk_tup) (fun H1 k1 => k1.sqT y1) fun i H1 x H1' hi k1 y => ?_⟩
    obtain ⟨rfl, hx⟩ := y
    obtain ⟨d, h1, h2⟩ := y4.get' hx
    exact ⟨Kp.refl _, d, h1, h2.tr (.kp k1)⟩
theorem di_range1 {n : Int} {p : Pos} (hX : ∀ i, W.at (X i)) (hg : ∀ i, Gl (X i) "range") (hm : W.mg "range" = none) (h : DE X W.K W.cl e γ md (Is (.int n))) (h0 : n ≤ 16777216) (h1 : -16777216 ≤ n) (he : ∀ i, starEach [e] (X i).env = [(false, eval e (X i).env)])
    (hpa : ∀ i, starEach [e] (X i).env = (false, eval e (X i).env) :: starEach [] (X i).env) : DI X W.K W.cl tg (.Call (.Name "range" p) [e] [] pos) γ true n.toNat (fun i d => d = .int i) := by
  intro M H0 H σ E R q
  refine ⟨iRng1 (rA X [e]), fun i => ?_, ?_⟩
  · obtain ⟨g1, g2, g3, g4, g5, g6⟩ := hX i
    exact pi_range1 (hg i) (by rw [g4]; exact hm) (paR i) (he i)
  · refine (da_cons h da_nil hpa) M H0 H σ E _ fun vs H1 ds1 k1 ⟨d, r, e1, e2, e3⟩ r1 => ?_
    subst e1 e2 e3
    cases r1 with
    | cons t1 t2 =>
      cases t2
      cases t1
      refine ⟨n, rfl, by omega, by omega, q _ H1 (fun _ => True) _ k1 walk_range (fun _ _ => trivial) fun i H2 x H2' hi k2 y => ?_⟩
      obtain ⟨rfl, rfl⟩ := y
      refine ⟨Kp.refl _, .int i, rfl, ?_⟩
      show Dt W.K W.cl _ _ (V.int (0 + (i : Int))) (.int i)
      rw [Int.zero_add]
      exact .int _
/-- the signs of a text -/
theorem di_str {x : Str} (h : DE X K cl e γ md (Is (.str x))) : DI X K cl tg e γ true x.cps.size (fun i d => ∃ c, x.cps[i]? = some c ∧ d = .str ⟨#[c]⟩) := by
  intro M H0 H σ E R q
  refine ⟨_, fun i => pi_str (peR i), h M H0 H σ E _ fun v H' d k p r => ?_⟩
  subst p
  cases r.1
  refine ⟨x, rfl, q _ H' (fun _ => True) _ k walk_str (fun _ _ => trivial) fun i H1 y H1' hi k1 z => ?_⟩
  obtain ⟨rfl, c, hc, rfl⟩ := z
  exact ⟨Kp.refl _, _, ⟨c, hc, rfl⟩, .str _⟩

/-! ### for -/
theorem ds_for {f : Bool} {n : Nat} {item : Nat → D → Prop} {sl : List Nat} (I : Nat → List G → Prop) (hpo : ∀ i, PassesOwn (model (X i).prog (X i).w) (X i).A (X i).env (X i).xe) (hc : ∀ i, (X i).calm = true) (hi : DI X K cl tg iter γ f n item)
    (h0 : I 0 γ) (ht : ∀ i γ' d, i < n → I i γ' → item i d → DG X K cl tg γ' f d sl (fun γ'' => DSs X K cl sts γ'' ⟨I (i + 1), J.rt, J.nx, I (i + 1)⟩)) (hend : ∀ γ', I n γ' → J.nx γ')
    (hs : ∀ i x, foldedSetIterable iter (X i).env x = pure x) : DS X K cl (.For tg iter sts [] pos) γ J := by
  intro M H0 H σ E D q1 q2 q3 q4
  refine ⟨_, fun i => ps_for (hpo i) (hc i) (piR i) (pgR i) (pssR i) (hs i), hi M H0 H σ E _ fun Jt H' Gd Y k w gd it => ?_⟩
  have E1 := E.go k
  have kh := E1.kph
  refine for_it w (fun i σ1 H1 => ∃ γ', I i γ' ∧ EO K cl M (hide (Ow σ γ) H') H1 σ1 γ') ⟨γ, h0, E1.hide⟩ (fun i σ1 H1 hi' ⟨γ', _, E'⟩ => gd H1 E'.kp) (fun i x σ1 H1 H1' hi' ⟨γ', hI, E'⟩ y => ?_) (fun σ1 H1 ⟨γ', hI, E'⟩ => q1 σ1 H1 γ' (E'.base kh) (hend γ' hI))
  obtain ⟨k1, d, hd, r⟩ := it i H1 x H1' hi' E'.kp y
  refine ht i γ' d hi' hI hd M _ H1' σ1 x (E'.go k1) (r.tr (.weak fun p hp => ?_)) _ fun σ2 H2 γ2 E2 k2 _ _ hb => ?_
  · rcases hp with hp | ⟨_, hp⟩
    · exact .inl hp
    · exact .inr (E'.own hp).1
  · refine hb M _ H2 σ2 E2 _ (fun σ3 H3 γ3 E3 p3 => ⟨γ3, p3, E3⟩) (fun σ3 H3 γ3 E3 p3 => q1 σ3 H3 γ3 (E3.base kh) p3) (fun σ3 H3 γ3 E3 p3 => ⟨γ3, p3, E3⟩) (fun v H3 d3 k3 p3 r3 => q4 v H3 d3 (kh.trans k3) p3 r3)
end
end DL

/-! DL5: list comprehensions; append, pop, insert; a def's promise from its body. -/
namespace DL
open PySem PySem.Spec PyProof.Rows L2

/-! ### within a comprehension -/
def unown : G → G
  | .ow ds => .v false (.lst ds)
  | g => g
def wipeG (γ : List G) : List Nat → List G
  | [] => γ
  | v :: vs => (wipeG γ vs).set v .un
theorem wipeG_len (γ : List G) : ∀ vs : List Nat, (wipeG γ vs).length = γ.length
  | [] => rfl
  | v :: vs => by unfold wipeG; rw [List.length_set, wipeG_len γ vs]
theorem wipeG_get {γ : List G} {i : Nat} {g : G} : ∀ {vs : List Nat}, (wipeG γ vs)[i]? = some g → g = G.un ∨ (γ[i]? = some g ∧ i ∉ vs)
  | [], h => .inr ⟨h, by simp⟩
  | v :: vs, h => by
    unfold wipeG at h
    by_cases hi : v = i
    · subst hi
      by_cases hv : v < (wipeG γ vs).length
      · rw [List.getElem?_set_self hv] at h
        cases h
        exact .inl rfl
      · rw [List.getElem?_eq_none (by simpa using hv)] at h; cases h
    · rw [List.getElem?_set_ne hi] at h
      rcases wipeG_get h with z | ⟨z, n⟩
      · exact .inl z
      · exact .inr ⟨z, by simp only [List.mem_cons, not_or]; exact ⟨fun e => hi e.symm, n⟩⟩
theorem wipe_in {σ : L2.St} {i : Nat} (hi : i < σ.length) : ∀ {vs : List Nat}, i ∈ vs → (wipe σ vs)[i]? = some none
  | v :: vs, h => by
    unfold wipe
    by_cases e : v = i
    · subst e
      rw [List.getElem?_set_self (by rw [wipe_length]; exact hi)]
    · rw [List.getElem?_set_ne e]
      rcases List.mem_cons.mp h with z | z
      · exact absurd z.symm e
      · exact wipe_in hi z
theorem wipe_ext {σ σ' : L2.St} {vs : List Nat} (hl : σ'.length = σ.length) (h : ∀ i, i ∉ vs → σ'[i]? = σ[i]?) : wipe σ' vs = wipe σ vs := by
  refine List.ext_getElem? fun i => ?_
  by_cases hi : i ∈ vs
  · by_cases hl' : i < σ.length
    · rw [wipe_in hl' hi, wipe_in (by rw [hl]; exact hl') hi]
    · rw [List.getElem?_eq_none (by rw [wipe_length]; omega), List.getElem?_eq_none (by rw [wipe_length]; omega)]
  · rw [wipe_out hi, wipe_out hi, h i hi]
section
variable {K : PySem.W.Frag} {cl : Kd → Addr} {M : Addr → Prop} {H0 H H' : Hp} {σ : L2.St} {γ : List G}
theorem no_ow {vs : List Nat} (p : Addr) : ¬ Ow (wipe σ vs) (wipeG (γ.map unown) vs) p := by
  rintro ⟨i, ds, h1, h2⟩
  rcases wipeG_get h1 with z | ⟨z, _⟩
  · cases z
  · rw [List.getElem?_map] at z
    cases e : γ[i]? with
    | none => rw [e] at z; cases z
    | some g =>
      rw [e] at z
      cases g <;> simp [unown] at z
theorem EO.comp {vs : List Nat} {D : Addr} (E : EO K cl M H0 H σ γ) (hD : H D = none) (k : Kp H H') (hD' : H' D ≠ none) :
    EO K cl (fun p => M p ∨ Ow σ γ p ∨ p = D) H0 H' (wipe σ vs) (wipeG (γ.map unown) vs) := by
  have keep : ∀ {b : Bool} {v : V} {d : DL.D} {N : Addr → Prop}, (∀ p, ((b = true ∧ (M p ∨ Ow σ γ p)) → N p)) → Dt K cl N H v d → Dt K cl (SpN b (fun p => M p ∨ Ow σ γ p ∨ p = D) (wipe σ vs) (wipeG (γ.map unown) vs)) H' v d := fun {b v d N} hN r =>
    (r.tr (.grow fun p hp => by
      rcases hp with ⟨h1, h2⟩ | h2
      · rcases h2 with h2 | h2 | h2
        · exact .inl (hN p ⟨h1, .inl h2⟩)
        · exact .inl (hN p ⟨h1, .inr h2⟩)
        · exact .inr (by rw [h2]; exact hD)
      · exact absurd h2 (no_ow p))).tr (.kp k)
  refine ⟨E.kp.trans k, fun p hp => ?_, by rw [wipe_length, wipeG_len, List.length_map]; exact E.ln, fun i b d h => ?_, fun i ds h => ?_, fun i j p ds es h1 h2 h3 h4 => ?_⟩
  · rcases hp with hp | hp | hp
    · exact k.dm p (E.md p hp)
    · obtain ⟨_, _, vs', e, _⟩ := E.own hp
      exact k.dm p (by rw [e]; intro z; cases z)
    · rw [hp]; exact hD'
  · rcases wipeG_get h with z | ⟨z, hi⟩
    · cases z
    · rw [List.getElem?_map] at z
      cases e : γ[i]? with
      | none => rw [e] at z; cases z
      | some g =>
        rw [e] at z
        cases g with
        | un => cases z
        | v b' d' =>
          cases z
          obtain ⟨u, e1, e2⟩ := E.vl i b d e
          exact ⟨u, by rw [wipe_out hi]; exact e1, keep (fun p hp => by
            rcases hp with ⟨h1, h2⟩
            rcases h2 with h2 | h2
            · exact .inl ⟨h1, h2⟩
            · exact .inr h2) e2⟩
        | ow ds' =>
          cases z
          obtain ⟨p, us, e1, e2, e3, e4, e5, e6⟩ := E.ow i ds' e
          exact ⟨_, by rw [wipe_out hi]; exact e1, keep (b := false) (N := fun _ => False) (fun p hp => by cases hp.1) (.lst e4 (fun z => z) e5 (e6.tr (.weak fun p z => z.elim)))⟩
  · exact (no_ow (σ := σ) (γ := γ) (vs := vs) 0 |> fun _ => by
      rcases wipeG_get h with z | ⟨z, hi⟩
      · cases z
      · rw [List.getElem?_map] at z
        cases e : γ[i]? with
        | none => rw [e] at z; cases z
        | some g => rw [e] at z; cases g <;> simp [unown] at z)
  · exact absurd ⟨i, ds, h1, h3⟩ (no_ow p)

/-- THE RULE of a comprehension: I i acc holds of what is made before turn i -/
theorem ev_lc {wi : TI} {g : TG} {tt : TT} {te : TE} {vs sl : List Nat} {f : Bool} {n : Nat} {item : Nat → D → Prop} {P : D → Prop} (I : Nat → List D → Prop) (hi : EvI K cl wi γ f n item) (hn : n ≤ 100000) (h0 : I 0 []) (hsl : ∀ i ∈ sl, i ∈ vs)
    (hb : ∀ i acc d, i < n → I i acc → item i d → EvG K cl g (wipeG (γ.map unown) vs) f d sl (fun γ'' => ∃ φ, EvT K cl tt γ'' (Tt φ) ∧ (φ → EvX K cl te γ'' mS (fun e => I (i + 1) (acc ++ [e]))) ∧ (¬ φ → I (i + 1) acc)))
    (hh : ∀ i acc, I i acc → hom acc) (he : ∀ acc, I n acc → P (.lst acc)) : EvX K cl (tLc wi g tt te vs) γ mF P := by
  intro M H0 H σ E Q q
  refine hi M H0 H σ E _ fun J Hb Gd Y k w gd it => fun D hD => ?_
  have E1 := E.go k
  refine lc_it w (Qd := fun H => Q (.ref D) H) (fun i H1 => ∃ acc ds, H1 D = some (.lst acc) ∧ DtA K cl (fun p => M p ∨ Ow σ γ p ∨ p = D) H1 acc ds ∧ I i ds ∧ ds.length ≤ i ∧ Kp Hb H1)
    ⟨[], [], upd_same, .nil, h0, Nat.le_refl _, Kp.new hD⟩ (fun i H1 _ ⟨_, _, _, _, _, _, k1⟩ => gd H1 (kp_hide0.trans k1)) (fun i x H1 H1' hi' ⟨acc, ds, eD, rA, hI, hlen, k1⟩ y => ?_) (fun H1 ⟨acc, ds, eD, rA, hI, hlen, k1⟩ => ?_)
  · obtain ⟨k2, d, hd, r⟩ := it i H1 x H1' hi' (kp_hide0.trans k1) y
    have hDn : H1' D ≠ none := k2.dm D (by rw [eD]; intro z; cases z)
    have EC := E1.comp (vs := vs) hD (k1.trans k2) hDn
    refine hb i ds d hi' hI hd _ H0 H1' _ x EC (r.tr (.weak fun p hp => ?_)) _ fun σ2 H2 γ2 E2 k3 hl2 hs2 ⟨φ, ht, h1, h2⟩ => ⟨?_, ht _ H0 H2 σ2 E2 _ fun b H3 k4 hb' => ?_⟩
    · rcases hp with ⟨h1, h2⟩ | ⟨_, h2⟩
      · rcases h2 with h2 | h2 | h2
        · exact .inl ⟨h1, h2⟩
        · exact .inr (hide_at h2)
        · right
          rw [h2]
          cases e : hide (Ow σ γ) Hb D with
          | none => rfl
          | some o => rw [(of_hide e).2] at hD; cases hD
      · exact absurd h2 (no_ow p)
    · have e1 := wipe_ext (σ := wipe σ vs) (σ' := σ2) (vs := vs) hl2 (fun i hi => hs2 i fun z => hi (hsl i z))
      rw [e1]
      refine wipe_ext (wipe_length σ vs) fun i hi => wipe_out hi
    · have nb := (hh i ds hI).nobox rA
      have keepD : ∀ {Hx : Hp}, Kp H1 Hx → Hx D = some (.lst acc) := fun kx => kx.st D _ eD (by rintro ⟨ws, z, y⟩; cases z; exact nb y)
      by_cases z : b = true
      · rw [if_pos z]
        refine h1 (hb'.mp z) _ H0 H3 σ2 (E2.go k4) _ fun y H4 e k5 pe re => ?_
        have kk := ((k2.trans k3).trans k4).trans k5
        have eD4 := keepD kk
        refine ⟨acc, eD4, Nat.lt_of_lt_of_le (show acc.length < 100000 by rw [rA.length]; omega) (by decide), acc ++ [y], ds ++ [e], upd_same, ?_, pe, by rw [List.length_append, List.length_singleton]; omega, (k1.trans kk).mut hD⟩
        have r6 : DtA K cl (fun p => M p ∨ Ow σ γ p ∨ p = D) H4 (acc ++ [y]) (ds ++ [e]) := (rA.tr (.kp kk)).app (.one (re.1.tr (.weak fun p hp => .inl ⟨rfl, hp⟩)))
        exact r6.tr (.chg (.inr (.inr rfl)) eD4)
      · rw [if_neg z]
        have kk := (k2.trans k3).trans k4
        exact ⟨acc, ds, keepD kk, rA.tr (.kp kk), h2 (fun y => z (hb'.mpr y)), by omega, k1.trans kk⟩
  · refine q _ H1 _ (k.trans k1) (he ds hI) ⟨.lst eD (rn_apart (md := mF) E1 hD) ((hh n ds hI).nobox rA) (rA.tr (.weak fun p hp => ?_)), fun _ _ _ => ⟨D, rfl, k.back hD⟩⟩
    rcases hp with ⟨_, hp⟩ | ⟨_, hp⟩
    · exact .inl hp
    · exact .inr (.inl hp)
end

/-- the contexts of a comprehension's block -/
abbrev Blk (ι : Type) : Type := ι × Shared × Hp × Addr × List (Str × Addr) × List Addr
abbrev blkX {ι : Type} (X : ι → Cx) (scope : Scope) : Blk ι → Cx := fun j => (X j.1).blk j.2.1 j.2.2.1 scope (compEnvC scope j.2.2.2.2.1 j.2.2.2.1 (X j.1).env) j.2.2.2.2.2
section
variable {ι : Type} {X : ι → Cx} {K : PySem.W.Frag} {cl : Kd → Addr} {γ : List G} {e a b c iter tg elt : Expr} {es ifs : List Expr} {st : Stmt} {sts sts2 : List Stmt} {pos : Pos} {md ma mb mc : Md} {P P' Pa Pb : D → Prop} {φ ψ : Prop} {J : Po} {W : Wd} {scope : Scope}
theorem dts_nil : DTs X K cl [] γ (Tt True) := fun M H0 H σ E Q q => ⟨_, fun i => pts_nil, q true H (Kp.refl H) ⟨fun _ => trivial, fun _ => rfl⟩⟩
theorem dts_one (h : DTe X K cl c γ (Tt φ)) : DTs X K cl [c] γ (Tt φ) := fun M H0 H σ E Q q => ⟨_, fun i => pts_one (ptR i), h M H0 H σ E Q q⟩
/-- what a comprehension's turn must show -/
abbrev LcTurn (X : ι → Cx) (K : PySem.W.Frag) (cl : Kd → Addr) (scope : Scope) (elt tg : Expr) (ifs : List Expr) (γ : List G) (vs sl : List Nat) (f : Bool) (n : Nat) (item : Nat → D → Prop) (I : Nat → List D → Prop) : Prop :=
  ∀ i acc d, i < n → I i acc → item i d → DG (blkX X scope) K cl tg (wipeG (γ.map unown) vs) f d sl (fun γ'' => ∃ φ, DTs (blkX X scope) K cl ifs γ'' (Tt φ) ∧ (φ → DE (blkX X scope) K cl elt γ'' mS (fun e => I (i + 1) (acc ++ [e]))) ∧ (¬ φ → I (i + 1) acc))
theorem de_lc {own : List (Str × Nat)} {sl : List Nat} {f : Bool} {n : Nat} {item : Nat → D → Prop} (I : Nat → List D → Prop) (hc : ∀ i, (X i).calm = true) (hN : ∀ i, (X i).N.Nodup) (ok : ∀ i, BlkOk (X i).N (X i).env.scope scope own)
    (hi : DI X K cl tg iter γ f n item) (hn : n ≤ 100000) (h0 : I 0 []) (hsl : ∀ i ∈ sl, i ∈ own.map (·.2)) (hb : LcTurn X K cl scope elt tg ifs γ (own.map (·.2)) sl f n item I)
    (hh : ∀ i acc, I i acc → hom acc) (he : ∀ acc, I n acc → P (.lst acc)) (hs : ∀ i x, foldedSetIterable iter (X i).env x = pure x) : DE X K cl (.ListComp elt [⟨tg, iter, ifs, 0⟩] scope pos) γ mF P :=
  fun M H0 H σ E Q q => ⟨_, fun i => pe_lc (hc i) (hN i) (piR i) (ok i) (fun s H C cl fp => pgR (X := blkX X scope) (i, s, H, C, cl, fp)) (fun s H C cl fp => ptsR (X := blkX X scope) (i, s, H, C, cl, fp)) (fun s H C cl fp => peR (X := blkX X scope) (i, s, H, C, cl, fp)) (hs i),
    ev_lc I hi hn h0 hsl hb hh he M H0 H σ E Q q⟩
/-- y = [..] on one line -/
theorem ds_setLc {own : List (Str × Nat)} {sl : List Nat} {f : Bool} {n : Nat} {item : Nat → D → Prop} {j : Nat} {y : Str} {py spos : Pos} (I : Nat → List D → Prop) (hc : ∀ i, (X i).calm = true) (hN : ∀ i, (X i).N.Nodup) (hy : ∀ i, (X i).N[j]? = some y) (hyl : ∀ i, (X i).env.scope.names.lookup y = some .local)
    (hsw : ∀ i, swapsWith (.ListComp elt [⟨tg, iter, ifs, 0⟩] scope pos) (some (.Name y py)) spos.line (X i).env = pure true) (ok : ∀ i, BlkOk (X i).N (X i).env.scope scope own)
    (hi : DI X K cl tg iter γ f n item) (hn : n ≤ 100000) (h0 : I 0 []) (hsl : ∀ i ∈ sl, i ∈ own.map (·.2)) (hb : LcTurn X K cl scope elt tg ifs γ (own.map (·.2)) sl f n item I)
    (hh : ∀ i acc, I i acc → hom acc) (hs : ∀ i x, foldedSetIterable iter (X i).env x = pure x) (hj : j < γ.length) (he : ∀ acc, I n acc → J.nx (γ.set j (.v true (.lst acc)))) : DS X K cl (.Assign [.Name y py] (.ListComp elt [⟨tg, iter, ifs, 0⟩] scope pos) spos) γ J :=
  fun M H0 H σ E D q1 q2 q3 q4 => ⟨_, fun i => ps_setLc (hc i) (hN i) (hy i) (hyl i) (hsw i) (piR i) (ok i) (fun s H C cl fp => pgR (X := blkX X scope) (i, s, H, C, cl, fp)) (fun s H C cl fp => ptsR (X := blkX X scope) (i, s, H, C, cl, fp)) (fun s H C cl fp => peR (X := blkX X scope) (i, s, H, C, cl, fp)) (hs i),
    ev_lc (P := fun d => ∃ acc, d = .lst acc ∧ I n acc) I hi hn h0 hsl hb hh (fun acc h => ⟨acc, rfl, h⟩) M H0 H σ E _ fun v H' d k ⟨acc, e, p⟩ r => by
      subst e
      exact q1 _ H' _ ((E.go k).set_v (md := mF) hj r.1 rfl) (he acc p)⟩
theorem ds_setLcO {own : List (Str × Nat)} {sl : List Nat} {f : Bool} {n : Nat} {item : Nat → D → Prop} {j : Nat} {y : Str} {py spos : Pos} (I : Nat → List D → Prop) (hc : ∀ i, (X i).calm = true) (hN : ∀ i, (X i).N.Nodup) (hy : ∀ i, (X i).N[j]? = some y) (hyl : ∀ i, (X i).env.scope.names.lookup y = some .local)
    (hsw : ∀ i, swapsWith (.ListComp elt [⟨tg, iter, ifs, 0⟩] scope pos) (some (.Name y py)) spos.line (X i).env = pure true) (ok : ∀ i, BlkOk (X i).N (X i).env.scope scope own)
    (hi : DI X K cl tg iter γ f n item) (hn : n ≤ 100000) (h0 : I 0 []) (hsl : ∀ i ∈ sl, i ∈ own.map (·.2)) (hb : LcTurn X K cl scope elt tg ifs γ (own.map (·.2)) sl f n item I)
    (hh : ∀ i acc, I i acc → hom acc) (hs : ∀ i x, foldedSetIterable iter (X i).env x = pure x) (hj : j < γ.length) (he : ∀ acc, I n acc → D.immA acc = true ∧ J.nx (γ.set j (.ow acc))) : DS X K cl (.Assign [.Name y py] (.ListComp elt [⟨tg, iter, ifs, 0⟩] scope pos) spos) γ J :=
  fun M H0 H σ E D q1 q2 q3 q4 => ⟨_, fun i => ps_setLc (hc i) (hN i) (hy i) (hyl i) (hsw i) (piR i) (ok i) (fun s H C cl fp => pgR (X := blkX X scope) (i, s, H, C, cl, fp)) (fun s H C cl fp => ptsR (X := blkX X scope) (i, s, H, C, cl, fp)) (fun s H C cl fp => peR (X := blkX X scope) (i, s, H, C, cl, fp)) (hs i),
    ev_lc (P := fun d => ∃ acc, d = .lst acc ∧ I n acc) I hi hn h0 hsl hb hh (fun acc h => ⟨acc, rfl, h⟩) M H0 H σ E _ fun v H' d k ⟨acc, e, p⟩ r => by
      subst e
      obtain ⟨r1, r2⟩ := r
      obtain ⟨p', rfl, hn'⟩ := r2 rfl acc rfl
      cases r1 with
      | lst x1 x2 x3 x4 => exact q1 _ H' _ (E.set_ow hj hn' k x1 x3 (he acc p).1 x4) (he acc p).2⟩

/-! ### a def's promise by its body -/
/-- the slots at the entry -/
def g0 (b : Bool) (N : List Str) (ds : List D) : List G := ds.map (fun d => G.v b d) ++ List.replicate (N.length - ds.length) .un
theorem eo_start {K : PySem.W.Frag} {cl : Kd → Addr} {N : List Str} {vs : List V} {ds : List D} {H : Hp} {M : Addr → Prop} (hM : ∀ p, M p → H p ≠ none) {f : Bool} (r : DtA K cl (fun p => f = true ∧ M p) H vs ds) : EO K cl M H H (L2.start N vs) (g0 f N ds) := by
  have ow : ∀ p, ¬ Ow (L2.start N vs) (g0 f N ds) p := by
    rintro p ⟨i, es, h1, h2⟩
    unfold g0 at h1
    by_cases hi : i < ds.length
    · rw [List.getElem?_append_left (by simpa using hi), List.getElem?_map] at h1
      cases e : ds[i]? with
      | none => rw [e] at h1; cases h1
      | some d => rw [e] at h1; cases h1
    · rw [List.getElem?_append_right (by simpa using hi), List.getElem?_replicate] at h1
      split at h1 <;> cases h1
  refine ⟨Kp.refl H, hM, ?_, fun i b d h => ?_, fun i es h => ?_, fun i j p es fs h1 h2 h3 h4 => absurd ⟨i, es, h1, h3⟩ (ow p)⟩
  · unfold L2.start g0
    rw [List.length_append, List.length_append, List.length_map, List.length_map, List.length_replicate, List.length_replicate, r.length]
  · unfold g0 at h
    by_cases hi : i < ds.length
    · rw [List.getElem?_append_left (by simpa using hi), List.getElem?_map] at h
      cases e : ds[i]? with
      | none => rw [e] at h; cases h
      | some d' =>
        rw [e] at h
        cases h
        obtain ⟨v, h1, h2⟩ := r.get e
        refine ⟨v, ?_, h2.tr (.weak fun p hp => ?_)⟩
        · unfold L2.start
          rw [List.getElem?_append_left (by rw [List.length_map, r.length]; exact hi), List.getElem?_map, h1]
          rfl
        · rcases hp with hp | hp
          · exact hp
          · exact absurd hp (ow p)
    · rw [List.getElem?_append_right (by simpa using hi), List.getElem?_replicate] at h
      split at h <;> cases h
  · unfold g0 at h
    by_cases hi : i < ds.length
    · rw [List.getElem?_append_left (by simpa using hi), List.getElem?_map] at h
      cases e : ds[i]? with
      | none => rw [e] at h; cases h
      | some d => rw [e] at h; cases h
    · rw [List.getElem?_append_right (by simpa using hi), List.getElem?_replicate] at h
      split at h <;> cases h
/-- the promise of a body: from any data with Pre -/
theorem body_con {X : Cx} {K : PySem.W.Frag} {cl : Kd → Addr} {α : Type} {enc : α → List D} {n : Nat} {Pre : α → Prop} {R : α → D → Prop} {N : List Str} {body : List Stmt} {vs : List V} {H : Hp} {Q : VK} {E : XK}
    (hb : ∀ x, (enc x).length = n → Pre x → DSs (fun _ : Unit => X) K cl body (g0 false N (enc x)) ⟨fun _ => R x .non, R x, fun _ => False, fun _ => False⟩) (h : Con K cl n enc Pre R vs H Q E) :
    ∃ t, PSs X body t ∧ t { nx := fun _ H' => Q .non H', rt := Q } (L2.start N vs) H := by
  obtain ⟨ds, r, hl, hp, k⟩ := h
  refine ⟨rSs (fun _ : Unit => X) body, pssR (X := fun _ : Unit => X) (), hb ds hl hp (fun a => H a ≠ none) H H _ (eo_start (fun p h => h) (r.tr (.weak fun p h => by cases h.1))) _ (fun σ' H' γ' E' p => ?_) (fun _ _ _ _ z => z.elim) (fun _ _ _ _ z => z.elim) fun v H' d k' p r' => k v H' d k' p r'⟩
  exact k .non H' .non E'.kp p .non
theorem body_conS {X : Cx} {K : PySem.W.Frag} {cl : Kd → Addr} {α : Type} {enc : α → List D} {n : Nat} {Pre : α → Prop} {R : α → D → Prop} {N : List Str} {body : List Stmt} {vs : List V} {H : Hp} {Q : VK} {E : XK}
    (hb : ∀ x, (enc x).length = n → Pre x → DSs (fun _ : Unit => X) K cl body (g0 true N (enc x)) ⟨fun _ => R x .non, R x, fun _ => False, fun _ => False⟩) (h : ConS K cl n enc Pre R vs H Q E) :
    ∃ t, PSs X body t ∧ t { nx := fun _ H' => Q .non H', rt := Q } (L2.start N vs) H := by
  obtain ⟨M, ds, hM, r, hl, hp, k⟩ := h
  refine ⟨rSs (fun _ : Unit => X) body, pssR (X := fun _ : Unit => X) (), hb ds hl hp M H H _ (eo_start hM (r.tr (.weak fun p h => h.2))) _ (fun σ' H' γ' E' p => ?_) (fun _ _ _ _ z => z.elim) (fun _ _ _ _ z => z.elim) fun v H' d k' p r' => k v H' d k' p r'⟩
  exact k .non H' .non E'.kp p .non
theorem con_len {K : PySem.W.Frag} {cl : Kd → Addr} {α : Type} {enc : α → List D} {n : Nat} {Pre : α → Prop} {R : α → D → Prop} {vs : List V} {H : Hp} {Q : VK} {E : XK} (h : Con K cl n enc Pre R vs H Q E) : vs.length = n := by
  obtain ⟨ds, r, hl, _⟩ := h
  rw [r.length, hl]
theorem conS_len {K : PySem.W.Frag} {cl : Kd → Addr} {α : Type} {enc : α → List D} {n : Nat} {Pre : α → Prop} {R : α → D → Prop} {vs : List V} {H : Hp} {Q : VK} {E : XK} (h : ConS K cl n enc Pre R vs H Q E) : vs.length = n := by
  obtain ⟨_, ds, _, r, hl, _⟩ := h
  rw [r.length, hl]
end
end DL

/-! DL6: the rules with their side conditions filled in (short names); a def of the text. -/
namespace DL
open PySem PySem.Spec PyProof.Rows L2

/-- the built-in names that the text leaves alone -/
structure Bn (W : Wd) : Prop where
  len : W.mg "len" = none
  list : W.mg "list" = none
  tuple : W.mg "tuple" = none
  int : W.mg "int" = none
  bool : W.mg "bool" = none
  str : W.mg "str" = none
  max : W.mg "max" = none
  min : W.mg "min" = none
  sorted : W.mg "sorted" = none
  range : W.mg "range" = none
  isinstance : W.mg "isinstance" = none
  zip : W.mg "zip" = none
  enumerate : W.mg "enumerate" = none
  super_ : W.mg "super" = none

theorem room65 {k : Nat} {A : Around} (r : Room k A) : A.units + 65 < cLine := by have := r.un; omega
theorem room64 {k : Nat} {A : Around} (r : Room k A) : A.units + 64 < cLine := by have := r.un; omega

section
variable {ι : Type} {X : ι → Cx} {K : PySem.W.Frag} {cl : Kd → Addr} {γ : List G} {e a b c iter tg elt : Expr} {es ifs : List Expr} {st : Stmt} {sts sts2 : List Stmt} {pos p apos : Pos} {md ma mb mc : Md} {P P' Pa Pb : D → Prop} {φ ψ : Prop} {J : Po} {W : Wd} {scope : Scope}
/-- the name in slot j -/
theorem v (j : Nat) {x : Str} {f : Bool} {d : D} (hj : γ[j]? = some (.v f d) := by rfl) (hN : ∀ i, (X i).N[j]? = some x := by intro _; rfl) (hv : ∀ i, Vis (X i).env.scope x := by intro _; first | exact Or.inl rfl | exact Or.inr (Or.inl rfl) | exact Or.inr (Or.inr rfl))
    (h1 : (x == ("__debug__" : Str)) = false := by decide +kernel) (h2 : (x == ("__classdict__" : Str)) = false := by decide +kernel) : DE X K cl (.Name x pos) γ ⟨f, true, false⟩ (Is d) := de_var hj hN hv h1 h2
/-- .. in any mode, where the data has no lists -/
theorem vi (j : Nat) {x : Str} {f : Bool} {d : D} (hj : γ[j]? = some (.v f d) := by rfl) (hi : d.imm = true := by rfl) (hN : ∀ i, (X i).N[j]? = some x := by intro _; rfl) (hv : ∀ i, Vis (X i).env.scope x := by intro _; first | exact Or.inl rfl | exact Or.inr (Or.inl rfl) | exact Or.inr (Or.inr rfl))
    (h1 : (x == ("__debug__" : Str)) = false := by decide +kernel) (h2 : (x == ("__classdict__" : Str)) = false := by decide +kernel) : DE X K cl (.Name x pos) γ mF (Is d) := (de_var hj hN hv h1 h2).im fun d' h => by rw [h]; exact hi
theorem vo (j : Nat) {x : Str} {ds : List D} (hj : γ[j]? = some (.ow ds) := by rfl) (hN : ∀ i, (X i).N[j]? = some x := by intro _; rfl) (hv : ∀ i, Vis (X i).env.scope x := by intro _; first | exact Or.inl rfl | exact Or.inr (Or.inl rfl) | exact Or.inr (Or.inr rfl))
    (h1 : (x == ("__debug__" : Str)) = false := by decide +kernel) (h2 : (x == ("__classdict__" : Str)) = false := by decide +kernel) : DE X K cl (.Name x pos) γ mR (Is (.lst ds)) := de_own hj hN hv h1 h2
/-- s[i] -/
theorem ix {d s : D} {ds : List D} {i : Int} (ha : DE X K cl a γ ma (Is s)) (hb : DE X K cl b γ mb (Is (.int i))) (hs : Sq s ds) (hi : atI ds i = some d) (hK : ∀ i, (X i).K = K := by intro _; rfl) (hp : PlainIx b := by intro _ _; rfl) :
    DE X K cl (.Subscript a b pos) γ ⟨ma.m, ma.o, false⟩ (Is d) := de_ix hK ha hb hs hi hp
theorem ixI {d s : D} {ds : List D} {i : Int} (ha : DE X K cl a γ ma (Is s)) (hb : DE X K cl b γ mb (Is (.int i))) (hs : Sq s ds) (hi : atI ds i = some d) (him : d.imm = true := by rfl) (hK : ∀ i, (X i).K = K := by intro _; rfl) (hp : PlainIx b := by intro _ _; rfl) :
    DE X K cl (.Subscript a b pos) γ mF (Is d) := (de_ix hK ha hb hs hi hp).im fun d' h => by rw [h]; exact him
theorem ixP {s : D} {ds : List D} {p : Int → Prop} (ha : DE X K cl a γ ma (Is s)) (hb : DE X K cl b γ mb (IsI p)) (hs : Sq s ds) (hi : ∀ i, p i → ∃ d, atI ds i = some d ∧ P d) (hK : ∀ i, (X i).K = K := by intro _; rfl) (hp : PlainIx b := by intro _ _; rfl) :
    DE X K cl (.Subscript a b pos) γ ⟨ma.m, ma.o, false⟩ P := de_ixP hK ha hb hs hi hp
/-- data compared -/
theorem neD {j n m : Nat} {d d' : D} (hr : ∀ i, Room j (X i).A) (ha : DE X K cl a γ ma (Is d)) (hb : DE X K cl b γ mb (Is d')) (c1 : d.cm n = true) (c2 : d'.cm m = true) (hn : n ≤ 60 := by decide) (hm : m ≤ 60 := by decide) (hK : ∀ i, (X i).K = K := by intro _; rfl) :
    DTe X K cl (.Compare a [.NotEq] [b] pos) γ (Tt (d ≠ d')) := dt_neD (fun i => room64 (hr i)) hK ha hb c1 c2 (by omega) (by omega)
theorem eqD {j n m : Nat} {d d' : D} (hr : ∀ i, Room j (X i).A) (ha : DE X K cl a γ ma (Is d)) (hb : DE X K cl b γ mb (Is d')) (c1 : d.cm n = true) (c2 : d'.cm m = true) (hn : n ≤ 60 := by decide) (hm : m ≤ 60 := by decide) (hK : ∀ i, (X i).K = K := by intro _; rfl) :
    DTe X K cl (.Compare a [.Eq] [b] pos) γ (Tt (d = d')) := dt_eqD (fun i => room64 (hr i)) hK ha hb c1 c2 (by omega) (by omega)
theorem eqDv {j n m : Nat} {d d' : D} (hr : ∀ i, Room j (X i).A) (ha : DE X K cl a γ ma (Is d)) (hb : DE X K cl b γ mb (Is d')) (c1 : d.cm n = true) (c2 : d'.cm m = true) (hn : n ≤ 60 := by decide) (hm : m ≤ 60 := by decide) (hK : ∀ i, (X i).K = K := by intro _; rfl) :
    DE X K cl (.Compare a [.Eq] [b] pos) γ mF (Vb (d = d')) := de_eqD (fun i => room64 (hr i)) hK ha hb c1 c2 (by omega) (by omega)
theorem neDv {j n m : Nat} {d d' : D} (hr : ∀ i, Room j (X i).A) (ha : DE X K cl a γ ma (Is d)) (hb : DE X K cl b γ mb (Is d')) (c1 : d.cm n = true) (c2 : d'.cm m = true) (hn : n ≤ 60 := by decide) (hm : m ≤ 60 := by decide) (hK : ∀ i, (X i).K = K := by intro _; rfl) :
    DE X K cl (.Compare a [.NotEq] [b] pos) γ mF (Vb (d ≠ d')) := de_neD (fun i => room64 (hr i)) hK ha hb c1 c2 (by omega) (by omega)
theorem inD {j n m : Nat} {d s : D} {ds : List D} (hr : ∀ i, Room j (X i).A) (ha : DE X K cl a γ ma (Is d)) (hb : DE X K cl b γ mb (Is s)) (hs : Sq s ds) (c1 : d.cm n = true) (c2 : D.cmA m ds = true) (hn : n ≤ 60 := by decide) (hm : m ≤ 60 := by decide)
    (hK : ∀ i, (X i).K = K := by intro _; rfl) (hmk : behindInMarks .In b = false := by with_unfolding_all rfl) : DTe X K cl (.Compare a [.In] [b] pos) γ (Tt (d ∈ ds)) := dt_in (fun i => room65 (hr i)) hK hmk ha hb hs c1 c2 (by omega) (by omega)
theorem notInD {j n m : Nat} {d s : D} {ds : List D} (hr : ∀ i, Room j (X i).A) (ha : DE X K cl a γ ma (Is d)) (hb : DE X K cl b γ mb (Is s)) (hs : Sq s ds) (c1 : d.cm n = true) (c2 : D.cmA m ds = true) (hn : n ≤ 60 := by decide) (hm : m ≤ 60 := by decide)
    (hK : ∀ i, (X i).K = K := by intro _; rfl) (hmk : behindInMarks .NotIn b = false := by with_unfolding_all rfl) : DTe X K cl (.Compare a [.NotIn] [b] pos) γ (Tt (d ∉ ds)) := dt_notIn (fun i => room65 (hr i)) hK hmk ha hb hs c1 c2 (by omega) (by omega)
theorem inDv {j n m : Nat} {d s : D} {ds : List D} (hr : ∀ i, Room j (X i).A) (ha : DE X K cl a γ ma (Is d)) (hb : DE X K cl b γ mb (Is s)) (hs : Sq s ds) (c1 : d.cm n = true) (c2 : D.cmA m ds = true) (hn : n ≤ 60 := by decide) (hm : m ≤ 60 := by decide)
    (hK : ∀ i, (X i).K = K := by intro _; rfl) (hmk : behindInMarks .In b = false := by with_unfolding_all rfl) : DE X K cl (.Compare a [.In] [b] pos) γ mF (Vb (d ∈ ds)) := de_in (fun i => room65 (hr i)) hK hmk ha hb hs c1 c2 (by omega) (by omega)
theorem chainT {op op' : CmpOp} {f f' : Int → Int → Prop} {i j k : Int} (h : CI K cl op f) (h' : CI K cl op' f') (ha : DE X K cl a γ ma (Is (.int i))) (hb : DE X K cl b γ mb (Is (.int j))) (hc : DE X K cl c γ mc (Is (.int k))) (hm : lastMarks [op, op'] [b, c] = false := by with_unfolding_all rfl) :
    DTe X K cl (.Compare a [op, op'] [b, c] pos) γ (Tt (f i j ∧ f' j k)) := dt_chain h h' hm ha hb hc
theorem chainV {op op' : CmpOp} {f f' : Int → Int → Prop} {i j k : Int} (h : CI K cl op f) (h' : CI K cl op' f') (ha : DE X K cl a γ ma (Is (.int i))) (hb : DE X K cl b γ mb (Is (.int j))) (hc : DE X K cl c γ mc (Is (.int k))) (hm : lastMarks [op, op'] [b, c] = false := by with_unfolding_all rfl) :
    DE X K cl (.Compare a [op, op'] [b, c] pos) γ mF (Vb (f i j ∧ f' j k)) := de_chain h h' hm ha hb hc
/-- a bool expression as a test -/
theorem tv (h : DE X K cl e γ ma (Vb φ)) (he : ∀ i whole, isTrue e (X i).env whole = (do let v ← whole; standAt e.pos; holding [v] (truthy v)) := by intro _ _; rfl) : DTe X K cl e γ (Tt φ) := dt_val h he
/-- o.f -/
theorem fld {k : Kd} {ds : List D} {f : Str} (j : Nat) {d : D} (ha : DE X K cl a γ ma (Is (.obj k ds))) (hc : Cls K (cl k)) (hn : NoAttr K (cl k) f) (hf : (flds k)[j]? = some f := by rfl) (hd : ds[j]? = some d := by rfl) (hK : ∀ i, (X i).K = K := by intro _; rfl)
    (hb : ∀ i, attributeBase a f (X i).env (eval a (X i).env) = eval a (X i).env := by intro _; rfl) : DE X K cl (.Attribute a f pos) γ ⟨ma.m, ma.o, false⟩ (Is d) := de_fld hK ha hc hn hf hd hb

/-! ### arguments, displays -/
/-- the weaker of two modes -/
abbrev Md.mn (a b : Md) : Md := ⟨a.m && b.m, a.o && b.o, a.f && b.f⟩
theorem mn_l (a b : Md) : (a.mn b).le a = true := by
  obtain ⟨a1, a2, a3⟩ := a
  obtain ⟨b1, b2, b3⟩ := b
  cases a1 <;> cases a2 <;> cases a3 <;> cases b1 <;> cases b2 <;> cases b3 <;> rfl
theorem mn_r (a b : Md) : (a.mn b).le b = true := by
  obtain ⟨a1, a2, a3⟩ := a
  obtain ⟨b1, b2, b3⟩ := b
  cases a1 <;> cases a2 <;> cases a3 <;> cases b1 <;> cases b2 <;> cases b3 <;> rfl
theorem leA (a : Md) : mA.le a = true := by
  obtain ⟨a1, a2, a3⟩ := a
  cases a1 <;> cases a2 <;> cases a3 <;> rfl
theorem ac {d : D} {ds : List D} (h : DE X K cl e γ ma (Is d)) (hr : DA X K cl es γ mb (fun x => x = ds)) (hs : ∀ i, starEach (e :: es) (X i).env = (false, eval e (X i).env) :: starEach es (X i).env := by intro _; rfl) : DA X K cl (e :: es) γ (ma.mn mb) (fun x => x = d :: ds) := da_consE (h.le (mn_l _ _)) (hr.le (mn_r _ _)) hs
theorem acP {PA : List D → Prop} (h : DE X K cl e γ ma P) (hr : DA X K cl es γ mb PA) (hs : ∀ i, starEach (e :: es) (X i).env = (false, eval e (X i).env) :: starEach es (X i).env := by intro _; rfl) : DA X K cl (e :: es) γ (ma.mn mb) (fun ds => ∃ d r, ds = d :: r ∧ P d ∧ PA r) := da_cons (h.le (mn_l _ _)) (hr.le (mn_r _ _)) hs
theorem an : DA X K cl [] γ mF (fun x => x = []) := da_nil
theorem cat {ds es' : List D} (ha : DE X K cl a γ ma (Is (.lst ds))) (hb : DE X K cl b γ mb (Is (.lst es'))) (hh : hom (ds ++ es')) (hl : ds.length + es'.length ≤ 100000) : DE X K cl (.BinOp a .Add b pos) γ ⟨ma.m && mb.m, ma.o && mb.o, true⟩ (Is (.lst (ds ++ es'))) := de_cat (md := ma.mn mb) (ha.le (mn_l _ _)) (hb.le (mn_r _ _)) hh hl
/-- constants -/
theorem ki {i : Int} {k : Nat} : DE X K cl (.Constant (.int i) k pos) γ mF (Is (.int i)) := de_int
theorem kb {i : Bool} {k : Nat} : DE X K cl (.Constant (.bool i) k pos) γ mF (Is (.bl i)) := de_bl
theorem kn {k : Nat} : DE X K cl (.Constant .none k pos) γ mF (Is .non) := de_non
theorem ks {i : Str} {k : Nat} : DE X K cl (.Constant (.str i) k pos) γ mF (Is (.str i)) := de_str
theorem addE {i j : Int} (ha : DE X K cl a γ ma (Is (.int i))) (hb : DE X K cl b γ mb (Is (.int j))) : DE X K cl (.BinOp a .Add b pos) γ mF (Is (.int (i + j))) := de_addE ha hb
theorem subE {i j : Int} (ha : DE X K cl a γ ma (Is (.int i))) (hb : DE X K cl b γ mb (Is (.int j))) : DE X K cl (.BinOp a .Sub b pos) γ mF (Is (.int (i - j))) := de_subE ha hb
theorem negE {i : Int} (ha : DE X K cl a γ ma (Is (.int i))) : DE X K cl (.UnaryOp .USub a pos) γ mF (Is (.int (-i))) := de_negE ha
theorem powE {i j : Int} (ha : DE X K cl a γ ma (Is (.int i))) (hb : DE X K cl b γ mb (Is (.int j))) (hc : CPow i j) : DE X K cl (.BinOp a .Pow b pos) γ mF (Is (.int (i ^ j.toNat))) := de_powE ha hb hc
theorem addP {p q s : Int → Prop} (ha : DE X K cl a γ ma (IsI p)) (hb : DE X K cl b γ mb (IsI q)) (h : ∀ i j, p i → q j → s (i + j)) : DE X K cl (.BinOp a .Add b pos) γ mF (IsI s) := de_add ha hb h
theorem subP {p q s : Int → Prop} (ha : DE X K cl a γ ma (IsI p)) (hb : DE X K cl b γ mb (IsI q)) (h : ∀ i j, p i → q j → s (i - j)) : DE X K cl (.BinOp a .Sub b pos) γ mF (IsI s) := de_sub ha hb h
theorem mulP {p q s : Int → Prop} (ha : DE X K cl a γ ma (IsI p)) (hb : DE X K cl b γ mb (IsI q)) (h : ∀ i j, p i → q j → CMul i j ∧ s (i * j)) : DE X K cl (.BinOp a .Mult b pos) γ mF (IsI s) := de_mul ha hb h
theorem fdivP {p q s : Int → Prop} (ha : DE X K cl a γ ma (IsI p)) (hb : DE X K cl b γ mb (IsI q)) (h : ∀ i j, p i → q j → CDiv i j ∧ s (i / j)) : DE X K cl (.BinOp a .FloorDiv b pos) γ mF (IsI s) := de_fdiv ha hb h
theorem modP {p q s : Int → Prop} (ha : DE X K cl a γ ma (IsI p)) (hb : DE X K cl b γ mb (IsI q)) (h : ∀ i j, p i → q j → 0 < j ∧ s (i % j)) : DE X K cl (.BinOp a .Mod b pos) γ mF (IsI s) := de_mod ha hb h
theorem ciV {op : CmpOp} {f : Int → Int → Prop} {i j : Int} (h : CI K cl op f) (ha : DE X K cl a γ ma (Is (.int i))) (hb : DE X K cl b γ mb (Is (.int j))) : DE X K cl (.Compare a [op] [b] pos) γ mF (Vb (f i j)) := de_ciE h ha hb
theorem eqBv {φ ψ : Prop} (ha : DE X K cl a γ ma (Vb φ)) (hb : DE X K cl b γ mb (Vb ψ)) : DE X K cl (.Compare a [.Eq] [b] pos) γ mF (Vb (φ ↔ ψ)) := de_eqB ha hb
theorem notV (h : DE X K cl a γ ma (Vb φ)) : DE X K cl (.UnaryOp .Not a pos) γ mF (Vb (¬ φ)) := de_not h
theorem andV (h : DE X K cl a γ ma (Vb φ)) (h2 : φ → DE X K cl (.BoolOp .And (b :: es) pos) γ mb (Vb ψ)) : DE X K cl (.BoolOp .And (a :: b :: es) pos) γ mF (Vb (φ ∧ ψ)) := de_and h h2
theorem blV {r : Bool} (h : DE X K cl e γ md (Is (.bl r))) : DE X K cl e γ md (Vb (r = true)) := h.mono fun d z => ⟨r, z, Iff.rfl⟩
theorem lstE {ds : List D} (h : DA X K cl es γ md (fun x => x = ds)) (hh : hom ds) (hl : ds.length ≤ 100000 := by first | decide | simp) : DE X K cl (.List es pos) γ ⟨md.m, md.o, true⟩ (Is (.lst ds)) := de_lstE h hl hh
theorem tupE {ds : List D} {k : Nat} (h : DA X K cl es γ md (fun x => x = ds)) (hl : ds.length ≤ 100000 := by first | decide | simp) : DE X K cl (.Tuple es k pos) γ md (Is (.tup ds)) := de_tupE h hl
/-- call of an own def with exact arguments -/
theorem call {x : Str} {k j n : Nat} {α : Type} {enc : α → List D} {Pre : α → Prop} {R : α → D → Prop} (x0 : α) (F : GFn W x k (Con W.K W.cl n enc Pre R)) (hr : ∀ i, Room j (X i).A) (ha : DA X W.K W.cl (e :: es) γ md (fun x => x = enc x0)) (hp : Pre x0) (hl : (enc x0).length = n := by rfl) (hk : k ≤ j := by decide)
    (hX : ∀ i, W.at (X i) := by intro _; exact ⟨rfl, rfl, rfl, rfl, rfl, rfl⟩) (hg : ∀ i, Gl (X i) x := by intro _; rfl) (hdb : (x == ("__debug__" : Str)) = false := by decide +kernel)
    (he : ∀ i, starEach (e :: es) (X i).env = (false, eval e (X i).env) :: starEach es (X i).env := by intro _; rfl) (hpl : ∀ i, (backTo pos (starEach es (X i).env)).any (·.1) = false := by intro _; rfl) : DE X W.K W.cl (.Call (.Name x p) (e :: es) [] pos) γ mF (R x0) :=
  de_call hX F hr hk hg (ha.le (leA _)) (fun ds' h => ⟨x0, h, hl, hp, fun d h => h⟩) hdb he hpl
theorem callP {x : Str} {k j n : Nat} {α : Type} {enc : α → List D} {Pre : α → Prop} {R : α → D → Prop} {PA : List D → Prop} (F : GFn W x k (Con W.K W.cl n enc Pre R)) (hr : ∀ i, Room j (X i).A) (ha : DA X W.K W.cl (e :: es) γ md PA) (hp : ∀ ds, PA ds → ∃ x, ds = enc x ∧ (enc x).length = n ∧ Pre x ∧ ∀ d, R x d → P d) (hk : k ≤ j := by decide)
    (hX : ∀ i, W.at (X i) := by intro _; exact ⟨rfl, rfl, rfl, rfl, rfl, rfl⟩) (hg : ∀ i, Gl (X i) x := by intro _; rfl) (hdb : (x == ("__debug__" : Str)) = false := by decide +kernel)
    (he : ∀ i, starEach (e :: es) (X i).env = (false, eval e (X i).env) :: starEach es (X i).env := by intro _; rfl) (hpl : ∀ i, (backTo pos (starEach es (X i).env)).any (·.1) = false := by intro _; rfl) : DE X W.K W.cl (.Call (.Name x p) (e :: es) [] pos) γ mF P :=
  de_call hX F hr hk hg (ha.le (leA _)) hp hdb he hpl
theorem callS {x : Str} {k j n : Nat} {α : Type} {enc : α → List D} {Pre : α → Prop} {R : α → D → Prop} (x0 : α) (F : GFn W x k (ConS W.K W.cl n enc Pre R)) (hr : ∀ i, Room j (X i).A) (ha : DA X W.K W.cl (e :: es) γ md (fun x => x = enc x0)) (hp : Pre x0) (hl : (enc x0).length = n := by rfl) (hk : k ≤ j := by decide)
    (hX : ∀ i, W.at (X i) := by intro _; exact ⟨rfl, rfl, rfl, rfl, rfl, rfl⟩) (hg : ∀ i, Gl (X i) x := by intro _; rfl) (hdb : (x == ("__debug__" : Str)) = false := by decide +kernel)
    (he : ∀ i, starEach (e :: es) (X i).env = (false, eval e (X i).env) :: starEach es (X i).env := by intro _; rfl) (hpl : ∀ i, (backTo pos (starEach es (X i).env)).any (·.1) = false := by intro _; rfl) : DE X W.K W.cl (.Call (.Name x p) (e :: es) [] pos) γ ⟨md.m, md.o, false⟩ (R x0) :=
  de_callS hX F hr hk hg ha (fun ds' h => ⟨x0, h, hl, hp, fun d h => h⟩) hdb he hpl
theorem meth {c : Kd} {m : Str} {k j n : Nat} {α : Type} {enc : α → List D} {Pre : α → Prop} {R : α → D → Prop} {o : Expr} {d0 ds : List D} (x0 : α) (F : MFn W c m k (Con W.K W.cl n enc Pre R)) (hr : ∀ i, Room j (X i).A) (ho : DE X W.K W.cl o γ ma (Is (.obj c d0))) (ha : DA X W.K W.cl (e :: es) γ md (fun x => x = ds)) (hp : Pre x0) (hx : D.obj c d0 :: ds = enc x0 := by rfl)
    (hl : (enc x0).length = n := by rfl) (hk : k ≤ j := by decide) (hno : m ∉ flds c := by decide +kernel) (hX : ∀ i, W.at (X i) := by intro _; exact ⟨rfl, rfl, rfl, rfl, rfl, rfl⟩)
    (he : ∀ i, starEach (e :: es) (X i).env = (false, eval e (X i).env) :: starEach es (X i).env := by intro _; rfl) (hpl : ∀ i, (backTo pos (starEach es (X i).env)).any (·.1) = false := by intro _; rfl) {pl : Sem Bool}
    (ht : ∀ i, eval (.Call (.Attribute o m apos) (e :: es) [] pos) (X i).env = (do
      let ov ← eval o (X i).env
      standAt apos.atName
      let (f, first) ← holding [ov] (getMethod ov m pl)
      callWith pos f first (backTo pos (starEach (e :: es) (X i).env)) (backToKw pos (keywordEach [] (X i).env))) := by intro _; rfl) : DE X W.K W.cl (.Call (.Attribute o m apos) (e :: es) [] pos) γ mF (R x0) :=
  de_meth (pl := pl) hX F hr hk hno ho (ha.le (leA _)) (fun ds' h => by subst h; exact ⟨x0, hx, hl, hp, fun d h => h⟩) he hpl ht

/-! ### built-ins -/
theorem len_ (B : Bn W) {s : D} {ds : List D} (ha : DE X W.K W.cl a γ ma (Is s)) (hs : Sq s ds) (hX : ∀ i, W.at (X i) := by intro _; exact ⟨rfl, rfl, rfl, rfl, rfl, rfl⟩) (hg : ∀ i, Gl (X i) "len" := by intro _; rfl)
    (he : ∀ i, starEach [a] (X i).env = (false, eval a (X i).env) :: starEach [] (X i).env := by intro _; rfl) : DE X W.K W.cl (.Call (.Name "len" p) [a] [] pos) γ mF (Is (.int ds.length)) := de_len hX hg B.len ha hs he fun _ => rfl
theorem list_ (B : Bn W) {s : D} {ds : List D} (ha : DE X W.K W.cl a γ ma (Is s)) (hs : Sq s ds) (hh : hom ds) (hX : ∀ i, W.at (X i) := by intro _; exact ⟨rfl, rfl, rfl, rfl, rfl, rfl⟩) (hg : ∀ i, Gl (X i) "list" := by intro _; rfl)
    (he : ∀ i, starEach [a] (X i).env = (false, eval a (X i).env) :: starEach [] (X i).env := by intro _; rfl) : DE X W.K W.cl (.Call (.Name "list" p) [a] [] pos) γ ⟨ma.m, ma.o, true⟩ (Is (.lst ds)) := de_list hX hg B.list PyProof.Rows.boot_list ha hs hh he fun _ => rfl
theorem tuple_ (B : Bn W) {s : D} {ds : List D} (ha : DE X W.K W.cl a γ ma (Is s)) (hs : Sq s ds) (hX : ∀ i, W.at (X i) := by intro _; exact ⟨rfl, rfl, rfl, rfl, rfl, rfl⟩) (hg : ∀ i, Gl (X i) "tuple" := by intro _; rfl)
    (he : ∀ i, starEach [a] (X i).env = (false, eval a (X i).env) :: starEach [] (X i).env := by intro _; rfl) : DE X W.K W.cl (.Call (.Name "tuple" p) [a] [] pos) γ ⟨ma.m, ma.o, false⟩ (Is (.tup ds)) := de_tuple hX hg B.tuple PyProof.Rows.boot_tuple ha hs he fun _ => rfl
theorem int_ (B : Bn W) {q0 : Int → Prop} (ha : DE X W.K W.cl a γ ma (IsI q0)) (hX : ∀ i, W.at (X i) := by intro _; exact ⟨rfl, rfl, rfl, rfl, rfl, rfl⟩) (hg : ∀ i, Gl (X i) "int" := by intro _; rfl)
    (he : ∀ i, starEach [a] (X i).env = (false, eval a (X i).env) :: starEach [] (X i).env := by intro _; rfl) : DE X W.K W.cl (.Call (.Name "int" p) [a] [] pos) γ mF (IsI q0) := de_intOf hX hg B.int PyProof.Rows.boot_int ha he fun _ => rfl
theorem intB_ (B : Bn W) {φ : Prop} [Decidable φ] (ha : DE X W.K W.cl a γ ma (Vb φ)) (hX : ∀ i, W.at (X i) := by intro _; exact ⟨rfl, rfl, rfl, rfl, rfl, rfl⟩) (hg : ∀ i, Gl (X i) "int" := by intro _; rfl)
    (he : ∀ i, starEach [a] (X i).env = (false, eval a (X i).env) :: starEach [] (X i).env := by intro _; rfl) : DE X W.K W.cl (.Call (.Name "int" p) [a] [] pos) γ mF (Is (.int (if φ then 1 else 0))) := de_intOfB hX hg B.int PyProof.Rows.boot_int ha he fun _ => rfl
theorem max_ (B : Bn W) {i j : Int} (ha : DA X W.K W.cl (a :: es) γ ma (fun x => x = [.int i, .int j])) (hX : ∀ i, W.at (X i) := by intro _; exact ⟨rfl, rfl, rfl, rfl, rfl, rfl⟩) (hg : ∀ i, Gl (X i) "max" := by intro _; rfl)
    (he : ∀ i, starEach (a :: es) (X i).env = (false, eval a (X i).env) :: starEach es (X i).env := by intro _; rfl) (hpl : ∀ i, (backTo pos (starEach es (X i).env)).any (·.1) = false := by intro _; rfl) : DE X W.K W.cl (.Call (.Name "max" p) (a :: es) [] pos) γ mF (Is (.int (if j > i then j else i))) :=
  de_max2 hX hg B.max PyProof.Rows.boot_max ha he hpl
theorem min_ (B : Bn W) {i j : Int} (ha : DA X W.K W.cl (a :: es) γ ma (fun x => x = [.int i, .int j])) (hX : ∀ i, W.at (X i) := by intro _; exact ⟨rfl, rfl, rfl, rfl, rfl, rfl⟩) (hg : ∀ i, Gl (X i) "min" := by intro _; rfl)
    (he : ∀ i, starEach (a :: es) (X i).env = (false, eval a (X i).env) :: starEach es (X i).env := by intro _; rfl) (hpl : ∀ i, (backTo pos (starEach es (X i).env)).any (·.1) = false := by intro _; rfl) : DE X W.K W.cl (.Call (.Name "min" p) (a :: es) [] pos) γ mF (Is (.int (if j < i then j else i))) :=
  de_min2 hX hg B.min PyProof.Rows.boot_min ha he hpl
theorem sorted_ (B : Bn W) {ns : List Int} (ha : DE X W.K W.cl a γ ma (Is (.lst (ns.map D.int)))) (hX : ∀ i, W.at (X i) := by intro _; exact ⟨rfl, rfl, rfl, rfl, rfl, rfl⟩) (hg : ∀ i, Gl (X i) "sorted" := by intro _; rfl)
    (he : ∀ i, starEach [a] (X i).env = (false, eval a (X i).env) :: starEach [] (X i).env := by intro _; rfl) : DE X W.K W.cl (.Call (.Name "sorted" p) [a] [] pos) γ mF (fun d => ∃ ms : List Int, d = .lst (ms.map D.int) ∧ ms.Perm ns) := de_sorted hX hg B.sorted PyProof.Rows.boot_sorted ha he fun _ => rfl
theorem listRange (B : Bn W) {n : Int} {p2 pos2 : Pos} (ha : DE X W.K W.cl a γ ma (Is (.int n))) (h0 : 0 ≤ n) (h1 : n ≤ 16777216) (hX : ∀ i, W.at (X i) := by intro _; exact ⟨rfl, rfl, rfl, rfl, rfl, rfl⟩) (hg : ∀ i, Gl (X i) "list" := by intro _; rfl) (hg2 : ∀ i, Gl (X i) "range" := by intro _; rfl)
    (he : ∀ i, starEach [a] (X i).env = (false, eval a (X i).env) :: starEach [] (X i).env := by intro _; rfl)
    (he2 : ∀ i, starEach [.Call (.Name "range" p2) [a] [] pos2] (X i).env = (false, eval (.Call (.Name "range" p2) [a] [] pos2) (X i).env) :: starEach [] (X i).env := by intro _; rfl) :
    DE X W.K W.cl (.Call (.Name "list" p) [.Call (.Name "range" p2) [a] [] pos2] [] pos) γ mF (Is (.lst (((List.range n.toNat).map fun (i : Nat) => (i : Int)).map D.int))) := de_listRange hX hg B.list hg2 B.range ha h0 h1 he he2
theorem slice {ds : List D} {lo hi : Option Expr} {i j : Option Int} {p2 : Pos} (ha : DE X K cl a γ ma (Is (.lst ds))) (hl : DPo X K cl lo γ i) (hh : DPo X K cl hi γ j) (hm : hom (cutD ds i j)) (hK : ∀ i, (X i).K = K := by intro _; rfl) :
    DE X K cl (.Subscript a (.Slice lo hi none p2) pos) γ ⟨ma.m, ma.o, true⟩ (Is (.lst (cutD ds i j))) := de_slice hK ha hl hh hm
/-- the type's name of data -/
def tyD : D → Option String
  | .int _ => some "int"
  | .str _ => some "str"
  | .bl _ => some "bool"
  | .non => some "NoneType"
  | .tup _ => some "tuple"
  | .lst _ => some "list"
  | _ => none
/-- isinstance(a, T), T a built-in type -/
theorem isi (B : Bn W) {d : D} {x : Str} {T t : String} {r : Bool} {p2 : Pos} (ha : DE X W.K W.cl a γ ma (Is d)) (hx : bootBuiltins x = some (.type T)) (hmx : W.mg x = none) (hk : kitB t T = some r) (ht : tyD d = some t := by rfl) (hX : ∀ i, W.at (X i) := by intro _; exact ⟨rfl, rfl, rfl, rfl, rfl, rfl⟩)
    (hg : ∀ i, Gl (X i) "isinstance" := by intro _; rfl) (hgx : ∀ i, Gl (X i) x := by intro _; rfl) (hn : x ≠ "__name__" := by decide +kernel) (hd : (x == ("__debug__" : Str)) = false := by decide +kernel)
    (he : ∀ i, starEach [a, .Name x p2] (X i).env = (false, eval a (X i).env) :: starEach [.Name x p2] (X i).env := by intro _; rfl)
    (he2 : ∀ i, starEach [.Name x p2] (X i).env = (false, eval (.Name x p2) (X i).env) :: starEach [] (X i).env := by intro _; rfl)
    (hpl : ∀ i, (backTo pos (starEach [.Name x p2] (X i).env)).any (·.1) = false := by intro _; rfl) : DE X W.K W.cl (.Call (.Name "isinstance" p) [a, .Name x p2] [] pos) γ mF (Is (.bl r)) := by
  intro M H0 H σ E Q q
  refine ⟨tCB (rIsi W.K) (tCons (rE X a) (tCons (tC (.ty T)) tNil)), fun i => ?_, ha M H0 H σ E _ fun v H1 d1 k1 e1 r1 => ?_⟩
  · obtain ⟨h1, h2, h3, h4, h5, h6⟩ := hX i
    rw [← h3]
    exact pe_callB call_isi (hg i) (by rw [h4]; exact B.isinstance) PyProof.Rows.boot_isinstance (pa_cons (peR i) (pa_cons (pe_bltn (hgx i) (by rw [h4]; exact hmx) hx rfl hn hd) pa_nil (he2 i)) (he i)) (by decide +kernel) (by decide +kernel) (he i) (hpl i)
  · subst e1
    obtain ⟨r1, _⟩ := r1
    have fin : Q (.bl r) H1 := q _ H1 _ k1 rfl (.of_im (N := fun _ => False) rfl (.bl r))
    have go : ∀ {t' : Value}, TyX W.K H1 v t' → t' = .type t → rIsi W.K [v, .ty T] H1 Q := fun {t'} ty e => by
      subst e
      exact ⟨v, .ty T, _, _, r, rfl, .ty T, ty, kit_ty hk, fin⟩
    cases r1 with
    | non => cases ht; exact go (.base .non) rfl
    | bl b => cases ht; exact go (.base (.bl b)) rfl
    | int b => cases ht; exact go (.base (.int b)) rfl
    | str b => cases ht; exact go (.base (.str b)) rfl
    | tup s h =>
      cases ht
      rcases s with (s | ⟨o, s⟩) | ⟨o, its, n, s, c, _⟩
      · exact go (.base (.tup s)) rfl
      · exact go (.fTuple s) rfl
      · exact go (.kTuple s c) rfl
    | lst e n b h => cases ht; exact go (.base (.lst e)) rfl
    | obj => cases ht
    | box => cases ht
    | raw => cases ht

/-! ### statements -/
theorem sq (h : DS X K cl st γ ⟨fun γ' => DSs X K cl sts γ' J, J.rt, J.bk, J.ct⟩) : DSs X K cl (st :: sts) γ J := dss_cons h fun _ h => h
theorem set (j : Nat) {x : Str} {px : Pos} (h : DE X K cl e γ md P) (hp : ∀ d, P d → J.nx (γ.set j (.v md.m d))) (ho : md.o = true := by rfl) (hj : j < γ.length := by exact of_decide_eq_true (by rfl)) (hN : ∀ i, (X i).N.Nodup := by intro _; assumption) (hx : ∀ i, (X i).N[j]? = some x := by intro _; rfl)
    (hl : ∀ i, Loc (X i).env.scope x := by intro _; first | exact Or.inl rfl | exact Or.inr rfl) (hf : ∀ i, (X i).fn x = true ∨ (X i).env.scope.names.lookup x = some .local := by intro _; first | exact Or.inl rfl | exact Or.inr rfl)
    (hs : ∀ i, swapsWith e (some (.Name x px)) pos.line (X i).env = pure false := by intro _; rfl) : DS X K cl (.Assign [.Name x px] e pos) γ J := ds_set hN hx hl hf hs hj h ho hp
theorem setO (j : Nat) {x : Str} {px : Pos} (h : DE X K cl e γ md P) (hp : ∀ d, P d → ∃ ds, d = .lst ds ∧ D.immA ds = true ∧ J.nx (γ.set j (.ow ds))) (ho : md.f = true := by rfl) (hj : j < γ.length := by exact of_decide_eq_true (by rfl)) (hN : ∀ i, (X i).N.Nodup := by intro _; assumption) (hx : ∀ i, (X i).N[j]? = some x := by intro _; rfl)
    (hl : ∀ i, Loc (X i).env.scope x := by intro _; first | exact Or.inl rfl | exact Or.inr rfl) (hf : ∀ i, (X i).fn x = true ∨ (X i).env.scope.names.lookup x = some .local := by intro _; first | exact Or.inl rfl | exact Or.inr rfl)
    (hs : ∀ i, swapsWith e (some (.Name x px)) pos.line (X i).env = pure false := by intro _; rfl) : DS X K cl (.Assign [.Name x px] e pos) γ J := ds_setO hN hx hl hf hs hj h ho hp
theorem app (j : Nat) {x : Str} {px apos cpos : Pos} {ds : List D} (h : DE X K cl e γ md P) (hz : ds.length < 100000) (hp : ∀ d, P d → hom (ds ++ [d]) ∧ J.nx (γ.set j (.ow (ds ++ [d])))) (hle : mS.le md = true := by rfl) (hj : γ[j]? = some (.ow ds) := by rfl) (hx : ∀ i, (X i).N[j]? = some x := by intro _; rfl)
    (hv : ∀ i, Vis (X i).env.scope x := by intro _; first | exact Or.inl rfl | exact Or.inr (Or.inl rfl) | exact Or.inr (Or.inr rfl)) (h1 : (x == ("__debug__" : Str)) = false := by decide +kernel) (h2 : (x == ("__classdict__" : Str)) = false := by decide +kernel)
    (he : ∀ i, starEach [e] (X i).env = (false, eval e (X i).env) :: starEach [] (X i).env := by intro _; rfl)
    (hbm : ∀ i t, PE (X i) e t → PE (X i) (.Call (.Attribute (.Name x px) "append" apos) [e] [] cpos) (tBM K "list" rAppend (tVar j) (tCons t tNil)) := by exact fun _ _ h => pe_bm PySem.F.plainAttrs_list PySem.F.slot_list_append PySem.F.type_list_append mt_append (pv _) (pa_cons h pa_nil))
    (hs : ∀ i, swapsWith (.Call (.Attribute (.Name x px) "append" apos) [e] [] cpos) none pos.line (X i).env = pure false := by intro _; rfl) : DS X K cl (.Expr (.Call (.Attribute (.Name x px) "append" apos) [e] [] cpos) pos) γ J :=
  ds_app hx hv h1 h2 hj (h.le hle) rfl rfl hz hp he hbm hs
theorem ret (h : DE X K cl e γ md P) (hp : ∀ d, P d → J.rt d) (hm : md.m = true := by rfl) : DS X K cl (.Return (some e) pos) γ J := ds_ret h hm hp
theorem expr (h : DE X K cl e γ md P) (hp : ∀ d, P d → J.nx γ) (hs : ∀ i, swapsWith e none pos.line (X i).env = pure false := by intro _; rfl) : DS X K cl (.Expr e pos) γ J := ds_expr h hp hs
theorem gn (j : Nat) {x : Str} {f : Bool} {d : D} {Γ : List G → Prop} (h : Γ (γ.set j (.v f d))) (hj : j < γ.length := by exact of_decide_eq_true (by rfl)) (hN : ∀ i, (X i).N.Nodup := by intro _; assumption) (hx : ∀ i, (X i).N[j]? = some x := by intro _; rfl)
    (hl : ∀ i, Loc (X i).env.scope x := by intro _; first | exact Or.inl rfl | exact Or.inr rfl) (hf : ∀ i, (X i).fn x = true ∨ (X i).env.scope.names.lookup x = some .local := by intro _; first | exact Or.inl rfl | exact Or.inr rfl) : DG X K cl (.Name x pos) γ f d [j] Γ := dg_name hN hx hl hf hj h
theorem gc (j : Nat) {x : Str} {f : Bool} {d : D} {ds : List D} {sl : List Nat} {Γ : List G → Prop} (h : DGs X K cl es (γ.set j (.v f d)) f ds sl Γ) (hj : j < γ.length := by exact of_decide_eq_true (by rfl)) (hN : ∀ i, (X i).N.Nodup := by intro _; assumption) (hx : ∀ i, (X i).N[j]? = some x := by intro _; rfl)
    (hl : ∀ i, Loc (X i).env.scope x := by intro _; first | exact Or.inl rfl | exact Or.inr rfl) (hf : ∀ i, (X i).fn x = true ∨ (X i).env.scope.names.lookup x = some .local := by intro _; first | exact Or.inl rfl | exact Or.inr rfl)
    (hs : ∀ i, (assignEach (.Name x pos :: es) (X i).env).map (·.2) = assign (.Name x pos) (X i).env :: (assignEach es (X i).env).map (·.2) := by intro _; rfl) : DGs X K cl (.Name x pos :: es) γ f (d :: ds) (j :: sl) Γ := dgs_cons hN hx hl hf hj hs h
theorem gt {k : Nat} {f : Bool} {ds : List D} {sl : List Nat} {Γ : List G → Prop} (h : DGs X K cl es γ f ds sl Γ) (hn : ∀ i, (assignEach es (X i).env).length = ds.length := by intro _; rfl) (hst : ∀ i, (assignEach es (X i).env).findIdx? (·.1) = none := by intro _; rfl)
    (hK : ∀ i, (X i).K = K := by intro _; rfl) (hc : ∀ i, (X i).calm = true := by intro _; rfl) : DG X K cl (.Tuple es k pos) γ f (.tup ds) sl Γ := dg_tup hK hc hn hst rfl h
theorem asg {d : D} {sl : List Nat} (h : DE X K cl e γ md (Is d)) (hg : DG X K cl tg γ md.m d sl J.nx) (ho : md.o = true := by rfl) (hs : ∀ i, swapsWithSole [tg] e pos.line (X i).env = pure false := by intro _; rfl) (hw : ∀ i, swappedStores [tg] e (X i).env = pure none := by intro _; rfl)
    (h1 : ∀ i, (assignEach [tg] (X i).env).map (·.2) = [assign tg (X i).env] := by intro _; rfl) : DS X K cl (.Assign [tg] e pos) γ J := ds_asg h ho hg hs hw h1
theorem iL {ds : List D} (h : DE X K cl e γ md (Is (.lst ds))) (ho : md.o = true := by rfl) (hK : ∀ i, (X i).K = K := by intro _; rfl) : DI X K cl tg e γ md.m ds.length (fun i d => ds[i]? = some d) := di_list hK h ho
theorem iT {ds : List D} (h : DE X K cl e γ md (Is (.tup ds))) (ho : md.o = true := by rfl) (hK : ∀ i, (X i).K = K := by intro _; rfl) : DI X K cl tg e γ md.m ds.length (fun i d => ds[i]? = some d) := di_tup hK h ho
theorem iR (B : Bn W) {n : Int} (h : DE X W.K W.cl e γ md (Is (.int n))) (h0 : n ≤ 16777216) (h1 : -16777216 ≤ n) (hX : ∀ i, W.at (X i) := by intro _; exact ⟨rfl, rfl, rfl, rfl, rfl, rfl⟩) (hg : ∀ i, Gl (X i) "range" := by intro _; rfl) (he : ∀ i, starEach [e] (X i).env = [(false, eval e (X i).env)] := by intro _; rfl)
    (hpa : ∀ i, starEach [e] (X i).env = (false, eval e (X i).env) :: starEach [] (X i).env := by intro _; rfl) : DI X W.K W.cl tg (.Call (.Name "range" p) [e] [] pos) γ true n.toNat (fun i d => d = .int i) := di_range1 hX hg B.range h h0 h1 he hpa
theorem for_ {f : Bool} {n : Nat} {item : Nat → D → Prop} {sl : List Nat} (I : Nat → List G → Prop) (hi : DI X K cl tg iter γ f n item)
    (h0 : I 0 γ) (ht : ∀ i γ' d, i < n → I i γ' → item i d → DG X K cl tg γ' f d sl (fun γ'' => DSs X K cl sts γ'' ⟨I (i + 1), J.rt, J.nx, I (i + 1)⟩)) (hend : ∀ γ', I n γ' → J.nx γ')
    (hs : ∀ i x, foldedSetIterable iter (X i).env x = pure x := by intro _ _; rfl) (hc : ∀ i, (X i).calm = true := by intro _; rfl) (hpo : ∀ i, PassesOwn (model (X i).prog (X i).w) (X i).A (X i).env (X i).xe := by intro _; exact PassesOwn.never) : DS X K cl (.For tg iter sts [] pos) γ J :=
  ds_for I hpo hc hi h0 ht hend hs
end

/-! ### a def of the text -/
/-- it stands behind the top -/
abbrev FnP (W : Wd) (x qual : Str) (st : Stmt) (f : Addr) (fd : FuncData) : Prop := FunD W.K x qual (defArgs st) (defBody st) (defScope st) [] [] f fd
abbrev bodyX (W : Wd) (N : List Str) (qual : Str) (st : Stmt) (f : Addr) (cdv : Value) (A : Around) (outer : List Env) (s : Shared) (H : Hp) (E : XK) : Cx := (cxOf CX0 W.P W.w W.K W.mg W.base N qual (defScope st) f cdv A outer s H E).nox
theorem fn_con {W : Wd} {x qual : Str} {st : Stmt} {f : Addr} {fd : FuncData} {N ps : List Str} {k n : Nat} {α : Type} {enc : α → List D} {Pre : α → Prop} {R : α → D → Prop} (F : FnP W x qual st f fd) (S : FnScope N ps (defScope st)) (hn : ps.length = n)
    (hb : ∀ cdv A outer s H E, Room k (bodyX W N qual st f cdv A outer s H E).A → ∀ x, (enc x).length = n → Pre x → DSs (fun _ : Unit => bodyX W N qual st f cdv A outer s H E) W.K W.cl (defBody st) (g0 false N (enc x)) ⟨fun _ => R x .non, R x, fun _ => False, fun _ => False⟩) :
    FnOk W.P W.w W.K W.mg W.base CX0 (k + 1) f fd ps (Con W.K W.cl n enc Pre R) :=
  F.ok S (fun vs H Q E h => by rw [con_len h, hn]) fun cdv A outer s H vs Q E hr h => by
    obtain ⟨t, h1, h2⟩ := body_con (X := bodyX W N qual st f cdv A outer s H E) (hb cdv A outer s H E hr) h
    exact ⟨t, PSs.nox h1, h2⟩
theorem fn_conS {W : Wd} {x qual : Str} {st : Stmt} {f : Addr} {fd : FuncData} {N ps : List Str} {k n : Nat} {α : Type} {enc : α → List D} {Pre : α → Prop} {R : α → D → Prop} (F : FnP W x qual st f fd) (S : FnScope N ps (defScope st)) (hn : ps.length = n)
    (hb : ∀ cdv A outer s H E, Room k (bodyX W N qual st f cdv A outer s H E).A → ∀ x, (enc x).length = n → Pre x → DSs (fun _ : Unit => bodyX W N qual st f cdv A outer s H E) W.K W.cl (defBody st) (g0 true N (enc x)) ⟨fun _ => R x .non, R x, fun _ => False, fun _ => False⟩) :
    FnOk W.P W.w W.K W.mg W.base CX0 (k + 1) f fd ps (ConS W.K W.cl n enc Pre R) :=
  F.ok S (fun vs H Q E h => by rw [conS_len h, hn]) fun cdv A outer s H vs Q E hr h => by
    obtain ⟨t, h1, h2⟩ := body_conS (X := bodyX W N qual st f cdv A outer s H E) (hb cdv A outer s H E hr) h
    exact ⟨t, PSs.nox h1, h2⟩
end DL

/-! DL7: comprehensions over plain lists. -/
namespace DL
open PySem PySem.Spec PyProof.Rows L2
theorem mlen {α : Type} (f : α → D) (l : List α) : ((l.map f).length : Int) = (l.length : Int) := by rw [List.length_map]
section
variable {ι : Type} {X : ι → Cx} {K : PySem.W.Frag} {cl : Kd → Addr} {γ : List G} {e a b c iter tg elt : Expr} {es ifs : List Expr} {st : Stmt} {sts sts2 : List Stmt} {pos p apos : Pos} {md ma mb mc : Md} {P P' Pa Pb : D → Prop} {φ ψ : Prop} {J : Po} {W : Wd} {scope : Scope}
/-- weaker mode, weaker property -/
theorem el (h : DE X K cl e γ md P) (hp : ∀ d, P d → P' d := by exact fun _ h => h) (hle : mS.le md = true := by rfl) : DE X K cl e γ mS P' := (h.le hle).mono hp
/-- one turn of a filter -/
abbrev FilT (X : ι → Cx) (K : PySem.W.Frag) (cl : Kd → Addr) (scope : Scope) (elt tg : Expr) (ifs : List Expr) (γ : List G) (vs sl : List Nat) (f : Bool) {α : Type} (enc out : α → D) (q : α → Bool) (x : α) : Prop :=
  DG (blkX X scope) K cl tg (wipeG (γ.map unown) vs) f (enc x) sl (fun γ'' => DTs (blkX X scope) K cl ifs γ'' (Tt (q x = true)) ∧ (q x = true → DE (blkX X scope) K cl elt γ'' mS (Is (out x))))
theorem DG.mono {f : Bool} {d : D} {sl : List Nat} {Γ Γ' : List G → Prop} (h : DG X K cl tg γ f d sl Γ) (hp : ∀ g, Γ g → Γ' g) : DG X K cl tg γ f d sl Γ' :=
  fun M H0 H σ v E r Q q => h M H0 H σ v E r Q fun σ' H' γ' E' k l s g => q σ' H' γ' E' k l s (hp _ g)
theorem fil_turn {α : Type} {enc out : α → D} {q : α → Bool} {l : List α} {vs sl : List Nat} {f : Bool} (ht : ∀ x ∈ l, FilT X K cl scope elt tg ifs γ vs sl f enc out q x) :
    LcTurn X K cl scope elt tg ifs γ vs sl f (l.map enc).length (fun i d => (l.map enc)[i]? = some d) (fun i acc => acc = ((l.take i).filter q).map out) := by
  intro i acc d hi hI hd
  rw [List.getElem?_map] at hd
  cases e : l[i]? with
  | none => rw [e] at hd; cases hd
  | some x =>
    rw [e] at hd
    have hd : enc x = d := Option.some.inj hd
    subst hd
    subst hI
    have e2 : l.take (i + 1) = l.take i ++ [x] := by rw [List.take_add_one, e]; rfl
    refine DG.mono (ht x (List.mem_of_getElem? e)) fun g ⟨h1, h2⟩ => ⟨_, h1, fun hq => (h2 hq).mono fun d h => ?_, fun hq => ?_⟩
    · show _ = List.map out (List.filter q (List.take (i + 1) l))
      rw [h, e2, List.filter_append, List.map_append, List.filter_cons, if_pos hq]; rfl
    · show _ = List.map out (List.filter q (List.take (i + 1) l))
      rw [e2, List.filter_append, List.filter_cons, if_neg hq]; simp
/-- [out x for x in l if q x] -/
theorem filt {α : Type} (own : List (Str × Nat)) (sl : List Nat) (enc out : α → D) (l : List α) (q : α → Bool) {f : Bool} {N0 : List Str} {sc0 : Scope} (hi : DI X K cl tg iter γ f (l.map enc).length (fun i d => (l.map enc)[i]? = some d)) (hn : l.length ≤ 100000)
    (ht : ∀ x ∈ l, FilT X K cl scope elt tg ifs γ (own.map (·.2)) sl f enc out q x) (hh : ∀ m : List α, hom (m.map out)) (hsl : ∀ i ∈ sl, i ∈ own.map (·.2) := by decide)
    (hN0 : ∀ i, (X i).N = N0 := by intro _; rfl) (hsc : ∀ i, (X i).env.scope = sc0 := by intro _; rfl) (hb : blkC N0 sc0 scope own = true := by rfl)
    (hc : ∀ i, (X i).calm = true := by intro _; rfl) (hN : ∀ i, (X i).N.Nodup := by intro _; assumption) (hs : ∀ i x, foldedSetIterable iter (X i).env x = pure x := by intro _ _; rfl) :
    DE X K cl (.ListComp elt [⟨tg, iter, ifs, 0⟩] scope pos) γ mF (Is (.lst ((l.filter q).map out))) :=
  de_lc (own := own) (sl := sl) _ hc hN (fun i => by rw [hN0 i, hsc i]; exact blkOk_by hb) hi (by rw [List.length_map]; exact hn) rfl hsl (fil_turn ht) (fun i acc h => by subst h; exact hh _) (fun acc h => by subst h; rw [List.length_map, List.take_length]) hs
/-- y = [..] on one line -/
theorem setF {α : Type} (j : Nat) (own : List (Str × Nat)) (sl : List Nat) (enc out : α → D) (l : List α) (q : α → Bool) {y : Str} {py spos : Pos} {f : Bool} {N0 : List Str} {sc0 : Scope} (hi : DI X K cl tg iter γ f (l.map enc).length (fun i d => (l.map enc)[i]? = some d)) (hn : l.length ≤ 100000)
    (ht : ∀ x ∈ l, FilT X K cl scope elt tg ifs γ (own.map (·.2)) sl f enc out q x) (hh : ∀ m : List α, hom (m.map out)) (he : J.nx (γ.set j (.v true (.lst ((l.filter q).map out))))) (hsl : ∀ i ∈ sl, i ∈ own.map (·.2) := by decide)
    (hN0 : ∀ i, (X i).N = N0 := by intro _; rfl) (hsc : ∀ i, (X i).env.scope = sc0 := by intro _; rfl) (hb : blkC N0 sc0 scope own = true := by rfl)
    (hc : ∀ i, (X i).calm = true := by intro _; rfl) (hN : ∀ i, (X i).N.Nodup := by intro _; assumption) (hs : ∀ i x, foldedSetIterable iter (X i).env x = pure x := by intro _ _; rfl)
    (hy : ∀ i, (X i).N[j]? = some y := by intro _; rfl) (hyl : ∀ i, (X i).env.scope.names.lookup y = some .local := by intro _; rfl) (hj : j < γ.length := by exact of_decide_eq_true (by rfl))
    (hsw : ∀ i, swapsWith (.ListComp elt [⟨tg, iter, ifs, 0⟩] scope pos) (some (.Name y py)) spos.line (X i).env = pure true := by exact fun _ => L2.sw_true rfl rfl rfl (by decide +kernel)) : DS X K cl (.Assign [.Name y py] (.ListComp elt [⟨tg, iter, ifs, 0⟩] scope pos) spos) γ J :=
  ds_setLc (own := own) (sl := sl) _ hc hN hy hyl hsw (fun i => by rw [hN0 i, hsc i]; exact blkOk_by hb) hi (by rw [List.length_map]; exact hn) rfl hsl (fil_turn ht) (fun i acc h => by subst h; exact hh _) hs hj (fun acc h => by subst h; rw [List.length_map, List.take_length]; exact he)
/-- the same list, stored by a plain store (a cell's name or one that is not swapped) is `set` of `filt` -/
abbrev PrT (X : ι → Cx) (K : PySem.W.Frag) (cl : Kd → Addr) (scope : Scope) (elt tg : Expr) (γ : List G) (vs sl : List Nat) (f : Bool) (d : D) (P : D → Prop) : Prop :=
  DG (blkX X scope) K cl tg (wipeG (γ.map unown) vs) f d sl (fun γ'' => DE (blkX X scope) K cl elt γ'' mS P)
theorem pr_turn {β : Type} {out : β → D} {S : β → Prop} {n : Nat} {item : Nat → D → Prop} {vs sl : List Nat} {f : Bool} (ht : ∀ i d, i < n → item i d → PrT X K cl scope elt tg γ vs sl f d (fun e => ∃ y, e = out y ∧ S y)) :
    LcTurn X K cl scope elt tg [] γ vs sl f n item (fun i acc => ∃ ys : List β, acc = ys.map out ∧ ys.length = i ∧ ∀ y ∈ ys, S y) := by
  intro i acc d hi ⟨ys, hI, hl, hS⟩ hd
  refine DG.mono (ht i d hi hd) fun g h => ⟨True, dts_nil, fun _ => h.mono fun d ⟨y, e, hy⟩ => ⟨ys ++ [y], by rw [hI, e, List.map_append]; rfl, by rw [List.length_append, hl]; rfl, fun z hz => ?_⟩, fun z => absurd trivial z⟩
  rcases List.mem_append.mp hz with z1 | z1
  · exact hS z z1
  · rw [List.mem_singleton] at z1; rw [z1]; exact hy
/-- [e for x in it], each e an out y with S y -/
theorem each {β : Type} (own : List (Str × Nat)) (sl : List Nat) (out : β → D) (S : β → Prop) {n : Nat} {item : Nat → D → Prop} {f : Bool} {N0 : List Str} {sc0 : Scope} (hi : DI X K cl tg iter γ f n item) (hn : n ≤ 100000)
    (ht : ∀ i d, i < n → item i d → PrT X K cl scope elt tg γ (own.map (·.2)) sl f d (fun e => ∃ y, e = out y ∧ S y)) (hh : ∀ m : List β, hom (m.map out)) (hsl : ∀ i ∈ sl, i ∈ own.map (·.2) := by decide)
    (hN0 : ∀ i, (X i).N = N0 := by intro _; rfl) (hsc : ∀ i, (X i).env.scope = sc0 := by intro _; rfl) (hb : blkC N0 sc0 scope own = true := by rfl)
    (hc : ∀ i, (X i).calm = true := by intro _; rfl) (hN : ∀ i, (X i).N.Nodup := by intro _; assumption) (hs : ∀ i x, foldedSetIterable iter (X i).env x = pure x := by intro _ _; rfl) :
    DE X K cl (.ListComp elt [⟨tg, iter, [], 0⟩] scope pos) γ mF (fun d => ∃ ys : List β, d = .lst (ys.map out) ∧ ys.length = n ∧ ∀ y ∈ ys, S y) :=
  de_lc (own := own) (sl := sl) _ hc hN (fun i => by rw [hN0 i, hsc i]; exact blkOk_by hb) hi hn ⟨[], rfl, rfl, by simp⟩ hsl (pr_turn ht) (fun i acc ⟨ys, h, _⟩ => by subst h; exact hh _) (fun acc ⟨ys, h, h2⟩ => ⟨ys, by rw [h], h2⟩) hs
theorem setE {β : Type} (j : Nat) (own : List (Str × Nat)) (sl : List Nat) (out : β → D) (S : β → Prop) {y : Str} {py spos : Pos} {n : Nat} {item : Nat → D → Prop} {f : Bool} {N0 : List Str} {sc0 : Scope} (hi : DI X K cl tg iter γ f n item) (hn : n ≤ 100000)
    (ht : ∀ i d, i < n → item i d → PrT X K cl scope elt tg γ (own.map (·.2)) sl f d (fun e => ∃ y, e = out y ∧ S y)) (hh : ∀ m : List β, hom (m.map out)) (he : ∀ ys : List β, ys.length = n → (∀ y ∈ ys, S y) → J.nx (γ.set j (.v true (.lst (ys.map out))))) (hsl : ∀ i ∈ sl, i ∈ own.map (·.2) := by decide)
    (hN0 : ∀ i, (X i).N = N0 := by intro _; rfl) (hsc : ∀ i, (X i).env.scope = sc0 := by intro _; rfl) (hb : blkC N0 sc0 scope own = true := by rfl)
    (hc : ∀ i, (X i).calm = true := by intro _; rfl) (hN : ∀ i, (X i).N.Nodup := by intro _; assumption) (hs : ∀ i x, foldedSetIterable iter (X i).env x = pure x := by intro _ _; rfl)
    (hy : ∀ i, (X i).N[j]? = some y := by intro _; rfl) (hyl : ∀ i, (X i).env.scope.names.lookup y = some .local := by intro _; rfl) (hj : j < γ.length := by exact of_decide_eq_true (by rfl))
    (hsw : ∀ i, swapsWith (.ListComp elt [⟨tg, iter, [], 0⟩] scope pos) (some (.Name y py)) spos.line (X i).env = pure true := by exact fun _ => L2.sw_true rfl rfl rfl (by decide +kernel)) : DS X K cl (.Assign [.Name y py] (.ListComp elt [⟨tg, iter, [], 0⟩] scope pos) spos) γ J :=
  ds_setLc (own := own) (sl := sl) _ hc hN hy hyl hsw (fun i => by rw [hN0 i, hsc i]; exact blkOk_by hb) hi hn ⟨[], rfl, rfl, by simp⟩ hsl (pr_turn ht) (fun i acc ⟨ys, h, _⟩ => by subst h; exact hh _) hs hj (fun acc ⟨ys, h, h2, h3⟩ => by subst h; exact he ys h2 h3)
/-- data == [] -/
theorem eqNil {j n : Nat} {ds : List D} (hr : ∀ i, Room j (X i).A) (ha : DE X K cl a γ ma (Is (.lst ds))) (hb : DE X K cl b γ mb (Is (.lst []))) (c1 : D.cmA n ds = true) (hn : n ≤ 50 := by decide) (hK : ∀ i, (X i).K = K := by intro _; rfl) :
    DTe X K cl (.Compare a [.Eq] [b] pos) γ (Tt (ds = [])) := (eqD (n := n + 1) (m := 1) hr ha hb (by simpa [D.cm] using c1) rfl (by omega) (by decide) hK).mono fun b hb => hb.trans ⟨fun h => by injection h, fun h => by rw [h]⟩
theorem neNil {j n : Nat} {ds : List D} (hr : ∀ i, Room j (X i).A) (ha : DE X K cl a γ ma (Is (.lst ds))) (hb : DE X K cl b γ mb (Is (.lst []))) (c1 : D.cmA n ds = true) (hn : n ≤ 50 := by decide) (hK : ∀ i, (X i).K = K := by intro _; rfl) :
    DTe X K cl (.Compare a [.NotEq] [b] pos) γ (Tt (ds ≠ [])) := (neD (n := n + 1) (m := 1) hr ha hb (by simpa [D.cm] using c1) rfl (by omega) (by decide) hK).mono fun b hb => hb.trans ⟨fun h z => h (by rw [z]), fun h z => h (by injection z)⟩
end
end DL

/-! DL8: xs.insert(i, y); x = xs.pop(i). -/
namespace DL
open PySem PySem.Spec PyProof.Rows L2
abbrev rInsert : V → List V → Hp → VK → Prop := fun x vs H Q => ∃ (l : Addr) (xs : List V) (i : Int) (y : V), x = .ref l ∧ vs = [.int i, y] ∧ H l = some (.lst xs) ∧ xs.length < sizeLine ∧ 0 ≤ i ∧ i < 2 ^ 63 ∧
    Q .non (upd H l (.lst (xs.take i.toNat ++ [y] ++ xs.drop i.toNat)))
section
variable {ι : Type} {X : ι → Cx} {K : PySem.W.Frag} {cl : Kd → Addr} {γ : List G} {e a b c : Expr} {es : List Expr} {pos : Pos} {md ma mb mc : Md} {P P' Pa Pb : D → Prop} {φ ψ : Prop} {J : Po}
theorem ow_set {σ : L2.St} {j : Nat} {ds es : List D} (hj : γ[j]? = some (.ow ds)) {p : Addr} (h : Ow σ (γ.set j (.ow es)) p) : Ow σ γ p := by
  obtain ⟨i, ds', h1, h2⟩ := h
  by_cases e : j = i
  · subst e; exact ⟨j, ds, hj, h2⟩
  · rw [List.getElem?_set_ne e] at h1; exact ⟨i, ds', h1, h2⟩
theorem DtA.ins {N : Addr → Prop} {H : Hp} {vs : List V} {ds : List D} {v : V} {d : D} (n : Nat) (h : DtA K cl N H vs ds) (h2 : Dt K cl N H v d) : DtA K cl N H (vs.take n ++ [v] ++ vs.drop n) (ds.take n ++ [d] ++ ds.drop n) :=
  ((h.take n).app (.one h2)).app (h.drop n)
theorem ds_ins {j : Nat} {x : Str} {px apos cpos : Pos} {ds : List D} {i : Int} (hx : ∀ i, (X i).N[j]? = some x) (hv : ∀ i, Vis (X i).env.scope x) (h1 : (x == ("__debug__" : Str)) = false) (h2 : (x == ("__classdict__" : Str)) = false) (hj : γ[j]? = some (.ow ds))
    (ha : DE X K cl a γ ma (Is (.int i))) (h : DE X K cl e γ md P) (hm : md.m = true) (ho : md.o = true) (hz : ds.length < 100000) (hi0 : 0 ≤ i) (hi1 : i < 2 ^ 63) (hp : ∀ d, P d → hom (ds.take i.toNat ++ [d] ++ ds.drop i.toNat) ∧ J.nx (γ.set j (.ow (ds.take i.toNat ++ [d] ++ ds.drop i.toNat))))
    (he : ∀ i, starEach [a, e] (X i).env = (false, eval a (X i).env) :: starEach [e] (X i).env) (he2 : ∀ i, starEach [e] (X i).env = (false, eval e (X i).env) :: starEach [] (X i).env)
    (hbm : ∀ i t t2, PE (X i) a t → PE (X i) e t2 → PE (X i) (.Call (.Attribute (.Name x px) "insert" apos) [a, e] [] cpos) (tBM K "list" rInsert (tVar j) (tCons t (tCons t2 tNil))))
    (hs : ∀ i, swapsWith (.Call (.Attribute (.Name x px) "insert" apos) [a, e] [] cpos) none pos.line (X i).env = pure false) : DS X K cl (.Expr (.Call (.Attribute (.Name x px) "insert" apos) [a, e] [] cpos) pos) γ J := by
  intro M H0 H σ E D q1 q2 q3 q4
  refine ⟨_, fun i => ps_expr (hbm i _ _ (peR i) (peR i)) (hs i), ?_⟩
  obtain ⟨p, vs, e1, e2, e3, e4, e5, e6⟩ := E.ow j ds hj
  refine ⟨_, e1, .inl ⟨rfl, _, SqL.of e4⟩, ha M H0 H σ E _ fun w H1 d1 k1 p1 r1 => ?_⟩
  subst p1
  obtain ⟨r1, _⟩ := r1
  cases r1
  refine h M H0 H1 σ (E.go k1) _ fun v H' d k p' r => ?_
  have k := k1.trans k
  have E1 := E.go k
  have e4' := k.st _ _ e4 (by rintro ⟨ws, z, y⟩; cases z; exact e5 y)
  have e6' := e6.tr (.kp k)
  refine ⟨p, vs, i, v, rfl, rfl, e4', Nat.lt_of_lt_of_le (by rw [e6.length]; exact hz) (by decide), hi0, hi1, ?_⟩
  have r6 : DtA K cl (SpN true M σ γ) H' (vs.take i.toNat ++ [v] ++ vs.drop i.toNat) (ds.take i.toNat ++ [d] ++ ds.drop i.toNat) := e6'.ins i.toNat (r.1.tr (.weak fun x hx => ?_))
  · exact q1 σ _ _ (E1.chg hj e1 e4' ((hp d p').1.nobox r6) r6) (hp d p').2
  · rcases hx with ⟨_, hx⟩ | hx
    · exact .inl ⟨hm, hx⟩
    · exact .inr ⟨ho, hx⟩
theorem DtA.erase' {N : Addr → Prop} {H : Hp} : ∀ {vs : List V} {ds : List D} (n : Nat), DtA K cl N H vs ds → DtA K cl N H (vs.eraseIdx n) (ds.eraseIdx n)
  | _, _, _, .nil => .nil
  | _, _, 0, .cons h r => r
  | _, _, n + 1, .cons h r => .cons h (DtA.erase' n r)
theorem DtA.at {N : Addr → Prop} {H : Hp} : ∀ {vs : List V} {ds : List D} {n : Nat} {d : D}, DtA K cl N H vs ds → ds[n]? = some d → ∃ v, vs[n]? = some v ∧ Dt K cl N H v d
  | _, _, 0, _, .cons h r, e => by cases e; exact ⟨_, rfl, h⟩
  | _, _, n + 1, _, .cons h r, e => by
    obtain ⟨v, h1, h2⟩ := DtA.at (n := n) r (by simpa using e)
    exact ⟨v, by simpa using h1, h2⟩
theorem ds_pop {j j2 : Nat} {x y : Str} {px py apos cpos : Pos} {ds : List D} {q : Int → Prop} (hN : ∀ i, (X i).N.Nodup) (hx : ∀ i, (X i).N[j]? = some x) (hv : ∀ i, Vis (X i).env.scope x) (h1 : (x == ("__debug__" : Str)) = false) (h2 : (x == ("__classdict__" : Str)) = false) (hj : γ[j]? = some (.ow ds)) (hj2 : j2 < γ.length)
    (hy : ∀ i, (X i).N[j2]? = some y) (hl : ∀ i, Loc (X i).env.scope y) (hf : ∀ i, (X i).fn y = true ∨ (X i).env.scope.names.lookup y = some .local)
    (ha : DE X K cl a γ ma (IsI q)) (hp : ∀ i, q i → ∃ k d, seqIndex? i ds.length = some k ∧ -(2 ^ 63) ≤ i ∧ i < 2 ^ 63 ∧ ds[k]? = some d ∧ hom (ds.eraseIdx k) ∧ J.nx ((γ.set j (.ow (ds.eraseIdx k))).set j2 (.v true d)))
    (hbm : ∀ i t, PE (X i) a t → PE (X i) (.Call (.Attribute (.Name x px) "pop" apos) [a] [] cpos) (tBM K "list" rPopAt (tVar j) (tCons t tNil)))
    (hs : ∀ i, swapsWith (.Call (.Attribute (.Name x px) "pop" apos) [a] [] cpos) (some (.Name y py)) pos.line (X i).env = pure false) : DS X K cl (.Assign [.Name y py] (.Call (.Attribute (.Name x px) "pop" apos) [a] [] cpos) pos) γ J := by
  intro M H0 H σ E D q1 q2 q3 q4
  refine ⟨_, fun i => ps_set (hN i) (hy i) (hl i) (hbm i _ (peR i)) (hs i) (hf i), ?_⟩
  obtain ⟨p, vs, e1, e2, e3, e4, e5, e6⟩ := E.ow j ds hj
  refine ⟨_, e1, .inl ⟨rfl, _, SqL.of e4⟩, ha M H0 H σ E _ fun w H1 d1 k p1 r1 => ?_⟩
  obtain ⟨i, rfl, hq⟩ := p1
  obtain ⟨r1, _⟩ := r1
  cases r1
  obtain ⟨m, d, z1, z2, z3, z4, z5, z6⟩ := hp i hq
  have E1 := E.go k
  have e4' := k.st _ _ e4 (by rintro ⟨ws, z, y⟩; cases z; exact e5 y)
  have e6' := e6.tr (.kp k)
  obtain ⟨v, g1, g2⟩ := e6'.at z4
  have owp : Ow σ γ p := ⟨j, ds, hj, e1⟩
  refine ⟨p, vs, i, m, v, rfl, rfl, e4', z2, z3, by rw [e6.length]; exact z1, g1, ?_⟩
  have r6 := e6'.erase' m
  have E2 := E1.chg hj e1 e4' (z5.nobox r6) r6
  refine q1 _ _ _ (E2.set_v (md := mS) (by rw [List.length_set]; exact hj2) ((g2.tr (.chg (.inr owp) e4')).tr (.weak fun x hx => ?_)) rfl) z6
  rcases hx with ⟨_, hx⟩ | ⟨_, hx⟩
  · exact .inl ⟨rfl, hx⟩
  · exact .inr (ow_set hj hx)
/-- xs.insert(i, y) -/
theorem ins (j : Nat) {x : Str} {px apos cpos : Pos} {ds : List D} {i : Int} (ha : DE X K cl a γ ma (Is (.int i))) (h : DE X K cl e γ md P) (hz : ds.length < 100000) (hi0 : 0 ≤ i) (hi1 : i < 2 ^ 63) (hp : ∀ d, P d → hom (ds.take i.toNat ++ [d] ++ ds.drop i.toNat) ∧ J.nx (γ.set j (.ow (ds.take i.toNat ++ [d] ++ ds.drop i.toNat))))
    (hm : md.m = true := by rfl) (ho : md.o = true := by rfl) (hj : γ[j]? = some (.ow ds) := by rfl) (hx : ∀ i, (X i).N[j]? = some x := by intro _; rfl) (hv : ∀ i, Vis (X i).env.scope x := by intro _; first | exact Or.inl rfl | exact Or.inr (Or.inl rfl) | exact Or.inr (Or.inr rfl)) (h1 : (x == ("__debug__" : Str)) = false := by decide +kernel) (h2 : (x == ("__classdict__" : Str)) = false := by decide +kernel)
    (he : ∀ i, starEach [a, e] (X i).env = (false, eval a (X i).env) :: starEach [e] (X i).env := by intro _; rfl) (he2 : ∀ i, starEach [e] (X i).env = (false, eval e (X i).env) :: starEach [] (X i).env := by intro _; rfl)
    (hbm : ∀ i t t2, PE (X i) a t → PE (X i) e t2 → PE (X i) (.Call (.Attribute (.Name x px) "insert" apos) [a, e] [] cpos) (tBM K "list" rInsert (tVar j) (tCons t (tCons t2 tNil))) := by exact fun _ _ _ h h' => pe_bm PySem.F.plainAttrs_list PySem.F.slot_list_insert PySem.F.type_list_insert mt_insert (pv _) (pa_cons h (pa_cons h' pa_nil)))
    (hs : ∀ i, swapsWith (.Call (.Attribute (.Name x px) "insert" apos) [a, e] [] cpos) none pos.line (X i).env = pure false := by intro _; rfl) : DS X K cl (.Expr (.Call (.Attribute (.Name x px) "insert" apos) [a, e] [] cpos) pos) γ J :=
  ds_ins hx hv h1 h2 hj ha h hm ho hz hi0 hi1 hp he he2 hbm hs
/-- y = xs.pop(i) -/
theorem pop (j j2 : Nat) {x y : Str} {px py apos cpos : Pos} {ds : List D} {q : Int → Prop} (ha : DE X K cl a γ ma (IsI q)) (hp : ∀ i, q i → ∃ k d, seqIndex? i ds.length = some k ∧ -(2 ^ 63) ≤ i ∧ i < 2 ^ 63 ∧ ds[k]? = some d ∧ hom (ds.eraseIdx k) ∧ J.nx ((γ.set j (.ow (ds.eraseIdx k))).set j2 (.v true d)))
    (hj : γ[j]? = some (.ow ds) := by rfl) (hj2 : j2 < γ.length := by exact of_decide_eq_true (by rfl)) (hN : ∀ i, (X i).N.Nodup := by intro _; assumption) (hx : ∀ i, (X i).N[j]? = some x := by intro _; rfl) (hv : ∀ i, Vis (X i).env.scope x := by intro _; first | exact Or.inl rfl | exact Or.inr (Or.inl rfl) | exact Or.inr (Or.inr rfl)) (h1 : (x == ("__debug__" : Str)) = false := by decide +kernel) (h2 : (x == ("__classdict__" : Str)) = false := by decide +kernel)
    (hy : ∀ i, (X i).N[j2]? = some y := by intro _; rfl) (hl : ∀ i, Loc (X i).env.scope y := by intro _; first | exact Or.inl rfl | exact Or.inr rfl) (hf : ∀ i, (X i).fn y = true ∨ (X i).env.scope.names.lookup y = some .local := by intro _; first | exact Or.inl rfl | exact Or.inr rfl)
    (hbm : ∀ i t, PE (X i) a t → PE (X i) (.Call (.Attribute (.Name x px) "pop" apos) [a] [] cpos) (tBM K "list" rPopAt (tVar j) (tCons t tNil)) := by exact fun _ _ h => pe_bm PySem.F.plainAttrs_list PySem.F.slot_list_pop PySem.F.type_list_pop mt_popAt (pv _) (pa_cons h pa_nil))
    (hs : ∀ i, swapsWith (.Call (.Attribute (.Name x px) "pop" apos) [a] [] cpos) (some (.Name y py)) pos.line (X i).env = pure false := by intro _; rfl) : DS X K cl (.Assign [.Name y py] (.Call (.Attribute (.Name x px) "pop" apos) [a] [] cpos) pos) γ J :=
  ds_pop hN hx hv h1 h2 hj hj2 hy hl hf ha hp hbm hs
end
end DL

/-! DL9: iterators and lists known by a property alone. -/
namespace DL
open PySem PySem.Spec PyProof.Rows L2
/-- as EvI; how many items and which: any with C -/
def EvIP (K : PySem.W.Frag) (cl : Kd → Addr) (wi : TI) (γ : List G) (b : Bool) (C : Nat → (Nat → D → Prop) → Prop) : Prop := ∀ M H0 H σ, EO K cl M H0 H σ γ → ∀ R : It → Hp → Prop,
  (∀ (n : Nat) (item : Nat → D → Prop), C n item → ∀ (J : It) (H' : Hp) (Gd : Hp → Prop) (Y : Nat → Hp → V → Hp → Prop), Kp H H' → Walk J n Gd Y → (∀ H1, Kp (hide (Ow σ γ) H') H1 → Gd H1) →
    (∀ i H1 x H1', i < n → Kp (hide (Ow σ γ) H') H1 → Y i H1 x H1' → Kp H1 H1' ∧ ∃ d, item i d ∧ Dt K cl (fun p => (b = true ∧ M p) ∨ hide (Ow σ γ) H' p = none) H1' x d) → R J H') → wi σ H R
section
variable {K : PySem.W.Frag} {cl : Kd → Addr} {M : Addr → Prop} {H0 H H1 H' : Hp} {σ : L2.St} {γ : List G}
theorem ev_lcP {wi : TI} {g : TG} {tt : TT} {te : TE} {vs sl : List Nat} {f : Bool} {C : Nat → (Nat → D → Prop) → Prop} {P : D → Prop} (I : Nat → List D → Prop) (hi : EvIP K cl wi γ f C) (hn : ∀ n item, C n item → n ≤ 100000) (h0 : I 0 []) (hsl : ∀ i ∈ sl, i ∈ vs)
    (hb : ∀ n item, C n item → ∀ i acc d, i < n → I i acc → item i d → EvG K cl g (wipeG (γ.map unown) vs) f d sl (fun γ'' => ∃ φ, EvT K cl tt γ'' (Tt φ) ∧ (φ → EvX K cl te γ'' mS (fun e => I (i + 1) (acc ++ [e]))) ∧ (¬ φ → I (i + 1) acc)))
    (hh : ∀ i acc, I i acc → hom acc) (he : ∀ n item acc, C n item → I n acc → P (.lst acc)) : EvX K cl (tLc wi g tt te vs) γ mF P := by
  intro M H0 H σ E Q q
  refine hi M H0 H σ E _ fun n item hC J Hb Gd Y k w gd it => fun D hD => ?_
  have hn := hn n item hC
  have E1 := E.go k
  refine lc_it w (Qd := fun H => Q (.ref D) H) (fun i H1 => ∃ acc ds, H1 D = some (.lst acc) ∧ DtA K cl (fun p => M p ∨ Ow σ γ p ∨ p = D) H1 acc ds ∧ I i ds ∧ ds.length ≤ i ∧ Kp Hb H1)
    ⟨[], [], upd_same, .nil, h0, Nat.le_refl _, Kp.new hD⟩ (fun i H1 _ ⟨_, _, _, _, _, _, k1⟩ => gd H1 (kp_hide0.trans k1)) (fun i x H1 H1' hi' ⟨acc, ds, eD, rA, hI, hlen, k1⟩ y => ?_) (fun H1 ⟨acc, ds, eD, rA, hI, hlen, k1⟩ => ?_)
  · obtain ⟨k2, d, hd, r⟩ := it i H1 x H1' hi' (kp_hide0.trans k1) y
    have hDn : H1' D ≠ none := k2.dm D (by rw [eD]; intro z; cases z)
    have EC := E1.comp (vs := vs) hD (k1.trans k2) hDn
    refine hb n item hC i ds d hi' hI hd _ H0 H1' _ x EC (r.tr (.weak fun p hp => ?_)) _ fun σ2 H2 γ2 E2 k3 hl2 hs2 ⟨φ, ht, h1, h2⟩ => ⟨?_, ht _ H0 H2 σ2 E2 _ fun b H3 k4 hb' => ?_⟩
    · rcases hp with ⟨h1, h2⟩ | ⟨_, h2⟩
      · rcases h2 with h2 | h2 | h2
        · exact .inl ⟨h1, h2⟩
        · exact .inr (hide_at h2)
        · right
          rw [h2]
          cases e : hide (Ow σ γ) Hb D with
          | none => rfl
          | some o => rw [(of_hide e).2] at hD; cases hD
      · exact absurd h2 (no_ow p)
    · have e1 := wipe_ext (σ := wipe σ vs) (σ' := σ2) (vs := vs) hl2 (fun i hi => hs2 i fun z => hi (hsl i z))
      rw [e1]
      refine wipe_ext (wipe_length σ vs) fun i hi => wipe_out hi
    · have nb := (hh i ds hI).nobox rA
      have keepD : ∀ {Hx : Hp}, Kp H1 Hx → Hx D = some (.lst acc) := fun kx => kx.st D _ eD (by rintro ⟨ws, z, y⟩; cases z; exact nb y)
      by_cases z : b = true
      · rw [if_pos z]
        refine h1 (hb'.mp z) _ H0 H3 σ2 (E2.go k4) _ fun y H4 e k5 pe re => ?_
        have kk := ((k2.trans k3).trans k4).trans k5
        have eD4 := keepD kk
        refine ⟨acc, eD4, Nat.lt_of_lt_of_le (show acc.length < 100000 by rw [rA.length]; omega) (by decide), acc ++ [y], ds ++ [e], upd_same, ?_, pe, by rw [List.length_append, List.length_singleton]; omega, (k1.trans kk).mut hD⟩
        have r6 : DtA K cl (fun p => M p ∨ Ow σ γ p ∨ p = D) H4 (acc ++ [y]) (ds ++ [e]) := (rA.tr (.kp kk)).app (.one (re.1.tr (.weak fun p hp => .inl ⟨rfl, hp⟩)))
        exact r6.tr (.chg (.inr (.inr rfl)) eD4)
      · rw [if_neg z]
        have kk := (k2.trans k3).trans k4
        exact ⟨acc, ds, keepD kk, rA.tr (.kp kk), h2 (fun y => z (hb'.mpr y)), by omega, k1.trans kk⟩
  · refine q _ H1 _ (k.trans k1) (he n item ds hC hI) ⟨.lst eD (rn_apart (md := mF) E1 hD) ((hh n ds hI).nobox rA) (rA.tr (.weak fun p hp => ?_)), fun _ _ _ => ⟨D, rfl, k.back hD⟩⟩
    rcases hp with ⟨_, hp⟩ | ⟨_, hp⟩
    · exact .inl hp
    · exact .inr (.inl hp)

end
section
variable {ι : Type} {X : ι → Cx} {K : PySem.W.Frag} {cl : Kd → Addr} {γ : List G} {e a b c iter tg elt : Expr} {es ifs : List Expr} {st : Stmt} {sts sts2 : List Stmt} {pos : Pos} {md ma mb mc : Md} {P P' Pa Pb : D → Prop} {φ ψ : Prop} {J : Po} {W : Wd} {scope : Scope}
abbrev DIP (X : ι → Cx) (K : PySem.W.Frag) (cl : Kd → Addr) (tg e : Expr) (γ : List G) (b : Bool) (C : Nat → (Nat → D → Prop) → Prop) : Prop := EvIP K cl (rI X tg e) γ b C
theorem ds_forP {f : Bool} {C : Nat → (Nat → D → Prop) → Prop} {sl : List Nat} (I : Nat → (Nat → D → Prop) → Nat → List G → Prop) (hpo : ∀ i, PassesOwn (model (X i).prog (X i).w) (X i).A (X i).env (X i).xe) (hc : ∀ i, (X i).calm = true) (hi : EvIP K cl (rI X tg iter) γ f C)
    (h0 : ∀ n item, C n item → I n item 0 γ) (ht : ∀ n item, C n item → ∀ i γ' d, i < n → I n item i γ' → item i d → DG X K cl tg γ' f d sl (fun γ'' => DSs X K cl sts γ'' ⟨I n item (i + 1), J.rt, J.nx, I n item (i + 1)⟩)) (hend : ∀ n item, C n item → ∀ γ', I n item n γ' → J.nx γ')
    (hs : ∀ i x, foldedSetIterable iter (X i).env x = pure x) : DS X K cl (.For tg iter sts [] pos) γ J := by
  intro M H0 H σ E D q1 q2 q3 q4
  refine ⟨_, fun i => ps_for (hpo i) (hc i) (piR i) (pgR i) (pssR i) (hs i), hi M H0 H σ E _ fun n item hC Jt H' Gd Y k w gd it => ?_⟩
  have h0 := h0 n item hC
  have ht := ht n item hC
  have hend := hend n item hC
  have E1 := E.go k
  have kh := E1.kph
  refine for_it w (fun i σ1 H1 => ∃ γ', I n item i γ' ∧ EO K cl M (hide (Ow σ γ) H') H1 σ1 γ') ⟨γ, h0, E1.hide⟩ (fun i σ1 H1 hi' ⟨γ', _, E'⟩ => gd H1 E'.kp) (fun i x σ1 H1 H1' hi' ⟨γ', hI, E'⟩ y => ?_) (fun σ1 H1 ⟨γ', hI, E'⟩ => q1 σ1 H1 γ' (E'.base kh) (hend γ' hI))
  obtain ⟨k1, d, hd, r⟩ := it i H1 x H1' hi' E'.kp y
  refine ht i γ' d hi' hI hd M _ H1' σ1 x (E'.go k1) (r.tr (.weak fun p hp => ?_)) _ fun σ2 H2 γ2 E2 k2 _ _ hb => ?_
  · rcases hp with hp | ⟨_, hp⟩
    · exact .inl hp
    · exact .inr (E'.own hp).1
  · refine hb M _ H2 σ2 E2 _ (fun σ3 H3 γ3 E3 p3 => ⟨γ3, p3, E3⟩) (fun σ3 H3 γ3 E3 p3 => q1 σ3 H3 γ3 (E3.base kh) p3) (fun σ3 H3 γ3 E3 p3 => ⟨γ3, p3, E3⟩) (fun v H3 d3 k3 p3 r3 => q4 v H3 d3 (kh.trans k3) p3 r3)

/-- a list of out y with S y, at most n -/
abbrev LP {β : Type} (out : β → D) (S : β → Prop) (n : Nat) : D → Prop := fun d => ∃ ys : List β, d = .lst (ys.map out) ∧ ys.length ≤ n ∧ ∀ y ∈ ys, S y
/-- items of such a list -/
abbrev LC {β : Type} (out : β → D) (S : β → Prop) (N : Nat) : Nat → (Nat → D → Prop) → Prop := fun n item => n ≤ N ∧ ∀ i d, i < n → item i d → ∃ y, d = out y ∧ S y
theorem dip_list {β : Type} {out : β → D} {S : β → Prop} {N : Nat} (h : DE X K cl e γ md (LP out S N)) (ho : md.o = true := by rfl) (hK : ∀ i, (X i).K = K := by intro _; rfl) : DIP X K cl tg e γ md.m (LC out S N) := by
  intro M H0 H σ E R q
  refine ⟨iList K (rE X e), fun i => by rw [← hK i]; exact pi_list (peR i), h M H0 H σ E _ fun v H' d k p r => ?_⟩
  obtain ⟨ys, rfl, hl, hS⟩ := p
  have E1 := E.go k
  have r1 := r.1.tr (Tr.hid E1 ho rfl)
  cases r.1 with
  | lst x1 x2 x3 x4 =>
    cases r1 with
    | lst y1 y2 y3 y4 =>
      obtain rfl : _ = _ := HO.lst.inj (Option.some.inj ((of_hide y1).2.symm.trans x1))
      refine ⟨_, rfl, ⟨_, SqL.of x1⟩, q (ys.map out).length (fun i d => (ys.map out)[i]? = some d) ⟨by rw [List.length_map]; exact hl, fun i d _ hd => ?_⟩ _ H' (fun H1 => SqL K H1 _ _) _ k (by rw [← x4.length]; exact walk_list) (fun H1 k1 => SqL.of (k1.st _ _ y1 (by rintro ⟨ws, z, y⟩; cases z; exact x3 y))) fun i H1 x H1' hi k1 y => ?_⟩
      · have hd : (ys.map out)[i]? = some d := hd
        rw [List.getElem?_map] at hd
        cases e : ys[i]? with
        | none => rw [e] at hd; cases hd
        | some y => rw [e] at hd; exact ⟨y, (Option.some.inj hd).symm, hS y (List.mem_of_getElem? e)⟩
      obtain ⟨rfl, hx⟩ := y
      obtain ⟨d, h1, h2⟩ := y4.get' hx
      exact ⟨Kp.refl _, d, h1, h2.tr (.kp k1)⟩
theorem dip_range {N : Nat} {p : Pos} (B : Bn W) (h : DE X W.K W.cl e γ md (IsI (fun n => 0 ≤ n ∧ n ≤ N))) (h0 : N ≤ 16777216) (hX : ∀ i, W.at (X i) := by intro _; exact ⟨rfl, rfl, rfl, rfl, rfl, rfl⟩) (hg : ∀ i, Gl (X i) "range" := by intro _; rfl) (he : ∀ i, starEach [e] (X i).env = [(false, eval e (X i).env)] := by intro _; rfl)
    (hpa : ∀ i, starEach [e] (X i).env = (false, eval e (X i).env) :: starEach [] (X i).env := by intro _; rfl) : DIP X W.K W.cl tg (.Call (.Name "range" p) [e] [] pos) γ true (fun n item => n ≤ N ∧ ∀ i d, i < n → item i d → d = .int i) := by
  intro M H0 H σ E R q
  refine ⟨iRng1 (rA X [e]), fun i => ?_, ?_⟩
  · obtain ⟨g1, g2, g3, g4, g5, g6⟩ := hX i
    exact pi_range1 (hg i) (by rw [g4]; exact B.range) (paR i) (he i)
  · refine (da_cons h da_nil hpa) M H0 H σ E _ fun vs H1 ds1 k1 ⟨d, r, e1, ⟨n, e2, e4, e5⟩, e3⟩ r1 => ?_
    subst e1 e2 e3
    cases r1 with
    | cons t1 t2 =>
      cases t2
      cases t1
      refine ⟨n, rfl, by omega, by omega, q n.toNat (fun i d => d = .int i) ⟨by omega, fun i d _ h => h⟩ _ H1 (fun _ => True) _ k1 walk_range (fun _ _ => trivial) fun i H2 x H2' hi k2 y => ?_⟩
      obtain ⟨rfl, rfl⟩ := y
      refine ⟨Kp.refl _, .int i, rfl, ?_⟩
      show Dt W.K W.cl _ _ (V.int (0 + (i : Int))) (.int i)
      rw [Int.zero_add]
      exact .int _
/-- [elt for tg in it if ..], each an out y with S y -/
theorem eachP {β : Type} (own : List (Str × Nat)) (sl : List Nat) (out : β → D) (S : β → Prop) (N : Nat) {C : Nat → (Nat → D → Prop) → Prop} {f : Bool} {N0 : List Str} {sc0 : Scope} (hi : DIP X K cl tg iter γ f C) (hn : N ≤ 100000)
    (ht : ∀ n item, C n item → n ≤ N ∧ ∀ i d, i < n → item i d → DG (blkX X scope) K cl tg (wipeG (γ.map unown) (own.map (·.2))) f d sl (fun γ'' => ∃ φ, DTs (blkX X scope) K cl ifs γ'' (Tt φ) ∧ (φ → DE (blkX X scope) K cl elt γ'' mS (fun e => ∃ y, e = out y ∧ S y)))) (hh : ∀ m : List β, hom (m.map out)) (hsl : ∀ i ∈ sl, i ∈ own.map (·.2) := by decide)
    (hN0 : ∀ i, (X i).N = N0 := by intro _; rfl) (hsc : ∀ i, (X i).env.scope = sc0 := by intro _; rfl) (hb : blkC N0 sc0 scope own = true := by rfl)
    (hc : ∀ i, (X i).calm = true := by intro _; rfl) (hN : ∀ i, (X i).N.Nodup := by intro _; assumption) (hs : ∀ i x, foldedSetIterable iter (X i).env x = pure x := by intro _ _; rfl) :
    DE X K cl (.ListComp elt [⟨tg, iter, ifs, 0⟩] scope pos) γ mF (LP out S N) :=
  fun M H0 H σ E Q q => ⟨_, fun i => pe_lc (hc i) (hN i) (piR i) (by rw [hN0 i, hsc i]; exact blkOk_by hb) (fun s H C cl fp => pgR (X := blkX X scope) (i, s, H, C, cl, fp)) (fun s H C cl fp => ptsR (X := blkX X scope) (i, s, H, C, cl, fp)) (fun s H C cl fp => peR (X := blkX X scope) (i, s, H, C, cl, fp)) (hs i),
    ev_lcP (P := LP out S N) (fun i acc => ∃ ys : List β, acc = ys.map out ∧ ys.length ≤ i ∧ ∀ y ∈ ys, S y) hi (fun n item hC => Nat.le_trans (ht n item hC).1 hn) ⟨[], rfl, Nat.le_refl _, by simp⟩ hsl
      (fun n item hC i acc d hi' ⟨ys, hI, hl, hS⟩ hd => DG.mono ((ht n item hC).2 i d hi' hd) fun g ⟨φ, h1, h2⟩ => ⟨φ, h1, fun z => (h2 z).mono fun d ⟨y, e, hy⟩ => ⟨ys ++ [y], by rw [hI, e, List.map_append]; rfl, by rw [List.length_append, List.length_singleton]; omega, fun z hz => by
        rcases List.mem_append.mp hz with z1 | z1
        · exact hS z z1
        · rw [List.mem_singleton] at z1; rw [z1]; exact hy⟩, fun z => ⟨ys, hI, by omega, hS⟩⟩)
      (fun i acc ⟨ys, h, _⟩ => by subst h; exact hh _) (fun n item acc hC ⟨ys, h, h2, h3⟩ => ⟨ys, by rw [h], Nat.le_trans h2 (ht n item hC).1, h3⟩) M H0 H σ E Q q⟩
theorem setP {β : Type} (j : Nat) (own : List (Str × Nat)) (sl : List Nat) (out : β → D) (S : β → Prop) (N : Nat) {y : Str} {py spos : Pos} {C : Nat → (Nat → D → Prop) → Prop} {f : Bool} {N0 : List Str} {sc0 : Scope} (hi : DIP X K cl tg iter γ f C) (hn : N ≤ 100000)
    (ht : ∀ n item, C n item → n ≤ N ∧ ∀ i d, i < n → item i d → DG (blkX X scope) K cl tg (wipeG (γ.map unown) (own.map (·.2))) f d sl (fun γ'' => ∃ φ, DTs (blkX X scope) K cl ifs γ'' (Tt φ) ∧ (φ → DE (blkX X scope) K cl elt γ'' mS (fun e => ∃ y, e = out y ∧ S y)))) (hh : ∀ m : List β, hom (m.map out)) (he : ∀ ys : List β, ys.length ≤ N → (∀ y ∈ ys, S y) → J.nx (γ.set j (.v true (.lst (ys.map out))))) (hsl : ∀ i ∈ sl, i ∈ own.map (·.2) := by decide)
    (hN0 : ∀ i, (X i).N = N0 := by intro _; rfl) (hsc : ∀ i, (X i).env.scope = sc0 := by intro _; rfl) (hb : blkC N0 sc0 scope own = true := by rfl)
    (hc : ∀ i, (X i).calm = true := by intro _; rfl) (hN : ∀ i, (X i).N.Nodup := by intro _; assumption) (hs : ∀ i x, foldedSetIterable iter (X i).env x = pure x := by intro _ _; rfl)
    (hy : ∀ i, (X i).N[j]? = some y := by intro _; rfl) (hyl : ∀ i, (X i).env.scope.names.lookup y = some .local := by intro _; rfl) (hj : j < γ.length := by exact of_decide_eq_true (by rfl))
    (hsw : ∀ i, swapsWith (.ListComp elt [⟨tg, iter, ifs, 0⟩] scope pos) (some (.Name y py)) spos.line (X i).env = pure true := by exact fun _ => L2.sw_true rfl rfl rfl (by decide +kernel)) : DS X K cl (.Assign [.Name y py] (.ListComp elt [⟨tg, iter, ifs, 0⟩] scope pos) spos) γ J :=
  fun M H0 H σ E D q1 q2 q3 q4 => ⟨_, fun i => ps_setLc (hc i) (hN i) (hy i) (hyl i) (hsw i) (piR i) (by rw [hN0 i, hsc i]; exact blkOk_by hb) (fun s H C cl fp => pgR (X := blkX X scope) (i, s, H, C, cl, fp)) (fun s H C cl fp => ptsR (X := blkX X scope) (i, s, H, C, cl, fp)) (fun s H C cl fp => peR (X := blkX X scope) (i, s, H, C, cl, fp)) (hs i),
    ev_lcP (P := LP out S N) (fun i acc => ∃ ys : List β, acc = ys.map out ∧ ys.length ≤ i ∧ ∀ y ∈ ys, S y) hi (fun n item hC => Nat.le_trans (ht n item hC).1 hn) ⟨[], rfl, Nat.le_refl _, by simp⟩ hsl
      (fun n item hC i acc d hi' ⟨ys, hI, hl, hS⟩ hd => DG.mono ((ht n item hC).2 i d hi' hd) fun g ⟨φ, h1, h2⟩ => ⟨φ, h1, fun z => (h2 z).mono fun d ⟨y, e, hy⟩ => ⟨ys ++ [y], by rw [hI, e, List.map_append]; rfl, by rw [List.length_append, List.length_singleton]; omega, fun z hz => by
        rcases List.mem_append.mp hz with z1 | z1
        · exact hS z z1
        · rw [List.mem_singleton] at z1; rw [z1]; exact hy⟩, fun z => ⟨ys, hI, by omega, hS⟩⟩)
      (fun i acc ⟨ys, h, _⟩ => by subst h; exact hh _) (fun n item acc hC ⟨ys, h, h2, h3⟩ => ⟨ys, by rw [h], Nat.le_trans h2 (ht n item hC).1, h3⟩) M H0 H σ E _ fun v H' d k ⟨acc, e, p1, p2⟩ r => by
        subst e
        exact q1 _ H' _ ((E.go k).set_v (md := mF) hj r.1 rfl) (he acc p1 p2)⟩
/-- tuple(a), known by a property -/
theorem tupleP {p : Pos} (B : Bn W) (ha : DE X W.K W.cl a γ ma P) (hs : ∀ s, P s → ∃ ds, Sq s ds ∧ P' (.tup ds)) (hX : ∀ i, W.at (X i) := by intro _; exact ⟨rfl, rfl, rfl, rfl, rfl, rfl⟩) (hg : ∀ i, Gl (X i) "tuple" := by intro _; rfl)
    (he : ∀ i, starEach [a] (X i).env = (false, eval a (X i).env) :: starEach [] (X i).env := by intro _; rfl) (hpl : ∀ i, (backTo pos (starEach [] (X i).env)).any (·.1) = false := by intro _; rfl) : DE X W.K W.cl (.Call (.Name "tuple" p) [a] [] pos) γ ⟨ma.m, ma.o, false⟩ P' := by
  intro M H0 H σ E Q q
  refine ⟨tCB (fun xs H Q => ∃ p ys, xs = [.ref p] ∧ ((SqL W.K H p ys ∧ ∀ l, H l = none → Q (.ref l) (upd H l (.tup ys))) ∨ (SqT W.K H p ys ∧ Q (.ref p) H))) (rA X [a]), fun i => ?_, ?_⟩
  · obtain ⟨h1, h2, h3, h4, h5, h6⟩ := hX i
    rw [← h3]
    exact pe_callTy call_tuple_of (hg i) (by rw [h4]; exact B.tuple) PyProof.Rows.boot_tuple (paR i) (by decide +kernel) (by decide +kernel) (he i) (hpl i)
  · refine (da_cons ha da_nil he) M H0 H σ E _ fun vs H1 ds1 k1 ⟨d, r, e1, e2, e3⟩ r1 => ?_
    obtain ⟨ds, hs, hp⟩ := hs d e2
    subst e1 e3
    cases r1 with
    | cons t1 t2 =>
      cases t2
      cases hs with
      | l =>
        cases t1 with
        | lst x1 x2 x3 x4 => exact ⟨_, _, rfl, .inl ⟨SqL.of x1, fun l hl => q _ _ _ (k1.trans (Kp.new hl)) hp ⟨.tup (SqT.of upd_same) (x4.tr (.kp (Kp.new hl))), (fun z => nomatch z)⟩⟩⟩
      | t =>
        cases t1 with
        | tup x1 x4 => exact ⟨_, _, rfl, .inr ⟨x1, q _ _ _ k1 hp ⟨.tup x1 x4, (fun z => nomatch z)⟩⟩⟩
theorem sortedP {S : Int → Prop} {N : Nat} {p : Pos} (B : Bn W) (ha : DE X W.K W.cl a γ ma (LP D.int S N)) (hX : ∀ i, W.at (X i) := by intro _; exact ⟨rfl, rfl, rfl, rfl, rfl, rfl⟩) (hg : ∀ i, Gl (X i) "sorted" := by intro _; rfl)
    (he : ∀ i, starEach [a] (X i).env = (false, eval a (X i).env) :: starEach [] (X i).env := by intro _; rfl) (hpl : ∀ i, (backTo pos (starEach [] (X i).env)).any (·.1) = false := by intro _; rfl) :
    DE X W.K W.cl (.Call (.Name "sorted" p) [a] [] pos) γ mF (LP D.int S N) := by
  intro M H0 H σ E Q q
  refine ⟨tCB (rSortedI W.K) (rA X [a]), fun i => ?_, ?_⟩
  · obtain ⟨h1, h2, h3, h4, h5, h6⟩ := hX i
    rw [← h3]
    exact pe_callB cr_sortedI (hg i) (by rw [h4]; exact B.sorted) PyProof.Rows.boot_sorted (paR i) (by decide +kernel) (by decide +kernel) (he i) (hpl i)
  · refine (da_cons ha da_nil he) M H0 H σ E _ fun vs H1 ds1 k1 ⟨d, r, e1, ⟨ns, e2, e4, e5⟩, e3⟩ r1 => ?_
    subst e1 e2 e3
    cases r1 with
    | cons t1 t2 =>
      cases t2
      cases t1 with
      | lst x1 x2 x3 x4 =>
        obtain rfl := x4.of_ints
        refine ⟨_, ns, rfl, SqL.of x1, fun ms l h1 h2 hl => ?_⟩
        exact q _ _ _ (k1.trans (Kp.new hl)) ⟨ms, rfl, by rw [h1.length_eq]; exact e4, fun y hy => e5 y (h1.mem_iff.mp hy)⟩ ⟨.lst upd_same (rn_apart (md := mF) (E.go k1) hl) (not_boxV_ints ms) (DtA.ints ms), fun _ _ _ => ⟨l, rfl, k1.back hl⟩⟩
theorem cut_map {β : Type} (out : β → D) (ys : List β) (i j : Option Int) : ∃ zs : List β, cutD (ys.map out) i j = zs.map out ∧ zs.length ≤ ys.length ∧ ∀ z ∈ zs, z ∈ ys := by
  refine ⟨(ys.drop (HT.sIx (ys.map out).length 0 i)).take (HT.sIx (ys.map out).length (ys.map out).length j - HT.sIx (ys.map out).length 0 i), by unfold cutD; rw [List.map_take, List.map_drop], ?_, fun z hz => List.mem_of_mem_drop (List.mem_of_mem_take hz)⟩
  rw [List.length_take, List.length_drop]; omega
/-- a[:b] -/
theorem sliceP {β : Type} {out : β → D} {S : β → Prop} {N : Nat} {p2 : Pos} (ha : DE X K cl a γ ma (LP out S N)) (hb : DE X K cl b γ mb (IsI (fun _ => True))) (hm : ∀ zs : List β, hom (zs.map out)) (hK : ∀ i, (X i).K = K := by intro _; rfl) :
    DE X K cl (.Subscript a (.Slice none (some b) none p2) pos) γ ⟨ma.m, ma.o, true⟩ (LP out S N) := by
  intro M H0 H σ E Q q
  refine ⟨L2.tSl (rSlL K) (rE X a) tNoPart (tPart (rE X b)), fun i => by rw [← hK i]; exact pe_slice sl_list (peR i) po_none (po_some (peR i)), ha M H0 H σ E _ fun v H1 d k1 ⟨ys, e1, e2, e3⟩ r1 => ?_⟩
  subst e1
  obtain ⟨r1, _⟩ := r1
  refine hb M H0 H1 σ (E.go k1) _ fun w H2 d2 k2 ⟨j, e4, _⟩ r2 => ?_
  subst e4
  obtain ⟨r2, _⟩ := r2
  cases r2
  have r1 := r1.tr (.kp k2)
  cases r1 with
  | lst x1 x2 x3 x4 =>
    refine ⟨j, rfl, _, _, rfl, SqL.of x1, fun l hl => ?_⟩
    have x5 := x4.cut none (some j)
    obtain ⟨zs, g1, g2, g3⟩ := cut_map out ys none (some j)
    rw [g1] at x5
    exact q _ _ _ ((k1.trans k2).trans (Kp.new hl)) ⟨zs, rfl, by omega, fun y hy => e3 y (g3 y hy)⟩ ⟨.lst upd_same (rn_apart (md := ma) ((E.go k1).go k2) hl) ((hm zs).nobox x5) (x5.tr (.kp (Kp.new hl))), fun _ _ _ => ⟨l, rfl, (k1.trans k2).back hl⟩⟩
end
end DL

/-! DL10: a comprehension over an own list; tests known by a property. -/
namespace DL
open PySem PySem.Spec PyProof.Rows L2
/-- as EvI, for a comprehension (own lists stay as they are) -/
def EvIC (K : PySem.W.Frag) (cl : Kd → Addr) (wi : TI) (γ : List G) (n : Nat) (item : Nat → D → Prop) : Prop := ∀ M H0 H σ, EO K cl M H0 H σ γ → ∀ R : It → Hp → Prop,
  (∀ (J : It) (H' : Hp) (Gd : Hp → Prop) (Y : Nat → Hp → V → Hp → Prop), Kp H H' → Walk J n Gd Y → (∀ H1, Kp H' H1 → Gd H1) →
    (∀ i H1 x H1', i < n → Kp H' H1 → Y i H1 x H1' → Kp H1 H1' ∧ ∃ d, item i d ∧ Dt K cl (fun p => M p ∨ Ow σ γ p ∨ H' p = none) H1' x d) → R J H') → wi σ H R
section
variable {K : PySem.W.Frag} {cl : Kd → Addr} {M : Addr → Prop} {H0 H H1 H' : Hp} {σ : L2.St} {γ : List G}
theorem ev_lcC {wi : TI} {g : TG} {tt : TT} {te : TE} {vs sl : List Nat} {n : Nat} {item : Nat → D → Prop} {P : D → Prop} (I : Nat → List D → Prop) (hi : EvIC K cl wi γ n item) (hn : n ≤ 100000) (h0 : I 0 []) (hsl : ∀ i ∈ sl, i ∈ vs)
    (hb : ∀ i acc d, i < n → I i acc → item i d → EvG K cl g (wipeG (γ.map unown) vs) true d sl (fun γ'' => ∃ φ, EvT K cl tt γ'' (Tt φ) ∧ (φ → EvX K cl te γ'' mS (fun e => I (i + 1) (acc ++ [e]))) ∧ (¬ φ → I (i + 1) acc)))
    (hh : ∀ i acc, I i acc → hom acc) (he : ∀ acc, I n acc → P (.lst acc)) : EvX K cl (tLc wi g tt te vs) γ mF P := by
  intro M H0 H σ E Q q
  refine hi M H0 H σ E _ fun J Hb Gd Y k w gd it => fun D hD => ?_
  have E1 := E.go k
  refine lc_it w (Qd := fun H => Q (.ref D) H) (fun i H1 => ∃ acc ds, H1 D = some (.lst acc) ∧ DtA K cl (fun p => M p ∨ Ow σ γ p ∨ p = D) H1 acc ds ∧ I i ds ∧ ds.length ≤ i ∧ Kp Hb H1)
    ⟨[], [], upd_same, .nil, h0, Nat.le_refl _, Kp.new hD⟩ (fun i H1 _ ⟨_, _, _, _, _, _, k1⟩ => gd H1 k1) (fun i x H1 H1' hi' ⟨acc, ds, eD, rA, hI, hlen, k1⟩ y => ?_) (fun H1 ⟨acc, ds, eD, rA, hI, hlen, k1⟩ => ?_)
  · obtain ⟨k2, d, hd, r⟩ := it i H1 x H1' hi' k1 y
    have hDn : H1' D ≠ none := k2.dm D (by rw [eD]; intro z; cases z)
    have EC := E1.comp (vs := vs) hD (k1.trans k2) hDn
    refine hb i ds d hi' hI hd _ H0 H1' _ x EC (r.tr (.weak fun p hp => ?_)) _ fun σ2 H2 γ2 E2 k3 hl2 hs2 ⟨φ, ht, h1, h2⟩ => ⟨?_, ht _ H0 H2 σ2 E2 _ fun b H3 k4 hb' => ?_⟩
    · rcases hp with ⟨h1, h2⟩ | ⟨_, h2⟩
      · rcases h2 with h2 | h2 | h2
        · exact .inl h2
        · exact .inr (.inl h2)
        · right; right; rw [h2]; exact hD
      · exact absurd h2 (no_ow p)
    · have e1 := wipe_ext (σ := wipe σ vs) (σ' := σ2) (vs := vs) hl2 (fun i hi => hs2 i fun z => hi (hsl i z))
      rw [e1]
      refine wipe_ext (wipe_length σ vs) fun i hi => wipe_out hi
    · have nb := (hh i ds hI).nobox rA
      have keepD : ∀ {Hx : Hp}, Kp H1 Hx → Hx D = some (.lst acc) := fun kx => kx.st D _ eD (by rintro ⟨ws, z, y⟩; cases z; exact nb y)
      by_cases z : b = true
      · rw [if_pos z]
        refine h1 (hb'.mp z) _ H0 H3 σ2 (E2.go k4) _ fun y H4 e k5 pe re => ?_
        have kk := ((k2.trans k3).trans k4).trans k5
        have eD4 := keepD kk
        refine ⟨acc, eD4, Nat.lt_of_lt_of_le (show acc.length < 100000 by rw [rA.length]; omega) (by decide), acc ++ [y], ds ++ [e], upd_same, ?_, pe, by rw [List.length_append, List.length_singleton]; omega, (k1.trans kk).mut hD⟩
        have r6 : DtA K cl (fun p => M p ∨ Ow σ γ p ∨ p = D) H4 (acc ++ [y]) (ds ++ [e]) := (rA.tr (.kp kk)).app (.one (re.1.tr (.weak fun p hp => .inl ⟨rfl, hp⟩)))
        exact r6.tr (.chg (.inr (.inr rfl)) eD4)
      · rw [if_neg z]
        have kk := (k2.trans k3).trans k4
        exact ⟨acc, ds, keepD kk, rA.tr (.kp kk), h2 (fun y => z (hb'.mpr y)), by omega, k1.trans kk⟩
  · refine q _ H1 _ (k.trans k1) (he ds hI) ⟨.lst eD (rn_apart (md := mF) E1 hD) ((hh n ds hI).nobox rA) (rA.tr (.weak fun p hp => ?_)), fun _ _ _ => ⟨D, rfl, k.back hD⟩⟩
    rcases hp with ⟨_, hp⟩ | ⟨_, hp⟩
    · exact .inl hp
    · exact .inr (.inl hp)

end
section
variable {ι : Type} {X : ι → Cx} {K : PySem.W.Frag} {cl : Kd → Addr} {γ : List G} {e a b c iter tg elt : Expr} {es ifs : List Expr} {st : Stmt} {sts sts2 : List Stmt} {pos : Pos} {md ma mb mc : Md} {P P' Pa Pb : D → Prop} {φ ψ : Prop} {J : Po} {W : Wd} {scope : Scope}
theorem dic_own {j : Nat} {x : Str} {ds : List D} (hj : γ[j]? = some (.ow ds)) (hN : ∀ i, (X i).N[j]? = some x) (hv : ∀ i, Vis (X i).env.scope x) (h1 : (x == ("__debug__" : Str)) = false) (h2 : (x == ("__classdict__" : Str)) = false) (hK : ∀ i, (X i).K = K) :
    EvIC K cl (rI X tg (.Name x pos)) γ ds.length (fun i d => ds[i]? = some d) := by
  intro M H0 H σ E R q
  obtain ⟨p, vs, e1, e2, e3, e4, e5, e6⟩ := E.ow j ds hj
  refine ⟨iList K (tVar j), fun i => by rw [← hK i]; exact pi_list (pe_var (hN i) (hv i) h1 h2), ⟨_, e1, _, rfl, ⟨_, SqL.of e4⟩, q _ H (fun H1 => SqL K H1 _ _) _ (Kp.refl _) (by rw [← e6.length]; exact walk_list) (fun H1 k1 => SqL.of (k1.st _ _ e4 (by rintro ⟨ws, z, y⟩; cases z; exact e5 y))) fun i H1 x H1' hi k1 y => ?_⟩⟩
  obtain ⟨rfl, hx⟩ := y
  obtain ⟨d, h1, h2⟩ := e6.get' hx
  have h2' : Dt K cl (fun p => M p ∨ Ow σ γ p ∨ H p = none) H x d := (h2.tr (.grow (N' := fun p => (M p ∨ Ow σ γ p) ∨ H p = none) fun p hp => by
    rcases hp with (hp | hp) | hp
    · exact .inl (.inl ⟨rfl, hp⟩)
    · exact .inl (.inr hp)
    · exact .inr hp)).tr (.weak fun p hp => hp.elim (fun z => .inl (.inl z)) fun z => z.elim (fun z => .inl (.inr z)) fun z => .inr z)
  exact ⟨Kp.refl _, d, h1, h2'.tr (.kp k1)⟩
/-- [out x for x in xs if q x], xs an own list -/
theorem filtO {α : Type} (j : Nat) (own : List (Str × Nat)) (sl : List Nat) (enc out : α → D) (l : List α) (q : α → Bool) {x : Str} {p2 : Pos} {N0 : List Str} {sc0 : Scope} (hn : l.length ≤ 100000)
    (ht : ∀ x ∈ l, FilT X K cl scope elt tg ifs γ (own.map (·.2)) sl true enc out q x) (hh : ∀ m : List α, hom (m.map out)) (hj : γ[j]? = some (.ow (l.map enc)) := by rfl) (hsl : ∀ i ∈ sl, i ∈ own.map (·.2) := by decide)
    (hx : ∀ i, (X i).N[j]? = some x := by intro _; rfl) (hv : ∀ i, Vis (X i).env.scope x := by intro _; first | exact Or.inl rfl | exact Or.inr (Or.inl rfl) | exact Or.inr (Or.inr rfl)) (h1 : (x == ("__debug__" : Str)) = false := by decide +kernel) (h2 : (x == ("__classdict__" : Str)) = false := by decide +kernel) (hK : ∀ i, (X i).K = K := by intro _; rfl)
    (hN0 : ∀ i, (X i).N = N0 := by intro _; rfl) (hsc : ∀ i, (X i).env.scope = sc0 := by intro _; rfl) (hb : blkC N0 sc0 scope own = true := by rfl)
    (hc : ∀ i, (X i).calm = true := by intro _; rfl) (hN : ∀ i, (X i).N.Nodup := by intro _; assumption) (hs : ∀ i y, foldedSetIterable (.Name x p2) (X i).env y = pure y := by intro _ _; rfl) :
    DE X K cl (.ListComp elt [⟨tg, .Name x p2, ifs, 0⟩] scope pos) γ mF (Is (.lst ((l.filter q).map out))) :=
  fun M H0 H σ E Q q1 => ⟨_, fun i => pe_lc (hc i) (hN i) (piR i) (by rw [hN0 i, hsc i]; exact blkOk_by hb) (fun s H C cl fp => pgR (X := blkX X scope) (i, s, H, C, cl, fp)) (fun s H C cl fp => ptsR (X := blkX X scope) (i, s, H, C, cl, fp)) (fun s H C cl fp => peR (X := blkX X scope) (i, s, H, C, cl, fp)) (hs i),
    ev_lcC (P := Is (.lst ((l.filter q).map out))) (fun i acc => acc = ((l.take i).filter q).map out) (dic_own hj hx hv h1 h2 hK) (by rw [List.length_map]; exact hn) rfl hsl (fil_turn ht) (fun i acc h => by subst h; exact hh _) (fun acc h => by subst h; rw [List.length_map, List.take_length]) M H0 H σ E Q q1⟩

/-! ### tests of which only a property is known -/
theorem ds_ifP {T : Bool → Prop} (hc : DTe X K cl c γ T) (h1 : T true → DSs X K cl sts γ J) (h2 : T false → DSs X K cl sts2 γ J) : DS X K cl (.If c sts sts2 pos) γ J := by
  intro M H0 H σ E D q1 q2 q3 q4
  refine ⟨_, fun i => ps_if (ptR i) (pssR i) (pssR i), hc M H0 H σ E _ fun b H' k hb => ?_⟩
  cases b with
  | true => exact h1 hb M H0 H' σ (E.go k) D q1 q2 q3 q4
  | false => exact h2 hb M H0 H' σ (E.go k) D q1 q2 q3 q4
theorem dt_wP {T : Bool → Prop} (h : DW X K cl e γ T) : DTe X K cl e γ T := fun M H0 H σ E Q q => ⟨_, fun i => (pwR i).pt, h M H0 H σ E Q q⟩
theorem dw_or1P {T : Bool → Prop} (h : DTe X K cl a γ T) : DW X K cl (.BoolOp .Or [a] pos) γ T := fun M H0 H σ E Q q => ⟨_, fun i => pw_or1 (ptR i), h M H0 H σ E Q q⟩
theorem dw_and1P {T : Bool → Prop} (h : DTe X K cl a γ T) : DW X K cl (.BoolOp .And [a] pos) γ T := fun M H0 H σ E Q q => ⟨_, fun i => pw_and1 (ptR i), h M H0 H σ E Q q⟩
theorem dt_ciP {op : CmpOp} {f : Int → Int → Prop} {p q : Int → Prop} (h : CI K cl op f) (ha : DE X K cl a γ ma (IsI p)) (hb : DE X K cl b γ mb (IsI q)) : DTe X K cl (.Compare a [op] [b] pos) γ (fun _ => True) := by
  obtain ⟨r, h1, h2, h3⟩ := h
  exact fun M H0 H σ E Q k => ⟨_, fun i => pt_cmpR (h1 _) (peR i) (peR i) (h2 b), ev_cmp (Φ := fun dx dy => ∃ i j, dx = .int i ∧ dy = .int j ∧ f i j) ha hb (ci_all (op := op) h3) M H0 H σ E _ fun b H' dx dy k1 p1 p2 h => ⟨b, rfl, k b H' k1 trivial⟩⟩
theorem dw_orU (h : DTe X K cl a γ (Tt φ)) (h2 : ¬ φ → DW X K cl (.BoolOp .Or (b :: es) pos) γ (fun _ => True)) : DW X K cl (.BoolOp .Or (a :: b :: es) pos) γ (fun _ => True) := by
  intro M H0 H σ E Q q
  refine ⟨_, fun i => pw_or (ptR i) (pwR i), h M H0 H σ E _ fun x H1 k hx => ?_⟩
  by_cases hb : x = true
  · rw [if_pos hb]
    exact q true H1 k trivial
  · rw [if_neg hb]
    have nf : ¬ φ := fun z => hb (hx.mpr z)
    exact h2 nf M H0 H1 σ (E.go k) Q fun y H2 k2 hy => q y H2 (k.trans k2) trivial
theorem dw_andU (h : DTe X K cl a γ (Tt φ)) (h2 : φ → DW X K cl (.BoolOp .And (b :: es) pos) γ (fun _ => True)) : DW X K cl (.BoolOp .And (a :: b :: es) pos) γ (fun _ => True) := by
  intro M H0 H σ E Q q
  refine ⟨_, fun i => pw_and (ptR i) (pwR i), h M H0 H σ E _ fun x H1 k hx => ?_⟩
  by_cases hb : x = true
  · rw [if_pos hb]
    exact h2 (hx.mp hb) M H0 H1 σ (E.go k) Q fun y H2 k2 hy => q y H2 (k.trans k2) trivial
  · rw [if_neg hb]
    exact q false H1 k trivial
theorem tvP (h : DE X K cl e γ ma (fun d => ∃ b, d = .bl b)) (he : ∀ i whole, isTrue e (X i).env whole = (do let v ← whole; standAt e.pos; holding [v] (truthy v)) := by intro _ _; rfl) : DTe X K cl e γ (fun _ => True) := by
  intro M H0 H σ E Q q
  refine ⟨_, fun i => pt_val (peR i) (he i), h M H0 H σ E _ fun v H' d k ⟨b, e1⟩ r => ?_⟩
  subst e1
  obtain ⟨r, _⟩ := r
  cases r
  exact ⟨b, rfl, q b H' k trivial⟩
/-- data == [] as a value -/
theorem eqNilV {j n : Nat} {ds : List D} (hr : ∀ i, Room j (X i).A) (ha : DE X K cl a γ ma (Is (.lst ds))) (hb : DE X K cl b γ mb (Is (.lst []))) (c1 : D.cmA n ds = true) (hn : n ≤ 50 := by decide) (hK : ∀ i, (X i).K = K := by intro _; rfl) :
    DE X K cl (.Compare a [.Eq] [b] pos) γ mF (Vb (ds = [])) := DE.mono (eqDv (n := n + 1) (m := 1) hr ha hb (by simpa [D.cm] using c1) rfl (by omega) (by decide) hK) fun d ⟨b, h, hb⟩ => ⟨b, h, hb.trans ⟨fun h => by injection h, fun h => by rw [h]⟩⟩
end
end DL

/-! DL11: more rules of lists known by a property. -/
namespace DL
open PySem PySem.Spec PyProof.Rows L2
section
variable {ι : Type} {X : ι → Cx} {K : PySem.W.Frag} {cl : Kd → Addr} {γ : List G} {e a b c iter tg elt : Expr} {es ifs : List Expr} {st : Stmt} {sts sts2 : List Stmt} {pos : Pos} {md ma mb mc : Md} {P P' Pa Pb : D → Prop} {φ ψ : Prop} {J : Po} {W : Wd} {scope : Scope}
theorem ixQ {p : Int → Prop} (ha : DE X K cl a γ ma Pa) (hb : DE X K cl b γ mb (IsI p)) (hi : ∀ s i, Pa s → p i → ∃ ds d, Sq s ds ∧ atI ds i = some d ∧ P d) (hK : ∀ i, (X i).K = K := by intro _; rfl) (hp : PlainIx b := by intro _ _; rfl) : DE X K cl (.Subscript a b pos) γ ⟨ma.m, ma.o, false⟩ P := by
  intro M H0 H σ E Q q
  refine ⟨tOp (rIx K) (rE X a) (rE X b), fun i => by rw [← hK i]; exact pe_ix ix_seq (peR i) (peR i) hp, ha M H0 H σ E _ fun v H1 s k1 e1 r1 => ?_⟩
  refine hb M H0 H1 σ (E.go k1) _ fun w H2 d2 k2 ⟨i, e2, hpi⟩ r2 => ?_
  subst e2
  obtain ⟨r2, _⟩ := r2
  cases r2
  obtain ⟨r1, _⟩ := r1
  have r1 := r1.tr (.kp k2)
  obtain ⟨ds, d, hs, hi, hpd⟩ := hi s i e1 hpi
  have go : ∀ {p : Addr} {vs : List V}, DtA K cl (RN ma M σ γ) H2 vs ds → ∃ u, atI vs i = some u ∧ Dt K cl (RN ma M σ γ) H2 u d := fun {p vs} h => by
    unfold atI at hi ⊢
    rw [h.length]
    cases ej : ixN ds.length i with
    | none => rw [ej] at hi; cases hi
    | some j =>
      rw [ej] at hi
      exact h.get hi
  have fin : ∀ {u : V}, Dt K cl (RN ma M σ γ) H2 u d → Q u H2 := fun {u} h => q u H2 d (k1.trans k2) hpd ⟨h, (fun z => nomatch z)⟩
  cases hs with
  | l =>
    cases r1 with
    | lst e1 n1 b1 h1 =>
      obtain ⟨u, g1, g2⟩ := go (p := 0) h1
      exact .inl ⟨_, _, i, u, rfl, rfl, SqL.of e1, g1, fin g2⟩
  | t =>
    cases r1 with
    | tup e1 h1 =>
      obtain ⟨u, g1, g2⟩ := go (p := 0) h1
      exact .inr (.inl ⟨_, _, i, u, rfl, rfl, e1, g1, fin g2⟩)
theorem catP {β : Type} {out : β → D} {S : β → Prop} {N N' : Nat} (ha : DE X K cl a γ ma (LP out S N)) (hb : DE X K cl b γ mb (LP out S N')) (hh : ∀ l : List β, hom (l.map out)) (hl : N + N' ≤ 100000) : DE X K cl (.BinOp a .Add b pos) γ ⟨ma.m && mb.m, ma.o && mb.o, true⟩ (LP out S (N + N')) := by
  have ha := ha.le (mn_l ma mb)
  have hb := hb.le (mn_r ma mb)
  intro M H0 H σ E Q q
  refine ⟨tOp rCat (rE X a) (rE X b), fun i => pe_op op_cat (peR i) (peR i), ha M H0 H σ E _ fun v H1 d k1 ⟨xs, e1, l1, p1⟩ r1 => ?_⟩
  subst e1
  refine hb M H0 H1 σ (E.go k1) _ fun w H2 d2 k2 ⟨ys, e2, l2, p2⟩ r2 => ?_
  subst e2
  obtain ⟨r1, _⟩ := r1
  obtain ⟨r2, _⟩ := r2
  have r1 := r1.tr (.kp k2)
  cases r1 with
  | lst x1 x2 x3 x4 =>
    cases r2 with
    | lst y1 y2 y3 y4 =>
      refine ⟨_, _, _, _, rfl, rfl, x1, y1, ?_, fun l hl' => ?_⟩
      · rw [x4.length, y4.length, List.length_map, List.length_map]
        exact Nat.le_trans (Nat.le_trans (Nat.add_le_add l1 l2) hl) (by decide)
      · have x5 := x4.app y4
        rw [← List.map_append] at x5
        refine q _ _ _ ((k1.trans k2).trans (Kp.new hl')) ⟨xs ++ ys, rfl, by rw [List.length_append]; omega, fun y hy => ?_⟩ ⟨.lst upd_same (rn_apart (md := ma.mn mb) ((E.go k1).go k2) hl') ((hh _).nobox x5) (x5.tr (.kp (Kp.new hl'))), fun _ _ _ => ⟨l, rfl, (k1.trans k2).back hl'⟩⟩
        rcases List.mem_append.mp hy with z | z
        · exact p1 y z
        · exact p2 y z
theorem sliceG {β : Type} {out : β → D} {S : β → Prop} {N : Nat} {lo hi : Option Expr} {i j : Option Int} {p2 : Pos} (ha : DE X K cl a γ ma (LP out S N)) (hl : DPo X K cl lo γ i) (hh : DPo X K cl hi γ j) (hm : ∀ l : List β, hom (l.map out)) (hK : ∀ i, (X i).K = K := by intro _; rfl) :
    DE X K cl (.Subscript a (.Slice lo hi none p2) pos) γ ⟨ma.m, ma.o, true⟩ (LP out S N) := by
  obtain ⟨tl, hl1, hl2⟩ := hl
  obtain ⟨th, hh1, hh2⟩ := hh
  intro M H0 H σ E Q q
  refine ⟨L2.tSl (rSlL K) (rE X a) tl th, fun i => by rw [← hK i]; exact pe_slice sl_list (peR i) (hl1 i) (hh1 i), ha M H0 H σ E _ fun v H1 d k1 ⟨ys, e1, l1, p1⟩ r1 => ?_⟩
  subst e1
  obtain ⟨r1, _⟩ := r1
  refine hl2 M H0 H1 σ (E.go k1) _ fun H2 k2 => hh2 M H0 H2 σ ((E.go k1).go k2) _ fun H3 k3 => ?_
  have r1 := (r1.tr (.kp k2)).tr (.kp k3)
  cases r1 with
  | lst x1 x2 x3 x4 =>
    refine ⟨_, _, rfl, SqL.of x1, fun l hl => ?_⟩
    have x5 := x4.cut i j
    obtain ⟨zs, g1, g2, g3⟩ := cut_map out ys i j
    rw [g1] at x5
    exact q _ _ _ (((k1.trans k2).trans k3).trans (Kp.new hl)) ⟨zs, rfl, by omega, fun y hy => p1 y (g3 y hy)⟩ ⟨.lst upd_same (rn_apart (md := ma) (((E.go k1).go k2).go k3) hl) ((hm zs).nobox x5) (x5.tr (.kp (Kp.new hl))), fun _ _ _ => ⟨l, rfl, ((k1.trans k2).trans k3).back hl⟩⟩
/-- [e], e an out y with S y -/
theorem one1 {β : Type} {out : β → D} {S : β → Prop} (h : DE X K cl e γ md (fun d => ∃ y, d = out y ∧ S y)) (hh : ∀ l : List β, hom (l.map out)) (hs : ∀ i, starEach [e] (X i).env = (false, eval e (X i).env) :: starEach [] (X i).env := by intro _; rfl) : DE X K cl (.List [e] pos) γ ⟨(md.mn mF).m, (md.mn mF).o, true⟩ (LP out S 1) :=
  de_lst (md := md.mn mF) (acP h an hs) fun ds ⟨d, r, e1, ⟨y, e2, hy⟩, e3⟩ => by
    subst e1 e2 e3
    exact ⟨by simp, by have := hh [y]; simpa using this, [y], rfl, Nat.le_refl _, fun z hz => by rw [List.mem_singleton] at hz; rw [hz]; exact hy⟩
end
end DL

/-! DL12: own objects under in, [ ], len, and a property. -/
namespace DL
open PySem PySem.Spec PyProof.Rows L2
/-- a promise kept at an object of C by the def behind a special name -/
def rOwn2 (C : Addr) (sp : Sp) (out : V → Hp → VK → Prop) : R2 := fun x y H Q => ∃ a dx fs, y = .ref a ∧ H a = some (.ins C dx fs) ∧ sp [.ref a, x] H (fun v H' => out v H' Q) E0
section
variable {X : Cx} {k : Nat} {C f : Addr} {fd : FuncData} {ps : List Str} {sp : Sp}
theorem inst_at {pins : List (Addr × Obj)} {σ : L2.St} {H : Hp} {s : Shared} {a dx : Addr} {fs : List (Str × V)} (I : Inv X pins σ H s) (ea : H a = some (.ins C dx fs)) : ∃ ox od, PySem.W.InstAt s.heap a ox C od := by
  obtain ⟨mA, O, _, _, _, _⟩ := ins_get I.hok ea
  obtain ⟨od, J, _⟩ := O.look
  exact ⟨_, _, J⟩
theorem contains_own {pins : List (Addr × Obj)} {σ : L2.St} {H : Hp} {s : Shared} {a dx : Addr} {fs : List (Str × V)} {x : V} {u : Value} {Q : Bool → Shared → Prop} (I : Inv X pins σ H s) (ea : H a = some (.ins C dx fs)) (m : Meth X.K C "__contains__" f)
    (F : FnOk X.prog X.w X.K X.mg X.base CX0 k f fd ps sp) (hr : Room k X.A) (hb : Binds X.K fd ps []) (rx : RelV x u) (T : Bool → Hp → Prop)
    (h : sp [.ref a, x] H (fun v H' => ∃ b, v = .bl b ∧ T b H') E0) (hq : ∀ b H' s', Inv X pins σ H' s' → T b H' → Q b s') : wpAny (model X.prog X.w) X.A (contains (.ref a) u) Q X.xe s := by
  obtain ⟨ox, od, J⟩ := inst_at I ea
  have hx := I.kIn
  unfold contains
  refine wpAny_holding (wpAny_bind (wpAny_bind (J.type.here ((PySem.W.looks_findIn hx m.at_).here ?_))))
  rw [if_neg (by simp)]
  refine wpAny_bind (PySem.W.unlessNone_K hx J m.at_ m.fn (wpAny_mono (run_fn (us := [Value.ref a, u]) (vs := [V.ref a, x]) (ds := []) (dvs := []) F hr hb .nil pass0 I (.cons rfl (.cons rx .nil)) h) (fun r s' hr' => ?_) fun _ _ z => z))
  obtain ⟨v, H', I', rv, b, ev, hT⟩ := hr'
  subst ev
  obtain rfl : r = .bool b := rv
  exact wpAny_truthy_bool (hq b H' s' I' hT)
theorem op_in_own (m : Meth X.K C "__contains__" f) (F : FnOk X.prog X.w X.K X.mg X.base CX0 k f fd ps sp) (hr : Room k X.A) (hb : Binds X.K fd ps []) : OpR X (compareOp .In) (rOwn2 C sp fun v H' Q => ∃ b, v = .bl b ∧ Q (.bl b) H') := by
  intro pins s σ H x y v u Q I rx ry h
  obtain ⟨a, dx, fs, rfl, ea, h⟩ := h
  obtain rfl : u = .ref a := ry
  exact wpAny_bind (contains_own I ea m F hr hb rx (fun b H' => Q (.bl b) H') h fun b H' s' I' q => wpAny_pure ⟨.bl b, H', I', rfl, q⟩)
theorem op_notIn_own (m : Meth X.K C "__contains__" f) (F : FnOk X.prog X.w X.K X.mg X.base CX0 k f fd ps sp) (hr : Room k X.A) (hb : Binds X.K fd ps []) : OpR X (compareOp .NotIn) (rOwn2 C sp fun v H' Q => ∃ b, v = .bl b ∧ Q (.bl (!b)) H') := by
  intro pins s σ H x y v u Q I rx ry h
  obtain ⟨a, dx, fs, rfl, ea, h⟩ := h
  obtain rfl : u = .ref a := ry
  exact wpAny_bind (contains_own I ea m F hr hb rx (fun b H' => Q (.bl (!b)) H') h fun b H' s' I' q => wpAny_pure ⟨.bl (!b), H', I', rfl, q⟩)
theorem run_in1 {pins : List (Addr × Obj)} {σ : L2.St} {H : Hp} {s : Shared} {Q : VK} {us : List Value} {vs : List V} (F : FnOk X.prog X.w X.K X.mg X.base CX0 k f fd ps sp) (hr : Room (k + 1) X.A) (hb : Binds X.K fd ps [])
    (I : Inv X pins σ H s) (r : Vals vs us) (h : sp vs H Q E0) {Ex : Value → Shared → Prop} : wpAny (model X.prog X.w) X.A.in1 (PySem.call (.ref f) us) (EP X pins σ Q) Ex s := by
  have hl : (us ++ []).length = ps.length := by rw [List.append_nil, ← r.length]; exact F.len _ _ _ _ h
  have hb' := hb s us I.kIn hl
  rw [List.append_nil] at hb'
  refine wpAny_call (codeAny_mono (F.run X.A.in1 X.stack s H ⟨us, []⟩ us vs Q E0 hr.in1 I.env0.in1 hb' r h) fun r s' hq => ?_)
  cases r with
  | error e => exact hq.elim
  | ok fl =>
    cases fl with
    | ret u => exact I.after hq
    | next => exact False.elim hq
    | brk => exact False.elim hq
    | cont => exact False.elim hq
theorem ix_own (m : Meth X.K C "__getitem__" f) (hf : PySem.W.fnIn X.K f = true) (F : FnOk X.prog X.w X.K X.mg X.base CX0 k f fd ps sp) (hr : Room (k + 1) X.A) (hb : Binds X.K fd ps []) :
    ∀ (value slice : Expr) (pins : List (Addr × Obj)) (s : Shared) (σ : L2.St) (H : Hp) (x y : V) (v u : Value) (Q : VK), Inv X pins σ H s → RelV x v → RelV y u → (∃ a dx fs, x = .ref a ∧ H a = some (.ins C dx fs) ∧ sp [.ref a, y] H Q E0) →
    subscripted slice true v u = runValue (.builtin "lifetime.subscript" ⟨[v, u], []⟩) → wpAny (model X.prog X.w) X.A (subscriptTail value slice v u) (EP X pins σ Q) X.xe s := by
  intro value slice pins s σ H x y v u Q I rx ry h hs
  obtain ⟨a, dx, fs, rfl, ea, h⟩ := h
  obtain rfl : v = .ref a := rx
  obtain ⟨ox, od, J⟩ := inst_at I ea
  have hx := I.kIn
  unfold PySem.W.fnIn at hf
  split at hf
  · rename_i e
    unfold subscriptTail getitemInPython
    refine wpAny_bind (wpAny_bind (wpAny_bind (J.type.here ((PySem.W.looks_findIn hx m.at_).here ?_))))
    dsimp only
    refine wpAny_bind (wpAny_load (hx _ _ e) (wpAny_pure ?_))
    dsimp only
    rw [hs]
    refine wpAny_bind (wpAny_runValue (codeAny_builtin PySem.W.entry_sub ?_))
    unfold Builtin.«lifetime.subscript»
    refine wpAny_bind (PySem.W.special_fn hx J m.at_ (beq_iff_eq.mp m.fn) (wpAny_mono (run_in1 (us := [Value.ref a, u]) (vs := [V.ref a, y]) F hr hb I (.cons rfl (.cons ry .nil)) h) (fun v s' z => ?_) fun _ _ z => z))
    refine wpAny_pure ?_
    show wpAny (model X.prog X.w) X.A (letTemporaryGo value (.ref a) v >>= fun _ => pure v) _ _ s'
    exact wpAny_bind (wpAny_letTemporaryGo (wpAny_pure z))
  · cases hf
theorem call_len_own (m : Meth X.K C "__len__" f) (F : FnOk X.prog X.w X.K X.mg X.base CX0 k f fd ps sp) (hr : Room (k + 1) X.A) (hb : Binds X.K fd ps []) :
    CallR X (.builtin "len") (fun xs H Q => ∃ a dx fs, xs = [.ref a] ∧ H a = some (.ins C dx fs) ∧ sp [.ref a] H (fun v H' => ∃ n : Nat, v = .int n ∧ n < 1000000 ∧ Q (.int n) H') E0) := by
  intro pins s σ H xs us Q I r h
  obtain ⟨a, dx, fs, rfl, ea, h⟩ := h
  obtain ⟨u, rfl, rx⟩ := r.one
  obtain rfl : u = .ref a := rx
  obtain ⟨ox, od, J⟩ := inst_at I ea
  refine Calls.call_function_entry PySem.kind_len PySem.plain_len PySem.entry_len (PySem.args_len1 _) ?_
  unfold Builtin.«len»
  refine wpAny_bind (m := oneArg "len" _) (wpAny_pure ?_)
  refine wpAny_bind (m := callSpecial? (.ref a) (Str.ofString "__len__")) (PySem.W.special_fn I.kIn J m.at_ (beq_iff_eq.mp m.fn) (wpAny_mono (run_in1 (us := [Value.ref a]) (vs := [V.ref a]) F hr hb I (.cons rfl .nil) h) (fun r s' hr' => ?_) fun _ _ y => y))
  obtain ⟨v, H', I', rv, n, ev, hn, q⟩ := hr'
  subst ev
  obtain ⟨t, rfl⟩ := rv
  refine wpAny_bind (wpAny_holding (wpAny_pure ?_))
  refine wpAny_bind (wpAny_letGo ?_)
  show wpAny _ _ (if (n : Int) < 0 then _ else _) _ _ _
  rw [if_neg (by omega)]
  show wpAny _ _ (if (n : Int) ≥ 2 ^ 63 then _ else _) _ _ _
  rw [if_neg (by omega)]
  exact wpAny_bind (wpAny_mkInt (wpAny_pure ⟨_, rfl, ⟨.int n, H', I'.tok _, ⟨_, rfl⟩, q⟩⟩))
end
section
variable {ι : Type} {X : ι → Cx} {γ : List G} {e a b c : Expr} {es : List Expr} {pos p apos : Pos} {md ma mb mc : Md} {P P' Pa Pb : D → Prop} {φ ψ : Prop} {W : Wd} {α : Type} {enc : α → List D} {Pre : α → Prop} {R : α → D → Prop}
/-- what a Con promise asks at arguments that stand as data -/
theorem con_at {K : PySem.W.Frag} {cl : Kd → Addr} {n : Nat} {vs : List V} {H : Hp} {Q : VK} (x0 : α) (r : DtA K cl (fun _ => False) H vs (enc x0)) (hl : (enc x0).length = n) (hp : Pre x0) (q : ∀ v H' d, Kp H H' → R x0 d → Dt K cl (fun a => H a ≠ none) H' v d → Q v H') : Con K cl n enc Pre R vs H Q E0 :=
  ⟨x0, r, hl, hp, q⟩
theorem self_of {K : PySem.W.Frag} {cl : Kd → Addr} {N : Addr → Prop} {H : Hp} {v : V} {d : D} (r : Dt K cl N H v d) : Dt K cl (fun _ => False) H v d := r.tr (.weak fun _ z => z.elim)
/-- x in o, o an own object -/
theorem inOwn {k j : Nat} {c : Kd} {ds : List D} {d : D} (x0 : α) (F : MFn W c "__contains__" k (Con W.K W.cl 2 enc Pre R)) (hr : ∀ i, Room j (X i).A) (ha : DE X W.K W.cl a γ ma (Is d)) (hb : DE X W.K W.cl b γ mb (Is (.obj c ds))) (hx : [D.obj c ds, d] = enc x0) (hp : Pre x0) (hφ : ∀ d, R x0 d → Vb φ d) (hk : k ≤ j := by decide)
    (hX : ∀ i, W.at (X i) := by intro _; exact ⟨rfl, rfl, rfl, rfl, rfl, rfl⟩) (hm : behindInMarks .In b = false := by with_unfolding_all rfl) : DTe X W.K W.cl (.Compare a [.In] [b] pos) γ (Tt φ) := by
  obtain ⟨f, fd, ps, F, hc, hmt, hbi⟩ := F
  intro M H0 H σ E Q q
  refine ⟨_, fun i => pt_cmpR (r := rOwn2 (W.cl c) (Con W.K W.cl 2 enc Pre R) fun v H' Q => ∃ b, v = .bl b ∧ Q (.bl b) H') ?_ (peR i) (peR i) hm, ha M H0 H σ E _ fun v H1 d1 k1 e1 r1 => hb M H0 H1 σ (E.go k1) _ fun w H2 d2 k2 e2 r2 => ?_⟩
  · obtain ⟨h1, h2, h3, h4, h5, h6⟩ := hX i
    rw [← h1, ← h2, ← h3, ← h4, ← h5] at F
    rw [← h3] at hmt hbi
    rw [← h3]
    exact op_in_own hmt (by rw [h3] at F ⊢; exact F) ((hr i).mono hk) hbi
  · subst e1 e2
    obtain ⟨r1, _⟩ := r1
    obtain ⟨r2, _⟩ := r2
    have r2' := self_of r2
    cases r2 with
    | @obj a1 dx _ fs _ o1 o2 o3 =>
      refine ⟨a1, dx, fs, rfl, o1, con_at x0 (hx ▸ .cons r2' (.cons (self_of (r1.tr (.kp k2))) .nil)) (by rw [← hx]; rfl) hp fun v H3 d k3 hR t => ?_⟩
      obtain ⟨b, rfl, hb⟩ := hφ d hR
      cases t
      exact ⟨b, rfl, b, rfl, q b H3 ((k1.trans k2).trans k3) hb⟩
theorem notInOwn {k j : Nat} {c : Kd} {ds : List D} {d : D} (x0 : α) (F : MFn W c "__contains__" k (Con W.K W.cl 2 enc Pre R)) (hr : ∀ i, Room j (X i).A) (ha : DE X W.K W.cl a γ ma (Is d)) (hb : DE X W.K W.cl b γ mb (Is (.obj c ds))) (hx : [D.obj c ds, d] = enc x0) (hp : Pre x0) (hφ : ∀ d, R x0 d → Vb φ d) (hk : k ≤ j := by decide)
    (hX : ∀ i, W.at (X i) := by intro _; exact ⟨rfl, rfl, rfl, rfl, rfl, rfl⟩) (hm : behindInMarks .NotIn b = false := by with_unfolding_all rfl) : DTe X W.K W.cl (.Compare a [.NotIn] [b] pos) γ (Tt (¬ φ)) := by
  obtain ⟨f, fd, ps, F, hc, hmt, hbi⟩ := F
  intro M H0 H σ E Q q
  refine ⟨_, fun i => pt_cmpR (r := rOwn2 (W.cl c) (Con W.K W.cl 2 enc Pre R) fun v H' Q => ∃ b, v = .bl b ∧ Q (.bl (!b)) H') ?_ (peR i) (peR i) hm, ha M H0 H σ E _ fun v H1 d1 k1 e1 r1 => hb M H0 H1 σ (E.go k1) _ fun w H2 d2 k2 e2 r2 => ?_⟩
  · obtain ⟨h1, h2, h3, h4, h5, h6⟩ := hX i
    rw [← h1, ← h2, ← h3, ← h4, ← h5] at F
    rw [← h3] at hmt hbi
    rw [← h3]
    exact op_notIn_own hmt (by rw [h3] at F ⊢; exact F) ((hr i).mono hk) hbi
  · subst e1 e2
    obtain ⟨r1, _⟩ := r1
    obtain ⟨r2, _⟩ := r2
    have r2' := self_of r2
    cases r2 with
    | @obj a1 dx _ fs _ o1 o2 o3 =>
      refine ⟨a1, dx, fs, rfl, o1, con_at x0 (hx ▸ .cons r2' (.cons (self_of (r1.tr (.kp k2))) .nil)) (by rw [← hx]; rfl) hp fun v H3 d k3 hR t => ?_⟩
      obtain ⟨b, rfl, hb⟩ := hφ d hR
      cases t
      refine ⟨b, rfl, !b, rfl, q (!b) H3 ((k1.trans k2).trans k3) ?_⟩
      cases b
      · exact ⟨fun _ z => (nomatch hb.mpr z), fun _ => rfl⟩
      · exact ⟨(fun z => nomatch z), fun z => absurd (hb.mp rfl) z⟩
/-- o[x], o an own object -/
theorem ixOwn {k j : Nat} {c : Kd} {ds : List D} {d : D} (x0 : α) (F : MFn W c "__getitem__" k (Con W.K W.cl 2 enc Pre R)) (hfn : ∀ f, Meth W.K (W.cl c) "__getitem__" f → PySem.W.fnIn W.K f = true) (hr : ∀ i, Room j (X i).A) (ha : DE X W.K W.cl a γ ma (Is (.obj c ds))) (hb : DE X W.K W.cl b γ mb (Is d)) (hx : [D.obj c ds, d] = enc x0) (hp : Pre x0) (hk : k + 1 ≤ j := by decide)
    (hX : ∀ i, W.at (X i) := by intro _; exact ⟨rfl, rfl, rfl, rfl, rfl, rfl⟩) (hs : ∀ v u, subscripted b true v u = runValue (.builtin "lifetime.subscript" ⟨[v, u], []⟩) := by intro _ _; with_unfolding_all rfl) : DE X W.K W.cl (.Subscript a b pos) γ mF (R x0) := by
  obtain ⟨f, fd, ps, F, hc, hmt, hbi⟩ := F
  intro M H0 H σ E Q q
  refine ⟨tOp (fun x y H Q => ∃ a dx fs, x = .ref a ∧ H a = some (.ins (W.cl c) dx fs) ∧ Con W.K W.cl 2 enc Pre R [.ref a, y] H Q E0) (rE X a) (rE X b), fun i => ⟨fun pins s σ H Q I h => ?_⟩, ha M H0 H σ E _ fun v H1 d1 k1 e1 r1 => hb M H0 H1 σ (E.go k1) _ fun w H2 d2 k2 e2 r2 => ?_⟩
  · obtain ⟨h1, h2, h3, h4, h5, h6⟩ := hX i
    have hfi := hfn f hmt
    rw [← h1, ← h2, ← h3, ← h4, ← h5] at F
    rw [← h3] at hmt hbi hfi
    exact Subscript_ (binT (peR i) (peR i) I h fun v u s2 x y H2 I2 rx ry q => ix_own hmt hfi (by rw [h3] at F ⊢; exact F) ((hr i).mono hk) hbi a b pins s2 σ H2 x y v u Q I2 rx ry q (hs _ _))
  · subst e1 e2
    obtain ⟨r1, _⟩ := r1
    obtain ⟨r2, _⟩ := r2
    have r1' := self_of (r1.tr (.kp k2))
    have r1 := r1.tr (.kp k2)
    cases r1 with
    | @obj a1 dx _ fs _ o1 o2 o3 =>
      refine ⟨a1, dx, fs, rfl, o1, con_at x0 (hx ▸ .cons r1' (.cons (self_of r2) .nil)) (by rw [← hx]; rfl) hp fun v H3 d k3 hR t => q v H3 d ((k1.trans k2).trans k3) hR ⟨t.tr (.weak fun p hp => rn_there ((E.go k1).go k2) hp), fun _ ds e => ?_⟩⟩
      subst e
      cases t with
      | lst e1 n1 b1 h1 =>
        rename_i p' vs'
        refine ⟨p', rfl, (k1.trans k2).back ?_⟩
        cases q' : H2 p' with
        | none => rfl
        | some o => exact absurd (by rw [q']; intro z; cases z) n1
/-- len(o), o an own object -/
theorem lenOwn {k j n : Nat} {c : Kd} {ds : List D} (x0 : α) (B : Bn W) (F : MFn W c "__len__" k (Con W.K W.cl 1 enc Pre R)) (hr : ∀ i, Room j (X i).A) (ha : DE X W.K W.cl a γ ma (Is (.obj c ds))) (hx : [D.obj c ds] = enc x0) (hp : Pre x0) (hn : ∀ d, R x0 d → d = .int n) (hn' : n < 1000000) (hk : k + 1 ≤ j := by decide)
    (hX : ∀ i, W.at (X i) := by intro _; exact ⟨rfl, rfl, rfl, rfl, rfl, rfl⟩) (hg : ∀ i, Gl (X i) "len" := by intro _; rfl)
    (he : ∀ i, starEach [a] (X i).env = (false, eval a (X i).env) :: starEach [] (X i).env := by intro _; rfl) : DE X W.K W.cl (.Call (.Name "len" p) [a] [] pos) γ mF (Is (.int n)) := by
  obtain ⟨f, fd, ps, F, hc, hmt, hbi⟩ := F
  intro M H0 H σ E Q q
  refine ⟨tCB (fun xs H Q => ∃ a dx fs, xs = [.ref a] ∧ H a = some (.ins (W.cl c) dx fs) ∧ Con W.K W.cl 1 enc Pre R [.ref a] H (fun v H' => ∃ n : Nat, v = .int n ∧ n < 1000000 ∧ Q (.int n) H') E0) (rA X [a]), fun i => ?_, ?_⟩
  · obtain ⟨h1, h2, h3, h4, h5, h6⟩ := hX i
    rw [← h1, ← h2, ← h3, ← h4, ← h5] at F
    rw [← h3] at hmt hbi
    rw [← h3]
    exact pe_callB (call_len_own hmt (by rw [h3] at F ⊢; exact F) ((hr i).mono hk) hbi) (hg i) (by rw [h4]; exact B.len) PySem.boot_len (paR i) (by decide +kernel) (by decide +kernel) (he i) rfl
  · refine (da_cons ha da_nil he) M H0 H σ E _ fun vs H1 ds1 k1 ⟨d, r, e1, e2, e3⟩ r1 => ?_
    subst e1 e2 e3
    cases r1 with
    | cons t1 t2 =>
      cases t2
      have t1' := self_of t1
      cases t1 with
      | @obj a1 dx _ fs _ o1 o2 o3 =>
        refine ⟨a1, dx, fs, rfl, o1, con_at x0 (hx ▸ .cons t1' .nil) (by rw [← hx]; rfl) hp fun v H3 d k3 hR t => ?_⟩
        obtain rfl := hn d hR
        cases t
        exact ⟨n, rfl, hn', q _ H3 _ (k1.trans k3) rfl (.of_im (N := fun _ => False) rfl (.int _))⟩
/-- a property of the class, with the promise of its getter -/
def PFn (W : Wd) (c : Kd) (m : Str) (k : Nat) (sp : Sp) : Prop := ∃ p f fd ps, FnOk W.P W.w W.K W.mg W.base CX0 k f fd ps sp ∧ Cls W.K (W.cl c) ∧ PropOf W.K (W.cl c) m p f ∧ Binds W.K fd ps []
theorem prop_ {k j : Nat} {c : Kd} {m : Str} {ds : List D} (x0 : α) (F : PFn W c m k (Con W.K W.cl 1 enc Pre R)) (hr : ∀ i, Room j (X i).A) (ha : DE X W.K W.cl a γ ma (Is (.obj c ds))) (hx : [D.obj c ds] = enc x0) (hp : Pre x0) (hk : k + 1 ≤ j := by decide)
    (hX : ∀ i, W.at (X i) := by intro _; exact ⟨rfl, rfl, rfl, rfl, rfl, rfl⟩) (hb : ∀ i, attributeBase a m (X i).env (eval a (X i).env) = eval a (X i).env := by intro _; rfl) : DE X W.K W.cl (.Attribute a m pos) γ mF (R x0) := by
  obtain ⟨p, f, fd, ps, F, hc, hpr, hbi⟩ := F
  intro M H0 H σ E Q q
  refine ⟨tProp (W.cl c) (Con W.K W.cl 1 enc Pre R) [] E0 (rE X a), fun i => ?_, ha M H0 H σ E _ fun v H1 d1 k1 e1 r1 => ?_⟩
  · obtain ⟨h1, h2, h3, h4, h5, h6⟩ := hX i
    rw [← h1, ← h2, ← h3, ← h4, ← h5] at F
    rw [← h3] at hc hpr hbi
    rw [← h3]
    exact pe_prop (peR i) hc hpr (by rw [h3] at F ⊢; exact F) ((hr i).mono hk) hbi .nil pass0 (hb i)
  · subst e1
    obtain ⟨r1, _⟩ := r1
    have r1' := self_of r1
    cases r1 with
    | @obj a1 dx _ fs _ o1 o2 o3 =>
      refine ⟨a1, dx, fs, rfl, o1, con_at x0 (hx ▸ .cons r1' .nil) (by rw [← hx]; rfl) hp fun v H3 d k3 hR t => q v H3 d (k1.trans k3) hR ⟨t.tr (.weak fun p hp => rn_there (E.go k1) hp), fun _ ds e => ?_⟩⟩
      subst e
      cases t with
      | lst e1 n1 b1 h1 =>
        rename_i p' vs'
        refine ⟨p', rfl, k1.back ?_⟩
        cases q' : H1 p' with
        | none => rfl
        | some o => exact absurd (by rw [q']; intro z; cases z) n1
end
end DL

/-! DL13: enumerate and zip over tuples. -/
namespace DL
open PySem PySem.Spec PyProof.Rows L2
theorem meets_enum1 {v : Value} {o : Obj} {H : Heap → Prop} (B : Begins v o H) :
    Meets (Builtin.«enumerate.__new__» ⟨[.type "enumerate", v], []⟩) (fun _ R s => H s.heap ∧
      R (.ok (.ret (.ref (s.heap.push o).objs.size))) { s with heap := (s.heap.push o).push { cls := .type "enumerate", data := .fields #[.none, .bool false, .ref s.heap.objs.size, rawInt 0, .none, .none] } }) :=
  .of_wp fun prog w A R s h => by
    obtain ⟨hp, g, d, tk, os⟩ := s; obtain ⟨h1, h⟩ := h
    have hsub := sub_enumerate
    have q1 : ∀ {A' : Around} {E : Value → Shared → Prop} {Q : Value → Shared → Prop}, Q (.ref hp.objs.size) ⟨hp.push o, g, d, tk, os⟩ → wpAny (model prog w) A' (pyIter v) Q E ⟨hp, g, d, tk, os⟩ :=
      fun q => B.iter prog w _ _ ⟨hp, g, d, tk, os⟩ _ h1 q
    wp_walk using q1
    refine wpAny_stack_any fun st => wpAny_pure ?_
    split
    · rename_i c _ _ _ _ _
      cases (c == Value.type "enumerate")
      · wp_walk using q1
        exact ⟨_, rfl, h⟩
      · wp_walk using q1
        exact ⟨_, rfl, h⟩
    · wp_walk using q1
      exact ⟨_, rfl, h⟩
theorem enum_begins1 {prog : Program} {w : World} {A : Around} {E : Value → Shared → Prop} {s : Shared} {v : Value} {o : Obj} {H : Heap → Prop} {Q : Value → Shared → Prop} (B : Begins v o H) (h1 : H s.heap)
    (h : ∀ h', IsEnum h' (s.heap.objs.size + 1) s.heap.objs.size 0 .none → h'.get? s.heap.objs.size = some o → h'.objs.size = s.heap.objs.size + 2 →
      (∀ b o, s.heap.get? b = some o → h'.get? b = some o) → Q (.ref (s.heap.objs.size + 1)) { s with heap := h' }) :
    wpAny (model prog w) A (PySem.call (.type "enumerate") [v]) Q E s := by
  refine callType_new F.called_enumerate (by decide) (F.typeCall_enumerate_1 _) (F.newCall_enumerate_1 _) (fun obj => F.args_object_init_2 obj _) F.entry_enumerate_new
    (meets_enum1 B) ⟨h1, ?_⟩
  have hz : (s.heap.push o).objs.size = s.heap.objs.size + 1 := Heap.size_push ..
  show _ ∧ _
  rw [hz]
  have he : IsEnum ((s.heap.push o).push { cls := .type "enumerate", data := .fields #[.none, .bool false, .ref s.heap.objs.size, rawInt 0, .none, .none] }) (s.heap.objs.size + 1) s.heap.objs.size 0 .none := by
    have := Heap.get?_push_size (s.heap.push o) (o := { cls := .type "enumerate", data := .fields #[.none, .bool false, .ref s.heap.objs.size, rawInt 0, .none, .none] }) rfl
    rw [hz] at this; exact this
  refine ⟨⟨_, he, rfl⟩, h _ he (Heap.get?_push_of_some _ (Heap.get?_push_size _ B.free)) (by rw [Heap.size_push, hz]) fun b o x => Heap.get?_push_of_some _ (Heap.get?_push_of_some _ x)⟩

/-- the tuple at a, each item in a new pair with its number -/
def IteT (K : PySem.W.Frag) (a : Addr) : It :=
  ⟨fun i H => ∃ (xs : List V) (x : V), SqT K H a xs ∧ xs[i]? = some x, fun i H v H' => ∃ T x, v = .ref T ∧ H T = none ∧ H' = upd H T (.tup [.int (i : Nat), x]) ∧ ∀ xs, SqT K H a xs → xs[i]? = some x, fun i H => ∃ xs : List V, SqT K H a xs ∧ xs.length ≤ i⟩
theorem turn_enumT {P : Program} {w : World} {K : PySem.W.Frag} {elts : List Expr} {kk : Nat} {tpos : Pos} (a e it : Addr) :
    Turn P w K (.Tuple elts kk tpos) (IteT K a) [e, it] e (fun i h => (∃ old, IsEnum h e it ((i : Nat) : Int) old) ∧ h.IsTupleIter it a i ∧ e ≠ it ∧ a ≠ it ∧ a ≠ e) where
  mem := by simp
  obj := fun i h st b hb => by
    obtain ⟨⟨old, he⟩, ⟨o, ho, hc, hd⟩, _⟩ := st
    have e' : b = e ∨ b = it := by simpa using hb
    rcases e' with z | z
    · rw [z]; exact ⟨_, he, fun v q => nomatch q⟩
    · rw [z]; exact ⟨o, ho, fun v q => by rw [hd] at q; cases q⟩
  keep := fun i h h' st k => let ⟨⟨old, he⟩, hi, hne⟩ := st; ⟨⟨old, k e (by simp) _ he⟩, hi.at fun o q => k it (by simp) o q, hne⟩
  item := by
    intro X hP hw hK hc i pins s σ H E I hf st hg
    subst hP hw hK
    obtain ⟨⟨old, he⟩, hit, hne, hai, hae⟩ := st
    obtain ⟨xs, x, hq, hx⟩ := hg
    obtain ⟨its, rv, p, hz⟩ := I.tuple hq
    obtain ⟨u, hu, ru⟩ := rv.get hx
    have hel : e < s.heap.objs.size := Heap.lt_size he
    have hil : it < s.heap.objs.size := by obtain ⟨_, q, _⟩ := hit; exact Heap.lt_size q
    have D := Draws.tuple (prog := X.prog) (w := X.w) (A := X.A.in1) (show X.A.in1.handled = none from I.ok.hd hc) it a hai its.toArray
    have hlt : i < its.toArray.size := by
      have := (List.getElem?_eq_some_iff.mp hu).1
      simpa using this
    refine wpAny_pyNext_enum_itemD (n := its.toArray.size) (fp := [it, a]) D he (show s.heap.IsTupleIter it a i ∧ s.heap.IsTuple a its.toArray from ⟨hit, p⟩) hlt hne (by simp only [List.mem_cons, List.not_mem_nil, or_false, not_or]; exact ⟨hne, fun z => hae z.symm⟩) fun x' h' tk hPx ho hst' hT hsz hk => ?_
    have ex : x' = u := by
      have hPx : its.toArray[i]? = some x' := hPx
      have h2 : its.toArray[i]? = some u := by simpa using hu
      rw [h2] at hPx
      exact (Option.some.inj hPx).symm
    subst ex
    have hit' := hst'.1
    refine ⟨_, rfl, wpAny_letOwnedTupleGo_enum (s := { s with heap := h', toks := tk + 1 }) ho fun h'' he' sb => ?_⟩
    have hT2 : h''.get? s.heap.objs.size = some { cls := .type "tuple", data := .seq #[.int i tk, x'] } := (sb.2 _ (Nat.ne_of_gt hel)).trans hT
    have new : ObjOk X.prog X.w (upd H s.heap.objs.size (.tup [.int (i : Nat), x])) h'' s.heap.objs.size (.tup [.int (i : Nat), x]) :=
      ⟨by show 2 ≤ sizeLine; decide, [.int i tk, x'], .cons ⟨_, rfl⟩ (.cons ru .nil), ⟨_, hT2, rfl, _, rfl⟩⟩
    have I1 : Inv X pins σ (upd H s.heap.objs.size (.tup [.int (i : Nat), x])) { s with heap := h'', toks := tk + 1 } :=
      I.turnedNew (ch := [e, it]) (fun b ob hb q => (sb.2 b (fun z => hb (by simp [z]))).trans (hk b ob (fun z => hb (by simp [z])) (fun z => hb (by simp [z])) q)) hf (Nat.le_refl _) new
    refine ⟨.ref s.heap.objs.size, _, I1, rfl, ⟨_, x, rfl, I.hok.fresh (Nat.le_refl _), rfl, fun ys hy => by rw [I.tuple_inj hy hq]; exact hx⟩, ⟨⟨x', ?_⟩, hit'.at fun o q => (sb.2 it (Ne.symm hne)).trans q, hne, hai, hae⟩, fun b hb => ?_⟩
    · have e1 : ((i + 1 : Nat) : Int) = (i : Int) + 1 := by omega
      rw [e1]; exact he'
    · have hb' : b < s.heap.objs.size := by
        have e' : b = e ∨ b = it := by simpa using hb
        rcases e' with z | z
        · rw [z]; exact hel
        · rw [z]; exact hil
      rw [upd_ne (Nat.ne_of_lt hb')]
      exact (hf b hb).1
  done := by
    intro X hP hw hK hc i pins s σ H E I hf st hg
    subst hP hw hK
    obtain ⟨⟨old, he⟩, hit, hne, hai, hae⟩ := st
    obtain ⟨xs, hq, hx⟩ := hg
    obtain ⟨its, rv, p, hz⟩ := I.tuple hq
    obtain ⟨f0, f1, f2, f3, f4, f5⟩ := hf it (by simp)
    have hl := rv.length
    have hT : s.TypeIs (.ref e) "enumerate" := ⟨_, he, rfl⟩
    have hh : X.A.in1.handled = none := I.ok.hd hc
    show wpAny _ _ (pyNext (.ref e)) _ _ _
    unfold pyNext
    refine wpAny_bind (wpAny_attempt (wpAny_callSpecial?_slot (name := Str.ofString "__next__") hT F.slot_enumerate_next
      (wpAny_call_entry F.slot_enumerate_next hT F.entry_enumerate_next ?_ (F.args_enumerate_next_1 _))))
    show wpAny _ _ (field (.ref e) 2 >>= _) _ _ _
    refine wpAny_bind (wpAny_field he rfl (x := .ref it) rfl ?_)
    refine wpAny_bind (PySem.wpAny_nextOf_tuple_end hh hit p (by simp; omega) fun h' x hx' hst => ?_)
    obtain ⟨o, ho, hc'⟩ := hst
    refine wpAny_bind (wpAny_isInstance (T := "StopIteration") (b := true) ⟨o, ho, hc'⟩ isSubtype_stop ?_)
    exact wpAny_pure ⟨rfl, I.turned (t' := s.toks) (fun b o hb q => hx' b o hb q) f0 f1 f3 f4 f5⟩
  self := fun A i s Q E st h => let ⟨⟨_, he⟩, _⟩ := st; wpAny_pyIter_enum he h
def iEnumT (K : PySem.W.Frag) (ta : TA) : TI := fun σ H R => ta σ H fun vs H1 => ∃ a xs, vs = [.ref a] ∧ SqT K H1 a xs ∧ R (IteT K a) H1
theorem pi_enumT {X : Cx} {e : Expr} {ta : TA} {p pos tpos : Pos} {elts : List Expr} {kk : Nat} (hg : Gl X "enumerate") (hm : X.mg "enumerate" = none) (ha : PA X [e] ta) (hs : starEach [e] X.env = [(false, eval e X.env)] := by rfl) :
    PI X (.Tuple elts kk tpos) (.Call (.Name "enumerate" p) [e] [] pos) (iEnumT X.K ta) := by
  refine ⟨fun pins s σ H R I h => ?_⟩
  refine Call_ (ld_blt I hg hm boot_enumerate (PyProof.Rows.callWith_type1 (thn (ha.run pos pins s σ H _ I h) fun us s1 ⟨vs, H1, I1, r1, q1⟩ => ?_) hs rfl))
  obtain ⟨a, xs, ex, hq, q⟩ := q1
  subst ex
  cases r1 with
  | cons r rr =>
    cases rr
    cases r
    obtain ⟨its, rv, p', hz⟩ := I1.tuple hq
    have hal : a < s1.heap.objs.size := by obtain ⟨o, ho, _⟩ := p'; exact Heap.lt_size ho
    refine enum_begins1 (begins_tuple a its.toArray) p' fun h' he hit hsz hk => wpAny_pyIter_enum he ?_
    have I2 : Inv X pins σ H1 { s1 with heap := h' } := I1.kept (t' := s1.toks) hk
    refine ⟨s1.heap.objs.size + 1, [s1.heap.objs.size + 1, s1.heap.objs.size], _, _, H1, rfl, I2, turn_enumT a (s1.heap.objs.size + 1) s1.heap.objs.size, ⟨⟨.none, he⟩, ⟨_, hit, rfl, rfl⟩, Nat.succ_ne_self _, Nat.ne_of_lt hal, Nat.ne_of_lt (Nat.lt_succ_of_lt hal)⟩, fun b hb => ?_, q⟩
    have e' : b = s1.heap.objs.size + 1 ∨ b = s1.heap.objs.size := by simpa using hb
    have hle : s1.heap.objs.size ≤ b := by
      rcases e' with z | z
      · rw [z]; exact Nat.le_add_right _ _
      · rw [z]; exact Nat.le_refl _
    exact I1.fpOk hle (I1.hok.fresh hle)
theorem walk_enumT {K : PySem.W.Frag} {a : Addr} {xs : List V} : Walk (IteT K a) xs.length (fun H => SqT K H a xs) (YPair (fun i => some (.int (i : Nat))) (fun i => xs[i]?)) := by
  refine ⟨fun i _ hi q => ⟨xs, xs[i], q, by simp [hi]⟩, fun _ q => ⟨xs, q, Nat.le_refl _⟩, fun i H v H' _ q y => ?_⟩
  obtain ⟨T, x, h1, h2, h3, h4⟩ := y
  exact ⟨T, .int (i : Nat), x, h1, h2, h3, rfl, h4 xs q⟩
theorem walk_zipT {K : PySem.W.Frag} {a b : Addr} {xs ys : List V} {n : Nat} (hn : n = min xs.length ys.length) : Walk (RZ.ItzT K a b) n (fun H => SqT K H a xs ∧ SqT K H b ys) (YPair (fun i => xs[i]?) (fun i => ys[i]?)) := by
  subst hn
  refine ⟨fun i _ hi q => ?_, fun _ q => ⟨xs, ys, q.1, q.2, by omega⟩, fun i H v H' _ q y => ?_⟩
  · have h1 : i < xs.length := by omega
    have h2 : i < ys.length := by omega
    exact ⟨xs, ys, xs[i], ys[i], q.1, q.2, by simp [h1], by simp [h2]⟩
  · obtain ⟨T, x, z, h1, h2, h3, h4, h5⟩ := y
    exact ⟨T, x, z, h1, h2, h3, h4 xs q.1, h5 ys q.2⟩
section
variable {ι : Type} {X : ι → Cx} {K : PySem.W.Frag} {cl : Kd → Addr} {γ : List G} {e e2 a b c iter : Expr} {es elts : List Expr} {kk : Nat} {tpos pos p : Pos} {md ma mb mc : Md} {W : Wd}
/-- enumerate(e), e a tuple -/
theorem iE (B : Bn W) {ds : List D} (h : DE X W.K W.cl e γ md (Is (.tup ds))) (ho : md.o = true := by rfl) (hX : ∀ i, W.at (X i) := by intro _; exact ⟨rfl, rfl, rfl, rfl, rfl, rfl⟩) (hg : ∀ i, Gl (X i) "enumerate" := by intro _; rfl) (he : ∀ i, starEach [e] (X i).env = [(false, eval e (X i).env)] := by intro _; rfl)
    (hpa : ∀ i, starEach [e] (X i).env = (false, eval e (X i).env) :: starEach [] (X i).env := by intro _; rfl) : DI X W.K W.cl (.Tuple elts kk tpos) (.Call (.Name "enumerate" p) [e] [] pos) γ md.m ds.length (fun i d => ∃ x, ds[i]? = some x ∧ d = .tup [.int i, x]) := by
  intro M H0 H σ E R q
  refine ⟨iEnumT W.K (rA X [e]), fun i => ?_, ?_⟩
  · obtain ⟨g1, g2, g3, g4, g5, g6⟩ := hX i
    rw [← g3]
    exact pi_enumT (hg i) (by rw [g4]; exact B.enumerate) (paR i) (he i)
  · refine (da_cons h da_nil hpa) M H0 H σ E _ fun vs H1 ds1 k1 ⟨d, r, e1, e2, e3⟩ r1 => ?_
    subst e1 e2 e3
    cases r1 with
    | cons t1 t2 =>
      cases t2
      have E1 := E.go k1
      have t := Tr.hid (md := md) E1 ho rfl
      cases t1 with
      | tup x1 x4 =>
        have y1 := t.tp W.K _ _ x1
        have y4 := x4.tr t
        refine ⟨_, _, rfl, x1, q _ H1 (fun H2 => SqT W.K H2 _ _) _ k1 (by rw [← x4.length]; exact walk_enumT) (fun H2 k2 => k2.sqT y1) fun i H2 v H2' hi k2 y => ?_⟩
        obtain ⟨T, u, x, rfl, hT, rfl, hu, hx⟩ := y
        obtain rfl := Option.some.inj hu
        obtain ⟨d, h1, h2⟩ := y4.get' hx
        exact ⟨Kp.new hT, _, ⟨d, h1, rfl⟩, .tup (SqT.of upd_same) (.cons (.int _) (.cons ((h2.tr (.kp k2)).tr (.kp (Kp.new hT))) .nil))⟩
/-- zip(e, e2), tuples -/
theorem iZ (B : Bn W) {ds es' : List D} (h : DE X W.K W.cl e γ ma (Is (.tup ds))) (h2 : DE X W.K W.cl e2 γ mb (Is (.tup es'))) (ho : (ma.mn mb).o = true := by rfl) (hX : ∀ i, W.at (X i) := by intro _; exact ⟨rfl, rfl, rfl, rfl, rfl, rfl⟩) (hg : ∀ i, Gl (X i) "zip" := by intro _; rfl)
    (he : ∀ i, starEach [e, e2] (X i).env = (false, eval e (X i).env) :: starEach [e2] (X i).env := by intro _; rfl) (hpl : ∀ i, (backTo pos (starEach [e2] (X i).env)).any (·.1) = false := by intro _; rfl)
    (he2 : ∀ i, starEach [e2] (X i).env = (false, eval e2 (X i).env) :: starEach [] (X i).env := by intro _; rfl) : DI X W.K W.cl (.Tuple elts kk tpos) (.Call (.Name "zip" p) [e, e2] [] pos) γ (ma.mn mb).m (min ds.length es'.length) (fun i d => ∃ x y, ds[i]? = some x ∧ es'[i]? = some y ∧ d = .tup [x, y]) := by
  intro M H0 H σ E R q
  refine ⟨RZ.iZipA W.K (rA X [e, e2]), fun i => ?_, ?_⟩
  · obtain ⟨g1, g2, g3, g4, g5, g6⟩ := hX i
    rw [← g3]
    exact RZ.pi_zipA (hg i) (by rw [g4]; exact B.zip) (paR i) (he i) (hpl i)
  · refine (ac h (ac h2 (an (X := X)) he2) he) M H0 H σ E _ fun vs H1 ds1 k1 e1 r1 => ?_
    subst e1
    cases r1 with
    | cons t1 t2 =>
      cases t2 with
      | cons t2 t3 =>
        cases t3
        have E1 := E.go k1
        have t := Tr.hid (md := ma.mn (mb.mn mF)) (b := (ma.mn mb).m) E1 (by simpa using ho) (by simp)
        cases t1 with
        | tup x1 x4 =>
          cases t2 with
          | tup z1 z4 =>
            have y1 := t.tp W.K _ _ x1
            have y4 := x4.tr t
            have w1 := t.tp W.K _ _ z1
            have w4 := z4.tr t
            refine ⟨_, _, _, _, rfl, .inr ⟨x1, z1, q _ H1 (fun H2 => SqT W.K H2 _ _ ∧ SqT W.K H2 _ _) _ k1 (walk_zipT (by rw [x4.length, z4.length])) (fun H2 k2 => ⟨k2.sqT y1, k2.sqT w1⟩) fun i H2 v H2' hi k2 y => ?_⟩⟩
            obtain ⟨T, u, x, rfl, hT, rfl, hu, hx⟩ := y
            obtain ⟨d, g1, g2⟩ := y4.get' hu
            obtain ⟨d', g3, g4⟩ := w4.get' hx
            exact ⟨Kp.new hT, _, ⟨d, d', g1, g3, rfl⟩, .tup (SqT.of upd_same) (.cons ((g2.tr (.kp k2)).tr (.kp (Kp.new hT))) (.cons ((g4.tr (.kp k2)).tr (.kp (Kp.new hT))) .nil))⟩
end
end DL

/-! E0: the text by places; data as plain Lean. -/
namespace K51
open PySem PySem.Spec PyProof.Rows L2 DL
def top (i : Nat) : Stmt := PySem.Challenge.pw_shelfterms_k51_whole_gates_hold.main.body.getD i (.Pass ⟨0, 0, 0, 0⟩)

/-! ### data -/
def lint (ns : List Int) : D := .lst (ns.map D.int)
/-- a book, a step, a tuple of marks -/
def tint (ns : List Int) : D := .tup (ns.map D.int)
abbrev Term := Int × Int
def dTerm (t : Term) : D := .tup [.int t.1, .int t.2]
def dTerms (ts : List Term) : D := .lst (ts.map dTerm)
def tTerms (ts : List Term) : D := .tup (ts.map dTerm)
abbrev Place := Str × Int × Int
def dPlace (p : Place) : D := .tup [.str p.1, .int p.2.1, .int p.2.2]
abbrev Block := Term × Place
def dBlock (b : Block) : D := .tup [dTerm b.1, dPlace b.2]
abbrev Book := List Int
def dBooks (bs : List Book) : D := .lst (bs.map tint)
def dShelves (S : List (List Book)) : D := .lst (S.map dBooks)

theorem immA_ints : ∀ ns : List Int, D.immA (ns.map D.int) = true
  | [] => rfl
  | n :: r => by rw [List.map_cons, D.immA, immA_ints r]; rfl
theorem imm_tint (ns : List Int) : (tint ns).imm = true := by unfold tint; rw [D.imm]; exact immA_ints ns
theorem imm_dTerm (t : Term) : (dTerm t).imm = true := rfl
theorem imm_dPlace (t : Place) : (dPlace t).imm = true := rfl
theorem imm_dBlock (t : Block) : (dBlock t).imm = true := rfl
theorem immA_map {α : Type} (f : α → D) (h : ∀ x, (f x).imm = true) (l : List α) : D.immA (l.map f) = true := immA_mem fun d hd => by
  obtain ⟨x, _, rfl⟩ := List.mem_map.mp hd
  exact h x
/-- the i-th of a list of data -/
theorem at_map {α : Type} (f : α → D) {l : List α} {i : Nat} {x : α} (h : l[i]? = some x) : atI (l.map f) (i : Int) = some (f x) := atI_nat (by rw [List.getElem?_map, h]; rfl)
theorem at_map' {α : Type} (f : α → D) {l : List α} {i : Int} {x : α} (h0 : 0 ≤ i) (h : l[i.toNat]? = some x) : atI (l.map f) i = some (f x) := by
  have e : i = ((i.toNat : Nat) : Int) := by omega
  rw [e]
  exact at_map f h
theorem get_map {α : Type} {f : α → D} {l : List α} {i : Nat} {d : D} (h : (l.map f)[i]? = some d) : ∃ x, l[i]? = some x ∧ d = f x := by
  rw [List.getElem?_map] at h
  cases e : l[i]? with
  | none => rw [e] at h; cases h
  | some x => rw [e] at h; exact ⟨x, rfl, (Option.some.inj h).symm⟩
theorem cmA_ints (n : Nat) : ∀ ns : List Int, D.cmA n (ns.map D.int) = true
  | [] => by simp [D.cmA]
  | a :: r => by rw [List.map_cons, D.cmA, cmA_ints n r]; simp [D.cm]
theorem cm_ints (ns : List Int) : (lint ns).cm 1 = true := by simp [lint, D.cm, cmA_ints]
theorem cm_tint (ns : List Int) : (tint ns).cm 1 = true := by simp [tint, D.cm, cmA_ints]
theorem cm_dTerm (t : Term) : (dTerm t).cm 1 = true := by simp [dTerm, D.cm, D.cmA]
theorem cmA_map {α : Type} {n : Nat} (f : α → D) (h : ∀ x, (f x).cm n = true) (l : List α) : D.cmA n (l.map f) = true := cmA_of fun d hd => by
  obtain ⟨x, _, rfl⟩ := List.mem_map.mp hd
  exact h x
theorem cm_dTerms (ts : List Term) : (dTerms ts).cm 2 = true := by simp [dTerms, D.cm, cmA_map dTerm cm_dTerm ts]
theorem cm_tTerms (ts : List Term) : (tTerms ts).cm 2 = true := by simp [tTerms, D.cm, cmA_map dTerm cm_dTerm ts]
theorem dTerm_inj {s t : Term} (h : dTerm s = dTerm t) : s = t := by
  obtain ⟨a, b⟩ := s
  obtain ⟨c, d⟩ := t
  unfold dTerm at h
  injection h with h
  injection h with h1 h2
  injection h2 with h2 _
  injection h1 with h1
  injection h2 with h2
  exact Prod.ext h1 h2
theorem map_inj {α : Type} {f : α → D} (hf : ∀ a b, f a = f b → a = b) : ∀ {l m : List α}, l.map f = m.map f → l = m
  | [], [], _ => rfl
  | [], _ :: _, h => by cases h
  | _ :: _, [], h => by cases h
  | a :: l, b :: m, h => by
    rw [List.map_cons, List.map_cons] at h
    injection h with h1 h2
    rw [hf _ _ h1, map_inj hf h2]
theorem int_inj (a b : Int) (h : D.int a = D.int b) : a = b := by injection h
theorem mem_map_iff {α : Type} {f : α → D} (hf : ∀ a b, f a = f b → a = b) {x : α} {l : List α} : f x ∈ l.map f ↔ x ∈ l := by
  constructor
  · intro h
    obtain ⟨y, hy, e⟩ := List.mem_map.mp h
    rw [← hf _ _ e]
    exact hy
  · exact fun h => List.mem_map.mpr ⟨x, h, rfl⟩
theorem tint_inj (a b : List Int) (h : tint a = tint b) : a = b := by
  unfold tint at h
  injection h with h
  exact map_inj int_inj h
end K51

namespace K51
open PySem PySem.Spec PyProof.Rows L2 DL
/-! ### _law_step -/
def sgn (a b : Int) : Int := (if a < b then 1 else 0) - (if b < a then 1 else 0)
def stp (a b : List Int) : List Int := List.zipWith sgn a b
theorem sc_step : FnScope ["_law_first", "_law_second", "_law_signs", "_law_k"] ["_law_first", "_law_second"] (defScope (top 54)) := ⟨rfl, rfl, rfl, by decide +kernel, rfl, by decide +kernel, by decide +kernel⟩
abbrev cStep (W : Wd) : Sp := Con W.K W.cl 2 (fun x : List Int × List Int => [tint x.1, tint x.2]) (fun x => x.1.length = x.2.length ∧ x.1.length ≤ 100) (fun x d => d = tint (stp x.1 x.2))
theorem ok_step {W : Wd} {f : Addr} {fd : FuncData} (F : FnP W "_law_step" "_law_step" (top 54) f fd) (B : Bn W) : FnOk W.P W.w W.K W.mg W.base CX0 1 f fd ["_law_first", "_law_second"] (cStep W) := by
  refine fn_con F sc_step rfl fun cdv A outer s H E hr x _ hp => ?_
  have nd := sc_step.nd
  obtain ⟨a, b⟩ := x
  obtain ⟨hl, hz⟩ := hp
  have hl : a.length = b.length := hl
  have hz : a.length ≤ 100 := hz
  refine sq (setO 2 de_nil (fun d h => ⟨[], h, rfl, ?_⟩))
  refine sq (for_ (sl := [3]) (fun i γ' => ∃ g, γ' = [.v false (tint a), .v false (tint b), .ow (((stp a b).take i).map D.int), g]) (iR B (len_ B (v 0) (.t _)) (by rw [List.length_map]; omega) (by rw [List.length_map]; omega)) ⟨_, rfl⟩ (fun i γ' d hi hI hd => ?_) (fun γ' hI => ?_))
  · obtain ⟨g, rfl⟩ := hI
    subst hd
    have hi' : i < a.length := by simpa using hi
    have ha : a[i]? = some a[i] := List.getElem?_eq_getElem hi'
    have hb : b[i]? = some (b[i]'(by omega)) := List.getElem?_eq_getElem (by omega)
    have hs : (stp a b)[i]? = some (sgn a[i] (b[i]'(by omega))) := by simp [stp, List.getElem?_zipWith, ha, hb]
    refine gn 3 (dss_one (app 2 (subE (intB_ B (ciV ci_lt (ixI (v 0) (v 3) (.t _) (at_map D.int ha)) (ixI (v 1) (v 3) (.t _) (at_map D.int hb)))) (intB_ B (ciV ci_gt (ixI (v 0) (v 3) (.t _) (at_map D.int ha)) (ixI (v 1) (v 3) (.t _) (at_map D.int hb))))) ?_ (fun d hd => ?_)))
    · rw [List.length_map, List.length_take]; omega
    · subst hd
      have e : ((stp a b).take i).map D.int ++ [D.int ((if a[i] < b[i] then 1 else 0) - (if b[i] < a[i] then 1 else 0))] = ((stp a b).take (i + 1)).map D.int := by
        rw [List.take_add_one, hs, List.map_append]; rfl
      rw [e]
      exact ⟨hom_ints _, _, rfl⟩
  · obtain ⟨g, rfl⟩ := hI
    refine dss_one (ret (tuple_ B (vo 2) (.l _)) fun d h => ?_)
    subst h
    show D.tup _ = tint (stp a b)
    unfold tint
    rw [List.take_of_length_le]
    simp [stp]; omega
end K51

namespace K51
open PySem PySem.Spec PyProof.Rows L2 DL
/-- a draw -/
abbrev cTake (W : Wd) : Sp := Con W.K W.cl 2 (fun z : Int => [.box, .int z]) (fun z => 0 < z ∧ z ≤ 1000000) (fun z d => IsI (fun r => 0 ≤ r ∧ r < z) d)
theorem IsI.mono {p q : Int → Prop} {d : D} (h : IsI p d) (hq : ∀ i, p i → q i) : IsI q d := by obtain ⟨i, e, hi⟩ := h; exact ⟨i, e, hq i hi⟩
theorem hom_b {ds : List D} (h : (ds.all (·.isI) || ds.all (fun d => !d.isI)) = true) : hom ds := by
  rw [Bool.or_eq_true, List.all_eq_true, List.all_eq_true] at h
  rcases h with h | h
  · exact .inl h
  · exact .inr fun d hd => by simpa using h d hd
theorem hom_terms (ts : List Term) : hom (ts.map dTerm) := hom_map _ (fun _ => rfl) _
theorem hom_tint (ts : List Book) : hom (ts.map tint) := hom_map _ (fun _ => rfl) _

/-! ### _law_count -/
theorem sc_count : FnScope ["_law_box_here"] ["_law_box_here"] (defScope (top 40)) := ⟨rfl, rfl, rfl, by decide +kernel, rfl, by decide +kernel, by decide +kernel⟩
abbrev cCount (W : Wd) : Sp := Con W.K W.cl 1 (fun _ : Unit => [.box]) (fun _ => True) (fun _ d => ∃ n : Nat, d = .int n ∧ 1 ≤ n ∧ n ≤ 4)
theorem ok_count {W : Wd} {f : Addr} {fd : FuncData} (F : FnP W "_law_count" "_law_count" (top 40) f fd) (B : Bn W) (Ft : GFn W "_law_take" 1 (cTake W)) : FnOk W.P W.w W.K W.mg W.base CX0 2 f fd ["_law_box_here"] (cCount W) := by
  refine fn_con F sc_count rfl fun cdv A outer s H E hr x _ hp => ?_
  have nd := sc_count.nd
  have key : ∀ i : Int, 0 ≤ i ∧ i < 7 → ∃ n : Nat, atI (([3, 1, 2, 3, 4, 3, 2] : List Int).map D.int) i = some (.int n) ∧ 1 ≤ n ∧ n ≤ 4 := by
    intro i ⟨h0, h1⟩
    have : i = 0 ∨ i = 1 ∨ i = 2 ∨ i = 3 ∨ i = 4 ∨ i = 5 ∨ i = 6 := by omega
    rcases this with rfl | rfl | rfl | rfl | rfl | rfl | rfl
    · exact ⟨3, rfl, by decide, by decide⟩
    · exact ⟨1, rfl, by decide, by decide⟩
    · exact ⟨2, rfl, by decide, by decide⟩
    · exact ⟨3, rfl, by decide, by decide⟩
    · exact ⟨4, rfl, by decide, by decide⟩
    · exact ⟨3, rfl, by decide, by decide⟩
    · exact ⟨2, rfl, by decide, by decide⟩
  refine dss_one (ret (ixP (P := fun d => ∃ n : Nat, d = .int n ∧ 1 ≤ n ∧ n ≤ 4) (lstE (ac ki (ac ki (ac ki (ac ki (ac ki (ac ki (ac ki an))))))) (hom_b rfl)) (call (7 : Int) Ft (fun _ => hr) (ac (v 0) (ac ki an)) ⟨by decide, by decide⟩) (.l _) (fun i hi => ?_)) (fun d h => h))
  obtain ⟨n, h1, h2⟩ := key i hi
  exact ⟨_, h1, n, rfl, h2⟩

/-! ### _law_kinds -/
theorem sc_kinds : FnScope ["_law_box_here", "_law_count_here", "_law_k"] ["_law_box_here", "_law_count_here"] (defScope (top 41)) := ⟨rfl, rfl, rfl, by decide +kernel, rfl, by decide +kernel, by decide +kernel⟩
abbrev cKinds (W : Wd) : Sp := Con W.K W.cl 2 (fun n : Nat => [.box, .int n]) (fun n => n ≤ 4) (fun n d => ∃ ks : List Int, d = lint ks ∧ ks.length = n ∧ ∀ k ∈ ks, 0 ≤ k ∧ k < 5)
theorem ok_kinds {W : Wd} {f : Addr} {fd : FuncData} (F : FnP W "_law_kinds" "_law_kinds" (top 41) f fd) (B : Bn W) (Ft : GFn W "_law_take" 1 (cTake W)) : FnOk W.P W.w W.K W.mg W.base CX0 2 f fd ["_law_box_here", "_law_count_here"] (cKinds W) := by
  refine fn_con F sc_kinds rfl fun cdv A outer s H E hr n _ hp => ?_
  have nd := sc_kinds.nd
  have hp : n ≤ 4 := hp
  refine dss_one (ret (each [("_law_k", 2)] [2] D.int (fun k => 0 ≤ k ∧ k < 5) (iR B (v 1) (by omega) (by omega)) (by omega) (fun i d hi hd => ?_) hom_ints) (fun d h => ?_))
  · exact gn 2 (el (call (5 : Int) Ft (fun _ => hr) (ac (v 0) (ac ki an)) ⟨by decide, by decide⟩))
  · obtain ⟨ks, h1, h2, h3⟩ := h
    exact ⟨ks, h1, by omega, h3⟩

/-! ### _law_value -/
theorem sc_value : FnScope ["_law_kind", "_law_digit", "_law_rows"] ["_law_kind", "_law_digit"] (defScope (top 42)) := ⟨rfl, rfl, rfl, by decide +kernel, rfl, by decide +kernel, by decide +kernel⟩
def rowsV : List (List Int) := [[-1, 0, 1], [-999983, 20, 1000023], [-1000000000000, 0, 1000000000000], [-7, 0, 1000000000000], [3, 90, 91]]
def okV (v : Int) : Prop := -1000000000000 ≤ v ∧ v ≤ 1000000000000
instance (v : Int) : Decidable (okV v) := inferInstanceAs (Decidable (_ ∧ _))
abbrev cValue (W : Wd) : Sp := Con W.K W.cl 2 (fun x : Int × Int => [.int x.1, .int x.2]) (fun x => 0 ≤ x.1 ∧ x.1 < 5 ∧ 0 ≤ x.2 ∧ x.2 < 3) (fun n d => IsI okV d)
theorem ok_value {W : Wd} {f : Addr} {fd : FuncData} (F : FnP W "_law_value" "_law_value" (top 42) f fd) (B : Bn W) : FnOk W.P W.w W.K W.mg W.base CX0 1 f fd ["_law_kind", "_law_digit"] (cValue W) := by
  refine fn_con F sc_value rfl fun cdv A outer s H E hr x _ hp => ?_
  have nd := sc_value.nd
  obtain ⟨k, j⟩ := x
  obtain ⟨h0, h1, h2, h3⟩ := hp
  have hl : k.toNat < rowsV.length := by show k.toNat < 5; have : k < 5 := h1; omega
  have hrow : rowsV[k.toNat]? = some rowsV[k.toNat] := List.getElem?_eq_getElem hl
  have hall : ∀ row ∈ rowsV, row.length = 3 ∧ ∀ v ∈ row, okV v := by decide
  obtain ⟨g1, g2⟩ := hall _ (List.mem_of_getElem? hrow)
  have hj : j.toNat < (rowsV[k.toNat]).length := by rw [g1]; have : j < 3 := h3; omega
  have hc : (rowsV[k.toNat])[j.toNat]? = some (rowsV[k.toNat])[j.toNat] := List.getElem?_eq_getElem hj
  have cp : CPow 10 12 := ⟨by decide, by decide, by decide⟩
  refine sq (set 2 (P := Is (.lst (rowsV.map lint))) (lstE (ac (lstE (ac (negE ki) (ac ki (ac ki an))) (hom_b rfl)) (ac (lstE (ac (negE ki) (ac ki (ac ki an))) (hom_b rfl)) (ac (lstE (ac (negE (powE ki ki cp)) (ac ki (ac (powE ki ki cp) an))) (hom_b rfl)) (ac (lstE (ac (negE ki) (ac ki (ac (powE ki ki cp) an))) (hom_b rfl)) (ac (lstE (ac ki (ac ki (ac ki an))) (hom_b rfl)) an))))) (hom_b rfl)) (fun d h => ?_))
  subst h
  refine dss_one (ret (ixI (ix (v 2) (v 0) (.l _) (at_map' lint h0 hrow)) (v 1) (.l _) (at_map' D.int h2 hc)) (fun d h => ?_))
  subst h
  exact ⟨_, rfl, g2 _ (List.mem_of_getElem? hc)⟩

/-! ### _law_book -/
def okB (n : Nat) (b : Book) : Prop := b.length = n ∧ ∀ v ∈ b, okV v
theorem sc_book : FnScope ["_law_box_here", "_law_kinds_here", "_law_kind"] ["_law_box_here", "_law_kinds_here"] (defScope (top 43)) := ⟨rfl, rfl, rfl, by decide +kernel, rfl, by decide +kernel, by decide +kernel⟩
def okK (ks : List Int) : Prop := ks.length ≤ 4 ∧ ∀ k ∈ ks, 0 ≤ k ∧ k < 5
abbrev cBook (W : Wd) : Sp := Con W.K W.cl 2 (fun ks : List Int => [.box, lint ks]) okK (fun ks d => ∃ b, d = tint b ∧ okB ks.length b)
theorem ok_book {W : Wd} {f : Addr} {fd : FuncData} (F : FnP W "_law_book" "_law_book" (top 43) f fd) (B : Bn W) (Ft : GFn W "_law_take" 1 (cTake W)) (Fv : GFn W "_law_value" 1 (cValue W)) : FnOk W.P W.w W.K W.mg W.base CX0 2 f fd ["_law_box_here", "_law_kinds_here"] (cBook W) := by
  refine fn_con F sc_book rfl fun cdv A outer s H E hr ks _ hp => ?_
  have nd := sc_book.nd
  obtain ⟨hz, hk⟩ := hp
  refine dss_one (ret (tupleP B (each [("_law_kind", 2)] [2] D.int okV (iL (v 1) rfl) (by rw [List.length_map]; omega) (fun i d hi hd => ?_) hom_ints) (fun s h => by obtain ⟨b, h1, h2, h3⟩ := h; exact ⟨b.map D.int, by rw [h1]; exact .l _, b, rfl, by rw [h2, List.length_map], h3⟩)) (fun d h => h))
  obtain ⟨k, hk', rfl⟩ := get_map hd
  refine gn 2 (el (callP (P := fun d => ∃ y, d = D.int y ∧ okV y) Fv (fun _ => hr) (acP (vi 2 (d := .int k)) (acP (call (3 : Int) Ft (fun _ => hr) (ac (v 0) (ac ki an)) ⟨by decide, by decide⟩) an)) (fun ds ⟨d1, r, e1, e2, d2, r2, e3, ⟨j, e4, h4⟩, e5⟩ => ?_)))
  subst e1 e2 e3 e4 e5
  exact ⟨(k, j), rfl, rfl, ⟨(hk k (List.mem_of_getElem? hk')).1, (hk k (List.mem_of_getElem? hk')).2, h4.1, h4.2⟩, fun d h => h⟩
end K51

namespace K51
open PySem PySem.Spec PyProof.Rows L2 DL
theorem map_erase {α β : Type} (f : α → β) : ∀ (l : List α) (n : Nat), (l.map f).eraseIdx n = (l.eraseIdx n).map f
  | [], _ => rfl
  | a :: l, 0 => rfl
  | a :: l, n + 1 => by
    show f a :: (l.map f).eraseIdx n = f a :: (l.eraseIdx n).map f
    rw [map_erase f l n]
theorem seqIx {j : Int} {n : Nat} (h0 : 0 ≤ j) (h1 : j < n) : seqIndex? j n = some j.toNat := by
  simp only [seqIndex?]
  rw [if_neg (show ¬ j < 0 by omega)]
  simp [h0, h1]
def vt (n : Nat) (t : Term) : Prop := 0 ≤ t.1 ∧ t.1 < n ∧ (t.2 = 1 ∨ t.2 = -1)

/-! ### _law_rule -/
theorem sc_rule : FnScope ["_law_box_here", "_law_count_here", "_law_left", "_law_terms_here", "_law_k", "_law_mark"] ["_law_box_here", "_law_count_here"] (defScope (top 44)) := ⟨rfl, rfl, rfl, by decide +kernel, rfl, by decide +kernel, by decide +kernel⟩
abbrev cRule (W : Wd) : Sp := Con W.K W.cl 2 (fun n : Nat => [.box, .int n]) (fun n => n ≤ 4) (fun n d => LP dTerm (vt n) 4 d)
theorem ok_rule {W : Wd} {f : Addr} {fd : FuncData} (F : FnP W "_law_rule" "_law_rule" (top 44) f fd) (B : Bn W) (Ft : GFn W "_law_take" 1 (cTake W)) : FnOk W.P W.w W.K W.mg W.base CX0 2 f fd ["_law_box_here", "_law_count_here"] (cRule W) := by
  refine fn_con F sc_rule rfl fun cdv A outer s H E hr n _ hp => ?_
  have nd := sc_rule.nd
  have hp : n ≤ 4 := hp
  refine sq (setO 2 (listRange B (v 1) (by omega) (by omega)) (fun d h => ⟨_, h, immA_ints _, ?_⟩))
  refine sq (setO 3 de_nil (fun d h => ⟨[], h, rfl, ?_⟩))
  refine sq (for_ (sl := [4]) (fun i γ' => ∃ (ms : List Int) (ts : List Term) (g4 g5 : G), γ' = [.v false .box, .v false (.int n), .ow (ms.map D.int), .ow (ts.map dTerm), g4, g5] ∧ ms.length + i = n ∧ ts.length = i ∧ (∀ m ∈ ms, 0 ≤ m ∧ m < n) ∧ ∀ t ∈ ts, vt n t) (iR B (v 1) (by omega) (by omega)) ?_ (fun i γ' d hi hI hd => ?_) (fun γ' hI => ?_))
  · refine ⟨_, [], _, _, rfl, by simp, rfl, fun m hm => ?_, by simp⟩
    obtain ⟨a, ha, rfl⟩ := List.mem_map.mp hm
    have := List.mem_range.mp ha
    omega
  · obtain ⟨ms, ts, g4, g5, rfl, h1, h2, h3, h4⟩ := hI
    subst hd
    have hi : i < n := by omega
    refine gn 4 (sq (pop 2 5 (call ((ms.map D.int).length : Int) Ft (fun _ => hr) (ac (v 0) (ac (len_ B (vo 2) (.l _)) an)) ⟨by rw [List.length_map]; omega, by rw [List.length_map]; omega⟩) (fun j hj => ?_)))
    rw [List.length_map] at hj
    have hl : j.toNat < ms.length := by omega
    have hg : ms[j.toNat]? = some ms[j.toNat] := List.getElem?_eq_getElem hl
    refine ⟨j.toNat, .int ms[j.toNat], ?_, by omega, by omega, by rw [List.getElem?_map, hg]; rfl, ?_, ?_⟩
    · rw [List.length_map]; exact seqIx hj.1 hj.2
    · have e : (ms.map D.int).eraseIdx j.toNat = (ms.eraseIdx j.toNat).map D.int := map_erase _ _ _
      rw [e]; exact hom_ints _
    · refine dss_one (app 3 (de_tup (P := fun d => ∃ t, d = dTerm t ∧ vt n t) (acP (vi 5) (acP (subP (p := (· = 1)) (q := fun r => r = 0 ∨ r = 2) (s := fun r => r = 1 ∨ r = -1) ki.i (mulP (p := (· = 2)) (q := fun r => 0 ≤ r ∧ r < 2) ki.i (call (2 : Int) Ft (fun _ => hr) (ac (v 0) (ac ki an)) ⟨by decide, by decide⟩) ?_) ?_) an)) ?_) ?_ (fun d h => ?_))
      · rintro _ k rfl hk
        exact ⟨.inl ⟨by decide, by decide⟩, by omega⟩
      · rintro _ k rfl hk
        omega
      · rintro ds ⟨d1, r, rfl, rfl, d2, r2, rfl, ⟨k, rfl, hk⟩, rfl⟩
        exact ⟨by show 2 ≤ 100000; decide, (ms[j.toNat], k), rfl, (h3 _ (List.mem_of_getElem? hg)).1, (h3 _ (List.mem_of_getElem? hg)).2, hk⟩
      · rw [List.length_map]; omega
      · obtain ⟨t, rfl, ht⟩ := h
        have e : ts.map dTerm ++ [dTerm t] = (ts ++ [t]).map dTerm := by rw [List.map_append]; rfl
        rw [e]
        refine ⟨hom_terms _, ms.eraseIdx j.toNat, ts ++ [t], .v true (.int (i : Int)), .v true (.int ms[j.toNat]), ?_, ?_, ?_, fun m hm => h3 m (List.mem_of_mem_eraseIdx hm), fun z hz => ?_⟩
        · rw [← map_erase]; rfl
        · rw [List.length_eraseIdx, if_pos hl]; omega
        · rw [List.length_append, h2]; rfl
        · rcases List.mem_append.mp hz with z1 | z1
          · exact h4 z z1
          · rw [List.mem_singleton] at z1; rw [z1]; exact ht
  · obtain ⟨ms, ts, g4, g5, rfl, h1, h2, h3, h4⟩ := hI
    refine dss_one (ret (vo 3) fun d h => ?_)
    exact ⟨ts, h, by omega, h4⟩

/-! ### _law_compare -/
def cmp : List Term → Book → Book → Int
  | [], _, _ => 0
  | t :: r, a, b => if a.getD t.1.toNat 0 ≠ b.getD t.1.toNat 0 then (if (a.getD t.1.toNat 0 < b.getD t.1.toNat 0 ↔ t.2 = 1) then -1 else 1) else cmp r a b
theorem sc_compare : FnScope ["_law_terms_here", "_law_first", "_law_second", "_law_term"] ["_law_terms_here", "_law_first", "_law_second"] (defScope (top 45)) := ⟨rfl, rfl, rfl, by decide +kernel, rfl, by decide +kernel, by decide +kernel⟩
abbrev cCompare (W : Wd) : Sp := Con W.K W.cl 3 (fun x : List Term × Book × Book => [dTerms x.1, tint x.2.1, tint x.2.2]) (fun x => x.2.1.length = x.2.2.length ∧ ∀ t ∈ x.1, 0 ≤ t.1 ∧ t.1 < x.2.1.length) (fun x d => d = .int (cmp x.1 x.2.1 x.2.2))
theorem ok_compare {W : Wd} {f : Addr} {fd : FuncData} (F : FnP W "_law_compare" "_law_compare" (top 45) f fd) (B : Bn W) : FnOk W.P W.w W.K W.mg W.base CX0 1 f fd ["_law_terms_here", "_law_first", "_law_second"] (cCompare W) := by
  refine fn_con F sc_compare rfl fun cdv A outer s H E hr x _ hp => ?_
  have nd := sc_compare.nd
  obtain ⟨ts, a, b⟩ := x
  obtain ⟨hl, hv⟩ := hp
  have hl : a.length = b.length := hl
  have hv : ∀ t ∈ ts, 0 ≤ t.1 ∧ t.1 < (a.length : Int) := hv
  refine sq (for_ (sl := [3]) (fun i γ' => ∃ g, γ' = [.v false (dTerms ts), .v false (tint a), .v false (tint b), g] ∧ cmp ts a b = cmp (ts.drop i) a b) (iL (v 0) rfl) ⟨_, rfl, rfl⟩ (fun i γ' d hi hI hd => ?_) (fun γ' hI => ?_))
  · obtain ⟨g, rfl, hc⟩ := hI
    obtain ⟨t, ht, rfl⟩ := get_map hd
    obtain ⟨h0, h1⟩ := hv t (List.mem_of_getElem? ht)
    have ga : a[t.1.toNat]? = some (a.getD t.1.toNat 0) := by rw [List.getD_eq_getElem?_getD, List.getElem?_eq_getElem (by omega)]; rfl
    have gb : b[t.1.toNat]? = some (b.getD t.1.toNat 0) := by rw [List.getD_eq_getElem?_getD, List.getElem?_eq_getElem (by omega)]; rfl
    have hdr : ts.drop i = t :: ts.drop (i + 1) := by
      have hl' : i < ts.length := (List.getElem?_eq_some_iff.mp ht).1
      rw [List.drop_eq_getElem_cons hl', (List.getElem?_eq_some_iff.mp ht).2]
    rw [hdr] at hc
    refine gn 3 (dss_one (ds_if (dt_ciE ci_ne (ixI (v 1) (ixI (v 3) ki (.t _) rfl) (.t _) (at_map' D.int h0 ga)) (ixI (v 2) (ixI (v 3) ki (.t _) rfl) (.t _) (at_map' D.int h0 gb))) (fun hne => ?_) (fun he => ?_)))
    · refine sq (ds_if (dt_eqB (ciV ci_lt (ixI (v 1) (ixI (v 3) ki (.t _) rfl) (.t _) (at_map' D.int h0 ga)) (ixI (v 2) (ixI (v 3) ki (.t _) rfl) (.t _) (at_map' D.int h0 gb))) (ciV ci_eq (ixI (v 3) ki (.t _) rfl) ki)) (fun h => ?_) (fun h => ?_))
      · refine dss_one (ret (negE ki) fun d h' => ?_)
        rw [h', hc, cmp, if_pos hne, if_pos h]
      · refine dss_nil ?_
        refine dss_one (ret ki fun d h' => ?_)
        rw [h', hc, cmp, if_pos hne, if_neg h]
    · refine dss_nil ⟨_, rfl, ?_⟩
      rw [hc, cmp, if_neg he]
  · obtain ⟨g, rfl, hc⟩ := hI
    refine dss_one (ret ki fun d h => ?_)
    rw [h, hc]
    simp [cmp]

/-! ### _law_name -/
def names : List Str := ["low", "top", "b", "middle", "aa", "q"]
def nm (k : Nat) : Str := (names[k]?).getD ""
theorem sc_name : FnScope ["_law_k"] ["_law_k"] (defScope (top 48)) := ⟨rfl, rfl, rfl, by decide +kernel, rfl, by decide +kernel, by decide +kernel⟩
abbrev cName (W : Wd) : Sp := Con W.K W.cl 1 (fun k : Nat => [.int k]) (fun k => k < 6) (fun k d => d = .str (nm k))
theorem ok_name {W : Wd} {f : Addr} {fd : FuncData} (F : FnP W "_law_name" "_law_name" (top 48) f fd) (B : Bn W) : FnOk W.P W.w W.K W.mg W.base CX0 1 f fd ["_law_k"] (cName W) := by
  refine fn_con F sc_name rfl fun cdv A outer s H E hr k _ hp => ?_
  have nd := sc_name.nd
  have hk : names[k]? = some (nm k) := by
    have : k < names.length := hp
    unfold nm
    rw [List.getElem?_eq_getElem this]; rfl
  exact dss_one (ret (ixI (lstE (ac ks (ac ks (ac ks (ac ks (ac ks (ac ks an)))))) (hom_b rfl)) (v 0) (.l (names.map D.str)) (at_map D.str hk)) (fun d h => h))
end K51

namespace K51
open PySem PySem.Spec PyProof.Rows L2 DL

/-! ### _law_sorted -/
theorem sc_sorted : FnScope ["_law_terms_here", "_law_books", "_law_row", "_law_book_here", "_law_at", "_law_one"] ["_law_terms_here", "_law_books"] (defScope (top 46)) := ⟨rfl, rfl, rfl, by decide +kernel, rfl, by decide +kernel, by decide +kernel⟩
abbrev cSorted (W : Wd) : Sp := Con W.K W.cl 2 (fun x : List Term × List Book × Nat => [dTerms x.1, dBooks x.2.1]) (fun x => x.2.1.length ≤ 5 ∧ (∀ t ∈ x.1, vt x.2.2 t) ∧ ∀ b ∈ x.2.1, okB x.2.2 b) (fun x d => LP tint (okB x.2.2) 5 d)
theorem ok_sorted {W : Wd} {f : Addr} {fd : FuncData} (F : FnP W "_law_sorted" "_law_sorted" (top 46) f fd) (B : Bn W) (Fc : GFn W "_law_compare" 1 (cCompare W)) : FnOk W.P W.w W.K W.mg W.base CX0 2 f fd ["_law_terms_here", "_law_books"] (cSorted W) := by
  refine fn_con F sc_sorted rfl fun cdv A outer s H E hr x _ hp => ?_
  have nd := sc_sorted.nd
  obtain ⟨ts, bs, n⟩ := x
  obtain ⟨hz, ht, hb⟩ := hp
  have hz : bs.length ≤ 5 := hz
  have ht : ∀ t ∈ ts, vt n t := ht
  have hb : ∀ b ∈ bs, okB n b := hb
  refine sq (setO 2 de_nil (fun d h => ⟨[], h, rfl, ?_⟩))
  refine sq (for_ (sl := [3]) (fun i γ' => ∃ (cs : List Book) (g3 g4 g5 : G), γ' = [.v false (dTerms ts), .v false (dBooks bs), .ow (cs.map tint), g3, g4, g5] ∧ cs.length = i ∧ ∀ c ∈ cs, okB n c) (iL (v 1) rfl) ⟨[], _, _, _, rfl, rfl, by simp⟩ (fun i γ' d hi hI hd => ?_) (fun γ' hI => ?_))
  · obtain ⟨cs, g3, g4, g5, rfl, h1, h2⟩ := hI
    obtain ⟨b, hbb, rfl⟩ := get_map hd
    have hb1 := hb b (List.mem_of_getElem? hbb)
    have hi : i < bs.length := by rw [List.length_map] at hi; exact hi
    refine gn 3 (sq (set 4 (len_ B (filtO 2 [("_law_one", 5)] [5] tint tint cs (fun c => decide (cmp ts c b ≠ 1)) (by omega) (fun c hc => ?_) hom_tint) (.l _)) (fun d h => ?_)))
    · have hc1 := h2 c hc
      refine gn 5 ⟨dts_one (Tt.iff (dt_ciE ci_ne (i := cmp ts c b) (call (ts, c, b) Fc (fun _ => hr) (ac (v 0) (ac (vi 5 (hi := imm_tint _)) (ac (vi 3 (hi := imm_tint _)) an))) ⟨by rw [hc1.1, hb1.1], fun t hm => ⟨(ht t hm).1, by show t.1 < (c.length : Int); rw [hc1.1]; exact (ht t hm).2.1⟩⟩) ki) (by simp)), fun _ => el (vi 5 (hi := imm_tint _))⟩
    · subst h
      refine dss_one (ins 2 (vi 4) (vi 3 (d := tint b) (hi := imm_tint _)) ?_ ?_ ?_ (fun d h => ?_))
      · rw [List.length_map]; omega
      · omega
      · rw [List.length_map]
        exact Int.lt_of_le_of_lt (Int.ofNat_le.mpr (List.length_filter_le _ cs)) (by omega)
      · subst h
        generalize (Int.toNat _) = m
        have e : (cs.map tint).take m ++ [tint b] ++ (cs.map tint).drop m = (cs.take m ++ [b] ++ cs.drop m).map tint := by simp [List.map_take, List.map_drop]
        rw [e]
        refine ⟨hom_tint _, cs.take m ++ [b] ++ cs.drop m, _, _, _, rfl, ?_, fun c hc => ?_⟩
        · simp only [List.length_append, List.length_take, List.length_drop, List.length_singleton]; omega
        · rw [List.append_assoc] at hc
          rcases List.mem_append.mp hc with z | z
          · exact h2 c (List.mem_of_mem_take z)
          · rcases List.mem_append.mp z with z | z
            · rw [List.mem_singleton] at z; rw [z]; exact hb1
            · exact h2 c (List.mem_of_mem_drop z)
  · obtain ⟨cs, g3, g4, g5, rfl, h1, h2⟩ := hI
    rw [List.length_map] at h1
    exact dss_one (ret (vo 2) fun d h => ⟨cs, h, by omega, h2⟩)

/-! ### _law_shelves -/
def okS (n : Nat) (S : List (List Book)) : Prop := S.length ≤ 4 ∧ ∀ s ∈ S, s.length ≤ 5 ∧ ∀ b ∈ s, okB n b
theorem sc_shelves : FnScope ["_law_box_here", "_law_kinds_here", "_law_most", "_law_size", "_law_spoilt", "_law_hidden", "_law_shelves_here", "_law_k", "_law_books", "_law_j"] ["_law_box_here", "_law_kinds_here", "_law_most", "_law_size", "_law_spoilt"] (defScope (top 47)) := ⟨rfl, rfl, rfl, by decide +kernel, rfl, by decide +kernel, by decide +kernel⟩
abbrev cShelves (W : Wd) : Sp := Con W.K W.cl 5 (fun x : List Int × Int => [.box, lint x.1, .int 4, .int 5, .int x.2]) (fun x => okK x.1 ∧ 0 ≤ x.2 ∧ x.2 ≤ 100) (fun x d => ∃ S, d = dShelves S ∧ okS x.1.length S)
theorem ok_shelves {W : Wd} {f : Addr} {fd : FuncData} (F : FnP W "_law_shelves" "_law_shelves" (top 47) f fd) (B : Bn W) (Ft : GFn W "_law_take" 1 (cTake W)) (Fr : GFn W "_law_rule" 2 (cRule W)) (Fb : GFn W "_law_book" 2 (cBook W)) (Fs : GFn W "_law_sorted" 2 (cSorted W)) :
    FnOk W.P W.w W.K W.mg W.base CX0 3 f fd ["_law_box_here", "_law_kinds_here", "_law_most", "_law_size", "_law_spoilt"] (cShelves W) := by
  refine fn_con F sc_shelves rfl fun cdv A outer s H E hr x _ hp => ?_
  have nd := sc_shelves.nd
  obtain ⟨ks, sp⟩ := x
  obtain ⟨hk, h0, h1⟩ := hp
  have hk : okK ks := hk
  have h0 : 0 ≤ sp := h0
  have h1 : sp ≤ 100 := h1
  have hlen : ks.length ≤ 4 := hk.1
  refine sq (set 5 (P := LP dTerm (vt ks.length) 4) (callP Fr (fun _ => hr) (ac (v 0) (ac (len_ B (v 1) (.l (ks.map D.int))) an)) (fun ds h => ⟨ks.length, by rw [h, List.length_map], rfl, hlen, fun d h => h⟩)) (fun d h => ?_))
  obtain ⟨ts, rfl, ht1, ht2⟩ := h
  refine sq (setO 6 de_nil (fun d h => ⟨[], h, rfl, ?_⟩))
  refine sq (ds_forP (sl := [7]) (fun m item i γ' => m ≤ 4 ∧ ∃ (S : List (List Book)) (g7 g8 g9 : G), γ' = [.v false .box, .v false (lint ks), .v false (.int 4), .v false (.int 5), .v false (.int sp), .v true (dTerms ts), .ow (S.map dBooks), g7, g8, g9] ∧ S.length = i ∧ ∀ s ∈ S, s.length ≤ 5 ∧ ∀ b ∈ s, okB ks.length b) (fun _ => PassesOwn.never) (fun _ => rfl)
    (dip_range (N := 4) B (DE.mono (call (5 : Int) Ft (fun _ => hr) (ac (v 0) (ac (addE (i := 4) (j := 1) (v 2) ki) an)) ⟨by decide, by decide⟩) fun d h => IsI.mono h fun i hi => ⟨hi.1, by omega⟩) (by decide))
    (fun m item hC => ⟨hC.1, [], _, _, _, rfl, rfl, by simp⟩) (fun m item hC i γ' d hi hI hd => ?_) (fun m item hC γ' hI => ?_) (fun _ _ => rfl))
  · obtain ⟨hm, S, g7, g8, g9, rfl, e1, e2⟩ := hI
    obtain rfl := hC.2 i d hi hd
    refine gn 7 (sq (setP 8 [("_law_j", 9)] [9] tint (okB ks.length) 5 (dip_range (N := 5) B (DE.mono (call (6 : Int) Ft (fun _ => hr) (ac (v 0) (ac (addE (i := 5) (j := 1) (v 3) ki) an)) ⟨by decide, by decide⟩) fun d h => IsI.mono h fun i hi => ⟨hi.1, by omega⟩) (by decide)) (by decide)
      (fun n item hC => ⟨hC.1, fun i d hi hd => ?_⟩) hom_tint (fun bs hb1 hb2 => ?_)))
    · obtain rfl := hC.2 i d hi hd
      exact gn 9 ⟨True, dts_nil, fun _ => el (call ks Fb (fun _ => hr) (ac (v 0) (ac (v 1) an)) hk)⟩
    · refine sq (ds_ifP (T := fun _ => True) (dt_wP (dw_orU (dt_ciE ci_eq (v 4) ki) (fun hsp => dw_or1P (dt_ciP ci_gt (call (sp : Int) Ft (fun _ => hr) (ac (v 0) (ac (v 4) an)) ⟨by omega, by omega⟩) ki.i)))) (fun _ => ?_) (fun _ => ?_))
      · refine dss_one (set 8 (call (ts, bs, ks.length) Fs (fun _ => hr) (ac (v 5) (ac (v 8) an)) ⟨hb1, ht2, hb2⟩) (fun d h => ?_))
        obtain ⟨cs, rfl, hc1, hc2⟩ := h
        refine dss_one (app 6 (v 8) ?_ (fun d h => ?_))
        · rw [List.length_map]; omega
        · subst h
          have e : S.map dBooks ++ [D.lst (cs.map tint)] = (S ++ [cs]).map dBooks := by rw [List.map_append]; rfl
          rw [e]
          refine ⟨hom_map _ (fun _ => rfl) _, hm, S ++ [cs], _, _, _, rfl, by rw [List.length_append, e1]; rfl, fun z hz => ?_⟩
          rcases List.mem_append.mp hz with z1 | z1
          · exact e2 z z1
          · rw [List.mem_singleton] at z1; rw [z1]; exact ⟨hc1, hc2⟩
      · refine dss_nil ?_
        refine dss_one (app 6 (v 8) ?_ (fun d h => ?_))
        · rw [List.length_map]; omega
        · subst h
          have e : S.map dBooks ++ [D.lst (bs.map tint)] = (S ++ [bs]).map dBooks := by rw [List.map_append]; rfl
          rw [e]
          refine ⟨hom_map _ (fun _ => rfl) _, hm, S ++ [bs], _, _, _, rfl, by rw [List.length_append, e1]; rfl, fun z hz => ?_⟩
          rcases List.mem_append.mp hz with z1 | z1
          · exact e2 z z1
          · rw [List.mem_singleton] at z1; rw [z1]; exact ⟨hb1, hb2⟩
  · obtain ⟨hm, S, g7, g8, g9, rfl, e1, e2⟩ := hI
    exact dss_one (ret (vo 6) fun d h => ⟨S, h, by omega, e2⟩)
end K51

namespace K51
open PySem PySem.Spec PyProof.Rows L2 DL
/-- place p is the pair x, y of shelf k -/
def FarAt (S : List (List Book)) (p : Place) (k : Nat) (x y : Book) : Prop := ∃ s, S[k]? = some s ∧ nm k = p.1 ∧ 0 ≤ p.2.1 ∧ p.2.1 < p.2.2 ∧ s[p.2.1.toNat]? = some x ∧ s[p.2.2.toNat]? = some y
theorem nm_ok (k : Nat) : PyData.strOk (nm k) = true := by
  have key : ∀ x ∈ names, PyData.strOk x = true := by decide +kernel
  unfold nm
  cases e : names[k]? with
  | none => decide +kernel
  | some x => exact key x (List.mem_of_getElem? e)
theorem cm_str {x : Str} (h : PyData.strOk x = true) : (D.str x).cm 1 = true := by simp [D.cm, h]
theorem cm_nm (k : Nat) : (D.str (nm k)).cm 1 = true := cm_str (nm_ok k)
theorem nm_inj {j k : Nat} (hj : j < 6) (hk : k < 6) (h : nm j = nm k) : j = k := by
  have key : ∀ j : Fin 6, ∀ k : Fin 6, nm j = nm k → j = k := by decide +kernel
  have := key ⟨j, hj⟩ ⟨k, hk⟩ h
  exact congrArg Fin.val this
theorem isP_eq {S : List (List Book)} {p : Place} {k k' : Nat} {x y x' y' : Book} (hS : S.length ≤ 4) (h : FarAt S p k x y) (h' : FarAt S p k' x' y') : k = k' ∧ x = x' ∧ y = y' := by
  obtain ⟨s, e1, e2, e3, e4, e5, e6⟩ := h
  obtain ⟨s', f1, f2, f3, f4, f5, f6⟩ := h'
  have l1 := (List.getElem?_eq_some_iff.mp e1).1
  have l2 := (List.getElem?_eq_some_iff.mp f1).1
  have e : k = k' := nm_inj (by omega) (by omega) (by rw [e2, f2])
  subst e
  rw [e1] at f1
  obtain rfl := Option.some.inj f1
  rw [e5] at f5
  rw [e6] at f6
  exact ⟨rfl, Option.some.inj f5, Option.some.inj f6⟩

/-! ### _law_places -/
theorem sc_places : FnScope ["_law_shelves_here", "_law_spots", "_law_found", "_law_k", "_law_last", "_law_at"] ["_law_shelves_here", "_law_spots"] (defScope (top 53)) := ⟨rfl, rfl, rfl, by decide +kernel, rfl, by decide +kernel, by decide +kernel⟩
def inS (S : List (List Book)) (p : Place) : Prop := ∃ k x y, FarAt S p k x y
abbrev cPlaces (W : Wd) : Sp := Con W.K W.cl 2 (fun x : List (List Book) × Nat => [dShelves x.1, .lst []]) (fun x => okS x.2 x.1) (fun x d => LP dPlace (inS x.1) 20 d)
theorem len_at {S : List (List Book)} {n k : Nat} {s : List Book} (h : okS n S) (e : S[k]? = some s) : s.length ≤ 5 ∧ ∀ b ∈ s, okB n b := h.2 s (List.mem_of_getElem? e)
theorem ok_places {W : Wd} {f : Addr} {fd : FuncData} (F : FnP W "_law_places" "_law_places" (top 53) f fd) (B : Bn W) (Fn : GFn W "_law_name" 1 (cName W)) : FnOk W.P W.w W.K W.mg W.base CX0 2 f fd ["_law_shelves_here", "_law_spots"] (cPlaces W) := by
  refine fn_con F sc_places rfl fun cdv A outer s H E hr x _ hp => ?_
  have nd := sc_places.nd
  obtain ⟨S, n⟩ := x
  have hS : okS n S := hp
  have hS4 : S.length ≤ 4 := hS.1
  dsimp only
  refine sq (setO 2 de_nil (fun d h => ⟨[], h, rfl, ?_⟩))
  refine sq (for_ (sl := [3]) (fun i γ' => ∃ (ps : List Place) (g3 g4 g5 : G), γ' = [.v false (dShelves S), .v false (.lst []), .ow (ps.map dPlace), g3, g4, g5] ∧ ps.length ≤ i * 5 ∧ ∀ p ∈ ps, inS S p) (iR B (len_ B (v 0) (.l _)) (by rw [List.length_map]; omega) (by rw [List.length_map]; omega)) ⟨[], _, _, _, rfl, by simp, by simp⟩ (fun i γ' d hi hI hd => ?_) (fun γ' hI => ?_))
  · obtain ⟨ps, g3, g4, g5, rfl, h1, h2⟩ := hI
    subst hd
    have hi : i < S.length := by rw [List.length_map] at hi; omega
    have es : S[i]? = some S[i] := List.getElem?_eq_getElem hi
    generalize S[i] = s at es
    obtain ⟨hs5, hsb⟩ := len_at hS es
    refine gn 3 (sq (set 4 (negE ki) (fun d h => ?_)))
    subst h
    refine dss_one (for_ (sl := [5]) (fun j γ' => ∃ (ps : List Place) (l : Int) (g5 : G), γ' = [.v false (dShelves S), .v false (.lst []), .ow (ps.map dPlace), .v true (.int i), .v true (.int l), g5] ∧ ps.length ≤ i * 5 + j ∧ (∀ p ∈ ps, inS S p) ∧ -1 ≤ l ∧ l < j) (iR B (len_ B (ix (v 0) (v 3) (.l _) (at_map dBooks es)) (.l _)) (by rw [List.length_map]; omega) (by rw [List.length_map]; omega)) ⟨ps, -1, _, rfl, h1, h2, by omega, by omega⟩ (fun j γ' d hj hI hd => ?_) (fun γ' hI => ?_))
    · obtain ⟨ps, l, g5, rfl, h1, h2, h3, h4⟩ := hI
      subst hd
      have hj : j < s.length := by rw [List.length_map] at hj; omega
      have ej : s[j]? = some s[j] := List.getElem?_eq_getElem hj
      generalize s[j] = y at ej
      refine gn 5 (dss_one (ds_if (notInD (n := 2) (m := 0) (fun _ => hr) (tupE (ac (call i Fn (fun _ => hr) (ac (v 3) an) (by show i < 6; omega)) (ac (v 5) an))) (v 1) (.l _) (by simp [D.cm, D.cmA, nm_ok]) (by simp [D.cmA])) (fun _ => ?_) (fun h => absurd (by simp) h)))
      refine sq (ds_if (dt_w (dw_and (dt_ciE ci_ge (v 4) ki) fun hl => dw_and1 (φ := s.getD l.toNat [] ≠ y) ?_)) (fun hc => ?_) (fun _ => ?_))
      · have el : s[l.toNat]? = some (s.getD l.toNat []) := by rw [List.getD_eq_getElem?_getD, List.getElem?_eq_getElem (by omega)]; rfl
        exact Tt.iff (neD (n := 1) (m := 1) (fun _ => hr) (ix (ix (v 0) (v 3) (.l _) (at_map dBooks es)) (v 4) (.l _) (at_map' tint hl el)) (ix (ix (v 0) (v 3) (.l _) (at_map dBooks es)) (v 5) (.l _) (at_map tint ej)) (cm_tint _) (cm_tint _)) ⟨fun z e => z (by rw [e]), fun z e => z (tint_inj _ _ e)⟩
      · obtain ⟨hl, _⟩ := hc
        have el : s[l.toNat]? = some (s.getD l.toNat []) := by rw [List.getD_eq_getElem?_getD, List.getElem?_eq_getElem (by omega)]; rfl
        refine dss_one (app 2 (tupE (ac (call i Fn (fun _ => hr) (ac (v 3) an) (by show i < 6; omega)) (ac (v 4) (ac (v 5) an)))) ?_ (fun d h => ?_))
        · rw [List.length_map]; omega
        · subst h
          have e : ps.map dPlace ++ [D.tup [.str (nm i), .int l, .int j]] = (ps ++ [(nm i, l, (j : Int))]).map dPlace := by rw [List.map_append]; rfl
          rw [e]
          refine ⟨hom_map _ (fun _ => rfl) _, ?_⟩
          refine dss_one (set 4 (v 5) (fun d h => ?_))
          subst h
          refine ⟨ps ++ [(nm i, l, (j : Int))], j, _, rfl, by rw [List.length_append, List.length_singleton]; omega, fun z hz => ?_, by omega, by omega⟩
          rcases List.mem_append.mp hz with z1 | z1
          · exact h2 z z1
          · rw [List.mem_singleton] at z1; rw [z1]
            exact ⟨i, _, y, s, es, rfl, hl, h4, el, by simpa using ej⟩
      · refine dss_nil ?_
        refine dss_one (set 4 (v 5) (fun d h => ?_))
        subst h
        exact ⟨ps, j, _, rfl, by omega, h2, by omega, by omega⟩
    · obtain ⟨ps, l, g5, rfl, h1, h2, h3, h4⟩ := hI
      rw [List.length_map] at h1
      exact ⟨ps, _, _, _, rfl, by simp only [Int.toNat_natCast] at h1; omega, h2⟩
  · obtain ⟨ps, g3, g4, g5, rfl, h1, h2⟩ := hI
    rw [List.length_map] at h1
    simp only [Int.toNat_natCast] at h1
    exact dss_one (ret (vo 2) fun d h => ⟨ps, h, by omega, h2⟩)

/-! ### _law_steps -/
theorem sc_steps : FnScope ["_law_shelves_here", "_law_spots", "_law_steps_here", "_law_place", "_law_k"] ["_law_shelves_here", "_law_spots"] (defScope (top 55)) := ⟨rfl, rfl, rfl, by decide +kernel, rfl, by decide +kernel, by decide +kernel⟩
abbrev cSteps (W : Wd) : Sp := Con W.K W.cl 2 (fun x : List (List Book) × Nat => [dShelves x.1, .lst []]) (fun x => okS x.2 x.1 ∧ x.2 ≤ 100) (fun x d => LP tint (fun st => st.length = x.2) 100 d)
theorem ok_steps {W : Wd} {f : Addr} {fd : FuncData} (F : FnP W "_law_steps" "_law_steps" (top 55) f fd) (B : Bn W) (Fn : GFn W "_law_name" 1 (cName W)) (Fp : GFn W "_law_places" 2 (cPlaces W)) (Fs : GFn W "_law_step" 1 (cStep W)) : FnOk W.P W.w W.K W.mg W.base CX0 3 f fd ["_law_shelves_here", "_law_spots"] (cSteps W) := by
  refine fn_con F sc_steps rfl fun cdv A outer s H E hr x _ hp => ?_
  have nd := sc_steps.nd
  obtain ⟨S, n⟩ := x
  obtain ⟨hS, hn⟩ := hp
  have hS : okS n S := hS
  have hn : n ≤ 100 := hn
  have hS4 : S.length ≤ 4 := hS.1
  dsimp only
  refine sq (setO 2 de_nil (fun d h => ⟨[], h, rfl, ?_⟩))
  refine sq (ds_forP (sl := [3]) (fun m item i γ' => m ≤ 20 ∧ ∃ (ts : List (List Int)) (g3 g4 : G), γ' = [.v false (dShelves S), .v false (.lst []), .ow (ts.map tint), g3, g4] ∧ ts.length ≤ i * 5 ∧ ∀ t ∈ ts, t.length = n) (fun _ => PassesOwn.never) (fun _ => rfl)
    (dip_list (out := dPlace) (S := inS S) (N := 20) (call (S, n) Fp (fun _ => hr) (ac (v 0) (ac (v 1) an)) hS)) (fun m item hC => ⟨hC.1, [], _, _, rfl, by simp, by simp⟩) (fun m item hC i γ' d hi hI hd => ?_) (fun m item hC γ' hI => ?_) (fun _ _ => rfl))
  · obtain ⟨hm, ts, g3, g4, rfl, h1, h2⟩ := hI
    obtain ⟨p, rfl, hpS⟩ := hC.2 i d hi hd
    obtain ⟨k0, x, y, hf⟩ := hpS
    refine gn 3 (dss_one (for_ (sl := [4]) (fun k γ' => ∃ (ts : List (List Int)) (g4 : G), γ' = [.v false (dShelves S), .v false (.lst []), .ow (ts.map tint), .v true (dPlace p), g4] ∧ ts.length ≤ i * 5 + k ∧ ∀ t ∈ ts, t.length = n) (iR B (len_ B (v 0) (.l _)) (by rw [List.length_map]; omega) (by rw [List.length_map]; omega)) ⟨ts, _, rfl, h1, h2⟩ (fun k γ' d hk hI hd => ?_) (fun γ' hI => ?_)))
    · obtain ⟨ts, g4, rfl, h1, h2⟩ := hI
      subst hd
      have hk : k < S.length := by rw [List.length_map] at hk; omega
      refine gn 4 (dss_one (ds_if (φ := nm k = p.1) (Tt.iff (eqD (n := 1) (m := 1) (fun _ => hr) (call k Fn (fun _ => hr) (ac (v 4) an) (by show k < 6; omega)) (ixI (v 3) ki (.t _) rfl) (cm_nm k) (cm_str (by obtain ⟨_, _, e, _⟩ := hf; rw [← e]; exact nm_ok _))) ⟨fun z => by injection z, fun z => by rw [z]⟩) (fun he => ?_) (fun _ => ?_)))
      · obtain ⟨s', e1, e2, e3, e4, e5, e6⟩ := hf
        have hk0 : k0 < S.length := (List.getElem?_eq_some_iff.mp e1).1
        obtain rfl : k = k0 := nm_inj (by omega) (by omega) (by rw [he, e2])
        obtain ⟨_, hsb⟩ := len_at hS e1
        have lx := (hsb x (List.mem_of_getElem? e5)).1
        have ly := (hsb y (List.mem_of_getElem? e6)).1
        refine dss_one (app 2 (call (x, y) Fs (fun _ => hr) (ac (ix (ix (v 0) (v 4) (.l _) (at_map dBooks e1)) (ixI (v 3) ki (.t _) rfl) (.l _) (at_map' tint e3 e5)) (ac (ix (ix (v 0) (v 4) (.l _) (at_map dBooks e1)) (ixI (v 3) ki (.t _) rfl) (.l _) (at_map' tint (by omega) e6)) an)) ⟨by rw [lx, ly], by show x.length ≤ 100; omega⟩) ?_ (fun d h => ?_))
        · rw [List.length_map]; omega
        · subst h
          have e : ts.map tint ++ [tint (stp x y)] = (ts ++ [stp x y]).map tint := by rw [List.map_append]; rfl
          rw [e]
          refine ⟨hom_tint _, ts ++ [stp x y], _, rfl, by rw [List.length_append, List.length_singleton]; omega, fun z hz => ?_⟩
          rcases List.mem_append.mp hz with z1 | z1
          · exact h2 z z1
          · rw [List.mem_singleton] at z1; rw [z1]
            simp [stp, lx, ly]
      · exact dss_nil ⟨ts, _, rfl, by omega, h2⟩
    · obtain ⟨ts, g4, rfl, h1, h2⟩ := hI
      rw [List.length_map] at h1
      simp only [Int.toNat_natCast] at h1
      exact ⟨hm, ts, _, _, rfl, by omega, h2⟩
  · obtain ⟨hm, ts, g3, g4, rfl, h1, h2⟩ := hI
    exact dss_one (ret (vo 2) fun d h => ⟨ts, h, by omega, h2⟩)
end K51

namespace K51
open PySem PySem.Spec PyProof.Rows L2 DL
theorem snoc_mem {α : Type} {P : α → Prop} {l : List α} {x : α} (h : ∀ y ∈ l, P y) (hx : P x) : ∀ y ∈ l ++ [x], P y := fun z hz => by
  rcases List.mem_append.mp hz with z1 | z1
  · exact h z z1
  · rw [List.mem_singleton] at z1; rw [z1]; exact hx
theorem snoc_map {α β : Type} (f : α → β) (l : List α) (x : α) : l.map f ++ [f x] = (l ++ [x]).map f := by rw [List.map_append]; rfl
theorem snoc_len {α : Type} (l : List α) (x : α) : (l ++ [x]).length = l.length + 1 := by rw [List.length_append]; rfl

/-! ### _law_terms -/
def allT (n : Nat) : List Term := (List.range n).flatMap fun (m : Nat) => [((m : Int), 1), ((m : Int), -1)]
theorem allT_succ (n : Nat) : allT (n + 1) = allT n ++ [((n : Int), 1), ((n : Int), -1)] := by simp [allT, List.range_succ]
theorem allT_len (n : Nat) : (allT n).length = 2 * n := by
  induction n with
  | zero => rfl
  | succ n ih => rw [allT_succ, List.length_append, ih]; simp; omega
theorem mem_allT {n : Nat} {t : Term} : t ∈ allT n ↔ vt n t := by
  obtain ⟨m, d⟩ := t
  simp only [allT, List.mem_flatMap, List.mem_range, List.mem_cons, List.not_mem_nil, or_false, vt]
  constructor
  · rintro ⟨a, ha, h | h⟩
    · injection h with h1 h2; subst h1; exact ⟨by omega, by omega, .inl h2⟩
    · injection h with h1 h2; subst h1; exact ⟨by omega, by omega, .inr h2⟩
  · rintro ⟨h0, h1, h2 | h2⟩
    · exact ⟨m.toNat, by omega, .inl (by rw [h2, Int.toNat_of_nonneg h0])⟩
    · exact ⟨m.toNat, by omega, .inr (by rw [h2, Int.toNat_of_nonneg h0])⟩
theorem sc_terms : FnScope ["_law_count_here", "_law_terms_here", "_law_mark"] ["_law_count_here"] (defScope (top 56)) := ⟨rfl, rfl, rfl, by decide +kernel, rfl, by decide +kernel, by decide +kernel⟩
abbrev cTerms (W : Wd) : Sp := Con W.K W.cl 1 (fun n : Nat => [.int n]) (fun n => n ≤ 100) (fun n d => d = dTerms (allT n))
theorem ok_terms {W : Wd} {f : Addr} {fd : FuncData} (F : FnP W "_law_terms" "_law_terms" (top 56) f fd) (B : Bn W) : FnOk W.P W.w W.K W.mg W.base CX0 1 f fd ["_law_count_here"] (cTerms W) := by
  refine fn_con F sc_terms rfl fun cdv A outer s H E hr n _ hp => ?_
  have nd := sc_terms.nd
  have hp : n ≤ 100 := hp
  refine sq (set 1 de_nil (fun d h => ?_))
  subst h
  refine sq (for_ (sl := [2]) (fun i γ' => ∃ g, γ' = [.v false (.int n), .v true (dTerms (allT i)), g]) (iR B (v 0) (by omega) (by omega)) ⟨_, rfl⟩ (fun i γ' d hi hI hd => ?_) (fun γ' hI => ?_))
  · obtain ⟨g, rfl⟩ := hI
    subst hd
    have hi : i < n := by omega
    refine gn 2 (dss_one (set 1 (cat (v 1) (lstE (ac (tupE (ac (v 2) (ac ki an))) (ac (tupE (ac (v 2) (ac (negE ki) an))) an)) (hom_b rfl)) (hom_app_l (fun d hd => ?_) (fun d hd => ?_)) ?_) (fun d h => ?_)))
    · obtain ⟨t, _, rfl⟩ := List.mem_map.mp hd; rfl
    · rcases List.mem_cons.mp hd with rfl | hd
      · rfl
      · rcases List.mem_cons.mp hd with rfl | hd
        · rfl
        · cases hd
    · rw [List.length_map, allT_len]; show 2 * i + 2 ≤ 100000; omega
    · subst h
      refine ⟨.v true (.int i), ?_⟩
      have e : dTerms (allT (i + 1)) = .lst ((allT i).map dTerm ++ [D.tup [.int i, .int 1], D.tup [.int i, .int (-1)]]) := by
        rw [dTerms, allT_succ, List.map_append]; rfl
      rw [e]
      rfl
  · obtain ⟨g, rfl⟩ := hI
    refine dss_one (ret (v 1) fun d h => ?_)
    rw [h, Int.toNat_natCast]

/-! ### _law_free -/
theorem sc_free : FnScope ["_law_steps_here", "_law_used", "_law_term", "_law_step_here", "_law_level", "_law_mark"] ["_law_steps_here", "_law_used", "_law_term"] (defScope (top 50)) := ⟨rfl, rfl, rfl, by decide +kernel, rfl, by decide +kernel, by decide +kernel⟩
/-- marks below n -/
def mk_ (n : Nat) (m : Int) : Prop := 0 ≤ m ∧ m < n
theorem get_at {l : List Int} {n : Nat} {m : Int} (hl : l.length = n) (h : mk_ n m) : l[m.toNat]? = some (l.getD m.toNat 0) := by
  obtain ⟨h0, h1⟩ := h
  rw [List.getD_eq_getElem?_getD, List.getElem?_eq_getElem (by omega)]; rfl
abbrev cFree (W : Wd) : Sp := Con W.K W.cl 3 (fun x : List (List Int) × List Int × Term × Nat => [.lst (x.1.map tint), lint x.2.1, dTerm x.2.2.1]) (fun x => (∀ s ∈ x.1, s.length = x.2.2.2) ∧ (∀ u ∈ x.2.1, mk_ x.2.2.2 u) ∧ x.2.1.length ≤ 100 ∧ mk_ x.2.2.2 x.2.2.1.1) (fun x d => ∃ b, d = .bl b)
theorem ok_free {W : Wd} {f : Addr} {fd : FuncData} (F : FnP W "_law_free" "_law_free" (top 50) f fd) (B : Bn W) : FnOk W.P W.w W.K W.mg W.base CX0 1 f fd ["_law_steps_here", "_law_used", "_law_term"] (cFree W) := by
  refine fn_con F sc_free rfl fun cdv A outer s H E hr x _ hp => ?_
  have nd := sc_free.nd
  obtain ⟨ss, us, t, n⟩ := x
  obtain ⟨hs, hu, hz, ht⟩ := hp
  dsimp only at hs hu hz ht
  dsimp only
  refine sq (for_ (sl := [3]) (fun i γ' => ∃ g3 g4 g5, γ' = [.v false (.lst (ss.map tint)), .v false (lint us), .v false (dTerm t), g3, g4, g5]) (iL (v 0) rfl) ⟨_, _, _, rfl⟩ (fun i γ' d hi hI hd => ?_) (fun γ' hI => ?_))
  · obtain ⟨g3, g4, g5, rfl⟩ := hI
    obtain ⟨st, hst, rfl⟩ := get_map hd
    have hsn := hs st (List.mem_of_getElem? hst)
    refine gn 3 (sq (set 4 (eqNilV (n := 0) (fun _ => hr) (filt [("_law_mark", 5)] [5] D.int D.int us (fun u => decide (st.getD u.toNat 0 ≠ 0)) (iL (v 1) rfl) (by omega) (fun u hm => ?_) hom_ints) de_nil (cmA_ints _ _)) (fun d h => ?_)))
    · exact gn 5 ⟨dts_one (Tt.iff (dt_ciE ci_ne (ixI (vi 3 (hi := imm_tint _)) (v 5) (.t _) (at_map' D.int (hu u hm).1 (get_at hsn (hu u hm)))) ki) (by simp)), fun _ => el (vi 5)⟩
    · obtain ⟨b, rfl, hb⟩ := h
      refine dss_one (ds_if (dt_w (dw_and (tv (blV (v 4))) fun _ => dw_and1 (dt_ciE ci_eq (ixI (vi 3 (hi := imm_tint _)) (ixI (v 2) ki (.t _) rfl) (.t _) (at_map' D.int ht.1 (get_at hsn ht))) (negE (ixI (v 2) ki (.t _) rfl))))) (fun _ => ?_) (fun _ => ?_))
      · exact dss_one (ret kb fun d h => ⟨_, h⟩)
      · exact dss_nil ⟨_, _, _, rfl⟩
  · obtain ⟨g3, g4, g5, rfl⟩ := hI
    exact dss_one (ret kb fun d h => ⟨_, h⟩)

/-! ### _law_ways -/
theorem sc_ways : FnScope ["_law_count_here", "_law_steps_here", "_law_used", "_law_terms_here", "_law_mark", "_law_direction"] ["_law_count_here", "_law_steps_here", "_law_used"] (defScope (top 51)) := ⟨rfl, rfl, rfl, by decide +kernel, rfl, by decide +kernel, by decide +kernel⟩
abbrev cWays (W : Wd) : Sp := Con W.K W.cl 3 (fun x : Nat × List (List Int) × List Int => [.int x.1, .lst (x.2.1.map tint), lint x.2.2]) (fun x => x.1 ≤ 4 ∧ (∀ s ∈ x.2.1, s.length = x.1) ∧ (∀ u ∈ x.2.2, mk_ x.1 u) ∧ x.2.2.length ≤ 100) (fun x d => LP dTerm (vt x.1) 8 d)
theorem ok_ways {W : Wd} {f : Addr} {fd : FuncData} (F : FnP W "_law_ways" "_law_ways" (top 51) f fd) (B : Bn W) (Ff : GFn W "_law_free" 1 (cFree W)) : FnOk W.P W.w W.K W.mg W.base CX0 2 f fd ["_law_count_here", "_law_steps_here", "_law_used"] (cWays W) := by
  refine fn_con F sc_ways rfl fun cdv A outer s H E hr x _ hp => ?_
  have nd := sc_ways.nd
  obtain ⟨n, ss, us⟩ := x
  obtain ⟨hn, hs, hu, hz⟩ := hp
  dsimp only at hn hs hu hz
  dsimp only
  refine sq (setO 3 de_nil (fun d h => ⟨[], h, rfl, ?_⟩))
  refine sq (for_ (sl := [4]) (fun i γ' => ∃ (ts : List Term) (g4 g5 : G), γ' = [.v false (.int n), .v false (.lst (ss.map tint)), .v false (lint us), .ow (ts.map dTerm), g4, g5] ∧ ts.length ≤ i * 2 ∧ ∀ t ∈ ts, vt n t) (iR B (v 0) (by omega) (by omega)) ⟨[], _, _, rfl, by simp, by simp⟩ (fun i γ' d hi hI hd => ?_) (fun γ' hI => ?_))
  · obtain ⟨ts, g4, g5, rfl, h1, h2⟩ := hI
    subst hd
    have hi : i < n := by omega
    refine gn 4 (dss_one (for_ (sl := [5]) (fun j γ' => ∃ (ts : List Term) (g5 : G), γ' = [.v false (.int n), .v false (.lst (ss.map tint)), .v false (lint us), .ow (ts.map dTerm), .v true (.int i), g5] ∧ ts.length ≤ i * 2 + j ∧ ∀ t ∈ ts, vt n t) (iL (ds := ([1, -1] : List Int).map D.int) (lstE (ac ki (ac (negE ki) an)) (hom_b rfl)) rfl) ⟨ts, _, rfl, by omega, h2⟩ (fun j γ' d hj hI hd => ?_) (fun γ' hI => ?_)))
    · obtain ⟨ts, g5, rfl, h1, h2⟩ := hI
      obtain ⟨dr, hdr, rfl⟩ := get_map hd
      have hdv : dr = 1 ∨ dr = -1 := by
        have := List.mem_of_getElem? hdr
        simpa using this
      refine gn 5 (dss_one (ds_ifP (T := fun _ => True) (dt_wP (dw_andU (notInD (n := 1) (m := 1) (fun _ => hr) (v 4) (v 2) (.l _) (by simp [D.cm]) (cmA_ints _ _)) fun _ => dw_and1P (tvP (call (ss, us, ((i : Int), dr), n) Ff (fun _ => hr) (ac (v 1) (ac (v 2) (ac (tupE (ac (v 4) (ac (v 5) an))) an))) ⟨hs, hu, hz, by constructor <;> dsimp only <;> omega⟩)))) (fun _ => ?_) (fun _ => ?_)))
      · refine dss_one (app 3 (tupE (ac (v 4) (ac (v 5) an))) ?_ (fun d h => ?_))
        · rw [List.length_map]
          have : j < 2 := hj
          omega
        · subst h
          have e : ts.map dTerm ++ [D.tup [.int i, .int dr]] = (ts ++ [((i : Int), dr)]).map dTerm := snoc_map dTerm ts ((i : Int), dr)
          rw [e]
          exact ⟨hom_terms _, _, _, rfl, by rw [snoc_len]; omega, snoc_mem h2 ⟨by dsimp only; omega, by dsimp only; omega, hdv⟩⟩
      · exact dss_nil ⟨ts, _, rfl, by omega, h2⟩
    · obtain ⟨ts, g5, rfl, h1, h2⟩ := hI
      have : (([1, -1] : List Int).map D.int).length = 2 := rfl
      rw [this] at h1
      exact ⟨ts, _, _, rfl, by omega, h2⟩
  · obtain ⟨ts, g4, g5, rfl, h1, h2⟩ := hI
    exact dss_one (ret (vo 3) fun d h => ⟨ts, h, by omega, h2⟩)

/-! ### _law_closure -/
theorem sc_closure : FnScope ["_law_count_here", "_law_steps_here", "_law_barred", "_law_used", "_law_k", "_law_term"] ["_law_count_here", "_law_steps_here", "_law_barred"] (defScope (top 52)) := ⟨rfl, rfl, rfl, by decide +kernel, rfl, by decide +kernel, by decide +kernel⟩
abbrev cClosure (W : Wd) : Sp := Con W.K W.cl 3 (fun x : Nat × List (List Int) × List Term => [.int x.1, .lst (x.2.1.map tint), dTerms x.2.2]) (fun x => x.1 ≤ 4 ∧ (∀ s ∈ x.2.1, s.length = x.1)) (fun x d => LP D.int (mk_ x.1) 40 d)
theorem ok_closure {W : Wd} {f : Addr} {fd : FuncData} (F : FnP W "_law_closure" "_law_closure" (top 52) f fd) (B : Bn W) (Fw : GFn W "_law_ways" 2 (cWays W)) : FnOk W.P W.w W.K W.mg W.base CX0 3 f fd ["_law_count_here", "_law_steps_here", "_law_barred"] (cClosure W) := by
  refine fn_con F sc_closure rfl fun cdv A outer s H E hr x _ hp => ?_
  have nd := sc_closure.nd
  obtain ⟨n, ss, bs⟩ := x
  obtain ⟨hn, hs⟩ := hp
  dsimp only at hn hs
  dsimp only
  refine sq (setO 3 de_nil (fun d h => ⟨[], h, rfl, ?_⟩))
  refine sq (for_ (sl := [4]) (fun i γ' => ∃ (us : List Int) (g4 g5 : G), γ' = [.v false (.int n), .v false (.lst (ss.map tint)), .v false (dTerms bs), .ow (us.map D.int), g4, g5] ∧ us.length ≤ i * 8 ∧ ∀ t ∈ us, mk_ n t) (iR B (v 0) (by omega) (by omega)) ⟨[], _, _, rfl, by simp, by simp⟩ (fun i γ' d hi hI hd => ?_) (fun γ' hI => ?_))
  · obtain ⟨us, g4, g5, rfl, h1, h2⟩ := hI
    subst hd
    have hi : i < n := by omega
    refine gn 4 (dss_one (ds_forP (sl := [5]) (fun m item j γ' => m ≤ 8 ∧ ∃ (us : List Int) (g5 : G), γ' = [.v false (.int n), .v false (.lst (ss.map tint)), .v false (dTerms bs), .ow (us.map D.int), .v true (.int i), g5] ∧ us.length ≤ i * 8 + j ∧ ∀ t ∈ us, mk_ n t) (fun _ => PassesOwn.never) (fun _ => rfl)
      (dip_list (out := dTerm) (S := vt n) (N := 8) (call (n, ss, us) Fw (fun _ => hr) (ac (v 0) (ac (v 1) (ac (vo 3) an))) ⟨hn, hs, h2, by dsimp only; omega⟩)) (fun m item hC => ⟨hC.1, us, _, rfl, by omega, h2⟩) (fun m item hC j γ' d hj hI hd => ?_) (fun m item hC γ' hI => ?_) (fun _ _ => rfl)))
    · obtain ⟨hm, us, g5, rfl, h1, h2⟩ := hI
      obtain ⟨t, rfl, ht⟩ := hC.2 j d hj hd
      refine gn 5 (dss_one (ds_ifP (T := fun _ => True) (DTe.mono (dt_w (dw_and (notInD (n := 1) (m := 1) (fun _ => hr) (v 5) (v 2) (.l _) (cm_dTerm _) (cmA_map _ cm_dTerm _)) fun _ => dw_and1 (notInD (n := 1) (m := 1) (fun _ => hr) (ixI (v 5) ki (.t _) rfl) (vo 3) (.l _) (by simp [D.cm]) (cmA_ints _ _)))) fun _ _ => trivial) (fun _ => ?_) (fun _ => ?_)))
      · refine dss_one (app 3 (ixI (v 5) ki (.t _) rfl) ?_ (fun d h => ?_))
        · rw [List.length_map]; omega
        · subst h
          have e := snoc_map D.int us t.1
          rw [e]
          exact ⟨hom_ints _, hm, _, _, rfl, by rw [snoc_len]; omega, snoc_mem h2 ⟨ht.1, ht.2.1⟩⟩
      · exact dss_nil ⟨hm, us, _, rfl, by omega, h2⟩
    · obtain ⟨hm, us, g5, rfl, h1, h2⟩ := hI
      exact ⟨us, _, _, rfl, by omega, h2⟩
  · obtain ⟨us, g4, g5, rfl, h1, h2⟩ := hI
    exact dss_one (ret (sortedP (N := 40) B (DE.mono (vo 3) fun d h => ⟨us, h, by omega, h2⟩)) fun d h => h)

/-! ### _law_far -/
theorem sc_far : FnScope ["_law_shelves_here", "_law_place", "_law_k"] ["_law_shelves_here", "_law_place"] (defScope (top 59)) := ⟨rfl, rfl, rfl, by decide +kernel, rfl, by decide +kernel, by decide +kernel⟩
def okP (p : Place) : Prop := PyData.strOk p.1 = true
abbrev cFar (W : Wd) : Sp := Con W.K W.cl 2 (fun x : List (List Book) × Place × Nat => [dShelves x.1, dPlace x.2.1]) (fun x => okS x.2.2 x.1 ∧ okP x.2.1) (fun x d => (∃ k a b, FarAt x.1 x.2.1 k a b ∧ d = .tup [tint a, tint b]) ∨ ((¬ inS x.1 x.2.1) ∧ d = .non))
theorem ok_far {W : Wd} {f : Addr} {fd : FuncData} (F : FnP W "_law_far" "_law_far" (top 59) f fd) (B : Bn W) (Fn : GFn W "_law_name" 1 (cName W)) : FnOk W.P W.w W.K W.mg W.base CX0 2 f fd ["_law_shelves_here", "_law_place"] (cFar W) := by
  refine fn_con F sc_far rfl fun cdv A outer s H E hr x _ hp => ?_
  have nd := sc_far.nd
  obtain ⟨S, p, n⟩ := x
  obtain ⟨hS, hP⟩ := hp
  dsimp only at hS hP
  have hS4 := hS.1
  dsimp only
  refine sq (for_ (sl := [2]) (fun i γ' => ∃ g, γ' = [.v false (dShelves S), .v false (dPlace p), g] ∧ ∀ k, k < i → ∀ x y, ¬ FarAt S p k x y) (iR B (len_ B (v 0) (.l _)) (by rw [List.length_map]; omega) (by rw [List.length_map]; omega)) ⟨_, rfl, by omega⟩ (fun i γ' d hi hI hd => ?_) (fun γ' hI => ?_))
  · obtain ⟨g, rfl, hno⟩ := hI
    subst hd
    have hi : i < S.length := by rw [List.length_map] at hi; omega
    have es : S[i]? = some S[i] := List.getElem?_eq_getElem hi
    generalize S[i] = s at es
    have step : (∀ x y, ¬ FarAt S p i x y) → ∀ k, k < i + 1 → ∀ x y, ¬ FarAt S p k x y := fun h k hk => by
      by_cases e : k = i
      · subst e; exact h
      · exact hno k (by omega)
    refine gn 2 (dss_one (ds_if (φ := nm i = p.1) (Tt.iff (eqD (n := 1) (m := 1) (fun _ => hr) (call i Fn (fun _ => hr) (ac (v 2) an) (by show i < 6; omega)) (ixI (v 1) ki (.t _) rfl) (cm_nm i) (cm_str hP)) ⟨fun z => by injection z, fun z => by rw [z]⟩) (fun he => ?_) (fun hne => ?_)))
    · refine dss_one (ds_if (φ := 0 ≤ p.2.1 ∧ p.2.1 < p.2.2 ∧ p.2.2 < (s.length : Int)) (Tt.iff (dt_w (dw_and (dt_ciE ci_le ki (ixI (v 1) ki (.t _) rfl)) fun _ => dw_and (dt_ciE ci_lt (ixI (v 1) ki (.t _) rfl) (ixI (v 1) ki (.t _) rfl)) fun _ => dw_and1 (dt_ciE ci_lt (ixI (v 1) ki (.t _) rfl) (len_ B (ix (v 0) (v 2) (.l _) (at_map dBooks es)) (.l _))))) (by rw [List.length_map])) (fun hc => ?_) (fun hc => ?_))
      · obtain ⟨c1, c2, c3⟩ := hc
        have l1 : p.2.1.toNat < s.length := by omega
        have l2 : p.2.2.toNat < s.length := by omega
        have e1 : s[p.2.1.toNat]? = some s[p.2.1.toNat] := List.getElem?_eq_getElem l1
        have e2 : s[p.2.2.toNat]? = some s[p.2.2.toNat] := List.getElem?_eq_getElem l2
        generalize s[p.2.1.toNat] = x at e1
        generalize s[p.2.2.toNat] = y at e2
        exact dss_one (ret (tupE (ac (ixI (ix (v 0) (v 2) (.l _) (at_map dBooks es)) (ixI (v 1) ki (.t _) rfl) (.l _) (at_map' tint c1 e1) (imm_tint _)) (ac (ixI (ix (v 0) (v 2) (.l _) (at_map dBooks es)) (ixI (v 1) ki (.t _) rfl) (.l _) (at_map' tint (by omega) e2) (imm_tint _)) an))) (fun d h => .inl ⟨i, x, y, ⟨s, es, he, c1, c2, e1, e2⟩, h⟩))
      · refine dss_nil ⟨_, rfl, step fun x y ⟨s', f1, f2, f3, f4, f5, f6⟩ => hc ?_⟩
        rw [es] at f1
        obtain rfl := Option.some.inj f1
        have := (List.getElem?_eq_some_iff.mp f6).1
        exact ⟨f3, f4, by omega⟩
    · exact dss_nil ⟨_, rfl, step fun x y ⟨s', f1, f2, _⟩ => hne f2⟩
  · obtain ⟨g, rfl, hno⟩ := hI
    refine dss_one (ret kn fun d h => .inr ⟨fun ⟨k, x, y, hf⟩ => hno k ?_ x y hf, h⟩)
    obtain ⟨s', f1, _⟩ := hf
    have := (List.getElem?_eq_some_iff.mp f1).1
    rw [List.length_map]
    simpa using this
end K51

namespace K51
open PySem PySem.Spec PyProof.Rows L2 DL
theorem nil_iff {α : Type} {f : α → D} {l : List α} : l.map f = [] ↔ l = [] := by simp
/-- no `if` -/
theorem dts_t {ι : Type} {X : ι → Cx} {K : PySem.W.Frag} {cl : Kd → Addr} {γ : List G} : DTs X K cl [] γ (Tt ((true : Bool) = true)) := fun M H0 H σ E Q q => dts_nil M H0 H σ E Q fun b H' k h => q b H' k (h.trans ⟨fun _ => rfl, fun _ => trivial⟩)

/-! ### _law_blocks -/
theorem sc_blocks : FnScope ["_law_box_here", "_law_shelves_here", "_law_spots", "_law_inside", "_law_closed", "_law_rows", "_law_k", "_law_j", "_law_i", "_law_step_here", "_law_blocks_here", "_law_term", "_law_fit", "_law_pick", "_law_mark", "_law_row"] ["_law_box_here", "_law_shelves_here", "_law_spots", "_law_inside", "_law_closed"] (defScope (top 57)) := ⟨rfl, rfl, rfl, by decide +kernel, rfl, by decide +kernel, by decide +kernel⟩
abbrev Row := List Int × Place
def dRow (r : Row) : D := .tup [tint r.1, dPlace r.2]
theorem imm_dRow (r : Row) : (dRow r).imm = true := by
  have := imm_tint r.1
  simp [dRow, D.imm, D.immA, this, dPlace]
theorem imm_dBlockA (b : Block) : (dBlock b).imm = true := rfl
def Zer (x y : Book) (inside : List Int) : Prop := ∀ m ∈ inside, (stp x y).getD m.toNat 0 = 0
theorem stp_len {x y : Book} {n : Nat} (hx : x.length = n) (hy : y.length = n) : (stp x y).length = n := by simp [stp, hx, hy]
theorem filt_nil {x y : Book} {inside : List Int} : (inside.filter fun m => decide ((stp x y).getD m.toNat 0 ≠ 0)) = [] ↔ Zer x y inside := by
  rw [List.filter_eq_nil_iff]
  constructor
  · intro h m hm
    have := h m hm
    simpa using this
  · intro h m hm
    have := h m hm
    simpa using this
abbrev cBlocks (W : Wd) : Sp := Con W.K W.cl 5 (fun x : List (List Book) × List Int × List Term × Nat => [.box, dShelves x.1, .lst [], lint x.2.1, dTerms x.2.2.1]) (fun x => okS x.2.2.2 x.1 ∧ (∀ m ∈ x.2.1, mk_ x.2.2.2 m) ∧ x.2.1.length ≤ 100 ∧ (∀ t ∈ x.2.2.1, vt x.2.2.2 t) ∧ x.2.2.1.length ≤ 100 ∧ x.2.2.2 ≤ 100) (fun x d => LP dBlock (fun b => okP b.2) 100 d)
theorem ok_blocks {W : Wd} {f : Addr} {fd : FuncData} (F : FnP W "_law_blocks" "_law_blocks" (top 57) f fd) (B : Bn W) (Ft : GFn W "_law_take" 1 (cTake W)) (Fn : GFn W "_law_name" 1 (cName W)) (Fs : GFn W "_law_step" 1 (cStep W)) : FnOk W.P W.w W.K W.mg W.base CX0 2 f fd ["_law_box_here", "_law_shelves_here", "_law_spots", "_law_inside", "_law_closed"] (cBlocks W) := by
  refine fn_con F sc_blocks rfl fun cdv A outer s H E hr x _ hp => ?_
  have nd := sc_blocks.nd
  obtain ⟨S, ins, cs, n⟩ := x
  obtain ⟨hS, hi1, hi2, hc1, hc2, hn⟩ := hp
  dsimp only at hS hi1 hi2 hc1 hc2 hn
  have hS4 := hS.1
  dsimp only
  refine sq (setO 5 de_nil (fun d h => ⟨[], h, rfl, ?_⟩))
  refine sq (for_ (sl := [6]) (fun k γ' => ∃ (rs : List Row) (g6 g7 g8 g9 : G), γ' = [.v false .box, .v false (dShelves S), .v false (.lst []), .v false (lint ins), .v false (dTerms cs), .ow (rs.map dRow), g6, g7, g8, g9, .un, .un, .un, .un, .un, .un] ∧ rs.length ≤ k * 25 ∧ ∀ r ∈ rs, r.1.length = n ∧ okP r.2) (iR B (len_ B (v 1) (.l _)) (by rw [List.length_map]; omega) (by rw [List.length_map]; omega)) ⟨[], _, _, _, _, rfl, by simp, by simp⟩ (fun k γ' d hk hI hd => ?_) (fun γ' hI => ?_))
  · obtain ⟨rs, g6, g7, g8, g9, rfl, h1, h2⟩ := hI
    subst hd
    have hk : k < S.length := by rw [List.length_map] at hk; omega
    have es : S[k]? = some S[k] := List.getElem?_eq_getElem hk
    generalize S[k] = s at es
    obtain ⟨hs5, hsb⟩ := len_at hS es
    refine gn 6 (dss_one (for_ (sl := [7]) (fun j γ' => ∃ (rs : List Row) (g7 g8 g9 : G), γ' = [.v false .box, .v false (dShelves S), .v false (.lst []), .v false (lint ins), .v false (dTerms cs), .ow (rs.map dRow), .v true (.int k), g7, g8, g9, .un, .un, .un, .un, .un, .un] ∧ rs.length ≤ k * 25 + j * 5 ∧ ∀ r ∈ rs, r.1.length = n ∧ okP r.2) (iR B (len_ B (ix (v 1) (v 6) (.l _) (at_map dBooks es)) (.l _)) (by rw [List.length_map]; omega) (by rw [List.length_map]; omega)) ⟨rs, _, _, _, rfl, by omega, h2⟩ (fun j γ' d hj hI hd => ?_) (fun γ' hI => ?_)))
    · obtain ⟨rs, g7, g8, g9, rfl, h1, h2⟩ := hI
      subst hd
      have hj : j < s.length := by rw [List.length_map] at hj; omega
      have ej : s[j]? = some s[j] := List.getElem?_eq_getElem hj
      generalize s[j] = y at ej
      have ly := (hsb y (List.mem_of_getElem? ej)).1
      refine gn 7 (dss_one (for_ (sl := [8]) (fun i γ' => ∃ (rs : List Row) (g8 g9 : G), γ' = [.v false .box, .v false (dShelves S), .v false (.lst []), .v false (lint ins), .v false (dTerms cs), .ow (rs.map dRow), .v true (.int k), .v true (.int j), g8, g9, .un, .un, .un, .un, .un, .un] ∧ rs.length ≤ k * 25 + j * 5 + i ∧ ∀ r ∈ rs, r.1.length = n ∧ okP r.2) (iR B (v 7) (by omega) (by omega)) ⟨rs, _, _, rfl, by omega, h2⟩ (fun i γ' d hi hI hd => ?_) (fun γ' hI => ?_)))
      · obtain ⟨rs, g8, g9, rfl, h1, h2⟩ := hI
        subst hd
        have hi : i < j := by omega
        have ei : s[i]? = some (s[i]'(by omega)) := List.getElem?_eq_getElem (by omega)
        generalize (s[i]'(by omega)) = x at ei
        have lx := (hsb x (List.mem_of_getElem? ei)).1
        have lz : (stp x y).length = n := stp_len lx ly
        refine gn 8 (dss_one (ds_if (dt_w (dw_and (notInD (n := 2) (m := 0) (fun _ => hr) (tupE (ac (call k Fn (fun _ => hr) (ac (v 6) an) (by show k < 6; omega)) (ac (v 8) an))) (v 2) (.l _) (by simp [D.cm, D.cmA, nm_ok]) (by simp [D.cmA])) fun _ => dw_and1 (notInD (n := 2) (m := 0) (fun _ => hr) (tupE (ac (call k Fn (fun _ => hr) (ac (v 6) an) (by show k < 6; omega)) (ac (v 7) an))) (v 2) (.l _) (by simp [D.cm, D.cmA, nm_ok]) (by simp [D.cmA])))) (fun _ => ?_) (fun h => absurd ⟨by simp, by simp⟩ h)))
        refine sq (set 9 (call (x, y) Fs (fun _ => hr) (ac (ix (ix (v 1) (v 6) (.l _) (at_map dBooks es)) (v 8) (.l _) (at_map tint ei)) (ac (ix (ix (v 1) (v 6) (.l _) (at_map dBooks es)) (v 7) (.l _) (at_map tint ej)) an)) ⟨by rw [lx, ly], by show x.length ≤ 100; omega⟩) (fun d h => ?_))
        subst h
        refine dss_one (ds_if (eqNil (n := 0) (fun _ => hr) (filt [("_law_mark", 14)] [14] D.int D.int ins (fun u => decide ((stp x y).getD u.toNat 0 ≠ 0)) (iL (v 3) rfl) (by omega) (fun u hm => ?_) hom_ints) de_nil (cmA_ints _ _)) (fun _ => ?_) (fun _ => ?_))
        · exact gn 14 ⟨dts_one (Tt.iff (dt_ciE ci_ne (ixI (vi 9 (hi := imm_tint _)) (v 14) (.t _) (at_map' D.int (hi1 u hm).1 (get_at lz (hi1 u hm)))) ki) (by simp)), fun _ => el (vi 14)⟩
        · refine dss_one (app 5 (tupE (ac (v 9) (ac (tupE (ac (call k Fn (fun _ => hr) (ac (v 6) an) (by show k < 6; omega)) (ac (v 8) (ac (v 7) an)))) an))) ?_ (fun d h => ?_))
          · rw [List.length_map]; omega
          · subst h
            have e : rs.map dRow ++ [D.tup [tint (stp x y), .tup [.str (nm k), .int i, .int j]]] = (rs ++ [(stp x y, nm k, (i : Int), (j : Int))]).map dRow := snoc_map dRow rs (stp x y, nm k, (i : Int), (j : Int))
            rw [e]
            exact ⟨hom_map _ (fun _ => rfl) _, _, _, _, rfl, by rw [snoc_len]; omega, snoc_mem h2 ⟨lz, nm_ok k⟩⟩
        · exact dss_nil ⟨rs, _, _, rfl, by omega, h2⟩
      · obtain ⟨rs, g8, g9, rfl, h1, h2⟩ := hI
        exact ⟨rs, _, _, _, rfl, by omega, h2⟩
    · obtain ⟨rs, g7, g8, g9, rfl, h1, h2⟩ := hI
      rw [List.length_map] at h1
      exact ⟨rs, _, _, _, _, rfl, by omega, h2⟩
  · obtain ⟨rs, g6, g7, g8, g9, rfl, h1, h2⟩ := hI
    rw [List.length_map] at h1
    have h1 : rs.length ≤ 100 := by omega
    refine dss_give (j := 5) rfl ?_
    refine sq (setO 10 de_nil (fun d h => ⟨[], h, rfl, ?_⟩))
    refine sq (for_ (sl := [11]) (fun i γ' => ∃ (bs : List Block) (g11 g12 g13 : G), γ' = [.v false .box, .v false (dShelves S), .v false (.lst []), .v false (lint ins), .v false (dTerms cs), .v true (.lst (rs.map dRow)), g6, g7, g8, g9, .ow (bs.map dBlock), g11, g12, g13, .un, .un] ∧ bs.length = i ∧ ∀ b ∈ bs, okP b.2) (iL (v 4) rfl) ⟨[], _, _, _, rfl, rfl, by simp⟩ (fun i γ' d hi hI hd => ?_) (fun γ' hI => ?_))
    · obtain ⟨bs, g11, g12, g13, rfl, e1, e2⟩ := hI
      obtain ⟨t, ht, rfl⟩ := get_map hd
      have hi : i < cs.length := by rw [List.length_map] at hi; exact hi
      have hv := hc1 t (List.mem_of_getElem? ht)
      have hvm : mk_ n t.1 := ⟨hv.1, hv.2.1⟩
      refine gn 11 (sq (set 12 (cat (filt [("_law_row", 15)] [15] dRow (fun r => dPlace r.2) rs (fun r => decide (r.1.getD t.1.toNat 0 = -t.2)) (iL (v 5) rfl) (by omega) (fun r hm => ?_) (hom_map _ (fun _ => rfl))) (lstE (ac (tupE (ac ks (ac ki (ac ki an)))) an) (hom_b rfl)) (hom_app_l (fun d hd => ?_) (fun d hd => ?_)) ?_) (fun d h => ?_)))
      · have hr1 := (h2 r hm).1
        refine gn 15 ⟨dts_one (Tt.iff (dt_ciE ci_eq (ixI (ixI (vi 15 (hi := imm_dRow _)) ki (.t _) rfl (imm_tint _)) (ixI (vi 11) ki (.t _) rfl) (.t _) (at_map' D.int hv.1 (get_at hr1 hvm))) (negE (ixI (vi 11) ki (.t _) rfl))) (by simp)), fun _ => el (ixI (vi 15 (hi := imm_dRow _)) ki (.t _) rfl)⟩
      · obtain ⟨r, _, rfl⟩ := List.mem_map.mp hd; rfl
      · rw [List.mem_singleton] at hd; rw [hd]; rfl
      · rw [List.length_map]
        have := List.length_filter_le (fun r : Row => decide (r.1.getD t.1.toNat 0 = -t.2)) rs
        show _ + 1 ≤ 100000
        omega
      · subst h
        have e : (rs.filter fun r => decide (r.1.getD t.1.toNat 0 = -t.2)).map (fun r => dPlace r.2) ++ [D.tup [.str "low", .int 0, .int 1]] = ((rs.filter fun r => decide (r.1.getD t.1.toNat 0 = -t.2)).map (·.2) ++ [(("low", 0, 1) : Place)]).map dPlace := by
          rw [List.map_append, List.map_map]; rfl
        rw [e]
        have hps : ∀ p ∈ (rs.filter fun r => decide (r.1.getD t.1.toNat 0 = -t.2)).map (·.2) ++ [(("low", 0, 1) : Place)], okP p := by
          refine snoc_mem (fun p hp => ?_) (show PyData.strOk "low" = true by decide +kernel)
          obtain ⟨r, hr', rfl⟩ := List.mem_map.mp hp
          exact (h2 r (List.mem_filter.mp hr').1).2
        have hl1 : 0 < ((rs.filter fun r => decide (r.1.getD t.1.toNat 0 = -t.2)).map (·.2) ++ [(("low", 0, 1) : Place)]).length := by rw [snoc_len]; omega
        have hl2 : ((rs.filter fun r => decide (r.1.getD t.1.toNat 0 = -t.2)).map (·.2) ++ [(("low", 0, 1) : Place)]).length ≤ 1000 := by
          rw [snoc_len, List.length_map]
          have := List.length_filter_le (fun r : Row => decide (r.1.getD t.1.toNat 0 = -t.2)) rs
          omega
        generalize (rs.filter fun r => decide (r.1.getD t.1.toNat 0 = -t.2)).map (·.2) ++ [(("low", 0, 1) : Place)] = ps at hps hl1 hl2
        refine sq (set 13 (call ((ps.map dPlace).length : Int) Ft (fun _ => hr) (ac (v 0) (ac (len_ B (v 12) (.l _)) an)) ⟨by rw [List.length_map]; omega, by rw [List.length_map]; omega⟩) (fun d h => ?_))
        obtain ⟨r, rfl, hr0, hr1⟩ := h
        rw [List.length_map] at hr1
        have hM : ∃ q : Nat, (if (if ((ps.map dPlace).length : Int) - 2 > 0 then ((ps.map dPlace).length : Int) - 2 else 0) < r then (if ((ps.map dPlace).length : Int) - 2 > 0 then ((ps.map dPlace).length : Int) - 2 else 0) else r) = (q : Int) ∧ q < ps.length := by
          rw [List.length_map]
          refine ⟨(if (if (ps.length : Int) - 2 > 0 then (ps.length : Int) - 2 else 0) < r then (if (ps.length : Int) - 2 > 0 then (ps.length : Int) - 2 else 0) else r).toNat, ?_, ?_⟩
          · split <;> split <;> omega
          · split <;> split <;> omega
        obtain ⟨q, hq1, hq2⟩ := hM
        have eq : ps[q]? = some ps[q] := List.getElem?_eq_getElem hq2
        refine dss_one (app 10 (tupE (ac (vi 11) (ac (ixI (v 12) (min_ B (ac (v 13) (ac (max_ B (ac ki (ac (subE (len_ B (v 12) (.l _)) ki) an))) an))) (.l _) (by rw [hq1]; exact at_map dPlace eq)) an))) ?_ (fun d h => ?_))
        · rw [List.length_map]; omega
        · subst h
          have e3 : bs.map dBlock ++ [D.tup [dTerm t, dPlace ps[q]]] = (bs ++ [(t, ps[q])]).map dBlock := snoc_map dBlock bs (t, ps[q])
          rw [e3]
          exact ⟨hom_map _ (fun _ => rfl) _, _, _, _, _, rfl, by rw [snoc_len, e1], snoc_mem e2 (hps _ (List.mem_of_getElem? eq))⟩
    · obtain ⟨bs, g11, g12, g13, rfl, e1, e2⟩ := hI
      rw [List.length_map] at e1
      exact dss_one (ret (vo 10) fun d h => ⟨bs, h, by omega, e2⟩)

/-! ### _law_clear -/
theorem sc_clear : FnScope ["_law_terms_here", "_law_shelves_here", "_law_books", "_law_k"] ["_law_terms_here", "_law_shelves_here"] (defScope (top 62)) := ⟨rfl, rfl, rfl, by decide +kernel, rfl, by decide +kernel, by decide +kernel⟩
def ClearS (ts : List Term) (s : List Book) (m : Nat) : Prop := ∀ k, k < m → ∀ x y, s[k]? = some x → s[k + 1]? = some y → x ≠ y → cmp ts x y = -1
def Clear (ts : List Term) (S : List (List Book)) : Prop := ∀ s ∈ S, ClearS ts s s.length
abbrev cClear (W : Wd) : Sp := Con W.K W.cl 2 (fun x : List Term × List (List Book) × Nat => [dTerms x.1, dShelves x.2.1]) (fun x => okS x.2.2 x.2.1 ∧ ∀ t ∈ x.1, vt x.2.2 t) (fun x d => Vb (Clear x.1 x.2.1) d)
theorem ok_clear {W : Wd} {f : Addr} {fd : FuncData} (F : FnP W "_law_clear" "_law_clear" (top 62) f fd) (B : Bn W) (Fc : GFn W "_law_compare" 1 (cCompare W)) : FnOk W.P W.w W.K W.mg W.base CX0 2 f fd ["_law_terms_here", "_law_shelves_here"] (cClear W) := by
  refine fn_con F sc_clear rfl fun cdv A outer s H E hr x _ hp => ?_
  have nd := sc_clear.nd
  obtain ⟨ts, S, n⟩ := x
  obtain ⟨hS, ht⟩ := hp
  dsimp only at hS ht
  dsimp only
  refine sq (for_ (sl := [2]) (fun i γ' => ∃ g2 g3, γ' = [.v false (dTerms ts), .v false (dShelves S), g2, g3] ∧ ∀ s ∈ S.take i, ClearS ts s s.length) (iL (v 1) rfl) ⟨_, _, rfl, by simp⟩ (fun i γ' d hi hI hd => ?_) (fun γ' hI => ?_))
  · obtain ⟨g2, g3, rfl, hc⟩ := hI
    obtain ⟨s, es, rfl⟩ := get_map hd
    obtain ⟨hs5, hsb⟩ := len_at hS es
    refine gn 2 (dss_one (for_ (sl := [3]) (fun j γ' => ∃ g3, γ' = [.v false (dTerms ts), .v false (dShelves S), .v false (dBooks s), g3] ∧ ClearS ts s j) (iR B (subE (len_ B (v 2) (.l _)) ki) (by rw [List.length_map]; omega) (by rw [List.length_map]; omega)) ⟨_, rfl, fun k hk => by omega⟩ (fun j γ' d hj hI hd => ?_) (fun γ' hI => ?_)))
    · obtain ⟨g3, rfl, hcs⟩ := hI
      subst hd
      rw [List.length_map] at hj
      have e1 : s[j]? = some (s[j]'(by omega)) := List.getElem?_eq_getElem (by omega)
      have e2 : s[j + 1]? = some (s[j + 1]'(by omega)) := List.getElem?_eq_getElem (by omega)
      generalize (s[j]'(by omega)) = x at e1
      generalize (s[j + 1]'(by omega)) = y at e2
      have lx := (hsb x (List.mem_of_getElem? e1)).1
      have ly := (hsb y (List.mem_of_getElem? e2)).1
      refine gn 3 (dss_one (ds_if (φ := x ≠ y ∧ cmp ts x y ≠ -1) (dt_w (dw_and (Tt.iff (neD (n := 1) (m := 1) (fun _ => hr) (ix (v 2) (v 3) (.l _) (at_map tint e1)) (ix (v 2) (addE (v 3) ki) (.l _) (at_map (i := j + 1) tint e2)) (cm_tint _) (cm_tint _)) ⟨fun z e => z (by rw [e]), fun z e => z (tint_inj _ _ e)⟩) fun _ => dw_and1 (dt_ciE ci_ne (call (ts, x, y) Fc (fun _ => hr) (ac (v 0) (ac (ix (v 2) (v 3) (.l _) (at_map tint e1)) (ac (ix (v 2) (addE (v 3) ki) (.l _) (at_map (i := j + 1) tint e2)) an))) ⟨by rw [lx, ly], fun t hm => ⟨(ht t hm).1, by show t.1 < (x.length : Int); rw [lx]; exact (ht t hm).2.1⟩⟩) (negE ki)))) (fun hc' => ?_) (fun hc' => ?_)))
      · refine dss_one (ret kb fun d h => ⟨false, h, (fun z => nomatch z), fun z => ?_⟩)
        exact absurd (z s (List.mem_of_getElem? es) j (by omega) x y e1 e2 hc'.1) hc'.2
      · refine dss_nil ⟨_, rfl, fun k hk x' y' f1 f2 hne => ?_⟩
        by_cases ek : k = j
        · subst ek
          rw [e1] at f1
          rw [e2] at f2
          obtain rfl := Option.some.inj f1
          obtain rfl := Option.some.inj f2
          exact Classical.byContradiction fun z => hc' ⟨hne, z⟩
        · exact hcs k (by omega) x' y' f1 f2 hne
    · obtain ⟨g3, rfl, hcs⟩ := hI
      rw [List.length_map] at hcs
      refine ⟨_, _, rfl, fun s' hs' => ?_⟩
      rw [List.take_add_one, es] at hs'
      rcases List.mem_append.mp hs' with z | z
      · exact hc s' z
      · have : s' = s := by simpa using z
        subst this
        intro k hk x y f1 f2 hne
        have := (List.getElem?_eq_some_iff.mp f2).1
        exact hcs k (by omega) x y f1 f2 hne
  · obtain ⟨g2, g3, rfl, hc⟩ := hI
    rw [List.length_map, List.take_length] at hc
    exact dss_one (ret kb fun d h => ⟨true, h, fun _ => hc, fun _ => rfl⟩)

/-! ### _law_same -/
theorem sc_same : FnScope ["_law_actual", "_law_due", "_law_k"] ["_law_actual", "_law_due"] (defScope (top 63)) := ⟨rfl, rfl, rfl, by decide +kernel, rfl, by decide +kernel, by decide +kernel⟩
abbrev cSame (W : Wd) : Sp := Con W.K W.cl 2 (fun x : Bool × Bool => [.bl x.1, .bl x.2]) (fun _ => True) (fun x d => Vb (x.1 = true ↔ x.2 = true) d)
theorem ok_same {W : Wd} {f : Addr} {fd : FuncData} (F : FnP W "_law_same" "_law_same" (top 63) f fd) (B : Bn W) : FnOk W.P W.w W.K W.mg W.base CX0 1 f fd ["_law_actual", "_law_due"] (cSame W) := by
  refine fn_con F sc_same rfl fun cdv A outer s H E hr x _ hp => ?_
  have nd := sc_same.nd
  obtain ⟨a, b⟩ := x
  dsimp only
  refine sq (ds_if (dt_isN (v 1)) (fun h => by cases h) (fun _ => dss_nil ?_))
  refine sq (ds_if (tv (blV (isi B (v 1) (T := "bool") (t := "bool") (r := true) (by decide +kernel) B.bool (by decide +kernel)))) (fun h => ?_) (fun h => absurd rfl h))
  refine dss_one (ret (andV (blV (isi B (v 0) (T := "bool") (t := "bool") (r := true) (by decide +kernel) B.bool (by decide +kernel))) fun _ => de_one (eqBv (blV (v 0)) (blV (v 1)))) (fun d ⟨c, h, hc⟩ => ⟨c, h, hc.trans ⟨fun z => z.2, fun z => ⟨rfl, z⟩⟩⟩))

/-! ### _law_holds -/
theorem sc_holds : FnScope ["_law_clear_here", "_law_row", "_law_among", "_law_terms_here", "_law_first", "_law_term"] ["_law_clear_here", "_law_row", "_law_among"] (defScope (top 65)) := ⟨rfl, rfl, rfl, by decide +kernel, rfl, by decide +kernel, by decide +kernel⟩
def dRow3 (ins : List Int) (exs : List Term) (bls : List Block) : D := .lst [lint ins, dTerms exs, .lst (bls.map dBlock)]
def Hold1 (ins : List Int) (exs : List Term) (among : List Int) (ts : List Term) : Prop := (∀ t ∈ ts, t.1 ∈ among) → ∃ t r, (ts.filter fun t => decide (t.1 ∉ ins)) = t :: r ∧ t ∈ exs
def Holds (cl : List (List Term)) (ins : List Int) (exs : List Term) (among : List Int) : Prop := ∀ ts ∈ cl, Hold1 ins exs among ts
abbrev cHolds (W : Wd) : Sp := Con W.K W.cl 3 (fun x : List (List Term) × (List Int × List Term × List Block) × List Int => [.lst (x.1.map dTerms), dRow3 x.2.1.1 x.2.1.2.1 x.2.1.2.2, lint x.2.2]) (fun x => ∀ ts ∈ x.1, ts.length ≤ 1000) (fun x d => Vb (Holds x.1 x.2.1.1 x.2.1.2.1 x.2.2) d)
theorem ok_holds {W : Wd} {f : Addr} {fd : FuncData} (F : FnP W "_law_holds" "_law_holds" (top 65) f fd) (B : Bn W) : FnOk W.P W.w W.K W.mg W.base CX0 1 f fd ["_law_clear_here", "_law_row", "_law_among"] (cHolds W) := by
  refine fn_con F sc_holds rfl fun cdv A outer s H E hr x _ hp => ?_
  have nd := sc_holds.nd
  obtain ⟨cs, ⟨ins, exs, bls⟩, am⟩ := x
  dsimp only at hp
  dsimp only
  refine sq (for_ (sl := [3]) (fun i γ' => ∃ g3 g4, γ' = [.v false (.lst (cs.map dTerms)), .v false (dRow3 ins exs bls), .v false (lint am), g3, g4, .un] ∧ ∀ ts ∈ cs.take i, Hold1 ins exs am ts) (iL (v 0) rfl) ⟨_, _, rfl, by simp⟩ (fun i γ' d hi hI hd => ?_) (fun γ' hI => ?_))
  · obtain ⟨g3, g4, rfl, hc⟩ := hI
    obtain ⟨ts, es, rfl⟩ := get_map hd
    have hts := List.mem_of_getElem? es
    have hlen := hp ts hts
    have nextI : Hold1 ins exs am ts → ∀ ts ∈ cs.take (i + 1), Hold1 ins exs am ts := fun h ts' hm => by
      rw [List.take_add_one, es] at hm
      rcases List.mem_append.mp hm with z | z
      · exact hc ts' z
      · have : ts' = ts := by simpa using z
        rw [this]; exact h
    refine gn 3 (dss_one (ds_if (φ := ∀ t ∈ ts, t.1 ∈ am) (Tt.iff (eqNil (n := 1) (fun _ => hr) (filt [("_law_term", 5)] [5] dTerm dTerm ts (fun t => decide (t.1 ∉ am)) (iL (v 3) rfl) (by omega) (fun t hm => ?_) hom_terms) de_nil (cmA_map _ cm_dTerm _)) ?_) (fun hall => ?_) (fun hn => ?_)))
    · exact gn 5 ⟨dts_one (Tt.iff (notInD (n := 1) (m := 1) (fun _ => hr) (ixI (v 5) ki (.t _) rfl) (v 2) (.l _) (by simp [D.cm]) (cmA_ints _ _)) (by rw [decide_eq_true_eq]; exact not_congr (mem_map_iff int_inj))), fun _ => el (vi 5)⟩
    · rw [nil_iff, List.filter_eq_nil_iff]; simp
    · refine sq (setF 4 [("_law_term", 5)] [5] dTerm dTerm ts (fun t => decide (t.1 ∉ ins)) (iL (v 3) rfl) (by omega) (fun t hm => ?_) hom_terms ?_)
      · exact gn 5 ⟨dts_one (Tt.iff (notInD (n := 1) (m := 1) (fun _ => hr) (ixI (v 5) ki (.t _) rfl) (ix (v 1) ki (.l _) rfl) (.l _) (by simp [D.cm]) (cmA_ints _ _)) (by rw [decide_eq_true_eq]; exact not_congr (mem_map_iff int_inj))), fun _ => el (vi 5)⟩
      · generalize hF : (ts.filter fun t => decide (t.1 ∉ ins)) = fs
        refine dss_one (ds_if (φ := fs = [] ∨ ∃ t r, fs = t :: r ∧ t ∉ exs) ?_ (fun hb => ?_) (fun hb => ?_))
        · cases fs with
          | nil => exact Tt.iff (dt_w (dw_or (eqNil (n := 1) (fun _ => hr) (v 4) de_nil (cmA_map _ cm_dTerm _)) (ψ := True) fun h => absurd rfl h)) (by simp)
          | cons t r => exact Tt.iff (dt_w (dw_or (eqNil (n := 1) (fun _ => hr) (v 4) de_nil (cmA_map _ cm_dTerm _)) fun _ => dw_or1 (notInD (n := 1) (m := 1) (fun _ => hr) (ixI (v 4) ki (.l _) (d := dTerm t) (by exact at_map (i := 0) (l := t :: r) dTerm rfl)) (ix (v 1) ki (.l _) rfl) (.l _) (cm_dTerm _) (cmA_map _ cm_dTerm _)))) (by
              rw [mem_map_iff (f := dTerm) (fun a b => dTerm_inj)]
              simp)
        · refine dss_one (ret kb fun d h => ⟨false, h, (fun z => nomatch z), fun z => ?_⟩)
          obtain ⟨t, r, f1, f2⟩ := z ts hts hall
          rw [hF] at f1
          rcases hb with hb | ⟨t', r', hb, hb2⟩
          · rw [hb] at f1; cases f1
          · rw [hb] at f1
            injection f1 with f1 _
            exact absurd (f1 ▸ f2) hb2
        · refine dss_nil ⟨_, _, rfl, nextI fun _ => ?_⟩
          rw [hF]
          cases fs with
          | nil => exact absurd (.inl rfl) hb
          | cons t r => exact ⟨t, r, rfl, Classical.byContradiction fun z => hb (.inr ⟨t, r, rfl, z⟩)⟩
    · exact dss_nil ⟨_, _, rfl, nextI fun h => absurd h hn⟩
  · obtain ⟨g3, g4, rfl, hc⟩ := hI
    rw [List.length_map, List.take_length] at hc
    exact dss_one (ret kb fun d h => ⟨true, h, fun _ => hc, fun _ => rfl⟩)
end K51

namespace K51
open PySem PySem.Spec PyProof.Rows L2 DL
theorem filt_t {α : Type} (l : List α) : (l.filter fun _ => true) = l := List.filter_eq_self.mpr (fun _ _ => rfl)
/-! ### _law_parts_of_rules -/
theorem sc_parts : FnScope ["_law_count_here", "_law_rows", "_law_found", "_law_k", "_law_longer", "_law_row", "_law_used", "_law_mark", "_law_term"] ["_law_count_here"] (defScope (top 61)) := ⟨rfl, rfl, rfl, by decide +kernel, rfl, by decide +kernel, by decide +kernel⟩
theorem hom_dTerms (l : List (List Term)) : hom (l.map dTerms) := hom_map _ (fun _ => rfl) _
def okR (n : Nat) (ts : List Term) : Prop := ts.length ≤ 1000 ∧ ∀ t ∈ ts, vt n t
abbrev cParts (W : Wd) : Sp := Con W.K W.cl 1 (fun n : Nat => [.int n]) (fun n => n ≤ 4) (fun n d => LP dTerms (okR n) 10000 d)
theorem ok_parts {W : Wd} {f : Addr} {fd : FuncData} (F : FnP W "_law_parts_of_rules" "_law_parts_of_rules" (top 61) f fd) (B : Bn W) : FnOk W.P W.w W.K W.mg W.base CX0 1 f fd ["_law_count_here"] (cParts W) := by
  refine fn_con F sc_parts rfl fun cdv A outer s H E hr n _ hp => ?_
  have nd := sc_parts.nd
  have hn : n ≤ 4 := hp
  refine sq (set 1 (P := Is (.lst (([[]] : List (List Term)).map dTerms))) (lstE (ac de_nil an) (hom_b rfl)) (fun d h => ?_))
  subst h
  refine sq (set 2 (P := Is (.lst (([[]] : List (List Term)).map dTerms))) (lstE (ac de_nil an) (hom_b rfl)) (fun d h => ?_))
  subst h
  refine sq (for_ (sl := [3]) (fun k γ' => ∃ (rs fs : List (List Term)) (g3 g4 g5 g6 g7 : G), γ' = [.v false (.int n), .v true (.lst (rs.map dTerms)), .v true (.lst (fs.map dTerms)), g3, g4, g5, g6, g7, .un] ∧ rs.length ≤ 8 ^ k ∧ fs.length ≤ 2 * 8 ^ k ∧ (∀ r ∈ rs, r.length ≤ k ∧ ∀ t ∈ r, vt n t) ∧ ∀ r ∈ fs, okR n r) (iR B (v 0) (by omega) (by omega)) ⟨[[]], [[]], _, _, _, _, _, rfl, by simp, by simp, by simp, by simp [okR]⟩ (fun k γ' d hk hI hd => ?_) (fun γ' hI => ?_))
  · obtain ⟨rs, fs, g3, g4, g5, g6, g7, rfl, h1, h2, h3, h4⟩ := hI
    subst hd
    have hk : k < n := by omega
    have hpow : 8 ^ k ≤ 512 := Nat.le_trans (Nat.pow_le_pow_right (by decide) (show k ≤ 3 by omega)) (by decide)
    refine gn 3 (sq (setO 4 de_nil (fun d h => ⟨[], h, rfl, ?_⟩)))
    refine sq (for_ (sl := [5]) (fun i γ' => ∃ (ls : List (List Term)) (g5 g6 g7 : G), γ' = [.v false (.int n), .v true (.lst (rs.map dTerms)), .v true (.lst (fs.map dTerms)), .v true (.int k), .ow (ls.map dTerms), g5, g6, g7, .un] ∧ ls.length ≤ i * 8 ∧ ∀ r ∈ ls, r.length ≤ k + 1 ∧ ∀ t ∈ r, vt n t) (iL (v 1) rfl) ⟨[], _, _, _, rfl, by simp, by simp⟩ (fun i γ' d hi hI hd => ?_) (fun γ' hI => ?_))
    · obtain ⟨ls, g5, g6, g7, rfl, e1, e2⟩ := hI
      obtain ⟨r, hr', rfl⟩ := get_map hd
      obtain ⟨hrl, hrv⟩ := h3 r (List.mem_of_getElem? hr')
      have hi : i < rs.length := by rw [List.length_map] at hi; exact hi
      refine gn 5 (sq (setF 6 [("_law_term", 8)] [8] dTerm (fun t => D.int t.1) r (fun _ => true) (iL (v 5) rfl) (by omega) (fun t hm => ?_) (fun m => by have := hom_ints (m.map (·.1)); rwa [List.map_map] at this) ?_))
      · exact gn 8 ⟨dts_t, fun _ => el (ixI (vi 8) ki (.t _) rfl)⟩
      · refine dss_one (for_ (sl := [7]) (fun j γ' => ∃ (ls : List (List Term)) (g7 : G), γ' = [.v false (.int n), .v true (.lst (rs.map dTerms)), .v true (.lst (fs.map dTerms)), .v true (.int k), .ow (ls.map dTerms), .v true (dTerms r), .v true (.lst ((r.filter fun _ => true).map fun t => D.int t.1)), g7, .un] ∧ ls.length ≤ i * 8 + j * 2 ∧ ∀ r ∈ ls, r.length ≤ k + 1 ∧ ∀ t ∈ r, vt n t) (iR B (v 0) (by omega) (by omega)) ⟨ls, _, rfl, by omega, e2⟩ (fun j γ' d hj hI hd => ?_) (fun γ' hI => ?_))
        · obtain ⟨ls, g7, rfl, e1, e2⟩ := hI
          subst hd
          have hj : j < n := by omega
          have one : ∀ dr : Int, (dr = 1 ∨ dr = -1) → ∀ t ∈ r ++ [((j : Int), dr)], vt n t := fun dr hdr => snoc_mem hrv ⟨by dsimp only; omega, by dsimp only; omega, hdr⟩
          have cm1 : D.cmA 1 ((r.filter fun _ => true).map fun t => D.int t.1) = true := cmA_of fun d hd => by obtain ⟨t, _, rfl⟩ := List.mem_map.mp hd; simp [D.cm]
          refine gn 7 (dss_one (ds_ifP (T := fun _ => True) (DTe.mono (notInD (n := 1) (m := 1) (fun _ => hr) (v 7) (v 6) (.l _) (by simp [D.cm]) cm1) fun _ _ => trivial) (fun _ => ?_) (fun _ => ?_)))
          · refine sq (app 4 (cat (v 5) (lstE (ac (tupE (ac (v 7) (ac ki an))) an) (hom_b rfl)) (hom_app_l (fun d hd => ?_) (fun d hd => ?_)) ?_) ?_ (fun d h => ?_))
            · obtain ⟨t, _, rfl⟩ := List.mem_map.mp hd; rfl
            · rw [List.mem_singleton] at hd; rw [hd]; rfl
            · rw [List.length_map]; show _ + 1 ≤ 100000; omega
            · rw [List.length_map]; omega
            · subst h
              have ee : ls.map dTerms ++ [D.lst (r.map dTerm ++ [D.tup [.int j, .int 1]])] = (ls ++ [r ++ [((j : Int), 1)]]).map dTerms := by rw [List.map_append]; simp [dTerms, dTerm]
              rw [ee]
              refine ⟨hom_dTerms _, ?_⟩
              refine dss_one (app 4 (cat (v 5) (lstE (ac (tupE (ac (v 7) (ac (negE ki) an))) an) (hom_b rfl)) (hom_app_l (fun d hd => ?_) (fun d hd => ?_)) ?_) ?_ (fun d h => ?_))
              · obtain ⟨t, _, rfl⟩ := List.mem_map.mp hd; rfl
              · rw [List.mem_singleton] at hd; rw [hd]; rfl
              · rw [List.length_map]; show _ + 1 ≤ 100000; omega
              · rw [List.length_map, snoc_len]; omega
              · subst h
                have ee : (ls ++ [r ++ [((j : Int), 1)]]).map dTerms ++ [D.lst (r.map dTerm ++ [D.tup [.int j, .int (-1)]])] = ((ls ++ [r ++ [((j : Int), 1)]]) ++ [r ++ [((j : Int), -1)]]).map dTerms := by simp [dTerms, dTerm]
                rw [ee]
                refine ⟨hom_dTerms _, _, _, rfl, by rw [snoc_len, snoc_len]; omega, snoc_mem (snoc_mem e2 ⟨by rw [snoc_len]; omega, one 1 (.inl rfl)⟩) ⟨by rw [snoc_len]; omega, one (-1) (.inr rfl)⟩⟩
          · exact dss_nil ⟨ls, _, rfl, by omega, e2⟩
        · obtain ⟨ls, g7, rfl, e1, e2⟩ := hI
          exact ⟨ls, _, _, _, rfl, by omega, e2⟩
    · obtain ⟨ls, g5, g6, g7, rfl, e1, e2⟩ := hI
      rw [List.length_map] at e1
      have hp1 : 8 ^ (k + 1) = 8 ^ k * 8 := Nat.pow_succ 8 k
      refine dss_give (j := 4) rfl ?_
      refine sq (set 1 (v 4) (fun d h => ?_))
      subst h
      refine dss_one (set 2 (P := Is (.lst ((fs ++ ls).map dTerms))) (DE.mono (cat (v 2) (v 4) (hom_app_l (fun d hd => ?_) (fun d hd => ?_)) ?_) fun d h => by rw [List.map_append]; exact h) (fun d h => ?_))
      · obtain ⟨t, _, rfl⟩ := List.mem_map.mp hd; rfl
      · obtain ⟨t, _, rfl⟩ := List.mem_map.mp hd; rfl
      · rw [List.length_map, List.length_map]; omega
      · subst h
        refine ⟨ls, fs ++ ls, _, _, _, _, _, rfl, by omega, by rw [List.length_append]; omega, e2, fun r hr' => ?_⟩
        rcases List.mem_append.mp hr' with z | z
        · exact h4 r z
        · exact ⟨by have := (e2 r z).1; omega, (e2 r z).2⟩
  · obtain ⟨rs, fs, g3, g4, g5, g6, g7, rfl, h1, h2, h3, h4⟩ := hI
    have hpow : 8 ^ n ≤ 4096 := Nat.le_trans (Nat.pow_le_pow_right (by decide) hn) (by decide)
    rw [Int.toNat_natCast] at h2
    exact dss_one (ret (v 2) fun d h => ⟨fs, h, by omega, h4⟩)

/-! ### _law_shut -/
def Good (n : Nat) (ms : List Int) (k : Nat) : Prop := ∀ m, ms[k]? = some m → mk_ n m ∧ (0 < k → ∀ l, ms[k - 1]? = some l → l < m)
def Asc (n : Nat) (ms : List Int) : Prop := ∀ k, k < ms.length → Good n ms k
theorem Asc.mk {n : Nat} {ms : List Int} (h : Asc n ms) : ∀ m ∈ ms, mk_ n m := fun m hm => by
  obtain ⟨k, hk, e⟩ := List.getElem_of_mem hm
  exact (h k hk m (by rw [List.getElem?_eq_getElem hk, e])).1
def outs (n : Nat) (am ins : List Int) : List Term := (allT n).filter fun t => decide (t.1 ∈ am ∧ t.1 ∉ ins)
def BlkGood (S : List (List Book)) (ins : List Int) (b : Block) : Prop := ∃ k x y, FarAt S b.2 k x y ∧ Zer x y ins ∧ (stp x y).getD b.1.1.toNat 0 = -b.1.2
def Shut (n : Nat) (S : List (List Book)) (ins : List Int) (exs : List Term) (bls : List Block) (am : List Int) : Prop :=
  Asc n ins ∧ exs = (outs n am ins).filter (fun t => decide (t ∈ exs)) ∧ bls.map (·.1) = (outs n am ins).filter (fun t => decide (t ∉ exs)) ∧ ∀ b ∈ bls, BlkGood S ins b
theorem dTerms_inj {a b : List Term} (h : dTerms a = dTerms b) : a = b := by
  unfold dTerms at h
  injection h with h
  exact map_inj (fun _ _ => dTerm_inj) h
theorem sc_shut : FnScope ["_law_count_here", "_law_shelves_here", "_law_spots", "_law_inside", "_law_exits", "_law_blocks_here", "_law_among", "_law_k", "_law_outside", "_law_block", "_law_place", "_law_pair", "_law_step_here", "_law_term", "_law_mark"] ["_law_count_here", "_law_shelves_here", "_law_spots", "_law_inside", "_law_exits", "_law_blocks_here", "_law_among"] (defScope (top 60)) := ⟨rfl, rfl, rfl, by decide +kernel, rfl, by decide +kernel, by decide +kernel⟩
abbrev cShut (W : Wd) : Sp := Con W.K W.cl 7 (fun x : Nat × List (List Book) × List Int × List Term × List Block × List Int => [.int x.1, dShelves x.2.1, .lst [], lint x.2.2.1, dTerms x.2.2.2.1, .lst (x.2.2.2.2.1.map dBlock), lint x.2.2.2.2.2])
  (fun x => okS x.1 x.2.1 ∧ x.1 ≤ 100 ∧ x.2.2.1.length ≤ 10000 ∧ x.2.2.2.2.1.length ≤ 10000 ∧ ∀ b ∈ x.2.2.2.2.1, okP b.2) (fun x d => Vb (Shut x.1 x.2.1 x.2.2.1 x.2.2.2.1 x.2.2.2.2.1 x.2.2.2.2.2) d)
theorem ok_shut {W : Wd} {f : Addr} {fd : FuncData} (F : FnP W "_law_shut" "_law_shut" (top 60) f fd) (B : Bn W) (Fs : GFn W "_law_step" 1 (cStep W)) (Fte : GFn W "_law_terms" 1 (cTerms W)) (Ff : GFn W "_law_far" 2 (cFar W)) :
    FnOk W.P W.w W.K W.mg W.base CX0 3 f fd ["_law_count_here", "_law_shelves_here", "_law_spots", "_law_inside", "_law_exits", "_law_blocks_here", "_law_among"] (cShut W) := by
  refine fn_con F sc_shut rfl fun cdv A outer s H E hr x _ hp => ?_
  have nd := sc_shut.nd
  obtain ⟨n, S, ins, exs, bls, am⟩ := x
  obtain ⟨hS, hn, hl1, hl2, hP⟩ := hp
  dsimp only at hS hn hl1 hl2 hP
  dsimp only
  refine sq (for_ (sl := [7]) (fun k γ' => ∃ g, γ' = [.v false (.int n), .v false (dShelves S), .v false (.lst []), .v false (lint ins), .v false (dTerms exs), .v false (.lst (bls.map dBlock)), .v false (lint am), g, .un, .un, .un, .un, .un, .un, .un] ∧ ∀ j, j < k → Good n ins j) (iR B (len_ B (v 3) (.l _)) (by rw [List.length_map]; omega) (by rw [List.length_map]; omega)) ⟨_, rfl, by omega⟩ (fun k γ' d hk hI hd => ?_) (fun γ' hI => ?_))
  · obtain ⟨g, rfl, hg⟩ := hI
    subst hd
    have hk : k < ins.length := by rw [List.length_map] at hk; omega
    have ek : ins[k]? = some ins[k] := List.getElem?_eq_getElem hk
    generalize ins[k] = m at ek
    have gd : Good n ins k ↔ ¬ (¬ 0 ≤ m ∨ (n : Int) ≤ m ∨ (0 < (k : Int) ∧ m ≤ ins.getD (k - 1) 0)) := by
      have e1 : 0 < k → ins[k - 1]? = some (ins.getD (k - 1) 0) := fun h => by rw [List.getD_eq_getElem?_getD, List.getElem?_eq_getElem (by omega)]; rfl
      constructor
      · rintro h (z | z | ⟨z, z2⟩)
        · exact z (h m ek).1.1
        · have := (h m ek).1.2; omega
        · have := (h m ek).2 (by omega) _ (e1 (by omega)); omega
      · intro h m' hm'
        rw [ek] at hm'
        obtain rfl := Option.some.inj hm'
        refine ⟨⟨Classical.byContradiction fun z => h (.inl z), Classical.byContradiction fun z => h (.inr (.inl (by omega)))⟩, fun h0 l hl => ?_⟩
        rw [e1 h0] at hl
        obtain rfl := Option.some.inj hl
        exact Classical.byContradiction fun z => h (.inr (.inr ⟨by omega, by omega⟩))
    refine gn 7 (dss_one (ds_if (φ := ¬ 0 ≤ m ∨ (n : Int) ≤ m ∨ (0 < (k : Int) ∧ m ≤ ins.getD (k - 1) 0)) (Tt.iff (dt_w (dw_or (dt_not (dt_ciE ci_le ki (ixI (v 3) (v 7) (.l _) (at_map D.int ek)))) fun _ => dw_or (dt_ciE ci_ge (ixI (v 3) (v 7) (.l _) (at_map D.int ek)) (v 0)) fun _ => dw_or1 (dt_w (dw_and (dt_ciE ci_gt (v 7) ki) fun hk0 => dw_and1 (dt_ciE ci_ge (ixI (v 3) (subE (v 7) ki) (.l _) (d := .int (ins.getD (k - 1) 0)) ?_) (ixI (v 3) (v 7) (.l _) (at_map D.int ek))))))) Iff.rfl) (fun hb => ?_) (fun hb => ?_)))
    · have hk0 : 0 < (k : Int) := hk0
      have e0 : ((k : Int) - 1) = ((k - 1 : Nat) : Int) := by omega
      rw [e0]
      exact at_map D.int (by rw [List.getD_eq_getElem?_getD, List.getElem?_eq_getElem (by omega)]; rfl)
    · exact dss_one (ret kb fun d h => ⟨false, h, (fun z => nomatch z), fun z => absurd hb (gd.mp (z.1 k hk))⟩)
    · refine dss_nil ⟨_, rfl, fun j hj => ?_⟩
      by_cases e : j = k
      · subst e; exact gd.mpr hb
      · exact hg j (by omega)
  · obtain ⟨g, rfl, hg⟩ := hI
    have hA : Asc n ins := fun j hj => hg j (by rw [List.length_map]; omega)
    have hmk := hA.mk
    have lenO : (outs n am ins).length ≤ 200 := Nat.le_trans (List.length_filter_le _ _) (by rw [allT_len]; omega)
    refine sq (setF 8 [("_law_term", 13)] [13] dTerm dTerm (allT n) (fun t => decide (t.1 ∈ am ∧ t.1 ∉ ins)) (iL (call n Fte (fun _ => hr) (ac (v 0) an) hn) rfl) (by rw [allT_len]; omega) (fun t hm => ?_) hom_terms ?_)
    · exact gn 13 ⟨dts_one (Tt.iff (dt_w (dw_and (inD (n := 1) (m := 1) (fun _ => hr) (ixI (v 13) ki (.t _) rfl) (v 6) (.l _) (by simp [D.cm]) (cmA_ints _ _)) fun _ => dw_and1 (notInD (n := 1) (m := 1) (fun _ => hr) (ixI (v 13) ki (.t _) rfl) (v 3) (.l _) (by simp [D.cm]) (cmA_ints _ _)))) (by rw [decide_eq_true_eq, mem_map_iff int_inj, mem_map_iff int_inj])), fun _ => el (vi 13)⟩
    · change DSs _ _ _ _ (List.set _ 8 (G.v true (D.lst ((outs n am ins).map dTerm)))) _
      refine sq (ds_if (φ := exs ≠ (outs n am ins).filter (fun t => decide (t ∈ exs))) (Tt.iff (neD (n := 2) (m := 2) (fun _ => hr) (list_ B (v 4) (.l _) (hom_terms _)) (filt [("_law_term", 13)] [13] dTerm dTerm (outs n am ins) (fun t => decide (t ∈ exs)) (iL (v 8) rfl) (by omega) (fun t hm => ?_) hom_terms) (cm_dTerms _) (cm_dTerms _)) ?_) (fun hb => ?_) (fun hb => dss_nil ?_))
      · exact gn 13 ⟨dts_one (Tt.iff (inD (n := 1) (m := 1) (fun _ => hr) (v 13) (v 4) (.l _) (cm_dTerm _) (cmA_map _ cm_dTerm _)) (by rw [decide_eq_true_eq, mem_map_iff (fun _ _ => dTerm_inj)])), fun _ => el (vi 13)⟩
      · exact ⟨fun z e => z (congrArg dTerms e), fun z e => z (dTerms_inj e)⟩
      · exact dss_one (ret kb fun d h => ⟨false, h, (fun z => nomatch z), fun z => absurd z.2.1 hb⟩)
      · have hE : exs = (outs n am ins).filter (fun t => decide (t ∈ exs)) := Classical.byContradiction hb
        refine sq (ds_if (φ := bls.map (·.1) ≠ (outs n am ins).filter (fun t => decide (t ∉ exs))) (Tt.iff (neD (n := 2) (m := 2) (fun _ => hr) (filt [("_law_block", 9)] [9] dBlock (fun b => dTerm b.1) bls (fun _ => true) (iL (v 5) rfl) (by omega) (fun b hm => ?_) (hom_map _ (fun _ => rfl))) (filt [("_law_term", 13)] [13] dTerm dTerm (outs n am ins) (fun t => decide (t ∉ exs)) (iL (v 8) rfl) (by omega) (fun t hm => ?_) hom_terms) ?_ (cm_dTerms _)) ?_) (fun hb => ?_) (fun hb => dss_nil ?_))
        · exact gn 9 ⟨dts_t, fun _ => el (ixI (vi 9) ki (.t _) rfl)⟩
        · exact gn 13 ⟨dts_one (Tt.iff (notInD (n := 1) (m := 1) (fun _ => hr) (v 13) (v 4) (.l _) (cm_dTerm _) (cmA_map _ cm_dTerm _)) (by rw [decide_eq_true_eq, mem_map_iff (fun _ _ => dTerm_inj)])), fun _ => el (vi 13)⟩
        · simp [D.cm]; exact cmA_map (fun b : Block => dTerm b.1) (fun b => cm_dTerm b.1) _
        · have e0 : D.lst ((bls.filter fun _ => true).map fun b => dTerm b.1) = dTerms (bls.map (·.1)) := by rw [filt_t]; unfold dTerms; rw [List.map_map]; rfl
          rw [e0]
          exact ⟨fun z e => z (congrArg dTerms e), fun z e => z (dTerms_inj e)⟩
        · exact dss_one (ret kb fun d h => ⟨false, h, (fun z => nomatch z), fun z => absurd z.2.2.1 hb⟩)
        · have hB : bls.map (·.1) = (outs n am ins).filter (fun t => decide (t ∉ exs)) := Classical.byContradiction hb
          have hvt : ∀ b ∈ bls, mk_ n b.1.1 := fun b hm => by
            have h1 : b.1 ∈ bls.map (·.1) := List.mem_map.mpr ⟨b, hm, rfl⟩
            rw [hB] at h1
            have h2 := mem_allT.mp (List.mem_filter.mp (List.mem_filter.mp h1).1).1
            exact ⟨h2.1, h2.2.1⟩
          refine sq (for_ (sl := [9]) (fun i γ' => ∃ g9 g10 g11 g12, γ' = [.v false (.int n), .v false (dShelves S), .v false (.lst []), .v false (lint ins), .v false (dTerms exs), .v false (.lst (bls.map dBlock)), .v false (lint am), g, .v true (D.lst ((outs n am ins).map dTerm)), g9, g10, g11, g12, .un, .un] ∧ ∀ b ∈ bls.take i, BlkGood S ins b) (iL (v 5) rfl) ⟨_, _, _, _, rfl, by simp⟩ (fun i γ' d hi hI hd => ?_) (fun γ' hI => ?_))
          · obtain ⟨g9, g10, g11, g12, rfl, hbs⟩ := hI
            obtain ⟨b, eb, rfl⟩ := get_map hd
            have hbm := List.mem_of_getElem? eb
            have hmk1 := hvt b hbm
            refine gn 9 (sq (set 10 (ixI (vi 9) ki (.t _) (d := dPlace b.2) rfl) (fun d h => ?_)))
            subst h
            refine sq (set 11 (call (S, b.2, n) Ff (fun _ => hr) (ac (v 1) (ac (vi 10) an)) ⟨hS, hP b hbm⟩) (fun d h => ?_))
            rcases h with ⟨k, x, y, hf, rfl⟩ | ⟨hno, rfl⟩
            · refine sq (ds_if (φ := False) (Tt.iff (dt_w (dw_or (dt_isN (v 11)) fun _ => dw_or (inD (n := 2) (m := 0) (fun _ => hr) (tupE (ac (ixI (vi 10) ki (.t _) rfl) (ac (ixI (vi 10) ki (.t _) rfl) an))) (v 2) (.l _) (by have := hP b hbm; simp only [okP] at this; simp [D.cm, D.cmA, this]) (by simp [D.cmA])) fun _ => dw_or1 (inD (n := 2) (m := 0) (fun _ => hr) (tupE (ac (ixI (vi 10) ki (.t _) rfl) (ac (ixI (vi 10) ki (.t _) rfl) an))) (v 2) (.l _) (by have := hP b hbm; simp only [okP] at this; simp [D.cm, D.cmA, this]) (by simp [D.cmA])))) (by simp)) (fun z => z.elim) (fun _ => dss_nil ?_))
              have hf' := hf
              obtain ⟨s', f1, f2, f3, f4, f5, f6⟩ := hf
              obtain ⟨hs5, hsb⟩ := len_at hS f1
              have lx := (hsb x (List.mem_of_getElem? f5)).1
              have ly := (hsb y (List.mem_of_getElem? f6)).1
              have lz : (stp x y).length = n := stp_len lx ly
              refine sq (set 12 (call (x, y) Fs (fun _ => hr) (ac (ixI (vi 11 (hi := by simp [D.imm, D.immA, imm_tint])) ki (.t _) rfl (imm_tint _)) (ac (ixI (vi 11 (hi := by simp [D.imm, D.immA, imm_tint])) ki (.t _) rfl (imm_tint _)) an)) ⟨by rw [lx, ly], by show x.length ≤ 100; omega⟩) (fun d h => ?_))
              subst h
              refine dss_one (ds_if (φ := ¬ (Zer x y ins ∧ (stp x y).getD b.1.1.toNat 0 = -b.1.2)) (Tt.iff (dt_w (dw_or (neNil (n := 0) (fun _ => hr) (filt [("_law_mark", 14)] [14] D.int D.int ins (fun u => decide ((stp x y).getD u.toNat 0 ≠ 0)) (iL (v 3) rfl) (by omega) (fun u hm => ?_) hom_ints) de_nil (cmA_ints _ _)) fun _ => dw_or1 (dt_ciE ci_ne (ixI (vi 12 (hi := imm_tint _)) (ixI (ixI (vi 9) ki (.t _) (d := dTerm b.1) rfl) ki (.t _) rfl) (.t _) (at_map' D.int hmk1.1 (get_at lz hmk1))) (negE (ixI (ixI (vi 9) ki (.t _) (d := dTerm b.1) rfl) ki (.t _) rfl))))) ?_) (fun hb' => ?_) (fun hb' => ?_))
              · exact gn 14 ⟨dts_one (Tt.iff (dt_ciE ci_ne (ixI (vi 12 (hi := imm_tint _)) (v 14) (.t _) (at_map' D.int (hmk u hm).1 (get_at lz (hmk u hm)))) ki) (by simp)), fun _ => el (vi 14)⟩
              · rw [← filt_nil, ne_eq, nil_iff]
                constructor
                · rintro (z | z) ⟨z1, z2⟩
                  · exact z z1
                  · exact z z2
                · intro z
                  exact Classical.byContradiction fun z2 => z ⟨Classical.byContradiction fun z3 => z2 (.inl z3), Classical.byContradiction fun z3 => z2 (.inr z3)⟩
              · refine dss_one (ret kb fun d h => ⟨false, h, (fun z => nomatch z), fun z => absurd ?_ hb'⟩)
                obtain ⟨k', x', y', q1, q2, q3⟩ := z.2.2.2 b hbm
                obtain ⟨-, rfl, rfl⟩ := isP_eq hS.1 hf' q1
                exact ⟨q2, q3⟩
              · refine dss_nil ⟨_, _, _, _, rfl, fun b' hb2 => ?_⟩
                rw [List.take_add_one, eb] at hb2
                rcases List.mem_append.mp hb2 with z | z
                · exact hbs b' z
                · have : b' = b := by simpa using z
                  rw [this]
                  have := Classical.byContradiction hb'
                  exact ⟨k, x, y, hf', this⟩
            · refine sq (ds_if (φ := True) (Tt.iff (dt_w (dw_or (ψ := False) (dt_isN (v 11)) fun z => absurd rfl z)) (by simp)) (fun _ => ?_) (fun z => absurd trivial z))
              refine dss_one (ret kb fun d h => ⟨false, h, (fun z => nomatch z), fun z => ?_⟩)
              obtain ⟨k', x', y', q1, _⟩ := z.2.2.2 b hbm
              exact absurd ⟨k', x', y', q1⟩ hno
          · obtain ⟨g9, g10, g11, g12, rfl, hbs⟩ := hI
            rw [List.length_map, List.take_length] at hbs
            exact dss_one (ret kb fun d h => ⟨true, h, fun _ => ⟨hA, hE, hB, hbs⟩, fun _ => rfl⟩)
end K51

namespace K51
open PySem PySem.Spec PyProof.Rows L2 DL
/-! ### _law_right -/
def Right (n : Nat) (S : List (List Book)) (ins : List Int) (exs : List Term) (bls : List Block) (am : List Int) (p : Place) : Prop :=
  Asc n am ∧ Shut n S ins exs bls am ∧ (∀ m ∈ ins, m ∈ am) ∧ ∃ k x y, FarAt S p k x y ∧ x ≠ y ∧ Zer x y ins
theorem asc_step {n : Nat} {ins : List Int} {k : Nat} {m : Int} (hk : k < ins.length) (ek : ins[k]? = some m) : Good n ins k ↔ ¬ (¬ 0 ≤ m ∨ (n : Int) ≤ m ∨ (0 < (k : Int) ∧ m ≤ ins.getD (k - 1) 0)) := by
  have e1 : 0 < k → ins[k - 1]? = some (ins.getD (k - 1) 0) := fun h => by rw [List.getD_eq_getElem?_getD, List.getElem?_eq_getElem (by omega)]; rfl
  constructor
  · rintro h (z | z | ⟨z, z2⟩)
    · exact z (h m ek).1.1
    · have := (h m ek).1.2; omega
    · have := (h m ek).2 (by omega) _ (e1 (by omega)); omega
  · intro h m' hm'
    rw [ek] at hm'
    obtain rfl := Option.some.inj hm'
    refine ⟨⟨Classical.byContradiction fun z => h (.inl z), Classical.byContradiction fun z => h (.inr (.inl (by omega)))⟩, fun h0 l hl => ?_⟩
    rw [e1 h0] at hl
    obtain rfl := Option.some.inj hl
    exact Classical.byContradiction fun z => h (.inr (.inr ⟨by omega, by omega⟩))
theorem sc_right : FnScope ["_law_count_here", "_law_shelves_here", "_law_row", "_law_among", "_law_place", "_law_k", "_law_pair", "_law_step_here", "_law_mark"] ["_law_count_here", "_law_shelves_here", "_law_row", "_law_among", "_law_place"] (defScope (top 64)) := ⟨rfl, rfl, rfl, by decide +kernel, rfl, by decide +kernel, by decide +kernel⟩
abbrev RX := Nat × List (List Book) × (List Int × List Term × List Block) × List Int × Place
abbrev okRX (x : RX) : Prop := okS x.1 x.2.1 ∧ x.1 ≤ 100 ∧ x.2.2.1.1.length ≤ 10000 ∧ x.2.2.1.2.2.length ≤ 10000 ∧ x.2.2.2.1.length ≤ 10000 ∧ okP x.2.2.2.2 ∧ ∀ b ∈ x.2.2.1.2.2, okP b.2
abbrev cRight (W : Wd) : Sp := Con W.K W.cl 5 (fun x : RX => [.int x.1, dShelves x.2.1, dRow3 x.2.2.1.1 x.2.2.1.2.1 x.2.2.1.2.2, lint x.2.2.2.1, dPlace x.2.2.2.2]) okRX (fun x d => Vb (Right x.1 x.2.1 x.2.2.1.1 x.2.2.1.2.1 x.2.2.1.2.2 x.2.2.2.1 x.2.2.2.2) d)
theorem ok_right {W : Wd} {f : Addr} {fd : FuncData} (F : FnP W "_law_right" "_law_right" (top 64) f fd) (B : Bn W) (Fs : GFn W "_law_step" 1 (cStep W)) (Fsh : GFn W "_law_shut" 3 (cShut W)) (Ff : GFn W "_law_far" 2 (cFar W)) :
    FnOk W.P W.w W.K W.mg W.base CX0 4 f fd ["_law_count_here", "_law_shelves_here", "_law_row", "_law_among", "_law_place"] (cRight W) := by
  refine fn_con F sc_right rfl fun cdv A outer s H E hr x _ hp => ?_
  have nd := sc_right.nd
  obtain ⟨n, S, ⟨ins, exs, bls⟩, am, p⟩ := x
  obtain ⟨hS, hn, hl1, hl2, hl3, hP, hPb⟩ := hp
  dsimp only at hS hn hl1 hl2 hl3 hP hPb
  dsimp only
  refine sq (for_ (sl := [5]) (fun k γ' => ∃ g, γ' = [.v false (.int n), .v false (dShelves S), .v false (dRow3 ins exs bls), .v false (lint am), .v false (dPlace p), g, .un, .un, .un] ∧ ∀ j, j < k → Good n am j) (iR B (len_ B (v 3) (.l _)) (by rw [List.length_map]; omega) (by rw [List.length_map]; omega)) ⟨_, rfl, by omega⟩ (fun k γ' d hk hI hd => ?_) (fun γ' hI => ?_))
  · obtain ⟨g, rfl, hg⟩ := hI
    subst hd
    have hk : k < am.length := by rw [List.length_map] at hk; omega
    have ek : am[k]? = some am[k] := List.getElem?_eq_getElem hk
    generalize am[k] = m at ek
    have gd := asc_step (n := n) hk ek
    refine gn 5 (dss_one (ds_if (φ := ¬ 0 ≤ m ∨ (n : Int) ≤ m ∨ (0 < (k : Int) ∧ m ≤ am.getD (k - 1) 0)) (Tt.iff (dt_w (dw_or (dt_not (dt_ciE ci_le ki (ixI (v 3) (v 5) (.l _) (at_map D.int ek)))) fun _ => dw_or (dt_ciE ci_ge (ixI (v 3) (v 5) (.l _) (at_map D.int ek)) (v 0)) fun _ => dw_or1 (dt_w (dw_and (dt_ciE ci_gt (v 5) ki) fun hk0 => dw_and1 (dt_ciE ci_ge (ixI (v 3) (subE (v 5) ki) (.l _) (d := .int (am.getD (k - 1) 0)) ?_) (ixI (v 3) (v 5) (.l _) (at_map D.int ek))))))) Iff.rfl) (fun hb => ?_) (fun hb => ?_)))
    · have hk0 : 0 < (k : Int) := hk0
      have e0 : ((k : Int) - 1) = ((k - 1 : Nat) : Int) := by omega
      rw [e0]
      exact at_map D.int (by rw [List.getD_eq_getElem?_getD, List.getElem?_eq_getElem (by omega)]; rfl)
    · exact dss_one (ret kb fun d h => ⟨false, h, (fun z => nomatch z), fun z => absurd hb (gd.mp (z.1 k hk))⟩)
    · refine dss_nil ⟨_, rfl, fun j hj => ?_⟩
      by_cases e : j = k
      · subst e; exact gd.mpr hb
      · exact hg j (by omega)
  · obtain ⟨g, rfl, hg⟩ := hI
    have hA : Asc n am := fun j hj => hg j (by rw [List.length_map]; omega)
    refine sq (ds_if (dt_not (tv (call (n, S, ins, exs, bls, am) Fsh (fun _ => hr) (ac (v 0) (ac (v 1) (ac de_nil (ac (ix (v 2) ki (.l _) (d := lint ins) rfl) (ac (ix (v 2) ki (.l _) (d := dTerms exs) rfl) (ac (ix (v 2) ki (.l _) (d := .lst (bls.map dBlock)) rfl) (ac (v 3) an))))))) ⟨hS, hn, hl1, hl2, hPb⟩))) (fun hb => ?_) (fun hb => dss_nil ?_))
    · exact dss_one (ret kb fun d h => ⟨false, h, (fun z => nomatch z), fun z => absurd z.2.1 hb⟩)
    have hSh := Classical.byContradiction hb
    have hmk := hSh.1.mk
    refine sq (ds_if (φ := ¬ ∀ m ∈ ins, m ∈ am) (Tt.iff (neNil (n := 1) (fun _ => hr) (filt [("_law_mark", 8)] [8] D.int D.int ins (fun m => decide (m ∉ am)) (iL (ix (v 2) ki (.l _) (d := lint ins) rfl) rfl) (by omega) (fun u hm => ?_) hom_ints) de_nil (cmA_ints _ _)) ?_) (fun hb => ?_) (fun hb => dss_nil ?_))
    · exact gn 8 ⟨dts_one (Tt.iff (notInD (n := 1) (m := 1) (fun _ => hr) (v 8) (v 3) (.l _) (by simp [D.cm]) (cmA_ints _ _)) (by rw [decide_eq_true_eq, mem_map_iff int_inj])), fun _ => el (vi 8)⟩
    · rw [ne_eq, nil_iff, List.filter_eq_nil_iff]; simp
    · exact dss_one (ret kb fun d h => ⟨false, h, (fun z => nomatch z), fun z => absurd z.2.2.1 hb⟩)
    have hsub := Classical.byContradiction hb
    refine sq (set 6 (call (S, p, n) Ff (fun _ => hr) (ac (v 1) (ac (vi 4) an)) ⟨hS, hP⟩) (fun d h => ?_))
    rcases h with ⟨k, x, y, hf, rfl⟩ | ⟨hno, rfl⟩
    · refine sq (ds_if (φ := x = y) (Tt.iff (dt_w (dw_or (dt_isN (v 6)) fun _ => dw_or1 (eqD (n := 1) (m := 1) (fun _ => hr) (ix (v 6) ki (.t _) (d := tint x) rfl) (ix (v 6) ki (.t _) (d := tint y) rfl) (cm_tint _) (cm_tint _)))) ?_) (fun hb => ?_) (fun hb => dss_nil ?_))
      · exact ⟨fun z => z.elim (fun z => nomatch z) (fun z => tint_inj _ _ z), fun z => .inr (congrArg tint z)⟩
      · refine dss_one (ret kb fun d h => ⟨false, h, (fun z => nomatch z), fun z => ?_⟩)
        obtain ⟨k', x', y', q1, q2, _⟩ := z.2.2.2
        obtain ⟨-, rfl, rfl⟩ := isP_eq hS.1 hf q1
        exact absurd hb q2
      · have hf' := hf
        obtain ⟨s', f1, f2, f3, f4, f5, f6⟩ := hf
        obtain ⟨hs5, hsb⟩ := len_at hS f1
        have lx := (hsb x (List.mem_of_getElem? f5)).1
        have ly := (hsb y (List.mem_of_getElem? f6)).1
        have lz : (stp x y).length = n := stp_len lx ly
        refine sq (set 7 (call (x, y) Fs (fun _ => hr) (ac (ixI (vi 6 (hi := by simp [D.imm, D.immA, imm_tint])) ki (.t _) rfl (imm_tint _)) (ac (ixI (vi 6 (hi := by simp [D.imm, D.immA, imm_tint])) ki (.t _) rfl (imm_tint _)) an)) ⟨by rw [lx, ly], by show x.length ≤ 100; omega⟩) (fun d h => ?_))
        subst h
        refine dss_one (ret (eqNilV (n := 0) (fun _ => hr) (filt [("_law_mark", 8)] [8] D.int D.int ins (fun u => decide ((stp x y).getD u.toNat 0 ≠ 0)) (iL (ix (v 2) ki (.l _) (d := lint ins) rfl) rfl) (by omega) (fun u hm => ?_) hom_ints) de_nil (cmA_ints _ _)) (fun d ⟨b, h, hb2⟩ => ⟨b, h, hb2.trans ?_⟩))
        · exact gn 8 ⟨dts_one (Tt.iff (dt_ciE ci_ne (ixI (vi 7 (hi := imm_tint _)) (v 8) (.t _) (at_map' D.int (hmk u hm).1 (get_at lz (hmk u hm)))) ki) (by simp)), fun _ => el (vi 8)⟩
        · rw [nil_iff, filt_nil]
          constructor
          · exact fun z => ⟨hA, hSh, hsub, k, x, y, hf', hb, z⟩
          · rintro ⟨_, _, _, k', x', y', q1, q2, q3⟩
            obtain ⟨-, rfl, rfl⟩ := isP_eq hS.1 hf' q1
            exact q3
    · refine sq (ds_if (φ := True) (Tt.iff (dt_w (dw_or (ψ := False) (dt_isN (v 6)) fun z => absurd rfl z)) (by simp)) (fun _ => ?_) (fun z => absurd trivial z))
      refine dss_one (ret kb fun d h => ⟨false, h, (fun z => nomatch z), fun z => ?_⟩)
      obtain ⟨k', x', y', q1, _⟩ := z.2.2.2
      exact absurd ⟨k', x', y', q1⟩ hno
end K51

namespace K51
open PySem PySem.Spec PyProof.Rows L2 DL
/-! ### _law_bent -/
theorem at_any {α : Type} (f : α → D) {l : List α} {i : Int} (h0 : 0 ≤ i) (h1 : i < l.length) : ∃ x ∈ l, atI (l.map f) i = some (f x) := by
  have h : i.toNat < l.length := by omega
  exact ⟨l[i.toNat], List.getElem_mem h, at_map' f h0 (List.getElem?_eq_getElem h)⟩
theorem sc_bent : FnScope ["_law_box_here", "_law_count_here", "_law_inside", "_law_exits", "_law_blocks_here", "_law_way", "_law_at", "_law_mark", "_law_term", "_law_place", "_law_odd"] ["_law_box_here", "_law_count_here", "_law_inside", "_law_exits", "_law_blocks_here"] (defScope (top 58)) := ⟨rfl, rfl, rfl, by decide +kernel, rfl, by decide +kernel, by decide +kernel⟩
def len3 (L : Nat) (ins : List Int) (exs : List Term) (bls : List Block) : Prop := ins.length ≤ L ∧ exs.length ≤ L ∧ bls.length ≤ L
def IB (n : Nat) (w a m : Int) (L : Nat) (k : Int) (γ : List G) : Prop := ∃ (ins : List Int) (exs : List Term) (bls : List Block) (g8 g9 g10 : G), γ = [.v true .box, .v true (.int n), .v true (lint ins), .v true (dTerms exs), .v true (.lst (bls.map dBlock)), .v true (.int w), .v true (.int a), .v true (.int m), g8, g9, g10] ∧
  (∀ b ∈ bls, okP b.2) ∧ (len3 L ins exs bls ∨ (w ≤ k ∧ len3 (3 * L + 1) ins exs bls))
theorem IB.up {n L : Nat} {w a m k k' : Int} {γ : List G} (h : IB n w a m L k γ) (hk : k ≤ k' := by decide) : IB n w a m L k' γ := by
  obtain ⟨ins, exs, bls, g8, g9, g10, e, hP, h⟩ := h
  refine ⟨ins, exs, bls, g8, g9, g10, e, hP, h.imp id fun z => ⟨by omega, z.2⟩⟩
theorem IB.at {n L : Nat} {w a m k : Int} {γ : List G} (h : IB n w a m L k γ) (hw : k < w) : ∃ (ins : List Int) (exs : List Term) (bls : List Block) (g8 g9 g10 : G), γ = [.v true .box, .v true (.int n), .v true (lint ins), .v true (dTerms exs), .v true (.lst (bls.map dBlock)), .v true (.int w), .v true (.int a), .v true (.int m), g8, g9, g10] ∧
  (∀ b ∈ bls, okP b.2) ∧ ins.length ≤ L ∧ exs.length ≤ L ∧ bls.length ≤ L := by
  obtain ⟨ins, exs, bls, g8, g9, g10, e, hP, h | ⟨h, _⟩⟩ := h
  · exact ⟨ins, exs, bls, g8, g9, g10, e, hP, h.1, h.2.1, h.2.2⟩
  · omega
theorem hom_blk (l : List Block) : hom (l.map dBlock) := hom_map _ (fun _ => rfl) _
def odd9 : List Place := [("low", 0, 1), ("top", 1, 2), ("zz", 0, 1), ("low", -1, 0), ("b", 0, 9), ("top", 0, 2), ("low", 1, 1), ("low", 1, 0), ("top", 2, 0)]
theorem odd9_ok : ∀ p ∈ odd9, okP p := by
  have h : ∀ p ∈ odd9, PyData.strOk p.1 = true := by decide +kernel
  exact h
abbrev BX := Nat × List Int × List Term × List Block × Nat
abbrev cBent (W : Wd) : Sp := ConS W.K W.cl 5 (fun x : BX => [.box, .int x.1, lint x.2.1, dTerms x.2.2.1, .lst (x.2.2.2.1.map dBlock)]) (fun x => x.1 ≤ 100 ∧ 1 ≤ x.2.2.2.2 ∧ x.2.2.2.2 ≤ 10000 ∧ len3 x.2.2.2.2 x.2.1 x.2.2.1 x.2.2.2.1 ∧ 4 ≤ x.2.2.2.2 ∧ x.1 ≤ 4 ∧ ∀ b ∈ x.2.2.2.1, okP b.2)
  (fun x d => ∃ ins exs bls, d = dRow3 ins exs bls ∧ len3 (3 * x.2.2.2.2 + 1) ins exs bls ∧ ∀ b ∈ bls, okP b.2)
theorem ok_bent {W : Wd} {f : Addr} {fd : FuncData} (F : FnP W "_law_bent" "_law_bent" (top 58) f fd) (B : Bn W) (Ft : GFn W "_law_take" 1 (cTake W)) :
    FnOk W.P W.w W.K W.mg W.base CX0 2 f fd ["_law_box_here", "_law_count_here", "_law_inside", "_law_exits", "_law_blocks_here"] (cBent W) := by
  refine fn_conS F sc_bent rfl fun cdv A outer s H E hr x _ hp => ?_
  have nd := sc_bent.nd
  obtain ⟨n, ins, exs, bls, L⟩ := x
  obtain ⟨hn, hL1, hL2, h3, hL4, hn4, hP⟩ := hp
  dsimp only at hn hL1 hL2 h3 hL4 hn4 hP
  dsimp only
  refine sq (set 5 (call (17 : Int) Ft (fun _ => hr) (ac (v 0) (ac ki an)) ⟨by decide, by decide⟩) (fun d h => ?_))
  obtain ⟨w, rfl, hw0, hw1⟩ := h
  refine sq (set 6 (call (((bls.map dBlock).length : Int) + 1) Ft (fun _ => hr) (ac (v 0) (ac (addE (len_ B (v 4) (.l _)) ki) an)) ⟨by rw [List.length_map]; omega, by rw [List.length_map]; have := h3.2.2; omega⟩) (fun d h => ?_))
  obtain ⟨a, rfl, ha0, ha1⟩ := h
  refine sq (set 7 (P := IsI (fun _ => True)) (subP (p := fun _ => True) (q := (· = 1)) (DE.mono (call ((n : Int) + 2) Ft (fun _ => hr) (ac (v 0) (ac (addE (v 1) ki) an)) ⟨by omega, by omega⟩) fun d h => IsI.mono h fun _ _ => trivial) ki.i (fun _ _ _ _ => trivial)) (fun d h => ?_))
  obtain ⟨m, rfl, _⟩ := h
  have hI : IB n w a m L 0 [.v true .box, .v true (.int n), .v true (lint ins), .v true (dTerms exs), .v true (.lst (bls.map dBlock)), .v true (.int w), .v true (.int a), .v true (.int m), .un, .un, .un] := ⟨ins, exs, bls, _, _, _, rfl, hP, .inl h3⟩
  generalize hγ : [G.v true .box, .v true (.int n), .v true (lint ins), .v true (dTerms exs), .v true (.lst (bls.map dBlock)), .v true (.int w), .v true (.int a), .v true (.int m), .un, .un, .un] = γ0 at hI
  change DSs _ _ _ _ [G.v true .box, .v true (.int n), .v true (lint ins), .v true (dTerms exs), .v true (.lst (bls.map dBlock)), .v true (.int w), .v true (.int a), .v true (.int m), .un, .un, .un] _
  rw [hγ]
  clear hγ ha1 hP h3
  have start : ∀ (k : Int), IB n w a m L k γ0 → True := fun _ _ => trivial
  -- way 1
  refine dss_cons (I := IB n w a m L 1) ?_ (fun γ1 hI => ?_)
  · by_cases hk : 0 < w
    · obtain ⟨ins, exs, bls, g8, g9, g10, rfl, hP, l1, l2, l3⟩ := hI.at hk
      refine ds_if (dt_ciE ci_eq (v 5) ki) (fun hw => ?_) (fun _ => dss_nil ⟨ins, exs, bls, _, _, _, rfl, hP, .inl ⟨l1, l2, l3⟩⟩)
      have hw : w = 1 := hw
      refine dss_one (set 2 (catP (N := L) (N' := 1) (out := D.int) (S := fun _ => True) (DE.mono (v 2) fun d h => ⟨ins, h, l1, fun _ _ => trivial⟩) (one1 (DE.mono (v 7) fun d h => ⟨m, h, trivial⟩) hom_ints) hom_ints (by omega)) (fun d h => ?_))
      obtain ⟨ys, rfl, hy, _⟩ := h
      exact ⟨ys, exs, bls, _, _, _, rfl, hP, .inr ⟨by omega, by omega, by omega, by omega⟩⟩
    · obtain ⟨ins, exs, bls, g8, g9, g10, rfl, hP, hl⟩ := hI
      exact ds_if (dt_ciE ci_eq (v 5) ki) (fun hw => absurd (show w = 1 from hw) (by omega)) (fun _ => dss_nil ⟨ins, exs, bls, _, _, _, rfl, hP, hl.imp id fun z => ⟨by omega, z.2⟩⟩)
  clear start
  -- way 2
  refine dss_cons (I := IB n w a m L 2) ?_ (fun γ2 hI => ?_)
  · by_cases hk : 1 < w
    · obtain ⟨ins, exs, bls, g8, g9, g10, rfl, hP, l1, l2, l3⟩ := hI.at hk
      refine ds_if (dt_ciE ci_eq (v 5) ki) (fun hw => ?_) (fun _ => dss_nil ⟨ins, exs, bls, _, _, _, rfl, hP, .inl ⟨l1, l2, l3⟩⟩)
      have hw : w = 2 := hw
      refine dss_one (set 2 (sliceG (N := L) (out := D.int) (S := fun _ => True) (DE.mono (v 2) fun d h => ⟨ins, h, l1, fun _ _ => trivial⟩) (dpo_some ki) dpo_none hom_ints) (fun d h => ?_))
      obtain ⟨ys, rfl, hy, _⟩ := h
      exact ⟨ys, exs, bls, _, _, _, rfl, hP, .inr ⟨by omega, by omega, by omega, by omega⟩⟩
    · obtain ⟨ins, exs, bls, g8, g9, g10, rfl, hP, hl⟩ := hI
      exact ds_if (dt_ciE ci_eq (v 5) ki) (fun hw => absurd (show w = 2 from hw) (by omega)) (fun _ => dss_nil ⟨ins, exs, bls, _, _, _, rfl, hP, hl.imp id fun z => ⟨by omega, z.2⟩⟩)
  -- way 3
  refine dss_cons (I := IB n w a m L 3) ?_ (fun γ3 hI => ?_)
  · by_cases hk : 2 < w
    · obtain ⟨ins, exs, bls, g8, g9, g10, rfl, hP, l1, l2, l3⟩ := hI.at hk
      refine ds_if (dt_ciE ci_eq (v 5) ki) (fun hw => ?_) (fun _ => dss_nil ⟨ins, exs, bls, _, _, _, rfl, hP, .inl ⟨l1, l2, l3⟩⟩)
      have hw : w = 3 := hw
      refine dss_one (set 3 (catP (N := L) (N' := 1) (out := dTerm) (S := fun _ => True) (DE.mono (v 3) fun d h => ⟨exs, h, l2, fun _ _ => trivial⟩) (one1 (DE.mono (tupE (ac (v 7) (ac ki an))) fun d h => ⟨(m, 1), h, trivial⟩) hom_terms) hom_terms (by omega)) (fun d h => ?_))
      obtain ⟨ys, rfl, hy, _⟩ := h
      exact ⟨ins, ys, bls, _, _, _, rfl, hP, .inr ⟨by omega, by omega, by omega, by omega⟩⟩
    · obtain ⟨ins, exs, bls, g8, g9, g10, rfl, hP, hl⟩ := hI
      exact ds_if (dt_ciE ci_eq (v 5) ki) (fun hw => absurd (show w = 3 from hw) (by omega)) (fun _ => dss_nil ⟨ins, exs, bls, _, _, _, rfl, hP, hl.imp id fun z => ⟨by omega, z.2⟩⟩)
  -- way 4
  refine dss_cons (I := IB n w a m L 4) ?_ (fun γ4 hI => ?_)
  · by_cases hk : 3 < w
    · obtain ⟨ins, exs, bls, g8, g9, g10, rfl, hP, l1, l2, l3⟩ := hI.at hk
      refine ds_if (dt_ciE ci_eq (v 5) ki) (fun hw => ?_) (fun _ => dss_nil ⟨ins, exs, bls, _, _, _, rfl, hP, .inl ⟨l1, l2, l3⟩⟩)
      have hw : w = 4 := hw
      refine dss_one (set 3 (sliceG (N := L) (out := dTerm) (S := fun _ => True) (DE.mono (v 3) fun d h => ⟨exs, h, l2, fun _ _ => trivial⟩) (dpo_some ki) dpo_none hom_terms) (fun d h => ?_))
      obtain ⟨ys, rfl, hy, _⟩ := h
      exact ⟨ins, ys, bls, _, _, _, rfl, hP, .inr ⟨by omega, by omega, by omega, by omega⟩⟩
    · obtain ⟨ins, exs, bls, g8, g9, g10, rfl, hP, hl⟩ := hI
      exact ds_if (dt_ciE ci_eq (v 5) ki) (fun hw => absurd (show w = 4 from hw) (by omega)) (fun _ => dss_nil ⟨ins, exs, bls, _, _, _, rfl, hP, hl.imp id fun z => ⟨by omega, z.2⟩⟩)
  -- way 5
  refine dss_cons (I := IB n w a m L 5) ?_ (fun γ5 hI => ?_)
  · by_cases hk : 4 < w
    · obtain ⟨ins, exs, bls, g8, g9, g10, rfl, hP, l1, l2, l3⟩ := hI.at hk
      refine ds_if (dt_ciE ci_eq (v 5) ki) (fun hw => ?_) (fun _ => dss_nil ⟨ins, exs, bls, _, _, _, rfl, hP, .inl ⟨l1, l2, l3⟩⟩)
      have hw : w = 5 := hw
      refine dss_one (set 4 (catP (N := L) (N' := L) (out := dBlock) (S := fun b => okP b.2) (sliceG (DE.mono (v 4) fun d h => ⟨bls, h, l3, hP⟩) dpo_none (dpo_some (v 6)) hom_blk) (sliceG (DE.mono (v 4) fun d h => ⟨bls, h, l3, hP⟩) (dpo_some (addE (v 6) ki)) dpo_none hom_blk) hom_blk (by omega)) (fun d h => ?_))
      obtain ⟨ys, rfl, hy, hyP⟩ := h
      exact ⟨ins, exs, ys, _, _, _, rfl, hyP, .inr ⟨by omega, by omega, by omega, by omega⟩⟩
    · obtain ⟨ins, exs, bls, g8, g9, g10, rfl, hP, hl⟩ := hI
      exact ds_if (dt_ciE ci_eq (v 5) ki) (fun hw => absurd (show w = 5 from hw) (by omega)) (fun _ => dss_nil ⟨ins, exs, bls, _, _, _, rfl, hP, hl.imp id fun z => ⟨by omega, z.2⟩⟩)
  -- way 6
  refine dss_cons (I := IB n w a m L 6) ?_ (fun γ6 hI => ?_)
  · by_cases hk : 5 < w
    · obtain ⟨ins, exs, bls, g8, g9, g10, rfl, hP, l1, l2, l3⟩ := hI.at hk
      refine ds_if (dt_ciE ci_eq (v 5) ki) (fun hw => ?_) (fun _ => dss_nil ⟨ins, exs, bls, _, _, _, rfl, hP, .inl ⟨l1, l2, l3⟩⟩)
      have hw : w = 6 := hw
      refine dss_one (set 4 (catP (N := L + L) (N' := L) (out := dBlock) (S := fun b => okP b.2) (catP (sliceG (DE.mono (v 4) fun d h => ⟨bls, h, l3, hP⟩) (dpo_some ki) (dpo_some ki) hom_blk) (sliceG (DE.mono (v 4) fun d h => ⟨bls, h, l3, hP⟩) dpo_none (dpo_some ki) hom_blk) hom_blk (by omega)) (sliceG (DE.mono (v 4) fun d h => ⟨bls, h, l3, hP⟩) (dpo_some ki) dpo_none hom_blk) hom_blk (by omega)) (fun d h => ?_))
      obtain ⟨ys, rfl, hy, hyP⟩ := h
      exact ⟨ins, exs, ys, _, _, _, rfl, hyP, .inr ⟨by omega, by omega, by omega, by omega⟩⟩
    · obtain ⟨ins, exs, bls, g8, g9, g10, rfl, hP, hl⟩ := hI
      exact ds_if (dt_ciE ci_eq (v 5) ki) (fun hw => absurd (show w = 6 from hw) (by omega)) (fun _ => dss_nil ⟨ins, exs, bls, _, _, _, rfl, hP, hl.imp id fun z => ⟨by omega, z.2⟩⟩)
  -- way 7
  refine dss_cons (I := IB n w a m L 7) ?_ (fun γ7 hI => ?_)
  · by_cases hk : 6 < w
    · obtain ⟨ins, exs, bls, g8, g9, g10, rfl, hP, l1, l2, l3⟩ := hI.at hk
      refine ds_if (dt_ciE ci_eq (v 5) ki) (fun hw => ?_) (fun _ => dss_nil ⟨ins, exs, bls, _, _, _, rfl, hP, .inl ⟨l1, l2, l3⟩⟩)
      have hw : w = 7 := hw
      refine dss_one (set 4 (catP (N := L) (N' := L) (out := dBlock) (S := fun b => okP b.2) (DE.mono (v 4) fun d h => ⟨bls, h, l3, hP⟩) (sliceG (DE.mono (v 4) fun d h => ⟨bls, h, l3, hP⟩) (dpo_some (v 6)) (dpo_some (addE (v 6) ki)) hom_blk) hom_blk (by omega)) (fun d h => ?_))
      obtain ⟨ys, rfl, hy, hyP⟩ := h
      exact ⟨ins, exs, ys, _, _, _, rfl, hyP, .inr ⟨by omega, by omega, by omega, by omega⟩⟩
    · obtain ⟨ins, exs, bls, g8, g9, g10, rfl, hP, hl⟩ := hI
      exact ds_if (dt_ciE ci_eq (v 5) ki) (fun hw => absurd (show w = 7 from hw) (by omega)) (fun _ => dss_nil ⟨ins, exs, bls, _, _, _, rfl, hP, hl.imp id fun z => ⟨by omega, z.2⟩⟩)
  -- way 8
  refine dss_cons (I := IB n w a m L 8) ?_ (fun γ8 hI => ?_)
  · by_cases hk : 7 < w
    · obtain ⟨ins, exs, bls, g8, g9, g10, rfl, hP, l1, l2, l3⟩ := hI.at hk
      refine ds_if (dt_ciE ci_eq (v 5) ki) (fun hw => ?_) (fun _ => dss_nil ⟨ins, exs, bls, _, _, _, rfl, hP, .inl ⟨l1, l2, l3⟩⟩)
      have hw : w = 8 := hw
      refine sq (set 2 (listRange B (v 1) (by omega) (by omega)) (fun d h => ?_))
      subst h
      refine sq (set 3 de_nil (fun d h => ?_))
      subst h
      refine dss_one (set 4 de_nil (fun d h => ?_))
      subst h
      refine ⟨(List.range (n : Int).toNat).map fun (i : Nat) => (i : Int), [], [], _, _, _, rfl, by simp, .inr ⟨by omega, ?_, by simp, by simp⟩⟩
      rw [List.length_map, List.length_range]; omega
    · obtain ⟨ins, exs, bls, g8, g9, g10, rfl, hP, hl⟩ := hI
      exact ds_if (dt_ciE ci_eq (v 5) ki) (fun hw => absurd (show w = 8 from hw) (by omega)) (fun _ => dss_nil ⟨ins, exs, bls, _, _, _, rfl, hP, hl.imp id fun z => ⟨by omega, z.2⟩⟩)
  -- ways 9 .. 14
  refine dss_cons (I := IB n w a m L 14) ?_ (fun γ14 hI => ?_)
  · by_cases hk : 8 < w
    · obtain ⟨ins, exs, bls, g8, g9, g10, rfl, hP, l1, l2, l3⟩ := hI.at hk
      refine ds_if (φ := w = 12 ∧ a < (bls.length : Int)) (Tt.iff (dt_w (dw_and (dt_ciE ci_eq (v 5) ki) fun _ => dw_and1 (dt_ciE ci_lt (v 6) (len_ B (v 4) (.l _))))) (by rw [List.length_map])) (fun hc => ?_) (fun _ => ?_)
      · obtain ⟨hw, hal⟩ := hc
        have eb : bls[a.toNat]? = some (bls[a.toNat]'(by omega)) := List.getElem?_eq_getElem (by omega)
        generalize (bls[a.toNat]'(by omega)) = b at eb
        refine sq (set 3 (catP (N := 1) (N' := L) (out := dTerm) (S := fun _ => True) (one1 (DE.mono (ixI (ix (v 4) (v 6) (.l _) (at_map' dBlock ha0 eb)) ki (.t _) (d := dTerm b.1) rfl) fun d h => ⟨b.1, h, trivial⟩) hom_terms) (DE.mono (v 3) fun d h => ⟨exs, h, l2, fun _ _ => trivial⟩) hom_terms (by omega)) (fun d h => ?_))
        obtain ⟨es, rfl, he, _⟩ := h
        refine dss_one (set 4 (catP (N := L) (N' := L) (out := dBlock) (S := fun b => okP b.2) (sliceG (DE.mono (v 4) fun d h => ⟨bls, h, l3, hP⟩) dpo_none (dpo_some (v 6)) hom_blk) (sliceG (DE.mono (v 4) fun d h => ⟨bls, h, l3, hP⟩) (dpo_some (addE (v 6) ki)) dpo_none hom_blk) hom_blk (by omega)) (fun d h => ?_))
        obtain ⟨ys, rfl, hy, hyP⟩ := h
        exact ⟨ins, es, ys, _, _, _, rfl, hyP, .inr ⟨by omega, by omega, by omega, by omega⟩⟩
      · refine dss_one (ds_if (φ := 8 < w ∧ w < 15 ∧ a < (bls.length : Int)) (Tt.iff (dt_w (dw_and (dt_ciE ci_gt (v 5) ki) fun _ => dw_and (dt_ciE ci_lt (v 5) ki) fun _ => dw_and1 (dt_ciE ci_lt (v 6) (len_ B (v 4) (.l _))))) (by rw [List.length_map])) (fun hc => ?_) (fun _ => dss_nil ⟨ins, exs, bls, _, _, _, rfl, hP, .inl ⟨l1, l2, l3⟩⟩))
        obtain ⟨_, hw, hal⟩ := hc
        have eb : bls[a.toNat]? = some (bls[a.toNat]'(by omega)) := List.getElem?_eq_getElem (by omega)
        generalize (bls[a.toNat]'(by omega)) = b at eb
        have hbP := hP b (List.mem_of_getElem? eb)
        obtain ⟨t, p⟩ := b
        refine sq (set 8 (ixI (ix (v 4) (v 6) (.l _) (at_map' dBlock ha0 eb)) ki (.t _) (d := dTerm t) rfl) (fun d h => ?_))
        subst h
        refine sq (set 9 (ixI (ix (v 4) (v 6) (.l _) (at_map' dBlock ha0 eb)) ki (.t _) (d := dPlace p) rfl) (fun d h => ?_))
        subst h
        refine sq (set 10 (P := Is (.lst ((odd9.take 7).map dPlace))) (lstE (ac (tupE (ac ks (ac ki (ac ki an)))) (ac (tupE (ac ks (ac ki (ac ki an)))) (ac (tupE (ac ks (ac ki (ac ki an)))) (ac (tupE (ac ks (ac (negE ki) (ac ki an)))) (ac (tupE (ac ks (ac ki (ac ki an)))) (ac (tupE (ac ks (ac ki (ac ki an)))) (ac (tupE (ac ks (ac ki (ac ki an)))) an))))))) (hom_b rfl)) (fun d h => ?_))
        subst h
        refine sq (set 10 (P := Is (.lst (odd9.map dPlace))) (DE.mono (cat (v 10 (d := .lst ((odd9.take 7).map dPlace))) (lstE (ac (tupE (ac ks (ac ki (ac ki an)))) (ac (tupE (ac ks (ac ki (ac ki an)))) an)) (hom_b rfl)) (hom_b rfl) (by decide)) fun d h => h) (fun d h => ?_))
        subst h
        refine sq (set 9 (P := fun d => ∃ p, d = dPlace p ∧ okP p) (ixQ (p := fun i => i = (if w - 12 > 0 then w - 12 else 0)) (de_lst (P := fun d => ∃ p1 : Place, okP p1 ∧ d = .lst ([p1, (p.1, p.2.2, p.2.1), p].map dPlace)) (acP (ixP (P := fun d => ∃ p, d = dPlace p ∧ okP p) (v 10) (call (9 : Int) Ft (fun _ => hr) (ac (v 0) (ac ki an)) ⟨by decide, by decide⟩) (.l _) (fun i hi => ?_)) (ac (tupE (ac (ixI (v 9) ki (.t _) rfl) (ac (ixI (v 9) ki (.t _) rfl) (ac (ixI (v 9) ki (.t _) rfl) an)))) (ac (v 9) an))) ?_) ((max_ B (ac ki (ac (subE (v 5) ki) an))).i) ?_) (fun d h => ?_))
        · obtain ⟨x, hx, e⟩ := at_any dPlace (l := odd9) hi.1 hi.2
          exact ⟨_, e, x, rfl, odd9_ok x hx⟩
        · rintro ds ⟨d1, r, rfl, ⟨p1, rfl, hp1⟩, rfl⟩
          exact ⟨by simp, hom_map dPlace (fun _ => rfl) [p1, (p.1, p.2.2, p.2.1), p], p1, hp1, rfl⟩
        · rintro s' i ⟨p1, hp1, rfl⟩ rfl
          obtain ⟨x, hx, e⟩ := at_any dPlace (l := [p1, (p.1, p.2.2, p.2.1), p]) (i := if w - 12 > 0 then w - 12 else 0) (by split <;> omega) (by show _ < ((3 : Nat) : Int); split <;> omega)
          refine ⟨_, _, .l _, e, x, rfl, ?_⟩
          simp only [List.mem_cons, List.not_mem_nil, or_false] at hx
          rcases hx with rfl | rfl | rfl
          · exact hp1
          · exact hbP
          · exact hbP
        · obtain ⟨p', rfl, hp'⟩ := h
          refine dss_cons (I := fun γ' => ∃ t' : Term, γ' = [.v true .box, .v true (.int n), .v true (lint ins), .v true (dTerms exs), .v true (.lst (bls.map dBlock)), .v true (.int w), .v true (.int a), .v true (.int m), .v true (dTerm t'), .v true (dPlace p'), .v true (.lst (odd9.map dPlace))]) (ds_if (dt_ciE ci_eq (v 5) ki) (fun _ => ?_) (fun _ => dss_nil ⟨t, rfl⟩)) (fun γ' hγ' => ?_)
          · refine dss_one (set 8 (P := fun d => ∃ t', d = dTerm t') (ixP (p := fun i => 0 ≤ i ∧ i < 4) (lstE (ac (tupE (ac (ixI (v 8) ki (.t _) rfl) (ac ki an))) (ac (tupE (ac (ixI (v 8) ki (.t _) rfl) (ac ki an))) (ac (tupE (ac (v 1) (ac (ixI (v 8) ki (.t _) rfl) an))) (ac (tupE (ac (negE ki) (ac (ixI (v 8) ki (.t _) rfl) an))) an)))) (hom_map dTerm (fun _ => rfl) [(t.1, 2), (t.1, 0), ((n : Int), t.2), (-1, t.2)])) (call (4 : Int) Ft (fun _ => hr) (ac (v 0) (ac ki an)) ⟨by decide, by decide⟩) (.l ([(t.1, 2), (t.1, 0), ((n : Int), t.2), (-1, t.2)].map dTerm)) (fun i hi => ?_)) (fun d h => ?_))
            · obtain ⟨x, hx, e⟩ := at_any dTerm (l := [(t.1, 2), (t.1, 0), ((n : Int), t.2), (-1, t.2)]) hi.1 hi.2
              exact ⟨_, e, x, rfl⟩
            · obtain ⟨t', rfl⟩ := h
              exact ⟨t', rfl⟩
          · obtain ⟨t', rfl⟩ := hγ'
            refine dss_one (set 4 (catP (N := L + 1) (N' := L) (out := dBlock) (S := fun b => okP b.2) (catP (sliceG (DE.mono (v 4) fun d h => ⟨bls, h, l3, hP⟩) dpo_none (dpo_some (v 6)) hom_blk) (one1 (DE.mono (tupE (ac (v 8) (ac (v 9) an))) fun d h => ⟨(t', p'), h, hp'⟩) hom_blk) hom_blk (by omega)) (sliceG (DE.mono (v 4) fun d h => ⟨bls, h, l3, hP⟩) (dpo_some (addE (v 6) ki)) dpo_none hom_blk) hom_blk (by omega)) (fun d h => ?_))
            obtain ⟨ys, rfl, hy, hyP⟩ := h
            exact ⟨ins, exs, ys, _, _, _, rfl, hyP, .inr ⟨by omega, by omega, by omega, by omega⟩⟩
    · obtain ⟨ins, exs, bls, g8, g9, g10, rfl, hP, hl⟩ := hI
      refine ds_if (φ := w = 12 ∧ a < (bls.length : Int)) (Tt.iff (dt_w (dw_and (dt_ciE ci_eq (v 5) ki) fun _ => dw_and1 (dt_ciE ci_lt (v 6) (len_ B (v 4) (.l _))))) (by rw [List.length_map])) (fun hc => absurd hc.1 (by omega)) (fun _ => ?_)
      exact dss_one (ds_if (φ := 8 < w ∧ w < 15 ∧ a < (bls.length : Int)) (Tt.iff (dt_w (dw_and (dt_ciE ci_gt (v 5) ki) fun _ => dw_and (dt_ciE ci_lt (v 5) ki) fun _ => dw_and1 (dt_ciE ci_lt (v 6) (len_ B (v 4) (.l _))))) (by rw [List.length_map])) (fun hc => absurd hc.1 (by omega)) (fun _ => dss_nil ⟨ins, exs, bls, _, _, _, rfl, hP, hl.imp id fun z => ⟨by omega, z.2⟩⟩))
  -- way 15
  refine dss_cons (I := IB n w a m L 15) ?_ (fun γ15 hI => ?_)
  · by_cases hk : 14 < w
    · obtain ⟨ins, exs, bls, g8, g9, g10, rfl, hP, l1, l2, l3⟩ := hI.at hk
      refine ds_if (dt_ciE ci_eq (v 5) ki) (fun hw => ?_) (fun _ => dss_nil ⟨ins, exs, bls, _, _, _, rfl, hP, .inl ⟨l1, l2, l3⟩⟩)
      have hw : w = 15 := hw
      refine dss_one (set 3 (catP (N := L) (N' := 1) (out := dTerm) (S := fun _ => True) (DE.mono (v 3) fun d h => ⟨exs, h, l2, fun _ _ => trivial⟩) (one1 (ixP (p := fun i => 0 ≤ i ∧ i < 4) (lstE (ac (tupE (ac (v 7) (ac ki an))) (ac (tupE (ac (v 7) (ac ki an))) (ac (tupE (ac (v 1) (ac ki an))) (ac (tupE (ac (v 7) (ac (negE ki) an))) an)))) (hom_map dTerm (fun _ => rfl) [(m, 0), (m, 2), ((n : Int), 1), (m, -1)])) (call (4 : Int) Ft (fun _ => hr) (ac (v 0) (ac ki an)) ⟨by decide, by decide⟩) (.l ([(m, 0), (m, 2), ((n : Int), 1), (m, -1)].map dTerm)) (fun i hi => ?_)) hom_terms) hom_terms (by omega)) (fun d h => ?_))
      · obtain ⟨x, hx, e⟩ := at_any dTerm (l := [(m, 0), (m, 2), ((n : Int), 1), (m, -1)]) hi.1 hi.2
        exact ⟨_, e, x, rfl, trivial⟩
      · obtain ⟨ys, rfl, hy, _⟩ := h
        exact ⟨ins, ys, bls, _, _, _, rfl, hP, .inr ⟨by omega, by omega, by omega, by omega⟩⟩
    · obtain ⟨ins, exs, bls, g8, g9, g10, rfl, hP, hl⟩ := hI
      exact ds_if (dt_ciE ci_eq (v 5) ki) (fun hw => absurd (show w = 15 from hw) (by omega)) (fun _ => dss_nil ⟨ins, exs, bls, _, _, _, rfl, hP, hl.imp id fun z => ⟨by omega, z.2⟩⟩)
  obtain ⟨ins, exs, bls, g8, g9, g10, rfl, hP, hl⟩ := hI
  refine dss_one (ret (lstE (ac (v 2) (ac (v 3) (ac (v 4) an))) (hom_b rfl)) (fun d h => ⟨ins, exs, bls, h, ?_, hP⟩))
  rcases hl with hl | hl
  · exact ⟨by have := hl.1; omega, by have := hl.2.1; omega, by have := hl.2.2; omega⟩
  · exact hl.2
end K51

/-! F11: the draw box: _law_take. Here the heap is followed exactly. -/
namespace K51
open PySem PySem.Spec PyProof.Rows L2 DL
section
variable {X : Unit → Cx} {W : Wd} {K : PySem.W.Frag} {σ : L2.St} {H : Hp} {e a b c : Expr} {es : List Expr} {sts sts2 : List Stmt} {pos p : Pos} {D : Ends} {v u : V}
/-- e comes out as v, the heap as it was -/
def VE (X : Unit → Cx) (σ : L2.St) (H : Hp) (e : Expr) (v : V) : Prop := ∀ Q : VK, Q v H → rE X e σ H Q
def VT (X : Unit → Cx) (σ : L2.St) (H : Hp) (e : Expr) (b : Bool) : Prop := ∀ Q : Bool → Hp → Prop, Q b H → rT X e σ H Q
def VW (X : Unit → Cx) (σ : L2.St) (H : Hp) (e : Expr) (b : Bool) : Prop := ∀ Q : Bool → Hp → Prop, Q b H → rW X e σ H Q
theorem ve_int {i : Int} {k : Nat} : VE X σ H (.Constant (.int i) k pos) (.int i) := fun Q q => ⟨_, fun i => pe_int, q⟩
theorem ve_v (j : Nat) {x : Str} (hj : σ[j]? = some (some v)) (hN : ∀ i, (X i).N[j]? = some x := by intro _; rfl) (hv : ∀ i, Vis (X i).env.scope x := by intro _; first | exact Or.inl rfl | exact Or.inr (Or.inl rfl) | exact Or.inr (Or.inr rfl)) (h1 : (x == ("__debug__" : Str)) = false := by decide +kernel) (h2 : (x == ("__classdict__" : Str)) = false := by decide +kernel) :
    VE X σ H (.Name x pos) v := fun Q q => ⟨tVar j, fun i => pe_var (hN i) (hv i) h1 h2, _, hj, q⟩
theorem ve_add {i j : Int} (ha : VE X σ H a (.int i)) (hb : VE X σ H b (.int j)) : VE X σ H (.BinOp a .Add b pos) (.int (i + j)) := fun Q q => ⟨_, fun i => pe_op op_add (peR i) (peR i), ha _ (hb _ ⟨i, j, rfl, rfl, q⟩)⟩
theorem ve_sub {i j : Int} (ha : VE X σ H a (.int i)) (hb : VE X σ H b (.int j)) : VE X σ H (.BinOp a .Sub b pos) (.int (i - j)) := fun Q q => ⟨_, fun i => pe_op op_sub (peR i) (peR i), ha _ (hb _ ⟨i, j, rfl, rfl, q⟩)⟩
theorem ve_mul {i j : Int} (ha : VE X σ H a (.int i)) (hb : VE X σ H b (.int j)) (hc : CMul i j) : VE X σ H (.BinOp a .Mult b pos) (.int (i * j)) := fun Q q => ⟨_, fun i => pe_op op_mul (peR i) (peR i), ha _ (hb _ ⟨i, j, rfl, rfl, hc, q⟩)⟩
theorem ve_fdiv {i j : Int} (ha : VE X σ H a (.int i)) (hb : VE X σ H b (.int j)) (hc : CDiv i j) : VE X σ H (.BinOp a .FloorDiv b pos) (.int (i / j)) := fun Q q => ⟨_, fun i => pe_op op_fdiv (peR i) (peR i), ha _ (hb _ ⟨i, j, rfl, rfl, hc, q⟩)⟩
theorem ve_mod {i j : Int} (ha : VE X σ H a (.int i)) (hb : VE X σ H b (.int j)) (hc : 0 < j) : VE X σ H (.BinOp a .Mod b pos) (.int (i % j)) := fun Q q => ⟨_, fun i => pe_op op_mod (peR i) (peR i), ha _ (hb _ ⟨i, j, rfl, rfl, hc, q⟩)⟩
theorem ve_pow {i j : Int} (ha : VE X σ H a (.int i)) (hb : VE X σ H b (.int j)) (hc : CPow i j) : VE X σ H (.BinOp a .Pow b pos) (.int (i ^ j.toNat)) := fun Q q => ⟨_, fun i => pe_op op_pow (peR i) (peR i), ha _ (hb _ ⟨i, j, rfl, rfl, hc, q⟩)⟩
theorem ve_ix {q : Addr} {vs : List V} {k : Int} (ha : VE X σ H a (.ref q)) (hb : VE X σ H b (.int k)) (hq : H q = some (.lst vs)) (hi : atI vs k = some u) (hp : PlainIx b := by intro _ _; rfl) : VE X σ H (.Subscript a b pos) u :=
  fun Q z => ⟨tOp (rIx (X ()).K) (rE X a) (rE X b), fun i => pe_ix ix_seq (peR i) (peR i) hp, ha _ (hb _ (.inl ⟨_, _, k, u, rfl, rfl, SqL.of hq, hi, z⟩))⟩
theorem va_one (ha : VE X σ H a v) (he : ∀ i, starEach [a] (X i).env = (false, eval a (X i).env) :: starEach [] (X i).env) : ∀ Q : List V → Hp → Prop, Q [v] H → ∃ t, (∀ i, PA (X i) [a] t) ∧ t σ H Q :=
  fun Q q => ⟨_, fun i => pa_cons (peR i) pa_nil (he i), ha _ q⟩
theorem ve_len {q : Addr} {vs : List V} (B : Bn W) (ha : VE X σ H a (.ref q)) (hq : H q = some (.lst vs)) (hX : ∀ i, W.at (X i) := by intro _; exact ⟨rfl, rfl, rfl, rfl, rfl, rfl⟩) (hg : ∀ i, Gl (X i) "len" := by intro _; rfl)
    (he : ∀ i, starEach [a] (X i).env = (false, eval a (X i).env) :: starEach [] (X i).env := by intro _; rfl) : VE X σ H (.Call (.Name "len" p) [a] [] pos) (.int vs.length) := fun Q z =>
  ⟨tCB (fun xs H Q => ∃ p ys, xs = [.ref p] ∧ (SqL W.K H p ys ∨ SqT W.K H p ys) ∧ Q (.int ys.length) H) (rA X [a]), fun i => by
    obtain ⟨h1, h2, h3, h4, h5, h6⟩ := hX i
    rw [← h3]
    exact pe_callB call_len_seq (hg i) (by rw [h4]; exact B.len) PySem.boot_len (paR i) (by decide +kernel) (by decide +kernel) (he i) rfl, va_one ha he _ ⟨_, _, rfl, .inl (SqL.of hq), z⟩⟩
theorem ve_intf {i : Int} (B : Bn W) (ha : VE X σ H a (.int i)) (hX : ∀ i, W.at (X i) := by intro _; exact ⟨rfl, rfl, rfl, rfl, rfl, rfl⟩) (hg : ∀ i, Gl (X i) "int" := by intro _; rfl)
    (he : ∀ i, starEach [a] (X i).env = (false, eval a (X i).env) :: starEach [] (X i).env := by intro _; rfl) : VE X σ H (.Call (.Name "int" p) [a] [] pos) (.int i) := fun Q z =>
  ⟨tCB (fun xs H Q => (∃ i, xs = [.int i] ∧ Q (.int i) H) ∨ ∃ k, xs = [.bl k] ∧ Q (.int (if k then 1 else 0)) H) (rA X [a]), fun i => by
    obtain ⟨h1, h2, h3, h4, h5, h6⟩ := hX i
    exact pe_callTy call_int1 (hg i) (by rw [h4]; exact B.int) PyProof.Rows.boot_int (paR i) (by decide +kernel) (by decide +kernel) (he i) rfl, va_one ha he _ (.inl ⟨i, rfl, z⟩)⟩
theorem vt_ci {op : CmpOp} {f : Int → Int → Prop} [∀ i j, Decidable (f i j)] {i j : Int} (h : CI (X ()).K (fun _ => 0) op f) (ha : VE X σ H a (.int i)) (hb : VE X σ H b (.int j)) : VT X σ H (.Compare a [op] [b] pos) (decide (f i j)) := by
  obtain ⟨r, h1, h2, h3⟩ := h
  refine fun Q q => ⟨_, fun i => pt_cmpR (h1 _) (peR i) (peR i) (h2 b), ha _ (hb _ (h3 i j H _ fun b hb => ⟨b, rfl, ?_⟩))⟩
  have : b = decide (f i j) := by
    by_cases z : f i j
    · rw [hb.mpr z, decide_eq_true z]
    · have : b ≠ true := fun y => z (hb.mp y)
      rw [decide_eq_false z]
      cases b
      · rfl
      · exact absurd rfl this
  rw [this]; exact q
theorem vt_and {x y : Bool} (ha : VT X σ H a x) (hb : x = true → VT X σ H b y) : VT X σ H (.BoolOp .And [a, b] pos) (x && y) := fun Q q => by
  refine ⟨_, fun i => (pw_and (ptR i) (pw_and1 (ptR i))).pt, ha _ ?_⟩
  cases x with
  | false => exact q
  | true => exact hb rfl _ q
theorem vs_if {x : Bool} (hc : VT X σ H c x) (h : if x = true then rSs X sts D σ H else rSs X sts2 D σ H) : rS X (.If c sts sts2 pos) D σ H := ⟨_, fun i => ps_if (ptR i) (pssR i) (pssR i), hc _ h⟩
theorem vs_cons {s : Stmt} (h : rS X s { D with nx := fun σ H => rSs X sts D σ H } σ H) : rSs X (s :: sts) D σ H := ⟨_, fun i => pss_cons (psR i) (pssR i), h⟩
theorem vs_nil (h : D.nx σ H) : rSs X [] D σ H := ⟨_, fun i => pss_nil, h⟩
theorem vs_ret (h : VE X σ H e v) (q : D.rt v H) : rS X (.Return (some e) pos) D σ H := ⟨_, fun i => ps_ret (peR i), h _ q⟩
theorem vs_set {j : Nat} {x : Str} {px : Pos} (h : VE X σ H e v) (q : D.nx (σ.set j (some v)) H) (hN : ∀ i, (X i).N.Nodup) (hx : ∀ i, (X i).N[j]? = some x := by intro _; rfl) (hl : ∀ i, Loc (X i).env.scope x := by intro _; first | exact Or.inl rfl | exact Or.inr rfl)
    (hf : ∀ i, (X i).fn x = true ∨ (X i).env.scope.names.lookup x = some .local := by intro _; first | exact Or.inl rfl | exact Or.inr rfl) (hs : ∀ i, swapsWith e (some (.Name x px)) pos.line (X i).env = pure false := by intro _; rfl) : rS X (.Assign [.Name x px] e pos) D σ H :=
  ⟨_, fun i => ps_set (hN i) (hx i) (hl i) (peR i) (hs i) (hf i), h _ q⟩
theorem vs_store {q : Addr} {vs : List V} {k : Int} {m : Nat} (h : VE X σ H e v) (ha : VE X σ H a (.ref q)) (hb : VE X σ H b (.int k)) (hq : H q = some (.lst vs)) (hm : ixN vs.length k = some m) (z : D.nx σ (upd H q (.lst (vs.set m v))))
    (hs : ∀ i, swapsWithSole [.Subscript a b p] e pos.line (X i).env = pure false := by intro _; rfl) (hw : ∀ i, swappedStores [.Subscript a b p] e (X i).env = pure none := by intro _; rfl)
    (h1 : ∀ i, (assignEach [.Subscript a b p] (X i).env).map (·.2) = [assign (.Subscript a b p) (X i).env] := by intro _; rfl)
    (h2 : ∀ i v, assign (.Subscript a b p) (X i).env v = (do
      let ov ← holding [v] (eval a (X i).env)
      let iv ← holding [v, ov] (eval b (X i).env)
      standAt p
      holding [v, ov, iv] (setItem ov iv v)
      release [v, ov, iv] []) := by intro _ _; rfl) : rS X (.Assign [.Subscript a b p] e pos) D σ H :=
  ⟨_, fun i => ps_asg (peR i) (pg_sub (peR i) (peR i) set_list (h2 i)) (hs i) (hw i) (h1 i), h _ (ha _ (hb _ ⟨q, vs, k, m, rfl, rfl, hq, hm, z⟩))⟩
end
theorem kp_box {H : Hp} {b c : Addr} {i a s i' a' s' : Int} (h : H b = some (.lst [.ref c, .int i, .int a, .int s])) (h0 : 0 ≤ i') : Kp H (upd H b (.lst [.ref c, .int i', .int a', .int s'])) := by
  refine ⟨fun p o e n => ?_, fun b2 c2 cells hb => ?_, fun p hp => ?_⟩
  · by_cases z : p = b
    · subst z
      rw [h] at e
      obtain rfl := Option.some.inj e
      exact absurd ⟨_, rfl, c, i, a, s, rfl⟩ n
    · rw [upd_ne z]; exact e
  · obtain ⟨i2, a2, s2, e1, e2, e3, e4⟩ := hb
    have hc : c2 ≠ b := fun z => by
      subst z
      rw [h] at e2
      have := HO.lst.inj (Option.some.inj e2)
      exact not_boxV_ints cells ⟨c, i, a, s, this.symm⟩
    by_cases z : b2 = b
    · subst z
      rw [h] at e1
      have := HO.lst.inj (Option.some.inj e1)
      injection this with w1 _
      injection w1 with w1
      subst w1
      exact ⟨i', a', s', upd_same, by rw [upd_ne hc]; exact e2, h0, e4⟩
    · exact ⟨i2, a2, s2, by rw [upd_ne z]; exact e1, by rw [upd_ne hc]; exact e2, e3, e4⟩
  · by_cases z : p = b
    · subst z; rw [upd_same]; intro y; cases y
    · rw [upd_ne z]; exact hp
theorem upd_upd {H : Hp} {b : Addr} {x y : HO} : upd (upd H b x) b y = upd H b y := by
  funext q
  by_cases z : q = b
  · subst z; rw [upd_same, upd_same]
  · rw [upd_ne z, upd_ne z, upd_ne z]
theorem sc_take : FnScope ["_law_box_here", "_law_size", "_law_cell", "_law_digit"] ["_law_box_here", "_law_size"] (defScope (top 39)) := ⟨rfl, rfl, rfl, by decide +kernel, rfl, by decide +kernel, by decide +kernel⟩
theorem ok_take {W : Wd} {f : Addr} {fd : FuncData} (F : FnP W "_law_take" "_law_take" (top 39) f fd) (B : Bn W) : FnOk W.P W.w W.K W.mg W.base CX0 1 f fd ["_law_box_here", "_law_size"] (cTake W) := by
  refine fn_con F sc_take rfl fun cdv A outer sh Hh E hr z _ hp => ?_
  have nd := sc_take.nd
  obtain ⟨hz0, hz1⟩ := hp
  have hz0 : 0 < z := hz0
  have hz1 : z ≤ 1000000 := hz1
  intro M H0 H σ EO' D q1 q2 q3 q4
  obtain ⟨v0, s0, r0⟩ := EO'.vl 0 false .box rfl
  obtain ⟨v1, s1, r1⟩ := EO'.vl 1 false (.int z) rfl
  have ln : σ.length = 4 := EO'.ln
  cases r1
  cases r0 with
  | @box b c cells hb n1 n2 =>
    obtain ⟨i, a, s, e1, e2, hi, hcl⟩ := hb
    clear q1 q2 q3
    have hbc : c ≠ b := fun y => by
      subst y
      rw [e1] at e2
      exact not_boxV_ints cells ⟨_, _, _, _, (HO.lst.inj (Option.some.inj e2)).symm⟩
    have cp : CPow 10 18 := ⟨by decide, by decide, by decide⟩
    have cm1 : ∀ s : Int, CMul s 69621 := fun s => .inr ⟨by decide, by decide⟩
    have cm2 : ∀ s : Int, CMul s 48271 := fun s => .inr ⟨by decide, by decide⟩
    -- the tail: what is left once a cell was read, at any box
    have tail : ∀ (σ' : L2.St) (i' a' s' : Int), σ'.length = 4 → σ'[0]? = some (some (.ref b)) → σ'[1]? = some (some (.int z)) → 0 ≤ i' → ∀ H' : Hp, Kp H0 H' → H' b = some (.lst [.ref c, .int i', .int a', .int s']) →
        rSs (fun _ : Unit => bodyX W ["_law_box_here", "_law_size", "_law_cell", "_law_digit"] "_law_take" (top 39) f cdv A outer sh Hh E) ((defBody (top 39)).drop 1) D σ' H' := by
      intro σ' i' a' s' hl t0 t1 hi' H' kp hb'
      have i2 : atI [V.ref c, .int i', .int a', .int s'] 2 = some (.int a') := rfl
      have i3 : atI [V.ref c, .int i', .int a', .int s'] 3 = some (.int s') := rfl
      refine vs_cons (vs_if (vt_ci ci_gt (ve_ix (ve_v 0 t0) ve_int hb' i2) ve_int) ?_)
      by_cases ha : 0 < a'
      · rw [decide_eq_true ha, if_pos rfl]
        refine vs_cons (vs_set (j := 3) (ve_mod (ve_intf B (ve_ix (ve_v 0 t0) ve_int hb' i2)) (ve_v 1 t1) hz0) ?_ (fun _ => nd))
        have u0 : (σ'.set 3 (some (.int (a' % z))))[0]? = some (some (.ref b)) := by rw [List.getElem?_set_ne (by decide)]; exact t0
        have u1 : (σ'.set 3 (some (.int (a' % z))))[1]? = some (some (.int z)) := by rw [List.getElem?_set_ne (by decide)]; exact t1
        have u3 : (σ'.set 3 (some (.int (a' % z))))[3]? = some (some (.int (a' % z))) := by rw [List.getElem?_set_self (by omega)]
        refine vs_cons (vs_store (m := 2) (ve_fdiv (ve_ix (ve_v 0 u0) ve_int hb' i2) (ve_v 1 u1) ⟨hz0, by omega⟩) (ve_v 0 u0) ve_int hb' rfl ?_)
        refine vs_cons (vs_ret (ve_v 3 u3) (q4 _ _ (.int (a' % z)) (kp.trans (kp_box hb' hi')) ⟨_, rfl, Int.emod_nonneg _ (by omega), Int.emod_lt_of_pos _ hz0⟩ (.int _)))
      · rw [decide_eq_false ha, if_neg (by decide)]
        refine vs_nil ?_
        refine vs_cons (vs_store (m := 3) (ve_mod (ve_intf B (ve_add (ve_mul (ve_ix (ve_v 0 t0) ve_int hb' i3) ve_int (cm2 s')) ve_int)) ve_int (by decide)) (ve_v 0 t0) ve_int hb' rfl ?_)
        have kb := kp_box (i' := i') (a' := a') (s' := (s' * 48271 + 11) % 2147483647) hb' hi'
        have hb2 : (upd H' b (.lst [.ref c, .int i', .int a', .int ((s' * 48271 + 11) % 2147483647)])) b = some (.lst [.ref c, .int i', .int a', .int ((s' * 48271 + 11) % 2147483647)]) := upd_same
        refine vs_cons (vs_ret (ve_mod (ve_intf B (ve_fdiv (ve_ix (ve_v 0 t0) ve_int hb2 rfl) ve_int ⟨by decide, by decide⟩)) (ve_v 1 t1) hz0) (q4 _ _ (.int _) (kp.trans kb) ⟨_, rfl, Int.emod_nonneg _ (by omega), Int.emod_lt_of_pos _ hz0⟩ (.int _)))
    have i0 : atI [V.ref c, .int i, .int a, .int s] 0 = some (.ref c) := rfl
    have i1 : atI [V.ref c, .int i, .int a, .int s] 1 = some (.int i) := rfl
    have i2 : atI [V.ref c, .int i, .int a, .int s] 2 = some (.int a) := rfl
    have i3 : atI [V.ref c, .int i, .int a, .int s] 3 = some (.int s) := rfl
    refine vs_cons (vs_if (vt_and (vt_ci ci_eq (ve_ix (ve_v 0 s0) ve_int e1 i2) ve_int) fun _ => vt_ci ci_lt (ve_ix (ve_v 0 s0) ve_int e1 i1) (ve_len B (ve_ix (ve_v 0 s0) ve_int e1 i0) e2)) ?_)
    split
    · rename_i hc
      rw [Bool.and_eq_true, decide_eq_true_eq, decide_eq_true_eq, List.length_map] at hc
      obtain ⟨ha, hic⟩ := hc
      have hin : i.toNat < cells.length := by omega
      have ec : atI (cells.map V.int) i = some (.int cells[i.toNat]) := by
        have e : i = ((i.toNat : Nat) : Int) := by omega
        unfold atI
        rw [List.length_map]
        rw [show ixN cells.length i = some i.toNat by unfold ixN; rw [if_pos hi, if_pos hic]]
        show (cells.map V.int)[i.toNat]? = _
        rw [List.getElem?_map, List.getElem?_eq_getElem hin]; rfl
      generalize cells[i.toNat] = x at ec
      refine vs_cons (vs_set (j := 2) (ve_ix (ve_ix (ve_v 0 s0) ve_int e1 i0) (ve_ix (ve_v 0 s0) ve_int e1 i1) e2 ec) ?_ (fun _ => nd))
      have u0 : (σ.set 2 (some (.int x)))[0]? = some (some (.ref b)) := by rw [List.getElem?_set_ne (by decide)]; exact s0
      have u1 : (σ.set 2 (some (.int x)))[1]? = some (some (.int z)) := by rw [List.getElem?_set_ne (by decide)]; exact s1
      have u2 : (σ.set 2 (some (.int x)))[2]? = some (some (.int x)) := by rw [List.getElem?_set_self (by omega)]
      have ul : (σ.set 2 (some (.int x))).length = 4 := by rw [List.length_set]; exact ln
      refine vs_cons (vs_store (m := 1) (ve_add (ve_ix (ve_v 0 u0) ve_int e1 i1) ve_int) (ve_v 0 u0) ve_int e1 rfl ?_)
      have k1 := kp_box (i' := i + 1) (a' := a) (s' := s) e1 (by omega)
      have hb2 : (upd H b (.lst [.ref c, .int (i + 1), .int a, .int s])) b = some (.lst [.ref c, .int (i + 1), .int a, .int s]) := upd_same
      refine vs_cons (vs_if (vt_ci ci_ge (ve_v 2 u2) (ve_pow ve_int ve_int cp)) ?_)
      split
      · refine vs_cons (vs_store (m := 2) (ve_sub (ve_v 2 u2) (ve_pow ve_int ve_int cp)) (ve_v 0 u0) ve_int hb2 rfl ?_)
        refine vs_nil (vs_nil ?_)
        rw [upd_upd]
        exact tail _ (i + 1) _ s ul u0 u1 (by omega) _ (EO'.kp.trans (kp_box e1 (by omega))) upd_same
      · refine vs_cons (vs_store (m := 3) (ve_mod (ve_intf B (ve_add (ve_mul (ve_ix (ve_v 0 u0) ve_int hb2 rfl) ve_int (cm1 s)) (ve_v 2 u2))) ve_int (by decide)) (ve_v 0 u0) ve_int hb2 rfl ?_)
        refine vs_nil (vs_nil ?_)
        rw [upd_upd]
        exact tail _ (i + 1) a _ ul u0 u1 (by omega) _ (EO'.kp.trans (kp_box e1 (by omega))) upd_same
    · refine vs_nil ?_
      exact tail σ i a s ln s0 s1 hi H EO'.kp e1
end K51

/-! F12: the draw box is made. -/
namespace K51
open PySem PySem.Spec PyProof.Rows L2 DL
theorem de_box {X : Unit → Cx} {K : PySem.W.Frag} {cl : Kd → Addr} {γ : List G} {a : Expr} {pos p1 p2 p3 : Pos} {k1 k2 k3 : Nat} {md : Md} (h : DE X K cl a γ md (fun d => ∃ ns : List Int, d = lint ns ∧ ns.length ≤ 63)) (hf : md.f = true := by rfl)
    (he : ∀ i, starEach [a, .Constant (.int 0) k1 p1, .Constant (.int 0) k2 p2, .Constant (.int 1) k3 p3] (X i).env = (false, eval a (X i).env) :: starEach [.Constant (.int 0) k1 p1, .Constant (.int 0) k2 p2, .Constant (.int 1) k3 p3] (X i).env := by intro _; rfl) :
    DE X K cl (.List [a, .Constant (.int 0) k1 p1, .Constant (.int 0) k2 p2, .Constant (.int 1) k3 p3] pos) γ mF (Is .box) := by
  intro M H0 H σ E Q q
  refine ⟨_, fun i => pe_lst (pa_cons (peR i) (pa_cons pe_int (pa_cons pe_int (pa_cons pe_int pa_nil))) (he i)), h M H0 H σ E _ fun v H1 d k1 ⟨ns, e1, hl⟩ r1 => ?_⟩
  subst e1
  obtain ⟨r1, r2⟩ := r1
  obtain ⟨c, rfl, hc⟩ := r2 hf _ rfl
  cases r1 with
  | lst x1 x2 x3 x4 =>
    obtain rfl := x4.of_ints
    refine ⟨(show 4 ≤ sizeLine by decide), fun l hl' => ?_⟩
    have hlc : ∀ {c : Addr} {o : HO}, H1 c = some o → c ≠ l := fun e z => by rw [z, hl'] at e; cases e
    exact q _ _ _ (k1.trans (Kp.new hl')) rfl ⟨.box ⟨0, 0, 1, upd_same, by rw [upd_ne (hlc x1)]; exact x1, by decide, hl⟩ (rn_apart (md := mF) (E.go k1) hl') (rn_apart (md := mF) E hc), fun _ ds z => by cases z⟩
theorem sc_box : FnScope ["_law_script"] ["_law_script"] (defScope (top 38)) := ⟨rfl, rfl, rfl, by decide +kernel, rfl, by decide +kernel, by decide +kernel⟩
abbrev cBox (W : Wd) : Sp := Con W.K W.cl 1 (fun ns : List Int => [lint ns]) (fun ns => ns.length ≤ 63) (fun ns d => d = .box)
theorem ok_box {W : Wd} {f : Addr} {fd : FuncData} (F : FnP W "_law_box" "_law_box" (top 38) f fd) (B : Bn W) : FnOk W.P W.w W.K W.mg W.base CX0 1 f fd ["_law_script"] (cBox W) := by
  refine fn_con F sc_box rfl fun cdv A outer sh Hh E hr ns _ hp => ?_
  have nd := sc_box.nd
  have hp : ns.length ≤ 63 := hp
  obtain ⟨zs, g1, g2, g3⟩ := cut_map D.int ns none (some 63)
  exact dss_one (ret (de_box (DE.mono (list_ B (slice (v 0) dpo_none (dpo_some ki) (by rw [g1]; exact hom_ints _)) (.l _) (by rw [g1]; exact hom_ints _)) fun d h => ⟨zs, by rw [h, g1]; rfl, by omega⟩)) fun d h => h)
end K51

namespace K51
open PySem PySem.Spec PyProof.Rows L2 DL
def cls (i j : Nat) : Stmt := match top i with
  | .ClassDef _ _ _ body _ _ _ _ _ _ _ => body.getD j (.Pass ⟨0, 0, 0, 0⟩)
  | _ => .Pass ⟨0, 0, 0, 0⟩
/-! ### data of the package -/
abbrev Shelf := Str × List Book
def dCat (ns : List Str) : D := .obj .cat [.tup (ns.map D.str)]
def dShelf (e : Shelf) : D := .tup [.str e.1, .tup (e.2.map tint)]
def dEv (ns : List Str) (E : List Shelf) : D := .obj .ev [dCat ns, .lst (E.map dShelf)]
def dGate (ins : List Int) (exs : List Term) (bls : List Block) (am : List Int) (p : Place) : D := .obj .gate [tint ins, tTerms exs, .tup (bls.map dBlock), tint am, dPlace p]
theorem imm_dShelf (e : Shelf) : (dShelf e).imm = true := by
  have h : D.immA (e.2.map tint) = true := immA_map tint imm_tint _
  simp [dShelf, D.imm, D.immA, h]
theorem imm_strs (ns : List Str) : D.immA (ns.map D.str) = true := immA_map D.str (fun _ => rfl) _
theorem imm_dCat (ns : List Str) : (dCat ns).imm = true := by
  have h := imm_strs ns
  simp [dCat, D.imm, D.immA, h]
structure CF (W : Wd) : Prop where
  cat : Cls W.K (W.cl .cat)
  catN : NoAttr W.K (W.cl .cat) "names"
  ev : Cls W.K (W.cl .ev)
  evC : NoAttr W.K (W.cl .ev) "catalog"
  evR : NoAttr W.K (W.cl .ev) "rows"
  gate : Cls W.K (W.cl .gate)
  gI : NoAttr W.K (W.cl .gate) "inside"
  gE : NoAttr W.K (W.cl .gate) "exits"
  gB : NoAttr W.K (W.cl .gate) "blocks"
  gA : NoAttr W.K (W.cl .gate) "among"
  gP : NoAttr W.K (W.cl .gate) "place"
  limit : ∃ t, W.mg "LIMIT" = some (.int 1000000000000 t)
  evF : ∀ f, Meth W.K (W.cl .ev) "__getitem__" f → PySem.W.fnIn W.K f = true

/-! ### is_integer, is_value -/
theorem sc_is_integer : FnScope ["value"] ["value"] (defScope (top 15)) := ⟨rfl, rfl, rfl, by decide +kernel, rfl, by decide +kernel, by decide +kernel⟩
abbrev cIsInt (W : Wd) : Sp := Con W.K W.cl 1 (fun i : Int => [.int i]) (fun _ => True) (fun _ d => d = .bl true)
theorem ok_is_integer {W : Wd} {f : Addr} {fd : FuncData} (F : FnP W "is_integer" "is_integer" (top 15) f fd) (B : Bn W) : FnOk W.P W.w W.K W.mg W.base CX0 1 f fd ["value"] (cIsInt W) := by
  refine fn_con F sc_is_integer rfl fun cdv A outer s H E hr x _ hp => ?_
  have nd := sc_is_integer.nd
  refine dss_one (ret (andV (blV (isi B (v 0) (T := "int") (t := "int") (r := true) (by decide +kernel) B.int (by decide +kernel))) fun _ => de_one (notV (blV (isi B (v 0) (T := "bool") (t := "int") (r := false) (by decide +kernel) B.bool (by decide +kernel))))) (fun d h => ?_))
  obtain ⟨b, rfl, hb⟩ := h
  rw [hb.mpr ⟨rfl, by decide⟩]
theorem sc_is_value : FnScope ["value"] ["value"] (defScope (top 16)) := ⟨rfl, rfl, rfl, by decide +kernel, rfl, by decide +kernel, by decide +kernel⟩
abbrev cIsVal (W : Wd) : Sp := Con W.K W.cl 1 (fun i : Int => [.int i]) okV (fun _ d => d = .bl true)
theorem ok_is_value {W : Wd} {f : Addr} {fd : FuncData} (F : FnP W "is_value" "is_value" (top 16) f fd) (B : Bn W) (C : CF W) (Fi : GFn W "is_integer" 1 (cIsInt W)) : FnOk W.P W.w W.K W.mg W.base CX0 2 f fd ["value"] (cIsVal W) := by
  refine fn_con F sc_is_value rfl fun cdv A outer s H E hr x _ hp => ?_
  have nd := sc_is_value.nd
  obtain ⟨t, hL⟩ := C.limit
  have lim : ∀ {pos : Pos}, DE (fun _ : Unit => bodyX W ["value"] "is_value" (top 16) f cdv A outer s H E) W.K W.cl (.Name "LIMIT" pos) (g0 false ["value"] [D.int x]) mF (Is (.int 1000000000000)) := fun {pos} =>
    de_glob (v := .int 1000000000000) (fun _ => rfl) (fun _ => ⟨_, hL, ⟨t, rfl⟩⟩) (fun H => .int _) rfl (by decide +kernel)
  refine dss_one (ret (andV (blV (call x Fi (fun _ => hr) (ac (v 0) an) trivial)) fun _ => de_one (chainV ci_le ci_le (negE lim) (v 0) lim)) (fun d h => ?_))
  obtain ⟨b, rfl, hb⟩ := h
  rw [hb.mpr ⟨rfl, hp⟩]

/-! ### Catalog.is_book, Catalog.__len__ -/
theorem sc_is_book : FnScope ["self", "value", "one"] ["self", "value"] (defScope (cls 17 4)) := ⟨rfl, rfl, rfl, by decide +kernel, rfl, by decide +kernel, by decide +kernel⟩
abbrev cIsBook (W : Wd) : Sp := Con W.K W.cl 2 (fun x : List Str × Book => [dCat x.1, tint x.2]) (fun x => okB x.1.length x.2) (fun _ d => d = .bl true)
theorem ok_is_book {W : Wd} {f : Addr} {fd : FuncData} (F : FnP W "is_book" "Catalog.is_book" (cls 17 4) f fd) (B : Bn W) (C : CF W) (Fi : GFn W "is_value" 2 (cIsVal W)) : FnOk W.P W.w W.K W.mg W.base CX0 3 f fd ["self", "value"] (cIsBook W) := by
  refine fn_con F sc_is_book rfl fun cdv A outer s H E hr x _ hp => ?_
  have nd := sc_is_book.nd
  obtain ⟨ns, b⟩ := x
  obtain ⟨hl, hv⟩ := hp
  dsimp only at hl hv
  dsimp only
  refine sq (ds_if (φ := False) (Tt.iff (dt_w (dw_or (dt_not (tv (blV (isi B (v 1) (T := "tuple") (t := "tuple") (r := true) (by decide +kernel) B.tuple (by decide +kernel))))) fun _ => dw_or1 (dt_ciE ci_ne (len_ B (v 1) (.t _)) (len_ B (fld 0 (v 0) C.cat C.catN (d := .tup (ns.map D.str)) rfl rfl) (.t _))))) ?_) (fun z => z.elim) (fun _ => dss_nil ?_))
  · simp [hl]
  refine sq (for_ (sl := [2]) (fun i γ' => ∃ g, γ' = [.v false (dCat ns), .v false (tint b), g]) (iT (v 1) rfl) ⟨_, rfl⟩ (fun i γ' d hi hI hd => ?_) (fun γ' hI => ?_))
  · obtain ⟨g, rfl⟩ := hI
    obtain ⟨x, hx, rfl⟩ := get_map hd
    refine gn 2 (dss_one (ds_if (φ := False) (Tt.iff (dt_not (tv (blV (DE.mono (call x Fi (fun _ => hr) (ac (v 2) an) (hv x (List.mem_of_getElem? hx))) fun d h => h)))) (by simp)) (fun z => z.elim) (fun _ => dss_nil ⟨_, rfl⟩)))
  · obtain ⟨g, rfl⟩ := hI
    exact dss_one (ret kb fun d h => h)
theorem sc_clen : FnScope ["self"] ["self"] (defScope (cls 17 6)) := ⟨rfl, rfl, rfl, by decide +kernel, rfl, by decide +kernel, by decide +kernel⟩
abbrev cClen (W : Wd) : Sp := Con W.K W.cl 1 (fun x : List Str => [dCat x]) (fun _ => True) (fun x d => d = .int x.length)
theorem ok_clen {W : Wd} {f : Addr} {fd : FuncData} (F : FnP W "__len__" "Catalog.__len__" (cls 17 6) f fd) (B : Bn W) (C : CF W) : FnOk W.P W.w W.K W.mg W.base CX0 1 f fd ["self"] (cClen W) := by
  refine fn_con F sc_clen rfl fun cdv A outer s H E hr ns _ hp => ?_
  have nd := sc_clen.nd
  refine dss_one (ret (len_ B (fld 0 (v 0) C.cat C.catN (d := .tup (ns.map D.str)) rfl rfl) (.t _)) fun d h => ?_)
  rw [h, List.length_map]

/-! ### check_books -/
theorem sc_check_books : FnScope ["catalog", "books", "book"] ["catalog", "books"] (defScope (top 22)) := ⟨rfl, rfl, rfl, by decide +kernel, rfl, by decide +kernel, by decide +kernel⟩
abbrev cCheck (W : Wd) : Sp := Con W.K W.cl 2 (fun x : List Str × List Book => [dCat x.1, .tup (x.2.map tint)]) (fun x => ∀ b ∈ x.2, okB x.1.length b) (fun _ d => d = .non)
theorem ok_check_books {W : Wd} {f : Addr} {fd : FuncData} (F : FnP W "check_books" "check_books" (top 22) f fd) (B : Bn W) (Fi : MFn W .cat "is_book" 3 (cIsBook W)) : FnOk W.P W.w W.K W.mg W.base CX0 4 f fd ["catalog", "books"] (cCheck W) := by
  refine fn_con F sc_check_books rfl fun cdv A outer s H E hr x _ hp => ?_
  have nd := sc_check_books.nd
  obtain ⟨ns, bs⟩ := x
  dsimp only at hp
  dsimp only
  refine dss_one (for_ (sl := [2]) (fun i γ' => ∃ g, γ' = [.v false (dCat ns), .v false (.tup (bs.map tint)), g]) (iT (v 1) rfl) ⟨_, rfl⟩ (fun i γ' d hi hI hd => ?_) (fun γ' hI => rfl))
  obtain ⟨g, rfl⟩ := hI
  obtain ⟨b, hb, rfl⟩ := get_map hd
  exact gn 2 (dss_one (ds_if (φ := False) (Tt.iff (dt_not (tv (blV (DE.mono (meth (c := .cat) (d0 := [.tup (ns.map D.str)]) (ds := [tint b]) (ns, b) Fi (fun _ => hr) (v 0) (ac (v 2) an) (hp b (List.mem_of_getElem? hb))) fun d h => h)))) (by simp)) (fun z => z.elim) (fun _ => dss_nil ⟨_, rfl⟩)))

/-! ### step_between -/
theorem sc_step_between : FnScope ["earlier", "later", "signs", "before", "after"] ["earlier", "later"] (defScope (top 20)) := ⟨rfl, rfl, rfl, by decide +kernel, rfl, by decide +kernel, by decide +kernel⟩
theorem ok_step_between {W : Wd} {f : Addr} {fd : FuncData} (F : FnP W "step_between" "step_between" (top 20) f fd) (B : Bn W) : FnOk W.P W.w W.K W.mg W.base CX0 1 f fd ["earlier", "later"] (cStep W) := by
  refine fn_con F sc_step_between rfl fun cdv A outer s H E hr x _ hp => ?_
  have nd := sc_step_between.nd
  obtain ⟨a, b⟩ := x
  obtain ⟨hl, hz⟩ := hp
  dsimp only at hl hz
  dsimp only
  refine sq (setO 2 de_nil (fun d h => ⟨[], h, rfl, ?_⟩))
  refine sq (for_ (sl := [3, 4]) (fun i γ' => ∃ g3 g4, γ' = [.v false (tint a), .v false (tint b), .ow (((stp a b).take i).map D.int), g3, g4]) (iZ B (v 0) (v 1) rfl) ⟨_, _, rfl⟩ (fun i γ' d hi hI hd => ?_) (fun γ' hI => ?_))
  · obtain ⟨g3, g4, rfl⟩ := hI
    obtain ⟨x, y, hx, hy, rfl⟩ := hd
    obtain ⟨x, ex, rfl⟩ := get_map hx
    obtain ⟨y, ey, rfl⟩ := get_map hy
    have hs : (stp a b)[i]? = some (sgn x y) := by simp [stp, List.getElem?_zipWith, ex, ey]
    have hlen : ((stp a b).take i).length < 100000 := by
      rw [List.length_take]
      have : i < a.length := (List.getElem?_eq_some_iff.mp ex).1
      omega
    have step : ∀ s : Int, s = sgn x y → ((stp a b).take i).map D.int ++ [D.int s] = ((stp a b).take (i + 1)).map D.int := fun s e => by
      rw [List.take_add_one, hs, List.map_append, e]; rfl
    refine gt (gc 3 (gc 4 (dgs_nil ?_)))
    refine dss_one (ds_if (φ := x < y) (dt_ciE ci_lt (v 3) (v 4)) (fun h => ?_) (fun h => ?_))
    · refine dss_one (app 2 ki ?_ (fun d hd => ?_))
      · rw [List.length_map]; exact hlen
      · subst hd
        rw [step 1 (by simp only [sgn]; rw [if_pos h, if_neg (by omega)]; rfl)]
        exact ⟨hom_ints _, _, _, rfl⟩
    · refine dss_one (ds_if (φ := y < x) (Tt.iff (dt_ciE ci_gt (v 3) (v 4)) Iff.rfl) (fun h2 => ?_) (fun h2 => ?_))
      · refine dss_one (app 2 (negE ki) ?_ (fun d hd => ?_))
        · rw [List.length_map]; exact hlen
        · subst hd
          rw [step (-1) (by simp only [sgn]; rw [if_neg h, if_pos h2]; rfl)]
          exact ⟨hom_ints _, _, _, rfl⟩
      · refine dss_one (app 2 ki ?_ (fun d hd => ?_))
        · rw [List.length_map]; exact hlen
        · subst hd
          rw [step 0 (by simp only [sgn]; rw [if_neg h, if_neg h2]; rfl)]
          exact ⟨hom_ints _, _, _, rfl⟩
  · obtain ⟨g3, g4, rfl⟩ := hI
    refine dss_one (ret (tuple_ B (vo 2) (.l _)) fun d h => ?_)
    subst h
    show D.tup _ = tint (stp a b)
    unfold tint
    rw [List.take_of_length_le]
    simp [stp]

/-! ### Evidence: shelf_names, __contains__, __getitem__ -/
def okE (n : Nat) (E : List Shelf) : Prop := E.length ≤ 6 ∧ ∀ e ∈ E, PyData.strOk e.1 = true ∧ e.2.length ≤ 5 ∧ ∀ b ∈ e.2, okB n b
theorem sc_shelf_names : FnScope ["self", "name", "books"] ["self"] (defScope (cls 26 3)) := ⟨rfl, rfl, rfl, by decide +kernel, rfl, by decide +kernel, by decide +kernel⟩
abbrev cNames (W : Wd) : Sp := Con W.K W.cl 1 (fun x : List Str × List Shelf => [dEv x.1 x.2]) (fun x => x.2.length ≤ 6) (fun x d => d = .tup ((x.2.map (·.1)).map D.str))
theorem ok_shelf_names {W : Wd} {f : Addr} {fd : FuncData} (F : FnP W "shelf_names" "Evidence.shelf_names" (cls 26 3) f fd) (B : Bn W) (C : CF W) : FnOk W.P W.w W.K W.mg W.base CX0 1 f fd ["self"] (cNames W) := by
  refine fn_con F sc_shelf_names rfl fun cdv A outer s H E hr x _ hp => ?_
  have nd := sc_shelf_names.nd
  obtain ⟨ns, E'⟩ := x
  dsimp only at hp
  dsimp only
  refine dss_one (ret (tuple_ B (filt [("name", 1), ("books", 2)] [1, 2] dShelf (fun e => D.str e.1) E' (fun _ => true) (iL (fld 1 (v 0) C.ev C.evR (d := .lst (E'.map dShelf)) rfl rfl) rfl) (by omega) (fun e hm => ?_) (hom_map _ (fun _ => rfl))) (.l _)) fun d h => ?_)
  · exact gt (gc 1 (gc 2 (dgs_nil ⟨dts_t, fun _ => el (vi 1 (d := .str e.1))⟩)))
  · rw [h, filt_t, List.map_map]; rfl
theorem sc_econt : FnScope ["self", "name"] ["self", "name"] (defScope (cls 26 19)) := ⟨rfl, rfl, rfl, by decide +kernel, rfl, by decide +kernel, by decide +kernel⟩
abbrev cCont (W : Wd) : Sp := Con W.K W.cl 2 (fun x : (List Str × List Shelf) × Str => [dEv x.1.1 x.1.2, .str x.2]) (fun x => (x.1.2.length ≤ 6 ∧ ∀ e ∈ x.1.2, PyData.strOk e.1 = true) ∧ PyData.strOk x.2 = true) (fun x d => Vb (x.2 ∈ x.1.2.map (·.1)) d)
theorem ok_econt {W : Wd} {f : Addr} {fd : FuncData} (F : FnP W "__contains__" "Evidence.__contains__" (cls 26 19) f fd) (B : Bn W) (Fn : PFn W .ev "shelf_names" 1 (cNames W)) : FnOk W.P W.w W.K W.mg W.base CX0 3 f fd ["self", "name"] (cCont W) := by
  refine fn_con F sc_econt rfl fun cdv A outer s H E hr x _ hp => ?_
  have nd := sc_econt.nd
  obtain ⟨⟨ns, E'⟩, x⟩ := x
  obtain ⟨⟨h1, h2⟩, h3⟩ := hp
  dsimp only at h1 h2 h3
  dsimp only
  refine dss_one (ret (inDv (n := 1) (m := 1) (fun _ => hr) (v 1) (prop_ (c := .ev) (ds := [dCat ns, .lst (E'.map dShelf)]) (ns, E') Fn (fun _ => hr) (v 0) rfl h1) (.t _) (cm_str h3) ?_) fun d ⟨b, h, hb⟩ => ⟨b, h, hb.trans ?_⟩)
  · refine cmA_of fun d hd => ?_
    obtain ⟨y, hy, rfl⟩ := List.mem_map.mp hd
    obtain ⟨e, he, rfl⟩ := List.mem_map.mp hy
    exact cm_str (h2 e he)
  · exact mem_map_iff (fun a b h => by injection h)
def getE (E : List Shelf) (x : Str) : Option (List Book) := (E.find? fun e => decide (e.1 = x)).map (·.2)
theorem sc_eget : FnScope ["self", "name", "known", "books"] ["self", "name"] (defScope (cls 26 16)) := ⟨rfl, rfl, rfl, by decide +kernel, rfl, by decide +kernel, by decide +kernel⟩
abbrev cGet (W : Wd) : Sp := Con W.K W.cl 2 (fun x : (List Str × List Shelf) × Str => [dEv x.1.1 x.1.2, .str x.2]) (fun x => (x.1.2.length ≤ 6 ∧ ∀ e ∈ x.1.2, PyData.strOk e.1 = true) ∧ PyData.strOk x.2 = true ∧ x.2 ∈ x.1.2.map (·.1)) (fun x d => ∃ bs, getE x.1.2 x.2 = some bs ∧ d = .tup (bs.map tint))
theorem ok_eget {W : Wd} {f : Addr} {fd : FuncData} (F : FnP W "__getitem__" "Evidence.__getitem__" (cls 26 16) f fd) (B : Bn W) (C : CF W) : FnOk W.P W.w W.K W.mg W.base CX0 1 f fd ["self", "name"] (cGet W) := by
  refine fn_con F sc_eget rfl fun cdv A outer s H E hr x _ hp => ?_
  have nd := sc_eget.nd
  obtain ⟨⟨ns, E'⟩, x⟩ := x
  obtain ⟨⟨h1, h2⟩, h3, h4⟩ := hp
  dsimp only at h1 h2 h3 h4
  dsimp only
  refine sq (for_ (sl := [2, 3]) (fun i γ' => ∃ g2 g3, γ' = [.v false (dEv ns E'), .v false (.str x), g2, g3] ∧ ∀ e ∈ E'.take i, e.1 ≠ x) (iL (fld 1 (v 0) C.ev C.evR (d := .lst (E'.map dShelf)) rfl rfl) rfl) ⟨_, _, rfl, by simp⟩ (fun i γ' d hi hI hd => ?_) (fun γ' hI => ?_))
  · obtain ⟨g2, g3, rfl, hno⟩ := hI
    obtain ⟨e, he, rfl⟩ := get_map hd
    have hlt : i < E'.length := (List.getElem?_eq_some_iff.mp he).1
    refine gt (gc 2 (gc 3 (dgs_nil ?_)))
    refine dss_one (ds_if (φ := e.1 = x) (Tt.iff (eqD (n := 1) (m := 1) (fun _ => hr) (v 2) (v 1) (cm_str (h2 e (List.mem_of_getElem? he))) (cm_str h3)) ⟨fun z => by injection z, fun z => by rw [z]⟩) (fun hx => ?_) (fun hx => ?_))
    · refine dss_one (ret (vi 3 (d := .tup (e.2.map tint)) (hi := by have := immA_map tint imm_tint e.2; simpa [D.imm] using this)) fun d h => ⟨e.2, ?_, h⟩)
      have ed : E' = E'.take i ++ e :: E'.drop (i + 1) := by
        have := List.getElem_cons_drop (h := hlt)
        rw [← (List.getElem?_eq_some_iff.mp he).2, this, List.take_append_drop]
      rw [getE, ed, List.find?_append, List.find?_eq_none.mpr (fun y hy => by simpa using hno y hy)]
      simp [hx]
    · refine dss_nil ⟨_, _, rfl, fun y hy => ?_⟩
      rw [List.take_add_one, he] at hy
      rcases List.mem_append.mp hy with z | z
      · exact hno y z
      · have : y = e := by simpa using z
        rw [this]; exact hx
  · obtain ⟨g2, g3, rfl, hno⟩ := hI
    rw [List.length_map, List.take_length] at hno
    obtain ⟨e, he, e2⟩ := List.mem_map.mp h4
    exact absurd e2 (hno e he)
end K51

namespace K51
open PySem PySem.Spec PyProof.Rows L2 DL
theorem getE_mem {E : List Shelf} {x : Str} : x ∈ E.map (·.1) ↔ ∃ bs, getE E x = some bs := by
  constructor
  · intro h
    obtain ⟨e, he, rfl⟩ := List.mem_map.mp h
    have : (E.find? fun e' => decide (e'.1 = e.1)).isSome := by
      rw [List.find?_isSome]; exact ⟨e, he, by simp⟩
    obtain ⟨e', h'⟩ := Option.isSome_iff_exists.mp this
    exact ⟨e'.2, by rw [getE, h']; rfl⟩
  · rintro ⟨bs, h⟩
    rw [getE] at h
    cases h' : E.find? fun e' => decide (e'.1 = x) with
    | none => rw [h'] at h; cases h
    | some e =>
      have h1 := List.mem_of_find?_eq_some h'
      have h2 := List.find?_some h'
      exact List.mem_map.mpr ⟨e, h1, by simpa using h2⟩
theorem getE_in {E : List Shelf} {x : Str} {bs : List Book} (h : getE E x = some bs) : ∃ e ∈ E, e.1 = x ∧ e.2 = bs := by
  rw [getE] at h
  cases h' : E.find? fun e' => decide (e'.1 = x) with
  | none => rw [h'] at h; cases h
  | some e =>
    rw [h'] at h
    exact ⟨e, List.mem_of_find?_eq_some h', by simpa using List.find?_some h', Option.some.inj h⟩
theorem okE_get {n : Nat} {E : List Shelf} {x : Str} {bs : List Book} (h : okE n E) (h2 : getE E x = some bs) : bs.length ≤ 5 ∧ ∀ b ∈ bs, okB n b := by
  obtain ⟨e, he, _, rfl⟩ := getE_in h2
  exact (h.2 e he).2
theorem okE_str {n : Nat} {E : List Shelf} (h : okE n E) : E.length ≤ 6 ∧ ∀ e ∈ E, PyData.strOk e.1 = true := ⟨h.1, fun e he => (h.2 e he).1⟩
/-- the calls on evidence that the code below makes -/
structure EvF (W : Wd) : Prop where
  cont : MFn W .ev "__contains__" 3 (cCont W)
  get : MFn W .ev "__getitem__" 1 (cGet W)
  isInt : GFn W "is_integer" 1 (cIsInt W)

/-! ### is_spot -/
theorem sc_is_spot : FnScope ["evidence", "value", "name", "index"] ["evidence", "value"] (defScope (top 23)) := ⟨rfl, rfl, rfl, by decide +kernel, rfl, by decide +kernel, by decide +kernel⟩
abbrev EX := List Str × List Shelf × Nat
def Spot (E : List Shelf) (x : Str) (i : Int) : Prop := ∃ bs, getE E x = some bs ∧ 0 ≤ i ∧ i < bs.length
abbrev cSpot (W : Wd) : Sp := Con W.K W.cl 2 (fun x : EX × Str × Int => [dEv x.1.1 x.1.2.1, .tup [.str x.2.1, .int x.2.2]]) (fun x => okE x.1.2.2 x.1.2.1 ∧ PyData.strOk x.2.1 = true) (fun x d => Vb (Spot x.1.2.1 x.2.1 x.2.2) d)
theorem ok_is_spot {W : Wd} {f : Addr} {fd : FuncData} (F : FnP W "is_spot" "is_spot" (top 23) f fd) (B : Bn W) (C : CF W) (V : EvF W) : FnOk W.P W.w W.K W.mg W.base CX0 4 f fd ["evidence", "value"] (cSpot W) := by
  refine fn_con F sc_is_spot rfl fun cdv A outer s H E hr x _ hp => ?_
  have nd := sc_is_spot.nd
  obtain ⟨⟨ns, E', n⟩, x, i⟩ := x
  obtain ⟨hE, hx⟩ := hp
  dsimp only at hE hx
  dsimp only
  refine sq (ds_if (φ := False) (Tt.iff (dt_w (dw_or (dt_not (tv (blV (isi B (v 1) (T := "tuple") (t := "tuple") (r := true) (by decide +kernel) B.tuple (by decide +kernel))))) fun _ => dw_or1 (dt_ciE ci_ne (len_ B (v 1) (.t _)) ki))) (by simp)) (fun z => z.elim) (fun _ => dss_nil ?_))
  refine sq (asg (v 1) (gt (gc 2 (gc 3 (dgs_nil ?_)))))
  refine sq (ds_if (φ := ¬ (x ∈ E'.map (·.1))) (Tt.iff (dt_w (dw_or (dt_not (tv (blV (isi B (v 2) (T := "str") (t := "str") (r := true) (by decide +kernel) B.str (by decide +kernel))))) fun _ => dw_or (notInOwn (c := .ev) (ds := [dCat ns, .lst (E'.map dShelf)]) ((ns, E'), x) V.cont (fun _ => hr) (v 2) (v 0) rfl ⟨okE_str hE, hx⟩ (fun d h => h)) fun _ => dw_or1 (dt_not (tv (blV (DE.mono (call i V.isInt (fun _ => hr) (ac (v 3) an) trivial) fun d h => h)))))) (by simp)) (fun hb => ?_) (fun hb => dss_nil ?_))
  · exact dss_one (ret kb fun d h => ⟨false, h, (fun z => nomatch z), fun ⟨bs, z, _⟩ => absurd (getE_mem.mpr ⟨bs, z⟩) hb⟩)
  · have hm := Classical.byContradiction hb
    obtain ⟨bs, hbs⟩ := getE_mem.mp hm
    refine dss_one (ret (chainV (j := i) (k := (bs.length : Int)) ci_le ci_lt ki (v 3) (DE.mono (len_ B (DE.mono (ixOwn (c := .ev) (ds := [dCat ns, .lst (E'.map dShelf)]) ((ns, E'), x) V.get C.evF (fun _ => hr) (v 0) (v 2) rfl ⟨okE_str hE, hx, hm⟩) (fun d h => ?_)) (.t (bs.map tint))) fun d h => ?_)) fun d ⟨b, h, hb⟩ => ⟨b, h, hb.trans ?_⟩)
    · obtain ⟨bs', h1, h2⟩ := h
      have e : getE E' x = some bs' := h1
      rw [hbs] at e
      obtain rfl := Option.some.inj e
      exact h2
    · rw [h, List.length_map]
    · exact ⟨fun z => ⟨bs, hbs, z.1, z.2⟩, fun ⟨bs', z1, z2, z3⟩ => by
        have e : getE E' x = some bs' := z1
        rw [hbs] at e
        obtain rfl := Option.some.inj e
        exact ⟨z2, z3⟩⟩

/-! ### is_place -/
def PlX (E : List Shelf) (p : Place) (x y : Book) : Prop := ∃ bs, getE E p.1 = some bs ∧ 0 ≤ p.2.1 ∧ 0 ≤ p.2.2 ∧ p.2.1 < p.2.2 ∧ bs[p.2.1.toNat]? = some x ∧ bs[p.2.2.toNat]? = some y
def Pl (E : List Shelf) (p : Place) : Prop := Spot E p.1 p.2.1 ∧ Spot E p.1 p.2.2 ∧ p.2.1 < p.2.2
theorem pl_iff {E : List Shelf} {p : Place} : Pl E p ↔ ∃ x y, PlX E p x y := by
  constructor
  · rintro ⟨⟨bs, h1, h2, h3⟩, ⟨bs', h4, h5, h6⟩, h7⟩
    rw [h1] at h4
    obtain rfl := Option.some.inj h4
    exact ⟨bs[p.2.1.toNat]'(by omega), bs[p.2.2.toNat]'(by omega), bs, h1, h2, h5, h7, List.getElem?_eq_getElem _, List.getElem?_eq_getElem _⟩
  · rintro ⟨x, y, bs, h1, h2, h3, h4, h5, h6⟩
    have l1 := (List.getElem?_eq_some_iff.mp h5).1
    have l2 := (List.getElem?_eq_some_iff.mp h6).1
    exact ⟨⟨bs, h1, h2, by omega⟩, ⟨bs, h1, h3, by omega⟩, h4⟩
theorem plX_inj {E : List Shelf} {p : Place} {x y x' y' : Book} (h : PlX E p x y) (h' : PlX E p x' y') : x = x' ∧ y = y' := by
  obtain ⟨bs, h1, _, _, _, h5, h6⟩ := h
  obtain ⟨bs', g1, _, _, _, g5, g6⟩ := h'
  rw [h1] at g1
  obtain rfl := Option.some.inj g1
  rw [h5] at g5
  rw [h6] at g6
  exact ⟨Option.some.inj g5, Option.some.inj g6⟩
theorem sc_is_place : FnScope ["evidence", "value", "name", "i", "j"] ["evidence", "value"] (defScope (top 25)) := ⟨rfl, rfl, rfl, by decide +kernel, rfl, by decide +kernel, by decide +kernel⟩
abbrev cPlace (W : Wd) : Sp := Con W.K W.cl 2 (fun x : EX × Place => [dEv x.1.1 x.1.2.1, dPlace x.2]) (fun x => okE x.1.2.2 x.1.2.1 ∧ okP x.2) (fun x d => Vb (Pl x.1.2.1 x.2) d)
theorem ok_is_place {W : Wd} {f : Addr} {fd : FuncData} (F : FnP W "is_place" "is_place" (top 25) f fd) (B : Bn W) (Fs : GFn W "is_spot" 4 (cSpot W)) : FnOk W.P W.w W.K W.mg W.base CX0 5 f fd ["evidence", "value"] (cPlace W) := by
  refine fn_con F sc_is_place rfl fun cdv A outer s H E hr x _ hp => ?_
  have nd := sc_is_place.nd
  obtain ⟨⟨ns, E', n⟩, x, i, j⟩ := x
  obtain ⟨hE, hx⟩ := hp
  dsimp only at hE hx
  dsimp only
  refine sq (ds_if (φ := False) (Tt.iff (dt_w (dw_or (dt_not (tv (blV (isi B (v 1) (T := "tuple") (t := "tuple") (r := true) (by decide +kernel) B.tuple (by decide +kernel))))) fun _ => dw_or1 (dt_ciE ci_ne (len_ B (v 1) (.t _)) ki))) (by simp)) (fun z => z.elim) (fun _ => dss_nil ?_))
  refine sq (asg (v 1) (gt (gc 2 (gc 3 (gc 4 (dgs_nil ?_))))))
  refine sq (ds_if (φ := ¬ Spot E' x i ∨ ¬ Spot E' x j) (dt_w (dw_or (dt_not (tv (call ((ns, E', n), x, i) Fs (fun _ => hr) (ac (v 0) (ac (tupE (ac (v 2) (ac (v 3) an))) an)) ⟨hE, hx⟩))) fun _ => dw_or1 (dt_not (tv (call ((ns, E', n), x, j) Fs (fun _ => hr) (ac (v 0) (ac (tupE (ac (v 2) (ac (v 4) an))) an)) ⟨hE, hx⟩))))) (fun hb => ?_) (fun hb => dss_nil ?_))
  · exact dss_one (ret kb fun d h => ⟨false, h, (fun z => nomatch z), fun z => hb.elim (fun w => absurd z.1 w) fun w => absurd z.2.1 w⟩)
  · have h1 : Spot E' x i := Classical.byContradiction fun z => hb (.inl z)
    have h2 : Spot E' x j := Classical.byContradiction fun z => hb (.inr z)
    exact dss_one (ret (ciV ci_lt (v 3) (v 4)) fun d ⟨b, h, hb⟩ => ⟨b, h, hb.trans ⟨fun z => ⟨h1, h2, z⟩, fun z => z.2.2⟩⟩)

/-! ### Evidence.pair, Evidence.step -/
theorem sc_pair : FnScope ["self", "place", "name", "i", "j", "books"] ["self", "place"] (defScope (cls 26 11)) := ⟨rfl, rfl, rfl, by decide +kernel, rfl, by decide +kernel, by decide +kernel⟩
abbrev cPair (W : Wd) : Sp := Con W.K W.cl 2 (fun x : EX × Place × Book × Book => [dEv x.1.1 x.1.2.1, dPlace x.2.1]) (fun x => okE x.1.2.2 x.1.2.1 ∧ okP x.2.1 ∧ PlX x.1.2.1 x.2.1 x.2.2.1 x.2.2.2) (fun x d => d = .tup [tint x.2.2.1, tint x.2.2.2])
theorem ok_pair {W : Wd} {f : Addr} {fd : FuncData} (F : FnP W "pair" "Evidence.pair" (cls 26 11) f fd) (B : Bn W) (C : CF W) (V : EvF W) (Fp : GFn W "is_place" 5 (cPlace W)) : FnOk W.P W.w W.K W.mg W.base CX0 6 f fd ["self", "place"] (cPair W) := by
  refine fn_con F sc_pair rfl fun cdv A outer s H E hr x _ hp => ?_
  have nd := sc_pair.nd
  obtain ⟨⟨ns, E', n⟩, ⟨x, i, j⟩, a, b⟩ := x
  obtain ⟨hE, hx, hpl⟩ := hp
  dsimp only at hE hx hpl
  dsimp only
  refine sq (ds_if (dt_not (tv (call ((ns, E', n), x, i, j) Fp (fun _ => hr) (ac (v 0) (ac (v 1) an)) ⟨hE, hx⟩))) (fun z => absurd (pl_iff.mpr ⟨a, b, hpl⟩) z) (fun _ => dss_nil ?_))
  refine sq (asg (v 1) (gt (gc 2 (gc 3 (gc 4 (dgs_nil ?_))))))
  obtain ⟨bs, h1, h2, h3, h4, h5, h6⟩ := hpl
  refine sq (set 5 (P := Is (.tup (bs.map tint))) (DE.mono (ixOwn (c := .ev) (ds := [dCat ns, .lst (E'.map dShelf)]) ((ns, E'), x) V.get C.evF (fun _ => hr) (v 0) (v 2) rfl ⟨okE_str hE, hx, getE_mem.mpr ⟨bs, h1⟩⟩) (fun d h => ?_)) (fun d h => ?_))
  · obtain ⟨bs', g1, g2⟩ := h
    have e : getE E' x = some bs' := g1
    rw [show getE E' x = some bs from h1] at e
    obtain rfl := Option.some.inj e
    exact g2
  · subst h
    exact dss_one (ret (tupE (ac (ix (v 5) (v 3) (.t _) (at_map' tint h2 h5)) (ac (ix (v 5) (v 4) (.t _) (at_map' tint h3 h6)) an))) fun d h => h)
theorem sc_estep : FnScope ["self", "place", "earlier", "later"] ["self", "place"] (defScope (cls 26 12)) := ⟨rfl, rfl, rfl, by decide +kernel, rfl, by decide +kernel, by decide +kernel⟩
abbrev cEstep (W : Wd) : Sp := Con W.K W.cl 2 (fun x : EX × Place × Book × Book => [dEv x.1.1 x.1.2.1, dPlace x.2.1]) (fun x => okE x.1.2.2 x.1.2.1 ∧ okP x.2.1 ∧ PlX x.1.2.1 x.2.1 x.2.2.1 x.2.2.2 ∧ x.2.2.1.length = x.2.2.2.length ∧ x.2.2.1.length ≤ 100) (fun x d => d = tint (stp x.2.2.1 x.2.2.2))
theorem ok_estep {W : Wd} {f : Addr} {fd : FuncData} (F : FnP W "step" "Evidence.step" (cls 26 12) f fd) (B : Bn W) (Fp : MFn W .ev "pair" 6 (cPair W)) (Fs : GFn W "step_between" 1 (cStep W)) : FnOk W.P W.w W.K W.mg W.base CX0 7 f fd ["self", "place"] (cEstep W) := by
  refine fn_con F sc_estep rfl fun cdv A outer s H E hr x _ hp => ?_
  have nd := sc_estep.nd
  obtain ⟨⟨ns, E', n⟩, p, a, b⟩ := x
  obtain ⟨hE, hx, hpl, hl, hl2⟩ := hp
  dsimp only at hE hx hpl hl hl2
  dsimp only
  refine sq (asg (meth (c := .ev) (d0 := [dCat ns, .lst (E'.map dShelf)]) (ds := [dPlace p]) ((ns, E', n), p, a, b) Fp (fun _ => hr) (v 0) (ac (v 1) an) ⟨hE, hx, hpl⟩) (gt (gc 2 (gc 3 (dgs_nil ?_)))))
  exact dss_one (ret (call (a, b) Fs (fun _ => hr) (ac (v 2) (ac (v 3) an)) ⟨hl, hl2⟩) fun d h => h)

/-! ### are_marks -/
theorem sc_are_marks : FnScope ["marks", "count", "at", "mark"] ["marks", "count"] (defScope (top 28)) := ⟨rfl, rfl, rfl, by decide +kernel, rfl, by decide +kernel, by decide +kernel⟩
abbrev cMarks (W : Wd) : Sp := Con W.K W.cl 2 (fun x : List Int × Nat => [tint x.1, .int x.2]) (fun x => x.1.length ≤ 100000) (fun x d => Vb (Asc x.2 x.1) d)
theorem ok_are_marks {W : Wd} {f : Addr} {fd : FuncData} (F : FnP W "are_marks" "are_marks" (top 28) f fd) (B : Bn W) : FnOk W.P W.w W.K W.mg W.base CX0 1 f fd ["marks", "count"] (cMarks W) := by
  refine fn_con F sc_are_marks rfl fun cdv A outer s H E hr x _ hp => ?_
  have nd := sc_are_marks.nd
  obtain ⟨ms, n⟩ := x
  dsimp only at hp
  dsimp only
  refine sq (for_ (sl := [2, 3]) (fun k γ' => ∃ g2 g3, γ' = [.v false (tint ms), .v false (.int n), g2, g3] ∧ ∀ j, j < k → Good n ms j) (iE B (v 0) rfl) ⟨_, _, rfl, by omega⟩ (fun k γ' d hk hI hd => ?_) (fun γ' hI => ?_))
  · obtain ⟨g2, g3, rfl, hg⟩ := hI
    obtain ⟨x, hx, rfl⟩ := hd
    obtain ⟨m, ek, rfl⟩ := get_map hx
    have hk : k < ms.length := (List.getElem?_eq_some_iff.mp ek).1
    have gd := asc_step (n := n) hk ek
    refine gt (gc 2 (gc 3 (dgs_nil ?_)))
    refine sq (ds_if (φ := ¬ (0 ≤ m ∧ m < (n : Int))) (Tt.iff (dt_not (chainT ci_le ci_lt ki (v 3) (v 1))) Iff.rfl) (fun hb => ?_) (fun hb => dss_nil ?_))
    · refine dss_one (ret kb fun d h => ⟨false, h, (fun z => nomatch z), fun z => absurd (z k hk m ek).1 hb⟩)
    · have hb := Classical.byContradiction hb
      refine dss_one (ds_if (φ := 0 < (k : Int) ∧ m ≤ ms.getD (k - 1) 0) (Tt.iff (dt_w (dw_and (dt_ciE ci_gt (v 2) ki) fun hk0 => dw_and1 (dt_ciE ci_ge (ixI (v 0) (subE (v 2) ki) (.t _) (d := .int (ms.getD (k - 1) 0)) ?_) (v 3)))) Iff.rfl) (fun hc => ?_) (fun hc => ?_))
      · have hk0 : 0 < (k : Int) := hk0
        have e0 : ((k : Int) - 1) = ((k - 1 : Nat) : Int) := by omega
        rw [e0]
        exact at_map D.int (by rw [List.getD_eq_getElem?_getD, List.getElem?_eq_getElem (by omega)]; rfl)
      · exact dss_one (ret kb fun d h => ⟨false, h, (fun z => nomatch z), fun z => absurd (.inr (.inr hc)) (gd.mp (z k hk))⟩)
      · refine dss_nil ⟨_, _, rfl, fun j hj => ?_⟩
        by_cases e : j = k
        · subst e
          refine gd.mpr ?_
          rintro (z | z | z)
          · exact z hb.1
          · have := hb.2; omega
          · exact hc z
        · exact hg j (by omega)
  · obtain ⟨g2, g3, rfl, hg⟩ := hI
    exact dss_one (ret kb fun d h => ⟨true, h, fun _ j hj => hg j (by rw [List.length_map]; exact hj), fun _ => rfl⟩)
end K51

namespace K51
open PySem PySem.Spec PyProof.Rows L2 DL
theorem plX_len {n : Nat} {E : List Shelf} {p : Place} {x y : Book} (h : okE n E) (hp : PlX E p x y) : x.length = n ∧ y.length = n := by
  obtain ⟨bs, h1, _, _, _, h5, h6⟩ := hp
  have := (okE_get h h1).2
  exact ⟨(this x (List.mem_of_getElem? h5)).1, (this y (List.mem_of_getElem? h6)).1⟩
/-! ### agrees -/
def Agr (E : List Shelf) (p : Place) (ins : List Int) : Prop := ∃ x y, PlX E p x y ∧ Zer x y ins
theorem sc_agrees : FnScope ["evidence", "place", "inside", "spots", "name", "i", "j", "step", "mark"] ["evidence", "place", "inside", "spots"] (defScope (top 29)) := ⟨rfl, rfl, rfl, by decide +kernel, rfl, by decide +kernel, by decide +kernel⟩
abbrev cAgrees (W : Wd) : Sp := Con W.K W.cl 4 (fun x : EX × Place × List Int => [dEv x.1.1 x.1.2.1, dPlace x.2.1, tint x.2.2, .tup []]) (fun x => okE x.1.2.2 x.1.2.1 ∧ okP x.2.1 ∧ (∀ m ∈ x.2.2, mk_ x.1.2.2 m) ∧ x.2.2.length ≤ 100000 ∧ x.1.2.2 ≤ 100) (fun x d => Vb (Agr x.1.2.1 x.2.1 x.2.2) d)
theorem ok_agrees {W : Wd} {f : Addr} {fd : FuncData} (F : FnP W "agrees" "agrees" (top 29) f fd) (B : Bn W) (Fp : GFn W "is_place" 5 (cPlace W)) (Fs : MFn W .ev "step" 7 (cEstep W)) : FnOk W.P W.w W.K W.mg W.base CX0 8 f fd ["evidence", "place", "inside", "spots"] (cAgrees W) := by
  refine fn_con F sc_agrees rfl fun cdv A outer s H E hr x _ hp => ?_
  have nd := sc_agrees.nd
  obtain ⟨⟨ns, E', n⟩, ⟨x, i, j⟩, ins⟩ := x
  obtain ⟨hE, hx, hm, hl, hn⟩ := hp
  dsimp only at hE hx hm hl hn
  have hx' : PyData.strOk x = true := hx
  dsimp only
  refine sq (ds_if (dt_not (tv (call ((ns, E', n), x, i, j) Fp (fun _ => hr) (ac (v 0) (ac (v 1) an)) ⟨hE, hx⟩))) (fun hb => ?_) (fun hb => dss_nil ?_))
  · exact dss_one (ret kb fun d h => ⟨false, h, (fun z => nomatch z), fun ⟨a, b, z, _⟩ => absurd (pl_iff.mpr ⟨a, b, z⟩) hb⟩)
  obtain ⟨a, b, hpl⟩ := pl_iff.mp (Classical.byContradiction hb)
  obtain ⟨la, lb⟩ := plX_len hE hpl
  have lz := stp_len la lb
  refine sq (asg (v 1) (gt (gc 4 (gc 5 (gc 6 (dgs_nil ?_))))))
  refine sq (ds_if (φ := False) (Tt.iff (dt_w (dw_or (inD (n := 2) (m := 0) (fun _ => hr) (tupE (ac (v 4) (ac (v 5) an))) (v 3) (.t _) (by simp [D.cm, D.cmA, hx']) (by simp [D.cmA])) fun _ => dw_or1 (inD (n := 2) (m := 0) (fun _ => hr) (tupE (ac (v 4) (ac (v 6) an))) (v 3) (.t _) (by simp [D.cm, D.cmA, hx']) (by simp [D.cmA])))) (by simp)) (fun z => z.elim) (fun _ => dss_nil ?_))
  refine sq (set 7 (meth (c := .ev) (d0 := [dCat ns, .lst (E'.map dShelf)]) (ds := [dPlace (x, i, j)]) ((ns, E', n), (x, i, j), a, b) Fs (fun _ => hr) (v 0) (ac (v 1) an) ⟨hE, hx, hpl, by rw [la, lb], by dsimp only; omega⟩) (fun d h => ?_))
  subst h
  refine dss_one (ret (eqNilV (n := 0) (fun _ => hr) (filt [("mark", 8)] [8] D.int D.int ins (fun u => decide ((stp a b).getD u.toNat 0 ≠ 0)) (iT (v 2) rfl) hl (fun u hu => ?_) hom_ints) de_nil (cmA_ints _ _)) (fun d ⟨b', h, hb2⟩ => ⟨b', h, hb2.trans ?_⟩))
  · exact gn 8 ⟨dts_one (Tt.iff (dt_ciE ci_ne (ixI (vi 7 (hi := imm_tint _)) (v 8) (.t _) (at_map' D.int (hm u hu).1 (get_at lz (hm u hu)))) ki) (by simp)), fun _ => el (vi 8)⟩
  · rw [nil_iff, filt_nil]
    exact ⟨fun z => ⟨a, b, hpl, z⟩, fun ⟨a', b', q1, q2⟩ => by obtain ⟨rfl, rfl⟩ := plX_inj hpl q1; exact q2⟩

/-! ### closes -/
def BlkGoodE (E : List Shelf) (ins : List Int) (b : Block) : Prop := ∃ x y, PlX E b.2 x y ∧ Zer x y ins ∧ (stp x y).getD b.1.1.toNat 0 = -b.1.2
def Closes (n : Nat) (E : List Shelf) (ins : List Int) (exs : List Term) (bls : List Block) (am : List Int) : Prop :=
  exs = (outs n am ins).filter (fun t => decide (t ∈ exs)) ∧ bls.map (·.1) = (outs n am ins).filter (fun t => decide (t ∉ exs)) ∧ ∀ b ∈ bls, BlkGoodE E ins b
abbrev GX := List Int × List Term × List Block × List Int × Place
theorem cm_dTerms' (ts : List Term) : (tTerms ts).cm 2 = true := cm_tTerms ts
theorem imm_ints' (ns : List Int) : D.immA (ns.map D.int) = true := immA_ints ns
theorem sc_closes : FnScope ["evidence", "paper", "among", "spots", "count", "outside", "term", "place", "mark", "direction"] ["evidence", "paper", "among", "spots"] (defScope (top 30)) := ⟨rfl, rfl, rfl, by decide +kernel, rfl, by decide +kernel, by decide +kernel⟩
abbrev okGX (x : EX × GX) : Prop := okE x.1.2.2 x.1.2.1 ∧ x.1.1.length = x.1.2.2 ∧ x.1.2.2 ≤ 100 ∧ x.2.1.length ≤ 10000 ∧ x.2.2.2.1.length ≤ 10000 ∧ x.2.2.2.2.1.length ≤ 10000 ∧ okP x.2.2.2.2.2 ∧ ∀ b ∈ x.2.2.2.1, okP b.2
abbrev cCloses (W : Wd) : Sp := Con W.K W.cl 4 (fun x : EX × GX => [dEv x.1.1 x.1.2.1, dGate x.2.1 x.2.2.1 x.2.2.2.1 x.2.2.2.2.1 x.2.2.2.2.2, tint x.2.2.2.2.1, .tup []]) (fun x => okGX x ∧ Asc x.1.2.2 x.2.1) (fun x d => Vb (Closes x.1.2.2 x.1.2.1 x.2.1 x.2.2.1 x.2.2.2.1 x.2.2.2.2.1) d)
theorem ok_closes {W : Wd} {f : Addr} {fd : FuncData} (F : FnP W "closes" "closes" (top 30) f fd) (B : Bn W) (C : CF W) (Fl : MFn W .cat "__len__" 1 (cClen W)) (Ft : GFn W "all_terms" 1 (cTerms W)) (Fa : GFn W "agrees" 8 (cAgrees W)) (Fs : MFn W .ev "step" 7 (cEstep W)) :
    FnOk W.P W.w W.K W.mg W.base CX0 9 f fd ["evidence", "paper", "among", "spots"] (cCloses W) := by
  refine fn_con F sc_closes rfl fun cdv A outer s H E hr x _ hp => ?_
  have nd := sc_closes.nd
  obtain ⟨⟨ns, E', n⟩, ins, exs, bls, am, p⟩ := x
  obtain ⟨⟨hE, hns, hn, hl1, hl2, hl3, hP, hPb⟩, hA⟩ := hp
  dsimp only at hE hns hn hl1 hl2 hl3 hP hPb hA
  have hmk := hA.mk
  dsimp only
  have lenO : (outs n am ins).length ≤ 200 := Nat.le_trans (List.length_filter_le _ _) (by rw [allT_len]; omega)
  refine sq (set 4 (lenOwn (c := .cat) (ds := [.tup (ns.map D.str)]) (n := n) ns B Fl (fun _ => hr) (fld 0 (v 0) C.ev C.evC (d := dCat ns) rfl rfl) rfl trivial (fun d h => by rw [h, hns]) (by omega)) (fun d h => ?_))
  subst h
  refine sq (setF 5 [("term", 6)] [6] dTerm dTerm (allT n) (fun t => decide (t.1 ∈ am ∧ t.1 ∉ ins)) (iL (call n Ft (fun _ => hr) (ac (v 4) an) hn) rfl) (by rw [allT_len]; omega) (fun t hm => ?_) hom_terms ?_)
  · exact gn 6 ⟨dts_one (Tt.iff (dt_w (dw_and (inD (n := 1) (m := 1) (fun _ => hr) (ixI (v 6) ki (.t _) rfl) (v 2) (.t _) (by simp [D.cm]) (cmA_ints _ _)) fun _ => dw_and1 (notInD (n := 1) (m := 1) (fun _ => hr) (ixI (v 6) ki (.t _) rfl) (fld 0 (v 1) C.gate C.gI (d := tint ins) rfl rfl) (.t _) (by simp [D.cm]) (cmA_ints _ _)))) (by rw [decide_eq_true_eq, mem_map_iff int_inj, mem_map_iff int_inj])), fun _ => el (vi 6)⟩
  · change DSs _ _ _ _ (List.set _ 5 (G.v true (D.lst ((outs n am ins).map dTerm)))) _
    refine sq (ds_if (φ := exs ≠ (outs n am ins).filter (fun t => decide (t ∈ exs))) (Tt.iff (neD (n := 2) (m := 2) (fun _ => hr) (list_ B (fld 1 (v 1) C.gate C.gE (d := tTerms exs) rfl rfl) (.t _) (hom_terms _)) (filt [("term", 6)] [6] dTerm dTerm (outs n am ins) (fun t => decide (t ∈ exs)) (iL (v 5) rfl) (by omega) (fun t hm => ?_) hom_terms) (cm_dTerms _) (cm_dTerms _)) ?_) (fun hb => ?_) (fun hb => dss_nil ?_))
    · exact gn 6 ⟨dts_one (Tt.iff (inD (n := 1) (m := 1) (fun _ => hr) (v 6) (fld 1 (v 1) C.gate C.gE (d := tTerms exs) rfl rfl) (.t _) (cm_dTerm _) (cmA_map _ cm_dTerm _)) (by rw [decide_eq_true_eq, mem_map_iff (fun _ _ => dTerm_inj)])), fun _ => el (vi 6)⟩
    · exact ⟨fun z e => z (congrArg dTerms e), fun z e => z (dTerms_inj e)⟩
    · exact dss_one (ret kb fun d h => ⟨false, h, (fun z => nomatch z), fun z => absurd z.1 hb⟩)
    · have hEx : exs = (outs n am ins).filter (fun t => decide (t ∈ exs)) := Classical.byContradiction hb
      refine sq (ds_if (φ := bls.map (·.1) ≠ (outs n am ins).filter (fun t => decide (t ∉ exs))) (Tt.iff (neD (n := 2) (m := 2) (fun _ => hr) (filt [("term", 6), ("place", 7)] [6, 7] dBlock (fun b => dTerm b.1) bls (fun _ => true) (iT (fld 2 (v 1) C.gate C.gB (d := .tup (bls.map dBlock)) rfl rfl) rfl) (by omega) (fun b hm => ?_) (hom_map _ (fun _ => rfl))) (filt [("term", 6)] [6] dTerm dTerm (outs n am ins) (fun t => decide (t ∉ exs)) (iL (v 5) rfl) (by omega) (fun t hm => ?_) hom_terms) ?_ (cm_dTerms _)) ?_) (fun hb => ?_) (fun hb => dss_nil ?_))
      · exact gt (gc 6 (gc 7 (dgs_nil ⟨dts_t, fun _ => el (vi 6 (d := dTerm b.1))⟩)))
      · exact gn 6 ⟨dts_one (Tt.iff (notInD (n := 1) (m := 1) (fun _ => hr) (v 6) (fld 1 (v 1) C.gate C.gE (d := tTerms exs) rfl rfl) (.t _) (cm_dTerm _) (cmA_map _ cm_dTerm _)) (by rw [decide_eq_true_eq, mem_map_iff (fun _ _ => dTerm_inj)])), fun _ => el (vi 6)⟩
      · simp [D.cm]; exact cmA_map (fun b : Block => dTerm b.1) (fun b => cm_dTerm b.1) _
      · have e0 : D.lst ((bls.filter fun _ => true).map fun b => dTerm b.1) = dTerms (bls.map (·.1)) := by rw [filt_t]; unfold dTerms; rw [List.map_map]; rfl
        rw [e0]
        exact ⟨fun z e => z (congrArg dTerms e), fun z e => z (dTerms_inj e)⟩
      · exact dss_one (ret kb fun d h => ⟨false, h, (fun z => nomatch z), fun z => absurd z.2.1 hb⟩)
      · have hB : bls.map (·.1) = (outs n am ins).filter (fun t => decide (t ∉ exs)) := Classical.byContradiction hb
        have hvt : ∀ b ∈ bls, mk_ n b.1.1 := fun b hm => by
          have h1 : b.1 ∈ bls.map (·.1) := List.mem_map.mpr ⟨b, hm, rfl⟩
          rw [hB] at h1
          have h2 := mem_allT.mp (List.mem_filter.mp (List.mem_filter.mp h1).1).1
          exact ⟨h2.1, h2.2.1⟩
        refine sq (for_ (sl := [6, 7]) (fun i γ' => ∃ g6 g7 g8 g9, γ' = [.v false (dEv ns E'), .v false (dGate ins exs bls am p), .v false (tint am), .v false (.tup []), .v true (.int n), .v true (D.lst ((outs n am ins).map dTerm)), g6, g7, g8, g9] ∧ ∀ b ∈ bls.take i, BlkGoodE E' ins b) (iT (fld 2 (v 1) C.gate C.gB (d := .tup (bls.map dBlock)) rfl rfl) rfl) ⟨_, _, _, _, rfl, by simp⟩ (fun i γ' d hi hI hd => ?_) (fun γ' hI => ?_))
        · obtain ⟨g6, g7, g8, g9, rfl, hbs⟩ := hI
          obtain ⟨b, eb, rfl⟩ := get_map hd
          have hbm := List.mem_of_getElem? eb
          have hmk1 := hvt b hbm
          obtain ⟨t, q⟩ := b
          have hPq := hPb (t, q) hbm
          refine gt (gc 6 (gc 7 (dgs_nil ?_)))
          refine sq (ds_if (dt_not (tv (call ((ns, E', n), q, ins) Fa (fun _ => hr) (ac (v 0) (ac (v 7) (ac (fld 0 (v 1) C.gate C.gI (d := tint ins) rfl rfl) (ac (v 3) an)))) ⟨hE, hPq, hmk, by dsimp only; omega, hn⟩))) (fun hb => ?_) (fun hb => dss_nil ?_))
          · exact dss_one (ret kb fun d h => ⟨false, h, (fun z => nomatch z), fun z => by
              obtain ⟨x, y, q1, q2, _⟩ := z.2.2 (t, q) hbm
              exact absurd ⟨x, y, q1, q2⟩ hb⟩)
          · obtain ⟨x, y, hpl, hz⟩ := Classical.byContradiction hb
            obtain ⟨lx, ly⟩ := plX_len hE hpl
            have lz := stp_len lx ly
            refine sq (asg (vi 6 (d := dTerm t)) (gt (gc 8 (gc 9 (dgs_nil ?_)))))
            refine dss_one (ds_if (φ := ¬ (stp x y).getD t.1.toNat 0 = -t.2) (Tt.iff (dt_ciE ci_ne (ixI (meth (c := .ev) (d0 := [dCat ns, .lst (E'.map dShelf)]) (ds := [dPlace q]) ((ns, E', n), q, x, y) Fs (fun _ => hr) (v 0) (ac (v 7) an) ⟨hE, hPq, hpl, by rw [lx, ly], by dsimp only; omega⟩) (v 8) (.t _) (at_map' D.int hmk1.1 (get_at lz hmk1))) (negE (v 9))) Iff.rfl) (fun hb => ?_) (fun hb => ?_))
            · refine dss_one (ret kb fun d h => ⟨false, h, (fun z => nomatch z), fun z => absurd ?_ hb⟩)
              obtain ⟨x', y', q1, q2, q3⟩ := z.2.2 (t, q) hbm
              obtain ⟨rfl, rfl⟩ := plX_inj hpl q1
              exact q3
            · refine dss_nil ⟨_, _, _, _, rfl, fun b' hb2 => ?_⟩
              rw [List.take_add_one, eb] at hb2
              rcases List.mem_append.mp hb2 with z | z
              · exact hbs b' z
              · have : b' = (t, q) := by simpa using z
                rw [this]
                exact ⟨x, y, hpl, hz, Classical.byContradiction hb⟩
        · obtain ⟨g6, g7, g8, g9, rfl, hbs⟩ := hI
          rw [List.length_map, List.take_length] at hbs
          exact dss_one (ret kb fun d h => ⟨true, h, fun _ => ⟨hEx, hB, hbs⟩, fun _ => rfl⟩)

/-! ### judge_gate -/
def Judge (n : Nat) (E : List Shelf) (ins : List Int) (exs : List Term) (bls : List Block) (am : List Int) (p : Place) : Prop :=
  Asc n am ∧ Asc n ins ∧ (∀ m ∈ ins, m ∈ am) ∧ (∃ x y, PlX E p x y ∧ Zer x y ins ∧ x ≠ y) ∧ Closes n E ins exs bls am
theorem sc_judge_gate : FnScope ["evidence", "gate", "count", "earlier", "later", "mark"] ["evidence", "gate"] (defScope (top 31)) := ⟨rfl, rfl, rfl, by decide +kernel, rfl, by decide +kernel, by decide +kernel⟩
abbrev cJudge (W : Wd) : Sp := Con W.K W.cl 2 (fun x : EX × GX => [dEv x.1.1 x.1.2.1, dGate x.2.1 x.2.2.1 x.2.2.2.1 x.2.2.2.2.1 x.2.2.2.2.2]) okGX (fun x d => Vb (Judge x.1.2.2 x.1.2.1 x.2.1 x.2.2.1 x.2.2.2.1 x.2.2.2.2.1 x.2.2.2.2.2) d)
theorem ok_judge_gate {W : Wd} {f : Addr} {fd : FuncData} (F : FnP W "judge_gate" "judge_gate" (top 31) f fd) (B : Bn W) (C : CF W) (Fl : MFn W .cat "__len__" 1 (cClen W)) (Fm : GFn W "are_marks" 1 (cMarks W)) (Fa : GFn W "agrees" 8 (cAgrees W)) (Fp : MFn W .ev "pair" 6 (cPair W)) (Fc : GFn W "closes" 9 (cCloses W)) :
    FnOk W.P W.w W.K W.mg W.base CX0 10 f fd ["evidence", "gate"] (cJudge W) := by
  refine fn_con F sc_judge_gate rfl fun cdv A outer s H E hr x _ hp => ?_
  have nd := sc_judge_gate.nd
  obtain ⟨⟨ns, E', n⟩, ins, exs, bls, am, p⟩ := x
  have hp0 := hp
  obtain ⟨hE, hns, hn, hl1, hl2, hl3, hP, hPb⟩ := hp
  dsimp only at hE hns hn hl1 hl2 hl3 hP hPb
  dsimp only
  refine sq (set 2 (lenOwn (c := .cat) (ds := [.tup (ns.map D.str)]) (n := n) ns B Fl (fun _ => hr) (fld 0 (v 0) C.ev C.evC (d := dCat ns) rfl rfl) rfl trivial (fun d h => by rw [h, hns]) (by omega)) (fun d h => ?_))
  subst h
  refine sq (ds_if (φ := ¬ Asc n am ∨ ¬ Asc n ins) (dt_w (dw_or (dt_not (tv (call (am, n) Fm (fun _ => hr) (ac (fld 3 (v 1) C.gate C.gA (d := tint am) rfl rfl) (ac (v 2) an)) (by dsimp only; omega)))) fun _ => dw_or1 (dt_not (tv (call (ins, n) Fm (fun _ => hr) (ac (fld 0 (v 1) C.gate C.gI (d := tint ins) rfl rfl) (ac (v 2) an)) (by dsimp only; omega)))))) (fun hb => ?_) (fun hb => dss_nil ?_))
  · exact dss_one (ret kb fun d h => ⟨false, h, (fun z => nomatch z), fun z => hb.elim (fun w => absurd z.1 w) fun w => absurd z.2.1 w⟩)
  have hA1 : Asc n am := Classical.byContradiction fun z => hb (.inl z)
  have hA2 : Asc n ins := Classical.byContradiction fun z => hb (.inr z)
  refine sq (ds_if (φ := ¬ ∀ m ∈ ins, m ∈ am) (Tt.iff (neNil (n := 1) (fun _ => hr) (filt [("mark", 5)] [5] D.int D.int ins (fun m => decide (m ∉ am)) (iT (fld 0 (v 1) C.gate C.gI (d := tint ins) rfl rfl) rfl) (by omega) (fun u hm => ?_) hom_ints) de_nil (cmA_ints _ _)) ?_) (fun hb => ?_) (fun hb => dss_nil ?_))
  · exact gn 5 ⟨dts_one (Tt.iff (notInD (n := 1) (m := 1) (fun _ => hr) (v 5) (fld 3 (v 1) C.gate C.gA (d := tint am) rfl rfl) (.t _) (by simp [D.cm]) (cmA_ints _ _)) (by rw [decide_eq_true_eq, mem_map_iff int_inj])), fun _ => el (vi 5)⟩
  · rw [ne_eq, nil_iff, List.filter_eq_nil_iff]; simp
  · exact dss_one (ret kb fun d h => ⟨false, h, (fun z => nomatch z), fun z => absurd z.2.2.1 hb⟩)
  have hsub := Classical.byContradiction hb
  refine sq (ds_if (dt_not (tv (call ((ns, E', n), p, ins) Fa (fun _ => hr) (ac (v 0) (ac (fld 4 (v 1) C.gate C.gP (d := dPlace p) rfl rfl) (ac (fld 0 (v 1) C.gate C.gI (d := tint ins) rfl rfl) (ac (tupE an) an)))) ⟨hE, hP, hA2.mk, by dsimp only; omega, hn⟩))) (fun hb => ?_) (fun hb => dss_nil ?_))
  · exact dss_one (ret kb fun d h => ⟨false, h, (fun z => nomatch z), fun z => by
      obtain ⟨x, y, q1, q2, _⟩ := z.2.2.2.1
      exact absurd ⟨x, y, q1, q2⟩ hb⟩)
  obtain ⟨x, y, hpl, hz⟩ := Classical.byContradiction hb
  refine sq (asg (meth (c := .ev) (d0 := [dCat ns, .lst (E'.map dShelf)]) (ds := [dPlace p]) ((ns, E', n), p, x, y) Fp (fun _ => hr) (v 0) (ac (fld 4 (v 1) C.gate C.gP (d := dPlace p) rfl rfl) an) ⟨hE, hP, hpl⟩) (gt (gc 3 (gc 4 (dgs_nil ?_)))))
  refine dss_one (ret (andV (φ := x ≠ y) (DE.mono (neDv (n := 1) (m := 1) (fun _ => hr) (v 3) (v 4) (cm_tint _) (cm_tint _)) fun d ⟨b, h, hb⟩ => ⟨b, h, hb.trans ⟨fun z e => z (by rw [e]), fun z e => z (tint_inj _ _ e)⟩⟩) fun _ => de_one (call ((ns, E', n), ins, exs, bls, am, p) Fc (fun _ => hr) (ac (v 0) (ac (v 1) (ac (fld 3 (v 1) C.gate C.gA (d := tint am) rfl rfl) (ac (tupE an) an)))) ⟨hp0, hA2⟩)) (fun d ⟨b, h, hb2⟩ => ⟨b, h, hb2.trans ?_⟩))
  constructor
  · exact fun ⟨z1, z2⟩ => ⟨hA1, hA2, hsub, ⟨x, y, hpl, hz, z1⟩, z2⟩
  · rintro ⟨_, _, _, ⟨x', y', q1, q2, q3⟩, z⟩
    obtain ⟨rfl, rfl⟩ := plX_inj hpl q1
    exact ⟨q3, z⟩
end K51

namespace K51
open PySem PySem.Spec PyProof.Rows L2 DL
/-! ### all_terms -/
theorem sc_all_terms : FnScope ["count", "mark", "direction"] ["count"] (defScope (top 19)) := ⟨rfl, rfl, rfl, by decide +kernel, rfl, by decide +kernel, by decide +kernel⟩
theorem ok_all_terms {W : Wd} {f : Addr} {fd : FuncData} (F : FnP W "all_terms" "all_terms" (top 19) f fd) (B : Bn W) : FnOk W.P W.w W.K W.mg W.base CX0 1 f fd ["count"] (cTerms W) := by
  refine fn_con F sc_all_terms rfl fun cdv A outer sh Hh E hr n _ hp => ?_
  have nd := sc_all_terms.nd
  have hn : n ≤ 100 := hp
  intro M H0 H σ EO' D q1 q2 q3 q4
  obtain ⟨v0, s0, r0⟩ := EO'.vl 0 false (.int n) rfl
  have ln : σ.length = 3 := EO'.ln
  cases r0
  have hd : ∀ p, M p → H p ≠ none := EO'.md
  have kp0 := EO'.kp
  clear q1 q2 q3 EO'
  match σ, ln, s0 with
  | [x0, x1, x2], _, s0 =>
  obtain rfl : x0 = some (.int n) := Option.some.inj s0
  refine ⟨_, fun i => pss_one (ps_ret (pe_lc2 (own := [("mark", 1), ("direction", 2)]) (vs1 := [2]) (g := gName 1) (tt := tYes) (wi1 := iTup W.K (tTup (tCons (tC (.int 1)) (tCons (tUn (rU fun i => V.int (-i)) (tC (.int 1))) tNil)))) (te := tTup (tCons (tVar 1) (tCons (tVar 2) tNil))) (g1 := gName 2) (tt1 := tYes) rfl nd
    (pi_range1 rfl B.range (pa_cons (pe_var (i := 0) rfl (Or.inl rfl) (by decide +kernel) (by decide +kernel)) pa_nil)) (blkOk_by rfl) (by decide)
    (fun _ _ _ _ _ => pg_name (i := 1) nd rfl (Or.inl rfl)) (fun _ _ _ _ _ => pts_nil) (fun _ _ _ _ _ => pi_tup (pe_tup (pa_cons pe_int (pa_cons (pe_un un_neg pe_int) pa_nil)))) (fun _ _ _ _ _ => pg_name (i := 2) nd rfl (Or.inl rfl)) (fun _ _ _ _ _ => pts_nil)
    (fun _ _ _ _ _ => pe_tup (pa_cons (pe_var (i := 1) rfl (Or.inl rfl) (by decide +kernel) (by decide +kernel)) (pa_cons (pe_var (i := 2) rfl (Or.inl rfl) (by decide +kernel) (by decide +kernel)) pa_nil))))), ?_⟩
  refine ⟨_, rfl, (n : Int), rfl, by omega, by omega, fun Dd hD => ?_⟩
  have kH : ∀ {H' : Hp}, Kp H H' → Kp H0 H' := fun k => kp0.trans k
  -- what is made after i marks and j directions
  let St : Nat → Nat → Hp → Prop := fun i j H' => ∃ acc, H' Dd = some (.lst acc) ∧ DtA W.K W.cl (fun p => p = Dd) H' acc ((allT i ++ [((i : Int), (1 : Int)), ((i : Int), -1)].take j).map dTerm) ∧ Kp H H'
  refine ⟨fun i m H' => m = n - i ∧ i ≤ n ∧ St i 0 H', ⟨n, by simp, Nat.zero_le _, [], upd_same, .nil, Kp.new hD⟩, ?_⟩
  rintro i m H1 ⟨rfl, hi, acc, e1, r1, k1⟩
  by_cases hlt : i < n
  · refine .inr ⟨hlt, St (i + 1) 0, fun H' p => ⟨n - (i + 1), by omega, rfl, by omega, p⟩, ?_⟩
    rintro x H1' ⟨rfl, rfl⟩
    refine ⟨rfl, ?_⟩
    dsimp only [tYes]
    rw [if_pos rfl]
    refine ⟨1, rfl, show 2 ≤ sizeLine by decide, fun a ha => ⟨a, rfl, ⟨_, SqT.of upd_same⟩, ?_⟩⟩
    have haD : a ≠ Dd := fun z => by rw [z, e1] at ha; cases ha
    refine ⟨fun j k H' => k = 2 - j ∧ j ≤ 2 ∧ St i j H' ∧ SqT W.K H' a [V.int 1, V.int (-1)], ⟨2, rfl, Nat.zero_le _, ⟨acc, by rw [upd_ne (Ne.symm haD)]; exact e1, r1.tr (.kp (Kp.new ha)), k1.trans (Kp.new ha)⟩, SqT.of upd_same⟩, ?_⟩
    rintro j k H2 ⟨rfl, hj, ⟨acc2, e2, r2, k2⟩, sq⟩
    by_cases hj2 : j < 2
    · refine .inr ⟨⟨_, _, sq, by rw [List.getElem?_eq_getElem (show j < 2 from hj2)]⟩, fun H' => St i (j + 1) H' ∧ SqT W.K H' a [V.int 1, V.int (-1)], fun H' p => ⟨2 - (j + 1), by omega, rfl, by omega, p⟩, ?_⟩
      rintro y H2' ⟨rfl, hy⟩
      have hy := hy _ sq
      obtain ⟨dr, rfl, hdr⟩ : ∃ dr : Int, y = .int dr ∧ [((i : Int), (1 : Int)), ((i : Int), -1)].take (j + 1) = [((i : Int), (1 : Int)), ((i : Int), -1)].take j ++ [((i : Int), dr)] := by
        have : j = 0 ∨ j = 1 := by omega
        rcases this with rfl | rfl
        · exact ⟨1, (Option.some.inj hy).symm, rfl⟩
        · exact ⟨-1, (Option.some.inj hy).symm, rfl⟩
      refine ⟨rfl, ?_⟩
      dsimp only [tYes]
      rw [if_pos rfl]
      refine ⟨_, rfl, _, rfl, show 2 ≤ sizeLine by decide, fun b hb => ?_⟩
      have hbD : b ≠ Dd := fun z => by rw [z, e2] at hb; cases hb
      have e3 : (upd H2' b (.tup [V.int (0 + (i : Int)), V.int dr])) Dd = some (.lst acc2) := by rw [upd_ne (Ne.symm hbD)]; exact e2
      have r3 := r2.tr (.kp (Kp.new (o := .tup [V.int (0 + (i : Int)), V.int dr]) hb))
      have el : Dt W.K W.cl (fun p => p = Dd) (upd H2' b (.tup [V.int (0 + (i : Int)), V.int dr])) (.ref b) (dTerm ((i : Int), dr)) := .tup (SqT.of upd_same) (.cons (by rw [Int.zero_add]; exact .int _) (.cons (.int _) .nil))
      have r4 := (r3.app (.one el)).tr (Tr.chg (N := fun p => p = Dd) (ys := acc2 ++ [V.ref b]) rfl e3)
      refine ⟨acc2, e3, ?_, ⟨acc2 ++ [V.ref b], upd_same, ?_, ?_⟩, ?_⟩
      · have := r2.length
        rw [this, List.length_map, List.length_append, allT_len]
        refine Nat.lt_of_le_of_lt (show _ ≤ 300 from ?_) (by decide)
        have := List.length_take_le j [((i : Int), (1 : Int)), ((i : Int), -1)]
        omega
      · rw [hdr, ← List.append_assoc, List.map_append]
        exact r4
      · exact (k2.trans (Kp.new hb)).mut hD
      · have k5 : Kp H2' (upd H2' b (.tup [V.int (0 + (i : Int)), V.int dr])) := Kp.new hb
        have s5 := k5.sqT sq
        rcases s5 with (s5 | ⟨o, s5⟩) | s5
        · exact .inl (.inl (by rw [upd_ne haD]; exact s5))
        · exact .inl (.inr ⟨o, by rw [upd_ne haD]; exact s5⟩)
        · exact .inr s5
    · have : j = 2 := by omega
      subst this
      refine .inl ⟨⟨_, sq, Nat.le_refl _⟩, acc2, e2, ?_, k2⟩
      have e5 : allT (i + 1) ++ List.take 0 [(((i + 1 : Nat) : Int), (1 : Int)), (((i + 1 : Nat) : Int), -1)] = allT i ++ List.take 2 [((i : Int), (1 : Int)), ((i : Int), -1)] := by
        rw [List.take_zero, List.append_nil, allT_succ]; rfl
      rw [e5]; exact r2
  · have : i = n := by omega
    subst this
    refine .inl ⟨Nat.le_refl _, ?_⟩
    have e5 : allT i ++ List.take 0 [((i : Int), (1 : Int)), ((i : Int), -1)] = allT i := by rw [List.take_zero, List.append_nil]
    rw [e5] at r1
    refine q4 _ _ (dTerms (allT i)) (kH k1) rfl (.lst e1 (fun z => hd Dd z hD) ((hom_terms _).nobox r1) (r1.im (immA_map dTerm imm_dTerm _)))
end K51

namespace K51
open PySem PySem.Spec PyProof.Rows L2 DL
section
variable {ι : Type} {X : ι → Cx} {K : PySem.W.Frag} {cl : Kd → Addr} {γ : List G} {e a b c : Expr} {es : List Expr} {pos p apos : Pos} {md ma mb mc : Md} {P P' Pa Pb : D → Prop} {φ ψ : Prop} {W : Wd}
/-- len of a text -/
theorem lenS (B : Bn W) {x : Str} (ha : DE X W.K W.cl a γ ma (Is (.str x))) (hz : x.length ≤ 100000) (hX : ∀ i, W.at (X i) := by intro _; exact ⟨rfl, rfl, rfl, rfl, rfl, rfl⟩) (hg : ∀ i, Gl (X i) "len" := by intro _; rfl)
    (he : ∀ i, starEach [a] (X i).env = (false, eval a (X i).env) :: starEach [] (X i).env := by intro _; rfl) : DE X W.K W.cl (.Call (.Name "len" p) [a] [] pos) γ mF (Is (.int x.length)) := by
  intro M H0 H σ E Q q
  refine ⟨tCB (fun xs H Q => ∃ z, xs = [.str z] ∧ z.length ≤ sizeLine ∧ Q (.int z.length) H) (rA X [a]), fun i => ?_, ?_⟩
  · obtain ⟨h1, h2, h3, h4, h5, h6⟩ := hX i
    exact pe_callB call_len_str (hg i) (by rw [h4]; exact B.len) PySem.boot_len (paR i) (by decide +kernel) (by decide +kernel) (he i) rfl
  · refine (da_cons ha da_nil he) M H0 H σ E _ fun vs H1 ds1 k1 ⟨d, r, e1, e2, e3⟩ r1 => ?_
    subst e1 e2 e3
    cases r1 with
    | cons t1 t2 =>
      cases t2
      cases t1
      exact ⟨x, rfl, Nat.le_trans hz (by decide), q _ H1 _ k1 rfl (.of_im (N := fun _ => False) rfl (.int _))⟩
/-- a sign not in a text -/
theorem notInS {s : Nat} {z : Str} (ha : DE X K cl a γ ma (Is (.str ⟨#[s]⟩))) (hb : DE X K cl b γ mb (Is (.str z))) (hm : behindInMarks .NotIn b = false := by with_unfolding_all rfl) : DTe X K cl (.Compare a [.NotIn] [b] pos) γ (Tt (s ∉ z.cps.toList)) := by
  refine dt_cmp (Φ := fun _ _ => s ∉ z.cps.toList) (fun i => op_notIn_sign) hm ha hb (fun N N' x y dx dy H Q e1 e2 r1 r2 q => ?_) (fun _ _ _ _ => Iff.rfl)
  subst e1 e2
  cases r1
  cases r2
  exact ⟨s, z, rfl, rfl, q _ (by simp)⟩
end
/-! ### is_name -/
def letters : Str := "abcdefghijklmnopqrstuvwxyz"
def okNm (x : Str) : Prop := 1 ≤ x.length ∧ x.length ≤ 12 ∧ ∀ c ∈ x.cps.toList, c ∈ letters.cps.toList
instance (x : Str) : Decidable (okNm x) := inferInstanceAs (Decidable (_ ∧ _ ∧ _))
theorem sc_is_name : FnScope ["value", "char"] ["value"] (defScope (top 14)) := ⟨rfl, rfl, rfl, by decide +kernel, rfl, by decide +kernel, by decide +kernel⟩
abbrev cIsName (W : Wd) : Sp := Con W.K W.cl 1 (fun x : Str => [.str x]) okNm (fun _ d => d = .bl true)
theorem ok_is_name {W : Wd} {f : Addr} {fd : FuncData} (F : FnP W "is_name" "is_name" (top 14) f fd) (B : Bn W) (hL : ∃ t, W.mg "LETTERS" = some (.str letters t)) : FnOk W.P W.w W.K W.mg W.base CX0 1 f fd ["value"] (cIsName W) := by
  refine fn_con F sc_is_name rfl fun cdv A outer s H E hr x _ hp => ?_
  have nd := sc_is_name.nd
  obtain ⟨h1, h2, h3⟩ := hp
  obtain ⟨t, hL⟩ := hL
  refine sq (ds_if (φ := False) (Tt.iff (dt_w (dw_or (dt_not (tv (blV (isi B (v 0) (T := "str") (t := "str") (r := true) (by decide +kernel) B.str (by decide +kernel))))) fun _ => dw_or1 (dt_not (chainT ci_le ci_le ki (lenS B (v 0) (by omega)) ki)))) ?_) (fun z => z.elim) (fun _ => dss_nil ?_))
  · simp only [not_true_eq_false, false_or]
    constructor
    · intro z; exact z ⟨by omega, by omega⟩
    · exact fun z => z.elim
  refine sq (for_ (sl := [1]) (fun i γ' => ∃ g, γ' = [.v false (.str x), g]) (di_str (v 0)) ⟨_, rfl⟩ (fun i γ' d hi hI hd => ?_) (fun γ' hI => ?_))
  · obtain ⟨g, rfl⟩ := hI
    obtain ⟨c, hc, rfl⟩ := hd
    have hcm : c ∈ letters.cps.toList := h3 c (by
      have := Array.mem_of_getElem? hc
      simpa using this)
    exact gn 1 (dss_one (ds_if (φ := False) (Tt.iff (notInS (z := letters) (v 1) (de_glob (md := mF) (v := .str letters) (fun _ => rfl) (fun _ => ⟨_, hL, ⟨t, rfl⟩⟩) (fun H => .str _) rfl (by decide +kernel))) ⟨fun z => z hcm, fun z => z.elim⟩) (fun z => z.elim) (fun _ => dss_nil ⟨_, rfl⟩)))
  · obtain ⟨g, rfl⟩ := hI
    exact dss_one (ret kb fun d h => h)

/-! ### Evidence.__init__ -/
theorem sc_einit : FnScope ["self", "catalog", "rows"] ["self", "catalog", "rows"] (defScope (cls 26 1)) := ⟨rfl, rfl, rfl, by decide +kernel, rfl, by decide +kernel, by decide +kernel⟩
/-- the new object gets its two attributes -/
def spEinit (W : Wd) : Sp := fun vs H Q _ => ∃ x dx c r ys, vs = [.ref x, c, .ref r] ∧ H x = some (.ins (W.cl .ev) dx []) ∧ (∀ H' : Hp, (∀ q, q ≠ x → H' q = H q) → SqL W.K H' r ys ∨ SqT W.K H' r ys) ∧
  ∀ l, l ≠ x → H l = none → Q .non (upd (upd (upd H x (.ins (W.cl .ev) dx [("catalog", c)])) l (.lst ys)) x (.ins (W.cl .ev) dx [("catalog", c), ("rows", .ref l)]))
theorem ok_einit {W : Wd} {dvs : List V} {f : Addr} {fd : FuncData} (F : FunD W.K "__init__" "Evidence.__init__" (defArgs (cls 26 1)) (defBody (cls 26 1)) (defScope (cls 26 1)) dvs [] f fd) (B : Bn W) (C : CF W) :
    FnOk W.P W.w W.K W.mg W.base CX0 1 f fd ["self", "catalog", "rows"] (spEinit W) := by
  refine F.ok sc_einit (fun vs H Q E h => ?_) fun cdv A outer s H vs Q E hr h => ?_
  · obtain ⟨x, dx, c, r, ys, rfl, _⟩ := h; rfl
  obtain ⟨x, dx, c, r, ys, rfl, h1, h2, q⟩ := h
  have nd := sc_einit.nd
  refine ⟨_, PSs.nox (pss_cons (ps_fld (pe_var (i := 0) rfl (Or.inl rfl) (by decide +kernel) (by decide +kernel)) (pe_var (i := 1) rfl (Or.inl rfl) (by decide +kernel) (by decide +kernel)) rfl)
    (pss_one (ps_fld (pe_var (i := 0) rfl (Or.inl rfl) (by decide +kernel) (by decide +kernel)) (pe_callTy call_list_of rfl B.list PyProof.Rows.boot_list (pa_cons (pe_var (i := 2) rfl (Or.inl rfl) (by decide +kernel) (by decide +kernel)) pa_nil)) rfl))), ?_⟩
  refine ⟨_, rfl, _, rfl, x, W.cl .ev, dx, [], rfl, h1, C.ev, C.evC, by decide, ?_⟩
  refine ⟨_, rfl, r, ys, rfl, h2 _ fun q hq => upd_ne hq, fun l hl => ?_⟩
  have hlx : l ≠ x := fun z => by subst z; rw [upd_same] at hl; cases hl
  rw [upd_ne hlx] at hl
  refine ⟨_, rfl, x, W.cl .ev, dx, [("catalog", c)], rfl, by rw [upd_ne (Ne.symm hlx), upd_same]; rfl, C.ev, C.evR, by show 1 < 1000; decide, ?_⟩
  exact q l hlx hl

/-- .. at an Evidence that is being made -/
structure EvMk (W : Wd) : Prop where
  ex : ∃ f fd dv ds, Mk W.K (W.cl .ev) f ∧ W.mg "Evidence" = some (.ref (W.cl .ev)) ∧ FnOk W.P W.w W.K W.mg W.base CX0 1 f fd ["self", "catalog", "rows"] (spEinit W) ∧ Binds W.K fd ["self", "catalog", "rows"] [] ∧
    Vals [dv] ds ∧ Binds W.K fd ["self", "catalog", "rows"] ds ∧ ∃ a, dv = .ref a ∧ ∃ o n, W.K.lookup a = some o ∧ o.cls = .type "tuple" ∧ o.data = .seq #[] n
section
variable {ι : Type} {X : ι → Cx} {γ : List G} {e a b c : Expr} {pos p apos : Pos} {md ma mb mc : Md} {W : Wd}
/-- Evidence(a, b) -/
theorem mkEv {j : Nat} {ns : List Str} {E' : List Shelf} (V : EvMk W) (hr : ∀ i, Room j (X i).A) (ha : DE X W.K W.cl a γ ma (Is (dCat ns))) (hb : DE X W.K W.cl b γ mb (Is (.lst (E'.map dShelf)))) (hk : 2 ≤ j := by decide)
    (hX : ∀ i, W.at (X i) := by intro _; exact ⟨rfl, rfl, rfl, rfl, rfl, rfl⟩) (hg : ∀ i, Gl (X i) "Evidence" := by intro _; rfl)
    (he : ∀ i, starEach [a, b] (X i).env = (false, eval a (X i).env) :: starEach [b] (X i).env := by intro _; rfl) (he2 : ∀ i, starEach [b] (X i).env = (false, eval b (X i).env) :: starEach [] (X i).env := by intro _; rfl) (hpl : ∀ i, (backTo pos (starEach [b] (X i).env)).any (·.1) = false := by intro _; rfl) :
    DE X W.K W.cl (.Call (.Name "Evidence" p) [a, b] [] pos) γ mF (Is (dEv ns E')) := by
  obtain ⟨f, fd, dv, ds, hM, hmg, F, hb0, _, _, _⟩ := V.ex
  intro M H0 H σ E Q q
  refine ⟨tMake (W.cl .ev) (spEinit W) [] E0 (rA X [a, b]), fun i => ?_, ?_⟩
  · obtain ⟨h1, h2, h3, h4, h5, h6⟩ := hX i
    rw [← h1, ← h2, ← h3, ← h4, ← h5] at F
    rw [← h3] at hM hb0
    rw [← h4] at hmg
    exact pe_make hM (by rw [h3] at F ⊢; exact F) ((hr i).mono hk) (hg i) hmg hb0 .nil pass0 (paR i) (by decide +kernel) (he i) (hpl i)
  · refine (ac ha (ac hb (an (X := X)) he2) he) M H0 H σ E _ fun vs H1 ds1 k1 e1 r1 => fun x dx hx hdx hne => ?_
    subst e1
    cases r1 with
    | cons t1 t2 =>
      cases t2 with
      | @cons vb _ _ _ t2 t3 =>
        cases t3
        cases t2 with
        | @lst r ys _ x1 x2 x3 x4 =>
          have hrx : r ≠ x := fun z => by rw [z, hx] at x1; cases x1
          have hrd : r ≠ dx := fun z => by rw [z, hdx] at x1; cases x1
          have xr : ∀ {o o' : HO}, (upd (upd H1 dx o) x o') r = some (.lst ys) := by intro o o'; rw [upd_ne hrx, upd_ne hrd]; exact x1
          refine ⟨x, dx, _, r, ys, rfl, upd_same, (fun H' hH => .inl (SqL.of (by rw [hH r hrx]; exact xr))), fun l hlx hl => ⟨rfl, ?_⟩⟩
          rw [upd_ne hlx] at hl
          have hld : l ≠ dx := fun z => by rw [z, upd_same] at hl; cases hl
          rw [upd_ne hld] at hl
          have k2 : ∀ (o1 o2 o3 o4 o5 : HO), Kp H1 (upd (upd (upd (upd (upd H1 dx o1) x o2) x o3) l o4) x o5) := fun o1 o2 o3 o4 o5 => (((((Kp.refl H1).mut hdx).mut hx).mut hx).mut hl).mut hx
          have imC : (dCat ns).imm = true := imm_dCat ns
          have imE : D.immA (E'.map dShelf) = true := immA_map dShelf imm_dShelf _
          refine q _ _ _ (k1.trans (k2 _ _ _ _ _)) rfl ⟨.obj upd_same rfl (.cons ((t1.tr (.kp (k2 _ _ _ _ _))).im imC) (.cons (.lst (a := l) (vs := ys) ?_ (rn_apart (md := mF) (E.go k1) hl) x3 ((x4.tr (.kp (k2 _ _ _ _ _))).im imE)) .nil)), (fun _ ds z => by cases z)⟩
          rw [upd_ne hlx, upd_same]
/-- Evidence(a) -/
theorem mkEv1 {j : Nat} {ns : List Str} (V : EvMk W) (hr : ∀ i, Room j (X i).A) (ha : DE X W.K W.cl a γ ma (Is (dCat ns))) (hk : 2 ≤ j := by decide)
    (hX : ∀ i, W.at (X i) := by intro _; exact ⟨rfl, rfl, rfl, rfl, rfl, rfl⟩) (hg : ∀ i, Gl (X i) "Evidence" := by intro _; rfl)
    (he : ∀ i, starEach [a] (X i).env = (false, eval a (X i).env) :: starEach [] (X i).env := by intro _; rfl) (hpl : ∀ i, (backTo pos (starEach [] (X i).env)).any (·.1) = false := by intro _; rfl) :
    DE X W.K W.cl (.Call (.Name "Evidence" p) [a] [] pos) γ mF (Is (dEv ns [])) := by
  obtain ⟨f, fd, dv, ds, hM, hmg, F, _, hv, hb1, r, rfl, o, n, lk, lc, ld⟩ := V.ex
  intro M H0 H σ E Q q
  refine ⟨tMake (W.cl .ev) (spEinit W) [L2.V.ref r] E0 (rA X [a]), fun i => ?_, ?_⟩
  · obtain ⟨h1, h2, h3, h4, h5, h6⟩ := hX i
    rw [← h1, ← h2, ← h3, ← h4, ← h5] at F
    rw [← h3] at hM hb1
    rw [← h4] at hmg
    exact pe_make hM (by rw [h3] at F ⊢; exact F) ((hr i).mono hk) (hg i) hmg hb1 hv pass0 (paR i) (by decide +kernel) (he i) (hpl i)
  · refine (ac ha (an (X := X)) he) M H0 H σ E _ fun vs H1 ds1 k1 e1 r1 => fun x dx hx hdx hne => ?_
    subst e1
    cases r1 with
    | cons t1 t2 =>
      cases t2
      have sq : ∀ H', SqT W.K H' r [] := fun H' => .inr ⟨o, #[], n, lk, lc, ld, by decide, .nil⟩
      · refine ⟨x, dx, _, r, [], rfl, upd_same, (fun H' _ => .inr (sq H')), fun l hlx hl => ⟨rfl, ?_⟩⟩
        rw [upd_ne hlx] at hl
        have hld : l ≠ dx := fun z => by rw [z, upd_same] at hl; cases hl
        rw [upd_ne hld] at hl
        have k2 : ∀ (o1 o2 o3 o4 o5 : HO), Kp H1 (upd (upd (upd (upd (upd H1 dx o1) x o2) x o3) l o4) x o5) := fun o1 o2 o3 o4 o5 => (((((Kp.refl H1).mut hdx).mut hx).mut hx).mut hl).mut hx
        have imC : (dCat ns).imm = true := imm_dCat ns
        refine q _ _ _ (k1.trans (k2 _ _ _ _ _)) rfl ⟨.obj upd_same rfl (.cons ((t1.tr (.kp (k2 _ _ _ _ _))).im imC) (.cons (.lst (a := l) (vs := []) ?_ (rn_apart (md := mF) (E.go k1) hl) ?_ .nil) .nil)), (fun _ ds z => by cases z)⟩
        · rw [upd_ne hlx, upd_same]
        · rintro ⟨c, i, a, s, h⟩; cases h
end
end K51

namespace K51
open PySem PySem.Spec PyProof.Rows L2 DL
theorem hom_shelf (l : List Shelf) : hom (l.map dShelf) := hom_map _ (fun _ => rfl) _
abbrev JX := (List Str × List Shelf) × Str × List Book
abbrev okJX (x : JX) : Prop := (x.1.2.length ≤ 5 ∧ ∀ e ∈ x.1.2, PyData.strOk e.1 = true) ∧ (PyData.strOk x.2.1 = true ∧ okNm x.2.1) ∧ x.2.1 ∉ x.1.2.map (·.1) ∧ x.2.2.length ≤ 100 ∧ ∀ b ∈ x.2.2, okB x.1.1.length b
/-! ### Evidence.joined -/
theorem sc_joined : FnScope ["self", "name", "books"] ["self", "name", "books"] (defScope (cls 26 7)) := ⟨rfl, rfl, rfl, by decide +kernel, rfl, by decide +kernel, by decide +kernel⟩
abbrev cJoin (W : Wd) : Sp := Con W.K W.cl 3 (fun x : JX => [dEv x.1.1 x.1.2, .str x.2.1, .tup (x.2.2.map tint)]) okJX (fun x d => d = dEv x.1.1 (x.1.2 ++ [x.2]))
theorem ok_joined {W : Wd} {f : Addr} {fd : FuncData} (F : FnP W "joined" "Evidence.joined" (cls 26 7) f fd) (B : Bn W) (C : CF W) (V : EvMk W) (Fin : MFn W .ev "__contains__" 3 (cCont W)) (Fc : GFn W "check_books" 4 (cCheck W)) :
    FnOk W.P W.w W.K W.mg W.base CX0 5 f fd ["self", "name", "books"] (cJoin W) := by
  refine fn_con F sc_joined rfl fun cdv A outer s H E hr x _ hp => ?_
  have nd := sc_joined.nd
  obtain ⟨⟨ns, E'⟩, x, bs⟩ := x
  obtain ⟨⟨h1, h2⟩, ⟨h3, h4⟩, h5, h6, h7⟩ := hp
  dsimp only at h1 h2 h3 h4 h5 h6 h7
  dsimp only
  refine sq (ds_if (inOwn (c := .ev) (ds := [dCat ns, .lst (E'.map dShelf)]) ((ns, E'), x) Fin (fun _ => hr) (v 1) (v 0) rfl ⟨⟨by dsimp only; omega, h2⟩, h3⟩ (fun d h => h)) (fun z => absurd z h5) (fun _ => dss_nil ?_))
  refine sq (expr (call (ns, bs) Fc (fun _ => hr) (ac (fld 0 (v 0) C.ev C.evC (d := dCat ns) rfl rfl) (ac (v 2) an)) h7) (fun d h => ?_))
  refine dss_one (ret (mkEv (ns := ns) (E' := E' ++ [(x, bs)]) V (fun _ => hr) (fld 0 (v 0) C.ev C.evC (d := dCat ns) rfl rfl) (DE.mono (cat (fld 1 (v 0) C.ev C.evR (d := .lst (E'.map dShelf)) rfl rfl) (lstE (ac (tupE (ac (v 1) (ac (tuple_ B (v 2) (.t _)) an))) an) (hom_b rfl)) (hom_app_l (fun d hd => ?_) (fun d hd => ?_)) ?_) fun d h => ?_)) fun d h => h)
  · obtain ⟨t, _, rfl⟩ := List.mem_map.mp hd; rfl
  · rw [List.mem_singleton] at hd; rw [hd]; rfl
  · rw [List.length_map]; show _ + 1 ≤ 100000; omega
  · rw [List.map_append]; exact h
/-! ### Evidence.with_shelf -/
theorem sc_with_shelf : FnScope ["self", "name", "books"] ((["self", "name"] : List Str) ++ (["books"] : List Str)) (defScope (cls 26 4)) := ⟨rfl, rfl, rfl, by decide +kernel, rfl, by decide +kernel, by decide +kernel⟩
/-- .. called with the books one by one -/
abbrev spShelf (W : Wd) : Sp := fun vs H Q E => ∃ ws rest, vs = ws ++ rest ∧ ws.length = ["self", "name"].length ∧ rest.length ≤ sizeLine ∧ ∀ p, H p = Option.none → cJoin W (ws ++ [V.ref p]) (upd H p (.tup rest)) Q E
theorem ok_with_shelf {W : Wd} {f : Addr} {fd : FuncData} (F : FnP W "with_shelf" "Evidence.with_shelf" (cls 26 4) f fd) (B : Bn W) (Fn : GFn W "is_name" 1 (cIsName W)) (Fj : MFn W .ev "joined" 5 (cJoin W)) : FnR W.P W.w W.K W.mg W.base CX0 6 f (spShelf W) := by
  obtain ⟨oc, od, dV, kV, doc, pm, an', cdv, ct, osl, rfl, lk, hcd, hD, _⟩ := F.ex
  obtain rfl : dV = .none := by
    rcases hD with ⟨_, h⟩ | ⟨h, _⟩
    · exact h
    · exact absurd rfl h
  refine StX.fn_star (ps := ["self", "name"]) (pv := "books") (sp := cJoin W) lk hcd sc_with_shelf StX.cxUp_none (fun us rest hl => match us, hl, rest with | [_, _], _, [] => rfl | [_, _], _, _ :: _ => rfl) fun A outer s H vs Q E hr h => ?_
  refine (fun ⟨t, h1, h2⟩ => ⟨t, PSs.nox h1, h2⟩) (body_con (X := bodyX W ["self", "name", "books"] "Evidence.with_shelf" (cls 26 4) f cdv A outer s H E) (fun x hx hp => ?_) h)
  have nd := sc_with_shelf.nd
  have hp0 := hp
  obtain ⟨⟨ns, E'⟩, x, bs⟩ := x
  obtain ⟨⟨h1, h2⟩, ⟨h3, h4⟩, h5, h6, h7⟩ := hp
  dsimp only at h1 h2 h3 h4 h5 h6 h7
  dsimp only
  refine sq (ds_if (φ := False) (Tt.iff (dt_not (tv (blV (DE.mono (call x Fn (fun _ => hr) (ac (v 1) an) h4) fun d h => h)))) (by simp)) (fun z => z.elim) (fun _ => dss_nil ?_))
  exact dss_one (ret (meth (c := .ev) (d0 := [dCat ns, .lst (E'.map dShelf)]) (ds := [.str x, .tup (bs.map tint)]) ((ns, E'), x, bs) Fj (fun _ => hr) (v 0) (ac (v 1) (ac (v 2) an)) hp0) fun d h => h)
/-! ### Evidence.with_books -/
structure ShF (W : Wd) : Prop where
  ex : ∃ g, BMeth W.K (W.cl .ev) "with_shelf" g ∧ FnR W.P W.w W.K W.mg W.base CX0 6 g (spShelf W)
theorem withShelf {ι : Type} {X : ι → Cx} {γ : List G} {o a b : Expr} {p pos apos : Pos} {ma mb mc : Md} {W : Wd} {j : Nat} {ns : List Str} {E' : List Shelf} {x : Str} {bs : List Book} (C : CF W) (S : ShF W) (hr : ∀ i, Room j (X i).A)
    (ho : DE X W.K W.cl o γ ma (Is (dEv ns E'))) (ha : DE X W.K W.cl a γ mb (Is (.str x))) (hb : DE X W.K W.cl b γ mc (Is (.lst (bs.map tint)))) (hp : okJX ((ns, E'), x, bs)) (hk : 6 ≤ j := by decide)
    (hX : ∀ i, W.at (X i) := by intro _; exact ⟨rfl, rfl, rfl, rfl, rfl, rfl⟩) (hbase : ∀ i, attributeBase o "with_shelf" (X i).env (eval o (X i).env) = eval o (X i).env := by intro _; rfl)
    (hst : ∀ i, starEach [a, .Starred b p] (X i).env = [(false, eval a (X i).env), (true, eval b (X i).env)] := by intro _; rfl) :
    DE X W.K W.cl (.Call (.Attribute o "with_shelf" apos) [a, .Starred b p] [] pos) γ mF (Is (dEv ns (E' ++ [(x, bs)]))) := by
  obtain ⟨g, hm, F⟩ := S.ex
  intro M H0 H σ E Q q
  refine ⟨tMethSB W.K (W.cl .ev) "with_shelf" g (spShelf W) E0 (rE X o) (rE X a) (rE X b), fun i => ?_, ho M H0 H σ E _ fun v H1 d k1 e1 r1 => ?_⟩
  · obtain ⟨h1, h2, h3, h4, h5, h6⟩ := hX i
    have c := C.ev
    rw [← h1, ← h2, ← h3, ← h4, ← h5] at F
    rw [← h3] at hm c
    rw [← h3]
    exact pe_methSB (peR i) c hm (by rw [h3] at F ⊢; exact F) ((hr i).mono hk) pass0 (peR i) (peR i) (hbase i) (hst i)
  · subst e1
    obtain ⟨r1, _⟩ := r1
    have r1' := self_of r1
    cases r1 with
    | @obj a1 dx _ fs _ o1 o2 o3 =>
      refine ⟨a1, dx, fs, rfl, o1, ?_, fun m hm' => ?_⟩
      · cases ef : fs.lookup ("with_shelf" : Str) with
        | none => rfl
        | some z =>
          have : ("with_shelf" : Str) ∈ flds .ev := by
            rw [← o2]
            exact List.mem_map.mpr ⟨("with_shelf", z), PySem.mem_of_lookup ef, rfl⟩
          exact absurd this (by decide +kernel)
      · have km : Kp H1 (upd H1 m (.met g a1)) := Kp.new hm'
        refine ha M H0 _ σ ((E.go k1).go km) _ fun w H2 d2 k2 e2 r2 => ?_
        subst e2
        refine hb M H0 H2 σ (((E.go k1).go km).go k2) _ fun u H3 d3 k3 e3 r3 => ?_
        subst e3
        obtain ⟨r2, _⟩ := r2
        obtain ⟨r3, _⟩ := r3
        cases r2
        cases r3 with
        | @lst lb lvs _ x1 x2 x3 x4 =>
          have kall : Kp H H3 := ((k1.trans km).trans k2).trans k3
          refine ⟨lb, lvs, rfl, .inr (SqL.of x1), (k2.trans k3).st m _ upd_same (by rintro ⟨vs, z, _⟩; cases z), [V.ref a1, V.str x], lvs, rfl, rfl, by rw [x4.length, List.length_map]; exact Nat.le_trans hp.2.2.2.1 (by decide), fun t ht => ?_⟩
          have kt : Kp H3 (upd H3 t (.tup lvs)) := Kp.new ht
          refine ⟨((ns, E'), x, bs), .cons (r1'.tr (.kp (((km.trans k2).trans k3).trans kt))) (.cons (.str x) (.cons (.tup (SqT.of upd_same) ((x4.tr (.kp kt)).tr (.weak fun _ z => z.elim))) .nil)), rfl, hp, fun v H4 d k4 hR t4 => ?_⟩
          have hR : d = dEv ns (E' ++ [(x, bs)]) := hR
          refine q v H4 d ((kall.trans kt).trans k4) hR ⟨t4.tr (.weak fun z hz => rn_there ((((((E.go k1).go km).go k2).go k3).go kt)) hz), fun _ ds e => ?_⟩
          rw [hR] at e
          cases e
theorem sc_with_books : FnScope ["self", "name", "books"] ["self", "name", "books"] (defScope (cls 26 5)) := ⟨rfl, rfl, rfl, by decide +kernel, rfl, by decide +kernel, by decide +kernel⟩
abbrev cBooks (W : Wd) : Sp := Con W.K W.cl 3 (fun x : JX => [dEv x.1.1 x.1.2, .str x.2.1, .lst (x.2.2.map tint)]) okJX (fun x d => d = dEv x.1.1 (x.1.2 ++ [x.2]))
theorem ok_with_books {W : Wd} {f : Addr} {fd : FuncData} (F : FnP W "with_books" "Evidence.with_books" (cls 26 5) f fd) (B : Bn W) (C : CF W) (S : ShF W) : FnOk W.P W.w W.K W.mg W.base CX0 7 f fd ["self", "name", "books"] (cBooks W) := by
  refine fn_con F sc_with_books rfl fun cdv A outer s H E hr x _ hp => ?_
  have nd := sc_with_books.nd
  obtain ⟨⟨ns, E'⟩, x, bs⟩ := x
  dsimp only
  exact dss_one (ret (withShelf C S (fun _ => hr) (v 0) (v 1) (v 2) hp) fun d h => h)
end K51

/-! P1: the plain law: a right gate holds of every clear rule; judged = right. -/
namespace K51
open PySem PySem.Spec PyProof.Rows L2 DL
theorem cmp_trans : ∀ {ts : List Term} {a b c : Book}, cmp ts a b = -1 → cmp ts b c = -1 → cmp ts a c = -1
  | [], _, _, _, h, _ => by simp [cmp] at h
  | t :: r, a, b, c, h1, h2 => by
    rw [cmp] at h1 h2 ⊢
    generalize a.getD t.1.toNat 0 = x at *
    generalize b.getD t.1.toNat 0 = y at *
    generalize c.getD t.1.toNat 0 = z at *
    by_cases hxy : x = y
    · subst hxy
      rw [if_neg (by simp)] at h1
      by_cases hxz : x = z
      · subst hxz
        rw [if_neg (by simp)] at h2 ⊢
        exact cmp_trans h1 h2
      · rw [if_pos hxz] at h2 ⊢
        exact h2
    · rw [if_pos hxy] at h1
      by_cases hyz : y = z
      · subst hyz
        rw [if_pos hxy]
        exact h1
      · rw [if_pos hyz] at h2
        have e1 : (x < y ↔ t.2 = 1) := Classical.byContradiction fun z => by rw [if_neg z] at h1; exact absurd h1 (by decide)
        have e2 : (y < z ↔ t.2 = 1) := Classical.byContradiction fun z => by rw [if_neg z] at h2; exact absurd h2 (by decide)
        by_cases ht : t.2 = 1
        · have := e1.mpr ht
          have := e2.mpr ht
          rw [if_pos (by omega), if_pos ⟨fun _ => ht, fun _ => by omega⟩]
        · have h3 : ¬ x < y := fun w => ht (e1.mp w)
          have h4 : ¬ y < z := fun w => ht (e2.mp w)
          rw [if_pos (by omega), if_pos ⟨fun w => by omega, fun w => absurd w ht⟩]
theorem cmp_pre : ∀ {pre : List Term} {r : List Term} {x y : Book}, (∀ t ∈ pre, x.getD t.1.toNat 0 = y.getD t.1.toNat 0) → cmp (pre ++ r) x y = cmp r x y
  | [], _, _, _, _ => rfl
  | t :: p, r, x, y, h => by
    rw [List.cons_append, cmp, if_neg (by simpa using h t List.mem_cons_self)]
    exact cmp_pre fun t ht => h t (List.mem_cons_of_mem _ ht)
theorem cmp_zero {ts : List Term} {x y : Book} (h : ∀ t ∈ ts, x.getD t.1.toNat 0 = y.getD t.1.toNat 0) : cmp ts x y = 0 := by
  have := cmp_pre (r := []) h
  rw [List.append_nil] at this
  rw [this]; rfl
theorem clear_far {ts : List Term} {s : List Book} (h : ClearS ts s s.length) {i : Nat} {x : Book} (hx : s[i]? = some x) : ∀ (d : Nat) (y : Book), s[i + d]? = some y → x = y ∨ cmp ts x y = -1
  | 0, y, hy => .inl (Option.some.inj (hx.symm.trans hy))
  | d + 1, y, hy => by
    have hlt : i + d + 1 < s.length := (List.getElem?_eq_some_iff.mp hy).1
    have hz : s[i + d]? = some (s[i + d]'(by omega)) := List.getElem?_eq_getElem (by omega)
    generalize (s[i + d]'(by omega)) = z at hz
    have ih := clear_far h hx d z hz
    by_cases hzy : z = y
    · subst hzy; exact ih
    · have h2 := h (i + d) (by omega) z y hz hy hzy
      rcases ih with rfl | h1
      · exact .inr h2
      · exact .inr (cmp_trans h1 h2)
theorem clear_at {ts : List Term} {S : List (List Book)} (h : Clear ts S) {p : Place} {k : Nat} {x y : Book} (hf : FarAt S p k x y) (hne : x ≠ y) : cmp ts x y = -1 := by
  obtain ⟨s, e1, _, h1, h2, h3, h4⟩ := hf
  have hs := h s (List.mem_of_getElem? e1)
  have e : p.2.2.toNat = p.2.1.toNat + (p.2.2.toNat - p.2.1.toNat) := by omega
  rw [e] at h4
  rcases clear_far hs h3 _ y h4 with z | z
  · exact absurd z hne
  · exact z
theorem stp_at {x y : Book} {m : Nat} (hl : x.length = y.length) (hm : m < x.length) : (stp x y).getD m 0 = sgn (x.getD m 0) (y.getD m 0) := by
  simp [stp, List.getD_eq_getElem?_getD, List.getElem?_zipWith, List.getElem?_eq_getElem hm, List.getElem?_eq_getElem (show m < y.length by omega)]
theorem sgn_zero {a b : Int} (h : sgn a b = 0) : a = b := by
  unfold sgn at h
  split at h <;> split at h <;> omega
theorem far_len {n : Nat} {S : List (List Book)} {p : Place} {k : Nat} {x y : Book} (hS : okS n S) (hf : FarAt S p k x y) : x.length = n ∧ y.length = n := by
  obtain ⟨s, e1, _, _, _, h3, h4⟩ := hf
  have := (len_at hS e1).2
  exact ⟨(this x (List.mem_of_getElem? h3)).1, (this y (List.mem_of_getElem? h4)).1⟩
theorem zer_eq {n : Nat} {x y : Book} {ins : List Int} (hx : x.length = n) (hy : y.length = n) (hz : Zer x y ins) {t : Term} (ht : vt n t) (hin : t.1 ∈ ins) : x.getD t.1.toNat 0 = y.getD t.1.toNat 0 := by
  have h := hz t.1 hin
  rw [stp_at (by omega) (by have := ht.2.1; have := ht.1; omega)] at h
  exact sgn_zero h
theorem filter_head {α : Type} {q : α → Bool} : ∀ {l : List α} {t : α} {r : List α}, l.filter q = t :: r → ∃ pre post, l = pre ++ t :: post ∧ (∀ x ∈ pre, q x = false) ∧ q t = true
  | [], t, r, h => by cases h
  | a :: l, t, r, h => by
    rw [List.filter_cons] at h
    by_cases ha : q a = true
    · rw [if_pos ha] at h
      injection h with h1 h2
      exact ⟨[], l, by rw [h1]; rfl, by simp, h1 ▸ ha⟩
    · rw [if_neg ha] at h
      obtain ⟨pre, post, e, h1, h2⟩ := filter_head h
      refine ⟨a :: pre, post, by rw [e]; rfl, fun x hx => ?_, h2⟩
      rcases List.mem_cons.mp hx with rfl | hx
      · simpa using ha
      · exact h1 x hx
theorem law_main {n : Nat} {S : List (List Book)} {ins : List Int} {exs : List Term} {bls : List Block} {am : List Int} {p : Place} {cs : List (List Term)} (hS : okS n S) (hR : Right n S ins exs bls am p) (hcs : ∀ ts ∈ cs, (∀ t ∈ ts, vt n t) ∧ Clear ts S) : Holds cs ins exs am := by
  obtain ⟨_, ⟨_, _, hB, hG⟩, _, k, x, y, hf, hne, hz⟩ := hR
  intro ts hts hall
  obtain ⟨hv, hc⟩ := hcs ts hts
  obtain ⟨lx, ly⟩ := far_len hS hf
  have hcmp := clear_at hc hf hne
  cases hF : ts.filter (fun t => decide (t.1 ∉ ins)) with
  | nil =>
    rw [List.filter_eq_nil_iff] at hF
    have : cmp ts x y = 0 := cmp_zero fun t ht => zer_eq lx ly hz (hv t ht) (by have := hF t ht; simpa using this)
    rw [this] at hcmp; exact absurd hcmp (by decide)
  | cons t r =>
    refine ⟨t, r, rfl, Classical.byContradiction fun hex => ?_⟩
    obtain ⟨pre, post, e, hp, ht⟩ := filter_head hF
    have htm : t ∈ ts := by rw [e]; simp
    have hni : t.1 ∉ ins := by simpa using ht
    have hvt := hv t htm
    have ho : t ∈ (outs n am ins).filter (fun t => decide (t ∉ exs)) := List.mem_filter.mpr ⟨List.mem_filter.mpr ⟨mem_allT.mpr hvt, by simpa using ⟨hall t htm, hni⟩⟩, by simpa using hex⟩
    rw [← hB] at ho
    obtain ⟨b, hb, rfl⟩ := List.mem_map.mp ho
    obtain ⟨k', x', y', hf', hz', hs⟩ := hG b hb
    obtain ⟨lx', ly'⟩ := far_len hS hf'
    rw [stp_at (by omega) (by have := hvt.2.1; have := hvt.1; omega)] at hs
    have hval : cmp ts x' y' = 1 := by
      rw [e, cmp_pre (fun t' ht' => zer_eq lx' ly' hz' (hv t' (by rw [e]; simp [ht'])) (by have := hp t' ht'; simpa using this)), cmp]
      have h3 := hvt.2.2
      unfold sgn at hs
      have hd : x'.getD b.1.1.toNat 0 ≠ y'.getD b.1.1.toNat 0 := by
        intro hq
        rw [hq] at hs
        rw [if_neg (Int.lt_irrefl _)] at hs
        omega
      rw [if_pos hd, if_neg]
      intro hiff
      rcases h3 with h3 | h3
      · have := hiff.mpr h3
        rw [if_pos this, if_neg (by omega)] at hs
        omega
      · have h4 : ¬ x'.getD b.1.1.toNat 0 < y'.getD b.1.1.toNat 0 := fun w => by have := hiff.mp w; omega
        rw [if_neg h4] at hs
        split at hs <;> omega
    have hne' : x' ≠ y' := fun hq => by
      subst hq
      have : sgn (x'.getD b.1.1.toNat 0) (x'.getD b.1.1.toNat 0) = 0 := by unfold sgn; simp
      rw [this] at hs
      have := hvt.2.2
      omega
    rw [clear_at hc hf' hne'] at hval
    exact absurd hval (by decide)

/-! ### judged = right -/
def named (S : List (List Book)) : List Shelf := (List.range S.length).map fun k => (nm k, S.getD k [])
theorem named_len (S : List (List Book)) : (named S).length = S.length := by simp [named]
theorem named_snoc (S : List (List Book)) (s : List Book) : named (S ++ [s]) = named S ++ [(nm S.length, s)] := by
  unfold named
  rw [List.length_append, List.length_singleton, List.range_succ, List.map_append]
  congr 1
  · refine List.map_congr_left fun k hk => ?_
    have := List.mem_range.mp hk
    rw [List.getD_eq_getElem?_getD, List.getD_eq_getElem?_getD, List.getElem?_append_left this]
  · simp
theorem named_ok {n : Nat} {S : List (List Book)} (h : okS n S) : okE n (named S) := by
  refine ⟨by rw [named_len]; have := h.1; omega, fun e he => ?_⟩
  obtain ⟨k, hk, rfl⟩ := List.mem_map.mp he
  have hk := List.mem_range.mp hk
  refine ⟨nm_ok k, ?_⟩
  have hm : S.getD k [] ∈ S := by
    rw [List.getD_eq_getElem?_getD, List.getElem?_eq_getElem hk]
    exact List.getElem_mem hk
  exact h.2 _ hm
theorem getE_named {S : List (List Book)} (hS : S.length ≤ 4) {x : Str} {bs : List Book} : getE (named S) x = some bs ↔ ∃ k, S[k]? = some bs ∧ nm k = x := by
  constructor
  · intro h
    obtain ⟨e, he, h1, h2⟩ := getE_in h
    obtain ⟨k, hk, rfl⟩ := List.mem_map.mp he
    have hk := List.mem_range.mp hk
    refine ⟨k, ?_, h1⟩
    rw [← h2]
    show S[k]? = some (S.getD k [])
    rw [List.getD_eq_getElem?_getD, List.getElem?_eq_getElem hk]; rfl
  · rintro ⟨k, hk, rfl⟩
    have hlt := (List.getElem?_eq_some_iff.mp hk).1
    have hm : nm k ∈ (named S).map (·.1) := List.mem_map.mpr ⟨(nm k, S.getD k []), List.mem_map.mpr ⟨k, List.mem_range.mpr hlt, rfl⟩, rfl⟩
    obtain ⟨bs', hb⟩ := getE_mem.mp hm
    obtain ⟨e, he, h1, h2⟩ := getE_in hb
    obtain ⟨k', hk', rfl⟩ := List.mem_map.mp he
    have hk' := List.mem_range.mp hk'
    have : k' = k := nm_inj (by omega) (by omega) h1
    subst this
    rw [hb, ← h2]
    show some (S.getD k' []) = _
    rw [List.getD_eq_getElem?_getD, hk]; rfl
theorem plx_far {S : List (List Book)} (hS : S.length ≤ 4) {p : Place} {x y : Book} : PlX (named S) p x y ↔ ∃ k, FarAt S p k x y := by
  constructor
  · rintro ⟨bs, h1, h2, h3, h4, h5, h6⟩
    obtain ⟨k, hk, hn⟩ := (getE_named hS).mp h1
    exact ⟨k, bs, hk, hn, h2, h4, h5, h6⟩
  · rintro ⟨k, bs, hk, hn, h2, h4, h5, h6⟩
    exact ⟨bs, (getE_named hS).mpr ⟨k, hk, hn⟩, h2, by omega, h4, h5, h6⟩
theorem judge_right {n : Nat} {S : List (List Book)} {ins : List Int} {exs : List Term} {bls : List Block} {am : List Int} {p : Place} (hS : S.length ≤ 4) : Judge n (named S) ins exs bls am p ↔ Right n S ins exs bls am p := by
  have hb : ∀ b : Block, BlkGoodE (named S) ins b ↔ BlkGood S ins b := fun b => by
    constructor
    · rintro ⟨x, y, h1, h2⟩
      obtain ⟨k, hk⟩ := (plx_far hS).mp h1
      exact ⟨k, x, y, hk, h2⟩
    · rintro ⟨k, x, y, h1, h2⟩
      exact ⟨x, y, (plx_far hS).mpr ⟨k, h1⟩, h2⟩
  constructor
  · rintro ⟨h1, h2, h3, ⟨x, y, h4, h5, h6⟩, h7, h8, h9⟩
    obtain ⟨k, hk⟩ := (plx_far hS).mp h4
    exact ⟨h1, ⟨h2, h7, h8, fun b hm => (hb b).mp (h9 b hm)⟩, h3, k, x, y, hk, h6, h5⟩
  · rintro ⟨h1, ⟨h2, h7, h8, h9⟩, h3, k, x, y, hk, h6, h5⟩
    exact ⟨h1, h2, h3, ⟨x, y, (plx_far hS).mpr ⟨k, hk⟩, h5, h6⟩, h7, h8, fun b hm => (hb b).mpr (h9 b hm)⟩
end K51

namespace K51
open PySem PySem.Spec PyProof.Rows L2 DL
theorem _root_.DL.DtA.of_strs {K : PySem.W.Frag} {cl : Kd → Addr} {N : Addr → Prop} {H : Hp} : ∀ {xs : List Str} {vs : List V}, DtA K cl N H vs (xs.map D.str) → vs = xs.map V.str
  | [], _, .nil => rfl
  | n :: r, _, .cons (.str _) h => by rw [h.of_strs]; rfl
theorem strs_dt {K : PySem.W.Frag} {cl : Kd → Addr} {N : Addr → Prop} {H : Hp} : ∀ xs : List Str, DtA K cl N H (xs.map V.str) (xs.map D.str)
  | [] => .nil
  | x :: r => .cons (.str x) (strs_dt r)
/-! ### Catalog.__init__ -/
section
variable {X : Unit → Cx} {W : Wd} {σ : L2.St} {H : Hp} {e a b c : Expr} {es : List Expr} {sts sts2 : List Stmt} {pos p : Pos} {D : Ends} {v u : V}
theorem vt_chain {op op' : CmpOp} {f f' : Int → Int → Prop} [∀ i j, Decidable (f i j)] [∀ i j, Decidable (f' i j)] {i j k : Int} (h : CI (X ()).K (fun _ => 0) op f) (h' : CI (X ()).K (fun _ => 0) op' f') (ha : VE X σ H a (.int i)) (hb : VE X σ H b (.int j)) (hc : VE X σ H c (.int k)) (hm : lastMarks [op, op'] [b, c] = false := by with_unfolding_all rfl) :
    VT X σ H (.Compare a [op, op'] [b, c] pos) (decide (f i j ∧ f' j k)) := by
  obtain ⟨r, h1, h2, h3⟩ := h
  obtain ⟨r', h1', h2', h3'⟩ := h'
  refine fun Q q => ⟨_, fun i => pt_chain (h1 _) (h1' _) (peR i) (peR i) (peR i) hm, ha _ (hb _ (h3 i j H _ fun x hx => ⟨x, rfl, ?_⟩))⟩
  by_cases z : x = true
  · rw [if_pos z]
    refine hc _ (h3' j k H _ fun y hy => ⟨y, rfl, ?_⟩)
    have : y = decide (f i j ∧ f' j k) := by
      by_cases w : f' j k
      · rw [hy.mpr w, decide_eq_true ⟨hx.mp z, w⟩]
      · rw [decide_eq_false fun q => w q.2]
        cases y
        · rfl
        · exact absurd (hy.mp rfl) w
    rw [this]; exact q
  · rw [if_neg z]
    refine ⟨false, rfl, ?_⟩
    rw [decide_eq_false (fun w => z (hx.mpr w.1))] at q
    exact q
theorem vt_not {x : Bool} (h : VT X σ H a x) : VT X σ H (.UnaryOp .Not a pos) (!x) := fun Q q => ⟨_, fun i => pt_not (ptR i), h _ q⟩
theorem ve_lenT {q : Addr} {vs : List V} (B : Bn W) (ha : VE X σ H a (.ref q)) (hq : H q = some (.tup vs)) (hX : ∀ i, W.at (X i) := by intro _; exact ⟨rfl, rfl, rfl, rfl, rfl, rfl⟩) (hg : ∀ i, Gl (X i) "len" := by intro _; rfl)
    (he : ∀ i, starEach [a] (X i).env = (false, eval a (X i).env) :: starEach [] (X i).env := by intro _; rfl) : VE X σ H (.Call (.Name "len" p) [a] [] pos) (.int vs.length) := fun Q z =>
  ⟨tCB (fun xs H Q => ∃ p ys, xs = [.ref p] ∧ (SqL W.K H p ys ∨ SqT W.K H p ys) ∧ Q (.int ys.length) H) (rA X [a]), fun i => by
    obtain ⟨h1, h2, h3, h4, h5, h6⟩ := hX i
    rw [← h3]
    exact pe_callB call_len_seq (hg i) (by rw [h4]; exact B.len) PySem.boot_len (paR i) (by decide +kernel) (by decide +kernel) (he i) rfl, va_one ha he _ ⟨_, _, rfl, .inr (SqT.of hq), z⟩⟩
theorem ve_con {K : PySem.W.Frag} {q C dx : Addr} {fs : List (Str × V)} {f : Str} {u0 : Value} (ha : VE X σ H a (.ref q)) (hq : H q = some (.ins C dx fs)) (hc : Cls K C) (k : L2.Con K C f u u0) (hl : fs.lookup f = none) (hK : ∀ i, (X i).K = K := by intro _; rfl)
    (hb : ∀ i, attributeBase a f (X i).env (eval a (X i).env) = eval a (X i).env := by intro _; rfl) : VE X σ H (.Attribute a f pos) u := fun Q z =>
  ⟨tCon K (rE X a) f, fun i => by rw [← hK i]; exact pe_con (peR i) (hb i), ha _ ⟨q, C, dx, fs, u, u0, rfl, hq, hc, k, hl, z⟩⟩
end
section
variable {ι : Type} {X : ι → Cx} {K : PySem.W.Frag} {cl : Kd → Addr} {γ : List G} {e a b : Expr} {pos : Pos} {md ma mb : Md}
/-- t[:e], not the whole -/
theorem sliceT {ds : List D} {j : Nat} {p2 : Pos} (ha : DE X K cl a γ ma (Is (.tup ds))) (hb : DE X K cl b γ mb (Is (.int j))) (hj : j < ds.length) (hK : ∀ i, (X i).K = K := by intro _; rfl) :
    DE X K cl (.Subscript a (.Slice none (some b) none p2) pos) γ ⟨ma.m, ma.o, false⟩ (Is (.tup (ds.take j))) := by
  intro M H0 H σ E Q q
  refine ⟨L2.tSl (rSlT K) (rE X a) tNoPart (tPart (rE X b)), fun i => by rw [← hK i]; exact pe_slice sl_tup (peR i) po_none (po_some (peR i)), ha M H0 H σ E _ fun v H1 d k1 e1 r1 => ?_⟩
  subst e1
  obtain ⟨r1, _⟩ := r1
  refine hb M H0 H1 σ (E.go k1) _ fun w H2 d2 k2 e2 r2 => ?_
  subst e2
  obtain ⟨r2, _⟩ := r2
  cases r2
  have r1 := r1.tr (.kp k2)
  cases r1 with
  | tup x1 x4 =>
    have hl := x4.length
    have e3 : ∀ n : Nat, j < n → HT.sIx n n (some (j : Int)) = j := fun n hn => by rw [sIx_lo n n j (by omega)]; omega
    have e0 : ∀ n : Nat, HT.sIx n 0 none = 0 := fun n => by simp [HT.sIx]
    refine ⟨(j : Int), rfl, _, _, rfl, x1, ?_, fun l hl' => ?_⟩
    · rintro ⟨_, h⟩
      rw [e3 _ (by rw [hl]; exact hj)] at h
      omega
    · have ec : ∀ vs : List V, vs.length = ds.length → cutV vs none (some (j : Int)) = vs.take j := fun vs hvs => by
        unfold cutV
        rw [e0, e3 _ (by rw [hvs]; exact hj)]
        simp
      rw [ec _ hl]
      exact q _ _ _ ((k1.trans k2).trans (Kp.new hl')) rfl ⟨.tup (SqT.of upd_same) ((x4.take j).tr (.kp (Kp.new hl'))), (fun z => nomatch z)⟩
end
def okNms (xs : List Str) : Prop := 1 ≤ xs.length ∧ xs.length ≤ 8 ∧ xs.Nodup ∧ ∀ x ∈ xs, okNm x ∧ PyData.strOk x = true
theorem sc_cinit : FnScope ["self", "names", "at", "name"] ((["self"] : List Str) ++ (["names"] : List Str)) (defScope (cls 17 1)) := ⟨rfl, rfl, rfl, by decide +kernel, rfl, by decide +kernel, by decide +kernel⟩
structure CatF (W : Wd) : Prop where
  most : ∃ u, L2.Con W.K (W.cl .cat) "MOST" (.int 8) u
/-- the body: the names stand in the tuple at p -/
def spCinitB (W : Wd) : Sp := fun vs H Q _ => ∃ x dx p xs, vs = [.ref x, .ref p] ∧ H x = some (.ins (W.cl .cat) dx []) ∧ H p = some (.tup (xs.map V.str)) ∧ okNms xs ∧ ∀ H' r, Kp H H' → SqT W.K H' r (xs.map V.str) → Q .non (upd H' x (.ins (W.cl .cat) dx [("names", .ref r)]))
def spCinit (W : Wd) : Sp := fun vs H Q E => ∃ ws rest, vs = ws ++ rest ∧ ws.length = (["self"] : List Str).length ∧ rest.length ≤ sizeLine ∧ ∀ p, H p = Option.none → spCinitB W (ws ++ [V.ref p]) (upd H p (.tup rest)) Q E
theorem ok_cinit {W : Wd} {f : Addr} {fd : FuncData} (F : FnP W "__init__" "Catalog.__init__" (cls 17 1) f fd) (B : Bn W) (C : CF W) (CC : CatF W) (Fn : GFn W "is_name" 1 (cIsName W)) : FnR W.P W.w W.K W.mg W.base CX0 2 f (spCinit W) := by
  obtain ⟨oc, od, dV, kV, doc, pm, an', cdv, ct, osl, rfl, lk, hcd, hD, _⟩ := F.ex
  obtain rfl : dV = .none := by
    rcases hD with ⟨_, h⟩ | ⟨h, _⟩
    · exact h
    · exact absurd rfl h
  refine StX.fn_star (ps := ["self"]) (pv := "names") (sp := spCinitB W) lk hcd sc_cinit StX.cxUp_none (fun us rest hl => match us, hl, rest with | [_], _, [] => rfl | [_], _, _ :: _ => rfl) fun A outer s H vs Q E hr h => ?_
  obtain ⟨x, dx, p, xs, rfl, hx, hpp, ⟨n1, n2, n3, n4⟩, q⟩ := h
  have nd := sc_cinit.nd
  have hr : Room 1 (bodyX W ["self", "names", "at", "name"] "Catalog.__init__" (cls 17 1) f cdv A outer s H E).A := hr
  refine (fun ⟨t, h1, h2⟩ => ⟨t, PSs.nox h1, h2⟩) (show ∃ t, PSs (bodyX W ["self", "names", "at", "name"] "Catalog.__init__" (cls 17 1) f cdv A outer s H E) (defBody (cls 17 1)) t ∧ _ from ⟨rSs (fun _ : Unit => bodyX W ["self", "names", "at", "name"] "Catalog.__init__" (cls 17 1) f cdv A outer s H E) (defBody (cls 17 1)), pssR (X := fun _ : Unit => bodyX W ["self", "names", "at", "name"] "Catalog.__init__" (cls 17 1) f cdv A outer s H E) (), ?_⟩)
  obtain ⟨u, hM⟩ := CC.most
  refine vs_cons (vs_if (vt_not (vt_chain ci_le ci_le ve_int (ve_lenT B (ve_v 1 rfl) hpp) (ve_con (ve_v 0 rfl) hx C.cat hM rfl))) ?_)
  rw [decide_eq_true (by rw [List.length_map]; constructor <;> omega), if_neg (by decide)]
  refine vs_nil ?_
  have EO0 : EO W.K W.cl (fun _ => False) H H (L2.start ["self", "names", "at", "name"] [.ref x, .ref p]) (g0 false ["self", "names", "at", "name"] [D.raw x, .tup (xs.map D.str)]) := by
    exact eo_start (f := false) (fun _ z => z.elim) (.cons (.raw x) (.cons (.tup (SqT.of hpp) (strs_dt xs)) .nil))
  have hlen : xs.length ≤ 8 := n2
  have loop : DS (fun _ : Unit => bodyX W ["self", "names", "at", "name"] "Catalog.__init__" (cls 17 1) f cdv A outer s H E) W.K W.cl ((defBody (cls 17 1)).getD 1 (.Pass ⟨0, 0, 0, 0⟩)) (g0 false ["self", "names", "at", "name"] [D.raw x, .tup (xs.map D.str)]) ⟨fun γ' => γ'[0]? = some (.v false (.raw x)) ∧ γ'[1]? = some (.v false (.tup (xs.map D.str))), fun _ => False, fun _ => False, fun _ => False⟩ := by
    refine for_ (sl := [2, 3]) (fun i γ' => ∃ g2 g3, γ' = [.v false (.raw x), .v false (.tup (xs.map D.str)), g2, g3]) (iE B (v 1) rfl) ⟨_, _, rfl⟩ (fun i γ' d hi hI hd => ?_) (fun γ' hI => ?_)
    · obtain ⟨g2, g3, rfl⟩ := hI
      obtain ⟨y, hy, rfl⟩ := hd
      obtain ⟨z, hz, rfl⟩ := get_map hy
      have hil : i < xs.length := (List.getElem?_eq_some_iff.mp hz).1
      have hzm := List.mem_of_getElem? hz
      refine gt (gc 2 (gc 3 (dgs_nil ?_)))
      refine dss_one (ds_if (φ := False) (Tt.iff (dt_w (dw_or (dt_not (tv (blV (DE.mono (call z Fn (fun _ => hr) (ac (v 3) an) (n4 z hzm).1) fun d h => h)))) fun _ => dw_or1 (inD (n := 1) (m := 1) (fun _ => hr) (v 3) (sliceT (v 1) (v 2) (by rw [List.length_map]; exact hil)) (.t _) (cm_str (n4 z hzm).2) ?_))) ?_) (fun z => z.elim) (fun _ => dss_nil ⟨_, _, rfl⟩))
      · refine cmA_of fun d hd => ?_
        obtain ⟨w, hw, rfl⟩ := List.mem_map.mp (List.mem_of_mem_take hd)
        exact cm_str (n4 w hw).2
      · rw [← List.map_take, mem_map_iff (fun a b h => by injection h)]
        simp only [not_true_eq_false, false_or, iff_false]
        intro hin
        obtain ⟨k, hk, e⟩ := List.getElem_of_mem hin
        rw [List.length_take] at hk
        rw [List.getElem_take] at e
        have e2 : xs[i] = z := (List.getElem?_eq_some_iff.mp hz).2
        have := (List.getElem_inj n3).mp (e.trans e2.symm)
        omega
    · obtain ⟨g2, g3, rfl⟩ := hI
      exact ⟨rfl, rfl⟩
  refine vs_cons (loop _ H H _ EO0 _ (fun σ' H' γ' E' hγ => ?_) (fun _ _ _ _ z => z.elim) (fun _ _ _ _ z => z.elim) (fun _ _ _ _ z => z.elim))
  obtain ⟨v0, s0, r0⟩ := E'.vl 0 false _ hγ.1
  obtain ⟨v1, s1, r1⟩ := E'.vl 1 false _ hγ.2
  cases r0
  have hx' := E'.kp.st x _ hx (by rintro ⟨vs, z, _⟩; cases z)
  cases r1 with
  | @tup a vs _ sq da =>
    obtain rfl : vs = xs.map V.str := da.of_strs
    refine ⟨_, fun i => pss_one (ps_fld (pe_var (i := 0) rfl (Or.inl rfl) (by decide +kernel) (by decide +kernel)) (pe_callTy call_tuple_of rfl B.tuple PyProof.Rows.boot_tuple (pa_cons (pe_var (i := 1) rfl (Or.inl rfl) (by decide +kernel) (by decide +kernel)) pa_nil)) rfl), ?_⟩
    exact ⟨_, s1, a, _, rfl, .inr ⟨sq, _, s0, x, W.cl .cat, dx, [], rfl, hx', C.cat, C.catN, by show 0 < 1000; decide, q _ a E'.kp sq⟩⟩
/-! ### Catalog.numbered -/
def lettersN (n : Nat) : List Str := (letters.cps.toList.take n).map fun c => (⟨#[c]⟩ : Str)
theorem call_list_strL {X : Cx} (hc : X.calm = true) : CallR X (.type "list") (fun xs H Q => ∃ z, xs = [.str z] ∧ z.cps.size ≤ sizeLine ∧ ∀ l, H l = none → Q (.ref l) (upd H l (.lst (z.cps.toList.map fun c => V.str ⟨#[c]⟩)))) := by
  intro pins s σ H xs us Q I r h
  obtain ⟨z, rfl, hz, q⟩ := h
  obtain ⟨u, rfl, t, rfl⟩ := r.one
  refine call_list_str (I.ok.hd hc) z t (fun h' tk acc' c' kp e hit => ?_) hz
  have hv : Vals (z.cps.toList.map fun c => V.str ⟨#[c]⟩) acc'.toList := by
    obtain ⟨h1, h2⟩ := hit
    have key : ∀ (n : Nat) (l : List Nat) (a : List Value), l.length = n → a.length = n → (∀ (i : Nat) (v : Value), a[i]? = some v → ∃ c u, l[i]? = some c ∧ v = .str ⟨#[c]⟩ u) → Vals (l.map fun c => V.str ⟨#[c]⟩) a := by
      intro n
      induction n with
      | zero => intro l a hl ha _; cases l with
        | nil => cases a with
          | nil => exact .nil
          | cons _ _ => cases ha
        | cons _ _ => cases hl
      | succ n ih => intro l a hl ha hi; cases l with
        | nil => cases hl
        | cons c l => cases a with
          | nil => cases ha
          | cons v a =>
            obtain ⟨c', u, e1, e2⟩ := hi 0 v rfl
            have e1 : c = c' := Option.some.inj e1
            subst e1
            exact .cons ⟨u, e2⟩ (ih l a (by simpa using hl) (by simpa using ha) fun i v hv => hi (i + 1) v (by simpa using hv))
    refine key z.cps.size _ _ (by simp) (by rw [Array.length_toList]; exact h1) fun i v hv => ?_
    obtain ⟨c, u, e1, e2⟩ := h2 i v (by simpa using hv)
    exact ⟨c, u, by simpa using e1, e2⟩
  exact ⟨.ref s.heap.objs.size, _, I.laid (t' := tk) kp (Nat.le_refl _) (show ObjOk X.prog X.w _ h' _ (.lst _) from ⟨by simpa using hz, acc'.toList, c', hv, by simpa using e⟩), rfl, q _ (I.hok.fresh (Nat.le_refl _))⟩
/-- x(*y), x a local that holds a class -/
theorem pe_clsS {X : Cx} {k i : Nat} {f C : Addr} {sp : Sp} {x : Str} {e : Expr} {te : TE} {p pos sp_ : Pos} (M : Mk X.K C f) (F : FnR X.prog X.w X.K X.mg X.base CX0 k f sp) (hr : Room (k + 1) X.A) (hN : X.N[i]? = some x) (hv : Vis X.env.scope x) (h1 : (x == ("__debug__" : Str)) = false) (h2 : (x == ("__classdict__" : Str)) = false)
    (he : PE X e te) (hst : starEach [.Starred e sp_] X.env = [(true, eval e X.env)] := by rfl) :
    PE X (.Call (.Name x p) [.Starred e sp_] [] pos) (fun σ H Q => σ[i]? = some (some (.ref C)) ∧ te σ H fun y H1 => ∃ a xs, y = V.ref a ∧ (SqT X.K H1 a xs ∨ SqL X.K H1 a xs) ∧ ∀ z dx, H1 z = Option.none → H1 dx = Option.none → dx ≠ z →
      sp (V.ref z :: xs) (upd (upd H1 dx (.own z)) z (.ins C dx [])) (fun v H2 => v = .non ∧ Q (.ref z) H2) E0) := by
  refine ⟨fun pins s σ H Q I ⟨hσ, h⟩ => ?_⟩
  refine wpAny_Call_Name_kw (thn ((pe_var (pos := p) hN hv h1 h2).run pins s σ H (fun v H' => v = .ref C ∧ H' = H) I ⟨_, hσ, rfl, rfl⟩) fun u s0 ⟨v, H0, I0, r0, ev, eH⟩ => ?_)
  subst ev eH
  obtain rfl : u = Value.ref C := r0
  refine PySem.W.callWith_S (h₀ := X.base) I0.ok.mod.kin M.kp (thn (he.run pins s0 σ _ _ I0 h) fun v s1 ⟨y, H1, I1, ry, a, xs, ey, hxs, q⟩ => ?_) hst
  subst ey
  obtain rfl : v = Value.ref a := ry
  exact StX.star_any I1 hxs fun us s2 I2 rv => ⟨I2.kIn, StX.run_makeR M F hr pass0 I2 rv q⟩
theorem sc_numbered : FnScope ["cls", "count", "names"] ["cls", "count"] (defScope (cls 17 2)) := ⟨rfl, rfl, rfl, by decide +kernel, rfl, by decide +kernel, by decide +kernel⟩
structure NumF (W : Wd) : Prop where
  most : ∃ mc u, ClX.CRead W.K (W.cl .cat) mc ∧ ClX.CVal W.K (W.cl .cat) mc "MOST" (.int 8) u
  mkC : ∃ f, Mk W.K (W.cl .cat) f ∧ FnR W.P W.w W.K W.mg W.base CX0 2 f (spCinit W)
  letters : ∃ t, W.mg "LETTERS" = some (.str letters t)
def spNum (W : Wd) : Sp := fun vs H Q _ => ∃ n : Nat, vs = [.ref (W.cl .cat), .int n] ∧ 1 ≤ n ∧ n ≤ 4 ∧ ∀ v H', Kp H H' → Dt W.K W.cl (fun _ => False) H' v (dCat (lettersN n)) → Q v H'
theorem lettersN_ok : ∀ n : Nat, n < 5 → 1 ≤ n → okNms (lettersN n) := by
  have key : ∀ n : Fin 5, 1 ≤ n.val → (1 ≤ (lettersN n).length ∧ (lettersN n).length ≤ 8 ∧ (lettersN n).Nodup ∧ ∀ x ∈ lettersN n, okNm x ∧ PyData.strOk x = true) := by decide +kernel
  exact fun n h1 h2 => key ⟨n, h1⟩ h2
theorem lettersN_len {n : Nat} (h : n ≤ 4) : (lettersN n).length = n := by
  have key : ∀ n : Fin 5, (lettersN n).length = n.val := by decide +kernel
  exact key ⟨n, by omega⟩
theorem ok_numbered {W : Wd} {f : Addr} {fd : FuncData} (F : FnP W "numbered" "Catalog.numbered" (cls 17 2) f fd) (B : Bn W) (N : NumF W) : FnOk W.P W.w W.K W.mg W.base CX0 4 f fd ["cls", "count"] (spNum W) := by
  refine F.ok sc_numbered (fun vs H Q E h => ?_) fun cdv A outer s H vs Q E hr h => ?_
  · obtain ⟨n, rfl, _⟩ := h; rfl
  obtain ⟨n, rfl, h1, h2, q⟩ := h
  have nd := sc_numbered.nd
  obtain ⟨mc, u, hR, hV⟩ := N.most
  obtain ⟨fi, hM, hF⟩ := N.mkC
  obtain ⟨tL, hL⟩ := N.letters
  have hr : Room 3 (bodyX W ["cls", "count", "names"] "Catalog.numbered" (cls 17 2) f cdv A outer s H E).A := hr
  refine (fun ⟨t, h1, h2⟩ => ⟨t, PSs.nox h1, h2⟩) (show ∃ t, PSs (bodyX W ["cls", "count", "names"] "Catalog.numbered" (cls 17 2) f cdv A outer s H E) (defBody (cls 17 2)) t ∧ _ from ⟨rSs (fun _ : Unit => bodyX W ["cls", "count", "names"] "Catalog.numbered" (cls 17 2) f cdv A outer s H E) (defBody (cls 17 2)), pssR (X := fun _ : Unit => bodyX W ["cls", "count", "names"] "Catalog.numbered" (cls 17 2) f cdv A outer s H E) (), ?_⟩)
  have hmost : VE (fun _ : Unit => bodyX W ["cls", "count", "names"] "Catalog.numbered" (cls 17 2) f cdv A outer s H E) (L2.start ["cls", "count", "names"] [.ref (W.cl .cat), .int n]) H (.Attribute (.Name "cls" ⟨0,0,0,0⟩) "MOST" ⟨0,0,0,0⟩) (.int 8) := fun Q z => ⟨_, fun i => ClX.pe_cval (pe_var (i := 0) rfl (Or.inl rfl) (by decide +kernel) (by decide +kernel)), _, rfl, W.cl .cat, mc, .int 8, u, rfl, hR, hV, z⟩
  refine vs_cons (vs_if (vt_not (vt_chain ci_le ci_le ve_int (ve_v 1 rfl) (fun Q z => ⟨_, fun i => ClX.pe_cval (pe_var (i := 0) rfl (Or.inl rfl) (by decide +kernel) (by decide +kernel)), _, rfl, W.cl .cat, mc, .int 8, u, rfl, hR, hV, z⟩))) ?_)
  rw [decide_eq_true (by constructor <;> omega), if_neg (by decide)]
  refine vs_nil ?_
  refine vs_cons ⟨_, fun i => ps_set (i := 2) nd rfl (Or.inl rfl) (pe_callTy (call_list_strL rfl) rfl B.list PyProof.Rows.boot_list (pa_cons (pe_slice sl_str (pe_glob rfl hL (show L2.RelV (V.str letters) (.str letters tL) from ⟨tL, rfl⟩) (by decide +kernel)) po_none (po_some (pe_var (i := 1) rfl (Or.inl rfl) (by decide +kernel) (by decide +kernel)))) pa_nil)) rfl (Or.inr rfl), ?_⟩
  have ecut : cutS letters none (some (n : Int)) = ⟨(letters.cps.toList.take n).toArray⟩ := by
    have h26 : letters.length = 26 := by decide +kernel
    unfold cutS
    rw [h26, show HT.sIx 26 0 none = 0 by simp [HT.sIx], sIx_lo 26 26 n (by omega), Int.toNat_natCast, Nat.min_eq_left (by omega)]
    simp
  refine ⟨_, rfl, (n : Int), rfl, letters, rfl, by decide +kernel, ?_⟩
  rw [ecut]
  refine ⟨_, rfl, ?_, fun l hl => ?_⟩
  · show (letters.cps.toList.take n).toArray.size ≤ sizeLine
    rw [List.size_toArray, List.length_take]
    exact Nat.le_trans (Nat.min_le_left _ _) (Nat.le_trans h2 (by decide))
  have e2 : ((letters.cps.toList.take n).toArray.toList.map fun c => V.str ⟨#[c]⟩) = (lettersN n).map V.str := by
    unfold lettersN; rw [List.map_map]; rfl
  rw [e2]
  refine vs_cons ⟨_, fun i => ps_ret (pe_clsS (i := 0) hM hF hr rfl (Or.inl rfl) (by decide +kernel) (by decide +kernel) (pe_var (i := 2) rfl (Or.inl rfl) (by decide +kernel) (by decide +kernel))), ?_⟩
  refine ⟨rfl, _, rfl, l, _, rfl, .inr (SqL.of upd_same), fun z dx hz hdx hne => ?_⟩
  refine ⟨[V.ref z], (lettersN n).map V.str, rfl, rfl, by rw [List.length_map, lettersN_len h2]; exact Nat.le_trans h2 (by decide), fun p hp => ?_⟩
  have hpz : p ≠ z := fun w => by rw [w, upd_same] at hp; cases hp
  refine ⟨z, dx, p, lettersN n, rfl, by rw [upd_ne (Ne.symm hpz), upd_same], upd_same, lettersN_ok n (by omega) h1, fun H' r k sq => ⟨rfl, ?_⟩⟩
  have kl : Kp H (upd H l (.lst ((lettersN n).map V.str))) := Kp.new hl
  have hzn : H z = none := kl.back hz
  have hdn : H dx = none := kl.back hdx
  have k2 : Kp H (upd (upd (upd H l (.lst ((lettersN n).map V.str))) dx (.own z)) z (.ins (W.cl .cat) dx [])) := (kl.mut hdn).mut hzn
  have k3 : Kp H H' := (k2.trans (Kp.new hp)).trans k
  refine q _ _ (k3.mut hzn) (.obj upd_same rfl (.cons (.tup ?_ (strs_dt _)) .nil))
  have hz' : H' z = some (.ins (W.cl .cat) dx []) := k.st z _ (by rw [upd_ne (Ne.symm hpz), upd_same]) (by rintro ⟨vs, w, _⟩; cases w)
  rcases sq with (sq | ⟨o, sq⟩) | sq
  · have : r ≠ z := fun w => by rw [w, hz'] at sq; cases sq
    exact .inl (.inl (by rw [upd_ne this]; exact sq))
  · have : r ≠ z := fun w => by rw [w, hz'] at sq; cases sq
    exact .inl (.inr ⟨o, by rw [upd_ne this]; exact sq⟩)
  · exact .inr sq
end K51

namespace K51
open PySem PySem.Spec PyProof.Rows L2 DL
section
variable {ι : Type} {X : ι → Cx} {γ : List G} {e a b c : Expr} {pos p apos : Pos} {md ma mb mc : Md} {W : Wd}
/-- Catalog.numbered(n) -/
structure NumC (W : Wd) : Prop where
  ex : ∃ mc p g, ClX.CRead W.K (W.cl .cat) mc ∧ ClX.CMet W.K (W.cl .cat) mc "numbered" p g ∧ FnR W.P W.w W.K W.mg W.base CX0 4 g (spNum W) ∧ W.mg "Catalog" = some (.ref (W.cl .cat))
theorem numCat {j n : Nat} (N : NumC W) (hr : ∀ i, Room j (X i).A) (ha : DE X W.K W.cl a γ ma (Is (.int n))) (h1 : 1 ≤ n) (h2 : n ≤ 4) (hk : 4 ≤ j := by decide) {q : Pos}
    (hX : ∀ i, W.at (X i) := by intro _; exact ⟨rfl, rfl, rfl, rfl, rfl, rfl⟩) (hg : ∀ i, Gl (X i) "Catalog" := by intro _; rfl)
    (he : ∀ i, starEach [a] (X i).env = (false, eval a (X i).env) :: starEach [] (X i).env := by intro _; rfl) {pl : Sem Bool}
    (ht : ∀ i, eval (.Call (.Attribute (.Name "Catalog" q) "numbered" apos) [a] [] pos) (X i).env = (do
      let ov ← eval (.Name "Catalog" q) (X i).env
      standAt apos.atName
      let (f, first) ← holding [ov] (getMethod ov "numbered" pl)
      callWith pos f first (backTo pos (starEach [a] (X i).env)) (backToKw pos (keywordEach [] (X i).env))) := by intro _; rfl) :
    DE X W.K W.cl (.Call (.Attribute (.Name "Catalog" q) "numbered" apos) [a] [] pos) γ mF (Is (dCat (lettersN n))) := by
  obtain ⟨mc, p, g, hR, hC, F, hm⟩ := N.ex
  intro M H0 H σ E Q q1
  refine ⟨ClX.tCMeth (W.cl .cat) (spNum W) E0 (tC (.ref (W.cl .cat))) (rA X [a]), fun i => ?_, rfl, ?_⟩
  · obtain ⟨g1, g2, g3, g4, g5, g6⟩ := hX i
    rw [← g1, ← g2, ← g3, ← g4, ← g5] at F
    rw [← g3] at hR hC
    rw [← g4] at hm
    exact ClX.pe_cmeth (pl := pl) (pe_glob (hg i) hm rfl (by decide +kernel)) hR hC (by rw [g3] at F ⊢; exact F) ((hr i).mono hk) pass0 (paR i) (he i) rfl (ht i)
  · refine (da_cons ha da_nil he) M H0 H σ E _ fun vs H1 ds1 k1 ⟨d, r, e1, e2, e3⟩ r1 => ?_
    subst e1 e2 e3
    cases r1 with
    | cons t1 t2 =>
      cases t2
      cases t1
      exact ⟨n, rfl, h1, h2, fun v H2 k2 t => q1 v H2 _ (k1.trans k2) rfl ⟨t.im (imm_dCat _), (fun _ ds z => by cases z)⟩⟩
end
/-! ### _law_evidence -/
theorem sc_evidence : FnScope ["_law_count_here", "_law_shelves_here", "_law_evidence_here", "_law_k"] ["_law_count_here", "_law_shelves_here"] (defScope (top 49)) := ⟨rfl, rfl, rfl, by decide +kernel, rfl, by decide +kernel, by decide +kernel⟩
abbrev cEvid (W : Wd) : Sp := Con W.K W.cl 2 (fun x : Nat × List (List Book) => [.int x.1, dShelves x.2]) (fun x => okS x.1 x.2 ∧ 1 ≤ x.1 ∧ x.1 ≤ 4) (fun x d => d = dEv (lettersN x.1) (named x.2))
theorem nm_okNm : ∀ k : Nat, k < 6 → okNm (nm k) := by
  have key : ∀ k : Fin 6, okNm (nm k) := by decide +kernel
  exact fun k hk => key ⟨k, hk⟩
theorem ok_evidence {W : Wd} {f : Addr} {fd : FuncData} (F : FnP W "_law_evidence" "_law_evidence" (top 49) f fd) (B : Bn W) (V : EvMk W) (N : NumC W) (Fn : GFn W "_law_name" 1 (cName W)) (Fw : MFn W .ev "with_books" 7 (cBooks W)) : FnOk W.P W.w W.K W.mg W.base CX0 8 f fd ["_law_count_here", "_law_shelves_here"] (cEvid W) := by
  refine fn_con F sc_evidence rfl fun cdv A outer s H E hr x _ hp => ?_
  have nd := sc_evidence.nd
  obtain ⟨n, S⟩ := x
  obtain ⟨hS, h1, h2⟩ := hp
  dsimp only at hS h1 h2
  have hS4 := hS.1
  dsimp only
  refine sq (set 2 (mkEv1 V (fun _ => hr) (numCat N (fun _ => hr) (v 0) h1 h2)) (fun d h => ?_))
  subst h
  refine sq (for_ (sl := [3]) (fun i γ' => ∃ g, γ' = [.v false (.int n), .v false (dShelves S), .v true (dEv (lettersN n) (named (S.take i))), g]) (iR B (len_ B (v 1) (.l _)) (by rw [List.length_map]; omega) (by rw [List.length_map]; omega)) ⟨_, rfl⟩ (fun i γ' d hi hI hd => ?_) (fun γ' hI => ?_))
  · obtain ⟨g, rfl⟩ := hI
    subst hd
    have hi : i < S.length := by rw [List.length_map] at hi; omega
    have es : S[i]? = some S[i] := List.getElem?_eq_getElem hi
    generalize S[i] = t at es
    obtain ⟨ht5, htb⟩ := len_at hS es
    have hli : (S.take i).length = i := by rw [List.length_take]; omega
    have hok : okE n (named (S.take i)) := named_ok ⟨by rw [hli]; omega, fun s hs => hS.2 s (List.mem_of_mem_take hs)⟩
    refine gn 3 (dss_one (set 2 (meth (c := .ev) (d0 := [dCat (lettersN n), .lst ((named (S.take i)).map dShelf)]) (ds := [.str (nm i), .lst (t.map tint)]) ((lettersN n, named (S.take i)), nm i, t) Fw (fun _ => hr) (v 2) (ac (call i Fn (fun _ => hr) (ac (v 3) an) (by show i < 6; omega)) (ac (list_ B (ix (v 1) (v 3) (.l _) (at_map dBooks es)) (.l _) (hom_tint _)) an)) ?_) (fun d h => ?_)))
    · refine ⟨⟨by dsimp only; rw [named_len, hli]; omega, fun e he => (hok.2 e he).1⟩, ⟨nm_ok i, nm_okNm i (by omega)⟩, ?_, by dsimp only; omega, ?_⟩
      · intro hin
        obtain ⟨e, he, h3⟩ := List.mem_map.mp hin
        obtain ⟨k, hk, rfl⟩ := List.mem_map.mp he
        have hk := List.mem_range.mp hk
        rw [hli] at hk
        have := nm_inj (show k < 6 by omega) (show i < 6 by omega) h3
        omega
      · show ∀ b ∈ t, okB (lettersN n).length b
        rw [lettersN_len h2]; exact htb
    · have h : d = dEv (lettersN n) (named (S.take i) ++ [(nm i, t)]) := h
      subst h
      have e : named (S.take (i + 1)) = named (S.take i) ++ [(nm i, t)] := by
        rw [List.take_add_one, es]
        show named (S.take i ++ [t]) = _
        rw [named_snoc, hli]
      rw [e]
      exact ⟨_, rfl⟩
  · obtain ⟨g, rfl⟩ := hI
    refine dss_one (ret (v 2) fun d h => ?_)
    rw [h, List.length_map, Int.toNat_natCast, List.take_length]
/-! ### _law_box, from any list of the heap -/
def spBox (W : Wd) : Sp := fun vs H Q _ => ∃ (a : Addr) (ns : List Int), vs = [.ref a] ∧ SqL W.K H a (ns.map V.int) ∧ ns.length ≤ 63 ∧ ∀ v H', Kp H H' → Dt W.K W.cl (fun p => H p ≠ none) H' v .box → Q v H'
theorem cut_ints (ns : List Int) (i j : Option Int) : ∃ ms : List Int, cutV (ns.map V.int) i j = ms.map V.int ∧ ms.length ≤ ns.length := by
  refine ⟨(ns.drop (HT.sIx (ns.map V.int).length 0 i)).take (HT.sIx (ns.map V.int).length (ns.map V.int).length j - HT.sIx (ns.map V.int).length 0 i), by unfold cutV; rw [List.map_take, List.map_drop], ?_⟩
  rw [List.length_take, List.length_drop]; omega
theorem ok_boxL {W : Wd} {f : Addr} {fd : FuncData} (F : FnP W "_law_box" "_law_box" (top 38) f fd) (B : Bn W) : FnOk W.P W.w W.K W.mg W.base CX0 1 f fd ["_law_script"] (spBox W) := by
  refine F.ok sc_box (fun vs H Q E h => ?_) fun cdv A outer s H vs Q E hr h => ?_
  · obtain ⟨a, ns, rfl, _⟩ := h; rfl
  obtain ⟨a, ns, rfl, sq, hl, q⟩ := h
  have nd := sc_box.nd
  refine ⟨_, PSs.nox (pss_one (ps_ret (pe_lst (pa_cons (pe_callTy call_list_of rfl B.list PyProof.Rows.boot_list (pa_cons (pe_slice sl_list (pe_var (i := 0) rfl (Or.inl rfl) (by decide +kernel) (by decide +kernel)) po_none (po_some pe_int)) pa_nil)) (pa_cons pe_int (pa_cons pe_int (pa_cons pe_int pa_nil))))))), ?_⟩
  obtain ⟨ms, e1, e2⟩ := cut_ints ns none (some 63)
  refine ⟨_, rfl, 63, rfl, a, _, rfl, sq, fun l hln => ⟨l, _, rfl, .inl (SqL.of upd_same), fun c hc => ⟨show 4 ≤ sizeLine by decide, fun b hb => ?_⟩⟩⟩
  rw [e1] at hc hb ⊢
  have k1 : Kp H (upd H l (.lst (ms.map V.int))) := Kp.new hln
  have hlc : l ≠ c := fun z => by rw [← z, upd_same] at hc; cases hc
  have k2 : Kp H (upd (upd H l (.lst (ms.map V.int))) c (.lst (ms.map V.int))) := k1.trans (Kp.new hc)
  have hcb : c ≠ b := fun z => by rw [← z, upd_same] at hb; cases hb
  refine q _ _ (k2.trans (Kp.new hb)) (.box (c := c) (cells := ms) ⟨0, 0, 1, upd_same, by rw [upd_ne hcb]; exact upd_same, by decide, by omega⟩ ?_ ?_)
  · intro z; exact z (k2.back hb)
  · intro z; exact z (k1.back hc)
end K51

namespace K51
open PySem PySem.Spec PyProof.Rows L2 DL
/-- Gate.__init__: the new object gets its five attributes -/
def spGinit (W : Wd) : Sp := fun vs H Q _ => ∃ x dx v1 v2 v3 v4 v5, vs = [.ref x, v1, v2, v3, v4, v5] ∧ H x = some (.ins (W.cl .gate) dx []) ∧ Q .non (upd H x (.ins (W.cl .gate) dx [("inside", v1), ("exits", v2), ("blocks", v3), ("among", v4), ("place", v5)]))
structure GateF (W : Wd) : Prop where
  ex : ∃ f, Mk W.K (W.cl .gate) f ∧ W.mg "Gate" = some (.ref (W.cl .gate)) ∧ FnR W.P W.w W.K W.mg W.base CX0 2 f (spGinit W)
theorem imm_dGate (ins : List Int) (exs : List Term) (bls : List Block) (am : List Int) (p : Place) : (dGate ins exs bls am p).imm = true := by
  have h1 := immA_ints ins
  have h2 := immA_map dTerm imm_dTerm exs
  have h3 := immA_map dBlock imm_dBlock bls
  have h4 := immA_ints am
  simp [dGate, D.imm, D.immA, tint, tTerms, dPlace, h1, h2, h3, h4]
section
variable {ι : Type} {X : ι → Cx} {γ : List G} {e1 e2 e3 e4 e5 : Expr} {pos p : Pos} {m1 m2 m3 m4 m5 : Md} {W : Wd}
theorem mkGate {j : Nat} {ins : List Int} {exs : List Term} {bls : List Block} {am : List Int} {pl : Place} (V : GateF W) (hr : ∀ i, Room j (X i).A) (h1 : DE X W.K W.cl e1 γ m1 (Is (tint ins))) (h2 : DE X W.K W.cl e2 γ m2 (Is (tTerms exs))) (h3 : DE X W.K W.cl e3 γ m3 (Is (.tup (bls.map dBlock)))) (h4 : DE X W.K W.cl e4 γ m4 (Is (tint am))) (h5 : DE X W.K W.cl e5 γ m5 (Is (dPlace pl))) (hk : 3 ≤ j := by decide)
    (hX : ∀ i, W.at (X i) := by intro _; exact ⟨rfl, rfl, rfl, rfl, rfl, rfl⟩) (hg : ∀ i, Gl (X i) "Gate" := by intro _; rfl)
    (s1 : ∀ i, starEach [e1, e2, e3, e4, e5] (X i).env = (false, eval e1 (X i).env) :: starEach [e2, e3, e4, e5] (X i).env := by intro _; rfl) (s2 : ∀ i, starEach [e2, e3, e4, e5] (X i).env = (false, eval e2 (X i).env) :: starEach [e3, e4, e5] (X i).env := by intro _; rfl)
    (s3 : ∀ i, starEach [e3, e4, e5] (X i).env = (false, eval e3 (X i).env) :: starEach [e4, e5] (X i).env := by intro _; rfl) (s4 : ∀ i, starEach [e4, e5] (X i).env = (false, eval e4 (X i).env) :: starEach [e5] (X i).env := by intro _; rfl) (s5 : ∀ i, starEach [e5] (X i).env = (false, eval e5 (X i).env) :: starEach [] (X i).env := by intro _; rfl)
    (hpl : ∀ i, (backTo pos (starEach [e2, e3, e4, e5] (X i).env)).any (·.1) = false := by intro _; rfl) :
    DE X W.K W.cl (.Call (.Name "Gate" p) [e1, e2, e3, e4, e5] [] pos) γ mF (Is (dGate ins exs bls am pl)) := by
  obtain ⟨f, hM, hmg, F⟩ := V.ex
  intro M H0 H σ E Q q
  refine ⟨StX.tMakeR (W.cl .gate) (spGinit W) E0 (rA X [e1, e2, e3, e4, e5]), fun i => ?_, ?_⟩
  · obtain ⟨g1, g2, g3, g4, g5, g6⟩ := hX i
    rw [← g1, ← g2, ← g3, ← g4, ← g5] at F
    rw [← g3] at hM
    rw [← g4] at hmg
    exact StX.pe_makeR hM (by rw [g3] at F ⊢; exact F) ((hr i).mono hk) (hg i) hmg pass0 (paR i) (by decide +kernel) (s1 i) (hpl i)
  · refine (ac h1 (ac h2 (ac h3 (ac h4 (ac h5 (an (X := X)) s5) s4) s3) s2) s1) M H0 H σ E _ fun vs H1 ds1 k1 e1' r1 => fun x dx hx hdx hne => ?_
    subst e1'
    cases r1 with
    | cons t1 r => cases r with
      | cons t2 r => cases r with
        | cons t3 r => cases r with
          | cons t4 r => cases r with
            | cons t5 r =>
              cases r
              refine ⟨x, dx, _, _, _, _, _, rfl, upd_same, rfl, ?_⟩
              have k2 : ∀ (o1 o2 o3 : HO), Kp H1 (upd (upd (upd H1 dx o1) x o2) x o3) := fun o1 o2 o3 => (((Kp.refl H1).mut hdx).mut hx).mut hx
              have iA : D.immA [tint ins, tTerms exs, .tup (bls.map dBlock), tint am, dPlace pl] = true := by have := imm_dGate ins exs bls am pl; simpa [dGate, D.imm] using this
              refine q _ _ _ (k1.trans (k2 _ _ _)) rfl ⟨.obj upd_same rfl (DtA.im iA (DtA.tr (.kp (k2 _ _ _)) (.cons t1 (.cons t2 (.cons t3 (.cons t4 (.cons t5 .nil))))))), (fun _ ds z => by cases z)⟩
end
/-! ### the law -/
def Lb : Nat → Nat
  | 0 => 200
  | 1 => 601
  | 2 => 1804
  | _ => 5413
def odd5 : List Place := [("low", 0, 2), ("top", 0, 1), ("low", 1, 0), ("zz", 0, 1), ("b", 0, 9)]
theorem odd5_ok : ∀ p ∈ odd5, okP p := by
  have h : ∀ p ∈ odd5, PyData.strOk p.1 = true := by decide +kernel
  exact h
theorem Lb_step (i : Nat) (h : i < 3) : 3 * Lb i + 1 ≤ Lb (i + 1) ∧ Lb i ≤ 1804 ∧ 200 ≤ Lb i := by
  have : i = 0 ∨ i = 1 ∨ i = 2 := by omega
  rcases this with rfl | rfl | rfl <;> decide
theorem sc_law : FnScope ["_law_script", "_law_box_here", "_law_count_here", "_law_kinds_here", "_law_shelves_here", "_law_clear_here", "_law_steps_here", "_law_among", "_law_barred", "_law_others", "_law_inside", "_law_outside", "_law_exits", "_law_blocks_here", "_law_place", "_law_one", "_law_pair", "_law_step_here", "_law_row", "_law_evidence_here", "_law_turn", "_law_due", "_law_gate", "_law_way", "_law_odd", "_law_terms_here", "_law_term", "_law_mark"] ["_law_script"] (defScope (top 66)) := ⟨rfl, rfl, rfl, by decide +kernel, rfl, by decide +kernel, by decide +kernel⟩
/-- the law's own calls -/
structure LawF (W : Wd) : Prop where
  box : ∃ f fd, FnOk W.P W.w W.K W.mg W.base CX0 1 f fd ["_law_script"] (spBox W) ∧ W.mg "_law_box" = some (.ref f) ∧ PySem.W.keepIn W.K (.ref f) = true ∧ Binds W.K fd ["_law_script"] []
  take : GFn W "_law_take" 1 (cTake W)
  count : GFn W "_law_count" 2 (cCount W)
  kinds : GFn W "_law_kinds" 2 (cKinds W)
  shelves : GFn W "_law_shelves" 3 (cShelves W)
  parts : GFn W "_law_parts_of_rules" 1 (cParts W)
  clear : GFn W "_law_clear" 2 (cClear W)
  steps : GFn W "_law_steps" 3 (cSteps W)
  rule : GFn W "_law_rule" 2 (cRule W)
  terms : GFn W "_law_terms" 1 (cTerms W)
  closure : GFn W "_law_closure" 3 (cClosure W)
  blocks : GFn W "_law_blocks" 2 (cBlocks W)
  places : GFn W "_law_places" 2 (cPlaces W)
  far : GFn W "_law_far" 2 (cFar W)
  step : GFn W "_law_step" 1 (cStep W)
  evid : GFn W "_law_evidence" 8 (cEvid W)
  right : GFn W "_law_right" 4 (cRight W)
  holds : GFn W "_law_holds" 1 (cHolds W)
  same : GFn W "_law_same" 1 (cSame W)
  bent : GFn W "_law_bent" 2 (cBent W)
  judge : GFn W "judge_gate" 10 (cJudge W)
abbrev lawN : List Str := ["_law_script", "_law_box_here", "_law_count_here", "_law_kinds_here", "_law_shelves_here", "_law_clear_here", "_law_steps_here", "_law_among", "_law_barred", "_law_others", "_law_inside", "_law_outside", "_law_exits", "_law_blocks_here", "_law_place", "_law_one", "_law_pair", "_law_step_here", "_law_row", "_law_evidence_here", "_law_turn", "_law_due", "_law_gate", "_law_way", "_law_odd", "_law_terms_here", "_law_term", "_law_mark"]
def spLaw (W : Wd) : Sp := fun vs H Q _ => ∃ (a : Addr) (ns : List Int), vs = [.ref a] ∧ SqL W.K H a (ns.map V.int) ∧ ns.length ≤ 63 ∧ ∀ H', Q (.bl true) H'
theorem law_body {W : Wd} {f : Addr} {cdv : Value} {A : Around} {outer : List Env} {sh : Shared} {Hh : Hp} {E : XK} (B : Bn W) (L : LawF W) (GF : GateF W) (hr : Room 11 (bodyX W lawN "law" (top 66) f cdv A outer sh Hh E).A) :
    DSs (fun _ : Unit => bodyX W lawN "law" (top 66) f cdv A outer sh Hh E) W.K W.cl ((defBody (top 66)).drop 1) (.un :: .v true .box :: List.replicate 26 .un) ⟨fun _ => False, fun d => d = .bl true, fun _ => False, fun _ => False⟩ := by
  have nd := sc_law.nd
  refine sq (set 2 (call () L.count (fun _ => hr) (ac (v 1) an) trivial) (fun d h => ?_))
  obtain ⟨n, rfl, hn1, hn4⟩ := h
  refine sq (set 3 (call n L.kinds (fun _ => hr) (ac (v 1) (ac (v 2) an)) hn4) (fun d h => ?_))
  obtain ⟨ks_, rfl, hk1, hk2⟩ := h
  refine sq (set 4 (P := fun d => ∃ S, d = dShelves S ∧ okS n S) (callP L.shelves (fun _ => hr) (acP (v 1) (acP (v 3) (acP ki (acP ki (acP (mulP (p := fun r => 0 ≤ r ∧ r < 2) (q := (· = 5)) (s := fun r => 0 ≤ r ∧ r ≤ 100) (call (2 : Int) L.take (fun _ => hr) (ac (v 1) (ac ki an)) ⟨by decide, by decide⟩) ki.i (fun i j hi hj => ?_)) an))))) (fun ds h => ?_)) (fun d h => ?_))
  · subst hj
    exact ⟨.inr ⟨by decide, by decide⟩, by omega⟩
  · obtain ⟨d1, r1, rfl, rfl, d2, r2, rfl, rfl, d3, r3, rfl, rfl, d4, r4, rfl, rfl, d5, r5, rfl, ⟨sp, rfl, hsp⟩, rfl⟩ := h
    refine ⟨(ks_, sp), rfl, rfl, ⟨⟨by dsimp only; omega, hk2⟩, hsp.1, hsp.2⟩, fun d ⟨S, h1, h2⟩ => ⟨S, h1, ?_⟩⟩
    rw [← hk1]; exact h2
  obtain ⟨S, rfl, hS⟩ := h
  have hS4 := hS.1
  refine sq (setP 5 [("_law_terms_here", 25)] [25] dTerms (fun ts => okR n ts ∧ Clear ts S) 10000 (dip_list (out := dTerms) (S := okR n) (N := 10000) (call n L.parts (fun _ => hr) (ac (v 2) an) hn4)) (by decide) (fun m item hC => ⟨hC.1, fun i d hi hd => ?_⟩) hom_dTerms (fun cs hc1 hc2 => ?_))
  · obtain ⟨ts, rfl, hts⟩ := hC.2 i d hi hd
    exact gn 25 ⟨Clear ts S, dts_one (tv (call (ts, S, n) L.clear (fun _ => hr) (ac (v 25) (ac (v 4) an)) ⟨hS, hts.2⟩)), fun hc => el (v 25) (fun d h => ⟨ts, h, hts, hc⟩)⟩
  refine sq (set 6 (call (S, n) L.steps (fun _ => hr) (ac (v 4) (ac de_nil an)) ⟨hS, by dsimp only; omega⟩) (fun d h => ?_))
  obtain ⟨ss, rfl, hs1, hs2⟩ := h
  dsimp only at hs1 hs2
  refine sq (set 7 (sortedP (S := fun _ => True) (N := 4) B (sliceP (eachP [("_law_term", 26)] [26] D.int (fun _ => True) 4 (dip_list (out := dTerm) (S := vt n) (N := 4) (call n L.rule (fun _ => hr) (ac (v 1) (ac (v 2) an)) hn4)) (by decide) (fun m item hC => ⟨hC.1, fun i d hi hd => ?_⟩) hom_ints) (DE.mono (call ((n : Int) + 1) L.take (fun _ => hr) (ac (v 1) (ac (addE (v 2) ki) an)) ⟨by omega, by omega⟩) fun d h => IsI.mono h fun _ _ => trivial) hom_ints)) (fun d h => ?_))
  · obtain ⟨t, rfl, ht⟩ := hC.2 i d hi hd
    exact gn 26 ⟨True, dts_nil, fun _ => el (ixI (v 26) ki (.t _) rfl) (fun d h => ⟨t.1, h, trivial⟩)⟩
  obtain ⟨am, rfl, ham, _⟩ := h
  refine sq (set 8 (sliceP (out := dTerm) (S := vt n) (N := 4) (call n L.rule (fun _ => hr) (ac (v 1) (ac (v 2) an)) hn4) (fdivP (p := fun _ => True) (q := (· = 2)) (s := fun _ => True) (DE.mono (call ((n : Int) + 1) L.take (fun _ => hr) (ac (v 1) (ac (addE (v 2) ki) an)) ⟨by omega, by omega⟩) fun d h => IsI.mono h fun _ _ => trivial) ki.i (fun i j _ hj => ⟨by subst hj; exact ⟨by decide, by decide⟩, trivial⟩)) hom_terms) (fun d h => ?_))
  obtain ⟨bd, rfl, hbd, hbv⟩ := h
  have cmT : ∀ l : List Term, D.cmA 1 (l.map dTerm) = true := fun l => cmA_map dTerm cm_dTerm l
  refine sq (setF 9 [("_law_term", 26)] [26] dTerm dTerm (allT n) (fun t => decide (t.1 ∉ am)) (iL (call n L.terms (fun _ => hr) (ac (v 2) an) (by omega)) rfl) (by rw [allT_len]; omega) (fun t hm => ?_) hom_terms ?_)
  · exact gn 26 ⟨dts_one (Tt.iff (notInD (n := 1) (m := 1) (fun _ => hr) (ixI (v 26) ki (.t _) rfl) (v 7) (.l _) (by simp [D.cm]) (cmA_ints _ _)) (by rw [decide_eq_true_eq, mem_map_iff int_inj])), fun _ => el (vi 26)⟩
  generalize hot : ((allT n).filter fun t => decide (t.1 ∉ am)) = ot
  have hotl : ot.length ≤ 8 := by rw [← hot]; exact Nat.le_trans (List.length_filter_le _ _) (by rw [allT_len]; omega)
  refine sq (set 10 (call (n, ss, ot ++ bd) L.closure (fun _ => hr) (ac (v 2) (ac (v 6) (ac (DE.mono (cat (v 9) (v 8) (by rw [← List.map_append]; exact hom_terms _) (by rw [List.length_map, List.length_map]; omega)) fun d h => by rw [h, ← List.map_append]; rfl) an))) ⟨hn4, hs2⟩) (fun d h => ?_))
  obtain ⟨ins, rfl, hin1, hin2⟩ := h
  dsimp only at hin1 hin2
  refine sq (setF 11 [("_law_term", 26)] [26] dTerm dTerm (allT n) (fun t => decide (t.1 ∈ am ∧ t.1 ∉ ins)) (iL (call n L.terms (fun _ => hr) (ac (v 2) an) (by omega)) rfl) (by rw [allT_len]; omega) (fun t hm => ?_) hom_terms ?_)
  · exact gn 26 ⟨dts_one (Tt.iff (dt_w (dw_and (inD (n := 1) (m := 1) (fun _ => hr) (ixI (v 26) ki (.t _) rfl) (v 7) (.l _) (by simp [D.cm]) (cmA_ints _ _)) fun _ => dw_and1 (notInD (n := 1) (m := 1) (fun _ => hr) (ixI (v 26) ki (.t _) rfl) (v 10) (.l _) (by simp [D.cm]) (cmA_ints _ _)))) (by rw [decide_eq_true_eq, mem_map_iff int_inj, mem_map_iff int_inj])), fun _ => el (vi 26)⟩
  change DSs _ _ _ _ (List.set _ 11 (G.v true (D.lst ((outs n am ins).map dTerm)))) _
  have hol : (outs n am ins).length ≤ 8 := Nat.le_trans (List.length_filter_le _ _) (by rw [allT_len]; omega)
  have hov : ∀ t ∈ outs n am ins, vt n t := fun t ht => mem_allT.mp (List.mem_filter.mp ht).1
  generalize outs n am ins = os at hol hov
  refine sq (set 12 (filt [("_law_term", 26)] [26] dTerm dTerm os (fun t => decide (t ∈ bd)) (iL (v 11) rfl) (by omega) (fun t hm => ?_) hom_terms) (fun d h => ?_))
  · exact gn 26 ⟨dts_one (Tt.iff (inD (n := 1) (m := 1) (fun _ => hr) (v 26) (v 8) (.l _) (cm_dTerm _) (cmT _)) (by rw [decide_eq_true_eq, mem_map_iff (fun _ _ => dTerm_inj)])), fun _ => el (vi 26)⟩
  subst h
  generalize hexe : (os.filter fun t => decide (t ∈ bd)) = exs
  have hexl : exs.length ≤ 8 := by rw [← hexe]; exact Nat.le_trans (List.length_filter_le _ _) hol
  refine sq (set 13 (call (S, ins, os.filter (fun t => decide (t ∉ exs)), n) L.blocks (fun _ => hr) (ac (v 1) (ac (v 4) (ac de_nil (ac (v 10) (ac (filt [("_law_term", 26)] [26] dTerm dTerm os (fun t => decide (t ∉ exs)) (iL (v 11) rfl) (by omega) (fun t hm => ?_) hom_terms) an))))) ⟨hS, hin2, by dsimp only; omega, fun t ht => hov t (List.mem_filter.mp ht).1, Nat.le_trans (List.length_filter_le _ _) (by omega), by dsimp only; omega⟩) (fun d h => ?_))
  · exact gn 26 ⟨dts_one (Tt.iff (notInD (n := 1) (m := 1) (fun _ => hr) (v 26) (v 12) (.l _) (cm_dTerm _) (cmT _)) (by rw [decide_eq_true_eq, mem_map_iff (fun _ _ => dTerm_inj)])), fun _ => el (vi 26)⟩
  obtain ⟨bls, rfl, hbl, hbP⟩ := h
  refine sq (set 14 (P := Is (dPlace ("low", 0, 1))) (tupE (ac ks (ac ki (ac ki an)))) (fun d h => ?_))
  subst h
  have low_ok : okP ("low", 0, 1) := show PyData.strOk "low" = true by decide +kernel
  refine sq (ds_forP (sl := [15]) (fun m item i γ' => m ≤ 20 ∧ ∃ (p : Place) (g15 g16 g17 : G), γ' = [.un, .v true .box, .v true (.int n), .v true (lint ks_), .v true (dShelves S), .v true (.lst (cs.map dTerms)), .v true (.lst (ss.map tint)), .v true (lint am), .v true (dTerms bd), .v true (dTerms ot), .v true (lint ins), .v true (dTerms os), .v true (dTerms exs), .v true (.lst (bls.map dBlock)), .v true (dPlace p), g15, g16, g17, .un, .un, .un, .un, .un, .un, .un, .un, .un, .un] ∧ okP p) (fun _ => PassesOwn.never) (fun _ => rfl)
    (dip_list (out := dPlace) (S := inS S) (N := 20) (call (S, n) L.places (fun _ => hr) (ac (v 4) (ac de_nil an)) hS)) (fun m item hC => ⟨hC.1, _, _, _, _, rfl, low_ok⟩) (fun m item hC i γ' d hi hI hd => ?_) (fun m item hC γ' hI => ?_) (fun _ _ => rfl))
  · obtain ⟨hm, p, g15, g16, g17, rfl, hP⟩ := hI
    obtain ⟨q, rfl, k, x, y, hf⟩ := hC.2 i d hi hd
    have hqP : okP q := by
      obtain ⟨s', _, e, _⟩ := hf
      show PyData.strOk q.1 = true
      rw [← e]; exact nm_ok k
    obtain ⟨lx, ly⟩ := far_len hS hf
    have lz := stp_len lx ly
    refine gn 15 (sq (set 16 (P := Is (.tup [tint x, tint y])) (DE.mono (call (S, q, n) L.far (fun _ => hr) (ac (v 4) (ac (v 15) an)) ⟨hS, hqP⟩) (fun d h => ?_)) (fun d h => ?_)))
    · rcases h with ⟨k', x', y', hf', rfl⟩ | ⟨hno, _⟩
      · obtain ⟨-, rfl, rfl⟩ := isP_eq hS4 hf hf'
        rfl
      · exact absurd ⟨k, x, y, hf⟩ hno
    · subst h
      refine sq (set 17 (call (x, y) L.step (fun _ => hr) (ac (ix (v 16) ki (.t _) (d := tint x) rfl) (ac (ix (v 16) ki (.t _) (d := tint y) rfl) an)) ⟨by rw [lx, ly], by dsimp only; omega⟩) (fun d h => ?_))
      subst h
      refine dss_one (ds_if (eqNil (n := 0) (fun _ => hr) (filt [("_law_mark", 27)] [27] D.int D.int ins (fun u => decide ((stp x y).getD u.toNat 0 ≠ 0)) (iL (v 10) rfl) (by omega) (fun u hm => ?_) hom_ints) de_nil (cmA_ints _ _)) (fun _ => ?_) (fun _ => ?_))
      · exact gn 27 ⟨dts_one (Tt.iff (dt_ciE ci_ne (ixI (vi 17 (hi := imm_tint _)) (v 27) (.t _) (at_map' D.int (hin2 u hm).1 (get_at lz (hin2 u hm)))) ki) (by simp)), fun _ => el (vi 27)⟩
      · refine dss_one (set 14 (v 15) (fun d h => ?_))
        subst h
        exact ⟨hm, q, _, _, _, rfl, hqP⟩
      · exact dss_nil ⟨hm, p, _, _, _, rfl, hP⟩
  obtain ⟨hm, p, g15, g16, g17, rfl, hP⟩ := hI
  refine sq (set 18 (P := Is (dRow3 ins exs bls)) (lstE (ac (v 10) (ac (v 12) (ac (v 13) an))) (hom_b rfl)) (fun d h => ?_))
  subst h
  refine sq (set 19 (call (n, S) L.evid (fun _ => hr) (ac (v 2) (ac (v 4) an)) ⟨hS, hn1, hn4⟩) (fun d h => ?_))
  subst h
  obtain ⟨ins0, ei⟩ : ∃ z, z = ins := ⟨_, rfl⟩
  obtain ⟨exs0, ee⟩ : ∃ z, z = exs := ⟨_, rfl⟩
  obtain ⟨bls0, eb⟩ : ∃ z, z = bls := ⟨_, rfl⟩
  have hcs : ∀ ts ∈ cs, (∀ t ∈ ts, vt n t) ∧ Clear ts S := fun ts ht => ⟨(hc2 ts ht).1.2, (hc2 ts ht).2⟩
  have hcl : ∀ ts ∈ cs, ts.length ≤ 1000 := fun ts ht => (hc2 ts ht).1.1
  have hEo := named_ok hS
  have hlet := lettersN_len hn4
  refine sq (for_ (sl := [20]) (fun i γ' => i ≤ 3 ∧ ∃ (am : List Int) (p : Place) (ins : List Int) (exs : List Term) (bls : List Block) (g20 g21 g22 g23 g24 : G), γ' = [.un, .v true .box, .v true (.int n), .v true (lint ks_), .v true (dShelves S), .v true (.lst (cs.map dTerms)), .v true (.lst (ss.map tint)), .v true (lint am), .v true (dTerms bd), .v true (dTerms ot), .v true (lint ins0), .v true (dTerms os), .v true (dTerms exs0), .v true (.lst (bls0.map dBlock)), .v true (dPlace p), g15, g16, g17, .v true (dRow3 ins exs bls), .v true (dEv (lettersN n) (named S)), g20, g21, g22, g23, g24, .un, .un, .un] ∧ am.length ≤ 100 + i ∧ okP p ∧ len3 (Lb i) ins exs bls ∧ ∀ b ∈ bls, okP b.2)
    (iR B ki (by decide) (by decide)) ⟨by decide, am, p, ins, exs, bls, _, _, _, _, _, by rw [ei, ee, eb]; rfl, by omega, hP, ⟨by show _ ≤ 200; omega, by show _ ≤ 200; omega, by show _ ≤ 200; omega⟩, hbP⟩ (fun i γ' d hi hI hd => ?_) (fun γ' hI => ?_))
  · obtain ⟨hi3, am, p, ins', exs', bls', g20, g21, g22, g23, g24, rfl, ham, hP, hlen, hbP⟩ := hI
    subst hd
    have hi3 : i < 3 := hi
    obtain ⟨hL1, hL2, hL3⟩ := Lb_step i hi3
    obtain ⟨l1, l2, l3⟩ := hlen
    refine gn 20 (sq (set 21 (call (n, S, (ins', exs', bls'), am, p) L.right (fun _ => hr) (ac (v 2) (ac (v 4) (ac (v 18) (ac (v 7) (ac (v 14) an))))) ⟨hS, by dsimp only; omega, by dsimp only; omega, by dsimp only; omega, by dsimp only; omega, hP, hbP⟩) (fun d h => ?_)))
    obtain ⟨due, rfl, hdue⟩ := h
    dsimp only at hdue
    refine sq (set 22 (mkGate (ins := ins') (exs := exs') (bls := bls') (am := am) (pl := p) GF (fun _ => hr) (tuple_ B (ix (v 18) ki (.l _) (d := lint ins') rfl) (.l _)) (tuple_ B (ix (v 18) ki (.l _) (d := dTerms exs') rfl) (.l _)) (tuple_ B (ix (v 18) ki (.l _) (d := .lst (bls'.map dBlock)) rfl) (.l _)) (tuple_ B (v 7) (.l _)) (v 14)) (fun d h => ?_))
    subst h
    refine sq (ds_if (φ := False) (Tt.iff (dt_w (dw_or (φ := False) (Tt.iff (dt_not (tv (φ := True) (callP (P := fun d => Vb True d) L.same (fun _ => hr) (acP (call ((lettersN n, named S, n), ins', exs', bls', am, p) L.judge (fun _ => hr) (ac (v 19) (ac (v 22) an)) ⟨hEo, hlet, by dsimp only; omega, by dsimp only; omega, by dsimp only; omega, by dsimp only; omega, hP, hbP⟩) (acP (v 21) an)) (fun ds h => ?_)))) (by simp)) fun _ => dw_or1 (φ := False) (Tt.iff (dt_w (dw_and (tv (blV (v 21))) fun hd => dw_and1 (φ := False) (Tt.iff (dt_not (tv (call (cs, (ins', exs', bls'), am) L.holds (fun _ => hr) (ac (v 5) (ac (v 18) (ac (v 7) an))) hcl))) ?_))) (by simp)))) (by simp)) (fun z => z.elim) (fun _ => dss_nil ?_))
    · obtain ⟨d1, r1, rfl, ⟨b1, rfl, hb1⟩, d2, r2, rfl, rfl, rfl⟩ := h
      refine ⟨(b1, due), rfl, rfl, trivial, fun d ⟨c, hc1, hc2'⟩ => ⟨c, hc1, hc2'.trans ⟨fun _ => trivial, fun _ => ?_⟩⟩⟩
      dsimp only at hb1
      rw [hb1, hdue]
      exact judge_right hS4
    · exact ⟨fun z => z (law_main hS (hdue.mp hd) hcs), fun z => z.elim⟩
    refine sq (set 23 (call (6 : Int) L.take (fun _ => hr) (ac (v 1) (ac ki an)) ⟨by decide, by decide⟩) (fun d h => ?_))
    obtain ⟨w, rfl, hw0, hw1⟩ := h
    refine dss_one (ds_if (dt_ciE ci_eq (v 23) ki) (fun _ => ?_) (fun _ => ?_))
    · refine sq (set 24 (P := Is (.lst (odd5.map dPlace))) (lstE (ac (tupE (ac ks (ac ki (ac ki an)))) (ac (tupE (ac ks (ac ki (ac ki an)))) (ac (tupE (ac ks (ac ki (ac ki an)))) (ac (tupE (ac ks (ac ki (ac ki an)))) (ac (tupE (ac ks (ac ki (ac ki an)))) an))))) (hom_b rfl)) (fun d h => ?_))
      subst h
      refine dss_one (set 14 (P := fun d => ∃ q, d = dPlace q ∧ okP q) (ixP (p := fun i => 0 ≤ i ∧ i < 6) (DE.mono (cat (v 24) (lstE (ac (tupE (ac (ixI (v 14) ki (.t _) rfl) (ac (ixI (v 14) ki (.t _) rfl) (ac (ixI (v 14) ki (.t _) rfl) an)))) an) (hom_map dPlace (fun _ => rfl) [(p.1, p.2.2, p.2.1)])) (by exact hom_map dPlace (fun _ => rfl) (odd5 ++ [(p.1, p.2.2, p.2.1)])) (by simp [odd5])) fun d h => h) (call (6 : Int) L.take (fun _ => hr) (ac (v 1) (ac ki an)) ⟨by decide, by decide⟩) (.l ((odd5 ++ [(p.1, p.2.2, p.2.1)]).map dPlace)) (fun i hi => ?_)) (fun d h => ?_))
      · obtain ⟨x, hx, e⟩ := at_any dPlace (l := odd5 ++ [(p.1, p.2.2, p.2.1)]) hi.1 (by show _ < ((6 : Nat) : Int); exact hi.2)
        refine ⟨_, e, x, rfl, ?_⟩
        rcases List.mem_append.mp hx with z | z
        · exact odd5_ok x z
        · rw [List.mem_singleton] at z; rw [z]; exact hP
      · obtain ⟨q, rfl, hq⟩ := h
        exact ⟨by omega, am, q, ins', exs', bls', _, _, _, _, _, rfl, by omega, hq, ⟨by omega, by omega, by omega⟩, hbP⟩
    · refine dss_one (ds_if (dt_ciE ci_eq (v 23) ki) (fun _ => ?_) (fun _ => ?_))
      · refine dss_one (set 7 (sliceG (N := 100 + i) (out := D.int) (S := fun _ => True) (DE.mono (v 7) fun d h => ⟨am, h, ham, fun _ _ => trivial⟩) (dpo_some ki) dpo_none hom_ints) (fun d h => ?_))
        obtain ⟨ys, rfl, hy, _⟩ := h
        exact ⟨by omega, ys, p, ins', exs', bls', _, _, _, _, _, rfl, by omega, hP, ⟨by omega, by omega, by omega⟩, hbP⟩
      · refine dss_one (ds_if (dt_ciE ci_eq (v 23) ki) (fun _ => ?_) (fun _ => ?_))
        · refine dss_one (set 7 (catP (N := 100 + i) (N' := 1) (out := D.int) (S := fun _ => True) (DE.mono (v 7) fun d h => ⟨am, h, ham, fun _ _ => trivial⟩) (one1 (DE.mono (subP (p := fun _ => True) (q := (· = 1)) (s := fun _ => True) (DE.mono (call ((n : Int) + 2) L.take (fun _ => hr) (ac (v 1) (ac (addE (v 2) ki) an)) ⟨by omega, by omega⟩) fun d h => IsI.mono h fun _ _ => trivial) ki.i (fun _ _ _ _ => trivial)) fun d ⟨z, h, _⟩ => ⟨z, h, trivial⟩) hom_ints) hom_ints (by omega)) (fun d h => ?_))
          obtain ⟨ys, rfl, hy, _⟩ := h
          exact ⟨by omega, ys, p, ins', exs', bls', _, _, _, _, _, rfl, by omega, hP, ⟨by omega, by omega, by omega⟩, hbP⟩
        · refine dss_one (set 18 (callS (n, ins', exs', bls', Lb i) L.bent (fun _ => hr) (ac (v 1) (ac (v 2) (ac (ix (v 18) ki (.l _) (d := lint ins') rfl) (ac (ix (v 18) ki (.l _) (d := dTerms exs') rfl) (ac (ix (v 18) ki (.l _) (d := .lst (bls'.map dBlock)) rfl) an))))) ⟨by dsimp only; omega, by dsimp only; omega, by dsimp only; omega, ⟨l1, l2, l3⟩, by dsimp only; omega, hn4, hbP⟩) (fun d h => ?_))
          obtain ⟨i2, e2, b2, rfl, ⟨k1, k2, k3⟩, hb2⟩ := h
          dsimp only at k1 k2 k3
          exact ⟨by omega, am, p, i2, e2, b2, _, _, _, _, _, rfl, by omega, hP, ⟨by omega, by omega, by omega⟩, hb2⟩
  · obtain ⟨hi3, am, p, ins', exs', bls', g20, g21, g22, g23, g24, rfl, _⟩ := hI
    exact dss_one (ret kb fun d h => h)
end K51

namespace K51
open PySem PySem.Spec PyProof.Rows L2 DL NdefX
/-! G8: Barrier.__init__ at a Gate, and Gate.__init__, that calls it by super(). -/
def spBinit (W : Wd) : Sp := fun vs H Q _ => ∃ x dx v1 v2 v3, vs = [.ref x, v1, v2, v3] ∧ H x = some (.ins (W.cl .gate) dx []) ∧ Q .non (upd H x (.ins (W.cl .gate) dx [("inside", v1), ("exits", v2), ("blocks", v3)]))
structure GatF (W : Wd) : Prop where
  c : Cls W.K (W.cl .gate)
  n1 : NoAttr W.K (W.cl .gate) "inside"
  n2 : NoAttr W.K (W.cl .gate) "exits"
  n3 : NoAttr W.K (W.cl .gate) "blocks"
  n4 : NoAttr W.K (W.cl .gate) "among"
  n5 : NoAttr W.K (W.cl .gate) "place"
theorem sc_binit : FnScope ["self", "inside", "exits", "blocks"] ["self", "inside", "exits", "blocks"] (defScope (cls 35 1)) := ⟨rfl, rfl, rfl, by decide +kernel, rfl, by decide +kernel, by decide +kernel⟩
theorem ok_binit {W : Wd} {f : Addr} {fd : FuncData} (F : FnP W "__init__" "Barrier.__init__" (cls 35 1) f fd) (C : GatF W) : FnOk W.P W.w W.K W.mg W.base CX0 1 f fd ["self", "inside", "exits", "blocks"] (spBinit W) := by
  refine F.ok sc_binit (fun vs H Q E h => ?_) fun cdv A outer s H vs Q E hr h => ?_
  · obtain ⟨x, dx, v1, v2, v3, rfl, _⟩ := h; rfl
  obtain ⟨x, dx, v1, v2, v3, rfl, h1, q⟩ := h
  have nd := sc_binit.nd
  refine ⟨_, PSs.nox (pss_cons (ps_fld (pe_var (i := 0) rfl (Or.inl rfl) (by decide +kernel) (by decide +kernel)) (pe_var (i := 1) rfl (Or.inl rfl) (by decide +kernel) (by decide +kernel)) rfl)
    (pss_cons (ps_fld (pe_var (i := 0) rfl (Or.inl rfl) (by decide +kernel) (by decide +kernel)) (pe_var (i := 2) rfl (Or.inl rfl) (by decide +kernel) (by decide +kernel)) rfl)
    (pss_one (ps_fld (pe_var (i := 0) rfl (Or.inl rfl) (by decide +kernel) (by decide +kernel)) (pe_var (i := 3) rfl (Or.inl rfl) (by decide +kernel) (by decide +kernel)) rfl)))), ?_⟩
  refine ⟨_, rfl, _, rfl, x, W.cl .gate, dx, [], rfl, h1, C.c, C.n1, by decide, ?_⟩
  refine ⟨_, rfl, _, rfl, x, W.cl .gate, dx, [("inside", v1)], rfl, by rw [upd_same]; rfl, C.c, C.n2, by show 1 < 1000; decide, ?_⟩
  refine ⟨_, rfl, _, rfl, x, W.cl .gate, dx, [("inside", v1), ("exits", v2)], rfl, by rw [upd_same]; rfl, C.c, C.n3, by show 2 < 1000; decide, ?_⟩
  rw [upd_upd, upd_upd]
  exact q
/-- what the head tells of Gate.__init__: its cell, its code record, the class above -/
structure GInit (W : Wd) (f c cc D g : Addr) : Prop where
  fn : ∃ oc od doc pm an ct osl, W.K.lookup f = some ⟨oc, od, .func (PySem.W.fnX "__init__" "Gate.__init__" (defArgs (cls 36 1)) (defBody (cls 36 1)) (defScope (cls 36 1)) [("__class__", cc)] .none .none doc pm an (.ref c) ct), osl⟩
  code : PySem.W.codeIn W.K (.ref c) "Gate.__init__" = true
  rec_ : ∃ oc vs t osl file tf, W.K.lookup c = some ⟨oc, t, .fields vs, osl⟩ ∧ vs[2]? = some (.str file tf) ∧ ((W.P.main.file : Str) == file) = true
  top_ : (W.P.main.scope.names.lookup ("super" : Str)).isSome = false
  cell : ∃ o d sl, W.K.lookup cc = some ⟨o, d, .cell (some (.ref D)), sl⟩
  cls : ∃ cd, PySem.W.clsIn W.K D = some cd
  own : ∃ cd, PySem.W.clsIn W.K (W.cl .gate) = some cd
  sub : PySem.W.mroIn W.K (W.cl .gate) (.ref D) = some true
  stat : PySem.W.nsIn W.K cStatics "thirdparty.any" = some none
  sup : PySem.W.ks_superIn W.K (W.cl .gate) D "__init__" = some (some (.ref g))
  ty : PySem.W.typeIn W.K (.ref g) = some (.type "function")
  fi : PySem.W.fnIn W.K g = true
  init : FnR W.P W.w W.K W.mg W.base CX0 1 g (spBinit W)
theorem sc_ginit : NScope ["self", "inside", "exits", "blocks", "among", "place", "__class__"] ["self", "inside", "exits", "blocks", "among", "place"] ["__class__"] (defScope (cls 36 1)) := nscope_by (by decide +kernel)
abbrev gN : List Str := ["self", "inside", "exits", "blocks", "among", "place", "__class__"]
abbrev gF (c cc : Addr) : NF := ⟨"__init__", "Gate.__init__", defArgs (cls 36 1), defBody (cls 36 1), defScope (cls 36 1), [("__class__", cc)], c⟩
abbrev gX (W : Wd) (f c cc : Addr) (A : Around) (outer : List Env) (s : Shared) (H : Hp) (E : XK) : Cx := ncx CX0 W.P W.w W.K W.mg W.base gN (gF c cc) f A outer s H E
theorem inst_at {X : Cx} {pins : List (Addr × Obj)} {σ : L2.St} {H : Hp} {s : Shared} {x C dx : Addr} {fs : List (Str × V)} (I : Inv X pins σ H s) (h : H x = some (.ins C dx fs)) : ∃ od, PySem.W.InstAt s.heap x (PySem.W.instObj C dx) C (some od) := by
  obtain ⟨mA, O, _⟩ := ins_get I.hok h
  obtain ⟨od, J, _⟩ := O.look
  exact ⟨od, J⟩
theorem ginit_body {W : Wd} {f c cc D g : Addr} (G : GInit W f c cc D g) (C : GatF W) (B : Bn W) {A : Around} {outer : List Env} {s s1 : Shared} {H : Hp} {E : XK} {Q : VK} {x dx : Addr} {v1 v2 v3 v4 v5 : V}
    (I : Inv (gX W f c cc A outer s H E) [] (startF gN [V.ref x, v1, v2, v3, v4, v5] [none]) H s1) (hr1 : Room 1 (gX W f c cc A outer s H E).A) (hx : H x = some (.ins (W.cl .gate) dx []))
    (q : Q .non (upd H x (.ins (W.cl .gate) dx [("inside", v1), ("exits", v2), ("blocks", v3), ("among", v4), ("place", v5)]))) :
    PySem.wpAt (model W.P W.w) (gX W f c cc A outer s H E).A (.func (defBody (cls 36 1)) (gX W f c cc A outer s H E).env) (execs (defBody (cls 36 1)) (gX W f c cc A outer s H E).env) (SP (gX W f c cc A outer s H E) [] { nx := fun _ H' => Q .non H', rt := Q }) (gX W f c cc A outer s H E).xe s1 := by
  have S := sc_ginit
  have nd : gN.Nodup := by decide +kernel
  obtain ⟨oc, od, doc, pm, an, ct, osl, lk⟩ := G.fn
  obtain ⟨rc, rvs, rt, rsl, file, tf, rlk, rv2, rfile⟩ := G.rec_
  obtain ⟨cdD, hD⟩ := G.cls
  obtain ⟨cdC, hC⟩ := G.own
  obtain ⟨co, cd_, csl, hcell⟩ := G.cell
  refine PySem.ks_wpAt_execs_cons (st := (defBody (cls 36 1)).getD 0 (.Pass ⟨0, 0, 0, 0⟩)) (rest := (defBody (cls 36 1)).drop 1) ?_
  refine PySem.ks_wpAt_Expr_any (PySem.ks_wpAt_MethodCall ?_)
  have KX : W.K.In s1.heap := I.kIn
  refine PySem.ks_wpAt_super_base (env := (gX W f c cc A outer s H E).env) rfl rfl rfl rfl (KX _ _ lk) rfl rfl rfl (KX _ _ rlk) rfl rv2 rfile G.top_ ?_
  obtain ⟨oD, hD1, hD2⟩ : ∃ oD, s1.heap.get? D = some oD ∧ oD.data = .cls cdD := by
    unfold PySem.W.clsIn at hD
    split at hD
    · rename_i c' d' cd' sl' ho'
      cases hD
      exact ⟨_, KX _ _ ho', rfl⟩
    · cases hD
  obtain ⟨mb, hm1, hm2⟩ := I.ok.mod.blt
  obtain ⟨ml, hml1, hml2⟩ := I.loc
  obtain ⟨od', J⟩ := inst_at I hx
  have hne := PySem.W.ks_ne KX J hC
  have selfv : ml "self" = some (.ref x) := by
    obtain ⟨u, ru, h⟩ := hml2 0 "self" (.ref x) rfl rfl (Or.inl rfl)
    obtain rfl : u = .ref x := ru
    rcases h with ⟨_, h⟩ | ⟨h, _⟩
    · exact h
    · have e : (gX W f c cc A outer s H E).env.kindOf "self" = some .local := rfl
      rw [e] at h
      rcases h with h | h <;> cases h
  refine PySem.W.ks_loadName_global S.kind rfl (Calls.loadGlobal_builtin (by rw [I.ok.glob]; exact I.ok.mod.glob.keeps I.bk) B.super_ (by rw [I.ok.blt]; exact hm1.keeps I.bk) ((hm2 "super" (by decide)).trans (by decide +kernel)) ⟨rfl, ?_⟩)
  refine wpAny_loadName_free S.kind rfl rfl ⟨_, KX _ _ hcell, rfl⟩ ?_
  refine wpAny_loadName_local S.kind rfl hml1 selfv ?_
  obtain ⟨hh, gg, dd, tt, oo⟩ := s1
  refine PySem.ks_wpAny_isType_cls hD1 hD2 ⟨rfl, ?_⟩
  refine PySem.ks_wpAny_call_super hD1 hD2 J.at_ J.cls (fun c e => nomatch e) (PySem.W.looks_mroIn KX G.sub) (fun h' e k => ?_)
  have I2 := ClX.pin_new (t' := tt) I k (Nat.le_refl _) e (fun v z => nomatch z)
  have X2 : W.K.In h' := I2.kIn
  have hsup := G.sup
  unfold PySem.W.ks_superIn at hsup
  rw [hC] at hsup
  obtain ⟨of, hof, hofc⟩ : ∃ of, h'.get? g = some of ∧ of.cls = .type "function" := by
    have ht' : (W.K.lookup g).map (·.cls) = some (.type "function") := G.ty
    cases z : W.K.lookup g with
    | none => rw [z] at ht'; cases ht'
    | some of => rw [z] at ht'; exact ⟨of, X2 _ _ z, Option.some.inj ht'⟩
  refine PySem.ks_wpAny_getMethod_super e (PySem.W.looks_opaque X2 G.stat) (l₀ := cdC.mro) (fun A Q E s k q => wpAny_bind ((PySem.W.looks_clsIn X2 hC) A _ E s k (wpAny_pure q))) rfl X2 hsup hof hofc hne (by decide) ?_
  have I3 := ClX.met_new (g := g) (C := x) I2
  refine ClX.callwith_cm I3 (ClX.base_none I2 (Nat.le_refl _)) G.fi (thn ((pa_cons (pe_var (i := 1) rfl (Or.inl rfl) (by decide +kernel) (by decide +kernel)) (pa_cons (pe_var (i := 2) rfl (Or.inl rfl) (by decide +kernel) (by decide +kernel)) (pa_cons (pe_var (i := 3) rfl (Or.inl rfl) (by decide +kernel) (by decide +kernel)) pa_nil))).run _ _ _ _ _ (fun vs H2 => spBinit W (.ref x :: vs) H2 (fun v H' => H' = upd H x (.ins (W.cl .gate) dx [("inside", v1), ("exits", v2), ("blocks", v3)])) E0) I3 ?_) fun us s3 ⟨vs, H2, I4, rv, q2⟩ => ⟨⟨ClX.pin_at I4, I4.kIn⟩, ?_⟩) rfl rfl
  · exact ⟨_, rfl, _, rfl, _, rfl, x, dx, v1, v2, v3, rfl, hx, rfl⟩
  refine thn (ClX.run_cm G.init hr1 pass0 I4 rv q2) fun v s4 ⟨v', H', I5, _, q5⟩ => ?_
  subst q5
  have I6 := ClX.unpin I5
  refine wpAt_of_wpAny ((pss_cons (ps_fld (pe_var (i := 0) rfl (Or.inl rfl) (by decide +kernel) (by decide +kernel)) (pe_var (i := 4) rfl (Or.inl rfl) (by decide +kernel) (by decide +kernel)) rfl)
    (pss_one (ps_fld (pe_var (i := 0) rfl (Or.inl rfl) (by decide +kernel) (by decide +kernel)) (pe_var (i := 5) rfl (Or.inl rfl) (by decide +kernel) (by decide +kernel)) rfl))).run [] _ _ _ _ I6 ?_)
  refine ⟨_, rfl, _, rfl, x, W.cl .gate, dx, _, rfl, upd_same, C.c, C.n4, by show 3 < 1000; decide, ?_⟩
  refine ⟨_, rfl, _, rfl, x, W.cl .gate, dx, [("inside", v1), ("exits", v2), ("blocks", v3), ("among", v4)], rfl, by rw [upd_same]; rfl, C.c, C.n5, by show 4 < 1000; decide, ?_⟩
  rw [upd_upd, upd_upd]
  exact q
theorem ok_ginit {W : Wd} {f c cc D g : Addr} (G : GInit W f c cc D g) (C : GatF W) (B : Bn W) : FnR W.P W.w W.K W.mg W.base CX0 2 f (spGinit W) := by
  intro A outer s H us vs Q E hr e0 r hsp
  have S := sc_ginit
  have KX : W.K.In s.heap := e0.mod.kin.keeps fun b o e => (e0.bs b o e).1
  have lim : s.heap.NoLimit := e0.mod.nolimit.keeps fun b o e => (e0.bs b o e).1
  obtain ⟨x, dx, v1, v2, v3, v4, v5, rfl, hx, q⟩ := hsp
  obtain ⟨oc, od, doc, pm, an, ct, osl, lk⟩ := G.fn
  have ho := KX _ _ lk
  have hl : ([V.ref x, v1, v2, v3, v4, v5] : List V).length = 6 := rfl
  have hul : us.length = 6 := by rw [← r.length]; rfl
  refine codeAny_call_function hr.depth ho rfl S.co S.gen rfl (PySem.W.codeRec_of KX G.code) ?_
  have hb : bindArgs (PySem.W.fnX "__init__" "Gate.__init__" (defArgs (cls 36 1)) (defBody (cls 36 1)) (defScope (cls 36 1)) [("__class__", cc)] .none .none doc pm an (.ref c) ct) ⟨us, []⟩ = pure ((["self", "inside", "exits", "blocks", "among", "place"] : List Str).zip us) := by
    match us, hul with
    | [_, _, _, _, _, _], _ => rfl
  rw [hb]
  let F : NF := ⟨"__init__", "Gate.__init__", defArgs (cls 36 1), defBody (cls 36 1), defScope (cls 36 1), [("__class__", cc)], c⟩
  refine wpAny_pure (wpAny_newFunctionEnv S.nocell (fun ⟨n, _⟩ hy => S.par n (List.of_mem_zip hy).1) (fun h₁ hns hsb => ⟨lim.fresh _ hsb, ?_⟩) S.kind)
  show codeAny _ _ (.func F.body (envF F f s.heap.objs.size)) _ _
  have kp : ∀ b o, s.heap.get? b = some o → h₁.get? b = some o := fun b o e => hsb.extBut b o (Nat.ne_of_lt (Heap.lt_size e)) (Heap.get?_push_of_some _ e)
  obtain ⟨co, cd_, csl, hcell⟩ := G.cell
  have CA : CellsAt F.cl ["__class__"] [none] s.heap H := by
    have one : ∀ y c', F.cl.lookup y = some c' → y = "__class__" ∧ c' = cc := fun y c' e => by
      have m := PySem.mem_of_lookup e
      have m : (y, c') ∈ [(("__class__" : Str), cc)] := m
      rw [List.mem_singleton] at m
      cases m; exact ⟨rfl, rfl⟩
    refine ⟨rfl, fun y c' e => ?_, fun y z c' e1 e2 => by rw [(one y c' e1).1, (one z c' e2).1], fun i y hy => ?_⟩
    · obtain ⟨_, rfl⟩ := one y c' e
      exact ⟨(e0.bs _ _ (e0.mod.kin _ _ hcell)).2, _, _, KX _ _ hcell, rfl⟩
    · have : y = "__class__" := by
        have := List.mem_of_getElem? hy
        rwa [List.mem_singleton] at this
      subst this
      refine ⟨cc, rfl, fun v hv => ?_⟩
      have := List.mem_of_getElem? hv
      rw [List.mem_singleton] at this
      cases this
  have I : Inv (ncx CX0 W.P W.w W.K W.mg W.base ["self", "inside", "exits", "blocks", "among", "place", "__class__"] F f A outer s H E) [] (startF ["self", "inside", "exits", "blocks", "among", "place", "__class__"] [V.ref x, v1, v2, v3, v4, v5] [none]) H { s with heap := h₁, toks := s.toks + ((["self", "inside", "exits", "blocks", "among", "place"] : List Str).zip us).length } :=
    inv_startN S hr.hd e0 hl r CA hns kp
  have hr1 : Room 1 (ncx CX0 W.P W.w W.K W.mg W.base ["self", "inside", "exits", "blocks", "among", "place", "__class__"] F f A outer s H E).A := hr.deeper _
  refine PySem.ks_codeAny_funcAt ?_
  refine PySem.ks_wpAt_mono (ginit_body (Q := Q) G C B I hr1 hx q) (fun fl s' hs => ?_) (fun e s' hs => hs)
  have fin : ∀ {σ' : L2.St} {H' : Hp} {v : V} {u : Value}, Inv (ncx CX0 W.P W.w W.K W.mg W.base ["self", "inside", "exits", "blocks", "among", "place", "__class__"] F f A outer s H E) [] σ' H' s' → L2.RelV v u → Q v H' → CE outer W.P W.w H s Q u s' :=
      fun {σ' H' v u} J rv q => ⟨v, H', J.os, J.bare, J.base, J.hok, rv, q⟩
  cases fl with
  | ret u =>
    obtain ⟨v, σ', H', J, rv, q⟩ := hs
    exact fin J rv q
  | next =>
    obtain ⟨σ', H', J, q⟩ := hs
    exact fin (v := V.non) (u := Value.none) J rfl q
  | brk =>
    obtain ⟨_, _, _, q⟩ := hs
    exact False.elim q
  | cont =>
    obtain ⟨_, _, _, q⟩ := hs
    exact False.elim q
end K51

namespace K51
open PySem PySem.Spec PyProof.Rows L2 DL
theorem ok_law {W : Wd} {f : Addr} {fd : FuncData} (F : FnP W "law" "law" (top 66) f fd) (B : Bn W) (L : LawF W) (GF : GateF W) : FnOk W.P W.w W.K W.mg W.base CX0 12 f fd ["_law_script"] (spLaw W) := by
  refine F.ok sc_law (fun vs H Q E h => ?_) fun cdv A outer s H vs Q E hr h => ?_
  · obtain ⟨a, ns, rfl, _⟩ := h; rfl
  obtain ⟨a, ns, rfl, sq, hl, q⟩ := h
  have nd := sc_law.nd
  obtain ⟨fb, fdb, Fb, hmb, hkb, hbb⟩ := L.box
  have hr : Room 11 (bodyX W lawN "law" (top 66) f cdv A outer s H E).A := hr
  refine (fun ⟨t, h1, h2⟩ => ⟨t, PSs.nox h1, h2⟩) (show ∃ t, PSs (bodyX W lawN "law" (top 66) f cdv A outer s H E) (defBody (top 66)) t ∧ _ from ⟨rSs (fun _ : Unit => bodyX W lawN "law" (top 66) f cdv A outer s H E) (defBody (top 66)), pssR (X := fun _ : Unit => bodyX W lawN "law" (top 66) f cdv A outer s H E) (), ?_⟩)
  refine vs_cons ⟨_, fun _ => ps_set (i := 1) nd rfl (Or.inl rfl) (pe_call Fb (hr.mono (by decide)) rfl hmb hkb hbb .nil pass0 (pa_cons (pe_var (i := 0) rfl (Or.inl rfl) (by decide +kernel) (by decide +kernel)) pa_nil)), ?_⟩
  refine ⟨_, rfl, a, ns, rfl, sq, hl, fun v H' k r => ?_⟩
  have EO0 : EO W.K W.cl (fun _ => False) H H (L2.start lawN [.ref a]) (g0 false lawN [D.raw a]) := eo_start (f := false) (fun _ z => z.elim) (.cons (.raw a) .nil)
  have EO1 : EO W.K W.cl (fun _ => False) H H' (L2.start lawN [.ref a]) (List.replicate 28 .un) := (EO0.go k).sub rfl fun i g h => .inl (List.eq_of_mem_replicate (List.mem_of_getElem? h))
  have r1 : Dt W.K W.cl (RN mF (fun _ => False) (L2.start lawN [.ref a]) (List.replicate 28 .un)) H' v .box := r.tr (.weak fun p h => by
    rcases h with ⟨_, z⟩ | ⟨_, i, ds, z, _⟩
    · exact z.elim
    · have := List.eq_of_mem_replicate (List.mem_of_getElem? z); cases this)
  have EO2 := EO1.set_v (j := 1) (by decide) r1 rfl
  refine law_body B L GF hr _ H H' _ EO2 _ (fun _ _ _ _ z => z.elim) (fun _ _ _ _ z => z.elim) (fun _ _ _ _ z => z.elim) (fun v H2 d k' p r' => ?_)
  have p : d = .bl true := p
  subst p
  cases r' with
  | bl => exact q _
end K51

/-! HD: the head: the defs of the text and the facts of its classes, told by a Hook; the run of the top. -/
namespace K51
open PySem PySem.Spec PyProof.Rows L2
/-- a def: where it stands, its names, its statement, its defaults -/
structure DefX where
  at_ : PySem.W.Frag → Addr
  name : Str
  qual : Str
  st : Stmt
  dfl : List He.Dv
def fnWX (K : PySem.W.Frag) (a : Addr) : He.FnW := match K.lookup a with
  | some ⟨_, _, .func fd, _⟩ => some (fd.name, fd.qualname, fd.params, fd.body, fd.scope, fd.globals, fd.closure, fd.builtins)
  | _ => none
def DefX.val (d : DefX) : He.FnW := some (d.name, d.qual, defArgs d.st, .stmts (defBody d.st), defScope d.st, mainGlobals, [], builtinsNs)
def DefX.dvs (K : PySem.W.Frag) (d : DefX) : List V := d.dfl.map (He.Dv.v K)
def DefX.ok (K : PySem.W.Frag) (d : DefX) : Bool := PySem.W.keepIn K (.ref (d.at_ K)) && (match K.lookup (d.at_ K) with
  | some ⟨_, _, .func fd, _⟩ => PySem.W.codeIn K fd.code d.qual && (He.dflB K fd.defaults (d.dvs K) && He.kwdB K fd.kwdefaults [])
  | _ => false)
theorem DefX.funD {K : PySem.W.Frag} {d : DefX} (e : fnWX K (d.at_ K) = d.val) (c : d.ok K = true) : ∃ fd, FunD K d.name d.qual (defArgs d.st) (defBody d.st) (defScope d.st) (d.dvs K) [] (d.at_ K) fd := by
  obtain ⟨kp, c2⟩ := He.ba c
  unfold fnWX at e
  cases q : K.lookup (d.at_ K) with
  | none =>
    rw [q] at c2
    cases c2
  | some o =>
    obtain ⟨oc, od, dt, osl⟩ := o
    rw [q] at c2 e
    cases dt with
    | func fd =>
      obtain ⟨n1, n2, n3, n4, n5, n6, n7, n8, n9, n10, n11, n12, n13, n14, n15⟩ := fd
      have e2 : (some (n1, n2, n3, n4, n5, n6, n7, n15) : He.FnW) = some (d.name, d.qual, defArgs d.st, .stmts (defBody d.st), defScope d.st, mainGlobals, [], builtinsNs) := e
      simp only [Option.some.injEq, Prod.mk.injEq] at e2
      obtain ⟨h1, h2, h3, h4, h5, h6, h7, h8⟩ := e2
      subst h1 h2 h3 h4 h5 h6 h7 h8
      have c3 : (PySem.W.codeIn K n13 d.qual && (He.dflB K n8 (d.dvs K) && He.kwdB K n9 [])) = true := c2
      obtain ⟨k1, k2⟩ := He.ba c3
      obtain ⟨k3, k4⟩ := He.ba k2
      exact ⟨_, ⟨oc, od, n8, n9, n10, n11, n12, n13, n14, osl, rfl, q, k1, He.dflB_ok k3, He.kwdB_ok k4⟩, kp⟩
    | _ => cases c2
/-- a property's getter, a classmethod's def -/
def inRec (T : String) (c m : Str) (K : PySem.W.Frag) : Addr := match PySem.W.recIn K (He.ma K (He.ga K c) m) T with
  | some (.ref g :: _) => g
  | _ => 0
def propG (c m : Str) (K : PySem.W.Frag) : Addr := inRec "property" c m K
def cmG (c m : Str) (K : PySem.W.Frag) : Addr := inRec "classmethod" c m K
def loose0 : List Str := ["_wall", "__name__", "ShelfError", "InvalidCatalog", "InvalidBook", "InvalidName", "DuplicateShelf", "UnknownShelf", "UnlikeCatalogs", "InvalidSpot", "InvalidPlace", "LETTERS", "LIMIT", "is_name", "is_integer", "is_value", "Catalog", "all_terms", "step_between", "check_books", "is_spot", "check_spots", "is_place", "Evidence", "are_marks", "agrees", "closes", "judge_gate", "MOST_MARKS", "Paper"]
def loose1 : List Str := ["Barrier", "Gate", "_law_box", "_law_take", "_law_count", "_law_kinds", "_law_value", "_law_book", "_law_rule", "_law_compare", "_law_sorted", "_law_shelves", "_law_name", "_law_evidence", "_law_free", "_law_ways", "_law_closure", "_law_places", "_law_step", "_law_steps", "_law_terms", "_law_blocks", "_law_bent", "_law_far", "_law_shut", "_law_parts_of_rules", "_law_clear", "_law_same", "_law_right", "_law_holds"]
abbrev loose : List Str := loose0 ++ loose1
def d0 : DefX := ⟨fun K => He.fAd K ("is_name", none), "is_name", "is_name", (top 14), []⟩ -- is_name
def d1 : DefX := ⟨fun K => He.fAd K ("is_integer", none), "is_integer", "is_integer", (top 15), []⟩ -- is_integer
def d2 : DefX := ⟨fun K => He.fAd K ("is_value", none), "is_value", "is_value", (top 16), []⟩ -- is_value
def d3 : DefX := ⟨fun K => He.fAd K ("all_terms", none), "all_terms", "all_terms", (top 19), []⟩ -- all_terms
def d4 : DefX := ⟨fun K => He.fAd K ("step_between", none), "step_between", "step_between", (top 20), []⟩ -- step_between
def d5 : DefX := ⟨fun K => He.fAd K ("check_books", none), "check_books", "check_books", (top 22), []⟩ -- check_books
def d6 : DefX := ⟨fun K => He.fAd K ("is_spot", none), "is_spot", "is_spot", (top 23), []⟩ -- is_spot
def d7 : DefX := ⟨fun K => He.fAd K ("is_place", none), "is_place", "is_place", (top 25), []⟩ -- is_place
def d8 : DefX := ⟨fun K => He.fAd K ("are_marks", none), "are_marks", "are_marks", (top 28), []⟩ -- are_marks
def d9 : DefX := ⟨fun K => He.fAd K ("agrees", none), "agrees", "agrees", (top 29), []⟩ -- agrees
def d10 : DefX := ⟨fun K => He.fAd K ("closes", none), "closes", "closes", (top 30), []⟩ -- closes
def d11 : DefX := ⟨fun K => He.fAd K ("judge_gate", none), "judge_gate", "judge_gate", (top 31), []⟩ -- judge_gate
def d12 : DefX := ⟨fun K => He.fAd K ("_law_box", none), "_law_box", "_law_box", (top 38), []⟩ -- _law_box
def d13 : DefX := ⟨fun K => He.fAd K ("_law_take", none), "_law_take", "_law_take", (top 39), []⟩ -- _law_take
def d14 : DefX := ⟨fun K => He.fAd K ("_law_count", none), "_law_count", "_law_count", (top 40), []⟩ -- _law_count
def d15 : DefX := ⟨fun K => He.fAd K ("_law_kinds", none), "_law_kinds", "_law_kinds", (top 41), []⟩ -- _law_kinds
def d16 : DefX := ⟨fun K => He.fAd K ("_law_value", none), "_law_value", "_law_value", (top 42), []⟩ -- _law_value
def d17 : DefX := ⟨fun K => He.fAd K ("_law_book", none), "_law_book", "_law_book", (top 43), []⟩ -- _law_book
def d18 : DefX := ⟨fun K => He.fAd K ("_law_rule", none), "_law_rule", "_law_rule", (top 44), []⟩ -- _law_rule
def d19 : DefX := ⟨fun K => He.fAd K ("_law_compare", none), "_law_compare", "_law_compare", (top 45), []⟩ -- _law_compare
def d20 : DefX := ⟨fun K => He.fAd K ("_law_sorted", none), "_law_sorted", "_law_sorted", (top 46), []⟩ -- _law_sorted
def d21 : DefX := ⟨fun K => He.fAd K ("_law_shelves", none), "_law_shelves", "_law_shelves", (top 47), []⟩ -- _law_shelves
def d22 : DefX := ⟨fun K => He.fAd K ("_law_name", none), "_law_name", "_law_name", (top 48), []⟩ -- _law_name
def d23 : DefX := ⟨fun K => He.fAd K ("_law_evidence", none), "_law_evidence", "_law_evidence", (top 49), []⟩ -- _law_evidence
def d24 : DefX := ⟨fun K => He.fAd K ("_law_free", none), "_law_free", "_law_free", (top 50), []⟩ -- _law_free
def d25 : DefX := ⟨fun K => He.fAd K ("_law_ways", none), "_law_ways", "_law_ways", (top 51), []⟩ -- _law_ways
def d26 : DefX := ⟨fun K => He.fAd K ("_law_closure", none), "_law_closure", "_law_closure", (top 52), []⟩ -- _law_closure
def d27 : DefX := ⟨fun K => He.fAd K ("_law_places", none), "_law_places", "_law_places", (top 53), []⟩ -- _law_places
def d28 : DefX := ⟨fun K => He.fAd K ("_law_step", none), "_law_step", "_law_step", (top 54), []⟩ -- _law_step
def d29 : DefX := ⟨fun K => He.fAd K ("_law_steps", none), "_law_steps", "_law_steps", (top 55), []⟩ -- _law_steps
def d30 : DefX := ⟨fun K => He.fAd K ("_law_terms", none), "_law_terms", "_law_terms", (top 56), []⟩ -- _law_terms
def d31 : DefX := ⟨fun K => He.fAd K ("_law_blocks", none), "_law_blocks", "_law_blocks", (top 57), []⟩ -- _law_blocks
def d32 : DefX := ⟨fun K => He.fAd K ("_law_bent", none), "_law_bent", "_law_bent", (top 58), []⟩ -- _law_bent
def d33 : DefX := ⟨fun K => He.fAd K ("_law_far", none), "_law_far", "_law_far", (top 59), []⟩ -- _law_far
def d34 : DefX := ⟨fun K => He.fAd K ("_law_shut", none), "_law_shut", "_law_shut", (top 60), []⟩ -- _law_shut
def d35 : DefX := ⟨fun K => He.fAd K ("_law_parts_of_rules", none), "_law_parts_of_rules", "_law_parts_of_rules", (top 61), []⟩ -- _law_parts_of_rules
def d36 : DefX := ⟨fun K => He.fAd K ("_law_clear", none), "_law_clear", "_law_clear", (top 62), []⟩ -- _law_clear
def d37 : DefX := ⟨fun K => He.fAd K ("_law_same", none), "_law_same", "_law_same", (top 63), []⟩ -- _law_same
def d38 : DefX := ⟨fun K => He.fAd K ("_law_right", none), "_law_right", "_law_right", (top 64), []⟩ -- _law_right
def d39 : DefX := ⟨fun K => He.fAd K ("_law_holds", none), "_law_holds", "_law_holds", (top 65), []⟩ -- _law_holds
def d40 : DefX := ⟨fun K => He.fAd K ("law", none), "law", "law", (top 66), []⟩ -- law
def d41 : DefX := ⟨fun K => He.fAd K ("Catalog", some "__init__"), "__init__", "Catalog.__init__", (cls 17 1), []⟩ -- Catalog.__init__
def d42 : DefX := ⟨fun K => He.fAd K ("Catalog", some "is_book"), "is_book", "Catalog.is_book", (cls 17 4), []⟩ -- Catalog.is_book
def d43 : DefX := ⟨fun K => He.fAd K ("Catalog", some "__len__"), "__len__", "Catalog.__len__", (cls 17 6), []⟩ -- Catalog.__len__
def d44 : DefX := ⟨fun K => He.fAd K ("Evidence", some "__init__"), "__init__", "Evidence.__init__", (cls 26 1), [.adr fun K => He.dflAt ("Evidence", some "__init__") 0 K]⟩ -- Evidence.__init__
def d45 : DefX := ⟨fun K => He.fAd K ("Evidence", some "with_shelf"), "with_shelf", "Evidence.with_shelf", (cls 26 4), []⟩ -- Evidence.with_shelf
def d46 : DefX := ⟨fun K => He.fAd K ("Evidence", some "with_books"), "with_books", "Evidence.with_books", (cls 26 5), []⟩ -- Evidence.with_books
def d47 : DefX := ⟨fun K => He.fAd K ("Evidence", some "joined"), "joined", "Evidence.joined", (cls 26 7), []⟩ -- Evidence.joined
def d48 : DefX := ⟨fun K => He.fAd K ("Evidence", some "pair"), "pair", "Evidence.pair", (cls 26 11), []⟩ -- Evidence.pair
def d49 : DefX := ⟨fun K => He.fAd K ("Evidence", some "step"), "step", "Evidence.step", (cls 26 12), []⟩ -- Evidence.step
def d50 : DefX := ⟨fun K => He.fAd K ("Evidence", some "__getitem__"), "__getitem__", "Evidence.__getitem__", (cls 26 16), []⟩ -- Evidence.__getitem__
def d51 : DefX := ⟨fun K => He.fAd K ("Evidence", some "__contains__"), "__contains__", "Evidence.__contains__", (cls 26 19), []⟩ -- Evidence.__contains__
def d52 : DefX := ⟨fun K => He.fAd K ("Barrier", some "__init__"), "__init__", "Barrier.__init__", (cls 35 1), []⟩ -- Barrier.__init__
def d53 : DefX := ⟨propG "Evidence" "shelf_names", "shelf_names", "Evidence.shelf_names", (cls 26 3), []⟩ -- Evidence.shelf_names
def d54 : DefX := ⟨cmG "Catalog" "numbered", "numbered", "Catalog.numbered", (cls 17 2), []⟩ -- Catalog.numbered
def fns : List DefX := [d0, d1, d2, d3, d4, d5, d6, d7, d8, d9, d10, d11, d12, d13, d14, d15, d16, d17, d18, d19, d20, d21, d22, d23, d24, d25, d26, d27, d28, d29, d30, d31, d32, d33, d34, d35, d36, d37, d38, d39, d40, d41, d42, d43, d44, d45, d46, d47, d48, d49, d50, d51, d52, d53, d54]

def fa : List He.Fa := [.glo "law", .glo "Catalog", .glo "Evidence", .glo "Gate", .glo "Barrier", .cls "Catalog", .cls "Evidence", .cls "Gate", .int "LIMIT" 1000000000000, .str "LETTERS" "abcdefghijklmnopqrstuvwxyz",
  .free "len", .free "list", .free "tuple", .free "int", .free "bool", .free "str", .free "max", .free "min", .free "sorted", .free "range", .free "isinstance", .free "zip", .free "enumerate", .free "super",
  .noat "Catalog" "names", .noat "Evidence" "catalog", .noat "Evidence" "rows", .noat "Gate" "inside", .noat "Gate" "exits", .noat "Gate" "blocks", .noat "Gate" "among", .noat "Gate" "place",
  .meth "Catalog" "is_book", .meth "Catalog" "__len__", .meth "Evidence" "with_shelf", .meth "Evidence" "with_books", .meth "Evidence" "joined", .meth "Evidence" "pair", .meth "Evidence" "step", .meth "Evidence" "__getitem__", .meth "Evidence" "__contains__", .mkr "Catalog", .mkr "Evidence", .mkr "Gate"]
abbrev AlX : Type := Bool × List He.FnW
/-- facts beside those: told by a Bool -/
def evA (K : PySem.W.Frag) : Addr := He.ga K "Evidence"
def caA (K : PySem.W.Frag) : Addr := He.ga K "Catalog"
def gaA (K : PySem.W.Frag) : Addr := He.ga K "Gate"
def baA (K : PySem.W.Frag) : Addr := He.ga K "Barrier"
def evP (K : PySem.W.Frag) : Addr := He.ma K (evA K) "shelf_names"
def evW (K : PySem.W.Frag) : Addr := He.ma K (evA K) "with_shelf"
def caN (K : PySem.W.Frag) : Addr := He.ma K (caA K) "numbered"
def baI (K : PySem.W.Frag) : Addr := He.fAd K ("Barrier", some "__init__")
def gaI (K : PySem.W.Frag) : Addr := He.ma K (gaA K) "__init__"
def isRec (o : Option (List Value)) : Bool := match o with
  | some (.ref _ :: _) => true
  | _ => false
def x1 (K : PySem.W.Frag) : Bool := He.eqO (PySem.W.findIn K (.ref (evA K)) "shelf_names") (some (some (.ref (evP K)))) && (He.eqO (PySem.W.specialIn K (.ref (evP K)) "__get__") (some (some (.builtin "property.__get__"))) && (decide (PySem.W.takesIn K (.ref (evP K)) = some true) && isRec (PySem.W.recIn K (evP K) "property")))
def x2 (K : PySem.W.Frag) : Bool := He.eqO (PySem.W.specialIn K (.ref (evW K)) "__get__") (some (some (.builtin "function.__get__"))) && (decide (PySem.W.takesIn K (.ref (evW K)) = some false) && PySem.W.fnIn K (evW K))
def x3 (K : PySem.W.Frag) : Bool := PySem.W.fnIn K (He.ma K (evA K) "__getitem__")
def isI8 (v : Value) : Bool := match v with
  | .int i _ => decide (i = 8)
  | _ => false
def isVal8 (o : Option PySem.W.CFound) : Bool := match o with
  | some (.val v) => isI8 v
  | _ => false
def isGet (o : Option PySem.W.CFound) (p c : Addr) : Bool := match o with
  | some (.get g a b t) => decide (g = .builtin "classmethod.__get__") && (decide (a = .ref p) && (decide (b = .none) && decide (t = .ref c)))
  | _ => false
def x4 (K : PySem.W.Frag) : Bool := PySem.W.readsIn K (caA K) (.type "type") && (He.eqO (PySem.W.specialIn K (.ref (caA K)) "__getattribute__") (some (some (.builtin "type.__getattribute__"))) && (isVal8 (PySem.W.findCls K (.ref (caA K)) (.type "type") "MOST") && (isGet (PySem.W.findCls K (.ref (caA K)) (.type "type") "numbered") (caN K) (caA K) && (isRec (PySem.W.recIn K (caN K) "classmethod") && PySem.W.fnIn K (cmG "Catalog" "numbered" K)))))
def x5 (K : PySem.W.Frag) : Bool := match PySem.W.findIn K (.ref (caA K)) "MOST" with
  | some (some u) => isI8 u && He.eqO (PySem.W.specialIn K u "__get__") (some none)
  | _ => false
def x6 (K : PySem.W.Frag) : Bool := match K.lookup (He.dflAt ("Evidence", some "__init__") 0 K) with
  | some ⟨c, _, .seq its _, _⟩ => decide (c = .type "tuple") && its.toList.isEmpty
  | _ => false
def isFile (K : PySem.W.Frag) (c : Addr) (file : Str) : Bool := match K.lookup c with
  | some ⟨_, _, .fields vs, _⟩ => (match (vs[2]? : Option Value) with
    | some (Value.str z _) => (file == z)
    | _ => false)
  | _ => false
def isCell (K : PySem.W.Frag) (cc D : Addr) : Bool := match K.lookup cc with
  | some ⟨_, _, .cell (some (.ref d)), _⟩ => decide (d = D)
  | _ => false
def isNone (v : Value) : Bool := match v with
  | .none => true
  | _ => false
abbrev R : PySem.W.OpenRow := PySem.W.OpenLaw.row PySem.Challenge.rw_shelfterms_k51_whole_gates_hold
def mf : Str := (PySem.Challenge.rw_shelfterms_k51_whole_gates_hold).prog.main.file
def fnGX (K : PySem.W.Frag) : He.FnW := match K.lookup (gaI K) with
  | some ⟨_, _, .func fd, _⟩ => some (fd.name, fd.qualname, fd.params, fd.body, fd.scope, fd.globals, fd.closure.map fun p => (p.1, 0), fd.builtins)
  | _ => none
def valG : He.FnW := some ("__init__", "Gate.__init__", defArgs (cls 36 1), .stmts (defBody (cls 36 1)), defScope (cls 36 1), mainGlobals, [("__class__", 0)], builtinsNs)
def obL (K : PySem.W.Frag) : List He.FnW := fnGX K :: fns.map fun d => fnWX K (d.at_ K)
def vaL : List He.FnW := valG :: fns.map DefX.val
def fa2 : List He.Fa := [.glo "is_name", .glo "is_integer", .glo "is_value", .glo "all_terms", .glo "step_between", .glo "check_books", .glo "is_spot", .glo "is_place", .glo "are_marks", .glo "agrees", .glo "closes", .glo "judge_gate", .glo "_law_box", .glo "_law_take", .glo "_law_count", .glo "_law_kinds", .glo "_law_value", .glo "_law_book", .glo "_law_rule", .glo "_law_compare", .glo "_law_sorted", .glo "_law_shelves", .glo "_law_name", .glo "_law_evidence", .glo "_law_free", .glo "_law_ways", .glo "_law_closure", .glo "_law_places", .glo "_law_step", .glo "_law_steps", .glo "_law_terms", .glo "_law_blocks", .glo "_law_bent", .glo "_law_far", .glo "_law_shut", .glo "_law_parts_of_rules", .glo "_law_clear", .glo "_law_same", .glo "_law_right", .glo "_law_holds", .glo "law"]
/-! super() in a Gate's method: __class__ is Gate itself -/
def y7 (file : Str) (K : PySem.W.Frag) : Bool := match K.lookup (gaI K) with
  | some ⟨_, _, .func fd, _⟩ => isNone fd.defaults && (isNone fd.kwdefaults && (match fd.code with
    | .ref c => PySem.W.codeIn K (.ref c) "Gate.__init__" && (isFile K c file && (match fd.closure with
      | [(n, cc)] => decide (n = "__class__") && isCell K cc (gaA K)
      | _ => false))
    | _ => false))
  | _ => false
def y8 (K : PySem.W.Frag) : Bool := (PySem.W.clsIn K (gaA K)).isSome && (decide (PySem.W.mroIn K (gaA K) (.ref (gaA K)) = some true) && (He.eqO (PySem.W.nsIn K cStatics "thirdparty.any") (some none) && (He.eqO (PySem.W.ks_superIn K (gaA K) (gaA K) "__init__") (some (some (.ref (baI K)))) && (decide (PySem.W.typeIn K (.ref (baI K)) = some (.type "function")) && PySem.W.fnIn K (baI K)))))
def exM : List (PySem.W.Frag → Bool) := [x1, x2, x3, x4, x5, x6, y7 mf, y8]
def exN (K : PySem.W.Frag) : Bool := exM.all fun x => x K
def obC (K : PySem.W.Frag) : Bool := (fa.all fun f => f.ok K) && ((fa2.all fun f => f.ok K) && (exN K && fns.all fun d => d.ok K))
def obsY (K : PySem.W.Frag) : AlX := (obC K, obL K)
def valY : AlX := (true, vaL)
def SaysY (K : PySem.W.Frag) : Prop := obsY K = valY
def rf (g : Addr → Option Obj) (as : List Addr) : List Addr := (as.flatMap fun a => match g a with
  | some o => He.refsD o
  | none => []).eraseDups
/-- what the names reach in two steps, the classes in four, and the table of the interpreter's own statics -/
def asY (g : Addr → Option Obj) : List Addr :=
  let a2 := He.asD g 2
  let k := He.frG g a2
  let c1 := rf g [caA k, evA k, gaA k, baA k]
  let c2 := rf g c1
  let c3 := rf g c2
  let c4 := rf g c3
  (a2 ++ c1 ++ c2 ++ c3 ++ c4).eraseDups ++ [cStatics]
def obsYG (g : Addr → Option Obj) : AlX := obsY (He.frG g (asY g))
def hkY : PySem.W.Hook where
  α := AlX
  obs := fun s => obsYG s.heap.get?
  val := fun _ => valY
  says := fun _ h => ∃ K : PySem.W.Frag, K.In h ∧ SaysY K
  of := fun _ _ e => ⟨_, He.frG_in, e⟩
  keeps := fun _ _ _ ⟨K, hK, c⟩ k => ⟨K, PySem.W.Frag.In.keeps hK k, c⟩
theorem obsYG_eq {g : Addr → Option Obj} {s : Shared} (h : ∀ a, g a = s.heap.get? a) : obsYG g = hkY.obs s := by
  have e : g = s.heap.get? := funext h
  rw [e] <;> rfl
def obY (s : PySem.W.SharedT) : AlX := obsYG (HandSHeadRun.getT s)
theorem obY_eq (s : PySem.W.SharedT) : obY s = hkY.obs s.abs := obsYG_eq (HandSHeadRun.getT_eq s)
abbrev gT (s : PySem.W.SharedT) : PySem.W.Frag := He.frG (HandSHeadRun.getT s) (asY (HandSHeadRun.getT s))
noncomputable abbrev endS (w : World) (os : OsState) : Option PySem.W.SharedT := HandSHeadRun.endF (HandSHeadRun.stepQ (HandSHeadRun.denQ HandSHeadRun.tabQ) R.prog w) 20000 R.prog w os
theorem obY_gT (s : PySem.W.SharedT) : obY s = (obC (gT s), obL (gT s)) := rfl
/-! ### what it tells -/
section
variable {K : PySem.W.Frag}
theorem SaysY.b (c : SaysY K) : (fa.all fun f => f.ok K) = true ∧ (fa2.all fun f => f.ok K) = true ∧ exN K = true ∧ (fns.all fun d => d.ok K) = true := by
  have h : obC K = true := congrArg (fun z : AlX => z.1) c
  obtain ⟨h1, h⟩ := He.ba h
  obtain ⟨h2, h⟩ := He.ba h
  obtain ⟨h3, h4⟩ := He.ba h
  exact ⟨h1, h2, h3, h4⟩
theorem SaysY.fact (c : SaysY K) (i : Nat) {f : He.Fa} (h : fa[i]? = some f := by rfl) : f.ok K = true := List.all_eq_true.mp c.b.1 f (List.mem_of_getElem? h)
theorem SaysY.fact2 (c : SaysY K) (i : Nat) {f : He.Fa} (h : fa2[i]? = some f := by rfl) : f.ok K = true := List.all_eq_true.mp c.b.2.1 f (List.mem_of_getElem? h)
theorem SaysY.ex (c : SaysY K) (i : Nat) {x : PySem.W.Frag → Bool} (h : exM[i]? = some x := by rfl) : x K = true := List.all_eq_true.mp c.b.2.2.1 x (List.mem_of_getElem? h)
theorem SaysY.def_ (c : SaysY K) (i : Nat) {d : DefX} (h : fns[i]? = some d := by rfl) : ∃ fd, FunD K d.name d.qual (defArgs d.st) (defBody d.st) (defScope d.st) (d.dvs K) [] (d.at_ K) fd := by
  have e : obL K = vaL := congrArg (fun z : AlX => z.2) c
  unfold obL vaL at e
  have e := (List.cons.inj e).2
  have e2 : (fns.map fun d => fnWX K (d.at_ K))[i]? = (fns.map DefX.val)[i]? := by rw [e]
  rw [List.getElem?_map, List.getElem?_map, h] at e2
  exact DefX.funD (Option.some.inj e2) (List.all_eq_true.mp c.b.2.2.2 d (List.mem_of_getElem? h))
theorem SaysY.gate (c : SaysY K) : fnGX K = valG := by
  have e : obL K = vaL := congrArg (fun z : AlX => z.2) c
  unfold obL vaL at e
  exact (List.cons.inj e).1
end
end K51

namespace K51
open PySem PySem.Spec PySem.W PySem.Calls PyProof.Rows
theorem q1 (w : World) (os : OsState) : (endS w os).map (fun s => (HandSHeadRun.looksF R.prog (boot_heap w.params) s.abs, HandSHeadRun.seenQ (PySem.W.view R.prog [66]) loose (importedModules R.prog.main.body) (fun s => PySem.W.xlAt (PySem.W.view R.prog [66]) [] s && PySem.W.recOk R.toRowW.records s) s.abs)) = some (true, PySem.W.openGood (PySem.W.view R.prog [66]) loose) := by
  kernel_rfl
end K51

namespace K51
open PySem PySem.Spec PySem.W PySem.Calls PyProof.Rows
theorem q2 (w : World) (os : OsState) : (endS w os).map (fun s => ((fa.all fun f => f.ok (gT s)) && (fa2.all fun f => f.ok (gT s)) && (exN (gT s)))) = some true := by
  kernel_rfl
end K51

namespace K51
open PySem PySem.Spec PySem.W PySem.Calls PyProof.Rows
theorem q3 (w : World) (os : OsState) : (endS w os).map (fun s => fns.all fun d => d.ok (gT s)) = some true := by
  kernel_rfl
end K51

namespace K51
open PySem PySem.Spec PySem.W PySem.Calls PyProof.Rows
theorem q4 (w : World) (os : OsState) : (endS w os).map (fun s => obL (gT s)) = some vaL := by
  kernel_rfl
end K51

/-! ASM: every promise from the head's facts, up to law's. -/
namespace K51
open PySem PySem.Spec PyProof.Rows L2 DL
theorem isRec_ok {o : Option (List Value)} (h : isRec o = true) : ∃ g rest, o = some (.ref g :: rest) := by
  unfold isRec at h
  split at h
  · exact ⟨_, _, rfl⟩
  · cases h
theorem isI8_ok {v : Value} (h : isI8 v = true) : RelV (.int 8) v := by
  unfold isI8 at h
  split at h
  · have := of_decide_eq_true h; subst this; exact ⟨_, rfl⟩
  · cases h
theorem isVal8_ok {o : Option PySem.W.CFound} (h : isVal8 o = true) : ∃ v, o = some (.val v) ∧ RelV (.int 8) v := by
  unfold isVal8 at h
  split at h
  · exact ⟨_, rfl, isI8_ok h⟩
  · cases h
theorem isGet_ok {o : Option PySem.W.CFound} {p c : Addr} (h : isGet o p c = true) : o = some (.get (.builtin "classmethod.__get__") (.ref p) .none (.ref c)) := by
  unfold isGet at h
  split at h
  · obtain ⟨h1, h⟩ := He.ba h
    obtain ⟨h2, h⟩ := He.ba h
    obtain ⟨h3, h4⟩ := He.ba h
    rw [of_decide_eq_true h1, of_decide_eq_true h2, of_decide_eq_true h3, of_decide_eq_true h4]
  · cases h
theorem isNone_ok {v : Value} (h : isNone v = true) : v = .none := by
  unfold isNone at h
  split at h
  · rfl
  · cases h
theorem isFile_ok {K : PySem.W.Frag} {c : Addr} {file : Str} (h : isFile K c file = true) : ∃ oc vs t osl z tf, K.lookup c = some ⟨oc, t, .fields vs, osl⟩ ∧ vs[2]? = some (Value.str z tf) ∧ (file == z) = true := by
  unfold isFile at h
  split at h
  · rename_i e
    split at h
    · rename_i e2
      exact ⟨_, _, _, _, _, _, e, e2, h⟩
    · cases h
  · cases h
theorem isCell_ok {K : PySem.W.Frag} {cc D : Addr} (h : isCell K cc D = true) : ∃ o d sl, K.lookup cc = some ⟨o, d, .cell (some (.ref D)), sl⟩ := by
  unfold isCell at h
  split at h
  · rename_i e
    have := of_decide_eq_true h; subst this
    exact ⟨_, _, _, e⟩
  · cases h
theorem x1_ok {K : PySem.W.Frag} (h : x1 K = true) : PropOf K (evA K) "shelf_names" (evP K) (propG "Evidence" "shelf_names" K) := by
  obtain ⟨h1, h⟩ := He.ba h
  obtain ⟨h2, h⟩ := He.ba h
  obtain ⟨h3, h4⟩ := He.ba h
  obtain ⟨g, rest, e⟩ := isRec_ok h4
  refine ⟨He.eqO_ok h1, He.eqO_ok h2, of_decide_eq_true h3, rest, ?_⟩
  have : propG "Evidence" "shelf_names" K = g := by
    show inRec "property" "Evidence" "shelf_names" K = g
    unfold inRec
    have e : PySem.W.recIn K (He.ma K (He.ga K "Evidence") "shelf_names") "property" = some (.ref g :: rest) := e
    rw [e]
  rw [this]; exact e
theorem x2_ok {K : PySem.W.Frag} (m : Meth K (evA K) "with_shelf" (evW K)) (h : x2 K = true) : BMeth K (evA K) "with_shelf" (evW K) := by
  obtain ⟨h1, h⟩ := He.ba h
  obtain ⟨h2, h3⟩ := He.ba h
  exact ⟨m, He.eqO_ok h1, of_decide_eq_true h2, by decide +kernel, h3⟩
theorem x4_ok {K : PySem.W.Frag} (h : x4 K = true) : ClX.CRead K (caA K) (.type "type") ∧ (∃ u, ClX.CVal K (caA K) (.type "type") "MOST" (.int 8) u) ∧ ClX.CMet K (caA K) (.type "type") "numbered" (caN K) (cmG "Catalog" "numbered" K) := by
  obtain ⟨h1, h⟩ := He.ba h
  obtain ⟨h2, h⟩ := He.ba h
  obtain ⟨h3, h⟩ := He.ba h
  obtain ⟨h4, h⟩ := He.ba h
  obtain ⟨h5, h6⟩ := He.ba h
  obtain ⟨u, eu, ru⟩ := isVal8_ok h3
  obtain ⟨g, rest, e⟩ := isRec_ok h5
  refine ⟨⟨h1, He.eqO_ok h2⟩, ⟨u, eu, ru⟩, isGet_ok h4, ⟨rest, ?_⟩, h6⟩
  have : cmG "Catalog" "numbered" K = g := by
    show inRec "classmethod" "Catalog" "numbered" K = g
    unfold inRec
    have e : PySem.W.recIn K (He.ma K (He.ga K "Catalog") "numbered") "classmethod" = some (.ref g :: rest) := e
    rw [e]
  rw [this]; exact e
theorem x5_ok {K : PySem.W.Frag} (h : x5 K = true) : ∃ u, L2.Con K (caA K) "MOST" (.int 8) u := by
  unfold x5 at h
  split at h
  · rename_i e
    obtain ⟨h1, h2⟩ := He.ba h
    exact ⟨_, e, isI8_ok h1, He.eqO_ok h2, by decide +kernel⟩
  · cases h
theorem x6_ok {K : PySem.W.Frag} (h : x6 K = true) : ∃ o n, K.lookup (He.dflAt ("Evidence", some "__init__") 0 K) = some o ∧ o.cls = .type "tuple" ∧ o.data = .seq #[] n := by
  unfold x6 at h
  split at h
  · rename_i c d its n sl e
    obtain ⟨h1, h2⟩ := He.ba h
    refine ⟨_, n, e, of_decide_eq_true h1, ?_⟩
    have : its = #[] := by
      have h2 : its.toList = [] := List.isEmpty_iff.mp h2
      exact Array.toList_inj.mp (by rw [h2])
    subst this; rfl
  · cases h
theorem x78_ok {W : Wd} (hg : W.cl .gate = gaA W.K) (hP : W.P.main.file = mf) (hs : (W.P.main.scope.names.lookup ("super" : Str)).isSome = false) (h : y7 mf W.K = true) (h8 : y8 W.K = true) (e : fnGX W.K = valG) (hi : FnR W.P W.w W.K W.mg W.base CX0 1 (baI W.K) (spBinit W)) : ∃ c cc, GInit W (gaI W.K) c cc (gaA W.K) (baI W.K) := by
  unfold y7 at h
  split at h
  · rename_i oc od fd osl lk
    obtain ⟨n1, n2, n3, n4, n5, n6, n7, n8, n9, n10, n11, n12, n13, n14, n15⟩ := fd
    unfold fnGX at e
    rw [lk] at e
    have e : (some (n1, n2, n3, n4, n5, n6, n7.map fun p => (p.1, 0), n15) : He.FnW) = (some ("__init__", "Gate.__init__", defArgs (cls 36 1), .stmts (defBody (cls 36 1)), defScope (cls 36 1), mainGlobals, [("__class__", 0)], builtinsNs) : He.FnW) := e
    simp only [Option.some.injEq, Prod.mk.injEq] at e
    obtain ⟨h1, h2, h3, h4, h5, h6, _, h7⟩ := e
    subst h1 h2 h3 h4 h5 h6 h7
    obtain ⟨d1, h⟩ := He.ba h
    obtain ⟨d2, h⟩ := He.ba h
    obtain rfl : n8 = Value.none := isNone_ok d1
    obtain rfl : n9 = Value.none := isNone_ok d2
    dsimp only at h
    cases n13 with
    | ref c =>
      obtain ⟨k1, h⟩ := He.ba h
      obtain ⟨k2, h⟩ := He.ba h
      match n7, h, lk with
      | [], h, _ => cases h
      | _ :: _ :: _, h, _ => cases h
      | [(n, cc)], h, lk =>
        obtain ⟨k3, k4⟩ := He.ba h
        have k3 := of_decide_eq_true k3
        subst k3
        obtain ⟨m1, m⟩ := He.ba h8
        obtain ⟨m3, m⟩ := He.ba m
        obtain ⟨m4, m⟩ := He.ba m
        obtain ⟨m5, m⟩ := He.ba m
        obtain ⟨m6, m7⟩ := He.ba m
        obtain ⟨oc', vs, t, osl', z, tf, f1, f2, f3⟩ := isFile_ok k2
        refine ⟨c, cc, ⟨⟨_, _, _, _, _, _, _, lk⟩, k1, ⟨oc', vs, t, osl', z, tf, f1, f2, by rw [hP]; exact f3⟩, hs, isCell_ok k4, Option.isSome_iff_exists.mp m1, by rw [hg]; exact Option.isSome_iff_exists.mp m1, by rw [hg]; exact of_decide_eq_true m3, He.eqO_ok m4, by rw [hg]; exact He.eqO_ok m5, of_decide_eq_true m6, m7, hi⟩⟩
    | _ => cases h
  · cases h
end K51

namespace K51
open PySem PySem.Spec PyProof.Rows L2 DL
def clK (K : PySem.W.Frag) : Kd → Addr
  | .cat => caA K
  | .ev => evA K
  | .gate => gaA K
abbrev mP : Program := (PySem.Challenge.rw_shelfterms_k51_whole_gates_hold).prog
abbrev mW (w : World) (K : PySem.W.Frag) (mg : Str → Option Value) (base : Heap) : Wd := ⟨mP, w, K, mg, base, clK K⟩
theorem bnd {K : PySem.W.Frag} {x qual : Str} {ps : List Str} {params : Arguments} {body : List Stmt} {scope : Scope} {f : Addr} {fd : FuncData} (F : FunD K x qual params body scope [] [] f fd)
    (h : ∀ (kV doc pm : Value) (an : Option Addr) (cdv ct : Value) (us : List Value), us.length = ps.length → bindArgs (PySem.W.fnOf x qual params body scope .none kV doc pm an cdv ct) ⟨us, []⟩ = pure (ps.zip us)) : Binds K fd ps [] := F.bindsN h
section
variable {w : World} {K : PySem.W.Frag} {h : Heap} {mg : Str → Option Value} {base : Heap}
theorem a_bn (X : K.In h) (G : h.Ns mainGlobals mg) (c : SaysY K) : Bn (mW w K mg base) := ⟨He.free_ok X G (c.fact 10), He.free_ok X G (c.fact 11), He.free_ok X G (c.fact 12), He.free_ok X G (c.fact 13), He.free_ok X G (c.fact 14), He.free_ok X G (c.fact 15), He.free_ok X G (c.fact 16), He.free_ok X G (c.fact 17), He.free_ok X G (c.fact 18), He.free_ok X G (c.fact 19), He.free_ok X G (c.fact 20), He.free_ok X G (c.fact 21), He.free_ok X G (c.fact 22), He.free_ok X G (c.fact 23)⟩
theorem a_cf (X : K.In h) (G : h.Ns mainGlobals mg) (c : SaysY K) : CF (mW w K mg base) := ⟨He.cls_ok (c.fact 5), He.noat_ok (c.fact 24), He.cls_ok (c.fact 6), He.noat_ok (c.fact 25), He.noat_ok (c.fact 26), He.cls_ok (c.fact 7), He.noat_ok (c.fact 27), He.noat_ok (c.fact 28), He.noat_ok (c.fact 29), He.noat_ok (c.fact 30), He.noat_ok (c.fact 31), He.int_ok X G (c.fact 8), fun f m => by
  have m0 : Meth K (evA K) "__getitem__" (He.ma K (evA K) "__getitem__") := He.meth_ok (c.fact 39)
  have e := m.at_.symm.trans m0.at_
  have e : f = He.ma K (evA K) "__getitem__" := by injection e with e; injection e with e; injection e
  rw [e]
  exact c.ex 2⟩
theorem a_gat (c : SaysY K) : GatF (mW w K mg base) := ⟨He.cls_ok (c.fact 7), He.noat_ok (c.fact 27), He.noat_ok (c.fact 28), He.noat_ok (c.fact 29), He.noat_ok (c.fact 30), He.noat_ok (c.fact 31)⟩
theorem a_law (X : K.In h) (G : h.Ns mainGlobals mg) (c : SaysY K) : ∃ fd, FnP (mW w K mg base) "law" "law" (top 66) (d40.at_ K) fd ∧ FnOk mP w K mg base CX0 12 (d40.at_ K) fd ["_law_script"] (spLaw (mW w K mg base)) := by
  have hBn := a_bn (w := w) (base := base) X G c
  have hCF := a_cf (w := w) (base := base) X G c
  have hGatF := a_gat (w := w) (mg := mg) (base := base) c
  have hL : ∃ t, (mW w K mg base).mg "LETTERS" = some (.str letters t) := He.str_ok X G (c.fact 9 (f := .str "LETTERS" "abcdefghijklmnopqrstuvwxyz"))
  obtain ⟨fd13, F13⟩ := c.def_ 13 (d := d13) rfl
  have F13 : FnP (mW w K mg base) "_law_take" "_law_take" (top 39) (d13.at_ K) fd13 := F13
  have O13 : FnOk mP w K mg base CX0 1 (d13.at_ K) fd13 ["_law_box_here", "_law_size"] (cTake (mW w K mg base)) := ok_take F13 hBn
  have B13 : Binds K fd13 ["_law_box_here", "_law_size"] [] := bnd F13 fun _ _ _ _ _ _ us hl => match us, hl with | [_, _], _ => rfl
  have GFn__law_take : GFn (mW w K mg base) "_law_take" 1 (cTake (mW w K mg base)) := ⟨_, fd13, ["_law_box_here", "_law_size"], O13, He.glo_ok X G (c.fact2 13 (f := .glo "_law_take")), F13.kp, B13⟩
  obtain ⟨fd28, F28⟩ := c.def_ 28 (d := d28) rfl
  have F28 : FnP (mW w K mg base) "_law_step" "_law_step" (top 54) (d28.at_ K) fd28 := F28
  have O28 : FnOk mP w K mg base CX0 1 (d28.at_ K) fd28 ["_law_first", "_law_second"] (cStep (mW w K mg base)) := ok_step F28 hBn
  have B28 : Binds K fd28 ["_law_first", "_law_second"] [] := bnd F28 fun _ _ _ _ _ _ us hl => match us, hl with | [_, _], _ => rfl
  have GFn__law_step : GFn (mW w K mg base) "_law_step" 1 (cStep (mW w K mg base)) := ⟨_, fd28, ["_law_first", "_law_second"], O28, He.glo_ok X G (c.fact2 28 (f := .glo "_law_step")), F28.kp, B28⟩
  obtain ⟨fd22, F22⟩ := c.def_ 22 (d := d22) rfl
  have F22 : FnP (mW w K mg base) "_law_name" "_law_name" (top 48) (d22.at_ K) fd22 := F22
  have O22 : FnOk mP w K mg base CX0 1 (d22.at_ K) fd22 ["_law_k"] (cName (mW w K mg base)) := ok_name F22 hBn
  have B22 : Binds K fd22 ["_law_k"] [] := bnd F22 fun _ _ _ _ _ _ us hl => match us, hl with | [_], _ => rfl
  have GFn__law_name : GFn (mW w K mg base) "_law_name" 1 (cName (mW w K mg base)) := ⟨_, fd22, ["_law_k"], O22, He.glo_ok X G (c.fact2 22 (f := .glo "_law_name")), F22.kp, B22⟩
  obtain ⟨fd16, F16⟩ := c.def_ 16 (d := d16) rfl
  have F16 : FnP (mW w K mg base) "_law_value" "_law_value" (top 42) (d16.at_ K) fd16 := F16
  have O16 : FnOk mP w K mg base CX0 1 (d16.at_ K) fd16 ["_law_kind", "_law_digit"] (cValue (mW w K mg base)) := ok_value F16 hBn
  have B16 : Binds K fd16 ["_law_kind", "_law_digit"] [] := bnd F16 fun _ _ _ _ _ _ us hl => match us, hl with | [_, _], _ => rfl
  have GFn__law_value : GFn (mW w K mg base) "_law_value" 1 (cValue (mW w K mg base)) := ⟨_, fd16, ["_law_kind", "_law_digit"], O16, He.glo_ok X G (c.fact2 16 (f := .glo "_law_value")), F16.kp, B16⟩
  obtain ⟨fd30, F30⟩ := c.def_ 30 (d := d30) rfl
  have F30 : FnP (mW w K mg base) "_law_terms" "_law_terms" (top 56) (d30.at_ K) fd30 := F30
  have O30 : FnOk mP w K mg base CX0 1 (d30.at_ K) fd30 ["_law_count_here"] (cTerms (mW w K mg base)) := ok_terms F30 hBn
  have B30 : Binds K fd30 ["_law_count_here"] [] := bnd F30 fun _ _ _ _ _ _ us hl => match us, hl with | [_], _ => rfl
  have GFn__law_terms : GFn (mW w K mg base) "_law_terms" 1 (cTerms (mW w K mg base)) := ⟨_, fd30, ["_law_count_here"], O30, He.glo_ok X G (c.fact2 30 (f := .glo "_law_terms")), F30.kp, B30⟩
  obtain ⟨fd19, F19⟩ := c.def_ 19 (d := d19) rfl
  have F19 : FnP (mW w K mg base) "_law_compare" "_law_compare" (top 45) (d19.at_ K) fd19 := F19
  have O19 : FnOk mP w K mg base CX0 1 (d19.at_ K) fd19 ["_law_terms_here", "_law_first", "_law_second"] (cCompare (mW w K mg base)) := ok_compare F19 hBn
  have B19 : Binds K fd19 ["_law_terms_here", "_law_first", "_law_second"] [] := bnd F19 fun _ _ _ _ _ _ us hl => match us, hl with | [_, _, _], _ => rfl
  have GFn__law_compare : GFn (mW w K mg base) "_law_compare" 1 (cCompare (mW w K mg base)) := ⟨_, fd19, ["_law_terms_here", "_law_first", "_law_second"], O19, He.glo_ok X G (c.fact2 19 (f := .glo "_law_compare")), F19.kp, B19⟩
  obtain ⟨fd24, F24⟩ := c.def_ 24 (d := d24) rfl
  have F24 : FnP (mW w K mg base) "_law_free" "_law_free" (top 50) (d24.at_ K) fd24 := F24
  have O24 : FnOk mP w K mg base CX0 1 (d24.at_ K) fd24 ["_law_steps_here", "_law_used", "_law_term"] (cFree (mW w K mg base)) := ok_free F24 hBn
  have B24 : Binds K fd24 ["_law_steps_here", "_law_used", "_law_term"] [] := bnd F24 fun _ _ _ _ _ _ us hl => match us, hl with | [_, _, _], _ => rfl
  have GFn__law_free : GFn (mW w K mg base) "_law_free" 1 (cFree (mW w K mg base)) := ⟨_, fd24, ["_law_steps_here", "_law_used", "_law_term"], O24, He.glo_ok X G (c.fact2 24 (f := .glo "_law_free")), F24.kp, B24⟩
  obtain ⟨fd35, F35⟩ := c.def_ 35 (d := d35) rfl
  have F35 : FnP (mW w K mg base) "_law_parts_of_rules" "_law_parts_of_rules" (top 61) (d35.at_ K) fd35 := F35
  have O35 : FnOk mP w K mg base CX0 1 (d35.at_ K) fd35 ["_law_count_here"] (cParts (mW w K mg base)) := ok_parts F35 hBn
  have B35 : Binds K fd35 ["_law_count_here"] [] := bnd F35 fun _ _ _ _ _ _ us hl => match us, hl with | [_], _ => rfl
  have GFn__law_parts_of_rules : GFn (mW w K mg base) "_law_parts_of_rules" 1 (cParts (mW w K mg base)) := ⟨_, fd35, ["_law_count_here"], O35, He.glo_ok X G (c.fact2 35 (f := .glo "_law_parts_of_rules")), F35.kp, B35⟩
  obtain ⟨fd37, F37⟩ := c.def_ 37 (d := d37) rfl
  have F37 : FnP (mW w K mg base) "_law_same" "_law_same" (top 63) (d37.at_ K) fd37 := F37
  have O37 : FnOk mP w K mg base CX0 1 (d37.at_ K) fd37 ["_law_actual", "_law_due"] (cSame (mW w K mg base)) := ok_same F37 hBn
  have B37 : Binds K fd37 ["_law_actual", "_law_due"] [] := bnd F37 fun _ _ _ _ _ _ us hl => match us, hl with | [_, _], _ => rfl
  have GFn__law_same : GFn (mW w K mg base) "_law_same" 1 (cSame (mW w K mg base)) := ⟨_, fd37, ["_law_actual", "_law_due"], O37, He.glo_ok X G (c.fact2 37 (f := .glo "_law_same")), F37.kp, B37⟩
  obtain ⟨fd39, F39⟩ := c.def_ 39 (d := d39) rfl
  have F39 : FnP (mW w K mg base) "_law_holds" "_law_holds" (top 65) (d39.at_ K) fd39 := F39
  have O39 : FnOk mP w K mg base CX0 1 (d39.at_ K) fd39 ["_law_clear_here", "_law_row", "_law_among"] (cHolds (mW w K mg base)) := ok_holds F39 hBn
  have B39 : Binds K fd39 ["_law_clear_here", "_law_row", "_law_among"] [] := bnd F39 fun _ _ _ _ _ _ us hl => match us, hl with | [_, _, _], _ => rfl
  have GFn__law_holds : GFn (mW w K mg base) "_law_holds" 1 (cHolds (mW w K mg base)) := ⟨_, fd39, ["_law_clear_here", "_law_row", "_law_among"], O39, He.glo_ok X G (c.fact2 39 (f := .glo "_law_holds")), F39.kp, B39⟩
  obtain ⟨fd12, F12⟩ := c.def_ 12 (d := d12) rfl
  have F12 : FnP (mW w K mg base) "_law_box" "_law_box" (top 38) (d12.at_ K) fd12 := F12
  have O12 : FnOk mP w K mg base CX0 1 (d12.at_ K) fd12 ["_law_script"] (spBox (mW w K mg base)) := ok_boxL F12 hBn
  have B12 : Binds K fd12 ["_law_script"] [] := bnd F12 fun _ _ _ _ _ _ us hl => match us, hl with | [_], _ => rfl
  obtain ⟨fd3, F3⟩ := c.def_ 3 (d := d3) rfl
  have F3 : FnP (mW w K mg base) "all_terms" "all_terms" (top 19) (d3.at_ K) fd3 := F3
  have O3 : FnOk mP w K mg base CX0 1 (d3.at_ K) fd3 ["count"] (cTerms (mW w K mg base)) := ok_all_terms F3 hBn
  have B3 : Binds K fd3 ["count"] [] := bnd F3 fun _ _ _ _ _ _ us hl => match us, hl with | [_], _ => rfl
  have GFn_all_terms : GFn (mW w K mg base) "all_terms" 1 (cTerms (mW w K mg base)) := ⟨_, fd3, ["count"], O3, He.glo_ok X G (c.fact2 3 (f := .glo "all_terms")), F3.kp, B3⟩
  obtain ⟨fd1, F1⟩ := c.def_ 1 (d := d1) rfl
  have F1 : FnP (mW w K mg base) "is_integer" "is_integer" (top 15) (d1.at_ K) fd1 := F1
  have O1 : FnOk mP w K mg base CX0 1 (d1.at_ K) fd1 ["value"] (cIsInt (mW w K mg base)) := ok_is_integer F1 hBn
  have B1 : Binds K fd1 ["value"] [] := bnd F1 fun _ _ _ _ _ _ us hl => match us, hl with | [_], _ => rfl
  have GFn_is_integer : GFn (mW w K mg base) "is_integer" 1 (cIsInt (mW w K mg base)) := ⟨_, fd1, ["value"], O1, He.glo_ok X G (c.fact2 1 (f := .glo "is_integer")), F1.kp, B1⟩
  obtain ⟨fd0, F0⟩ := c.def_ 0 (d := d0) rfl
  have F0 : FnP (mW w K mg base) "is_name" "is_name" (top 14) (d0.at_ K) fd0 := F0
  have O0 : FnOk mP w K mg base CX0 1 (d0.at_ K) fd0 ["value"] (cIsName (mW w K mg base)) := ok_is_name F0 hBn hL
  have B0 : Binds K fd0 ["value"] [] := bnd F0 fun _ _ _ _ _ _ us hl => match us, hl with | [_], _ => rfl
  have GFn_is_name : GFn (mW w K mg base) "is_name" 1 (cIsName (mW w K mg base)) := ⟨_, fd0, ["value"], O0, He.glo_ok X G (c.fact2 0 (f := .glo "is_name")), F0.kp, B0⟩
  obtain ⟨fd43, F43⟩ := c.def_ 43 (d := d43) rfl
  have F43 : FnP (mW w K mg base) "__len__" "Catalog.__len__" (cls 17 6) (d43.at_ K) fd43 := F43
  have O43 : FnOk mP w K mg base CX0 1 (d43.at_ K) fd43 ["self"] (cClen (mW w K mg base)) := ok_clen F43 hBn hCF
  have B43 : Binds K fd43 ["self"] [] := bnd F43 fun _ _ _ _ _ _ us hl => match us, hl with | [_], _ => rfl
  have MFn___len__ : MFn (mW w K mg base) .cat "__len__" 1 (cClen (mW w K mg base)) := ⟨_, fd43, ["self"], O43, He.cls_ok (c.fact 5 (f := .cls "Catalog")), He.meth_ok (c.fact 33 (f := .meth "Catalog" "__len__")), B43⟩
  obtain ⟨fd4, F4⟩ := c.def_ 4 (d := d4) rfl
  have F4 : FnP (mW w K mg base) "step_between" "step_between" (top 20) (d4.at_ K) fd4 := F4
  have O4 : FnOk mP w K mg base CX0 1 (d4.at_ K) fd4 ["earlier", "later"] (cStep (mW w K mg base)) := ok_step_between F4 hBn
  have B4 : Binds K fd4 ["earlier", "later"] [] := bnd F4 fun _ _ _ _ _ _ us hl => match us, hl with | [_, _], _ => rfl
  have GFn_step_between : GFn (mW w K mg base) "step_between" 1 (cStep (mW w K mg base)) := ⟨_, fd4, ["earlier", "later"], O4, He.glo_ok X G (c.fact2 4 (f := .glo "step_between")), F4.kp, B4⟩
  obtain ⟨fd50, F50⟩ := c.def_ 50 (d := d50) rfl
  have F50 : FnP (mW w K mg base) "__getitem__" "Evidence.__getitem__" (cls 26 16) (d50.at_ K) fd50 := F50
  have O50 : FnOk mP w K mg base CX0 1 (d50.at_ K) fd50 ["self", "name"] (cGet (mW w K mg base)) := ok_eget F50 hBn hCF
  have B50 : Binds K fd50 ["self", "name"] [] := bnd F50 fun _ _ _ _ _ _ us hl => match us, hl with | [_, _], _ => rfl
  have MFn___getitem__ : MFn (mW w K mg base) .ev "__getitem__" 1 (cGet (mW w K mg base)) := ⟨_, fd50, ["self", "name"], O50, He.cls_ok (c.fact 6 (f := .cls "Evidence")), He.meth_ok (c.fact 39 (f := .meth "Evidence" "__getitem__")), B50⟩
  obtain ⟨fd8, F8⟩ := c.def_ 8 (d := d8) rfl
  have F8 : FnP (mW w K mg base) "are_marks" "are_marks" (top 28) (d8.at_ K) fd8 := F8
  have O8 : FnOk mP w K mg base CX0 1 (d8.at_ K) fd8 ["marks", "count"] (cMarks (mW w K mg base)) := ok_are_marks F8 hBn
  have B8 : Binds K fd8 ["marks", "count"] [] := bnd F8 fun _ _ _ _ _ _ us hl => match us, hl with | [_, _], _ => rfl
  have GFn_are_marks : GFn (mW w K mg base) "are_marks" 1 (cMarks (mW w K mg base)) := ⟨_, fd8, ["marks", "count"], O8, He.glo_ok X G (c.fact2 8 (f := .glo "are_marks")), F8.kp, B8⟩
  obtain ⟨fd14, F14⟩ := c.def_ 14 (d := d14) rfl
  have F14 : FnP (mW w K mg base) "_law_count" "_law_count" (top 40) (d14.at_ K) fd14 := F14
  have O14 : FnOk mP w K mg base CX0 2 (d14.at_ K) fd14 ["_law_box_here"] (cCount (mW w K mg base)) := ok_count F14 hBn GFn__law_take
  have B14 : Binds K fd14 ["_law_box_here"] [] := bnd F14 fun _ _ _ _ _ _ us hl => match us, hl with | [_], _ => rfl
  have GFn__law_count : GFn (mW w K mg base) "_law_count" 2 (cCount (mW w K mg base)) := ⟨_, fd14, ["_law_box_here"], O14, He.glo_ok X G (c.fact2 14 (f := .glo "_law_count")), F14.kp, B14⟩
  obtain ⟨fd15, F15⟩ := c.def_ 15 (d := d15) rfl
  have F15 : FnP (mW w K mg base) "_law_kinds" "_law_kinds" (top 41) (d15.at_ K) fd15 := F15
  have O15 : FnOk mP w K mg base CX0 2 (d15.at_ K) fd15 ["_law_box_here", "_law_count_here"] (cKinds (mW w K mg base)) := ok_kinds F15 hBn GFn__law_take
  have B15 : Binds K fd15 ["_law_box_here", "_law_count_here"] [] := bnd F15 fun _ _ _ _ _ _ us hl => match us, hl with | [_, _], _ => rfl
  have GFn__law_kinds : GFn (mW w K mg base) "_law_kinds" 2 (cKinds (mW w K mg base)) := ⟨_, fd15, ["_law_box_here", "_law_count_here"], O15, He.glo_ok X G (c.fact2 15 (f := .glo "_law_kinds")), F15.kp, B15⟩
  obtain ⟨fd17, F17⟩ := c.def_ 17 (d := d17) rfl
  have F17 : FnP (mW w K mg base) "_law_book" "_law_book" (top 43) (d17.at_ K) fd17 := F17
  have O17 : FnOk mP w K mg base CX0 2 (d17.at_ K) fd17 ["_law_box_here", "_law_kinds_here"] (cBook (mW w K mg base)) := ok_book F17 hBn GFn__law_take GFn__law_value
  have B17 : Binds K fd17 ["_law_box_here", "_law_kinds_here"] [] := bnd F17 fun _ _ _ _ _ _ us hl => match us, hl with | [_, _], _ => rfl
  have GFn__law_book : GFn (mW w K mg base) "_law_book" 2 (cBook (mW w K mg base)) := ⟨_, fd17, ["_law_box_here", "_law_kinds_here"], O17, He.glo_ok X G (c.fact2 17 (f := .glo "_law_book")), F17.kp, B17⟩
  obtain ⟨fd18, F18⟩ := c.def_ 18 (d := d18) rfl
  have F18 : FnP (mW w K mg base) "_law_rule" "_law_rule" (top 44) (d18.at_ K) fd18 := F18
  have O18 : FnOk mP w K mg base CX0 2 (d18.at_ K) fd18 ["_law_box_here", "_law_count_here"] (cRule (mW w K mg base)) := ok_rule F18 hBn GFn__law_take
  have B18 : Binds K fd18 ["_law_box_here", "_law_count_here"] [] := bnd F18 fun _ _ _ _ _ _ us hl => match us, hl with | [_, _], _ => rfl
  have GFn__law_rule : GFn (mW w K mg base) "_law_rule" 2 (cRule (mW w K mg base)) := ⟨_, fd18, ["_law_box_here", "_law_count_here"], O18, He.glo_ok X G (c.fact2 18 (f := .glo "_law_rule")), F18.kp, B18⟩
  obtain ⟨fd20, F20⟩ := c.def_ 20 (d := d20) rfl
  have F20 : FnP (mW w K mg base) "_law_sorted" "_law_sorted" (top 46) (d20.at_ K) fd20 := F20
  have O20 : FnOk mP w K mg base CX0 2 (d20.at_ K) fd20 ["_law_terms_here", "_law_books"] (cSorted (mW w K mg base)) := ok_sorted F20 hBn GFn__law_compare
  have B20 : Binds K fd20 ["_law_terms_here", "_law_books"] [] := bnd F20 fun _ _ _ _ _ _ us hl => match us, hl with | [_, _], _ => rfl
  have GFn__law_sorted : GFn (mW w K mg base) "_law_sorted" 2 (cSorted (mW w K mg base)) := ⟨_, fd20, ["_law_terms_here", "_law_books"], O20, He.glo_ok X G (c.fact2 20 (f := .glo "_law_sorted")), F20.kp, B20⟩
  obtain ⟨fd27, F27⟩ := c.def_ 27 (d := d27) rfl
  have F27 : FnP (mW w K mg base) "_law_places" "_law_places" (top 53) (d27.at_ K) fd27 := F27
  have O27 : FnOk mP w K mg base CX0 2 (d27.at_ K) fd27 ["_law_shelves_here", "_law_spots"] (cPlaces (mW w K mg base)) := ok_places F27 hBn GFn__law_name
  have B27 : Binds K fd27 ["_law_shelves_here", "_law_spots"] [] := bnd F27 fun _ _ _ _ _ _ us hl => match us, hl with | [_, _], _ => rfl
  have GFn__law_places : GFn (mW w K mg base) "_law_places" 2 (cPlaces (mW w K mg base)) := ⟨_, fd27, ["_law_shelves_here", "_law_spots"], O27, He.glo_ok X G (c.fact2 27 (f := .glo "_law_places")), F27.kp, B27⟩
  obtain ⟨fd33, F33⟩ := c.def_ 33 (d := d33) rfl
  have F33 : FnP (mW w K mg base) "_law_far" "_law_far" (top 59) (d33.at_ K) fd33 := F33
  have O33 : FnOk mP w K mg base CX0 2 (d33.at_ K) fd33 ["_law_shelves_here", "_law_place"] (cFar (mW w K mg base)) := ok_far F33 hBn GFn__law_name
  have B33 : Binds K fd33 ["_law_shelves_here", "_law_place"] [] := bnd F33 fun _ _ _ _ _ _ us hl => match us, hl with | [_, _], _ => rfl
  have GFn__law_far : GFn (mW w K mg base) "_law_far" 2 (cFar (mW w K mg base)) := ⟨_, fd33, ["_law_shelves_here", "_law_place"], O33, He.glo_ok X G (c.fact2 33 (f := .glo "_law_far")), F33.kp, B33⟩
  obtain ⟨fd25, F25⟩ := c.def_ 25 (d := d25) rfl
  have F25 : FnP (mW w K mg base) "_law_ways" "_law_ways" (top 51) (d25.at_ K) fd25 := F25
  have O25 : FnOk mP w K mg base CX0 2 (d25.at_ K) fd25 ["_law_count_here", "_law_steps_here", "_law_used"] (cWays (mW w K mg base)) := ok_ways F25 hBn GFn__law_free
  have B25 : Binds K fd25 ["_law_count_here", "_law_steps_here", "_law_used"] [] := bnd F25 fun _ _ _ _ _ _ us hl => match us, hl with | [_, _, _], _ => rfl
  have GFn__law_ways : GFn (mW w K mg base) "_law_ways" 2 (cWays (mW w K mg base)) := ⟨_, fd25, ["_law_count_here", "_law_steps_here", "_law_used"], O25, He.glo_ok X G (c.fact2 25 (f := .glo "_law_ways")), F25.kp, B25⟩
  obtain ⟨fd31, F31⟩ := c.def_ 31 (d := d31) rfl
  have F31 : FnP (mW w K mg base) "_law_blocks" "_law_blocks" (top 57) (d31.at_ K) fd31 := F31
  have O31 : FnOk mP w K mg base CX0 2 (d31.at_ K) fd31 ["_law_box_here", "_law_shelves_here", "_law_spots", "_law_inside", "_law_closed"] (cBlocks (mW w K mg base)) := ok_blocks F31 hBn GFn__law_take GFn__law_name GFn__law_step
  have B31 : Binds K fd31 ["_law_box_here", "_law_shelves_here", "_law_spots", "_law_inside", "_law_closed"] [] := bnd F31 fun _ _ _ _ _ _ us hl => match us, hl with | [_, _, _, _, _], _ => rfl
  have GFn__law_blocks : GFn (mW w K mg base) "_law_blocks" 2 (cBlocks (mW w K mg base)) := ⟨_, fd31, ["_law_box_here", "_law_shelves_here", "_law_spots", "_law_inside", "_law_closed"], O31, He.glo_ok X G (c.fact2 31 (f := .glo "_law_blocks")), F31.kp, B31⟩
  obtain ⟨fd36, F36⟩ := c.def_ 36 (d := d36) rfl
  have F36 : FnP (mW w K mg base) "_law_clear" "_law_clear" (top 62) (d36.at_ K) fd36 := F36
  have O36 : FnOk mP w K mg base CX0 2 (d36.at_ K) fd36 ["_law_terms_here", "_law_shelves_here"] (cClear (mW w K mg base)) := ok_clear F36 hBn GFn__law_compare
  have B36 : Binds K fd36 ["_law_terms_here", "_law_shelves_here"] [] := bnd F36 fun _ _ _ _ _ _ us hl => match us, hl with | [_, _], _ => rfl
  have GFn__law_clear : GFn (mW w K mg base) "_law_clear" 2 (cClear (mW w K mg base)) := ⟨_, fd36, ["_law_terms_here", "_law_shelves_here"], O36, He.glo_ok X G (c.fact2 36 (f := .glo "_law_clear")), F36.kp, B36⟩
  obtain ⟨fd32, F32⟩ := c.def_ 32 (d := d32) rfl
  have F32 : FnP (mW w K mg base) "_law_bent" "_law_bent" (top 58) (d32.at_ K) fd32 := F32
  have O32 : FnOk mP w K mg base CX0 2 (d32.at_ K) fd32 ["_law_box_here", "_law_count_here", "_law_inside", "_law_exits", "_law_blocks_here"] (cBent (mW w K mg base)) := ok_bent F32 hBn GFn__law_take
  have B32 : Binds K fd32 ["_law_box_here", "_law_count_here", "_law_inside", "_law_exits", "_law_blocks_here"] [] := bnd F32 fun _ _ _ _ _ _ us hl => match us, hl with | [_, _, _, _, _], _ => rfl
  have GFn__law_bent : GFn (mW w K mg base) "_law_bent" 2 (cBent (mW w K mg base)) := ⟨_, fd32, ["_law_box_here", "_law_count_here", "_law_inside", "_law_exits", "_law_blocks_here"], O32, He.glo_ok X G (c.fact2 32 (f := .glo "_law_bent")), F32.kp, B32⟩
  obtain ⟨fd2, F2⟩ := c.def_ 2 (d := d2) rfl
  have F2 : FnP (mW w K mg base) "is_value" "is_value" (top 16) (d2.at_ K) fd2 := F2
  have O2 : FnOk mP w K mg base CX0 2 (d2.at_ K) fd2 ["value"] (cIsVal (mW w K mg base)) := ok_is_value F2 hBn hCF GFn_is_integer
  have B2 : Binds K fd2 ["value"] [] := bnd F2 fun _ _ _ _ _ _ us hl => match us, hl with | [_], _ => rfl
  have GFn_is_value : GFn (mW w K mg base) "is_value" 2 (cIsVal (mW w K mg base)) := ⟨_, fd2, ["value"], O2, He.glo_ok X G (c.fact2 2 (f := .glo "is_value")), F2.kp, B2⟩
  obtain ⟨fd21, F21⟩ := c.def_ 21 (d := d21) rfl
  have F21 : FnP (mW w K mg base) "_law_shelves" "_law_shelves" (top 47) (d21.at_ K) fd21 := F21
  have O21 : FnOk mP w K mg base CX0 3 (d21.at_ K) fd21 ["_law_box_here", "_law_kinds_here", "_law_most", "_law_size", "_law_spoilt"] (cShelves (mW w K mg base)) := ok_shelves F21 hBn GFn__law_take GFn__law_rule GFn__law_book GFn__law_sorted
  have B21 : Binds K fd21 ["_law_box_here", "_law_kinds_here", "_law_most", "_law_size", "_law_spoilt"] [] := bnd F21 fun _ _ _ _ _ _ us hl => match us, hl with | [_, _, _, _, _], _ => rfl
  have GFn__law_shelves : GFn (mW w K mg base) "_law_shelves" 3 (cShelves (mW w K mg base)) := ⟨_, fd21, ["_law_box_here", "_law_kinds_here", "_law_most", "_law_size", "_law_spoilt"], O21, He.glo_ok X G (c.fact2 21 (f := .glo "_law_shelves")), F21.kp, B21⟩
  obtain ⟨fd29, F29⟩ := c.def_ 29 (d := d29) rfl
  have F29 : FnP (mW w K mg base) "_law_steps" "_law_steps" (top 55) (d29.at_ K) fd29 := F29
  have O29 : FnOk mP w K mg base CX0 3 (d29.at_ K) fd29 ["_law_shelves_here", "_law_spots"] (cSteps (mW w K mg base)) := ok_steps F29 hBn GFn__law_name GFn__law_places GFn__law_step
  have B29 : Binds K fd29 ["_law_shelves_here", "_law_spots"] [] := bnd F29 fun _ _ _ _ _ _ us hl => match us, hl with | [_, _], _ => rfl
  have GFn__law_steps : GFn (mW w K mg base) "_law_steps" 3 (cSteps (mW w K mg base)) := ⟨_, fd29, ["_law_shelves_here", "_law_spots"], O29, He.glo_ok X G (c.fact2 29 (f := .glo "_law_steps")), F29.kp, B29⟩
  obtain ⟨fd26, F26⟩ := c.def_ 26 (d := d26) rfl
  have F26 : FnP (mW w K mg base) "_law_closure" "_law_closure" (top 52) (d26.at_ K) fd26 := F26
  have O26 : FnOk mP w K mg base CX0 3 (d26.at_ K) fd26 ["_law_count_here", "_law_steps_here", "_law_barred"] (cClosure (mW w K mg base)) := ok_closure F26 hBn GFn__law_ways
  have B26 : Binds K fd26 ["_law_count_here", "_law_steps_here", "_law_barred"] [] := bnd F26 fun _ _ _ _ _ _ us hl => match us, hl with | [_, _, _], _ => rfl
  have GFn__law_closure : GFn (mW w K mg base) "_law_closure" 3 (cClosure (mW w K mg base)) := ⟨_, fd26, ["_law_count_here", "_law_steps_here", "_law_barred"], O26, He.glo_ok X G (c.fact2 26 (f := .glo "_law_closure")), F26.kp, B26⟩
  obtain ⟨fd34, F34⟩ := c.def_ 34 (d := d34) rfl
  have F34 : FnP (mW w K mg base) "_law_shut" "_law_shut" (top 60) (d34.at_ K) fd34 := F34
  have O34 : FnOk mP w K mg base CX0 3 (d34.at_ K) fd34 ["_law_count_here", "_law_shelves_here", "_law_spots", "_law_inside", "_law_exits", "_law_blocks_here", "_law_among"] (cShut (mW w K mg base)) := ok_shut F34 hBn GFn__law_step GFn__law_terms GFn__law_far
  have B34 : Binds K fd34 ["_law_count_here", "_law_shelves_here", "_law_spots", "_law_inside", "_law_exits", "_law_blocks_here", "_law_among"] [] := bnd F34 fun _ _ _ _ _ _ us hl => match us, hl with | [_, _, _, _, _, _, _], _ => rfl
  have GFn__law_shut : GFn (mW w K mg base) "_law_shut" 3 (cShut (mW w K mg base)) := ⟨_, fd34, ["_law_count_here", "_law_shelves_here", "_law_spots", "_law_inside", "_law_exits", "_law_blocks_here", "_law_among"], O34, He.glo_ok X G (c.fact2 34 (f := .glo "_law_shut")), F34.kp, B34⟩
  obtain ⟨fd42, F42⟩ := c.def_ 42 (d := d42) rfl
  have F42 : FnP (mW w K mg base) "is_book" "Catalog.is_book" (cls 17 4) (d42.at_ K) fd42 := F42
  have O42 : FnOk mP w K mg base CX0 3 (d42.at_ K) fd42 ["self", "value"] (cIsBook (mW w K mg base)) := ok_is_book F42 hBn hCF GFn_is_value
  have B42 : Binds K fd42 ["self", "value"] [] := bnd F42 fun _ _ _ _ _ _ us hl => match us, hl with | [_, _], _ => rfl
  have MFn_is_book : MFn (mW w K mg base) .cat "is_book" 3 (cIsBook (mW w K mg base)) := ⟨_, fd42, ["self", "value"], O42, He.cls_ok (c.fact 5 (f := .cls "Catalog")), He.meth_ok (c.fact 32 (f := .meth "Catalog" "is_book")), B42⟩
  obtain ⟨fd53, F53⟩ := c.def_ 53 (d := d53) rfl
  have F53 : FnP (mW w K mg base) "shelf_names" "Evidence.shelf_names" (cls 26 3) (d53.at_ K) fd53 := F53
  have O53 : FnOk mP w K mg base CX0 1 (d53.at_ K) fd53 ["self"] (cNames (mW w K mg base)) := ok_shelf_names F53 hBn hCF
  have B53 : Binds K fd53 ["self"] [] := bnd F53 fun _ _ _ _ _ _ us hl => match us, hl with | [_], _ => rfl
  have PFn_shelf_names : PFn (mW w K mg base) .ev "shelf_names" 1 (cNames (mW w K mg base)) := ⟨_, _, fd53, _, O53, hCF.ev, x1_ok (c.ex 0), B53⟩
  obtain ⟨fd51, F51⟩ := c.def_ 51 (d := d51) rfl
  have F51 : FnP (mW w K mg base) "__contains__" "Evidence.__contains__" (cls 26 19) (d51.at_ K) fd51 := F51
  have O51 : FnOk mP w K mg base CX0 3 (d51.at_ K) fd51 ["self", "name"] (cCont (mW w K mg base)) := ok_econt F51 hBn PFn_shelf_names
  have B51 : Binds K fd51 ["self", "name"] [] := bnd F51 fun _ _ _ _ _ _ us hl => match us, hl with | [_, _], _ => rfl
  have MFn___contains__ : MFn (mW w K mg base) .ev "__contains__" 3 (cCont (mW w K mg base)) := ⟨_, fd51, ["self", "name"], O51, He.cls_ok (c.fact 6 (f := .cls "Evidence")), He.meth_ok (c.fact 40 (f := .meth "Evidence" "__contains__")), B51⟩
  have hEvF : EvF (mW w K mg base) := ⟨MFn___contains__, MFn___getitem__, GFn_is_integer⟩
  obtain ⟨fd38, F38⟩ := c.def_ 38 (d := d38) rfl
  have F38 : FnP (mW w K mg base) "_law_right" "_law_right" (top 64) (d38.at_ K) fd38 := F38
  have O38 : FnOk mP w K mg base CX0 4 (d38.at_ K) fd38 ["_law_count_here", "_law_shelves_here", "_law_row", "_law_among", "_law_place"] (cRight (mW w K mg base)) := ok_right F38 hBn GFn__law_step GFn__law_shut GFn__law_far
  have B38 : Binds K fd38 ["_law_count_here", "_law_shelves_here", "_law_row", "_law_among", "_law_place"] [] := bnd F38 fun _ _ _ _ _ _ us hl => match us, hl with | [_, _, _, _, _], _ => rfl
  have GFn__law_right : GFn (mW w K mg base) "_law_right" 4 (cRight (mW w K mg base)) := ⟨_, fd38, ["_law_count_here", "_law_shelves_here", "_law_row", "_law_among", "_law_place"], O38, He.glo_ok X G (c.fact2 38 (f := .glo "_law_right")), F38.kp, B38⟩
  obtain ⟨fd5, F5⟩ := c.def_ 5 (d := d5) rfl
  have F5 : FnP (mW w K mg base) "check_books" "check_books" (top 22) (d5.at_ K) fd5 := F5
  have O5 : FnOk mP w K mg base CX0 4 (d5.at_ K) fd5 ["catalog", "books"] (cCheck (mW w K mg base)) := ok_check_books F5 hBn MFn_is_book
  have B5 : Binds K fd5 ["catalog", "books"] [] := bnd F5 fun _ _ _ _ _ _ us hl => match us, hl with | [_, _], _ => rfl
  have GFn_check_books : GFn (mW w K mg base) "check_books" 4 (cCheck (mW w K mg base)) := ⟨_, fd5, ["catalog", "books"], O5, He.glo_ok X G (c.fact2 5 (f := .glo "check_books")), F5.kp, B5⟩
  obtain ⟨fd6, F6⟩ := c.def_ 6 (d := d6) rfl
  have F6 : FnP (mW w K mg base) "is_spot" "is_spot" (top 23) (d6.at_ K) fd6 := F6
  have O6 : FnOk mP w K mg base CX0 4 (d6.at_ K) fd6 ["evidence", "value"] (cSpot (mW w K mg base)) := ok_is_spot F6 hBn hCF hEvF
  have B6 : Binds K fd6 ["evidence", "value"] [] := bnd F6 fun _ _ _ _ _ _ us hl => match us, hl with | [_, _], _ => rfl
  have GFn_is_spot : GFn (mW w K mg base) "is_spot" 4 (cSpot (mW w K mg base)) := ⟨_, fd6, ["evidence", "value"], O6, He.glo_ok X G (c.fact2 6 (f := .glo "is_spot")), F6.kp, B6⟩
  obtain ⟨fd7, F7⟩ := c.def_ 7 (d := d7) rfl
  have F7 : FnP (mW w K mg base) "is_place" "is_place" (top 25) (d7.at_ K) fd7 := F7
  have O7 : FnOk mP w K mg base CX0 5 (d7.at_ K) fd7 ["evidence", "value"] (cPlace (mW w K mg base)) := ok_is_place F7 hBn GFn_is_spot
  have B7 : Binds K fd7 ["evidence", "value"] [] := bnd F7 fun _ _ _ _ _ _ us hl => match us, hl with | [_, _], _ => rfl
  have GFn_is_place : GFn (mW w K mg base) "is_place" 5 (cPlace (mW w K mg base)) := ⟨_, fd7, ["evidence", "value"], O7, He.glo_ok X G (c.fact2 7 (f := .glo "is_place")), F7.kp, B7⟩
  obtain ⟨fd44, F44⟩ := c.def_ 44 (d := d44) rfl
  have O44 : FnOk mP w K mg base CX0 1 (d44.at_ K) fd44 ["self", "catalog", "rows"] (spEinit (mW w K mg base)) := ok_einit F44 hBn hCF
  obtain ⟨e0, r0, b0⟩ := F44.binds1 (ps := ["self", "catalog", "rows"]) 3 1 (by intro z; cases z) rfl fun T kV doc pm an cdv ct us its hu hi => match us, hu, its, hi with | [_, _, _], _, [_], _ => ⟨_, rfl, rfl⟩
  obtain rfl : e0 = [] := by cases r0; rfl
  obtain ⟨e1, r1, b1⟩ := F44.binds1 (ps := ["self", "catalog", "rows"]) 2 0 (by intro z; cases z) rfl fun T kV doc pm an cdv ct us its hu hi => match us, hu, its, hi with | [_, _], _, [_], _ => ⟨_, rfl, rfl⟩
  have hEvMk : EvMk (mW w K mg base) := ⟨_, fd44, _, e1, He.mkr_ok (c.fact 42 (f := .mkr "Evidence")), He.glo_ok X G (c.fact 2 (f := .glo "Evidence")), O44, b0, r1, b1, _, rfl, x6_ok (c.ex 5)⟩
  obtain ⟨fd47, F47⟩ := c.def_ 47 (d := d47) rfl
  have F47 : FnP (mW w K mg base) "joined" "Evidence.joined" (cls 26 7) (d47.at_ K) fd47 := F47
  have O47 : FnOk mP w K mg base CX0 5 (d47.at_ K) fd47 ["self", "name", "books"] (cJoin (mW w K mg base)) := ok_joined F47 hBn hCF hEvMk MFn___contains__ GFn_check_books
  have B47 : Binds K fd47 ["self", "name", "books"] [] := bnd F47 fun _ _ _ _ _ _ us hl => match us, hl with | [_, _, _], _ => rfl
  have MFn_joined : MFn (mW w K mg base) .ev "joined" 5 (cJoin (mW w K mg base)) := ⟨_, fd47, ["self", "name", "books"], O47, He.cls_ok (c.fact 6 (f := .cls "Evidence")), He.meth_ok (c.fact 36 (f := .meth "Evidence" "joined")), B47⟩
  obtain ⟨fd45, F45⟩ := c.def_ 45 (d := d45) rfl
  have F45 : FnP (mW w K mg base) "with_shelf" "Evidence.with_shelf" (cls 26 4) (d45.at_ K) fd45 := F45
  have hShF : ShF (mW w K mg base) := ⟨_, x2_ok (He.meth_ok (c.fact 34 (f := .meth "Evidence" "with_shelf"))) (c.ex 1), ok_with_shelf F45 hBn GFn_is_name MFn_joined⟩
  obtain ⟨fd48, F48⟩ := c.def_ 48 (d := d48) rfl
  have F48 : FnP (mW w K mg base) "pair" "Evidence.pair" (cls 26 11) (d48.at_ K) fd48 := F48
  have O48 : FnOk mP w K mg base CX0 6 (d48.at_ K) fd48 ["self", "place"] (cPair (mW w K mg base)) := ok_pair F48 hBn hCF hEvF GFn_is_place
  have B48 : Binds K fd48 ["self", "place"] [] := bnd F48 fun _ _ _ _ _ _ us hl => match us, hl with | [_, _], _ => rfl
  have MFn_pair : MFn (mW w K mg base) .ev "pair" 6 (cPair (mW w K mg base)) := ⟨_, fd48, ["self", "place"], O48, He.cls_ok (c.fact 6 (f := .cls "Evidence")), He.meth_ok (c.fact 37 (f := .meth "Evidence" "pair")), B48⟩
  obtain ⟨fd49, F49⟩ := c.def_ 49 (d := d49) rfl
  have F49 : FnP (mW w K mg base) "step" "Evidence.step" (cls 26 12) (d49.at_ K) fd49 := F49
  have O49 : FnOk mP w K mg base CX0 7 (d49.at_ K) fd49 ["self", "place"] (cEstep (mW w K mg base)) := ok_estep F49 hBn MFn_pair GFn_step_between
  have B49 : Binds K fd49 ["self", "place"] [] := bnd F49 fun _ _ _ _ _ _ us hl => match us, hl with | [_, _], _ => rfl
  have MFn_step : MFn (mW w K mg base) .ev "step" 7 (cEstep (mW w K mg base)) := ⟨_, fd49, ["self", "place"], O49, He.cls_ok (c.fact 6 (f := .cls "Evidence")), He.meth_ok (c.fact 38 (f := .meth "Evidence" "step")), B49⟩
  obtain ⟨fd46, F46⟩ := c.def_ 46 (d := d46) rfl
  have F46 : FnP (mW w K mg base) "with_books" "Evidence.with_books" (cls 26 5) (d46.at_ K) fd46 := F46
  have O46 : FnOk mP w K mg base CX0 7 (d46.at_ K) fd46 ["self", "name", "books"] (cBooks (mW w K mg base)) := ok_with_books F46 hBn hCF hShF
  have B46 : Binds K fd46 ["self", "name", "books"] [] := bnd F46 fun _ _ _ _ _ _ us hl => match us, hl with | [_, _, _], _ => rfl
  have MFn_with_books : MFn (mW w K mg base) .ev "with_books" 7 (cBooks (mW w K mg base)) := ⟨_, fd46, ["self", "name", "books"], O46, He.cls_ok (c.fact 6 (f := .cls "Evidence")), He.meth_ok (c.fact 35 (f := .meth "Evidence" "with_books")), B46⟩
  obtain ⟨fd9, F9⟩ := c.def_ 9 (d := d9) rfl
  have F9 : FnP (mW w K mg base) "agrees" "agrees" (top 29) (d9.at_ K) fd9 := F9
  have O9 : FnOk mP w K mg base CX0 8 (d9.at_ K) fd9 ["evidence", "place", "inside", "spots"] (cAgrees (mW w K mg base)) := ok_agrees F9 hBn GFn_is_place MFn_step
  have B9 : Binds K fd9 ["evidence", "place", "inside", "spots"] [] := bnd F9 fun _ _ _ _ _ _ us hl => match us, hl with | [_, _, _, _], _ => rfl
  have GFn_agrees : GFn (mW w K mg base) "agrees" 8 (cAgrees (mW w K mg base)) := ⟨_, fd9, ["evidence", "place", "inside", "spots"], O9, He.glo_ok X G (c.fact2 9 (f := .glo "agrees")), F9.kp, B9⟩
  obtain ⟨fd10, F10⟩ := c.def_ 10 (d := d10) rfl
  have F10 : FnP (mW w K mg base) "closes" "closes" (top 30) (d10.at_ K) fd10 := F10
  have O10 : FnOk mP w K mg base CX0 9 (d10.at_ K) fd10 ["evidence", "paper", "among", "spots"] (cCloses (mW w K mg base)) := ok_closes F10 hBn hCF MFn___len__ GFn_all_terms GFn_agrees MFn_step
  have B10 : Binds K fd10 ["evidence", "paper", "among", "spots"] [] := bnd F10 fun _ _ _ _ _ _ us hl => match us, hl with | [_, _, _, _], _ => rfl
  have GFn_closes : GFn (mW w K mg base) "closes" 9 (cCloses (mW w K mg base)) := ⟨_, fd10, ["evidence", "paper", "among", "spots"], O10, He.glo_ok X G (c.fact2 10 (f := .glo "closes")), F10.kp, B10⟩
  obtain ⟨fd11, F11⟩ := c.def_ 11 (d := d11) rfl
  have F11 : FnP (mW w K mg base) "judge_gate" "judge_gate" (top 31) (d11.at_ K) fd11 := F11
  have O11 : FnOk mP w K mg base CX0 10 (d11.at_ K) fd11 ["evidence", "gate"] (cJudge (mW w K mg base)) := ok_judge_gate F11 hBn hCF MFn___len__ GFn_are_marks GFn_agrees MFn_pair GFn_closes
  have B11 : Binds K fd11 ["evidence", "gate"] [] := bnd F11 fun _ _ _ _ _ _ us hl => match us, hl with | [_, _], _ => rfl
  have GFn_judge_gate : GFn (mW w K mg base) "judge_gate" 10 (cJudge (mW w K mg base)) := ⟨_, fd11, ["evidence", "gate"], O11, He.glo_ok X G (c.fact2 11 (f := .glo "judge_gate")), F11.kp, B11⟩
  have hCatF : CatF (mW w K mg base) := ⟨x5_ok (c.ex 4)⟩
  obtain ⟨fd41, F41⟩ := c.def_ 41 (d := d41) rfl
  have F41 : FnP (mW w K mg base) "__init__" "Catalog.__init__" (cls 17 1) (d41.at_ K) fd41 := F41
  have R41 : FnR mP w K mg base CX0 2 (d41.at_ K) (spCinit (mW w K mg base)) := ok_cinit F41 hBn hCF hCatF GFn_is_name
  obtain ⟨cr, ⟨mu, cv⟩, cm⟩ := x4_ok (c.ex 3)
  have hNumF : NumF (mW w K mg base) := ⟨⟨_, mu, cr, cv⟩, ⟨_, He.mkr_ok (c.fact 41 (f := .mkr "Catalog")), R41⟩, hL⟩
  obtain ⟨fd54, F54⟩ := c.def_ 54 (d := d54) rfl
  have F54 : FnP (mW w K mg base) "numbered" "Catalog.numbered" (cls 17 2) (d54.at_ K) fd54 := F54
  have O54 : FnOk mP w K mg base CX0 4 (d54.at_ K) fd54 ["cls", "count"] (spNum (mW w K mg base)) := ok_numbered F54 hBn hNumF
  have B54 : Binds K fd54 ["cls", "count"] [] := bnd F54 fun _ _ _ _ _ _ us hl => match us, hl with | [_, _], _ => rfl
  have hNumC : NumC (mW w K mg base) := ⟨_, _, _, cr, cm, (O54.raw B54 .nil).imp (fun vs H Q E h => by rw [List.append_nil]; exact h), He.glo_ok X G (c.fact 1 (f := .glo "Catalog"))⟩
  obtain ⟨fd23, F23⟩ := c.def_ 23 (d := d23) rfl
  have F23 : FnP (mW w K mg base) "_law_evidence" "_law_evidence" (top 49) (d23.at_ K) fd23 := F23
  have O23 : FnOk mP w K mg base CX0 8 (d23.at_ K) fd23 ["_law_count_here", "_law_shelves_here"] (cEvid (mW w K mg base)) := ok_evidence F23 hBn hEvMk hNumC GFn__law_name MFn_with_books
  have B23 : Binds K fd23 ["_law_count_here", "_law_shelves_here"] [] := bnd F23 fun _ _ _ _ _ _ us hl => match us, hl with | [_, _], _ => rfl
  have GFn__law_evidence : GFn (mW w K mg base) "_law_evidence" 8 (cEvid (mW w K mg base)) := ⟨_, fd23, ["_law_count_here", "_law_shelves_here"], O23, He.glo_ok X G (c.fact2 23 (f := .glo "_law_evidence")), F23.kp, B23⟩
  obtain ⟨fd52, F52⟩ := c.def_ 52 (d := d52) rfl
  have F52 : FnP (mW w K mg base) "__init__" "Barrier.__init__" (cls 35 1) (d52.at_ K) fd52 := F52
  have O52 : FnOk mP w K mg base CX0 1 (d52.at_ K) fd52 ["self", "inside", "exits", "blocks"] (spBinit (mW w K mg base)) := ok_binit F52 hGatF
  have B52 : Binds K fd52 ["self", "inside", "exits", "blocks"] [] := bnd F52 fun _ _ _ _ _ _ us hl => match us, hl with | [_, _, _, _], _ => rfl
  obtain ⟨gc, gcc, hG⟩ := x78_ok (W := mW w K mg base) rfl rfl (show (mP.main.scope.names.lookup ("super" : Str)).isSome = false by decide +kernel) (c.ex 6) (c.ex 7) c.gate ((O52.raw B52 .nil).imp (fun vs H Q E h => by rw [List.append_nil]; exact h))
  have hGateF : GateF (mW w K mg base) := ⟨_, He.mkr_ok (c.fact 43 (f := .mkr "Gate")), He.glo_ok X G (c.fact 3 (f := .glo "Gate")), ok_ginit hG hGatF hBn⟩
  have hLawF : LawF (mW w K mg base) := ⟨⟨_, fd12, O12, He.glo_ok X G (c.fact2 12 (f := .glo "_law_box")), F12.kp, B12⟩, GFn__law_take, GFn__law_count, GFn__law_kinds, GFn__law_shelves, GFn__law_parts_of_rules, GFn__law_clear, GFn__law_steps, GFn__law_rule, GFn__law_terms, GFn__law_closure, GFn__law_blocks, GFn__law_places, GFn__law_far, GFn__law_step, GFn__law_evidence, GFn__law_right, GFn__law_holds, GFn__law_same, GFn__law_bent, GFn_judge_gate⟩
  obtain ⟨fd40, F40⟩ := c.def_ 40 (d := d40) rfl
  have F40 : FnP (mW w K mg base) "law" "law" (top 66) (d40.at_ K) fd40 := F40
  have O40 : FnOk mP w K mg base CX0 12 (d40.at_ K) fd40 ["_law_script"] (spLaw (mW w K mg base)) := ok_law F40 hBn hLawF hGateF
  have B40 : Binds K fd40 ["_law_script"] [] := bnd F40 fun _ _ _ _ _ _ us hl => match us, hl with | [_], _ => rfl
  exact ⟨fd40, F40, O40⟩
end
end K51

namespace K51
open PySem PySem.Spec PyProof.Rows L2
theorem run (w : World) : HandSHeadRun.RunEq R (PySem.W.view R.prog [66]) hkY obY 20000 loose w := by
  intro os
  show (endS w os).map _ = _
  have p1 := q1 w os
  have p2 := q2 w os
  have p3 := q3 w os
  have p4 := q4 w os
  generalize endS w os = o at p1 p2 p3 p4 ⊢
  cases o with
  | none => cases p2
  | some s =>
    obtain ⟨a1, a2⟩ := Prod.mk.inj (Option.some.inj p1)
    have p2 : ((fa.all fun f => f.ok (gT s)) && (fa2.all fun f => f.ok (gT s)) && (exN (gT s))) = true := Option.some.inj p2
    have p3 : (fns.all fun d => d.ok (gT s)) = true := Option.some.inj p3
    have p4 : obL (gT s) = vaL := Option.some.inj p4
    obtain ⟨h, h3⟩ := He.ba p2
    obtain ⟨h1, h2⟩ := He.ba h
    have e1 : obC (gT s) = true := by
      unfold obC
      rw [h1, h2, h3, p3]; rfl
    have e3 : obY s = valY := by
      rw [obY_gT, e1, p4]; rfl
    show some (_, _, obY s) = some (true, _, valY)
    rw [e3]
    exact congrArg some (Prod.ext a1 (Prod.ext a2 rfl))
theorem facts {w : World} {K : PySem.W.Frag} {h : Heap} {mg : Str → Option Value} {f : Addr} (X : K.In h) (G : h.Ns mainGlobals mg) (hfa : mg ("law" : Str) = some (.ref f)) (c : SaysY K) :
    ∃ fd : FuncData, (∀ (s : Shared) (v : Value), BindsTo s fd ⟨[v], []⟩ [("_law_script", v)]) ∧ ∀ base : Heap, K.In base → base.Ns mainGlobals mg → FnOk mP w K mg base CX0 12 f fd ["_law_script"] (spLaw (mW w K mg base)) := by
  have e := hfa.symm.trans (He.glo_ok X G (c.fact 0 (f := .glo "law") rfl))
  obtain ⟨fd, F⟩ := c.def_ 40 (d := d40) rfl
  have e : f = d40.at_ K := by injection e with e; injection e
  subst e
  have F : FunD K "law" "law" (defArgs (top 66)) (defBody (top 66)) (defScope (top 66)) [] [] (d40.at_ K) fd := F
  have b := FunD.bindsA (ps := ["_law_script"]) F fun _ _ _ _ _ _ us hl => match us, hl with | [_], _ => rfl
  refine ⟨fd, fun s v => b s [v] rfl, fun base hb gb => ?_⟩
  obtain ⟨fd', F', O⟩ := a_law (w := w) (base := base) X G c
  have : fd' = fd := by
    obtain ⟨a1, a2, a3, a4, a5, a6, a7, a8, a9, a10, r1, l1, _⟩ := F.ex
    obtain ⟨b1, b2, b3, b4, b5, b6, b7, b8, b9, b10, r2, l2, _⟩ := F'.ex
    have l2 : K.lookup (d40.at_ K) = some ⟨b1, b2, .func fd', b10⟩ := l2
    rw [l1] at l2
    injection l2 with l2
    injection l2 with _ _ l2 _
    injection l2 with l2
    exact l2.symm
  rw [← this]
  exact O
end K51
open PySem PySem.W PySem.Calls PyProof.Rows
theorem PySem.Challenge.cw_shelfterms_k51_whole_gates_hold_holds : PySem.Challenge.rw_shelfterms_k51_whole_gates_hold.Holds := by
  w_on; o_law
  refine HandSHeadRun.head_any (r := OpenLaw.row PySem.Challenge.rw_shelfterms_k51_whole_gates_hold) (q := view (OpenLaw.row PySem.Challenge.rw_shelfterms_k51_whole_gates_hold).prog [66]) (H := K51.hkY) (ob := K51.obY) (M := 20000) (loose := K51.loose) (d := HandSHeadRun.topDef (OpenLaw.row PySem.Challenge.rw_shelfterms_k51_whole_gates_hold).prog 66) (kwd := []) K51.obY_eq
    (by kernel_rfl) (fun s => by kernel_rfl) K51.run (by kernel_rfl) (by kernel_rfl) (by kernel_rfl) (by rfl) (by first | assumption | decide +kernel) (by decide +kernel) ⟨rfl, rfl, rfl, rfl, rfl, by decide +kernel⟩ ?hw ?hc
  case hw => w_witness2
  case hc =>
    refine L2.walk_ofE (l := PySem.Challenge.rw_shelfterms_k51_whole_gates_hold) (n := 63) (k := 12) (x := "_law_script") (CX := L2.CX0) rfl (by decide) (by kernel_rfl) ⟨rfl, by decide, by decide⟩ ?F (fun _ _ _ _ z => z)
    intro w mg fa h Y G hmg0
    obtain ⟨K, KX, c⟩ := Y
    have hmg : mg ("law" : PySem.Str) = some (.ref fa) := by
      have e : (HandSHeadRun.topDef (OpenLaw.row PySem.Challenge.rw_shelfterms_k51_whole_gates_hold).prog 66).name = ("law" : PySem.Str) := by kernel_rfl
      rw [← e]
      exact hmg0
    obtain ⟨fd, hb, hF⟩ := K51.facts (w := w) KX G hmg c
    exact ⟨K, fd, K51.spLaw (K51.mW w K mg h), KX, hb, fun H a ns hl _ hS => ⟨a, ns, rfl, hS, hl, fun _ => rfl⟩, hF⟩

