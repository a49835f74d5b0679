import PyProof.Rows.All
import Wide.All
import OpenK.AllK
import Wide.FinOn
import HandS.ForMost
import HandS.ForExc
import HandS.Deep
import HandS.IsInst
import HandS.TupLe
import KE.DataMinMax
import KE.DataCmp
import HandS.SortInts
import HandS.Conv
import HandS.More
import HandS.Style
import HandS.ExcIs
import PySem.Challenge.RW_playedall_k04_turned
set_option Elab.async false
set_option linter.all false
set_option maxRecDepth 100000
/-! Ly, part A: pure data D (lists, dicts and instances owned or shared), what a value V is worth (RV), what a state is worth (Rel). -/
namespace Ly
open PySem PySem.Spec PyProof.Rows L2

inductive D where
  | non | bl (b : Bool) | int (i : Int) | str (s : Str)
  | sc (ns : List Int)
  | lst (o : Bool) (xs : List D)
  | tup (xs : List D)
  | dic (o : Bool) (ks : List (List Int)) (vs : List D)
  | dik (o : Bool) (ks : List Int) (vs : List D)
  | ins (o : Bool) (c : Str) (ns : List Str) (vs : List D)
  | fn (n : Str)
  deriving Inhabited

mutual
/-- nothing owned within -/
def D.plain : D → Bool
  | .lst o xs => !o && plains xs
  | .tup xs => plains xs
  | .dic o _ vs => !o && plains vs
  | .dik o _ vs => !o && plains vs
  | .ins o _ _ vs => !o && plains vs
  | .non => true
  | .sc _ => true
  | .bl _ => true
  | .int _ => true
  | .str _ => true
  | .fn _ => true
def plains : List D → Bool
  | [] => true
  | x :: xs => x.plain && plains xs
end
mutual
/-- the same, all shared -/
def D.un : D → D
  | .lst _ xs => .lst false (uns xs)
  | .tup xs => .tup (uns xs)
  | .dic _ ks vs => .dic false ks (uns vs)
  | .dik _ ks vs => .dik false ks (uns vs)
  | .ins _ c ns vs => .ins false c ns (uns vs)
  | .non => .non
  | .sc ns => .sc ns
  | .bl b => .bl b
  | .int i => .int i
  | .str s => .str s
  | .fn n => .fn n
def uns : List D → List D
  | [] => []
  | x :: xs => x.un :: uns xs
end
mutual
/-- every list, dict, instance within is owned -/
def D.own : D → Bool
  | .lst o xs => o && owns xs
  | .tup xs => owns xs
  | .dic o _ vs => o && owns vs
  | .dik o _ vs => o && owns vs
  | .ins o _ _ vs => o && owns vs
  | .non => true
  | .sc _ => false
  | .bl _ => true
  | .int _ => true
  | .str _ => true
  | .fn _ => true
def owns : List D → Bool
  | [] => true
  | x :: xs => x.own && owns xs
end
/-- a number, a text, a truth, None -/
def D.flat : D → Bool
  | .non => true
  | .bl _ => true
  | .int _ => true
  | .str _ => true
  | .fn _ => true
  | _ => false

/-- tuple keys -/
def keyT (k : List Int) : List Key := k.map Sum.inl
def zipT (ks : List (List Int)) (vs : List V) : List (List Key × V) := (ks.map keyT).zip vs
def zipK (ks : List Int) (vs : List V) : List (Key × V) := (ks.map Sum.inl).zip vs
/-- what stands where a dict with no tuple keys, or none, stands -/
def isT : HO → Bool
  | .tup _ => true
  | .frz _ _ => true
  | _ => false

mutual
/-- v is worth d: what is shared stands in B, what is owned stands in H, at the addresses F -/
inductive RV (K : PySem.W.Frag) (mg : Str → Option Value) (B H : Hp) : V → D → List Addr → Prop
  | non : RV K mg B H .non .non []
  | bl (b : Bool) : RV K mg B H (.bl b) (.bl b) []
  | int (i : Int) : RV K mg B H (.int i) (.int i) []
  | str (s : Str) : RV K mg B H (.str s) (.str s) []
  | ls {a : Addr} {vs : List V} {xs : List D} {F : List Addr} : B a = some (.lst vs) → RVs K mg B H vs xs F → RV K mg B H (.ref a) (.lst false xs) F
  | sc {a : Addr} {ns : List Int} : SqL K B a (ns.map V.int) → RV K mg B H (.ref a) (.sc ns) []
  | lo {a : Addr} {vs : List V} {xs : List D} {F : List Addr} : H a = some (.lst vs) → RVs K mg B H vs xs F → RV K mg B H (.ref a) (.lst true xs) (a :: F)
  | tp {a : Addr} {vs : List V} {xs : List D} {F : List Addr} : SqT K B a vs → RVs K mg B H vs xs F → RV K mg B H (.ref a) (.tup xs) F
  | ds {a : Addr} {ks : List (List Int)} {vs : List V} {xs : List D} {F : List Addr} : Rd B a (.dT (zipT ks vs)) → ks.length = vs.length → RVs K mg B H vs xs F → RV K mg B H (.ref a) (.dic false ks xs) F
  | dd {a : Addr} {ks : List (List Int)} {vs : List V} {xs : List D} {F : List Addr} : H a = some (.dT (zipT ks vs)) → ks.length = vs.length → RVs K mg B H vs xs F → RV K mg B H (.ref a) (.dic true ks xs) (a :: F)
  | ks {a : Addr} {ks : List Int} {vs : List V} {xs : List D} {F : List Addr} : Rd B a (.dK (zipK ks vs)) → ks.length = vs.length → RVs K mg B H vs xs F → RV K mg B H (.ref a) (.dik false ks xs) F
  | ko {a : Addr} {ks : List Int} {vs : List V} {xs : List D} {F : List Addr} : H a = some (.dK (zipK ks vs)) → ks.length = vs.length → RVs K mg B H vs xs F → RV K mg B H (.ref a) (.dik true ks xs) (a :: F)
  | is {a C dx : Addr} {c : Str} {ns : List Str} {vs : List V} {xs : List D} {F : List Addr} : mg c = some (.ref C) → B a = some (.ins C dx (ns.zip vs)) → ns.length = vs.length → RVs K mg B H vs xs F → RV K mg B H (.ref a) (.ins false c ns xs) F
  | io {a C dx : Addr} {c : Str} {ns : List Str} {vs : List V} {xs : List D} {F : List Addr} : mg c = some (.ref C) → H a = some (.ins C dx (ns.zip vs)) → ns.length = vs.length → RVs K mg B H vs xs F → RV K mg B H (.ref a) (.ins true c ns xs) (a :: F)
  | fn {a : Addr} {n : Str} : mg n = some (.ref a) → RV K mg B H (.ref a) (.fn n) []
inductive RVs (K : PySem.W.Frag) (mg : Str → Option Value) (B H : Hp) : List V → List D → List Addr → Prop
  | nil : RVs K mg B H [] [] []
  | cons {v : V} {vs : List V} {d : D} {ds : List D} {F F' : List Addr} : RV K mg B H v d F → RVs K mg B H vs ds F' → RVs K mg B H (v :: vs) (d :: ds) (F ++ F')
end

section
variable {K : PySem.W.Frag} {mg : Str → Option Value} {B B' H H' : Hp}

theorem Same.rd {a : Addr} {u : HO} (s : Same B B') (h : Rd B a u) : Rd B' a u := by
  rcases h with h | ⟨o, h⟩
  · exact .inl (s _ _ h)
  · exact .inr ⟨o, s _ _ h⟩
theorem Same.seqT {a : Addr} {xs : List V} (s : Same B B') (h : SqT K B a xs) : SqT K B' a xs := by
  rcases h with h | h
  · exact .inl (Ly.Same.rd s h)
  · exact .inr h

/-- what RV leans on of B -/
structure Le (B B' : Hp) : Prop where
  b : ∀ a u, Rd B a u → Rd B' a u
  i : ∀ a C dx fs, B a = some (.ins C dx fs) → B' a = some (.ins C dx fs)
  l : ∀ a xs, B a = some (.lst xs) → B' a = some (.lst xs)
theorem Le.of (s : Same B B') : Le B B' := ⟨fun _ _ h => Ly.Same.rd s h, fun _ _ _ _ h => s _ _ h, fun _ _ h => s _ _ h⟩
theorem Le.seq {a : Addr} {xs : List V} (s : Le B B') (h : SqL K B a xs) : SqL K B' a xs := by
  rcases h with h | h
  · exact .inl (s.b _ _ h)
  · exact .inr h
theorem Le.seqT {a : Addr} {xs : List V} (s : Le B B') (h : SqT K B a xs) : SqT K B' a xs := by
  rcases h with h | h
  · exact .inl (s.b _ _ h)
  · exact .inr h
theorem on_cons {α : Type} {a : α} {F : List α} {P : α → Prop} (h : ∀ p ∈ a :: F, P p) : P a ∧ ∀ p ∈ F, P p := ⟨h a (by simp), fun p hp => h p (List.mem_cons_of_mem _ hp)⟩
theorem on_app {α : Type} {E F : List α} {P : α → Prop} (h : ∀ p ∈ E ++ F, P p) : (∀ p ∈ E, P p) ∧ ∀ p ∈ F, P p := ⟨fun p hp => h p (List.mem_append_left _ hp), fun p hp => h p (List.mem_append_right _ hp)⟩

mutual
theorem RV.mono (s : Le B B') : ∀ {v : V} {d : D} {F : List Addr}, (∀ p ∈ F, H' p = H p) → RV K mg B H v d F → RV K mg B' H' v d F
  | _, _, _, _, .non => .non
  | _, _, _, _, .bl b => .bl b
  | _, _, _, _, .int i => .int i
  | _, _, _, _, .str x => .str x
  | _, _, _, _, .sc h => .sc (s.seq h)
  | _, _, _, e, .ls h r => .ls (s.l _ _ h) (RVs.mono s e r)
  | _, _, _, e, .lo h r => .lo ((on_cons e).1.trans h) (RVs.mono s (on_cons e).2 r)
  | _, _, _, e, .tp h r => .tp (s.seqT h) (RVs.mono s e r)
  | _, _, _, e, .ds h l r => .ds (s.b _ _ h) l (RVs.mono s e r)
  | _, _, _, e, .dd h l r => .dd ((on_cons e).1.trans h) l (RVs.mono s (on_cons e).2 r)
  | _, _, _, e, .ks h l r => .ks (s.b _ _ h) l (RVs.mono s e r)
  | _, _, _, e, .ko h l r => .ko ((on_cons e).1.trans h) l (RVs.mono s (on_cons e).2 r)
  | _, _, _, e, .is c h l r => .is c (s.i _ _ _ _ h) l (RVs.mono s e r)
  | _, _, _, e, .io c h l r => .io c ((on_cons e).1.trans h) l (RVs.mono s (on_cons e).2 r)
  | _, _, _, _, .fn h => .fn h
theorem RVs.mono (s : Le B B') : ∀ {vs : List V} {ds : List D} {F : List Addr}, (∀ p ∈ F, H' p = H p) → RVs K mg B H vs ds F → RVs K mg B' H' vs ds F
  | _, _, _, _, .nil => .nil
  | _, _, _, e, .cons r t => .cons (RV.mono s (on_app e).1 r) (RVs.mono s (on_app e).2 t)
end
mutual
/-- what was owned is shared from now on -/
theorem RV.freeze (s : Le B B') : ∀ {v : V} {d : D} {F : List Addr}, (∀ p ∈ F, B' p = H p) → RV K mg B H v d F → RV K mg B' H' v d.un []
  | _, _, _, _, .non => .non
  | _, _, _, _, .bl b => .bl b
  | _, _, _, _, .int i => .int i
  | _, _, _, _, .str x => .str x
  | _, _, _, _, .sc h => .sc (s.seq h)
  | _, _, _, e, .ls h r => .ls (s.l _ _ h) (RVs.freeze s e r)
  | _, _, _, e, .lo h r => .ls ((on_cons e).1.trans h) (RVs.freeze s (on_cons e).2 r)
  | _, _, _, e, .tp h r => .tp (s.seqT h) (RVs.freeze s e r)
  | _, _, _, e, .ds h l r => .ds (s.b _ _ h) l (RVs.freeze s e r)
  | _, _, _, e, .dd h l r => .ds (.inl ((on_cons e).1.trans h)) l (RVs.freeze s (on_cons e).2 r)
  | _, _, _, e, .ks h l r => .ks (s.b _ _ h) l (RVs.freeze s e r)
  | _, _, _, e, .ko h l r => .ks (.inl ((on_cons e).1.trans h)) l (RVs.freeze s (on_cons e).2 r)
  | _, _, _, e, .is c h l r => .is c (s.i _ _ _ _ h) l (RVs.freeze s e r)
  | _, _, _, e, .io c h l r => .is c ((on_cons e).1.trans h) l (RVs.freeze s (on_cons e).2 r)
  | _, _, _, _, .fn h => .fn h
theorem RVs.freeze (s : Le B B') : ∀ {vs : List V} {ds : List D} {F : List Addr}, (∀ p ∈ F, B' p = H p) → RVs K mg B H vs ds F → RVs K mg B' H' vs (uns ds) []
  | _, _, _, _, .nil => .nil
  | _, _, _, e, .cons r t => .cons (F := []) (F' := []) (RV.freeze s (on_app e).1 r) (RVs.freeze s (on_app e).2 t)
end
/-- a view: all that stands in H is shared -/
theorem RV.view (s : Same B H) {v : V} {d : D} {F : List Addr} (r : RV K mg B H v d F) : RV K mg H H v d.un [] := RV.freeze (Le.of s) (fun _ _ => rfl) r
theorem RVs.view (s : Same B H) {vs : List V} {ds : List D} {F : List Addr} (r : RVs K mg B H vs ds F) : RVs K mg H H vs (uns ds) [] := RVs.freeze (Le.of s) (fun _ _ => rfl) r
mutual
theorem RV.noF : ∀ {v : V} {d : D} {F : List Addr}, d.plain = true → RV K mg B H v d F → F = []
  | _, _, _, _, .non => rfl
  | _, _, _, _, .bl b => rfl
  | _, _, _, _, .int i => rfl
  | _, _, _, _, .str x => rfl
  | _, _, _, _, .sc _ => rfl
  | _, .lst _ xs, _, e, .ls h r => RVs.noF (ds := xs) (by simpa [D.plain] using e) r
  | _, .lst _ xs, _, e, .lo h r => by simp [D.plain] at e
  | _, .tup xs, _, e, .tp h r => RVs.noF (ds := xs) (by simpa [D.plain] using e) r
  | _, .dic _ _ xs, _, e, .ds h l r => RVs.noF (ds := xs) (by simpa [D.plain] using e) r
  | _, .dic _ _ xs, _, e, .dd h l r => by simp [D.plain] at e
  | _, .dik _ _ xs, _, e, .ks h l r => RVs.noF (ds := xs) (by simpa [D.plain] using e) r
  | _, .dik _ _ xs, _, e, .ko h l r => by simp [D.plain] at e
  | _, .ins _ _ _ xs, _, e, .is c h l r => RVs.noF (ds := xs) (by simpa [D.plain] using e) r
  | _, .ins _ _ _ xs, _, e, .io c h l r => by simp [D.plain] at e
  | _, _, _, _, .fn h => rfl
theorem RVs.noF : ∀ {vs : List V} {ds : List D} {F : List Addr}, plains ds = true → RVs K mg B H vs ds F → F = []
  | _, _, _, _, .nil => rfl
  | _, d :: ds, _, e, .cons r t => by
    simp [plains] at e
    rw [RV.noF e.1 r, RVs.noF e.2 t]
    rfl
end
mutual
theorem RV.isPlain : ∀ {v : V} {d : D} {F : List Addr}, F = [] → RV K mg B H v d F → d.plain = true
  | _, _, _, _, .non => rfl
  | _, _, _, _, .bl b => rfl
  | _, _, _, _, .int i => rfl
  | _, _, _, _, .str x => rfl
  | _, _, _, _, .sc _ => rfl
  | _, _, _, e, .ls h r => by simp [D.plain, RVs.isPlain e r]
  | _, _, _, e, .lo h r => by cases e
  | _, _, _, e, .tp h r => by simp [D.plain, RVs.isPlain e r]
  | _, _, _, e, .ds h l r => by simp [D.plain, RVs.isPlain e r]
  | _, _, _, e, .dd h l r => by cases e
  | _, _, _, e, .ks h l r => by simp [D.plain, RVs.isPlain e r]
  | _, _, _, e, .ko h l r => by cases e
  | _, _, _, e, .is c h l r => by simp [D.plain, RVs.isPlain e r]
  | _, _, _, e, .io c h l r => by cases e
  | _, _, _, _, .fn h => rfl
theorem RVs.isPlain : ∀ {vs : List V} {ds : List D} {F : List Addr}, F = [] → RVs K mg B H vs ds F → plains ds = true
  | _, _, _, _, .nil => rfl
  | _, _, _, e, .cons r t => by
    obtain ⟨e1, e2⟩ := List.append_eq_nil_iff.mp e
    simp [plains, RV.isPlain e1 r, RVs.isPlain e2 t]
end
theorem RV.plainly {v : V} {d : D} {F : List Addr} (e : d.plain = true) (r : RV K mg B H v d F) : RV K mg B H' v d [] := by
  have z := r.noF e
  subst z
  exact r.mono ⟨fun _ _ h => h, fun _ _ _ _ h => h, fun _ _ h => h⟩ (fun _ h => nomatch h)
theorem RVs.plainly {vs : List V} {ds : List D} {F : List Addr} (e : plains ds = true) (r : RVs K mg B H vs ds F) : RVs K mg B H' vs ds [] := by
  have z := r.noF e
  subst z
  exact r.mono ⟨fun _ _ h => h, fun _ _ _ _ h => h, fun _ _ h => h⟩ (fun _ h => nomatch h)
mutual
/-- an owned tree, where only tuples are to be found elsewhere -/
theorem RV.owned (hb : ∀ a xs, SqT K B a xs → SqT K B' a xs) : ∀ {v : V} {d : D} {F : List Addr}, d.own = true → (∀ p ∈ F, H' p = H p) → RV K mg B H v d F → RV K mg B' H' v d F
  | _, _, _, _, _, .non => .non
  | _, _, _, _, _, .bl b => .bl b
  | _, _, _, _, _, .int i => .int i
  | _, _, _, _, _, .str x => .str x
  | _, .sc ns, _, e, _, .sc h => by simp [D.own] at e
  | _, .lst _ xs, _, e, _, .ls h r => by simp [D.own] at e
  | _, .lst _ xs, _, e, q, .lo h r => .lo ((on_cons q).1.trans h) (RVs.owned hb (ds := xs) (by simpa [D.own] using e) (on_cons q).2 r)
  | _, .tup xs, _, e, q, .tp h r => .tp (hb _ _ h) (RVs.owned hb (ds := xs) (by simpa [D.own] using e) q r)
  | _, .dic _ _ xs, _, e, _, .ds h l r => by simp [D.own] at e
  | _, .dic _ _ xs, _, e, q, .dd h l r => .dd ((on_cons q).1.trans h) l (RVs.owned hb (ds := xs) (by simpa [D.own] using e) (on_cons q).2 r)
  | _, .dik _ _ xs, _, e, _, .ks h l r => by simp [D.own] at e
  | _, .dik _ _ xs, _, e, q, .ko h l r => .ko ((on_cons q).1.trans h) l (RVs.owned hb (ds := xs) (by simpa [D.own] using e) (on_cons q).2 r)
  | _, .ins _ _ _ xs, _, e, _, .is c h l r => by simp [D.own] at e
  | _, .ins _ _ _ xs, _, e, q, .io c h l r => .io c ((on_cons q).1.trans h) l (RVs.owned hb (ds := xs) (by simpa [D.own] using e) (on_cons q).2 r)
  | _, _, _, _, _, .fn h => .fn h
theorem RVs.owned (hb : ∀ a xs, SqT K B a xs → SqT K B' a xs) : ∀ {vs : List V} {ds : List D} {F : List Addr}, owns ds = true → (∀ p ∈ F, H' p = H p) → RVs K mg B H vs ds F → RVs K mg B' H' vs ds F
  | _, _, _, _, _, .nil => .nil
  | _, d :: ds, _, e, q, .cons r t => .cons (RV.owned hb (d := d) (by simp [owns] at e; exact e.1) (on_app q).1 r) (RVs.owned hb (ds := ds) (by simp [owns] at e; exact e.2) (on_app q).2 t)
end
theorem RVs.length : ∀ {vs : List V} {ds : List D} {F : List Addr}, RVs K mg B H vs ds F → vs.length = ds.length
  | _, _, _, .nil => rfl
  | _, _, _, .cons _ t => congrArg Nat.succ (RVs.length t)
theorem RVs.cons_inv {vs : List V} {d : D} {ds : List D} {F : List Addr} (r : RVs K mg B H vs (d :: ds) F) : ∃ v ws E E', vs = v :: ws ∧ RV K mg B H v d E ∧ RVs K mg B H ws ds E' ∧ F = E ++ E' := by
  cases r with
  | cons h t => exact ⟨_, _, _, _, rfl, h, t, rfl⟩
theorem RVs.nil_inv {vs : List V} {F : List Addr} (r : RVs K mg B H vs [] F) : vs = [] ∧ F = [] := by
  cases r
  exact ⟨rfl, rfl⟩
theorem RV.int_inv {v : V} {i : Int} {F : List Addr} (r : RV K mg B H v (.int i) F) : v = .int i := by
  cases r
  rfl
theorem RV.bl_inv {v : V} {b : Bool} {F : List Addr} (r : RV K mg B H v (.bl b) F) : v = .bl b := by
  cases r
  rfl
theorem RV.str_inv {v : V} {x : Str} {F : List Addr} (r : RV K mg B H v (.str x) F) : v = .str x := by
  cases r
  rfl
theorem RV.non_inv {v : V} {F : List Addr} (r : RV K mg B H v .non F) : v = .non := by
  cases r
  rfl
/-- one view alone, two, three -/
theorem RVs.inv1 {vs : List V} {d : D} (r : RVs K mg B H vs [d] []) : ∃ v, vs = [v] ∧ RV K mg B H v d [] := by
  obtain ⟨v, ws, E, E', rfl, h, t, e⟩ := r.cons_inv
  obtain ⟨rfl, rfl⟩ := t.nil_inv
  rw [List.append_nil] at e
  subst e
  exact ⟨v, rfl, h⟩
theorem RVs.inv2 {vs : List V} {d e : D} (r : RVs K mg B H vs [d, e] []) : ∃ v w, vs = [v, w] ∧ RV K mg B H v d [] ∧ RV K mg B H w e [] := by
  obtain ⟨v, ws, E, E', rfl, h, t, z⟩ := r.cons_inv
  obtain ⟨e1, e2⟩ := List.append_eq_nil_iff.mp z.symm
  subst e1
  subst e2
  obtain ⟨w, rfl, h2⟩ := t.inv1
  exact ⟨v, w, rfl, h, h2⟩
theorem RVs.inv3 {vs : List V} {d e f : D} (r : RVs K mg B H vs [d, e, f] []) : ∃ v w u, vs = [v, w, u] ∧ RV K mg B H v d [] ∧ RV K mg B H w e [] ∧ RV K mg B H u f [] := by
  obtain ⟨v, ws, E, E', rfl, h, t, z⟩ := r.cons_inv
  obtain ⟨e1, e2⟩ := List.append_eq_nil_iff.mp z.symm
  subst e1
  subst e2
  obtain ⟨w, u, rfl, h2, h3⟩ := t.inv2
  exact ⟨v, w, u, rfl, h, h2, h3⟩
theorem RVs.get : ∀ {vs : List V} {ds : List D} {F : List Addr} {i : Nat} {d : D}, RVs K mg B H vs ds F → ds[i]? = some d → ∃ v F', vs[i]? = some v ∧ RV K mg B H v d F' ∧ ∀ p ∈ F', p ∈ F
  | _, _, _, _, _, .nil, e => by simp at e
  | _, _, _, 0, _, .cons r _, e => by
    simp at e; subst e
    exact ⟨_, _, rfl, r, fun p hp => List.mem_append_left _ hp⟩
  | _, _, _, i + 1, d, .cons _ t, e => by
    obtain ⟨u, F', h1, h2, h3⟩ := RVs.get (i := i) (d := d) t (by simpa using e)
    exact ⟨u, F', by simpa using h1, h2, fun p hp => List.mem_append_right _ (h3 p hp)⟩
theorem RVs.at {vs : List V} {ds : List D} {F : List Addr} {i : Nat} {v : V} {d : D} (r : RVs K mg B H vs ds F) (h1 : vs[i]? = some v) (h2 : ds[i]? = some d) : ∃ F', RV K mg B H v d F' ∧ ∀ p ∈ F', p ∈ F := by
  obtain ⟨u, F', e, q⟩ := r.get h2
  rw [h1] at e
  cases e
  exact ⟨F', q⟩
theorem RVs.append : ∀ {vs ws : List V} {ds es : List D} {E F : List Addr}, RVs K mg B H vs ds E → RVs K mg B H ws es F → RVs K mg B H (vs ++ ws) (ds ++ es) (E ++ F)
  | _, _, _, _, _, _, .nil, s => s
  | _, _, _, _, _, _, .cons r t, s => by
    rw [List.append_assoc]
    exact .cons r (RVs.append t s)
theorem RVs.of_get : ∀ {vs : List V} {ds : List D}, vs.length = ds.length → (∀ (i : Nat) (v : V) (d : D), vs[i]? = some v → ds[i]? = some d → RV K mg B H v d []) → RVs K mg B H vs ds []
  | [], [], _, _ => .nil
  | [], _ :: _, e, _ => by simp at e
  | _ :: _, [], e, _ => by simp at e
  | v :: vs, d :: ds, e, h => .cons (F := []) (F' := []) (h 0 v d rfl rfl) (RVs.of_get (by simpa using e) fun i w c h1 h2 => h (i + 1) w c (by simpa using h1) (by simpa using h2))
theorem RVs.one {v : V} {d : D} {F : List Addr} (r : RV K mg B H v d F) : RVs K mg B H [v] [d] F := by
  have h := RVs.cons r RVs.nil
  rw [List.append_nil] at h
  exact h
theorem plains_get : ∀ {xs : List D} {i : Nat} {d : D}, plains xs = true → xs[i]? = some d → d.plain = true
  | [], _, _, _, e => by simp at e
  | x :: xs, 0, d, h, e => by simp at e; subst e; simp [plains] at h; exact h.1
  | x :: xs, i + 1, d, h, e => by simp [plains] at h; exact plains_get h.2 (by simpa using e)
theorem plains_of : ∀ {xs : List D}, (∀ d ∈ xs, d.plain = true) → plains xs = true
  | [], _ => rfl
  | x :: xs, h => by simp [plains, h x (by simp), plains_of (xs := xs) fun d hd => h d (List.mem_cons_of_mem _ hd)]
theorem plains_mem {xs : List D} (h : plains xs = true) {d : D} (hd : d ∈ xs) : d.plain = true := by
  obtain ⟨i, hi, e⟩ := List.getElem_of_mem hd
  exact plains_get (i := i) h (by rw [List.getElem?_eq_getElem hi, e])
theorem plains_app {xs ys : List D} : plains (xs ++ ys) = (plains xs && plains ys) := by
  induction xs with
  | nil => rfl
  | cons x xs ih => simp [plains, ih, Bool.and_assoc]
theorem owns_app {xs ys : List D} : owns (xs ++ ys) = (owns xs && owns ys) := by
  induction xs with
  | nil => rfl
  | cons x xs ih => simp [owns, ih, Bool.and_assoc]
mutual
theorem un_plain : ∀ d : D, d.un.plain = true
  | .lst _ xs => by simp [D.un, D.plain, uns_plain xs]
  | .tup xs => by simp [D.un, D.plain, uns_plain xs]
  | .dic _ _ xs => by simp [D.un, D.plain, uns_plain xs]
  | .dik _ _ xs => by simp [D.un, D.plain, uns_plain xs]
  | .ins _ _ _ xs => by simp [D.un, D.plain, uns_plain xs]
  | .non => rfl
  | .sc _ => rfl
  | .bl _ => rfl
  | .int _ => rfl
  | .str _ => rfl
  | .fn _ => rfl
theorem uns_plain : ∀ xs : List D, plains (uns xs) = true
  | [] => rfl
  | x :: xs => by simp [uns, plains, un_plain x, uns_plain xs]
end
mutual
theorem un_of_plain : ∀ d : D, d.plain = true → d.un = d
  | .lst o xs, h => by
    simp [D.plain] at h
    simp [D.un, uns_of_plain xs h.2, h.1]
  | .tup xs, h => by
    simp [D.plain] at h
    simp [D.un, uns_of_plain xs h]
  | .dic o _ xs, h => by
    simp [D.plain] at h
    simp [D.un, uns_of_plain xs h.2, h.1]
  | .dik o _ xs, h => by
    simp [D.plain] at h
    simp [D.un, uns_of_plain xs h.2, h.1]
  | .ins o _ _ xs, h => by
    simp [D.plain] at h
    simp [D.un, uns_of_plain xs h.2, h.1]
  | .non, _ => rfl
  | .sc _, _ => rfl
  | .bl _, _ => rfl
  | .int _, _ => rfl
  | .str _, _ => rfl
  | .fn _, _ => rfl
theorem uns_of_plain : ∀ xs : List D, plains xs = true → uns xs = xs
  | [], _ => rfl
  | x :: xs, h => by
    simp [plains] at h
    simp [uns, un_of_plain x h.1, uns_of_plain xs h.2]
end
theorem uns_length : ∀ xs : List D, (uns xs).length = xs.length
  | [] => rfl
  | x :: xs => by simp [uns, uns_length xs]
theorem uns_map : ∀ xs : List D, uns xs = xs.map D.un
  | [] => rfl
  | x :: xs => by simp [uns, uns_map xs]
theorem uns_get (xs : List D) (i : Nat) : (uns xs)[i]? = (xs[i]?).map D.un := by rw [uns_map, List.getElem?_map]
theorem flat_plain {d : D} (h : d.flat = true) : d.plain = true := by cases d <;> first | rfl | cases h
theorem RV.flatly {v : V} {d : D} {F : List Addr} (e : d.flat = true) (r : RV K mg B H v d F) : RV K mg B' H' v d [] := by
  cases r <;> first | (cases e) | skip
  · exact .non
  · exact .bl _
  · exact .int _
  · exact .str _
  · exact .fn ‹_›
end

/-! ### a state -/
/-- the entry: what may be read there, what stands there -/
structure Gt where
  B0 : Hp
  H0 : Hp
def TupIn (B H : Hp) : Prop := ∀ p o, H p = some o → isT o = true → B p = some o
/-- L the values (slots, then what is held), R what they are worth, F what each owns -/
structure RelW (K : PySem.W.Frag) (mg : Str → Option Value) (G : Gt) (B : Hp) (F : Nat → List Addr) (H : Hp) (L : List (Option V)) (R : List (Option D)) : Prop where
  len : L.length = R.length
  sb : Same G.B0 B
  sh : Same G.H0 H
  sbh : Same B H
  new : ∀ p, B p ≠ none → G.B0 p ≠ none ∨ G.H0 p = none
  tup : TupIn B H
  owf : ∀ (i : Nat) (p : Addr), p ∈ F i → B p = none ∧ G.H0 p = none ∧ H p ≠ none
  nd : ∀ i, (F i).Nodup
  dj : ∀ (i j : Nat) (p : Addr), p ∈ F i → p ∈ F j → i = j
  ent : ∀ (i : Nat) (d : D), R[i]? = some (some d) → ∃ v, L[i]? = some (some v) ∧ RV K mg B H v d (F i)
def Rel (K : PySem.W.Frag) (mg : Str → Option Value) (G : Gt) (H : Hp) (L : List (Option V)) (R : List (Option D)) : Prop := ∃ B F, RelW K mg G B F H L R
end Ly

set_option Elab.async false
set_option linter.all false
set_option maxRecDepth 100000
/-! Ly, part B: what may be done to a state. -/
namespace Ly
open PySem PySem.Spec PyProof.Rows L2
def setF (F : Nat → List Addr) (k : Nat) (E : List Addr) : Nat → List Addr := fun j => if j = k then E else F j
theorem setF_at {F : Nat → List Addr} {k : Nat} {E : List Addr} : setF F k E k = E := if_pos rfl
theorem setF_ne {F : Nat → List Addr} {k j : Nat} {E : List Addr} (h : j ≠ k) : setF F k E j = F j := if_neg h
theorem get_snoc {α : Type} {L : List α} {x y : α} {i : Nat} (h : (L ++ [x])[i]? = some y) : (i < L.length ∧ L[i]? = some y) ∨ (i = L.length ∧ x = y) := by
  by_cases hi : i < L.length
  · rw [List.getElem?_append_left hi] at h
    exact .inl ⟨hi, h⟩
  · have hi2 : i = L.length := by
      obtain ⟨h1, _⟩ := List.getElem?_eq_some_iff.mp h
      simp at h1
      omega
    subst hi2
    rw [List.getElem?_append_right (Nat.le_refl _)] at h
    simp at h
    exact .inr ⟨rfl, h⟩
theorem get_keep {α : Type} {L M : List α} {i : Nat} {y : α} (h : L[i]? = some y) : (L ++ M)[i]? = some y := by
  obtain ⟨h1, _⟩ := List.getElem?_eq_some_iff.mp h
  rw [List.getElem?_append_left h1]
  exact h
theorem get_last {α : Type} {L : List α} {x : α} {n : Nat} (h : n = L.length) : (L ++ [x])[n]? = some x := by
  subst h
  rw [List.getElem?_append_right (Nat.le_refl _)]
  simp
theorem lt_of_get {α : Type} {L : List α} {i : Nat} {y : α} (h : L[i]? = some y) : i < L.length := (List.getElem?_eq_some_iff.mp h).1

section
variable {K : PySem.W.Frag} {mg : Str → Option Value} {G : Gt} {B B' H H' : Hp} {F F' : Nat → List Addr} {L L' : List (Option V)} {R R' : List (Option D)} {v : V} {d : D} {E : List Addr} {i : Nat} {p : Addr}
theorem RelW.free (W : RelW K mg G B F H L R) (h : H p = none) : B p = none ∧ G.H0 p = none ∧ ∀ j, p ∉ F j := by
  refine ⟨?_, ?_, fun j hj => (W.owf j p hj).2.2 h⟩
  · cases e : B p with
    | none => rfl
    | some o => rw [W.sbh _ _ e] at h; cases h
  · cases e : G.H0 p with
    | none => rfl
    | some o => rw [W.sh _ _ e] at h; cases h
/-- the same heap, other holders -/
theorem RelW.re (W : RelW K mg G B F H L R) (len : L'.length = R'.length) (sub : ∀ i p, p ∈ F' i → ∃ j, p ∈ F j) (nd : ∀ i, (F' i).Nodup) (dj : ∀ i j p, p ∈ F' i → p ∈ F' j → i = j)
    (ent : ∀ (i : Nat) (d : D), R'[i]? = some (some d) → ∃ v, L'[i]? = some (some v) ∧ RV K mg B H v d (F' i)) : RelW K mg G B F' H L' R' :=
  ⟨len, W.sb, W.sh, W.sbh, W.new, W.tup, fun i p h => (sub i p h).elim fun j hj => W.owf j p hj, nd, dj, ent⟩
theorem RelW.push (W : RelW K mg G B F H L R) (rv : RV K mg B H v d E) (hE : ∀ p ∈ E, B p = none ∧ G.H0 p = none ∧ H p ≠ none) (nE : E.Nodup) (dE : ∀ p ∈ E, ∀ j, j < R.length → p ∉ F j) :
    RelW K mg G B (fun j => if j < R.length then F j else if j = R.length then E else []) H (L ++ [some v]) (R ++ [some d]) := by
  have at_ : ∀ j p, p ∈ (fun j => if j < R.length then F j else if j = R.length then E else []) j → (j < R.length ∧ p ∈ F j) ∨ (j = R.length ∧ p ∈ E) := by
    intro j p h
    try simp only at h
    split at h
    · exact .inl ⟨‹_›, h⟩
    · split at h
      · exact .inr ⟨‹_›, h⟩
      · cases h
  refine ⟨by simp [W.len], W.sb, W.sh, W.sbh, W.new, W.tup, fun j p h => ?_, fun j => ?_, fun j k p h1 h2 => ?_, fun j c h => ?_⟩
  · rcases at_ j p h with ⟨_, h⟩ | ⟨_, h⟩
    · exact W.owf j p h
    · exact hE p h
  · try simp only
    split
    · exact W.nd j
    · split
      · exact nE
      · exact List.nodup_nil
  · rcases at_ j p h1 with ⟨l1, h1⟩ | ⟨l1, h1⟩ <;> rcases at_ k p h2 with ⟨l2, h2⟩ | ⟨l2, h2⟩
    · exact W.dj j k p h1 h2
    · exact absurd h1 (dE p h2 j l1)
    · exact absurd h2 (dE p h1 k l2)
    · rw [l1, l2]
  · rcases get_snoc h with ⟨l, h⟩ | ⟨l, h⟩
    · obtain ⟨v, h1, h2⟩ := W.ent j c h
      exact ⟨v, get_keep h1, by simp only [if_pos l]; exact h2⟩
    · cases h
      subst l
      refine ⟨v, get_last W.len.symm, ?_⟩
      simp only [Nat.lt_irrefl, if_false, if_true]
      exact rv
theorem RelW.pushP (W : RelW K mg G B F H L R) (rv : RV K mg B H v d []) : RelW K mg G B (fun j => if j < R.length then F j else if j = R.length then [] else []) H (L ++ [some v]) (R ++ [some d]) :=
  W.push rv (fun _ h => nomatch h) List.nodup_nil (fun _ h => nomatch h)
/-- some are forgotten -/
theorem RelW.less (W : RelW K mg G B F H L R) (len : L'.length = R'.length) (h : ∀ (i : Nat) (d : D), R'[i]? = some (some d) → R[i]? = some (some d) ∧ L'[i]? = L[i]?) : RelW K mg G B F H L' R' :=
  W.re len (fun i p h => ⟨i, h⟩) W.nd W.dj fun i d e => by
    obtain ⟨h1, h2⟩ := h i d e
    rw [h2]
    exact W.ent i d h1
/-- the heap grows at p -/
theorem RelW.grow {o : HO} (W : RelW K mg G B F H L R) (h : H p = none) (ho : isT o = false) : RelW K mg G B F (upd H p o) L R := by
  obtain ⟨f1, f2, f3⟩ := W.free h
  have ne : ∀ b u, H b = some u → b ≠ p := fun b u e => ne_of_none e h
  refine ⟨W.len, W.sb, fun b u e => ?_, fun b u e => ?_, W.new, fun b u e t => ?_, fun j q hq => ?_, W.nd, W.dj, fun j c e => ?_⟩
  · rw [upd_ne (ne_of_none e f2)]; exact W.sh _ _ e
  · rw [upd_ne (ne_of_none e f1)]; exact W.sbh _ _ e
  · by_cases hb : b = p
    · subst hb
      rw [upd_same] at e
      cases e
      rw [ho] at t
      cases t
    · rw [upd_ne hb] at e
      exact W.tup b u e t
  · obtain ⟨a, b, c⟩ := W.owf j q hq
    refine ⟨a, b, ?_⟩
    rw [upd_ne (fun z => f3 j (by rw [← z]; exact hq))]
    exact c
  · obtain ⟨v, h1, h2⟩ := W.ent j c e
    refine ⟨v, h1, h2.mono (Le.of fun _ _ z => z) fun q hq => ?_⟩
    rw [upd_ne (fun z => f3 j (by rw [← z]; exact hq))]
/-- .. and is shared there -/
theorem RelW.growB {o : HO} (W : RelW K mg G B F H L R) (h : H p = none) : RelW K mg G (upd B p o) F (upd H p o) L R := by
  obtain ⟨f1, f2, f3⟩ := W.free h
  have sB : Same B (upd B p o) := fun b u e => by
    rw [upd_ne (ne_of_none e f1)]
    exact e
  refine ⟨W.len, W.sb.trans sB, fun b u e => ?_, fun b u e => ?_, fun b e => ?_, fun b u e t => ?_, fun j q hq => ?_, W.nd, W.dj, fun j c e => ?_⟩
  · rw [upd_ne (ne_of_none e f2)]; exact W.sh _ _ e
  · by_cases hb : b = p
    · subst hb
      rw [upd_same] at e ⊢
      exact e
    · rw [upd_ne hb] at e ⊢
      exact W.sbh _ _ e
  · by_cases hb : b = p
    · subst hb
      exact .inr f2
    · rw [upd_ne hb] at e
      exact W.new b e
  · by_cases hb : b = p
    · subst hb
      rw [upd_same] at e ⊢
      exact e
    · rw [upd_ne hb] at e ⊢
      exact W.tup b u e t
  · obtain ⟨a, b, c⟩ := W.owf j q hq
    have hq' : q ≠ p := fun z => f3 j (by rw [← z]; exact hq)
    rw [upd_ne hq', upd_ne hq']
    exact ⟨a, b, c⟩
  · obtain ⟨v, h1, h2⟩ := W.ent j c e
    refine ⟨v, h1, h2.mono (Le.of sB) fun q hq => ?_⟩
    rw [upd_ne (fun z => f3 j (by rw [← z]; exact hq))]

/-! ### at a state -/
theorem Rel.len (r : Rel K mg G H L R) : L.length = R.length := let ⟨_, _, W⟩ := r; W.len
theorem Rel.same (r : Rel K mg G H L R) : Same G.H0 H := let ⟨_, _, W⟩ := r; W.sh
theorem Rel.at (r : Rel K mg G H L R) (h : R[i]? = some (some d)) : ∃ v, L[i]? = some (some v) ∧ RV K mg H H v d.un [] := by
  obtain ⟨B, F, W⟩ := r
  obtain ⟨v, h1, h2⟩ := W.ent i d h
  exact ⟨v, h1, h2.view W.sbh⟩
theorem Rel.dup (r : Rel K mg G H L R) (h : R[i]? = some (some d)) (hp : d.plain = true) : ∃ v, L[i]? = some (some v) ∧ Rel K mg G H (L ++ [some v]) (R ++ [some d]) := by
  obtain ⟨B, F, W⟩ := r
  obtain ⟨v, h1, h2⟩ := W.ent i d h
  exact ⟨v, h1, _, _, W.pushP (h2.plainly hp)⟩
theorem Rel.flat (r : Rel K mg G H L R) (h : RV K mg H H v d []) (hf : d.flat = true) : Rel K mg G H (L ++ [some v]) (R ++ [some d]) := by
  obtain ⟨B, F, W⟩ := r
  exact ⟨_, _, W.pushP (h.flatly hf)⟩
theorem Rel.less (r : Rel K mg G H L R) (len : L'.length = R'.length) (h : ∀ (i : Nat) (d : D), R'[i]? = some (some d) → R[i]? = some (some d) ∧ L'[i]? = L[i]?) : Rel K mg G H L' R' := by
  obtain ⟨B, F, W⟩ := r
  exact ⟨_, _, W.less len h⟩
theorem Rel.drop {x : Option V} {y : Option D} (r : Rel K mg G H (L ++ [x]) (R ++ [y])) : Rel K mg G H L R := by
  have hl : L.length = R.length := by
    have := r.len
    simpa using this
  exact r.less hl fun i d h => ⟨get_keep h, (List.getElem?_append_left (by rw [hl]; exact lt_of_get h)).symm⟩
/-- a slot's worth moves to the end -/
theorem Rel.move (r : Rel K mg G H L R) (h : R[i]? = some (some d)) : ∃ v, L[i]? = some (some v) ∧ Rel K mg G H (L ++ [some v]) (R.set i none ++ [some d]) := by
  obtain ⟨B, F, W⟩ := r
  obtain ⟨v, h1, h2⟩ := W.ent i d h
  have hi := lt_of_get h
  have W2 : RelW K mg G B (setF F i []) H L (R.set i none) := W.re (by simp [W.len]) (fun j p hp => by
      by_cases hj : j = i
      · subst hj; rw [setF_at] at hp; cases hp
      · rw [setF_ne hj] at hp; exact ⟨j, hp⟩) (fun j => by
      by_cases hj : j = i
      · subst hj; rw [setF_at]; exact List.nodup_nil
      · rw [setF_ne hj]; exact W.nd j) (fun j k p hj hk => by
      by_cases e1 : j = i
      · subst e1; rw [setF_at] at hj; cases hj
      · by_cases e2 : k = i
        · subst e2; rw [setF_at] at hk; cases hk
        · rw [setF_ne e1] at hj; rw [setF_ne e2] at hk; exact W.dj j k p hj hk) fun j c hc => by
      have hj : j ≠ i := fun z => by
        subst z
        rw [List.getElem?_set_self hi] at hc
        cases hc
      rw [List.getElem?_set_ne (Ne.symm hj)] at hc
      rw [setF_ne hj]
      exact W.ent j c hc
  refine ⟨v, h1, _, _, W2.push h2 (fun p hp => W.owf i p hp) (W.nd i) fun p hp j hj => ?_⟩
  by_cases e : j = i
  · subst e; rw [setF_at]; exact fun z => nomatch z
  · rw [setF_ne e]
    exact fun z => e (W.dj j i p z hp)
/-- the end is stored -/
theorem Rel.store (r : Rel K mg G H (L ++ [some v]) (R ++ [some d])) (hi : i < L.length) : Rel K mg G H (L.set i (some v)) (R.set i (some d)) := by
  have hl : L.length = R.length := by
    have := r.len
    simpa using this
  obtain ⟨B, F, W⟩ := r
  obtain ⟨v', e1, e2⟩ := W.ent R.length d (get_last rfl)
  rw [get_last hl.symm] at e1
  cases e1
  refine ⟨B, fun j => if j = i then F R.length else if j < R.length then F j else [], W.re (by simp [hl]) (fun j p hp => ?_) (fun j => ?_) (fun j k p hj hk => ?_) fun j c hc => ?_⟩
  · try simp only at hp
    split at hp
    · exact ⟨_, hp⟩
    · split at hp
      · exact ⟨_, hp⟩
      · cases hp
  · try simp only
    split
    · exact W.nd _
    · split
      · exact W.nd _
      · exact List.nodup_nil
  · try simp only at hj hk
    split at hj <;> split at hk
    · rename_i a b; rw [a, b]
    · split at hk
      · have := W.dj _ _ p hj hk
        omega
      · cases hk
    · split at hj
      · have := W.dj _ _ p hj hk
        omega
      · cases hj
    · split at hj
      · split at hk
        · exact W.dj j k p hj hk
        · cases hk
      · cases hj
  · by_cases hj : j = i
    · subst hj
      rw [List.getElem?_set_self (by omega)] at hc
      cases hc
      exact ⟨v, List.getElem?_set_self hi, by simp only [if_true]; exact e2⟩
    · rw [List.getElem?_set_ne (Ne.symm hj)] at hc
      have hjl := lt_of_get hc
      obtain ⟨u, h1, h2⟩ := W.ent j c (get_keep hc)
      rw [List.getElem?_append_left (by omega)] at h1
      refine ⟨u, by rw [List.getElem?_set_ne (Ne.symm hj)]; exact h1, ?_⟩
      simp only [if_neg hj, if_pos hjl]
      exact h2
/-- an item of what the i-th is worth -/
def D.items : D → Option (List D)
  | .lst _ xs => some xs
  | .tup xs => some xs
  | .sc ns => some (ns.map D.int)
  | _ => none
def SqD (K : PySem.W.Frag) (H : Hp) (d : D) (p : Addr) (vs : List V) : Prop := match d with
  | .tup _ => SqT K H p vs
  | _ => SqL K H p vs
theorem SqD.or {d : D} {p : Addr} {vs : List V} (h : SqD K H d p vs) : SqL K H p vs ∨ SqT K H p vs := by
  cases d <;> first | exact .inl h | exact .inr h
theorem Rel.item {xs : List D} {j : Nat} {x : D} (r : Rel K mg G H L R) (h : R[i]? = some (some d)) (hx : d.items = some xs) (hj : xs[j]? = some x) (hp : x.plain = true) :
    ∃ p vs v, L[i]? = some (some (.ref p)) ∧ SqD K H d p vs ∧ vs.length = xs.length ∧ vs[j]? = some v ∧ Rel K mg G H (L ++ [some v]) (R ++ [some x]) := by
  obtain ⟨B, F, W⟩ := r
  obtain ⟨v, h1, h2⟩ := W.ent i d h
  generalize F i = Fi at h2
  cases h2 with
  | ls hs rs =>
    cases hx
    obtain ⟨u, F', e1, e2, _⟩ := rs.get hj
    exact ⟨_, _, u, h1, SqL.of (W.sbh _ _ hs), rs.length, e1, _, _, W.pushP (e2.plainly hp)⟩
  | lo hs rs =>
    cases hx
    obtain ⟨u, F', e1, e2, _⟩ := rs.get hj
    exact ⟨_, _, u, h1, SqL.of hs, rs.length, e1, _, _, W.pushP (e2.plainly hp)⟩
  | @sc _ ns hs =>
    cases hx
    have hjl := lt_of_get hj
    rw [List.length_map] at hjl
    have ex : D.int ns[j] = x := by
      rw [List.getElem?_map, List.getElem?_eq_getElem hjl] at hj
      exact Option.some.inj hj
    exact ⟨_, _, .int _, h1, Le.seq (Le.of W.sbh) hs, by simp, by rw [List.getElem?_map, List.getElem?_eq_getElem hjl]; rfl, _, _, W.pushP (by rw [← ex]; exact .int _)⟩
  | tp hs rs =>
    cases hx
    obtain ⟨u, F', e1, e2, _⟩ := rs.get hj
    exact ⟨_, _, u, h1, Le.seqT (Le.of W.sbh) hs, rs.length, e1, _, _, W.pushP (e2.plainly hp)⟩
  | _ => cases hx
theorem Rel.seqL {xs : List D} {o : Bool} (r : Rel K mg G H L R) (h : R[i]? = some (some (.lst o xs))) : ∃ p vs, L[i]? = some (some (.ref p)) ∧ SqL K H p vs ∧ vs.length = xs.length := by
  obtain ⟨B, F, W⟩ := r
  obtain ⟨v, h1, h2⟩ := W.ent i _ h
  generalize F i = Fi at h2
  cases h2 with
  | ls hs rs => exact ⟨_, _, h1, SqL.of (W.sbh _ _ hs), rs.length⟩
  | lo hs rs => exact ⟨_, _, h1, .inl (.inl hs), rs.length⟩
theorem Rel.seqD {xs : List D} (r : Rel K mg G H L R) (h : R[i]? = some (some d)) (hx : d.items = some xs) : ∃ p vs, L[i]? = some (some (.ref p)) ∧ SqD K H d p vs ∧ vs.length = xs.length := by
  obtain ⟨B, F, W⟩ := r
  obtain ⟨v, h1, h2⟩ := W.ent i _ h
  generalize F i = Fi at h2
  cases h2 with
  | ls hs rs => cases hx; exact ⟨_, _, h1, SqL.of (W.sbh _ _ hs), rs.length⟩
  | lo hs rs => cases hx; exact ⟨_, _, h1, SqL.of hs, rs.length⟩
  | sc hs => cases hx; exact ⟨_, _, h1, Le.seq (Le.of W.sbh) hs, by simp⟩
  | tp hs rs => cases hx; exact ⟨_, _, h1, Le.seqT (Le.of W.sbh) hs, rs.length⟩
  | _ => cases hx
theorem Rel.seqT {xs : List D} (r : Rel K mg G H L R) (h : R[i]? = some (some (.tup xs))) : ∃ p vs, L[i]? = some (some (.ref p)) ∧ SqT K H p vs ∧ vs.length = xs.length := by
  obtain ⟨B, F, W⟩ := r
  obtain ⟨v, h1, h2⟩ := W.ent i _ h
  generalize F i = Fi at h2
  cases h2 with
  | tp hs rs => exact ⟨_, _, h1, Le.seqT (Le.of W.sbh) hs, rs.length⟩

/-! ### several at the end -/
/-- what several own -/
def catF (F : Nat → List Addr) : Nat → Nat → List Addr
  | _, 0 => []
  | k, n + 1 => F k ++ catF F (k + 1) n
theorem mem_catF : ∀ {n k : Nat} {p : Addr}, p ∈ catF F k n → ∃ j, k ≤ j ∧ j < k + n ∧ p ∈ F j
  | 0, _, _, h => nomatch h
  | n + 1, k, p, h => by
    rcases List.mem_append.mp h with h | h
    · exact ⟨k, Nat.le_refl _, by omega, h⟩
    · obtain ⟨j, a, b, c⟩ := mem_catF h
      exact ⟨j, by omega, by omega, c⟩
theorem catF_mem : ∀ {n k j : Nat} {p : Addr}, k ≤ j → j < k + n → p ∈ F j → p ∈ catF F k n
  | 0, k, j, p, h1, h2, _ => by omega
  | n + 1, k, j, p, h1, h2, h => by
    by_cases e : j = k
    · subst e
      exact List.mem_append_left _ h
    · exact List.mem_append_right _ (catF_mem (k := k + 1) (by omega) (by omega) h)
theorem catF_nodup (nd : ∀ i, (F i).Nodup) (dj : ∀ i j p, p ∈ F i → p ∈ F j → i = j) : ∀ n k : Nat, (catF F k n).Nodup
  | 0, _ => List.nodup_nil
  | n + 1, k => by
    refine List.nodup_append.mpr ⟨nd k, catF_nodup nd dj n (k + 1), fun a ha b hb e => ?_⟩
    subst e
    obtain ⟨j, h1, _, h3⟩ := mem_catF hb
    have := dj _ _ _ ha h3
    omega
/-- the values at the end, all together -/
theorem RelW.tail : ∀ {vs : List V} {ds : List D} {L : List (Option V)} {R : List (Option D)}, RelW K mg G B F H (L ++ vs.map some) (R ++ ds.map some) → L.length = R.length → vs.length = ds.length → RVs K mg B H vs ds (catF F R.length ds.length)
  | [], [], _, _, _, _, _ => .nil
  | [], _ :: _, _, _, _, _, h => by simp at h
  | _ :: _, [], _, _, _, _, h => by simp at h
  | v :: vs, d :: ds, L, R, W, hl, h => by
    obtain ⟨u, h1, h2⟩ := W.ent R.length d (by rw [List.getElem?_append_right (Nat.le_refl _)]; simp)
    rw [← hl, List.getElem?_append_right (Nat.le_refl _)] at h1
    simp at h1
    subst h1
    refine .cons h2 ?_
    have W2 : RelW K mg G B F H ((L ++ [some v]) ++ vs.map some) ((R ++ [some d]) ++ ds.map some) := by
      simpa using W
    have q := RelW.tail W2 (by simp [hl]) (by simpa using h)
    simpa using q
theorem Rel.lens {vs : List V} {ds : List D} (r : Rel K mg G H (L ++ vs.map some) (R ++ ds.map some)) (hl : L.length = R.length) : vs.length = ds.length := by
  have := r.len
  simp at this
  omega
/-- the last ones become one, that owns what they owned -/
theorem RelW.gather {vs : List V} {ds : List D} (W : RelW K mg G B F H (L ++ vs.map some) (R ++ ds.map some)) (hl : L.length = R.length) :
    RelW K mg G B (fun j => if j < R.length then F j else []) H L R := by
  refine W.re hl (fun j q hq => ?_) (fun j => ?_) (fun j k q hj hk => ?_) fun j c hc => ?_
  · try simp only at hq
    split at hq
    · exact ⟨_, hq⟩
    · cases hq
  · try simp only
    split
    · exact W.nd _
    · exact List.nodup_nil
  · try simp only at hj hk
    split at hj
    · split at hk
      · exact W.dj _ _ _ hj hk
      · cases hk
    · cases hj
  · have hj := lt_of_get hc
    obtain ⟨u, h1, h2⟩ := W.ent j c (get_keep hc)
    rw [List.getElem?_append_left (by omega)] at h1
    exact ⟨u, h1, by simp only [if_pos hj]; exact h2⟩
theorem Rel.newTup {vs : List V} {ds : List D} (r : Rel K mg G H (L ++ vs.map some) (R ++ ds.map some)) (hl : L.length = R.length) (hp : H p = none) :
    Rel K mg G (upd H p (.tup vs)) (L ++ [some (.ref p)]) (R ++ [some (.tup ds)]) := by
  obtain ⟨B, F, W⟩ := r
  have hv : vs.length = ds.length := Rel.lens ⟨B, F, W⟩ hl
  have q := W.tail hl hv
  have W2 := (W.gather hl).growB (o := .tup vs) hp
  have fr := (W.free hp)
  have le : Le B (upd B p (.tup vs)) := Le.of fun b u e => by rw [upd_ne (ne_of_none e fr.1)]; exact e
  have ne : ∀ x ∈ catF F R.length ds.length, x ≠ p := fun x hx z => by
    obtain ⟨j, _, _, h⟩ := mem_catF hx
    exact fr.2.2 j (z ▸ h)
  refine ⟨_, _, W2.push (.tp (.inl (.inl upd_same)) (q.mono le fun x hx => upd_ne (ne x hx))) (fun x hx => ?_) (catF_nodup W.nd W.dj _ _) fun x hx j hj hm => ?_⟩
  · obtain ⟨j, _, _, h⟩ := mem_catF hx
    rw [upd_ne (ne x hx), upd_ne (ne x hx)]
    exact W.owf j x h
  · simp only [if_pos hj] at hm
    obtain ⟨k, h1, _, h⟩ := mem_catF hx
    have := W.dj _ _ _ hm h
    omega
theorem Rel.newLst {vs : List V} {ds : List D} (r : Rel K mg G H (L ++ vs.map some) (R ++ ds.map some)) (hl : L.length = R.length) (hp : H p = none) :
    Rel K mg G (upd H p (.lst vs)) (L ++ [some (.ref p)]) (R ++ [some (.lst true ds)]) := by
  obtain ⟨B, F, W⟩ := r
  have hv : vs.length = ds.length := Rel.lens ⟨B, F, W⟩ hl
  have q := W.tail hl hv
  have W2 := (W.gather hl).grow (o := .lst vs) hp rfl
  have fr := (W.free hp)
  have ne : ∀ x ∈ catF F R.length ds.length, x ≠ p := fun x hx z => by
    obtain ⟨j, _, _, h⟩ := mem_catF hx
    exact fr.2.2 j (z ▸ h)
  refine ⟨_, _, W2.push (.lo upd_same (q.mono (Le.of fun _ _ z => z) fun x hx => upd_ne (ne x hx))) (fun x hx => ?_) (List.nodup_cons.mpr ⟨fun z => ne p z rfl, catF_nodup W.nd W.dj _ _⟩) fun x hx j hj hm => ?_⟩
  · rcases List.mem_cons.mp hx with rfl | hx
    · exact ⟨fr.1, fr.2.1, by rw [upd_same]; exact fun z => nomatch z⟩
    · obtain ⟨j, _, _, h⟩ := mem_catF hx
      rw [upd_ne (ne x hx)]
      exact W.owf j x h
  · simp only [if_pos hj] at hm
    rcases List.mem_cons.mp hx with rfl | hx
    · exact fr.2.2 j hm
    · obtain ⟨k, h1, _, h⟩ := mem_catF hx
      have := W.dj _ _ _ hm h
      omega
/-- a new list of what is shared already -/
theorem Rel.copyL {xs : List D} {vs : List V} (r : Rel K mg G H L R) (hr : ∀ B F, RelW K mg G B F H L R → RVs K mg B H vs xs []) (hp : H p = none) :
    Rel K mg G (upd H p (.lst vs)) (L ++ [some (.ref p)]) (R ++ [some (.lst true xs)]) := by
  obtain ⟨B, F, W⟩ := r
  have fr := (W.free hp)
  have W2 := W.grow (o := .lst vs) hp rfl
  refine ⟨_, _, W2.push (.lo upd_same ((hr B F W).mono (Le.of fun _ _ z => z) fun x hx => absurd hx (by simp))) (fun x hx => ?_) (by simp) fun x hx j hj hm => ?_⟩
  · rcases List.mem_cons.mp hx with rfl | hx
    · exact ⟨fr.1, fr.2.1, by rw [upd_same]; exact fun z => nomatch z⟩
    · cases hx
  · rcases List.mem_cons.mp hx with rfl | hx
    · exact fr.2.2 j hm
    · cases hx
end
end Ly

set_option Elab.async false
set_option linter.all false
set_option maxRecDepth 100000
/-! Ly, part C: what code is worth (denotations), the judgements, the base rules. -/
namespace Ly
open PySem PySem.Spec L2
abbrev Rho := List (Option D)
inductive Out (α : Type) where
  | ok (a : α) (ρ : Rho)
  | ex (c : Str) (ρ : Rho)
abbrev Dn (α : Type) := Rho → Option (Out α)
def ret {α : Type} (a : α) : Dn α := fun ρ => some (.ok a ρ)
def stuck {α : Type} : Dn α := fun _ => none
def bnd {α β : Type} (f : Dn α) (g : α → Dn β) : Dn β := fun ρ => match f ρ with
  | none => none
  | some (.ok a ρ') => g a ρ'
  | some (.ex c ρ') => some (.ex c ρ')
def lif {α : Type} (o : Option α) : Dn α := fun ρ => match o with
  | none => none
  | some a => some (.ok a ρ)
def wp {α : Type} (r : Option (Out α)) (Q : α → Rho → Prop) (E : Str → Rho → Prop) : Prop := match r with
  | none => False
  | some (.ok a ρ) => Q a ρ
  | some (.ex c ρ) => E c ρ
theorem wp_bnd {α β : Type} {f : Dn α} {g : α → Dn β} {ρ : Rho} {Q : β → Rho → Prop} {E : Str → Rho → Prop} (h : wp (bnd f g ρ) Q E) : wp (f ρ) (fun a ρ' => wp (g a ρ') Q E) E := by
  unfold bnd at h
  cases e : f ρ with
  | none => rw [e] at h; exact h
  | some o => cases o with
    | ok a ρ' => rw [e] at h; exact h
    | ex c ρ' => rw [e] at h; exact h
theorem wp_mono {α : Type} {r : Option (Out α)} {Q Q' : α → Rho → Prop} {E E' : Str → Rho → Prop} (h : wp r Q E) (q : ∀ a ρ, Q a ρ → Q' a ρ) (x : ∀ c ρ, E c ρ → E' c ρ) : wp r Q' E' := by
  cases r with
  | none => exact h
  | some o => cases o with
    | ok a ρ => exact q _ _ h
    | ex c ρ => exact x _ _ h
theorem wp_lif {α : Type} {o : Option α} {ρ : Rho} {Q : α → Rho → Prop} {E : Str → Rho → Prop} (h : wp (lif o ρ) Q E) : ∃ a, o = some a ∧ Q a ρ := by
  cases o with
  | none => exact h.elim
  | some a => exact ⟨a, rfl, h⟩
/-- a statement's end -/
inductive Fl where
  | nx (ρ : Rho)
  | rt (d : D) (ρ : Rho)
  | bk (ρ : Rho)
  | ct (ρ : Rho)
  | ex (c : Str) (ρ : Rho)
abbrev Sn := Rho → Option Fl
structure Po where
  nx : Rho → Prop
  rt : D → Rho → Prop
  bk : Rho → Prop
  ct : Rho → Prop
  ex : Str → Rho → Prop
def sp (r : Option Fl) (P : Po) : Prop := match r with
  | none => False
  | some (.nx ρ) => P.nx ρ
  | some (.rt d ρ) => P.rt d ρ
  | some (.bk ρ) => P.bk ρ
  | some (.ct ρ) => P.ct ρ
  | some (.ex c ρ) => P.ex c ρ
theorem sp_mono {r : Option Fl} {P P' : Po} (h : sp r P) (n : ∀ ρ, P.nx ρ → P'.nx ρ) (t : ∀ d ρ, P.rt d ρ → P'.rt d ρ) (b : ∀ ρ, P.bk ρ → P'.bk ρ) (c : ∀ ρ, P.ct ρ → P'.ct ρ) (x : ∀ c ρ, P.ex c ρ → P'.ex c ρ) : sp r P' := by
  cases r with
  | none => exact h
  | some o => cases o with
    | nx ρ => exact n _ h
    | rt d ρ => exact t _ _ h
    | bk ρ => exact b _ h
    | ct ρ => exact c _ h
    | ex c ρ => exact x _ _ h

/-! ### a state within a body: slots σ worth ρ, held values us worth τ -/
structure RL (K : PySem.W.Frag) (mg : Str → Option Value) (G : Gt) (H : Hp) (σ : St) (us : List V) (ρ : Rho) (τ : List D) : Prop where
  ls : σ.length = ρ.length
  rel : Rel K mg G H (σ ++ us.map some) (ρ ++ τ.map some)
section
variable {K : PySem.W.Frag} {mg : Str → Option Value} {G : Gt} {H H' : Hp} {σ : St} {us vs : List V} {ρ ρ' : Rho} {τ ds : List D} {v : V} {d : D} {i : Nat}
theorem RL.lu (r : RL K mg G H σ us ρ τ) : us.length = τ.length := by
  have := r.rel.len
  simp at this
  have := r.ls
  omega
theorem RL.snoc (h : RL K mg G H σ (us ++ [v]) ρ (τ ++ [d])) : Rel K mg G H ((σ ++ us.map some) ++ [some v]) ((ρ ++ τ.map some) ++ [some d]) := by
  have := h.rel
  simpa using this
theorem RL.ofSnoc (l : σ.length = ρ.length) (h : Rel K mg G H ((σ ++ us.map some) ++ [some v]) ((ρ ++ τ.map some) ++ [some d])) : RL K mg G H σ (us ++ [v]) ρ (τ ++ [d]) :=
  ⟨l, by simpa using h⟩
theorem RL.apps (h : RL K mg G H σ (us ++ vs) ρ (τ ++ ds)) : Rel K mg G H ((σ ++ us.map some) ++ vs.map some) ((ρ ++ τ.map some) ++ ds.map some) := by
  have := h.rel
  simpa using this
theorem RL.pop (r : RL K mg G H σ (us ++ [v]) ρ (τ ++ [d])) : RL K mg G H σ us ρ τ := ⟨r.ls, r.snoc.drop⟩
theorem RL.pops : ∀ {vs : List V} {ds : List D} {us : List V} {τ : List D}, us.length = τ.length → RL K mg G H σ (us ++ vs) ρ (τ ++ ds) → RL K mg G H σ us ρ τ
  | [], [], us, τ, _, r => by simpa using r
  | [], d :: ds, us, τ, h, r => by
    have := r.lu
    simp at this
    omega
  | v :: vs, [], us, τ, h, r => by
    have := r.lu
    simp at this
    omega
  | v :: vs, d :: ds, us, τ, h, r => by
    have r2 : RL K mg G H σ ((us ++ [v]) ++ vs) ρ ((τ ++ [d]) ++ ds) := by simpa using r
    exact (RL.pops (us := us ++ [v]) (τ := τ ++ [d]) (by simp [h]) r2).pop
theorem RL.view (r : RL K mg G H σ (us ++ [v]) ρ (τ ++ [d])) : RV K mg H H v d.un [] := by
  have q := r.snoc
  obtain ⟨u, h1, h2⟩ := q.at (i := (ρ ++ τ.map some).length) (get_last rfl)
  have hl : (ρ ++ τ.map some).length = (σ ++ us.map some).length := by
    have := q.len
    simp at this
    have := r.ls
    simp
    omega
  rw [get_last hl] at h1
  cases h1
  exact h2
theorem RL.slot (r : RL K mg G H σ us ρ τ) (h : ρ[i]? = some (some d)) : i < σ.length ∧ (ρ ++ τ.map some)[i]? = some (some d) := ⟨by rw [r.ls]; exact lt_of_get h, get_keep h⟩
theorem RL.at (r : RL K mg G H σ us ρ τ) (h : ρ[i]? = some (some d)) : ∃ v, σ[i]? = some (some v) ∧ RV K mg H H v d.un [] := by
  obtain ⟨h1, h2⟩ := r.slot h
  obtain ⟨v, e1, e2⟩ := r.rel.at h2
  exact ⟨v, by rw [List.getElem?_append_left h1] at e1; exact e1, e2⟩
theorem RL.dup (r : RL K mg G H σ us ρ τ) (h : ρ[i]? = some (some d)) (hp : d.plain = true) : ∃ v, σ[i]? = some (some v) ∧ RL K mg G H σ (us ++ [v]) ρ (τ ++ [d]) := by
  obtain ⟨h1, h2⟩ := r.slot h
  obtain ⟨v, e1, e2⟩ := r.rel.dup h2 hp
  exact ⟨v, by rw [List.getElem?_append_left h1] at e1; exact e1, .ofSnoc r.ls e2⟩
theorem RL.flat (r : RL K mg G H σ us ρ τ) (h : RV K mg H H v d []) (hf : d.flat = true) : RL K mg G H σ (us ++ [v]) ρ (τ ++ [d]) := .ofSnoc r.ls (r.rel.flat h hf)
theorem RL.move (r : RL K mg G H σ us ρ τ) (h : ρ[i]? = some (some d)) : ∃ v, σ[i]? = some (some v) ∧ RL K mg G H σ (us ++ [v]) (ρ.set i none) (τ ++ [d]) := by
  obtain ⟨h1, h2⟩ := r.slot h
  obtain ⟨v, e1, e2⟩ := r.rel.move h2
  refine ⟨v, by rw [List.getElem?_append_left h1] at e1; exact e1, .ofSnoc (by rw [List.length_set]; exact r.ls) ?_⟩
  rw [List.set_append_left _ _ (lt_of_get h)] at e2
  exact e2
theorem RL.store (r : RL K mg G H σ (us ++ [v]) ρ (τ ++ [d])) (hi : i < ρ.length) : RL K mg G H (σ.set i (some v)) us (ρ.set i (some d)) τ := by
  have q := r.snoc.store (i := i) (by have := r.ls; simp; omega)
  rw [List.set_append_left _ _ (by rw [r.ls]; exact hi), List.set_append_left _ _ hi] at q
  exact ⟨by simp [r.ls], q⟩
/-- slots are forgotten -/
theorem RL.less {σ' : St} (r : RL K mg G H σ us ρ τ) (l : σ'.length = σ.length) (l2 : ρ'.length = ρ.length) (h : ∀ (i : Nat) (d : D), ρ'[i]? = some (some d) → ρ[i]? = some (some d) ∧ σ'[i]? = σ[i]?) : RL K mg G H σ' us ρ' τ := by
  refine ⟨by rw [l, l2, r.ls], r.rel.less ?_ fun i d e => ?_⟩
  · have := r.rel.len
    simp at this ⊢
    omega
  · by_cases hi : i < ρ'.length
    · rw [List.getElem?_append_left hi] at e
      obtain ⟨h1, h2⟩ := h i d e
      refine ⟨get_keep h1, ?_⟩
      rw [List.getElem?_append_left (by rw [l, r.ls, ← l2]; exact hi), List.getElem?_append_left (by rw [r.ls, ← l2]; exact hi), h2]
    · rw [List.getElem?_append_right (by omega)] at e
      refine ⟨by rw [List.getElem?_append_right (by omega), ← l2]; exact e, ?_⟩
      rw [List.getElem?_append_right (by rw [l, r.ls, ← l2]; omega), List.getElem?_append_right (by rw [r.ls, ← l2]; omega), l]
theorem RL.newTup {p : Addr} (r : RL K mg G H σ (us ++ vs) ρ (τ ++ ds)) (hl : us.length = τ.length) (hp : H p = none) : RL K mg G (upd H p (.tup vs)) σ (us ++ [.ref p]) ρ (τ ++ [.tup ds]) :=
  .ofSnoc r.ls (r.apps.newTup (by have := r.ls; simp; omega) hp)
theorem RL.newLst {p : Addr} (r : RL K mg G H σ (us ++ vs) ρ (τ ++ ds)) (hl : us.length = τ.length) (hp : H p = none) : RL K mg G (upd H p (.lst vs)) σ (us ++ [.ref p]) ρ (τ ++ [.lst true ds]) :=
  .ofSnoc r.ls (r.apps.newLst (by have := r.ls; simp; omega) hp)
theorem same_upd {p : Addr} {o : HO} (h : H p = none) : Same H (upd H p o) := fun b u e => by
  rw [upd_ne (ne_of_none e h)]
  exact e
theorem RV.up (r : RV K mg H H v d []) (s : Same H H') : RV K mg H' H' v d [] := r.mono (Le.of s) fun _ h => absurd h (by simp)
theorem RVs.up (r : RVs K mg H H vs ds []) (s : Same H H') : RVs K mg H' H' vs ds [] := r.mono (Le.of s) fun _ h => absurd h (by simp)
end

/-! ### the judgements -/
def Wx (K : PySem.W.Frag) (mg : Str → Option Value) (W : WX) (G : Gt) (σ : St) (us : List V) (τ : List D) : Str → Rho → Prop :=
  fun c ρ' => ∀ H' C, mg c = some (.ref C) → RL K mg G H' σ us ρ' τ → W (.ref C) none σ H'
def SE (K : PySem.W.Frag) (mg : Str → Option Value) (W : WX) (t : TE) (f : Dn D) : Prop := ∀ (G : Gt) (σ : St) (us : List V) (H : Hp) (ρ : Rho) (τ : List D) (Q : VK), RL K mg G H σ us ρ τ →
  wp (f ρ) (fun d ρ' => ∀ v H', Same H H' → RL K mg G H' σ (us ++ [v]) ρ' (τ ++ [d]) → Q v H') (Wx K mg W G σ us τ) → t σ H Q
def SV (K : PySem.W.Frag) (mg : Str → Option Value) (W : WX) (t : TE) (f : Dn D) : Prop := ∀ (G : Gt) (σ : St) (us : List V) (H : Hp) (ρ : Rho) (τ : List D) (Q : VK), RL K mg G H σ us ρ τ →
  wp (f ρ) (fun d ρ' => ∀ v H', Same H H' → RL K mg G H' σ us ρ' τ → RV K mg H' H' v d [] → Q v H') (Wx K mg W G σ us τ) → t σ H Q
def ST (K : PySem.W.Frag) (mg : Str → Option Value) (W : WX) (t : TT) (f : Dn Bool) : Prop := ∀ (G : Gt) (σ : St) (us : List V) (H : Hp) (ρ : Rho) (τ : List D) (Q : Bool → Hp → Prop), RL K mg G H σ us ρ τ →
  wp (f ρ) (fun b ρ' => ∀ H', Same H H' → RL K mg G H' σ us ρ' τ → Q b H') (Wx K mg W G σ us τ) → t σ H Q
def SA (K : PySem.W.Frag) (mg : Str → Option Value) (W : WX) (t : TA) (f : Dn (List D)) : Prop := ∀ (G : Gt) (σ : St) (us : List V) (H : Hp) (ρ : Rho) (τ : List D) (Q : List V → Hp → Prop), RL K mg G H σ us ρ τ →
  wp (f ρ) (fun ds ρ' => ∀ vs H', Same H H' → RL K mg G H' σ (us ++ vs) ρ' (τ ++ ds) → Q vs H') (Wx K mg W G σ us τ) → t σ H Q
def SW (K : PySem.W.Frag) (mg : Str → Option Value) (W : WX) (t : TA) (f : Dn (List D)) : Prop := ∀ (G : Gt) (σ : St) (us : List V) (H : Hp) (ρ : Rho) (τ : List D) (Q : List V → Hp → Prop), RL K mg G H σ us ρ τ →
  wp (f ρ) (fun ds ρ' => ∀ vs H', Same H H' → RL K mg G H' σ us ρ' τ → RVs K mg H' H' vs ds [] → Q vs H') (Wx K mg W G σ us τ) → t σ H Q
def poOf (K : PySem.W.Frag) (mg : Str → Option Value) (W : WX) (G : Gt) (us : List V) (τ : List D) (E : Ends) : Po where
  nx := fun ρ' => ∀ σ' H', RL K mg G H' σ' us ρ' τ → E.nx σ' H'
  rt := fun d ρ' => ∀ σ' v H', RL K mg G H' σ' (us ++ [v]) ρ' (τ ++ [d]) → E.rt v H'
  bk := fun ρ' => ∀ σ' H', RL K mg G H' σ' us ρ' τ → E.bk σ' H'
  ct := fun ρ' => ∀ σ' H', RL K mg G H' σ' us ρ' τ → E.ct σ' H'
  ex := fun c ρ' => ∀ σ' H' C, mg c = some (.ref C) → RL K mg G H' σ' us ρ' τ → W (.ref C) none σ' H'
def SS (K : PySem.W.Frag) (mg : Str → Option Value) (W : WX) (t : TS) (f : Sn) : Prop := ∀ (G : Gt) (σ : St) (us : List V) (H : Hp) (ρ : Rho) (τ : List D) (E : Ends), RL K mg G H σ us ρ τ →
  sp (f ρ) (poOf K mg W G us τ E) → t E σ H

/-- an expression whose value may be kept -/
structure EX (X : Cx) (W : WX) (e : Expr) (t : TE) (f : Dn D) : Prop where
  p : PE X e t
  s : SE X.K X.mg W t f
/-- an expression whose value is looked at -/
structure VX (X : Cx) (W : WX) (e : Expr) (t : TE) (f : Dn D) : Prop where
  p : PE X e t
  s : SV X.K X.mg W t f
structure TX (X : Cx) (W : WX) (e : Expr) (t : TT) (f : Dn Bool) : Prop where
  p : PT X e t
  s : ST X.K X.mg W t f
/-- and, or: the test whatever its whole is -/
structure UX (X : Cx) (W : WX) (e : Expr) (t : TT) (f : Dn Bool) : Prop where
  p : PW X e t
  s : ST X.K X.mg W t f
structure AX (X : Cx) (W : WX) (es : List Expr) (t : TA) (f : Dn (List D)) : Prop where
  p : PA X es t
  s : SA X.K X.mg W t f
structure WA (X : Cx) (W : WX) (es : List Expr) (t : TA) (f : Dn (List D)) : Prop where
  p : PA X es t
  s : SW X.K X.mg W t f
structure SX (X : Cx) (W : WX) (st : Stmt) (t : TS) (f : Sn) : Prop where
  p : PS X st t
  s : SS X.K X.mg W t f
structure BX (X : Cx) (W : WX) (sts : List Stmt) (t : TS) (f : Sn) : Prop where
  p : PSs X sts t
  s : SS X.K X.mg W t f

section
variable {X : Cx} {W : WX} {e a b c : Expr} {t ta tb tc : TE} {f fa fb fc : Dn D} {pos : Pos}
/-! ### between looking and keeping -/
def dView (f : Dn D) : Dn D := bnd f fun d => ret d.un
theorem EX.look (h : EX X W e t f) : VX X W e t (dView f) := ⟨h.p, fun G σ us H ρ τ Q r hw => h.s G σ us H ρ τ Q r (wp_mono (wp_bnd hw) (fun d ρ' q v H' s r' => q v H' s r'.pop r'.view) fun _ _ q => q)⟩
def dFlat (f : Dn D) : Dn D := bnd f fun d => if d.flat then ret d else stuck
theorem VX.keep (h : VX X W e t f) : EX X W e t (dFlat f) := ⟨h.p, fun G σ us H ρ τ Q r hw => h.s G σ us H ρ τ Q r (wp_mono (wp_bnd hw) (fun d ρ' q v H' s r' w => by
  split at q
  · rename_i hf
    exact q v H' s (r'.flat w hf)
  · exact q.elim) fun _ _ q => q)⟩
/-! ### constants, names -/
theorem vx_int {i : Int} {j : Nat} : VX X W (.Constant (.int i) j pos) (tC (.int i)) (ret (.int i)) := ⟨pe_int, fun G σ us H ρ τ Q r hw => hw _ H (Same.refl _) r (.int i)⟩
theorem vx_bl {b : Bool} {j : Nat} : VX X W (.Constant (.bool b) j pos) (tC (.bl b)) (ret (.bl b)) := ⟨pe_bl, fun G σ us H ρ τ Q r hw => hw _ H (Same.refl _) r (.bl b)⟩
theorem vx_non {j : Nat} : VX X W (.Constant .none j pos) (tC .non) (ret .non) := ⟨pe_non, fun G σ us H ρ τ Q r hw => hw _ H (Same.refl _) r .non⟩
theorem vx_str {x : Str} {j : Nat} : VX X W (.Constant (.str x) j pos) (tC (.str x)) (ret (.str x)) := ⟨pe_str, fun G σ us H ρ τ Q r hw => hw _ H (Same.refl _) r (.str x)⟩
def dVar (i : Nat) : Dn D := fun ρ => match ρ[i]? with
  | some (some d) => if d.plain then some (.ok d ρ) else none
  | _ => none
def dPk (i : Nat) : Dn D := fun ρ => match ρ[i]? with
  | some (some d) => some (.ok d.un ρ)
  | _ => none
def dMv (i : Nat) : Dn D := fun ρ => match ρ[i]? with
  | some (some d) => some (.ok d (ρ.set i none))
  | _ => none
theorem ex_var (i : Nat) {x : Str} (hN : X.N[i]? = some x := by rfl) (hv : Vis X.env.scope x := by first | exact Or.inl rfl | exact Or.inr (Or.inl rfl) | exact Or.inr (Or.inr rfl)) (hd : (x == ("__debug__" : Str)) = false := by decide)
    (hcd : (x == ("__classdict__" : Str)) = false := by decide) : EX X W (.Name x pos) (tVar i) (dVar i) := by
  refine ⟨pe_var hN hv hd hcd, fun G σ us H ρ τ Q r hw => ?_⟩
  unfold dVar at hw
  split at hw
  · rename_i d hi
    split at hw
    · rename_i hp
      obtain ⟨v, h1, h2⟩ := r.dup hi hp
      exact ⟨v, h1, hw v H (Same.refl _) h2⟩
    · exact hw.elim
  · exact hw.elim
theorem vx_var (i : Nat) {x : Str} (hN : X.N[i]? = some x := by rfl) (hv : Vis X.env.scope x := by first | exact Or.inl rfl | exact Or.inr (Or.inl rfl) | exact Or.inr (Or.inr rfl)) (hd : (x == ("__debug__" : Str)) = false := by decide)
    (hcd : (x == ("__classdict__" : Str)) = false := by decide) : VX X W (.Name x pos) (tVar i) (dPk i) := by
  refine ⟨pe_var hN hv hd hcd, fun G σ us H ρ τ Q r hw => ?_⟩
  unfold dPk at hw
  split at hw
  · rename_i d hi
    obtain ⟨v, h1, h2⟩ := r.at hi
    exact ⟨v, h1, hw v H (Same.refl _) r h2⟩
  · exact hw.elim
theorem ex_mv (i : Nat) {x : Str} (hN : X.N[i]? = some x := by rfl) (hv : Vis X.env.scope x := by first | exact Or.inl rfl | exact Or.inr (Or.inl rfl) | exact Or.inr (Or.inr rfl)) (hd : (x == ("__debug__" : Str)) = false := by decide)
    (hcd : (x == ("__classdict__" : Str)) = false := by decide) : EX X W (.Name x pos) (tVar i) (dMv i) := by
  refine ⟨pe_var hN hv hd hcd, fun G σ us H ρ τ Q r hw => ?_⟩
  unfold dMv at hw
  split at hw
  · rename_i d hi
    obtain ⟨v, h1, h2⟩ := r.move hi
    exact ⟨v, h1, hw v H (Same.refl _) h2⟩
  · exact hw.elim

/-! ### operators by values, that make nothing -/
def OpG (X : Cx) (g : D → D → Option D) (r : R2) : Prop := ∀ (H : Hp) (x y : V) (d e z : D) (Q : VK), RV X.K X.mg H H x d [] → RV X.K X.mg H H y e [] → g d e = some z → (∀ v, RV X.K X.mg H H v z [] → Q v H) → r x y H Q
def dBin (g : D → D → Option D) (fa fb : Dn D) : Dn D := bnd fa fun x => bnd fb fun y => lif (g x y)
theorem sv_bin {g : D → D → Option D} {r : R2} (hg : OpG X g r) (ha : SV X.K X.mg W ta fa) (hb : SV X.K X.mg W tb fb) : SV X.K X.mg W (tOp r ta tb) (dBin g fa fb) := by
  intro G σ us H ρ τ Q rl hw
  refine ha G σ us H ρ τ _ rl (wp_mono (wp_bnd hw) (fun d ρ1 q x H1 s1 r1 w1 => ?_) fun _ _ q => q)
  refine hb G σ us H1 ρ1 τ _ r1 (wp_mono (wp_bnd q) (fun e ρ2 q2 y H2 s2 r2 w2 => ?_) fun _ _ q => q)
  obtain ⟨z, h1, h2⟩ := wp_lif q2
  exact hg H2 x y d e z Q (w1.up s2) w2 h1 fun v w => h2 v H2 (s1.trans s2) r2 w
theorem vx_op {op : Operator} {g : D → D → Option D} {r : R2} (ho : OpR X (binaryOp op) r) (hg : OpG X g r) (ha : VX X W a ta fa) (hb : VX X W b tb fb) : VX X W (.BinOp a op b pos) (tOp r ta tb) (dBin g fa fb) := ⟨pe_op ho ha.p hb.p, sv_bin hg ha.s hb.s⟩
theorem vx_cmp {op : CmpOp} {g : D → D → Option D} {r : R2} (ho : OpR X (compareOp op) r) (hg : OpG X g r) (ha : VX X W a ta fa) (hb : VX X W b tb fb) (hm : behindInMarks op b = false) : VX X W (.Compare a [op] [b] pos) (tOp r ta tb) (dBin g fa fb) := ⟨pe_cmpR ho ha.p hb.p hm, sv_bin hg ha.s hb.s⟩
def dTest (f : Dn D) : Dn Bool := bnd f fun d => match d with
  | .bl b => ret b
  | _ => stuck
theorem st_test {t : TE} (h : SV X.K X.mg W t f) : ST X.K X.mg W (tTest t) (dTest f) := by
  intro G σ us H ρ τ Q rl hw
  refine h G σ us H ρ τ _ rl (wp_mono (wp_bnd hw) (fun d ρ1 q x H1 s1 r1 w1 => ?_) fun _ _ q => q)
  split at q
  · cases w1
    exact ⟨_, rfl, q H1 s1 r1⟩
  · exact q.elim
theorem tx_cmp {op : CmpOp} {g : D → D → Option D} {r : R2} (ho : OpR X (compareOp op) r) (hg : OpG X g r) (ha : VX X W a ta fa) (hb : VX X W b tb fb) (hm : behindInMarks op b = false) : TX X W (.Compare a [op] [b] pos) (tTest (tOp r ta tb)) (dTest (dBin g fa fb)) := ⟨pt_cmpR ho ha.p hb.p hm, st_test (sv_bin hg ha.s hb.s)⟩
/-- an expression that gives a truth -/
theorem tx_val (h : VX X W e t f) (he : ∀ whole, isTrue e X.env whole = (do let v ← whole; standAt e.pos; holding [v] (truthy v)) := by intro _; rfl) : TX X W e (tB t) (dTest f) := ⟨pt_val h.p he, st_test h.s⟩
def dChain (g g' : D → D → Option D) (fa fb fc : Dn D) : Dn D := bnd fa fun x => bnd fb fun y => bnd (lif (g x y)) fun z => match z with
  | .bl true => bnd fc fun u => lif (g' y u)
  | .bl false => ret (.bl false)
  | _ => stuck
theorem sv_chain {g g' : D → D → Option D} {r r' : R2} (hg : OpG X g r) (hg' : OpG X g' r') (ha : SV X.K X.mg W ta fa) (hb : SV X.K X.mg W tb fb) (hc : SV X.K X.mg W tc fc) : SV X.K X.mg W (tChain r r' ta tb tc) (dChain g g' fa fb fc) := by
  intro G σ us H ρ τ Q rl hw
  refine ha G σ us H ρ τ _ rl (wp_mono (wp_bnd hw) (fun d ρ1 q x H1 s1 r1 w1 => ?_) fun _ _ q => q)
  refine hb G σ us H1 ρ1 τ _ r1 (wp_mono (wp_bnd q) (fun e ρ2 q2 y H2 s2 r2 w2 => ?_) fun _ _ q => q)
  obtain ⟨z, h1, h2⟩ := wp_lif (wp_bnd q2)
  refine hg H2 x y d e z _ (w1.up s2) w2 h1 fun v w => ?_
  split at h2
  · cases w
    refine ⟨true, rfl, ?_⟩
    rw [if_pos rfl]
    refine hc G σ us H2 ρ2 τ _ r2 (wp_mono (wp_bnd h2) (fun u ρ3 q3 z H3 s3 r3 w3 => ?_) fun _ _ q => q)
    obtain ⟨k, k1, k2⟩ := wp_lif q3
    exact hg' H3 y z e u k Q (w2.up s3) w3 k1 fun v' w' => k2 v' H3 (s1.trans (s2.trans s3)) r3 w'
  · cases w
    refine ⟨false, rfl, ?_⟩
    rw [if_neg Bool.false_ne_true]
    exact h2 _ H2 (s1.trans s2) r2 (.bl false)
  · exact h2.elim
end
end Ly

set_option Elab.async false
set_option linter.all false
set_option maxRecDepth 100000
/-! Ly, part D: and, or, not; arguments, displays, calls; what is walked; targets. -/
namespace Ly
open PySem PySem.Spec L2
section
variable {X : Cx} {W : WX} {e a b c : Expr} {t ta tb tc : TE} {f fa fb fc : Dn D} {pos : Pos} {tA tB' : TT} {gA gB : Dn Bool} {es rest : List Expr}
/-! ### tests -/
theorem vx_chain {op op' : CmpOp} {g g' : D → D → Option D} {r r' : R2} (ho : OpR X (compareOp op) r) (hg : OpG X g r) (ho' : OpR X (compareOp op') r') (hg' : OpG X g' r') (ha : VX X W a ta fa) (hb : VX X W b tb fb) (hc : VX X W c tc fc)
    (hm : lastMarks [op, op'] [b, c] = false := by with_unfolding_all rfl) : VX X W (.Compare a [op, op'] [b, c] pos) (tChain r r' ta tb tc) (dChain g g' fa fb fc) := ⟨pe_chain ho ho' ha.p hb.p hc.p hm, sv_chain hg hg' ha.s hb.s hc.s⟩
theorem tx_chain {op op' : CmpOp} {g g' : D → D → Option D} {r r' : R2} (ho : OpR X (compareOp op) r) (hg : OpG X g r) (ho' : OpR X (compareOp op') r') (hg' : OpG X g' r') (ha : VX X W a ta fa) (hb : VX X W b tb fb) (hc : VX X W c tc fc)
    (hm : lastMarks [op, op'] [b, c] = false := by with_unfolding_all rfl) : TX X W (.Compare a [op, op'] [b, c] pos) (tTest (tChain r r' ta tb tc)) (dTest (dChain g g' fa fb fc)) := ⟨pt_chain ho ho' ha.p hb.p hc.p hm, st_test (sv_chain hg hg' ha.s hb.s hc.s)⟩
def dNot (f : Dn Bool) : Dn Bool := bnd f fun b => ret (!b)
theorem tx_not (ha : TX X W a tA gA) : TX X W (.UnaryOp .Not a pos) (tNot tA) (dNot gA) := ⟨pt_not ha.p, fun G σ us H ρ τ Q r hw => ha.s G σ us H ρ τ _ r (wp_bnd hw)⟩
def dAnd (f g : Dn Bool) : Dn Bool := bnd f fun b => if b = true then g else ret false
def dOr (f g : Dn Bool) : Dn Bool := bnd f fun b => if b = true then ret true else g
theorem ux_and1 (ha : TX X W a tA gA) : UX X W (.BoolOp .And [a] pos) tA gA := ⟨pw_and1 ha.p, ha.s⟩
theorem ux_or1 (ha : TX X W a tA gA) : UX X W (.BoolOp .Or [a] pos) tA gA := ⟨pw_or1 ha.p, ha.s⟩
theorem ux_and (ha : TX X W a tA gA) (hb : UX X W (.BoolOp .And (b :: rest) pos) tB' gB) : UX X W (.BoolOp .And (a :: b :: rest) pos) (tAnd tA tB') (dAnd gA gB) := by
  refine ⟨pw_and ha.p hb.p, fun G σ us H ρ τ Q r hw => ?_⟩
  refine ha.s G σ us H ρ τ _ r (wp_mono (wp_bnd hw) (fun k ρ1 q H1 s1 r1 => ?_) fun _ _ q => q)
  cases k with
  | true =>
    rw [if_pos rfl] at q ⊢
    exact hb.s G σ us H1 ρ1 τ Q r1 (wp_mono q (fun b ρ2 q2 H2 s2 r2 => q2 H2 (s1.trans s2) r2) fun _ _ q => q)
  | false =>
    rw [if_neg Bool.false_ne_true] at q ⊢
    exact q H1 s1 r1
theorem ux_or (ha : TX X W a tA gA) (hb : UX X W (.BoolOp .Or (b :: rest) pos) tB' gB) : UX X W (.BoolOp .Or (a :: b :: rest) pos) (tOr tA tB') (dOr gA gB) := by
  refine ⟨pw_or ha.p hb.p, fun G σ us H ρ τ Q r hw => ?_⟩
  refine ha.s G σ us H ρ τ _ r (wp_mono (wp_bnd hw) (fun k ρ1 q H1 s1 r1 => ?_) fun _ _ q => q)
  cases k with
  | true =>
    rw [if_pos rfl] at q ⊢
    exact q H1 s1 r1
  | false =>
    rw [if_neg Bool.false_ne_true] at q ⊢
    exact hb.s G σ us H1 ρ1 τ Q r1 (wp_mono q (fun b ρ2 q2 H2 s2 r2 => q2 H2 (s1.trans s2) r2) fun _ _ q => q)
theorem UX.test (h : UX X W e tA gA) : TX X W e tA gA := ⟨h.p.pt, h.s⟩
/-! ### and, or, not as values (truths) -/
def dAndV (f g : Dn D) : Dn D := bnd f fun d => match d with
  | .bl true => g
  | .bl false => ret (.bl false)
  | _ => stuck
def dOrV (f g : Dn D) : Dn D := bnd f fun d => match d with
  | .bl true => ret (.bl true)
  | .bl false => g
  | _ => stuck
def dNotV (f : Dn D) : Dn D := bnd f fun d => match d with
  | .bl b => ret (.bl (!b))
  | _ => stuck
theorem vx_one {op : BoolOp} (h : VX X W a t f) : VX X W (.BoolOp op [a] pos) t f := ⟨pe_one h.p, h.s⟩
theorem vx_and (ha : VX X W a ta fa) (hb : VX X W (.BoolOp .And (b :: rest) pos) tb fb) : VX X W (.BoolOp .And (a :: b :: rest) pos) (tAndV ta tb) (dAndV fa fb) := by
  refine ⟨pe_and ha.p hb.p, fun G σ us H ρ τ Q r hw => ?_⟩
  refine ha.s G σ us H ρ τ _ r (wp_mono (wp_bnd hw) (fun k ρ1 q v H1 s1 r1 w1 => ?_) fun _ _ q => q)
  split at q
  · cases w1
    refine ⟨true, rfl, ?_⟩
    rw [if_pos rfl]
    exact hb.s G σ us H1 ρ1 τ Q r1 (wp_mono q (fun d ρ2 q2 v H2 s2 r2 w2 => q2 v H2 (s1.trans s2) r2 w2) fun _ _ q => q)
  · cases w1
    refine ⟨false, rfl, ?_⟩
    rw [if_neg Bool.false_ne_true]
    exact q _ H1 s1 r1 (.bl false)
  · exact q.elim
theorem vx_or (ha : VX X W a ta fa) (hb : VX X W (.BoolOp .Or (b :: rest) pos) tb fb) : VX X W (.BoolOp .Or (a :: b :: rest) pos) (tOrV ta tb) (dOrV fa fb) := by
  refine ⟨pe_or ha.p hb.p, fun G σ us H ρ τ Q r hw => ?_⟩
  refine ha.s G σ us H ρ τ _ r (wp_mono (wp_bnd hw) (fun k ρ1 q v H1 s1 r1 w1 => ?_) fun _ _ q => q)
  split at q
  · cases w1
    refine ⟨true, rfl, ?_⟩
    rw [if_pos rfl]
    exact q _ H1 s1 r1 (.bl true)
  · cases w1
    refine ⟨false, rfl, ?_⟩
    rw [if_neg Bool.false_ne_true]
    exact hb.s G σ us H1 ρ1 τ Q r1 (wp_mono q (fun d ρ2 q2 v H2 s2 r2 w2 => q2 v H2 (s1.trans s2) r2 w2) fun _ _ q => q)
  · exact q.elim
theorem vx_not (ha : VX X W a ta fa) : VX X W (.UnaryOp .Not a pos) (tNotV ta) (dNotV fa) := by
  refine ⟨pe_not ha.p, fun G σ us H ρ τ Q r hw => ?_⟩
  refine ha.s G σ us H ρ τ _ r (wp_mono (wp_bnd hw) (fun k ρ1 q v H1 s1 r1 w1 => ?_) fun _ _ q => q)
  split at q
  · cases w1
    exact ⟨_, rfl, q _ H1 s1 r1 (.bl _)⟩
  · exact q.elim
def dIf (c : Dn Bool) (f g : Dn D) : Dn D := bnd c fun b => if b = true then f else g
theorem ex_if (hc : TX X W c tA gA) (ha : EX X W a ta fa) (hb : EX X W b tb fb) : EX X W (.IfExp c a b pos) (tIf tA ta tb) (dIf gA fa fb) := by
  refine ⟨pe_ifExp hc.p ha.p hb.p, fun G σ us H ρ τ Q r hw => ?_⟩
  refine hc.s G σ us H ρ τ _ r (wp_mono (wp_bnd hw) (fun k ρ1 q H1 s1 r1 => ?_) fun _ _ q => q)
  cases k with
  | true =>
    rw [if_pos rfl] at q ⊢
    exact ha.s G σ us H1 ρ1 τ Q r1 (wp_mono q (fun d ρ2 q2 v H2 s2 r2 => q2 v H2 (s1.trans s2) r2) fun _ _ q => q)
  | false =>
    rw [if_neg Bool.false_ne_true] at q ⊢
    exact hb.s G σ us H1 ρ1 τ Q r1 (wp_mono q (fun d ρ2 q2 v H2 s2 r2 => q2 v H2 (s1.trans s2) r2) fun _ _ q => q)
theorem vx_if (hc : TX X W c tA gA) (ha : VX X W a ta fa) (hb : VX X W b tb fb) : VX X W (.IfExp c a b pos) (tIf tA ta tb) (dIf gA fa fb) := by
  refine ⟨pe_ifExp hc.p ha.p hb.p, fun G σ us H ρ τ Q r hw => ?_⟩
  refine hc.s G σ us H ρ τ _ r (wp_mono (wp_bnd hw) (fun k ρ1 q H1 s1 r1 => ?_) fun _ _ q => q)
  cases k with
  | true =>
    rw [if_pos rfl] at q ⊢
    exact ha.s G σ us H1 ρ1 τ Q r1 (wp_mono q (fun d ρ2 q2 v H2 s2 r2 => q2 v H2 (s1.trans s2) r2) fun _ _ q => q)
  | false =>
    rw [if_neg Bool.false_ne_true] at q ⊢
    exact hb.s G σ us H1 ρ1 τ Q r1 (wp_mono q (fun d ρ2 q2 v H2 s2 r2 => q2 v H2 (s1.trans s2) r2) fun _ _ q => q)

/-! ### arguments -/
def dCons (f : Dn D) (g : Dn (List D)) : Dn (List D) := bnd f fun d => bnd g fun ds => ret (d :: ds)
theorem ax_nil : AX X W [] tNil (ret []) := ⟨pa_nil, fun G σ us H ρ τ Q r hw => hw [] H (Same.refl _) (by simpa using r)⟩
theorem ax_cons {tr : TA} {g : Dn (List D)} (ha : EX X W e t f) (hr : AX X W es tr g) (hs : starEach (e :: es) X.env = (false, eval e X.env) :: starEach es X.env := by rfl) : AX X W (e :: es) (tCons t tr) (dCons f g) := by
  refine ⟨pa_cons ha.p hr.p hs, fun G σ us H ρ τ Q r hw => ?_⟩
  refine ha.s G σ us H ρ τ _ r (wp_mono (wp_bnd hw) (fun d ρ1 q v H1 s1 r1 => ?_) fun _ _ q => q)
  refine hr.s G σ (us ++ [v]) H1 ρ1 (τ ++ [d]) _ r1 (wp_mono (wp_bnd q) (fun ds ρ2 q2 vs H2 s2 r2 => ?_) fun c ρ2 q2 H2 C hC r2 => q2 H2 C hC r2.pop)
  exact q2 (v :: vs) H2 (s1.trans s2) (by simpa using r2)
theorem wa_nil : WA X W [] tNil (ret []) := ⟨pa_nil, fun G σ us H ρ τ Q r hw => hw [] H (Same.refl _) r .nil⟩
theorem wa_cons {tr : TA} {g : Dn (List D)} (ha : VX X W e t f) (hr : WA X W es tr g) (hs : starEach (e :: es) X.env = (false, eval e X.env) :: starEach es X.env := by rfl) : WA X W (e :: es) (tCons t tr) (dCons f g) := by
  refine ⟨pa_cons ha.p hr.p hs, fun G σ us H ρ τ Q r hw => ?_⟩
  refine ha.s G σ us H ρ τ _ r (wp_mono (wp_bnd hw) (fun d ρ1 q v H1 s1 r1 w1 => ?_) fun _ _ q => q)
  refine hr.s G σ us H1 ρ1 τ _ r1 (wp_mono (wp_bnd q) (fun ds ρ2 q2 vs H2 s2 r2 w2 => ?_) fun _ _ q => q)
  exact q2 (v :: vs) H2 (s1.trans s2) r2 (.cons (F := []) (F' := []) (w1.up s2) w2)
/-- as many as a list may have -/
def big : Nat := 16777216
theorem big_eq : big = sizeLine := sizeLine_eq.symm
def dTup (g : Dn (List D)) : Dn D := bnd g fun ds => if ds.length ≤ big then ret (.tup ds) else stuck
def dLst (g : Dn (List D)) : Dn D := bnd g fun ds => if ds.length ≤ big then ret (.lst true ds) else stuck
theorem lenEq {K : PySem.W.Frag} {mg : Str → Option Value} {G : Gt} {H : Hp} {σ : St} {us vs : List V} {ρ : Rho} {τ ds : List D} (r : RL K mg G H σ (us ++ vs) ρ (τ ++ ds)) (l : us.length = τ.length) : vs.length = ds.length := by
  have := r.lu
  simp at this
  omega
theorem ex_tup {ta : TA} {g : Dn (List D)} {k : Nat} (h : AX X W es ta g) : EX X W (.Tuple es k pos) (tTup ta) (dTup g) := by
  refine ⟨pe_tup h.p, fun G σ us H ρ τ Q r hw => ?_⟩
  refine h.s G σ us H ρ τ _ r (wp_mono (wp_bnd hw) (fun ds ρ1 q vs H1 s1 r1 => ?_) fun _ _ q => q)
  have hl := lenEq r1 r.lu
  split at q
  · rename_i hb
    refine ⟨by rw [hl, ← big_eq]; exact hb, fun p hp => ?_⟩
    exact q _ _ (s1.trans (Ly.same_upd hp)) (r1.newTup r.lu hp)
  · exact q.elim
theorem ex_lst {ta : TA} {g : Dn (List D)} (h : AX X W es ta g) : EX X W (.List es pos) (tLst ta) (dLst g) := by
  refine ⟨pe_lst h.p, fun G σ us H ρ τ Q r hw => ?_⟩
  refine h.s G σ us H ρ τ _ r (wp_mono (wp_bnd hw) (fun ds ρ1 q vs H1 s1 r1 => ?_) fun _ _ q => q)
  have hl := lenEq r1 r.lu
  split at q
  · rename_i hb
    refine ⟨by rw [hl, ← big_eq]; exact hb, fun p hp => ?_⟩
    exact q _ _ (s1.trans (Ly.same_upd hp)) (r1.newLst r.lu hp)
  · exact q.elim

/-! ### calls of defs -/
inductive Fr where
  | rt (d : D)
  | ex (c : Str)
abbrev Fd := List D → Option Fr
/-- the heap behind a call: H' with what is shared of it, B' -/
structure Aft (B0 H B' H' : Hp) : Prop where
  s : Same H H'
  s0 : Same B0 B'
  sb : Same B' H'
  t : TupIn B' H'
  n : ∀ p, B' p ≠ none → B0 p ≠ none ∨ H p = none
/-- what a def promises that is worth g -/
def spD (K : PySem.W.Frag) (mg : Str → Option Value) (n : Nat) (g : Fd) : Sp := fun vs H Q E => vs.length = n ∧ ∃ (B0 : Hp) (ds : List D), Same B0 H ∧ TupIn B0 H ∧ RVs K mg B0 H vs ds [] ∧
  match g ds with
  | none => False
  | some (.rt d) => ∀ v H' B' F, Aft B0 H B' H' → (∀ p ∈ F, B' p = none ∧ H p = none ∧ H' p ≠ none) → F.Nodup → RV K mg B' H' v d F → Q v H'
  | some (.ex c) => ∀ H' B' C, Aft B0 H B' H' → mg c = some (.ref C) → E (.ref C) none H'
def dCall (g : Fd) (f : Dn (List D)) : Dn D := bnd f fun ds => fun ρ => match g ds with
  | some (.rt d) => if d.own then some (.ok d ρ) else none
  | some (.ex c) => some (.ex c ρ)
  | none => none
section
variable {K : PySem.W.Frag} {mg : Str → Option Value} {G : Gt} {B B' H H' : Hp} {F : Nat → List Addr} {L : List (Option V)} {R : List (Option D)} {E : List Addr} {v : V} {d : D}
def mixB (B B' H : Hp) : Hp := fun q => if H q = none then B' q else B q
theorem mixB_new {q : Addr} (h : H q = none) : mixB B B' H q = B' q := if_pos h
theorem mixB_old {q : Addr} (h : H q ≠ none) : mixB B B' H q = B q := if_neg h
/-- behind a call that had all of H before it: what is shared is what was, and what came -/
theorem RelW.after (r : RelW K mg G B F H L R) (A : Aft H H B' H') : RelW K mg G (mixB B B' H) F H' L R := by
  refine ⟨r.len, fun b u e => ?_, r.sh.trans A.s, fun b u e => ?_, fun b e => ?_, fun b u e t => ?_, fun i p hp => ?_, r.nd, r.dj, fun i c hc => ?_⟩
  · have h1 := r.sb _ _ e
    rw [mixB_old (by rw [r.sbh _ _ h1]; exact fun z => nomatch z)]
    exact h1
  · by_cases h : H b = none
    · rw [mixB_new h] at e
      exact A.sb _ _ e
    · rw [mixB_old h] at e
      exact A.s _ _ (r.sbh _ _ e)
  · by_cases h : H b = none
    · exact .inr (r.free h).2.1
    · rw [mixB_old h] at e
      exact r.new b e
  · by_cases h : H b = none
    · rw [mixB_new h]
      exact A.t b u e t
    · rw [mixB_old h]
      cases hh : H b with
      | none => exact absurd hh h
      | some o =>
        have := A.s _ _ hh
        rw [e] at this
        cases this
        exact r.tup b _ hh t
  · obtain ⟨a1, a2, a3⟩ := r.owf i p hp
    refine ⟨by rw [mixB_old a3]; exact a1, a2, fun z => ?_⟩
    cases hh : H p with
    | none => exact a3 hh
    | some o => rw [A.s _ _ hh] at z; cases z
  · obtain ⟨v, h1, h2⟩ := r.ent i c hc
    refine ⟨v, h1, h2.mono (Le.of fun b u e => ?_) fun p hp => ?_⟩
    · rw [mixB_old (by rw [r.sbh _ _ e]; exact fun z => nomatch z)]
      exact e
    · cases hh : H p with
      | none => exact absurd hh (r.owf i p hp).2.2
      | some o => rw [A.s _ _ hh]
theorem RelW.called (r : RelW K mg G B F H L R) (A : Aft H H B' H') (nF : ∀ p ∈ E, B' p = none ∧ H p = none ∧ H' p ≠ none) (nd : E.Nodup) (rv : RV K mg B' H' v d E) (ho : d.own = true) : Rel K mg G H' (L ++ [some v]) (R ++ [some d]) := by
  have rv2 : RV K mg (mixB B B' H) H' v d E := by
    refine rv.owned (fun a xs h => ?_) ho fun _ _ => rfl
    rcases h with h | h
    · have hu : ∃ u, B' a = some u ∧ isT u = true := by
        rcases h with h | ⟨o, h⟩
        · exact ⟨_, h, rfl⟩
        · exact ⟨_, h, rfl⟩
      obtain ⟨u, hu, tu⟩ := hu
      have e2 : mixB B B' H a = some u := by
        by_cases hn : H a = none
        · rw [mixB_new hn]
          exact hu
        · rw [mixB_old hn]
          cases hh : H a with
          | none => exact absurd hh hn
          | some o =>
            have e1 := A.sb _ _ hu
            rw [A.s _ _ hh] at e1
            cases e1
            exact r.tup a _ hh tu
      left
      rcases h with h | ⟨o, h⟩
      · rw [h] at hu
        cases hu
        exact .inl e2
      · rw [h] at hu
        cases hu
        exact .inr ⟨o, e2⟩
    · exact .inr h
  refine ⟨_, _, (r.after A).push rv2 (fun p hp => ?_) nd fun p hp j hj hm => (r.free (nF p hp).2.1).2.2 j hm⟩
  obtain ⟨h1, h2, h3⟩ := nF p hp
  exact ⟨by rw [mixB_new h2]; exact h1, (r.free h2).2.1, h3⟩
end
theorem sa_call {mg : Str → Option Value} {K : PySem.W.Frag} {W : WX} {n : Nat} {g : Fd} {f : Dn (List D)} {ta : TA} (h : SW K mg W ta f) (hn : ∀ ds r, g ds = some r → ds.length = n) : SE K mg W (tCallS (spD K mg n g) (WE W) ta) (dCall g f) := by
  intro G σ us H ρ τ Q r hw
  refine h G σ us H ρ τ _ r (wp_mono (wp_bnd hw) (fun ds ρ1 q vs H1 s1 r1 w1 => ?_) fun _ _ q => q)
  show spD K mg n g vs H1 Q (fun cls d H => W cls d σ H)
  cases e : g ds with
  | none => simp only [e] at q; exact q.elim
  | some fr =>
    refine ⟨by rw [w1.length]; exact hn ds fr e, H1, ds, Same.refl _, fun p o h _ => h, w1, ?_⟩
    simp only [e] at q ⊢
    obtain ⟨B, F0, W0⟩ := r1.rel
    cases fr with
    | rt d =>
      simp only at q ⊢
      intro v H' B' F A nF nd rv
      split at q
      · rename_i ho
        exact q v H' (s1.trans A.s) (.ofSnoc r1.ls (W0.called A nF nd rv ho))
      · exact q.elim
    | ex c =>
      simp only at q ⊢
      exact fun H' B' C A hC => q H' C hC ⟨r1.ls, _, _, W0.after A⟩
theorem ex_call {k n : Nat} {g : Fd} {f : Addr} {fd : FuncData} {ps : List Str} {base : Heap} {x : Str} {p : Pos} {ta : TA} {fa : Dn (List D)} (F : FnOk X.prog X.w X.K X.mg X.base (L2.CX X.prog X.w) k f fd ps (spD X.K X.mg n g)) (hn : ∀ ds r, g ds = some r → ds.length = n) (tk : Takes X W) (hr : Room k X.A)
    (hm : X.mg x = some (.ref f)) (hk : PySem.W.keepIn X.K (.ref f) = true) (hb : Binds X.K fd ps []) (ha : WA X W (e :: es) ta fa) (hg : Gl X x := by rfl) (hdb : (x == ("__debug__" : Str)) = false := by decide)
    (he : starEach (e :: es) X.env = (false, eval e X.env) :: starEach es X.env := by rfl) (hpl : (backTo pos (starEach es X.env)).any (·.1) = false := by rfl) :
    EX X W (.Call (.Name x p) (e :: es) [] pos) (tCallS (spD X.K X.mg n g) (WE W) ta) (dCall g fa) := ⟨pe_callS F hr hg hm hk hb (passAt tk) ha.p hdb he hpl, sa_call ha.s hn⟩
end
end Ly

set_option Elab.async false
set_option linter.all false
set_option maxRecDepth 100000
/-! Ly, part E: what is walked, targets, loops, comprehensions, statements, defs. -/
namespace Ly
open PySem PySem.Spec L2
section
variable {K : PySem.W.Frag} {mg : Str → Option Value} {G : Gt} {B B' H H' : Hp} {F F' : Nat → List Addr} {L L' M : List (Option V)} {R R' N : List (Option D)} {v : V} {d d' : D} {E : List Addr} {i : Nat} {p : Addr} {σ : St} {us vs ws : List V} {ρ ρ' : Rho} {τ ds es : List D} {o : HO}
/-- the first of the held ones goes to the end -/
theorem Rel.rot (r : Rel K mg G H (L ++ some v :: M) (R ++ some d :: N)) (hl : L.length = R.length) : Rel K mg G H (L ++ M ++ [some v]) (R ++ N ++ [some d]) := by
  obtain ⟨B, F, W⟩ := r
  have hm : M.length = N.length := by
    have := W.len
    simp at this
    omega
  refine ⟨B, fun j => if j < R.length then F j else if j < R.length + N.length then F (j + 1) else if j = R.length + N.length then F R.length else [], W.re (by simp; omega) (fun j q hq => ?_) (fun j => ?_) (fun j k q hj hk => ?_) fun j c hc => ?_⟩
  · (try simp only at hq)
    split at hq
    · exact ⟨_, hq⟩
    · split at hq
      · exact ⟨_, hq⟩
      · split at hq
        · exact ⟨_, hq⟩
        · cases hq
  · (try simp only)
    split
    · exact W.nd _
    · split
      · exact W.nd _
      · split
        · exact W.nd _
        · exact List.nodup_nil
  · (try simp only at hj hk)
    split at hj <;> split at hk
    · exact W.dj _ _ q hj hk
    · split at hk
      · have := W.dj _ _ q hj hk; omega
      · split at hk
        · have := W.dj _ _ q hj hk; omega
        · cases hk
    · split at hj
      · have := W.dj _ _ q hj hk; omega
      · split at hj
        · have := W.dj _ _ q hj hk; omega
        · cases hj
    · split at hj
      · split at hk
        · have := W.dj _ _ q hj hk; omega
        · split at hk
          · have := W.dj _ _ q hj hk; omega
          · cases hk
      · split at hj
        · split at hk
          · have := W.dj _ _ q hj hk; omega
          · split at hk
            · omega
            · cases hk
        · cases hj
  · rcases get_snoc hc with ⟨hj, hc⟩ | ⟨hj, hc⟩
    · simp at hj
      by_cases h1 : j < R.length
      · rw [List.getElem?_append_left h1] at hc
        obtain ⟨u, e1, e2⟩ := W.ent j c (by rw [List.getElem?_append_left h1]; exact hc)
        rw [List.getElem?_append_left (by omega)] at e1
        refine ⟨u, ?_, by simp only [if_pos h1]; exact e2⟩
        rw [List.append_assoc, List.getElem?_append_left (by omega)]
        exact e1
      · rw [List.getElem?_append_right (by omega)] at hc
        obtain ⟨u, e1, e2⟩ := W.ent (j + 1) c (by
          rw [List.getElem?_append_right (by omega), show j + 1 - R.length = (j - R.length) + 1 by omega, List.getElem?_cons_succ]
          exact hc)
        rw [List.getElem?_append_right (by omega), show j + 1 - L.length = (j - L.length) + 1 by omega, List.getElem?_cons_succ] at e1
        refine ⟨u, ?_, by simp only [if_neg h1, if_pos hj]; exact e2⟩
        rw [List.append_assoc, List.getElem?_append_right (by omega), List.getElem?_append_left (by omega)]
        exact e1
    · cases hc
      simp at hj
      obtain ⟨u, e1, e2⟩ := W.ent R.length d (by rw [List.getElem?_append_right (Nat.le_refl _)]; simp)
      rw [← hl, List.getElem?_append_right (Nat.le_refl _)] at e1
      simp at e1
      subst e1
      refine ⟨v, get_last (by simp; omega), ?_⟩
      simp only [hj, if_neg (show ¬ R.length + N.length < R.length by omega), if_neg (Nat.lt_irrefl _), if_true]
      exact e2
theorem RelW.pushs : ∀ {vs : List V} {ds : List D} {E : List Addr} {L : List (Option V)} {R : List (Option D)} {F : Nat → List Addr}, RelW K mg G B F H L R → RVs K mg B H vs ds E → (∀ p ∈ E, B p = none ∧ G.H0 p = none ∧ H p ≠ none) → E.Nodup → (∀ p ∈ E, ∀ j, j < R.length → p ∉ F j) → Rel K mg G H (L ++ vs.map some) (R ++ ds.map some)
  | _, _, _, L, R, F, W, .nil, _, _, _ => ⟨B, F, by simpa using W⟩
  | _, _, _, L, R, F, W, .cons (v := v) (vs := vs) (d := d) (ds := ds) (F := E1) (F' := E2) r t, hE, nE, dE => by
    obtain ⟨n1, n2, n3⟩ := List.nodup_append.mp nE
    have W2 := W.push r (fun p hp => hE p (List.mem_append_left _ hp)) n1 fun p hp => dE p (List.mem_append_left _ hp)
    have q := RelW.pushs W2 t (fun p hp => hE p (List.mem_append_right _ hp)) n2 fun p hp j hj hm => by
      (try simp only at hm)
      split at hm
      · rename_i h
        exact dE p (List.mem_append_right _ hp) j h hm
      · split at hm
        · exact n3 p hm p hp rfl
        · cases hm
    simpa using q
/-- a held tuple's items -/
theorem Rel.unpack (r : Rel K mg G H (L ++ [some v]) (R ++ [some (.tup ds)])) (hl : L.length = R.length) : ∃ a vs, v = .ref a ∧ SqT K H a vs ∧ vs.length = ds.length ∧ Rel K mg G H (L ++ vs.map some) (R ++ ds.map some) := by
  obtain ⟨B, F, W⟩ := r
  obtain ⟨u, e1, e2⟩ := W.ent R.length (.tup ds) (get_last rfl)
  rw [get_last hl.symm] at e1
  cases e1
  have W0 := W.less (L' := L) (R' := R) hl fun i d h => ⟨get_keep h, (List.getElem?_append_left (by rw [hl]; exact lt_of_get h)).symm⟩
  have ow := W.owf R.length
  have nd := W.nd R.length
  have dj := W.dj R.length
  generalize F R.length = E at e2 ow nd dj
  cases e2 with
  | tp hs rs => exact ⟨_, _, rfl, Le.seqT (Le.of W.sbh) hs, rs.length, W0.pushs rs ow nd fun p hp j hj hm => by
      have := dj _ _ hp hm
      omega⟩
/-- the i-th, at p, is written -/
theorem RelW.mut (W : RelW K mg G B F H L R) (hp : p ∈ F i) (ho : isT o = false) (hd : RV K mg B (upd H p o) v d' E) (hE : ∀ q ∈ E, q ∈ F i ∨ ∃ k, R.length ≤ k ∧ q ∈ F k) (nE : E.Nodup) (hv : L[i]? = some (some v)) (hi : i < R.length) :
    RelW K mg G B (fun j => if j = i then E else if j < R.length then F j else []) (upd H p o) L (R.set i (some d')) := by
  obtain ⟨f1, f2, f3⟩ := W.owf i p hp
  have ownE : ∀ q ∈ E, ∃ j, (j = i ∨ R.length ≤ j) ∧ q ∈ F j := fun q hq => by
    rcases hE q hq with h | ⟨k, h1, h2⟩
    · exact ⟨i, .inl rfl, h⟩
    · exact ⟨k, .inr h1, h2⟩
  have cases_ : ∀ j q, q ∈ (fun j => if j = i then E else if j < R.length then F j else []) j → (j = i ∧ q ∈ E) ∨ (j ≠ i ∧ j < R.length ∧ q ∈ F j) := by
    intro j q h
    (try simp only at h)
    split at h
    · exact .inl ⟨‹_›, h⟩
    · split at h
      · exact .inr ⟨‹_›, ‹_›, h⟩
      · cases h
  refine ⟨by simp [W.len], W.sb, fun b u e => ?_, fun b u e => ?_, W.new, fun b u e t => ?_, fun j q hq => ?_, fun j => ?_, fun j k q hj hk => ?_, fun j c hc => ?_⟩
  · rw [upd_ne (fun z => by rw [z, f2] at e; cases e)]
    exact W.sh _ _ e
  · rw [upd_ne (fun z => by rw [z, f1] at e; cases e)]
    exact W.sbh _ _ e
  · by_cases hb : b = p
    · subst hb
      rw [upd_same] at e
      cases e
      rw [ho] at t
      cases t
    · rw [upd_ne hb] at e
      exact W.tup b u e t
  · have own : ∃ j, q ∈ F j := by
      rcases cases_ j q hq with ⟨_, h⟩ | ⟨_, _, h⟩
      · obtain ⟨k, _, h⟩ := ownE q h
        exact ⟨k, h⟩
      · exact ⟨j, h⟩
    obtain ⟨k, hk⟩ := own
    obtain ⟨a1, a2, a3⟩ := W.owf k q hk
    refine ⟨a1, a2, ?_⟩
    by_cases hb : q = p
    · subst hb
      rw [upd_same]
      exact fun z => nomatch z
    · rw [upd_ne hb]
      exact a3
  · (try simp only)
    split
    · exact nE
    · split
      · exact W.nd _
      · exact List.nodup_nil
  · rcases cases_ j q hj with ⟨h1, hj⟩ | ⟨h1, l1, hj⟩ <;> rcases cases_ k q hk with ⟨h2, hk⟩ | ⟨h2, l2, hk⟩
    · rw [h1, h2]
    · obtain ⟨m, hm, hq⟩ := ownE q hj
      have := W.dj _ _ q hq hk
      omega
    · obtain ⟨m, hm, hq⟩ := ownE q hk
      have := W.dj _ _ q hq hj
      omega
    · exact W.dj _ _ q hj hk
  · by_cases hj : j = i
    · subst hj
      rw [List.getElem?_set_self hi] at hc
      cases hc
      exact ⟨v, hv, by simp only [if_true]; exact hd⟩
    · rw [List.getElem?_set_ne (Ne.symm hj)] at hc
      have hjl := lt_of_get hc
      obtain ⟨u, e1, e2⟩ := W.ent j c hc
      refine ⟨u, e1, ?_⟩
      simp only [if_neg hj, if_pos hjl]
      refine e2.mono (Le.of fun _ _ z => z) fun q hq => ?_
      rw [upd_ne]
      intro z
      subst z
      exact hj (W.dj _ _ _ hq hp)
/-- a list in the i-th, an item at the end: xs' and vs' of their items -/
theorem Rel.mutL {xs xs' : List D} (r : Rel K mg G H L R) (h : R[i]? = some (some (.lst true xs))) : ∃ p vs, L[i]? = some (some (.ref p)) ∧ H p = some (.lst vs) ∧ vs.length = xs.length ∧
    ∀ (vs' : List V) (xs' : List D), (∀ B, RVs K mg B H vs xs [] → RVs K mg B H vs' xs' []) → plains xs = true → Rel K mg G (upd H p (.lst vs')) L (R.set i (some (.lst true xs'))) := by
  obtain ⟨B, F, W⟩ := r
  obtain ⟨u, e1, e2⟩ := W.ent i _ h
  generalize hE : F i = E at e2
  cases e2 with
  | @lo a vs _ E2 hs rs =>
    refine ⟨a, vs, e1, hs, rs.length, fun vs' xs' hq hpl => ?_⟩
    have z := rs.noF hpl
    subst z
    exact ⟨_, _, W.mut (p := a) (by rw [hE]; simp) rfl (.lo upd_same ((hq B rs).mono (Le.of fun _ _ z => z) fun _ h => absurd h (by simp))) (fun q hq => .inl (by rw [hE]; exact hq)) (by simp) e1 (lt_of_get h)⟩
theorem Rel.append {xs : List D} (r : Rel K mg G H (L ++ [some v]) (R ++ [some d])) (h : R[i]? = some (some (.lst true xs))) : ∃ p vs, L[i]? = some (some (.ref p)) ∧ H p = some (.lst vs) ∧ vs.length = xs.length ∧
    Rel K mg G (upd H p (.lst (vs ++ [v]))) L (R.set i (some (.lst true (xs ++ [d])))) := by
  have hl : L.length = R.length := by
    have := r.len
    simpa using this
  obtain ⟨B, F, W⟩ := r
  obtain ⟨u, e1, e2⟩ := W.ent i _ (get_keep h)
  have hi := lt_of_get h
  rw [List.getElem?_append_left (by omega)] at e1
  obtain ⟨u', k1, k2⟩ := W.ent R.length d (get_last rfl)
  rw [get_last hl.symm] at k1
  cases k1
  have W0 := W.less (L' := L) (R' := R) hl fun i d h => ⟨get_keep h, (List.getElem?_append_left (by rw [hl]; exact lt_of_get h)).symm⟩
  generalize hE : F i = E at e2
  cases e2 with
  | @lo a vs _ E2 hs rs =>
    have hne : ∀ q ∈ F R.length, q ≠ a := fun q hq z => by
      have := W.dj R.length i q hq (by rw [hE, z]; simp)
      omega
    have nd0 := W.nd i
    rw [hE] at nd0
    have hn2 : ∀ q ∈ E2, q ≠ a := fun q hq z => (List.nodup_cons.mp nd0).1 (z ▸ hq)
    refine ⟨a, vs, e1, hs, rs.length, _, _, W0.mut (p := a) (E := a :: (E2 ++ F R.length)) (by rw [hE]; simp) rfl (.lo upd_same ?_) (fun q hq => ?_) ?_ e1 hi⟩
    · exact (rs.mono (Le.of fun _ _ z => z) fun q hq => upd_ne (hn2 q hq)).append (RVs.one (k2.mono (Le.of fun _ _ z => z) fun q hq => upd_ne (hne q hq)))
    · rcases List.mem_cons.mp hq with rfl | hq
      · exact .inl (by rw [hE]; simp)
      · rcases List.mem_append.mp hq with hq | hq
        · exact .inl (by rw [hE]; simp [hq])
        · exact .inr ⟨_, Nat.le_refl _, hq⟩
    · refine List.nodup_cons.mpr ⟨fun z => ?_, List.nodup_append.mpr ⟨(List.nodup_cons.mp nd0).2, W.nd _, fun x hx y hy z => ?_⟩⟩
      · rcases List.mem_append.mp z with z | z
        · exact hn2 a z rfl
        · exact hne a z rfl
      · subst z
        have := W.dj R.length i x hy (by rw [hE]; simp [hx])
        omega
/-- what the i-th owns is shared from now on -/
theorem Rel.freeze (r : Rel K mg G H L R) (h : R[i]? = some (some d)) : Rel K mg G H L (R.set i (some d.un)) := by
  obtain ⟨B, F, W⟩ := r
  have hi := lt_of_get h
  have sB : Same B (fun q => if q ∈ F i then H q else B q) := fun b u e => by
    have : b ∉ F i := fun z => by rw [(W.owf i b z).1] at e; cases e
    simp only [if_neg this]
    exact e
  refine ⟨fun q => if q ∈ F i then H q else B q, setF F i [], by simp [W.len], W.sb.trans sB, W.sh, fun b u e => ?_, fun b e => ?_, fun b u e t => ?_, fun j q hq => ?_, fun j => ?_, fun j k q hj hk => ?_, fun j c hc => ?_⟩
  · (try simp only at e)
    split at e
    · exact e
    · exact W.sbh _ _ e
  · (try simp only at e)
    split at e
    · rename_i hm
      exact .inr (W.owf i b hm).2.1
    · exact W.new b e
  · (try simp only)
    split
    · exact e
    · exact W.tup b u e t
  · by_cases hj : j = i
    · subst hj; rw [setF_at] at hq; cases hq
    · rw [setF_ne hj] at hq
      obtain ⟨a1, a2, a3⟩ := W.owf j q hq
      have : q ∉ F i := fun z => hj (W.dj _ _ _ hq z)
      simp only [if_neg this]
      exact ⟨a1, a2, a3⟩
  · by_cases hj : j = i
    · subst hj; rw [setF_at]; exact List.nodup_nil
    · rw [setF_ne hj]; exact W.nd j
  · by_cases h1 : j = i
    · subst h1; rw [setF_at] at hj; cases hj
    · by_cases h2 : k = i
      · subst h2; rw [setF_at] at hk; cases hk
      · rw [setF_ne h1] at hj; rw [setF_ne h2] at hk; exact W.dj _ _ _ hj hk
  · by_cases hj : j = i
    · subst hj
      rw [List.getElem?_set_self hi] at hc
      cases hc
      obtain ⟨u, e1, e2⟩ := W.ent j d h
      rw [setF_at]
      exact ⟨u, e1, e2.freeze (Le.of sB) fun q hq => by simp only [if_pos hq]⟩
    · rw [List.getElem?_set_ne (Ne.symm hj)] at hc
      obtain ⟨u, e1, e2⟩ := W.ent j c hc
      rw [setF_ne hj]
      exact ⟨u, e1, e2.mono (Le.of sB) fun _ _ => rfl⟩

/-! ### at slots -/
theorem RL.freeze (r : RL K mg G H σ us ρ τ) (h : ρ[i]? = some (some d)) : RL K mg G H σ us (ρ.set i (some d.un)) τ := by
  have q := r.rel.freeze (get_keep h)
  rw [List.set_append_left _ _ (lt_of_get h)] at q
  exact ⟨by rw [List.length_set]; exact r.ls, q⟩
theorem RL.mutL {xs : List D} (r : RL K mg G H σ us ρ τ) (h : ρ[i]? = some (some (.lst true xs))) : ∃ p vs, σ[i]? = some (some (.ref p)) ∧ H p = some (.lst vs) ∧ vs.length = xs.length ∧
    ∀ (vs' : List V) (xs' : List D), (∀ B, RVs K mg B H vs xs [] → RVs K mg B H vs' xs' []) → plains xs = true → RL K mg G (upd H p (.lst vs')) σ us (ρ.set i (some (.lst true xs'))) τ := by
  obtain ⟨p, vs, h1, h2, h3, h4⟩ := r.rel.mutL (xs' := []) (get_keep h)
  rw [List.getElem?_append_left (by rw [r.ls]; exact lt_of_get h)] at h1
  refine ⟨p, vs, h1, h2, h3, fun vs' xs' a b => ⟨by rw [List.length_set]; exact r.ls, ?_⟩⟩
  have q := h4 vs' xs' a b
  rw [List.set_append_left _ _ (lt_of_get h)] at q
  exact q
theorem RL.append {xs : List D} (r : RL K mg G H σ (us ++ [v]) ρ (τ ++ [d])) (h : ρ[i]? = some (some (.lst true xs))) : ∃ p vs, σ[i]? = some (some (.ref p)) ∧ H p = some (.lst vs) ∧ vs.length = xs.length ∧
    RL K mg G (upd H p (.lst (vs ++ [v]))) σ us (ρ.set i (some (.lst true (xs ++ [d])))) τ := by
  obtain ⟨p, vs, h1, h2, h3, h4⟩ := r.snoc.append (get_keep h)
  rw [List.getElem?_append_left (by rw [r.ls]; exact lt_of_get h)] at h1
  refine ⟨p, vs, h1, h2, h3, by rw [List.length_set]; exact r.ls, ?_⟩
  rw [List.set_append_left _ _ (lt_of_get h)] at h4
  exact h4
theorem RL.rot (r : RL K mg G H σ (us ++ v :: vs) ρ (τ ++ d :: ds)) (hl : us.length = τ.length) : RL K mg G H σ ((us ++ vs) ++ [v]) ρ ((τ ++ ds) ++ [d]) := by
  have q : Rel K mg G H ((σ ++ us.map some) ++ some v :: vs.map some) ((ρ ++ τ.map some) ++ some d :: ds.map some) := by
    have := r.rel
    simpa using this
  have q2 := q.rot (by have := r.ls; simp; omega)
  exact ⟨r.ls, by simpa using q2⟩
theorem RL.unpack (r : RL K mg G H σ (us ++ [v]) ρ (τ ++ [.tup ds])) (hl : us.length = τ.length) : ∃ a vs, v = .ref a ∧ SqT K H a vs ∧ vs.length = ds.length ∧ RL K mg G H σ (us ++ vs) ρ (τ ++ ds) := by
  obtain ⟨a, vs, h1, h2, h3, h4⟩ := r.snoc.unpack (by have := r.ls; simp; omega)
  exact ⟨a, vs, h1, h2, h3, r.ls, by simpa using h4⟩
/-- an item of the held one behind us -/
theorem RL.itemAt {xs : List D} {x : D} {j : Nat} (r : RL K mg G H σ (us ++ v :: vs) ρ (τ ++ d :: ds)) (hl : us.length = τ.length) (hx : d.items = some xs) (hj : xs[j]? = some x) (hp : x.plain = true) :
    ∃ p zs w, v = .ref p ∧ SqD K H d p zs ∧ zs.length = xs.length ∧ zs[j]? = some w ∧ RL K mg G H σ ((us ++ v :: vs) ++ [w]) ρ ((τ ++ d :: ds) ++ [x]) := by
  have q := r.rel
  have g : (ρ ++ (τ ++ d :: ds).map some)[ρ.length + τ.length]? = some (some d) := by
    rw [List.getElem?_append_right (by omega)]
    simp
  obtain ⟨p, zs, w, h1, h2, h3, h4, h5⟩ := q.item g hx hj hp
  rw [List.getElem?_append_right (by rw [r.ls]; omega)] at h1
  have e : ρ.length + τ.length - σ.length = us.length := by rw [r.ls]; omega
  rw [e] at h1
  simp at h1
  exact ⟨p, zs, w, h1, h2, h3, h4, r.ls, by simpa using h5⟩
theorem RL.seqAt {xs : List D} (r : RL K mg G H σ (us ++ v :: vs) ρ (τ ++ d :: ds)) (hl : us.length = τ.length) (hx : d.items = some xs) :
    ∃ p zs, v = .ref p ∧ SqD K H d p zs ∧ zs.length = xs.length := by
  have q := r.rel
  have g : (ρ ++ (τ ++ d :: ds).map some)[ρ.length + τ.length]? = some (some d) := by
    rw [List.getElem?_append_right (by omega)]
    simp
  obtain ⟨p, zs, h1, h2, h3⟩ := q.seqD g hx
  rw [List.getElem?_append_right (by rw [r.ls]; omega)] at h1
  have e : ρ.length + τ.length - σ.length = us.length := by rw [r.ls]; omega
  rw [e] at h1
  simp at h1
  exact ⟨p, zs, h1, h2, h3⟩
/-- those between are dropped -/
theorem RL.dropMid : ∀ {ws : List V} {es : List D}, us.length = τ.length → ws.length = es.length → RL K mg G H σ ((us ++ ws) ++ vs) ρ ((τ ++ es) ++ ds) → RL K mg G H σ (us ++ vs) ρ (τ ++ ds)
  | [], [], _, _, r => by simpa using r
  | [], _ :: _, _, h, _ => by simp at h
  | _ :: _, [], _, h, _ => by simp at h
  | w :: ws, e :: es, hl, h, r => by
    have r2 : RL K mg G H σ (us ++ w :: (ws ++ vs)) ρ (τ ++ e :: (es ++ ds)) := by simpa using r
    have r3 := (r2.rot hl).pop
    exact RL.dropMid (ws := ws) (es := es) hl (by simpa using h) (by simpa using r3)
end

section
theorem wipe_get {σ : St} : ∀ {vs : List Nat} {j : Nat}, (wipe σ vs)[j]? = if j ∈ vs ∧ j < σ.length then some none else σ[j]?
  | [], j => by simp [wipe]
  | v :: vs, j => by
    have ih := wipe_get (σ := σ) (vs := vs) (j := j)
    unfold wipe
    by_cases hj : v = j
    · subst hj
      by_cases hl : v < σ.length
      · rw [List.getElem?_set_self (by rw [wipe_length]; exact hl), if_pos ⟨by simp, hl⟩]
      · rw [List.getElem?_eq_none (by rw [List.length_set, wipe_length]; omega), if_neg (fun z => hl z.2), List.getElem?_eq_none (by omega)]
    · rw [List.getElem?_set_ne hj, ih]
      have e : (j ∈ vs ∧ j < σ.length) ↔ (j ∈ v :: vs ∧ j < σ.length) := by
        simp [Ne.symm hj]
      by_cases h : j ∈ vs ∧ j < σ.length
      · rw [if_pos h, if_pos (e.mp h)]
      · rw [if_neg h, if_neg (fun z => h (e.mpr z))]
theorem wipe_wipe {σ : St} {vs : List Nat} : wipe (wipe σ vs) vs = wipe σ vs := by
  apply List.ext_getElem?
  intro j
  rw [wipe_get, wipe_get, wipe_length]
  by_cases h : j ∈ vs ∧ j < σ.length
  · rw [if_pos h, if_pos h]
  · rw [if_neg h]
theorem wipe_set {σ : St} {vs : List Nat} {i : Nat} {x : Option V} (h : i ∈ vs) : wipe (σ.set i x) vs = wipe σ vs := by
  apply List.ext_getElem?
  intro j
  rw [wipe_get, wipe_get, List.length_set]
  by_cases hj : j ∈ vs ∧ j < σ.length
  · rw [if_pos hj, if_pos hj]
  · rw [if_neg hj, if_neg hj]
    by_cases e : i = j
    · subst e
      have : ¬ i < σ.length := fun z => hj ⟨h, z⟩
      rw [List.getElem?_eq_none (by simp; omega), List.getElem?_eq_none (by omega)]
    · rw [List.getElem?_set_ne e]
end

/-! ### targets -/
def SG (K : PySem.W.Frag) (mg : Str → Option Value) (t : TG) (ix : List Nat) (h : D → Rho → Option Rho) : Prop := ∀ (G : Gt) (σ : St) (us : List V) (H : Hp) (ρ : Rho) (τ : List D) (v : V) (d : D) (ρ' : Rho) (Q : St → Hp → Prop), RL K mg G H σ (us ++ [v]) ρ (τ ++ [d]) → h d ρ = some ρ' →
  (∀ σ' H', Same H H' → (∀ vs : List Nat, (∀ i ∈ ix, i ∈ vs) → wipe σ' vs = wipe σ vs) → RL K mg G H' σ' us ρ' τ → Q σ' H') → t v σ H Q
def SGs (K : PySem.W.Frag) (mg : Str → Option Value) (t : TGs) (ix : List Nat) (n : Nat) (h : List D → Rho → Option Rho) : Prop := ∀ (G : Gt) (σ : St) (us vs : List V) (H : Hp) (ρ : Rho) (τ ds : List D) (ρ' : Rho) (Q : St → Hp → Prop), us.length = τ.length → vs.length = n → RL K mg G H σ (us ++ vs) ρ (τ ++ ds) → h ds ρ = some ρ' →
  (∀ σ' H', Same H H' → (∀ vs : List Nat, (∀ i ∈ ix, i ∈ vs) → wipe σ' vs = wipe σ vs) → RL K mg G H' σ' us ρ' τ → Q σ' H') → t vs σ H Q
structure GX (X : Cx) (tg : Expr) (t : TG) (ix : List Nat) (h : D → Rho → Option Rho) : Prop where
  p : PG X tg t
  s : SG X.K X.mg t ix h
structure GXs (X : Cx) (tgs : List Expr) (t : TGs) (ix : List Nat) (n : Nat) (h : List D → Rho → Option Rho) : Prop where
  p : PGs X tgs t
  s : SGs X.K X.mg t ix n h
section
variable {X : Cx} {pos : Pos} {e : Expr} {es : List Expr} {t : TG} {u : TGs} {ix jx : List Nat} {n : Nat} {h : D → Rho → Option Rho} {k : List D → Rho → Option Rho}
def hName (i : Nat) : D → Rho → Option Rho := fun d ρ => some (ρ.set i (some d))
theorem sg_name {K : PySem.W.Frag} {mg : Str → Option Value} (i : Nat) : SG K mg (gName i) [i] (hName i) := by
  intro G σ us H ρ τ v d ρ' Q r e q
  cases e
  by_cases hi : i < ρ.length
  · exact q _ H (Same.refl _) (fun vs h => wipe_set (h i (by simp))) (r.store hi)
  · refine q _ H (Same.refl _) (fun vs h => wipe_set (h i (by simp))) ?_
    rw [List.set_eq_of_length_le (l := ρ) (by omega), List.set_eq_of_length_le (l := σ) (by rw [r.ls]; omega)]
    exact r.pop
theorem gx_name (i : Nat) {x : Str} (hN : X.N.Nodup) (hi : X.N[i]? = some x := by rfl) (hx : Loc X.env.scope x := by first | exact Or.inl rfl | exact Or.inr rfl) (hf : X.fn x = true ∨ X.env.scope.names.lookup x = some .local := by first | exact .inl rfl | exact .inr rfl) : GX X (.Name x pos) (gName i) [i] (hName i) := ⟨pg_name hN hi hx hf, sg_name i⟩
def hNil : List D → Rho → Option Rho
  | [], ρ => some ρ
  | _ :: _, _ => none
def hCons (h : D → Rho → Option Rho) (k : List D → Rho → Option Rho) : List D → Rho → Option Rho
  | [], _ => none
  | d :: ds, ρ => match h d ρ with
    | none => none
    | some ρ' => k ds ρ'
theorem gxs_nil : GXs X [] gNil [] 0 hNil := by
  refine ⟨pgs_nil, fun G σ us vs H ρ τ ds ρ' Q hl hn r e q => ?_⟩
  have hd := lenEq r hl
  have e1 : vs = [] := List.length_eq_zero_iff.mp hn
  subst e1
  have e2 : ds = [] := List.length_eq_zero_iff.mp (by simpa using hd.symm)
  subst e2
  cases e
  exact ⟨rfl, q σ H (Same.refl _) (fun _ _ => rfl) (by simpa using r)⟩
theorem gxs_cons (a : GX X e t ix h) (b : GXs X es u jx n k) (hs : (assignEach (e :: es) X.env).map (·.2) = assign e X.env :: (assignEach es X.env).map (·.2) := by rfl) : GXs X (e :: es) (gCons t u) (ix ++ jx) (n + 1) (hCons h k) := by
  refine ⟨pgs_cons a.p b.p hs, fun G σ us vs H ρ τ ds ρ' Q hl hn r e q => ?_⟩
  cases vs with
  | nil => simp at hn
  | cons v vs =>
    have hd := lenEq r hl
    cases ds with
    | nil => simp at hd
    | cons d ds =>
      cases e1 : h d ρ with
      | none => simp only [hCons, e1] at e; cases e
      | some ρ1 =>
        simp only [hCons, e1] at e
        refine ⟨v, vs, rfl, a.s G σ (us ++ vs) H ρ (τ ++ ds) v d ρ1 _ (r.rot hl) e1 fun σ1 H1 s1 w1 r1 => ?_⟩
        refine b.s G σ1 us vs H1 ρ1 τ ds ρ' Q hl (by simpa using hn) r1 e fun σ2 H2 s2 w2 r2 => ?_
        exact q σ2 H2 (s1.trans s2) (fun ws hw => (w2 ws fun i hi => hw i (List.mem_append_right _ hi)).trans (w1 ws fun i hi => hw i (List.mem_append_left _ hi))) r2
def hTup (k : List D → Rho → Option Rho) : D → Rho → Option Rho
  | .tup ds, ρ => k ds ρ
  | _, _ => none
theorem gx_tup {kk : Nat} (hc : X.calm = true) (b : GXs X es u ix n k) (hk : ∀ ds ρ ρ', k ds ρ = some ρ' → ds.length = n) (hn : (assignEach es X.env).length = n := by rfl) (hst : (assignEach es X.env).findIdx? (·.1) = none := by rfl) : GX X (.Tuple es kk pos) (gTup X.K n u) ix (hTup k) := by
  refine ⟨pg_tup hc b.p hn hst, fun G σ us H ρ τ v d ρ' Q r e q => ?_⟩
  unfold hTup at e
  split at e
  · rename_i ds
    have hl : us.length = τ.length := by
      have := r.lu
      simpa using this
    obtain ⟨a, vs, h1, h2, h3, h4⟩ := r.unpack hl
    exact ⟨a, vs, h1, h2, by rw [h3]; exact hk _ _ _ e, b.s G σ us vs H ρ τ ds ρ' Q hl (by rw [h3]; exact hk _ _ _ e) h4 e q⟩
  · cases e
theorem hNil_len {ds : List D} {ρ ρ' : Rho} (e : hNil ds ρ = some ρ') : ds.length = 0 := by
  cases ds with
  | nil => rfl
  | cons d ds => cases e
theorem hCons_len {h : D → Rho → Option Rho} {k : List D → Rho → Option Rho} {n : Nat} (hk : ∀ ds ρ ρ', k ds ρ = some ρ' → ds.length = n) : ∀ ds ρ ρ', hCons h k ds ρ = some ρ' → ds.length = n + 1 := by
  intro ds ρ ρ' e
  cases ds with
  | nil => cases e
  | cons d ds =>
    cases e1 : h d ρ with
    | none => simp only [hCons, e1] at e; cases e
    | some ρ1 =>
      simp only [hCons, e1] at e
      simp [hk _ _ _ e]
end
end Ly

set_option Elab.async false
set_option linter.all false
set_option maxRecDepth 100000
/-! Ly, part F: what is walked, loops, comprehensions. -/
namespace Ly
open PySem PySem.Spec L2
/-! ### what is walked -/
structure ItOk (K : PySem.W.Frag) (mg : Str → Option Value) (J : It) (xs : List D) (us : List V) (τ : List D) : Prop where
  go : ∀ {G : Gt} {H : Hp} {σ : St} {ρ : Rho} {zs : List V} {ζ : List D} {i : Nat}, RL K mg G H σ (us ++ zs) ρ (τ ++ ζ) → i < xs.length → J.go i H
  stop : ∀ {G : Gt} {H : Hp} {σ : St} {ρ : Rho} {zs : List V} {ζ : List D}, RL K mg G H σ (us ++ zs) ρ (τ ++ ζ) → J.stop xs.length H
  yld : ∀ {G : Gt} {H : Hp} {σ : St} {ρ : Rho} {zs : List V} {ζ : List D} {i : Nat} {x : D} {v : V} {H' : Hp}, RL K mg G H σ (us ++ zs) ρ (τ ++ ζ) → xs[i]? = some x → J.yld i H v H' → Same H H' ∧ RL K mg G H' σ ((us ++ zs) ++ [v]) ρ ((τ ++ ζ) ++ [x])
def SI (K : PySem.W.Frag) (mg : Str → Option Value) (W : WX) (wi : TI) (f : Dn (List D)) : Prop := ∀ (G : Gt) (σ : St) (us : List V) (H : Hp) (ρ : Rho) (τ : List D) (R : It → Hp → Prop), RL K mg G H σ us ρ τ →
  wp (f ρ) (fun xs ρ' => ∀ J H' ws ωs, Same H H' → ws.length = ωs.length → RL K mg G H' σ (us ++ ws) ρ' (τ ++ ωs) → ItOk K mg J xs (us ++ ws) (τ ++ ωs) → R J H') (Wx K mg W G σ us τ) → wi σ H R
structure IX (X : Cx) (W : WX) (tg iter : Expr) (wi : TI) (f : Dn (List D)) : Prop where
  p : PI X tg iter wi
  s : SI X.K X.mg W wi f
section
variable {X : Cx} {W : WX} {tg e a b : Expr} {t : TE} {f : Dn D} {pos : Pos}
def dItL (f : Dn D) : Dn (List D) := bnd f fun d => match d with
  | .lst _ xs => if plains xs = true then ret xs else stuck
  | .sc ns => ret (ns.map D.int)
  | _ => stuck
def dItT (f : Dn D) : Dn (List D) := bnd f fun d => match d with
  | .tup xs => if plains xs = true then ret xs else stuck
  | _ => stuck
theorem ok_list {K : PySem.W.Frag} {mg : Str → Option Value} {us : List V} {τ : List D} {p : Addr} {d : D} {xs : List D} (hl : us.length = τ.length) (hx : d.items = some xs) (ht : ∀ ys, d ≠ .tup ys) (hp : plains xs = true) : ItOk K mg (Itl K p) xs (us ++ [.ref p]) (τ ++ [d]) := by
  have sd : ∀ H q vs, SqD K H d q vs → SqL K H q vs := fun H q vs h => by
    cases d <;> first | exact h | exact absurd rfl (ht _)
  refine ⟨fun {G H σ ρ zs ζ i} r hi => ?_, fun {G H σ ρ zs ζ} r => ?_, fun {G H σ ρ zs ζ i x v H'} r hx' hy => ?_⟩
  · obtain ⟨q, ys, w, h1, h2, h3, h4, h5⟩ := RL.itemAt (us := us) (τ := τ) (v := .ref p) (d := d) (vs := zs) (ds := ζ) (by simpa using r) hl hx (List.getElem?_eq_getElem hi) (plains_get hp (List.getElem?_eq_getElem hi))
    cases h1
    exact ⟨ys, w, sd _ _ _ h2, h4⟩
  · obtain ⟨q, ys, h1, h2, h3⟩ := RL.seqAt (us := us) (τ := τ) (v := .ref p) (d := d) (vs := zs) (ds := ζ) (by simpa using r) hl hx
    cases h1
    exact ⟨ys, sd _ _ _ h2, Nat.le_of_eq h3⟩
  · obtain ⟨rfl, hy⟩ := hy
    obtain ⟨q, ys, w, h1, h2, h3, h4, h5⟩ := RL.itemAt (us := us) (τ := τ) (v := .ref p) (d := d) (vs := zs) (ds := ζ) (by simpa using r) hl hx hx' (plains_get hp hx')
    cases h1
    have e := hy ys (sd _ _ _ h2)
    rw [h4] at e
    cases e
    exact ⟨Same.refl _, by simpa using h5⟩
theorem ok_tup {K : PySem.W.Frag} {mg : Str → Option Value} {us : List V} {τ : List D} {p : Addr} {xs : List D} (hl : us.length = τ.length) (hp : plains xs = true) : ItOk K mg (Itt K p) xs (us ++ [.ref p]) (τ ++ [.tup xs]) := by
  refine ⟨fun {G H σ ρ zs ζ i} r hi => ?_, fun {G H σ ρ zs ζ} r => ?_, fun {G H σ ρ zs ζ i x v H'} r hx' hy => ?_⟩
  · obtain ⟨q, ys, w, h1, h2, h3, h4, h5⟩ := RL.itemAt (us := us) (τ := τ) (v := .ref p) (d := .tup xs) (vs := zs) (ds := ζ) (by simpa using r) hl rfl (List.getElem?_eq_getElem hi) (plains_get hp (List.getElem?_eq_getElem hi))
    cases h1
    exact ⟨ys, w, h2, h4⟩
  · obtain ⟨q, ys, h1, h2, h3⟩ := RL.seqAt (us := us) (τ := τ) (v := .ref p) (d := .tup xs) (vs := zs) (ds := ζ) (by simpa using r) hl rfl
    cases h1
    exact ⟨ys, h2, Nat.le_of_eq h3⟩
  · obtain ⟨rfl, hy⟩ := hy
    obtain ⟨q, ys, w, h1, h2, h3, h4, h5⟩ := RL.itemAt (us := us) (τ := τ) (v := .ref p) (d := .tup xs) (vs := zs) (ds := ζ) (by simpa using r) hl rfl hx' (plains_get hp hx')
    cases h1
    have e := hy ys h2
    rw [h4] at e
    cases e
    exact ⟨Same.refl _, by simpa using h5⟩
theorem ix_lst (h : EX X W e t f) : IX X W tg e (iList X.K t) (dItL f) := by
  refine ⟨pi_list h.p, fun G σ us H ρ τ R r hw => ?_⟩
  refine h.s G σ us H ρ τ _ r (wp_mono (wp_bnd hw) (fun d ρ1 q v H1 s1 r1 => ?_) fun _ _ q => q)
  have r2 : RL X.K X.mg G H1 σ (us ++ v :: []) ρ1 (τ ++ d :: []) := r1
  split at q
  · split at q
    · rename_i hp
      obtain ⟨p, vs, h1, h2, h3⟩ := r2.seqAt r.lu rfl
      subst h1
      exact ⟨p, rfl, ⟨vs, h2⟩, q _ _ [_] [_] s1 rfl r1 (ok_list r.lu rfl (fun _ z => by cases z) hp)⟩
    · exact q.elim
  · obtain ⟨p, vs, h1, h2, h3⟩ := r2.seqAt r.lu rfl
    subst h1
    refine ⟨p, rfl, ⟨vs, h2⟩, q _ _ [_] [_] s1 rfl r1 (ok_list r.lu rfl (fun _ z => by cases z) (plains_of fun d hd => ?_))⟩
    obtain ⟨n, _, rfl⟩ := List.mem_map.mp hd
    rfl
  · exact q.elim
theorem ix_tpl (h : EX X W e t f) : IX X W tg e (iTup X.K t) (dItT f) := by
  refine ⟨pi_tup h.p, fun G σ us H ρ τ R r hw => ?_⟩
  refine h.s G σ us H ρ τ _ r (wp_mono (wp_bnd hw) (fun d ρ1 q v H1 s1 r1 => ?_) fun _ _ q => q)
  have r2 : RL X.K X.mg G H1 σ (us ++ v :: []) ρ1 (τ ++ d :: []) := r1
  split at q
  · split at q
    · rename_i hp
      obtain ⟨p, vs, h1, h2, h3⟩ := r2.seqAt r.lu rfl
      subst h1
      exact ⟨p, rfl, ⟨vs, h2⟩, q _ _ [_] [_] s1 rfl r1 (ok_tup r.lu hp)⟩
    · exact q.elim
  · exact q.elim
/-- a slot's list, shared from now on -/
def dFrz (i : Nat) : Dn D := fun ρ => match ρ[i]? with
  | some (some d) => some (.ok d.un (ρ.set i (some d.un)))
  | _ => none
theorem ex_frz (i : Nat) {x : Str} (hN : X.N[i]? = some x := by rfl) (hv : Vis X.env.scope x := by first | exact Or.inl rfl | exact Or.inr (Or.inl rfl) | exact Or.inr (Or.inr rfl)) (hd : (x == ("__debug__" : Str)) = false := by decide)
    (hcd : (x == ("__classdict__" : Str)) = false := by decide) : EX X W (.Name x pos) (tVar i) (dFrz i) := by
  refine ⟨pe_var hN hv hd hcd, fun G σ us H ρ τ Q r hw => ?_⟩
  unfold dFrz at hw
  split at hw
  · rename_i d hi
    have r1 := r.freeze hi
    have hl := lt_of_get hi
    obtain ⟨v, h1, h2⟩ := r1.dup (i := i) (d := d.un) (by rw [List.getElem?_set_self hl]) (un_plain d)
    exact ⟨v, h1, hw v H (Same.refl _) h2⟩
  · exact hw.elim
def rngD (lo : Int) (n : Nat) : List D := (List.range n).map fun k => D.int (lo + (k : Nat))
theorem rngD_len (lo : Int) (n : Nat) : (rngD lo n).length = n := by simp [rngD]
theorem rngD_get {lo : Int} {n i : Nat} {x : D} (h : (rngD lo n)[i]? = some x) : x = .int (lo + (i : Nat)) := by
  unfold rngD at h
  rw [List.getElem?_map] at h
  by_cases hi : i < n
  · rw [List.getElem?_eq_getElem (by simpa using hi)] at h
    simp at h
    exact h.symm
  · rw [List.getElem?_eq_none (by simpa using hi)] at h
    cases h
theorem ok_rng {K : PySem.W.Frag} {mg : Str → Option Value} {us : List V} {τ : List D} {lo : Int} {n : Nat} : ItOk K mg (Itr lo n) (rngD lo n) us τ := by
  refine ⟨fun {G H σ ρ zs ζ i} r hi => ?_, fun {G H σ ρ zs ζ} r => ?_, fun {G H σ ρ zs ζ i x v H'} r hx' hy => ?_⟩
  · rw [rngD_len] at hi
    exact hi
  · rw [rngD_len]
    exact Nat.le_refl n
  · obtain ⟨rfl, rfl⟩ := hy
    rw [rngD_get hx']
    exact ⟨Same.refl _, r.flat (.int _) rfl⟩
/-- within 62 bits -/
def b62 (j : Int) : Bool := decide (-(2 ^ 62) ≤ j) && decide (j < 2 ^ 62)
theorem b62_of {j : Int} (h : b62 j = true) : -(2 ^ 62) ≤ j ∧ j < 2 ^ 62 := by
  unfold b62 at h
  simp only [Bool.and_eq_true, decide_eq_true_eq] at h
  exact h
def dRng1 (f : Dn (List D)) : Dn (List D) := bnd f fun ds => match ds with
  | [.int j] => if b62 j = true then ret (rngD 0 j.toNat) else stuck
  | _ => stuck
def dRng2 (f : Dn (List D)) : Dn (List D) := bnd f fun ds => match ds with
  | [.int i, .int j] => if (b62 i && b62 j) = true then ret (rngD i (j - i).toNat) else stuck
  | _ => stuck
theorem ix_rng1 {ta : TA} {fa : Dn (List D)} {p : Pos} (hg : Gl X "range") (hm : X.mg "range" = none) (ha : WA X W [a] ta fa) (hs : starEach [a] X.env = [(false, eval a X.env)] := by rfl) : IX X W tg (.Call (.Name "range" p) [a] [] pos) (iRng1 ta) (dRng1 fa) := by
  refine ⟨pi_range1 hg hm ha.p hs, fun G σ us H ρ τ R r hw => ?_⟩
  refine ha.s G σ us H ρ τ _ r (wp_mono (wp_bnd hw) (fun d ρ1 q v H1 s1 r1 w1 => ?_) fun _ _ q => q)
  split at q
  · rename_i j
    split at q
    · rename_i hb
      obtain ⟨b1, b2⟩ := b62_of hb
      obtain ⟨v1, rfl, h⟩ := w1.inv1
      rw [h.int_inv]
      exact ⟨j, rfl, b1, b2, q _ H1 [] [] s1 rfl (by simpa using r1) ok_rng⟩
    · exact q.elim
  · exact q.elim
theorem ix_rng2 {ta : TA} {fa : Dn (List D)} {p : Pos} (hg : Gl X "range") (hm : X.mg "range" = none) (ha : WA X W [a, b] ta fa) (hs : starEach [a, b] X.env = [(false, eval a X.env), (false, eval b X.env)] := by rfl) (hs2 : starEach [b] X.env = [(false, eval b X.env)] := by rfl) :
    IX X W tg (.Call (.Name "range" p) [a, b] [] pos) (iRng2 ta) (dRng2 fa) := by
  refine ⟨pi_range2 hg hm ha.p hs hs2, fun G σ us H ρ τ R r hw => ?_⟩
  refine ha.s G σ us H ρ τ _ r (wp_mono (wp_bnd hw) (fun d ρ1 q v H1 s1 r1 w1 => ?_) fun _ _ q => q)
  split at q
  · rename_i i j
    split at q
    · rename_i hb
      rw [Bool.and_eq_true] at hb
      obtain ⟨b1, b2⟩ := b62_of hb.1
      obtain ⟨b3, b4⟩ := b62_of hb.2
      obtain ⟨v1, v2, rfl, h, h'⟩ := w1.inv2
      rw [h.int_inv, h'.int_inv]
      exact ⟨i, j, rfl, ⟨b1, b2, b3, b4⟩, q _ H1 [] [] s1 rfl (by simpa using r1) ok_rng⟩
    · exact q.elim
  · exact q.elim
end

/-! ### for -/
def loop (h : D → Rho → Option Rho) (b : Sn) : List D → Sn
  | [], ρ => some (.nx ρ)
  | x :: xs, ρ => match h x ρ with
    | none => none
    | some ρ1 => match b ρ1 with
      | some (.nx ρ2) => loop h b xs ρ2
      | some (.ct ρ2) => loop h b xs ρ2
      | some (.bk ρ2) => some (.nx ρ2)
      | r => r
def dFor (f : Dn (List D)) (h : D → Rho → Option Rho) (b : Sn) : Sn := fun ρ => match f ρ with
  | none => none
  | some (.ex c ρ') => some (.ex c ρ')
  | some (.ok xs ρ') => loop h b xs ρ'
section
variable {X : Cx} {W : WX} {tg iter c : Expr} {wi : TI} {g : TG} {tb : TS} {tc : TT} {fi : Dn (List D)} {fc : Dn Bool} {ix : List Nat} {h : D → Rho → Option Rho} {fb : Sn} {body : List Stmt} {pos : Pos}
theorem sx_for (hp : PassesOwn (model X.prog X.w) X.A X.env X.xe) (hc : X.calm = true) (hi : IX X W tg iter wi fi) (hg : GX X tg g ix h) (hb : BX X W body tb fb)
    (hs : ∀ x, foldedSetIterable iter X.env x = pure x := by intro _; rfl) : SX X W (.For tg iter body [] pos) (tFor wi g tb) (dFor fi h fb) := by
  refine ⟨ps_for hp hc hi.p hg.p hb.p hs, fun G σ us H ρ τ E r hw => ?_⟩
  refine hi.s G σ us H ρ τ _ r ?_
  unfold dFor at hw
  cases e : fi ρ with
  | none => rw [e] at hw; exact hw.elim
  | some o =>
    rw [e] at hw
    cases o with
    | ex c ρ' => exact fun H' C hC r' => hw σ H' C hC r'
    | ok xs ρ1 =>
      intro J H1 ws ωs s1 hl r1 ok
      refine ⟨fun i m σ H => i ≤ xs.length ∧ m = xs.length - i ∧ ∃ ρ, RL X.K X.mg G H σ (us ++ ws) ρ (τ ++ ωs) ∧ sp (loop h fb (xs.drop i) ρ) (poOf X.K X.mg W G us τ E), ⟨xs.length, Nat.zero_le _, by simp, ρ1, r1, by simpa using hw⟩, ?_⟩
      rintro i m σ2 H2 ⟨hile, rfl, ρ2, r2, hw2⟩
      have r2' : RL X.K X.mg G H2 σ2 ((us ++ ws) ++ []) ρ2 ((τ ++ ωs) ++ []) := by simpa using r2
      by_cases hlt : i < xs.length
      · refine .inr ⟨ok.go r2' hlt, fun σ' H' => ∃ ρ, RL X.K X.mg G H' σ' (us ++ ws) ρ (τ ++ ωs) ∧ sp (loop h fb (xs.drop (i + 1)) ρ) (poOf X.K X.mg W G us τ E), fun σ' H' hN => ⟨xs.length - (i + 1), by omega, hlt, rfl, hN⟩, fun x H' hy => ?_⟩
        have hx : xs[i]? = some xs[i] := List.getElem?_eq_getElem hlt
        obtain ⟨s3, r3⟩ := ok.yld r2' hx hy
        rw [List.drop_eq_getElem_cons hlt] at hw2
        cases e2 : h xs[i] ρ2 with
        | none => simp only [loop, e2] at hw2; exact hw2.elim
        | some ρ3 =>
          simp only [loop, e2] at hw2
          refine hg.s G σ2 (us ++ ws) H' ρ2 (τ ++ ωs) x xs[i] ρ3 _ (by simpa using r3) e2 fun σ4 H4 s4 _ r4 => ?_
          refine hb.s G σ4 (us ++ ws) H4 ρ3 (τ ++ ωs) _ r4 ?_
          cases e3 : fb ρ3 with
          | none => simp only [e3] at hw2; exact hw2.elim
          | some fl =>
            simp only [e3] at hw2
            cases fl with
            | nx ρ5 => exact fun σ' H' r' => ⟨ρ5, r', hw2⟩
            | ct ρ5 => exact fun σ' H' r' => ⟨ρ5, r', hw2⟩
            | bk ρ5 => exact fun σ' H' r' => hw2 σ' H' (r'.pops r.lu)
            | rt d ρ5 => exact fun σ' v H' r' => hw2 σ' v H' (RL.dropMid (vs := [v]) (ds := [d]) r.lu hl r')
            | ex c ρ5 => exact fun σ' H' C hC r' => hw2 σ' H' C hC (r'.pops r.lu)
      · have hi2 : i = xs.length := by omega
        subst hi2
        rw [List.drop_length] at hw2
        exact .inl ⟨ok.stop r2', hw2 σ2 H2 (r2.pops r.lu)⟩
/-! ### while -/
def whl (c : Dn Bool) (b : Sn) : Nat → Sn
  | 0, _ => none
  | n + 1, ρ => match c ρ with
    | none => none
    | some (.ex k ρ') => some (.ex k ρ')
    | some (.ok false ρ') => some (.nx ρ')
    | some (.ok true ρ') => match b ρ' with
      | some (.nx ρ2) => whl c b n ρ2
      | some (.ct ρ2) => whl c b n ρ2
      | some (.bk ρ2) => some (.nx ρ2)
      | r => r
theorem sx_while (n : Nat) (hp : PassesOwn (model X.prog X.w) X.A X.env X.xe) (hc : TX X W c tc fc) (hb : BX X W body tb fb) : SX X W (.While c body [] pos) (tWhile tc tb) (whl fc fb n) := by
  refine ⟨ps_while hp hc.p hb.p, fun G σ us H ρ τ E r hw => ?_⟩
  refine ⟨fun m σ H => ∃ ρ, RL X.K X.mg G H σ us ρ τ ∧ sp (whl fc fb m ρ) (poOf X.K X.mg W G us τ E), ⟨n, ρ, r, hw⟩, ?_⟩
  rintro m σ2 H2 ⟨ρ2, r2, hw2⟩
  cases m with
  | zero => exact hw2.elim
  | succ m =>
    refine hc.s G σ2 us H2 ρ2 τ _ r2 ?_
    unfold whl at hw2
    cases e : fc ρ2 with
    | none => simp only [e] at hw2; exact hw2.elim
    | some o =>
      simp only [e] at hw2
      cases o with
      | ex k ρ3 => exact fun H' C hC r' => hw2 σ2 H' C hC r'
      | ok b ρ3 =>
        cases b with
        | false =>
          intro H3 s3 r3
          rw [if_neg Bool.false_ne_true]
          exact hw2 σ2 H3 r3
        | true =>
          intro H3 s3 r3
          rw [if_pos rfl]
          refine ⟨fun σ' H' => ∃ ρ, RL X.K X.mg G H' σ' us ρ τ ∧ sp (whl fc fb m ρ) (poOf X.K X.mg W G us τ E), fun σ' H' hN => ⟨m, Nat.lt_succ_self m, hN⟩, hb.s G σ2 us H3 ρ3 τ _ r3 ?_⟩
          (try simp only at hw2)
          cases e3 : fb ρ3 with
          | none => simp only [e3] at hw2; exact hw2.elim
          | some fl =>
            simp only [e3] at hw2
            cases fl with
            | nx ρ5 => exact fun σ' H' r' => ⟨ρ5, r', hw2⟩
            | ct ρ5 => exact fun σ' H' r' => ⟨ρ5, r', hw2⟩
            | bk ρ5 => exact hw2
            | rt d ρ5 => exact hw2
            | ex c ρ5 => exact hw2
end

/-! ### comprehensions -/
def wipeR (ρ : Rho) : List Nat → Rho
  | [] => ρ
  | v :: vs => (wipeR ρ vs).set v none
theorem wipeR_len (ρ : Rho) : ∀ vs : List Nat, (wipeR ρ vs).length = ρ.length
  | [] => rfl
  | v :: vs => by unfold wipeR; rw [List.length_set, wipeR_len ρ vs]
theorem wipeR_some {ρ : Rho} {j : Nat} {d : D} : ∀ {vs : List Nat}, (wipeR ρ vs)[j]? = some (some d) → ρ[j]? = some (some d) ∧ j ∉ vs
  | [], h => ⟨h, by simp⟩
  | v :: vs, h => by
    unfold wipeR at h
    by_cases hj : v = j
    · subst hj
      by_cases hl : v < (wipeR ρ vs).length
      · rw [List.getElem?_set_self hl] at h; cases h
      · rw [List.getElem?_eq_none (by rw [List.length_set]; omega)] at h; cases h
    · rw [List.getElem?_set_ne hj] at h
      obtain ⟨h1, h2⟩ := wipeR_some h
      exact ⟨h1, by simp [Ne.symm hj, h2]⟩
def comp (vs : List Nat) (h : D → Rho → Option Rho) (t : Dn Bool) (e : Dn D) : List D → List D → Rho → Option (List D × Rho)
  | [], acc, ρ => some (acc, ρ)
  | x :: xs, acc, ρ => match h x ρ with
    | none => none
    | some ρ1 => match t ρ1 with
      | some (.ok true ρ2) => match e ρ2 with
        | some (.ok d ρ3) => if acc.length < big then comp vs h t e xs (acc ++ [d]) (wipeR ρ3 vs) else none
        | _ => none
      | some (.ok false ρ2) => comp vs h t e xs acc (wipeR ρ2 vs)
      | _ => none
def dComp (vs : List Nat) (f : Dn (List D)) (h : D → Rho → Option Rho) (t : Dn Bool) (e : Dn D) : Dn D := bnd f fun xs => fun ρ => match comp vs h t e xs [] (wipeR ρ vs) with
  | none => none
  | some (acc, ρ') => some (.ok (.lst true acc) ρ')
theorem RL.wiped {K : PySem.W.Frag} {mg : Str → Option Value} {G : Gt} {H : Hp} {σ σ2 : St} {us : List V} {ρ : Rho} {τ : List D} {vs : List Nat} (r : RL K mg G H σ us ρ τ) (e : wipe σ vs = wipe σ2 vs) : RL K mg G H (wipe σ2 vs) us (wipeR ρ vs) τ := by
  refine r.less (by rw [← e, wipe_length]) (wipeR_len ρ vs) fun i d h => ?_
  obtain ⟨h1, h2⟩ := wipeR_some h
  refine ⟨h1, ?_⟩
  rw [← e, wipe_get, if_neg (fun z => h2 z.1)]
theorem RL.unwiped {K : PySem.W.Frag} {mg : Str → Option Value} {G : Gt} {H : Hp} {σ : St} {us : List V} {ρ : Rho} {τ : List D} {vs : List Nat} (r : RL K mg G H (wipe σ vs) us ρ τ) : RL K mg G H σ us (wipeR ρ vs) τ := by
  refine r.less (by rw [wipe_length]) (wipeR_len ρ vs) fun i d h => ?_
  obtain ⟨h1, h2⟩ := wipeR_some h
  refine ⟨h1, ?_⟩
  rw [wipe_get, if_neg (fun z => h2 z.1)]
theorem RL.appendLast {K : PySem.W.Frag} {mg : Str → Option Value} {G : Gt} {H : Hp} {σ : St} {us : List V} {ρ : Rho} {τ acc : List D} {p : Addr} {v : V} {d : D} (r : RL K mg G H σ (us ++ [.ref p] ++ [v]) ρ (τ ++ [.lst true acc] ++ [d])) (hl : us.length = τ.length) :
    ∃ vs, H p = some (.lst vs) ∧ vs.length = acc.length ∧ RL K mg G (upd H p (.lst (vs ++ [v]))) σ (us ++ [.ref p]) ρ (τ ++ [.lst true (acc ++ [d])]) := by
  have q := r.snoc
  have g : (ρ ++ (τ ++ [D.lst true acc]).map some)[ρ.length + τ.length]? = some (some (.lst true acc)) := by
    rw [List.getElem?_append_right (by omega)]
    simp
  obtain ⟨a, vs, h1, h2, h3, h4⟩ := q.append g
  rw [List.getElem?_append_right (by rw [r.ls]; omega)] at h1
  have e : ρ.length + τ.length - σ.length = us.length := by rw [r.ls]; omega
  rw [e] at h1
  simp at h1
  subst h1
  refine ⟨vs, h2, h3, r.ls, ?_⟩
  rw [List.set_append_right _ _ (by omega)] at h4
  simpa using h4
structure KX (X : Cx) (W : WX) (ifs : List Expr) (t : TT) (f : Dn Bool) : Prop where
  p : PTs X ifs t
  s : ST X.K X.mg W t f
section
variable {X : Cx} {W : WX} {elt tg iter : Expr} {ifs : List Expr} {scope : Scope} {own : List (Str × Nat)} {pos : Pos} {wi : TI} {g : TG} {tt : TT} {te : TE} {fi : Dn (List D)} {ft : Dn Bool} {fe : Dn D} {ix : List Nat} {h : D → Rho → Option Rho}
/-- nothing that is raised leaves a comprehension -/
abbrev WF : WX := fun _ _ _ _ => False
theorem kx_nil : KX X W [] tYes (ret true) := ⟨pts_nil, fun G σ us H ρ τ Q r hw => hw H (Same.refl _) r⟩
theorem kx_one {c : Expr} (hc : TX X W c tt ft) : KX X W [c] tt ft := ⟨pts_one hc.p, hc.s⟩
theorem se_comp (vs : List Nat) (hi : SI X.K X.mg W wi fi) (hg : SG X.K X.mg g ix h) (ht : ST X.K X.mg WF tt ft) (he : SE X.K X.mg WF te fe) (hix : ∀ i ∈ ix, i ∈ vs) : SE X.K X.mg W (tLc wi g tt te vs) (dComp vs fi h ft fe) := by
  intro G σ us H ρ τ Q r hw
  refine hi G σ us H ρ τ _ r (wp_mono (wp_bnd hw) (fun xs ρ1 q J H1 ws ωs s1 hl r1 ok => ?_) fun _ _ q => q)
  intro D0 hD
  have hus : (us ++ ws).length = (τ ++ ωs).length := r1.lu
  -- the new list
  have r2 : RL X.K X.mg G (upd H1 D0 (.lst [])) σ ((us ++ ws) ++ [.ref D0]) ρ1 ((τ ++ ωs) ++ [.lst true []]) := RL.newLst (vs := []) (ds := []) (by simpa using r1) hus hD
  have r3 := r2.wiped (vs := vs) rfl
  let Post : List D → Rho → Prop := fun acc ρ' => ∀ v H', Same H H' → RL X.K X.mg G H' σ (us ++ [v]) ρ' (τ ++ [.lst true acc]) → Q v H'
  have q' : ∃ acc ρ', comp vs h ft fe xs [] (wipeR ρ1 vs) = some (acc, ρ') ∧ Post acc ρ' := by
    cases e : comp vs h ft fe xs [] (wipeR ρ1 vs) with
    | none => simp only [e] at q; exact q.elim
    | some o =>
      simp only [e] at q
      exact ⟨o.1, o.2, rfl, q⟩
  refine ⟨fun i m H2 => i ≤ xs.length ∧ m = xs.length - i ∧ Same H H2 ∧ ∃ acc ρ2, RL X.K X.mg G H2 (wipe σ vs) ((us ++ ws) ++ [.ref D0]) (wipeR ρ2 vs) ((τ ++ ωs) ++ [.lst true acc]) ∧ ∃ acc' ρ', comp vs h ft fe (xs.drop i) acc (wipeR ρ2 vs) = some (acc', ρ') ∧ Post acc' ρ',
    ⟨xs.length, Nat.zero_le _, by simp, s1.trans (Ly.same_upd hD), [], ρ1, r3, by simpa using q'⟩, ?_⟩
  rintro i m H2 ⟨hile, rfl, s2, acc, ρ2, r4, acc', ρ', e4, post⟩
  by_cases hlt : i < xs.length
  · refine .inr ⟨ok.go r4 hlt, fun H' => Same H H' ∧ ∃ acc ρ2, RL X.K X.mg G H' (wipe σ vs) ((us ++ ws) ++ [.ref D0]) (wipeR ρ2 vs) ((τ ++ ωs) ++ [.lst true acc]) ∧ ∃ acc' ρ', comp vs h ft fe (xs.drop (i + 1)) acc (wipeR ρ2 vs) = some (acc', ρ') ∧ Post acc' ρ', fun H' hN => ⟨xs.length - (i + 1), by omega, hlt, rfl, hN.1, hN.2⟩, fun x H' hy => ?_⟩
    have hx : xs[i]? = some xs[i] := List.getElem?_eq_getElem hlt
    obtain ⟨s5, r5⟩ := ok.yld r4 hx hy
    rw [List.drop_eq_getElem_cons hlt] at e4
    cases e5 : h xs[i] (wipeR ρ2 vs) with
    | none => simp only [comp, e5] at e4; cases e4
    | some ρ5 =>
      simp only [comp, e5] at e4
      refine hg G (wipe σ vs) ((us ++ ws) ++ [.ref D0]) H' (wipeR ρ2 vs) ((τ ++ ωs) ++ [.lst true acc]) x xs[i] ρ5 _ r5 e5 fun σ6 H6 s6 w6 r6 => ?_
      have w6' : wipe σ6 vs = wipe σ vs := by
        rw [w6 vs hix, wipe_wipe]
      refine ⟨by rw [w6'], ?_⟩
      refine ht G σ6 _ H6 ρ5 _ _ r6 ?_
      cases e6 : ft ρ5 with
      | none => simp only [e6] at e4; cases e4
      | some o6 =>
        cases o6 with
        | ex c ρ6 => simp only [e6] at e4; cases e4
        | ok b ρ6 =>
          cases b with
          | false =>
            simp only [e6] at e4
            intro H7 s7 r7
            rw [if_neg Bool.false_ne_true]
            exact ⟨s2.trans (s5.trans (s6.trans s7)), acc, ρ6, r7.wiped w6', acc', ρ', e4, post⟩
          | true =>
            simp only [e6] at e4
            intro H7 s7 r7
            rw [if_pos rfl]
            refine he G σ6 _ H7 ρ6 _ _ r7 ?_
            cases e8 : fe ρ6 with
            | none => simp only [e8] at e4; cases e4
            | some o8 =>
              cases o8 with
              | ex c ρ8 => simp only [e8] at e4; cases e4
              | ok d ρ8 =>
                simp only [e8] at e4
                intro v H8 s8 r8
                split at e4
                · rename_i hb
                  obtain ⟨zs, h1, h2, h3⟩ := RL.appendLast r8 hus
                  have hn : H D0 = none := by
                    cases eh : H D0 with
                    | none => rfl
                    | some o => rw [s1 _ _ eh] at hD; cases hD
                  refine ⟨zs, h1, by rw [h2, ← big_eq]; exact hb, ?_, acc ++ [d], ρ8, h3.wiped w6', acc', ρ', e4, post⟩
                  intro b u eb
                  rw [upd_ne (ne_of_none eb hn)]
                  exact s8 _ _ (s7 _ _ (s6 _ _ (s5 _ _ (s2 _ _ eb))))
                · cases e4
  · have hi2 : i = xs.length := by omega
    subst hi2
    rw [List.drop_length] at e4
    cases e4
    refine .inl ⟨ok.stop r4, post _ _ s2 ?_⟩
    have r9 := r4.unwiped
    have e9 : wipeR (wipeR ρ2 vs) vs = wipeR ρ2 vs := by
      apply List.ext_getElem?
      intro j
      cases hz : (wipeR (wipeR ρ2 vs) vs)[j]? with
      | none =>
        rw [List.getElem?_eq_none_iff, wipeR_len] at hz
        rw [List.getElem?_eq_none (by exact hz)]
      | some o =>
        have hj := lt_of_get hz
        rw [wipeR_len] at hj
        cases o with
        | some d => exact (wipeR_some hz).1.symm
        | none =>
          cases hy : (wipeR ρ2 vs)[j]? with
          | none => rw [List.getElem?_eq_none_iff] at hy; omega
          | some o2 =>
            cases o2 with
            | none => rfl
            | some d =>
              exfalso
              have h2 := (wipeR_some hy).2
              have key : ∀ ws : List Nat, j ∉ ws → (wipeR (wipeR ρ2 vs) ws)[j]? = (wipeR ρ2 vs)[j]? := by
                intro ws
                induction ws with
                | nil => intro _; rfl
                | cons w ws ih =>
                  intro hm
                  simp at hm
                  show ((wipeR (wipeR ρ2 vs) ws).set w none)[j]? = _
                  rw [List.getElem?_set_ne (Ne.symm hm.1)]
                  exact ih hm.2
              rw [key vs h2, hy] at hz
              cases hz
    rw [e9] at r9
    exact RL.dropMid (vs := [.ref D0]) (ds := [.lst true acc]) r.lu hl r9
theorem ex_comp {g : Shared → Hp → Addr → List (Str × Addr) → List Addr → TG} {tt : Shared → Hp → Addr → List (Str × Addr) → List Addr → TT} {te : Shared → Hp → Addr → List (Str × Addr) → List Addr → TE} (hc : X.calm = true) (hN : X.N.Nodup) (hi : IX X W tg iter wi fi) (ok : BlkOk X.N X.env.scope scope own)
    (hg : ∀ (s : Shared) (H : Hp) (C : Addr) (cl : List (Str × Addr)) (fp : List Addr), GX (X.blk s H scope (compEnvC scope cl C X.env) fp) tg (g s H C cl fp) ix h) (ht : ∀ (s : Shared) (H : Hp) (C : Addr) (cl : List (Str × Addr)) (fp : List Addr), KX (X.blk s H scope (compEnvC scope cl C X.env) fp) WF ifs (tt s H C cl fp) ft)
    (he : ∀ (s : Shared) (H : Hp) (C : Addr) (cl : List (Str × Addr)) (fp : List Addr), EX (X.blk s H scope (compEnvC scope cl C X.env) fp) WF elt (te s H C cl fp) fe) (hix : ∀ i ∈ ix, i ∈ own.map (·.2)) (hs : ∀ x, foldedSetIterable iter X.env x = pure x := by intro _; rfl)
    (eg : ∀ s H C cl fp, g s H C cl fp = g {} (fun _ => none) 0 [] [] := by intros; rfl) (et : ∀ s H C cl fp, tt s H C cl fp = tt {} (fun _ => none) 0 [] [] := by intros; rfl) (ee : ∀ s H C cl fp, te s H C cl fp = te {} (fun _ => none) 0 [] [] := by intros; rfl) :
    EX X W (.ListComp elt [⟨tg, iter, ifs, 0⟩] scope pos) (tLc wi (g {} (fun _ => none) 0 [] []) (tt {} (fun _ => none) 0 [] []) (te {} (fun _ => none) 0 [] []) (own.map (·.2))) (dComp (own.map (·.2)) fi h ft fe) :=
  ⟨pe_lc hc hN hi.p ok (fun s H C cl fp => eg s H C cl fp ▸ (hg s H C cl fp).p) (fun s H C cl fp => et s H C cl fp ▸ (ht s H C cl fp).p) (fun s H C cl fp => ee s H C cl fp ▸ (he s H C cl fp).p) hs,
    se_comp (X := X) (own.map (·.2)) hi.s (hg {} (fun _ => none) 0 [] []).s (ht {} (fun _ => none) 0 [] []).s (he {} (fun _ => none) 0 [] []).s hix⟩
end
end Ly

set_option Elab.async false
set_option linter.all false
set_option maxRecDepth 100000
/-! Ly, part G: data as the library has it; operators; built-ins. -/
namespace Ly
open PySem PySem.Spec L2
mutual
/-- as the library's data -/
def D.py : D → PyData
  | .bl b => .bool b
  | .int i => .int i
  | .str s => .str s
  | .sc ns => .list (ns.map PyData.int)
  | .lst _ xs => .list (pys xs)
  | .tup xs => .tuple (pys xs)
  | .non => .none
  | .dic _ _ _ => .none
  | .dik _ _ _ => .none
  | .ins _ _ _ _ => .none
  | .fn _ => .none
def pys : List D → List PyData
  | [] => []
  | x :: xs => x.py :: pys xs
end
mutual
/-- data, at most so deep -/
def D.fit : Nat → D → Bool
  | _, .non => true
  | _, .bl _ => true
  | _, .int _ => true
  | _, .str s => PyData.strOk s
  | n + 1, .sc _ => true
  | n + 1, .lst _ xs => fits n xs
  | n + 1, .tup xs => fits n xs
  | _, _ => false
def fits : Nat → List D → Bool
  | _, [] => true
  | n, x :: xs => x.fit n && fits n xs
end
mutual
def D.eqv : D → D → Bool
  | .non, .non => true
  | .bl a, .bl b => a == b
  | .bl a, .int j => (if a then 1 else 0) == j
  | .int i, .bl b => i == (if b then 1 else 0)
  | .int i, .int j => i == j
  | .str x, .str y => x == y
  | .sc ns, .sc ms => ns == ms
  | .sc ns, .lst _ ys => eqvI ns ys
  | .lst _ xs, .sc ms => eqvJ xs ms
  | .lst _ xs, .lst _ ys => eqvs xs ys
  | .tup xs, .tup ys => eqvs xs ys
  | _, _ => false
def eqvs : List D → List D → Bool
  | [], [] => true
  | x :: xs, y :: ys => D.eqv x y && eqvs xs ys
  | [], _ :: _ => false
  | _ :: _, [] => false
def eqvI : List Int → List D → Bool
  | [], [] => true
  | n :: ns, .int j :: ys => n == j && eqvI ns ys
  | n :: ns, .bl b :: ys => n == (if b then 1 else 0) && eqvI ns ys
  | _, _ => false
def eqvJ : List D → List Int → Bool
  | [], [] => true
  | .int j :: ys, n :: ns => j == n && eqvJ ys ns
  | .bl b :: ys, n :: ns => (if b then 1 else 0) == n && eqvJ ys ns
  | _, _ => false
end
theorem eqvAll_ints : ∀ ns ms : List Int, PyData.eqvAll (ns.map PyData.int) (ms.map PyData.int) = (ns == ms)
  | [], [] => by simp [PyData.eqvAll]
  | [], _ :: _ => by simp [PyData.eqvAll]
  | _ :: _, [] => by simp [PyData.eqvAll]
  | n :: ns, m :: ms => by
    simp only [List.map_cons, PyData.eqvAll, PyData.eqv, eqvAll_ints ns ms]
    rw [List.cons_beq_cons]
theorem pys_len : ∀ xs : List D, (pys xs).length = xs.length
  | [] => rfl
  | x :: xs => by simp [pys, pys_len xs]
theorem pys_map : ∀ xs : List D, pys xs = xs.map D.py
  | [] => rfl
  | x :: xs => by simp [pys, pys_map xs]
mutual
theorem eqv_py : ∀ (n m : Nat) (d e : D), d.fit n = true → e.fit m = true → PyData.eqv d.py e.py = d.eqv e
  | n, m, .non, e, _, he => by cases e <;> first | (simp [D.py, PyData.eqv, D.eqv]; done) | (cases m <;> simp [D.fit] at he; done)
  | n, m, .bl a, e, _, he => by cases e <;> first | (simp [D.py, PyData.eqv, D.eqv]; done) | (cases m <;> simp [D.fit] at he; done)
  | n, m, .int a, e, _, he => by cases e <;> first | (simp [D.py, PyData.eqv, D.eqv]; done) | (cases m <;> simp [D.fit] at he; done)
  | n, m, .str a, e, _, he => by cases e <;> first | (simp [D.py, PyData.eqv, D.eqv]; done) | (cases m <;> simp [D.fit] at he; done)
  | n, m, .sc ns, e, hd, he => by
    cases e with
    | sc ms => simp only [D.py, PyData.eqv, D.eqv]; exact eqvAll_ints ns ms
    | lst o ys =>
      cases m with
      | zero => simp [D.fit] at he
      | succ m => simp only [D.py, PyData.eqv, D.eqv]; exact eqvI_py m ns ys (by simpa [D.fit] using he)
    | _ => first | (simp [D.py, PyData.eqv, D.eqv]; done) | (cases m <;> simp [D.fit] at he; done)
  | n, m, .lst o xs, e, hd, he => by
    cases n with
    | zero => simp [D.fit] at hd
    | succ n =>
      cases e with
      | sc ms => simp only [D.py, PyData.eqv, D.eqv]; exact eqvJ_py n xs ms (by simpa [D.fit] using hd)
      | lst o ys =>
        cases m with
        | zero => simp [D.fit] at he
        | succ m => simp only [D.py, PyData.eqv, D.eqv]; exact eqvs_py n m xs ys (by simpa [D.fit] using hd) (by simpa [D.fit] using he)
      | _ => first | (simp [D.py, PyData.eqv, D.eqv]; done) | (cases m <;> simp [D.fit] at he; done)
  | n, m, .tup xs, e, hd, he => by
    cases n with
    | zero => simp [D.fit] at hd
    | succ n =>
      cases e with
      | tup ys =>
        cases m with
        | zero => simp [D.fit] at he
        | succ m => simp only [D.py, PyData.eqv, D.eqv]; exact eqvs_py n m xs ys (by simpa [D.fit] using hd) (by simpa [D.fit] using he)
      | _ => first | (simp [D.py, PyData.eqv, D.eqv]; done) | (cases m <;> simp [D.fit] at he; done)
  | n, m, .dic _ _ _, e, hd, he => by cases n <;> simp [D.fit] at hd
  | n, m, .dik _ _ _, e, hd, he => by cases n <;> simp [D.fit] at hd
  | n, m, .ins _ _ _ _, e, hd, he => by cases n <;> simp [D.fit] at hd
  | n, m, .fn _, e, hd, he => by cases n <;> simp [D.fit] at hd
theorem eqvs_py : ∀ (n m : Nat) (xs ys : List D), fits n xs = true → fits m ys = true → PyData.eqvAll (pys xs) (pys ys) = eqvs xs ys
  | n, m, [], [], _, _ => by simp [pys, PyData.eqvAll, eqvs]
  | n, m, [], _ :: _, _, _ => by simp [pys, PyData.eqvAll, eqvs]
  | n, m, _ :: _, [], _, _ => by simp [pys, PyData.eqvAll, eqvs]
  | n, m, x :: xs, y :: ys, hx, hy => by
    simp only [fits, Bool.and_eq_true] at hx hy
    simp only [pys, PyData.eqvAll, eqvs]
    rw [eqv_py n m x y hx.1 hy.1, eqvs_py n m xs ys hx.2 hy.2]
theorem eqvI_py : ∀ (m : Nat) (ns : List Int) (ys : List D), fits m ys = true → PyData.eqvAll (ns.map PyData.int) (pys ys) = eqvI ns ys
  | m, [], [], _ => by simp [pys, PyData.eqvAll, eqvI]
  | m, [], _ :: _, _ => by simp [pys, PyData.eqvAll, eqvI]
  | m, _ :: _, [], _ => by simp [pys, PyData.eqvAll, eqvI]
  | m, n :: ns, y :: ys, hy => by
    simp only [fits, Bool.and_eq_true] at hy
    have ih := eqvI_py m ns ys hy.2
    have hy1 := hy.1
    cases y <;> first | (cases m <;> simp [D.fit] at hy1; done) | (simp only [List.map_cons, pys, PyData.eqvAll, D.py, PyData.eqv, eqvI, ih, Bool.false_and]; done)
theorem eqvJ_py : ∀ (m : Nat) (ys : List D) (ns : List Int), fits m ys = true → PyData.eqvAll (pys ys) (ns.map PyData.int) = eqvJ ys ns
  | m, [], [], _ => by simp [pys, PyData.eqvAll, eqvJ]
  | m, _ :: _, [], _ => by simp [pys, PyData.eqvAll, eqvJ]
  | m, [], _ :: _, _ => by simp [pys, PyData.eqvAll, eqvJ]
  | m, y :: ys, n :: ns, hy => by
    simp only [fits, Bool.and_eq_true] at hy
    have ih := eqvJ_py m ys ns hy.2
    have hy1 := hy.1
    cases y <;> first | (cases m <;> simp [D.fit] at hy1; done) | (simp only [List.map_cons, pys, PyData.eqvAll, D.py, PyData.eqv, eqvJ, ih, Bool.false_and]; done)
end
theorem lay_ints : ∀ ns : List Int, PyData.canLayAll0 (ns.map PyData.int) = true
  | [] => rfl
  | n :: ns => by simp [PyData.canLayAll0, PyData.canLay0, lay_ints ns]
theorem depth_ints : ∀ ns : List Int, PyData.depthAll (ns.map PyData.int) = 0
  | [] => rfl
  | n :: ns => by simp [PyData.depthAll, PyData.depth, depth_ints ns]
mutual
theorem fit_py : ∀ (n : Nat) (d : D), d.fit n = true → d.py.canLay0 = true ∧ d.py.depth ≤ n
  | n, .non, _ => by simp [D.py, PyData.canLay0, PyData.depth]
  | n, .bl _, _ => by simp [D.py, PyData.canLay0, PyData.depth]
  | n, .int _, _ => by simp [D.py, PyData.canLay0, PyData.depth]
  | n, .str s, h => by
    refine ⟨?_, by simp [D.py, PyData.depth]⟩
    simp only [D.py, PyData.canLay0]
    cases n <;> simpa [D.fit] using h
  | 0, .sc _, h => by simp [D.fit] at h
  | n + 1, .sc ns, _ => by simp [D.py, PyData.canLay0, PyData.depth, lay_ints, depth_ints]
  | 0, .lst _ _, h => by simp [D.fit] at h
  | n + 1, .lst _ xs, h => by
    obtain ⟨a, b⟩ := fits_py n xs (by simpa [D.fit] using h)
    simp only [D.py, PyData.canLay0, PyData.depth]
    exact ⟨a, by omega⟩
  | 0, .tup _, h => by simp [D.fit] at h
  | n + 1, .tup xs, h => by
    obtain ⟨a, b⟩ := fits_py n xs (by simpa [D.fit] using h)
    simp only [D.py, PyData.canLay0, PyData.depth]
    exact ⟨a, by omega⟩
  | n, .dic _ _ _, hd => by cases n <;> simp [D.fit] at hd
  | n, .dik _ _ _, hd => by cases n <;> simp [D.fit] at hd
  | n, .ins _ _ _ _, hd => by cases n <;> simp [D.fit] at hd
  | n, .fn _, hd => by cases n <;> simp [D.fit] at hd
theorem fits_py : ∀ (n : Nat) (xs : List D), fits n xs = true → PyData.canLayAll0 (pys xs) = true ∧ PyData.depthAll (pys xs) ≤ n
  | n, [], _ => by simp [pys, PyData.canLayAll0, PyData.depthAll]
  | n, x :: xs, h => by
    simp only [fits, Bool.and_eq_true] at h
    obtain ⟨a1, a2⟩ := fit_py n x h.1
    obtain ⟨b1, b2⟩ := fits_py n xs h.2
    simp only [pys, PyData.canLayAll0, PyData.depthAll, a1, b1, Bool.and_self, true_and]
    exact Nat.max_le.mpr ⟨a2, b2⟩
end
theorem fit_shaped {d : D} (h : d.fit 8 = true) : SeqAt.shaped d.py = true := by
  obtain ⟨a, b⟩ := fit_py 8 d h
  unfold SeqAt.shaped
  rw [a, Bool.true_and]
  exact decide_eq_true (by omega)
mutual
theorem RV.dp {K : PySem.W.Frag} {mg : Str → Option Value} {H : Hp} : ∀ (n : Nat) {v : V} {d : D} {F : List Addr}, F = [] → d.fit n = true → RV K mg H H v d F → Dp K H v d.py
  | _, _, _, _, _, _, .non => .non
  | _, _, _, _, _, _, .bl b => .bl b
  | _, _, _, _, _, _, .int i => .int i
  | _, _, _, _, _, _, .str x => .str x
  | _, _, _, _, _, _, .sc (ns := ns) h => .lst h (dp_ints ns)
  | 0, _, _, _, _, h, .ls _ _ => by simp [D.fit] at h
  | n + 1, _, .lst _ xs, _, e, h, .ls hs r => by
    simp only [D.py]
    exact .lst (SqL.of hs) (RVs.dp n e (by simpa [D.fit] using h) r)
  | _, _, _, _, e, _, .lo _ _ => by cases e
  | 0, _, _, _, _, h, .tp _ _ => by simp [D.fit] at h
  | n + 1, _, .tup xs, _, e, h, .tp hs r => by
    simp only [D.py]
    exact .tup hs (RVs.dp n e (by simpa [D.fit] using h) r)
  | n, _, _, _, _, h, .ds _ _ _ => by cases n <;> simp [D.fit] at h
  | n, _, _, _, _, h, .dd _ _ _ => by cases n <;> simp [D.fit] at h
  | n, _, _, _, _, h, .ks _ _ _ => by cases n <;> simp [D.fit] at h
  | n, _, _, _, _, h, .ko _ _ _ => by cases n <;> simp [D.fit] at h
  | n, _, _, _, _, h, .is _ _ _ _ => by cases n <;> simp [D.fit] at h
  | n, _, _, _, _, h, .io _ _ _ _ => by cases n <;> simp [D.fit] at h
  | n, _, _, _, _, h, .fn _ => by cases n <;> simp [D.fit] at h
theorem RVs.dp {K : PySem.W.Frag} {mg : Str → Option Value} {H : Hp} : ∀ (n : Nat) {vs : List V} {ds : List D} {F : List Addr}, F = [] → fits n ds = true → RVs K mg H H vs ds F → DpAll K H vs (pys ds)
  | _, _, _, _, _, _, .nil => .nil
  | n, _, d :: ds, _, e, h, .cons r t => by
    obtain ⟨e1, e2⟩ := List.append_eq_nil_iff.mp e
    simp only [fits, Bool.and_eq_true] at h
    simp only [pys]
    exact .cons (RV.dp n e1 h.1 r) (RVs.dp n e2 h.2 t)
theorem dp_ints {K : PySem.W.Frag} {H : Hp} : ∀ ns : List Int, DpAll K H (ns.map V.int) (ns.map PyData.int)
  | [] => .nil
  | n :: ns => .cons (.int n) (dp_ints ns)
end
end Ly

set_option Elab.async false
set_option linter.all false
set_option maxRecDepth 100000
/-! Ly, part H: the operators' and built-ins' worth. -/
namespace Ly
open PySem PySem.Spec L2
/-! ### order of data -/
mutual
def D.alike : D → D → Bool
  | .bl _, .bl _ => true
  | .int _, .int _ => true
  | .str _, .str _ => true
  | .lst _ xs, .lst _ ys => alikes xs ys
  | .tup xs, .tup ys => alikes xs ys
  | _, _ => false
def alikes : List D → List D → Bool
  | [], _ => true
  | _ :: _, [] => true
  | x :: xs, y :: ys => D.alike x y && alikes xs ys
end
mutual
def D.lt : D → D → Bool
  | .bl a, .bl b => !a && b
  | .int i, .int j => decide (i < j)
  | .str x, .str y => decide (x.cps.toList < y.cps.toList)
  | .lst _ xs, .lst _ ys => lts xs ys
  | .tup xs, .tup ys => lts xs ys
  | _, _ => false
def lts : List D → List D → Bool
  | [], [] => false
  | [], _ :: _ => true
  | _ :: _, [] => false
  | x :: xs, y :: ys => if D.eqv x y = true then lts xs ys else D.lt x y
end
mutual
theorem alike_py : ∀ d e : D, d.alike e = true → PySem.W.alike d.py e.py = true
  | .bl a, e, h => by cases e <;> simp [D.alike] at h; simp [D.py, PySem.W.alike]
  | .int a, e, h => by cases e <;> simp [D.alike] at h; simp [D.py, PySem.W.alike]
  | .str a, e, h => by cases e <;> simp [D.alike] at h; simp [D.py, PySem.W.alike]
  | .lst o xs, e, h => by
    cases e <;> simp [D.alike] at h
    simp only [D.py, PySem.W.alike]
    exact alikes_py _ _ h
  | .tup xs, e, h => by
    cases e <;> simp [D.alike] at h
    simp only [D.py, PySem.W.alike]
    exact alikes_py _ _ h
  | .non, e, h => by cases e <;> simp [D.alike] at h
  | .sc _, e, h => by cases e <;> simp [D.alike] at h
  | .dic _ _ _, e, h => by cases e <;> simp [D.alike] at h
  | .dik _ _ _, e, h => by cases e <;> simp [D.alike] at h
  | .ins _ _ _ _, e, h => by cases e <;> simp [D.alike] at h
  | .fn _, e, h => by cases e <;> simp [D.alike] at h
theorem alikes_py : ∀ xs ys : List D, alikes xs ys = true → PySem.W.alikeAll (pys xs) (pys ys) = true
  | [], ys, _ => by cases ys <;> simp [pys, PySem.W.alikeAll]
  | _ :: _, [], _ => by simp [pys, PySem.W.alikeAll]
  | x :: xs, y :: ys, h => by
    simp only [alikes, Bool.and_eq_true] at h
    simp only [pys, PySem.W.alikeAll, alike_py x y h.1, alikes_py xs ys h.2, Bool.and_self]
end
theorem alike_some {d e : D} (h : d.alike e = true) : d.py ≠ .none := by
  cases d <;> cases e <;> simp [D.alike] at h <;> simp [D.py]
mutual
theorem lt_py : ∀ (n m : Nat) (d e : D), d.fit n = true → e.fit m = true → d.alike e = true → PySem.W.dataLt d.py e.py = d.lt e
  | n, m, .bl a, e, _, _, h => by
    cases e with
    | bl b =>
      simp only [D.py, D.lt]
      rw [PySem.W.dataLt_bool]
      cases a <;> cases b <;> rfl
    | _ => simp [D.alike] at h
  | n, m, .int a, e, _, _, h => by
    cases e <;> simp [D.alike] at h
    simp only [D.py, D.lt]
    exact PySem.W.dataLt_int _ _
  | n, m, .str a, e, _, _, h => by
    cases e <;> simp [D.alike] at h
    simp only [D.py, D.lt]
    exact PySem.W.dataLt_str _ _
  | n, m, .lst o xs, e, hd, he, h => by
    cases e <;> simp [D.alike] at h
    rename_i o2 ys
    cases n with
    | zero => simp [D.fit] at hd
    | succ n =>
      cases m with
      | zero => simp [D.fit] at he
      | succ m =>
        simp only [D.py, D.lt]
        rw [PySem.W.dataLt_list]
        exact lts_py n m xs ys (by simpa [D.fit] using hd) (by simpa [D.fit] using he) h
  | n, m, .tup xs, e, hd, he, h => by
    cases e <;> simp [D.alike] at h
    rename_i ys
    cases n with
    | zero => simp [D.fit] at hd
    | succ n =>
      cases m with
      | zero => simp [D.fit] at he
      | succ m =>
        simp only [D.py, D.lt]
        rw [PySem.W.dataLt_tuple]
        exact lts_py n m xs ys (by simpa [D.fit] using hd) (by simpa [D.fit] using he) h
  | n, m, .non, e, _, _, h => by cases e <;> simp [D.alike] at h
  | n, m, .sc _, e, _, _, h => by cases e <;> simp [D.alike] at h
  | n, m, .dic _ _ _, e, _, _, h => by cases e <;> simp [D.alike] at h
  | n, m, .dik _ _ _, e, _, _, h => by cases e <;> simp [D.alike] at h
  | n, m, .ins _ _ _ _, e, _, _, h => by cases e <;> simp [D.alike] at h
  | n, m, .fn _, e, _, _, h => by cases e <;> simp [D.alike] at h
theorem lts_py : ∀ (n m : Nat) (xs ys : List D), fits n xs = true → fits m ys = true → alikes xs ys = true → PyProof.Rows.lexLt PyProof.Rows.itemOrd (PySem.W.keyToksAll (pys xs)) (PySem.W.keyToksAll (pys ys)) = lts xs ys
  | n, m, [], [], _, _, _ => PyProof.Rows.lex_irrefl _
  | n, m, [], y :: ys, _, _, _ => by
    simp only [pys, PySem.W.keyToksAll, lts]
    rw [PyProof.Rows.lex_diff (O := PyProof.Rows.itemOrd) (by simp)]
    rfl
  | n, m, x :: xs, [], _, _, _ => by
    simp only [pys, PySem.W.keyToksAll, lts]
    rw [PyProof.Rows.lex_diff (O := PyProof.Rows.itemOrd) (by simp)]
    rfl
  | n, m, x :: xs, y :: ys, hx, hy, h => by
    simp only [fits, Bool.and_eq_true] at hx hy
    simp only [alikes, Bool.and_eq_true] at h
    have e := eqv_py n m x y hx.1 hy.1
    have a := alike_py x y h.1
    simp only [pys, lts]
    cases q : D.eqv x y with
    | true =>
      rw [if_pos rfl, PySem.W.dataLt_all_yes a (by rw [e, q])]
      exact lts_py n m xs ys hx.2 hy.2 h.2
    | false =>
      rw [if_neg Bool.false_ne_true, PySem.W.dataLt_all_no a (by rw [e, q])]
      exact lt_py n m x y hx.1 hy.1 h.1
end
section
variable {X : Cx}
theorem depth64 {d : PyData} {n u : Nat} (h : d.depth ≤ n) (hn : n ≤ 64) (hu : u + 64 < cLine) {e : PyData} : u + min d.depth e.depth < cLine := by
  have := Nat.min_le_left d.depth e.depth
  omega
def rCmpD (K : PySem.W.Frag) (k : PyData → PyData → Bool) : R2 := fun x y H Q => ∃ d e, Dp K H x d ∧ Dp K H y e ∧ PySem.W.alike d e = true ∧ d ≠ .none ∧ d.depth ≤ 64 ∧ Q (.bl (k d e)) H
theorem op_ltD (hu : X.A.units + 64 < cLine) : OpR X (compareOp .Lt) (rCmpD X.K PySem.W.dataLt) := by
  intro pins s σ H x y v u Q I rx ry h
  obtain ⟨d, e, hd, he, ha, hn, h64, q⟩ := h
  obtain ⟨as, r1⟩ := Dp.reads I d x v hd rx
  obtain ⟨bs, r2⟩ := Dp.reads I e y u he ry
  exact PySem.W.lt_data r1 r2 ha hn (depth64 h64 (Nat.le_refl _) hu) ⟨.bl _, H, I, rfl, q⟩
theorem op_gtD (hu : X.A.units + 64 < cLine) : OpR X (compareOp .Gt) (rCmpD X.K fun d e => PySem.W.dataLt e d) := by
  intro pins s σ H x y v u Q I rx ry h
  obtain ⟨d, e, hd, he, ha, hn, h64, q⟩ := h
  obtain ⟨as, r1⟩ := Dp.reads I d x v hd rx
  obtain ⟨bs, r2⟩ := Dp.reads I e y u he ry
  exact PySem.W.gt_data r1 r2 ha hn (depth64 h64 (Nat.le_refl _) hu) ⟨.bl _, H, I, rfl, q⟩
theorem op_leD (hu : X.A.units + 64 < cLine) : OpR X (compareOp .LtE) (rCmpD X.K fun d e => !PySem.W.dataLt e d) := by
  intro pins s σ H x y v u Q I rx ry h
  obtain ⟨d, e, hd, he, ha, hn, h64, q⟩ := h
  obtain ⟨as, r1⟩ := Dp.reads I d x v hd rx
  obtain ⟨bs, r2⟩ := Dp.reads I e y u he ry
  exact PySem.W.le_data r1 r2 ha hn (depth64 h64 (Nat.le_refl _) hu) ⟨.bl _, H, I, rfl, q⟩
theorem op_geD (hu : X.A.units + 64 < cLine) : OpR X (compareOp .GtE) (rCmpD X.K fun d e => !PySem.W.dataLt d e) := by
  intro pins s σ H x y v u Q I rx ry h
  obtain ⟨d, e, hd, he, ha, hn, h64, q⟩ := h
  obtain ⟨as, r1⟩ := Dp.reads I d x v hd rx
  obtain ⟨bs, r2⟩ := Dp.reads I e y u he ry
  exact PySem.W.ge_data r1 r2 ha hn (depth64 h64 (Nat.le_refl _) hu) ⟨.bl _, H, I, rfl, q⟩
/-- a comparison of data; whole numbers first -/
def gCmp (f : Int → Int → Bool) (k : D → D → Bool) : D → D → Option D
  | .int i, .int j => some (.bl (f i j))
  | d, e => if (d.fit 8 && e.fit 8 && d.alike e && e.alike d) = true then some (.bl (k d e)) else none
def gLt : D → D → Option D := gCmp (fun i j => decide (i < j)) fun d e => d.lt e
def gGt : D → D → Option D := gCmp (fun i j => decide (j < i)) fun d e => e.lt d
def gLe : D → D → Option D := gCmp (fun i j => decide (i ≤ j)) fun d e => !e.lt d
def gGe : D → D → Option D := gCmp (fun i j => decide (j ≤ i)) fun d e => !d.lt e
theorem og_cmp {f : Int → Int → Bool} {k : D → D → Bool} {kp : PyData → PyData → Bool} (hk : ∀ d e : D, d.fit 8 = true → e.fit 8 = true → d.alike e = true → e.alike d = true → kp d.py e.py = k d e) :
    OpG X (gCmp f k) (fun x y H Q => (rI0 fun i j => .bl (f i j)) x y H Q ∨ rCmpD X.K kp x y H Q) := by
  intro H x y d e z Q rx ry hg hq
  unfold gCmp at hg
  split at hg
  · cases hg
    exact .inl ⟨_, _, rx.int_inv, ry.int_inv, hq _ (.bl _)⟩
  · split at hg
    · rename_i h
      simp only [Bool.and_eq_true] at h
      obtain ⟨⟨⟨h1, h2⟩, h3⟩, h4⟩ := h
      cases hg
      refine .inr ⟨d.py, e.py, rx.dp 8 rfl h1, ry.dp 8 rfl h2, alike_py d e h3, alike_some h3, Nat.le_trans (fit_py 8 d h1).2 (by decide), ?_⟩
      rw [hk d e h1 h2 h3 h4]
      exact hq _ (.bl _)
    · cases hg
theorem og_lt : OpG X gLt (fun x y H Q => (rI0 fun i j => .bl (decide (i < j))) x y H Q ∨ rCmpD X.K PySem.W.dataLt x y H Q) := og_cmp fun d e h1 h2 h3 _ => lt_py 8 8 d e h1 h2 h3
theorem og_gt : OpG X gGt (fun x y H Q => (rI0 fun i j => .bl (decide (j < i))) x y H Q ∨ rCmpD X.K (fun d e => PySem.W.dataLt e d) x y H Q) := og_cmp fun d e h1 h2 _ h4 => lt_py 8 8 e d h2 h1 h4
theorem og_le : OpG X gLe (fun x y H Q => (rI0 fun i j => .bl (decide (i ≤ j))) x y H Q ∨ rCmpD X.K (fun d e => !PySem.W.dataLt e d) x y H Q) := og_cmp fun d e h1 h2 _ h4 => by rw [lt_py 8 8 e d h2 h1 h4]
theorem og_ge : OpG X gGe (fun x y H Q => (rI0 fun i j => .bl (decide (j ≤ i))) x y H Q ∨ rCmpD X.K (fun d e => !PySem.W.dataLt d e) x y H Q) := og_cmp fun d e h1 h2 h3 _ => by rw [lt_py 8 8 d e h1 h2 h3]
theorem oLt (hu : X.A.units + 64 < cLine) : OpR X (compareOp .Lt) (fun x y H Q => (rI0 fun i j => .bl (decide (i < j))) x y H Q ∨ rCmpD X.K PySem.W.dataLt x y H Q) := op_lt.or (op_ltD hu)
theorem oGt (hu : X.A.units + 64 < cLine) : OpR X (compareOp .Gt) (fun x y H Q => (rI0 fun i j => .bl (decide (j < i))) x y H Q ∨ rCmpD X.K (fun d e => PySem.W.dataLt e d) x y H Q) := op_gt.or (op_gtD hu)
theorem oLe (hu : X.A.units + 64 < cLine) : OpR X (compareOp .LtE) (fun x y H Q => (rI0 fun i j => .bl (decide (i ≤ j))) x y H Q ∨ rCmpD X.K (fun d e => !PySem.W.dataLt e d) x y H Q) := op_le.or (op_leD hu)
theorem oGe (hu : X.A.units + 64 < cLine) : OpR X (compareOp .GtE) (fun x y H Q => (rI0 fun i j => .bl (decide (j ≤ i))) x y H Q ∨ rCmpD X.K (fun d e => !PySem.W.dataLt d e) x y H Q) := op_ge.or (op_geD hu)
/-! ### == -/
def gEq (d e : D) : Option D := if (d.fit 8 && e.fit 8) = true then some (.bl (d.eqv e)) else none
def gNe (d e : D) : Option D := if (d.fit 8 && e.fit 8) = true then some (.bl (!d.eqv e)) else none
theorem og_eq : OpG X gEq (rEqD X.K) := by
  intro H x y d e z Q rx ry hg hq
  unfold gEq at hg
  split at hg
  · rename_i h
    rw [Bool.and_eq_true] at h
    cases hg
    refine ⟨d.py, e.py, rx.dp 8 rfl h.1, ry.dp 8 rfl h.2, fit_shaped h.1, fit_shaped h.2, ?_⟩
    rw [eqv_py 8 8 d e h.1 h.2]
    exact hq _ (.bl _)
  · cases hg
theorem og_ne : OpG X gNe (rNeD X.K) := by
  intro H x y d e z Q rx ry hg hq
  unfold gNe at hg
  split at hg
  · rename_i h
    rw [Bool.and_eq_true] at h
    cases hg
    refine ⟨d.py, e.py, rx.dp 8 rfl h.1, ry.dp 8 rfl h.2, fit_shaped h.1, fit_shaped h.2, ?_⟩
    rw [eqv_py 8 8 d e h.1 h.2]
    exact hq _ (.bl _)
  · cases hg
/-! ### in, not in -/
def rInT (K : PySem.W.Frag) : R2 := fun x y H Q => ∃ d ds, Dp K H x d ∧ Dp K H y (.tuple ds) ∧ SeqAt.shaped d = true ∧ SeqAt.shaped (.tuple ds) = true ∧ Q (.bl (ds.any fun z => PyData.eqv z d)) H
def rNotInT (K : PySem.W.Frag) : R2 := fun x y H Q => ∃ d ds, Dp K H x d ∧ Dp K H y (.tuple ds) ∧ SeqAt.shaped d = true ∧ SeqAt.shaped (.tuple ds) = true ∧ Q (.bl (!ds.any fun z => PyData.eqv z d)) H
theorem op_inT (hu : X.A.units + 65 < cLine) : OpR X (compareOp .In) (rInT X.K) := by
  intro pins s σ H x y v u Q I rx ry h
  obtain ⟨d, ds, hd, he, sd, se, q⟩ := h
  obtain ⟨as, r1⟩ := Dp.reads I d x v hd rx
  obtain ⟨bs, r2⟩ := Dp.reads I (.tuple ds) y u he ry
  exact SeqAt.in_tuple_reads r2 r1 (SeqAt.canLay_of_shaped se) (SeqAt.canLay_of_shaped sd) (PyProof.Rows.room_in_shaped sd hu) ⟨.bl _, H, I, rfl, q⟩
theorem op_notInT (hu : X.A.units + 65 < cLine) : OpR X (compareOp .NotIn) (rNotInT X.K) := by
  intro pins s σ H x y v u Q I rx ry h
  obtain ⟨d, ds, hd, he, sd, se, q⟩ := h
  obtain ⟨as, r1⟩ := Dp.reads I d x v hd rx
  obtain ⟨bs, r2⟩ := Dp.reads I (.tuple ds) y u he ry
  exact SeqAt.notIn_tuple_reads r2 r1 (SeqAt.canLay_of_shaped se) (SeqAt.canLay_of_shaped sd) (PyProof.Rows.room_in_shaped sd hu) ⟨.bl _, H, I, rfl, q⟩
/-- whether d is among them -/
def isIn (d : D) : List D → Bool
  | [] => false
  | x :: xs => x.eqv d || isIn d xs
theorem isIn_any {d : D} {n : Nat} (hd : d.fit 8 = true) : ∀ xs : List D, fits n xs = true → (pys xs).any (fun z => PyData.eqv z d.py) = isIn d xs
  | [], _ => rfl
  | x :: xs, h => by
    simp only [fits, Bool.and_eq_true] at h
    simp only [pys, List.any_cons, isIn, eqv_py n 8 x d h.1 hd, isIn_any hd xs h.2]
def gInK (neg : Bool) (d c : D) : Option D := match c with
  | .lst _ xs => if (d.fit 8 && fits 7 xs) = true then some (.bl (neg ^^ isIn d xs)) else none
  | .tup xs => if (d.fit 8 && fits 7 xs) = true then some (.bl (neg ^^ isIn d xs)) else none
  | _ => none
def gIn : D → D → Option D := gInK false
def gNotIn : D → D → Option D := gInK true
theorem og_in : OpG X gIn (fun x y H Q => rInD X.K x y H Q ∨ rInT X.K x y H Q) := by
  intro H x y d e z Q rx ry hg hq
  unfold gIn gInK at hg
  split at hg
  · split at hg
    · rename_i o xs h
      rw [Bool.and_eq_true] at h
      cases hg
      have h2 : (D.lst o xs).fit 8 = true := by simpa [D.fit] using h.2
      refine .inl ⟨d.py, pys xs, rx.dp 8 rfl h.1, by simpa [D.py] using ry.dp 8 rfl h2, fit_shaped h.1, by simpa [D.py] using fit_shaped h2, ?_⟩
      rw [isIn_any h.1 xs h.2]
      have q := hq _ (.bl _)
      rw [Bool.false_xor] at q
      exact q
    · cases hg
  · split at hg
    · rename_i xs h
      rw [Bool.and_eq_true] at h
      cases hg
      have h2 : (D.tup xs).fit 8 = true := by simpa [D.fit] using h.2
      refine .inr ⟨d.py, pys xs, rx.dp 8 rfl h.1, by simpa [D.py] using ry.dp 8 rfl h2, fit_shaped h.1, by simpa [D.py] using fit_shaped h2, ?_⟩
      rw [isIn_any h.1 xs h.2]
      have q := hq _ (.bl _)
      rw [Bool.false_xor] at q
      exact q
    · cases hg
  · cases hg
theorem og_notIn : OpG X gNotIn (fun x y H Q => rNotInD X.K x y H Q ∨ rNotInT X.K x y H Q) := by
  intro H x y d e z Q rx ry hg hq
  unfold gNotIn gInK at hg
  split at hg
  · split at hg
    · rename_i o xs h
      rw [Bool.and_eq_true] at h
      cases hg
      have h2 : (D.lst o xs).fit 8 = true := by simpa [D.fit] using h.2
      refine .inl ⟨d.py, pys xs, rx.dp 8 rfl h.1, by simpa [D.py] using ry.dp 8 rfl h2, fit_shaped h.1, by simpa [D.py] using fit_shaped h2, ?_⟩
      rw [isIn_any h.1 xs h.2]
      have q := hq _ (.bl _)
      rw [Bool.true_xor] at q
      exact q
    · cases hg
  · split at hg
    · rename_i xs h
      rw [Bool.and_eq_true] at h
      cases hg
      have h2 : (D.tup xs).fit 8 = true := by simpa [D.fit] using h.2
      refine .inr ⟨d.py, pys xs, rx.dp 8 rfl h.1, by simpa [D.py] using ry.dp 8 rfl h2, fit_shaped h.1, by simpa [D.py] using fit_shaped h2, ?_⟩
      rw [isIn_any h.1 xs h.2]
      have q := hq _ (.bl _)
      rw [Bool.true_xor] at q
      exact q
    · cases hg
  · cases hg
theorem oIn (hu : X.A.units + 65 < cLine) : OpR X (compareOp .In) (fun x y H Q => rInD X.K x y H Q ∨ rInT X.K x y H Q) := (op_inD hu).or (op_inT hu)
theorem oNotIn (hu : X.A.units + 65 < cLine) : OpR X (compareOp .NotIn) (fun x y H Q => rNotInD X.K x y H Q ∨ rNotInT X.K x y H Q) := (op_notInD hu).or (op_notInT hu)
/-! ### arithmetic -/
def gAdd : D → D → Option D
  | .int i, .int j => some (.int (i + j))
  | .str a, .str b => if a.length + b.length ≤ big then some (.str (a ++ b)) else none
  | _, _ => none
theorem oAdd : OpR X (binaryOp .Add) (fun x y H Q => (rI0 fun i j => .int (i + j)) x y H Q ∨ (∃ i j, x = .str i ∧ y = .str j ∧ i.length + j.length ≤ sizeLine ∧ Q (.str (i ++ j)) H)) := op_add.or op_add_str
theorem og_add : OpG X gAdd (fun x y H Q => (rI0 fun i j => .int (i + j)) x y H Q ∨ (∃ i j, x = .str i ∧ y = .str j ∧ i.length + j.length ≤ sizeLine ∧ Q (.str (i ++ j)) H)) := by
  intro H x y d e z Q rx ry hg hq
  unfold gAdd at hg
  split at hg
  · cases hg
    exact .inl ⟨_, _, rx.int_inv, ry.int_inv, hq _ (.int _)⟩
  · split at hg
    · rename_i h
      cases hg
      exact .inr ⟨_, _, rx.str_inv, ry.str_inv, by rw [← big_eq]; exact h, hq _ (.str _)⟩
    · cases hg
  · cases hg
def gI (C : Int → Int → Bool) (f : Int → Int → Int) : D → D → Option D
  | .int i, .int j => if C i j = true then some (.int (f i j)) else none
  | _, _ => none
theorem og_I0 {f : Int → Int → Int} : OpG X (gI (fun _ _ => true) f) (rI0 fun i j => .int (f i j)) := by
  intro H x y d e z Q rx ry hg hq
  unfold gI at hg
  split at hg
  · rw [if_pos rfl] at hg
    cases hg
    exact ⟨_, _, rx.int_inv, ry.int_inv, hq _ (.int _)⟩
  · cases hg
theorem og_I {C : Int → Int → Bool} {P : Int → Int → Prop} {f : Int → Int → Int} (hC : ∀ i j, C i j = true → P i j) : OpG X (gI C f) (rI P fun i j => .int (f i j)) := by
  intro H x y d e z Q rx ry hg hq
  unfold gI at hg
  split at hg
  · split at hg
    · rename_i h
      cases hg
      exact ⟨_, _, rx.int_inv, ry.int_inv, hC _ _ h, hq _ (.int _)⟩
    · cases hg
  · cases hg
def gMinus : D → D → Option D := gI (fun _ _ => true) fun i j => i - j
theorem og_sub : OpG X gMinus (rI0 fun i j => .int (i - j)) := og_I0
def cMul (i j : Int) : Bool := (decide (-(2 ^ 64) < i) && decide (i < 2 ^ 64)) || (decide (-(2 ^ 64) < j) && decide (j < 2 ^ 64))
def gMul : D → D → Option D := gI cMul fun i j => i * j
theorem og_mul : OpG X gMul (rI CMul fun i j => .int (i * j)) := og_I fun i j h => by
  unfold cMul at h
  simp only [Bool.or_eq_true, Bool.and_eq_true, decide_eq_true_eq] at h
  exact h
def gMod : D → D → Option D := gI (fun _ j => decide (0 < j)) fun i j => i % j
theorem og_mod : OpG X gMod (rI (fun _ j => 0 < j) fun i j => .int (i % j)) := og_I fun i j h => of_decide_eq_true h
def gDiv : D → D → Option D := gI (fun _ j => decide (0 < j) && decide (j < 1073741824)) fun i j => i / j
theorem og_div : OpG X gDiv (rI CDiv fun i j => .int (i / j)) := og_I fun i j h => by
  simp only [Bool.and_eq_true, decide_eq_true_eq] at h
  exact h
def cPow (i j : Int) : Bool := decide (0 ≤ j) && decide (j ≤ 1000000) && decide (i.natAbs < 2 ^ 64)
def gPow : D → D → Option D := gI cPow fun i j => i ^ j.toNat
theorem og_pow : OpG X gPow (rI CPow fun i j => .int (i ^ j.toNat)) := og_I fun i j h => by
  unfold cPow at h
  simp only [Bool.and_eq_true, decide_eq_true_eq] at h
  exact ⟨h.1.1, h.1.2, h.2⟩
def gShl : D → D → Option D := gI cPow fun i j => i * 2 ^ j.toNat
theorem og_shl : OpG X gShl (rI CPow fun i j => .int (i * 2 ^ j.toNat)) := og_I fun i j h => by
  unfold cPow at h
  simp only [Bool.and_eq_true, decide_eq_true_eq] at h
  exact ⟨h.1.1, h.1.2, h.2⟩
def gShr : D → D → Option D := gI (fun _ j => decide (0 ≤ j)) fun i j => i / 2 ^ j.toNat
theorem og_shr : OpG X gShr (rI (fun _ j => 0 ≤ j) fun i j => .int (i / 2 ^ j.toNat)) := og_I fun i j h => of_decide_eq_true h
def gAnd : D → D → Option D := gI (fun _ _ => true) fun i j => Builtin.bitAnd i j
theorem og_and : OpG X gAnd (rI0 fun i j => .int (Builtin.bitAnd i j)) := og_I0
/-- is, is not: of None, of truths -/
def D.isNon : D → Bool
  | .non => true
  | _ => false
def gIs (d e : D) : Option D := match d, e with
  | d, .non => some (.bl d.isNon)
  | .bl a, .bl b => some (.bl (a == b))
  | _, _ => none
def gIsNot (d e : D) : Option D := match d, e with
  | d, .non => some (.bl (!d.isNon))
  | .bl a, .bl b => some (.bl (!(a == b)))
  | _, _ => none
def rIs : R2 := fun x y H Q => (y = .non ∧ Q (.bl (decide (x = .non))) H) ∨ (∃ a b, x = .bl a ∧ y = .bl b ∧ Q (.bl (decide (a = b))) H)
def rIsNot : R2 := fun x y H Q => (y = .non ∧ Q (.bl (!decide (x = .non))) H) ∨ (∃ a b, x = .bl a ∧ y = .bl b ∧ Q (.bl (!decide (a = b))) H)
theorem oIs : OpR X (compareOp .Is) rIs := op_isN.or op_is_bl
theorem oIsNot : OpR X (compareOp .IsNot) rIsNot := op_notN.or op_isnot_bl
theorem RV.isNon {K : PySem.W.Frag} {mg : Str → Option Value} {B H : Hp} {v : V} {d : D} {F : List Addr} (r : RV K mg B H v d F) : decide (v = .non) = d.isNon := by
  cases r <;> rfl
theorem og_is : OpG X gIs rIs := by
  intro H x y d e z Q rx ry hg hq
  unfold gIs at hg
  split at hg
  · cases hg
    refine .inl ⟨ry.non_inv, ?_⟩
    rw [rx.isNon]
    exact hq _ (.bl _)
  · cases hg
    refine .inr ⟨_, _, rx.bl_inv, ry.bl_inv, ?_⟩
    rw [← Bool.beq_eq_decide_eq]
    exact hq _ (.bl _)
  · cases hg
theorem og_isNot : OpG X gIsNot rIsNot := by
  intro H x y d e z Q rx ry hg hq
  unfold gIsNot at hg
  split at hg
  · cases hg
    refine .inl ⟨ry.non_inv, ?_⟩
    rw [rx.isNon]
    exact hq _ (.bl _)
  · cases hg
    refine .inr ⟨_, _, rx.bl_inv, ry.bl_inv, ?_⟩
    rw [← Bool.beq_eq_decide_eq]
    exact hq _ (.bl _)
  · cases hg
end
end Ly

set_option Elab.async false
set_option linter.all false
set_option maxRecDepth 100000
/-! Ly, part I: built-ins, subscripts, statements, defs. -/
namespace Ly
open PySem PySem.Spec L2
theorem Room.u65 {k : Nat} {A : Around} (r : Room k A) : A.units + 65 < cLine := by have := r.un; omega
theorem Room.u1 {k : Nat} {A : Around} (r : Room k A) : A.units + 1 < cLine := by have := r.un; omega
section
variable {X : Cx} {W : WX} {e a b : Expr} {es : List Expr} {t ta tb : TE} {f fa fb : Dn D} {pos p : Pos} {x : Str}
/-! ### built-ins that make nothing -/
def CallG (X : Cx) (g : List D → Option D) (r : List V → Hp → VK → Prop) : Prop := ∀ (H : Hp) (vs : List V) (ds : List D) (z : D) (Q : VK), RVs X.K X.mg H H vs ds [] → g ds = some z → (∀ v, RV X.K X.mg H H v z [] → Q v H) → r vs H Q
def dCB (g : List D → Option D) (f : Dn (List D)) : Dn D := bnd f fun ds => lif (g ds)
theorem sv_cb {g : List D → Option D} {r : List V → Hp → VK → Prop} {tt : TA} {ff : Dn (List D)} (hg : CallG X g r) (h : SW X.K X.mg W tt ff) : SV X.K X.mg W (tCB r tt) (dCB g ff) := by
  intro G σ us H ρ τ Q rl hw
  refine h G σ us H ρ τ _ rl (wp_mono (wp_bnd hw) (fun ds ρ1 q vs H1 s1 r1 w1 => ?_) fun _ _ q => q)
  obtain ⟨z, h1, h2⟩ := wp_lif q
  exact hg H1 vs ds z Q w1 h1 fun v w => h2 v H1 s1 r1 w
theorem vx_cb {id : String} {g : List D → Option D} {r : List V → Hp → VK → Prop} {tt : TA} {ff : Dn (List D)} (hc : CallR X (.builtin id) r) (hg : CallG X g r) (hm : X.mg x = none) (hv : bootBuiltins x = some (.builtin id)) (ha : WA X W (e :: es) tt ff) (hgl : Gl X x := by rfl) (hn : x ≠ "__name__" := by decide) (hdb : (x == ("__debug__" : Str)) = false := by decide)
    (he : starEach (e :: es) X.env = (false, eval e X.env) :: starEach es X.env := by rfl) (hpl : (backTo pos (starEach es X.env)).any (·.1) = false := by rfl) : VX X W (.Call (.Name x p) (e :: es) [] pos) (tCB r tt) (dCB g ff) := ⟨pe_callB hc hgl hm hv ha.p hn hdb he hpl, sv_cb hg ha.s⟩
theorem vx_cty {T : String} {g : List D → Option D} {r : List V → Hp → VK → Prop} {tt : TA} {ff : Dn (List D)} (hc : CallR X (.type T) r) (hg : CallG X g r) (hm : X.mg x = none) (hv : bootBuiltins x = some (.type T)) (ha : WA X W (e :: es) tt ff) (hgl : Gl X x := by rfl) (hn : x ≠ "__name__" := by decide) (hdb : (x == ("__debug__" : Str)) = false := by decide)
    (he : starEach (e :: es) X.env = (false, eval e X.env) :: starEach es X.env := by rfl) (hpl : (backTo pos (starEach es X.env)).any (·.1) = false := by rfl) : VX X W (.Call (.Name x p) (e :: es) [] pos) (tCB r tt) (dCB g ff) := ⟨pe_callTy hc hgl hm hv ha.p hn hdb he hpl, sv_cb hg ha.s⟩
/-- len -/
def gLen : List D → Option D
  | [.lst _ xs] => some (.int xs.length)
  | [.tup xs] => some (.int xs.length)
  | [.sc ns] => some (.int ns.length)
  | [.str s] => if s.length ≤ big then some (.int s.length) else none
  | _ => none
def rLen (K : PySem.W.Frag) : List V → Hp → VK → Prop := fun xs H Q => (∃ p ys, xs = [.ref p] ∧ (SqL K H p ys ∨ SqT K H p ys) ∧ Q (.int ys.length) H) ∨ (∃ z, xs = [.str z] ∧ z.length ≤ sizeLine ∧ Q (.int z.length) H)
theorem cLen : CallR X (.builtin "len") (rLen X.K) := call_len_seq.or call_len_str
theorem cg_len : CallG X gLen (rLen X.K) := by
  intro H vs ds z Q r hg hq
  unfold gLen at hg
  split at hg
  · obtain ⟨v, rfl, h⟩ := r.inv1
    cases hg
    cases h with
    | ls hs rs =>
      refine .inl ⟨_, _, rfl, .inl (SqL.of hs), ?_⟩
      rw [rs.length]
      exact hq _ (.int _)
  · obtain ⟨v, rfl, h⟩ := r.inv1
    cases hg
    cases h with
    | tp hs rs =>
      refine .inl ⟨_, _, rfl, .inr hs, ?_⟩
      rw [rs.length]
      exact hq _ (.int _)
  · obtain ⟨v, rfl, h⟩ := r.inv1
    cases hg
    cases h with
    | sc hs =>
      refine .inl ⟨_, _, rfl, .inl hs, ?_⟩
      rw [List.length_map]
      exact hq _ (.int _)
  · split at hg
    · rename_i hb
      obtain ⟨v, rfl, h⟩ := r.inv1
      cases hg
      rw [h.str_inv]
      exact .inr ⟨_, rfl, by rw [← big_eq]; exact hb, hq _ (.int _)⟩
    · cases hg
  · cases hg
/-- all, any of a list of truths -/
def blsOf : List D → Option (List Bool)
  | [] => some []
  | .bl b :: xs => (blsOf xs).map (b :: ·)
  | _ :: _ => none
def intsOf : List D → Option (List Int)
  | [] => some []
  | .int n :: xs => (intsOf xs).map (n :: ·)
  | _ :: _ => none
theorem blsOf_V {K : PySem.W.Frag} {mg : Str → Option Value} {B H : Hp} : ∀ {xs : List D} {bs : List Bool} {vs : List V} {F : List Addr}, blsOf xs = some bs → RVs K mg B H vs xs F → vs = bs.map V.bl
  | [], bs, vs, F, e, r => by
    cases e
    exact r.nil_inv.1
  | .bl b :: xs, bs, vs, F, e, r => by
    obtain ⟨v, ws, E, E', rfl, h, t, _⟩ := r.cons_inv
    simp only [blsOf, Option.map_eq_some_iff] at e
    obtain ⟨cs, e1, rfl⟩ := e
    rw [h.bl_inv, blsOf_V e1 t]
    rfl
  | .non :: _, _, _, _, e, _ => by cases e
  | .int _ :: _, _, _, _, e, _ => by cases e
  | .str _ :: _, _, _, _, e, _ => by cases e
  | .sc _ :: _, _, _, _, e, _ => by cases e
  | .lst _ _ :: _, _, _, _, e, _ => by cases e
  | .tup _ :: _, _, _, _, e, _ => by cases e
  | .dic _ _ _ :: _, _, _, _, e, _ => by cases e
  | .dik _ _ _ :: _, _, _, _, e, _ => by cases e
  | .ins _ _ _ _ :: _, _, _, _, e, _ => by cases e
  | .fn _ :: _, _, _, _, e, _ => by cases e
theorem intsOf_V {K : PySem.W.Frag} {mg : Str → Option Value} {B H : Hp} : ∀ {xs : List D} {ns : List Int} {vs : List V} {F : List Addr}, intsOf xs = some ns → RVs K mg B H vs xs F → vs = ns.map V.int
  | [], bs, vs, F, e, r => by
    cases e
    exact r.nil_inv.1
  | .int b :: xs, bs, vs, F, e, r => by
    obtain ⟨v, ws, E, E', rfl, h, t, _⟩ := r.cons_inv
    simp only [intsOf, Option.map_eq_some_iff] at e
    obtain ⟨cs, e1, rfl⟩ := e
    rw [h.int_inv, intsOf_V e1 t]
    rfl
  | .non :: _, _, _, _, e, _ => by cases e
  | .bl _ :: _, _, _, _, e, _ => by cases e
  | .str _ :: _, _, _, _, e, _ => by cases e
  | .sc _ :: _, _, _, _, e, _ => by cases e
  | .lst _ _ :: _, _, _, _, e, _ => by cases e
  | .tup _ :: _, _, _, _, e, _ => by cases e
  | .dic _ _ _ :: _, _, _, _, e, _ => by cases e
  | .dik _ _ _ :: _, _, _, _, e, _ => by cases e
  | .ins _ _ _ _ :: _, _, _, _, e, _ => by cases e
  | .fn _ :: _, _, _, _, e, _ => by cases e
def gAll : List D → Option D
  | [.lst _ xs] => (blsOf xs).map fun bs => .bl (bs.all id)
  | _ => none
def gAny : List D → Option D
  | [.lst _ xs] => (blsOf xs).map fun bs => .bl (bs.any id)
  | _ => none
theorem cg_all : CallG X gAll (rAll X.K) := by
  intro H vs ds z Q r hg hq
  unfold gAll at hg
  split at hg
  · obtain ⟨v, rfl, h⟩ := r.inv1
    rw [Option.map_eq_some_iff] at hg
    obtain ⟨bs, e, rfl⟩ := hg
    cases h with
    | ls hs rs =>
      rw [blsOf_V e rs] at hs
      exact ⟨_, bs, rfl, SqL.of hs, hq _ (.bl _)⟩
  · cases hg
theorem cg_any : CallG X gAny (rAny X.K) := by
  intro H vs ds z Q r hg hq
  unfold gAny at hg
  split at hg
  · obtain ⟨v, rfl, h⟩ := r.inv1
    rw [Option.map_eq_some_iff] at hg
    obtain ⟨bs, e, rfl⟩ := hg
    cases h with
    | ls hs rs =>
      rw [blsOf_V e rs] at hs
      exact ⟨_, bs, rfl, SqL.of hs, hq _ (.bl _)⟩
  · cases hg
def gSum : List D → Option D
  | [.lst _ xs] => (intsOf xs).map fun ns => .int ns.sum
  | [.sc ns] => some (.int ns.sum)
  | _ => none
theorem cg_sum : CallG X gSum (rSum X.K) := by
  intro H vs ds z Q r hg hq
  unfold gSum at hg
  split at hg
  · obtain ⟨v, rfl, h⟩ := r.inv1
    rw [Option.map_eq_some_iff] at hg
    obtain ⟨bs, e, rfl⟩ := hg
    cases h with
    | ls hs rs =>
      rw [intsOf_V e rs] at hs
      exact ⟨_, bs, rfl, SqL.of hs, hq _ (.int _)⟩
  · obtain ⟨v, rfl, h⟩ := r.inv1
    cases hg
    cases h with
    | sc hs => exact ⟨_, _, rfl, hs, hq _ (.int _)⟩
  · cases hg
/-- min, max of one tuple or list of whole numbers -/
def minI (x : Int) (xs : List Int) : Int := xs.foldl (fun a y => if y < a then y else a) x
def maxI (x : Int) (xs : List Int) : Int := xs.foldl (fun a y => if a < y then y else a) x
theorem minI_eq (x : Int) : ∀ xs : List Int, PySem.W.minD (.int x) (xs.map PyData.int) = .int (minI x xs) := fun xs => by
  unfold PySem.W.minD minI
  induction xs generalizing x with
  | nil => rfl
  | cons y ys ih =>
    rw [List.map_cons, List.foldl_cons, List.foldl_cons, ← ih]
    (try dsimp only)
    rw [PySem.W.dataLt_int]
    by_cases h : y < x
    · rw [decide_eq_true h, if_pos rfl, if_pos h]
    · rw [decide_eq_false h, if_neg Bool.false_ne_true, if_neg h]
theorem maxI_eq (x : Int) : ∀ xs : List Int, PySem.W.maxD (.int x) (xs.map PyData.int) = .int (maxI x xs) := fun xs => by
  unfold PySem.W.maxD maxI
  induction xs generalizing x with
  | nil => rfl
  | cons y ys ih =>
    rw [List.map_cons, List.foldl_cons, List.foldl_cons, ← ih]
    (try dsimp only)
    rw [PySem.W.dataLt_int]
    by_cases h : x < y
    · rw [decide_eq_true h, if_pos rfl, if_pos h]
    · rw [decide_eq_false h, if_neg Bool.false_ne_true, if_neg h]
theorem alike_ints (xs : List Int) : PySem.W.AlikeAll (xs.map PyData.int) := by
  constructor
  · intro x hx y hy
    obtain ⟨a, _, rfl⟩ := List.mem_map.mp hx
    obtain ⟨b, _, rfl⟩ := List.mem_map.mp hy
    simp [PySem.W.alike]
  · intro x hx
    obtain ⟨a, _, rfl⟩ := List.mem_map.mp hx
    exact fun z => by cases z
theorem reads_ints {h : Heap} : ∀ {us : List Value} {ns : List Int}, PyProof.Rows.IntsAre us ns → ReadsAll h us (ns.map PyData.int) []
  | _, _, .nil => .nil
  | _, _, .cons n t r => .cons (as := []) (bs := []) (.int n t) (reads_ints r)
def rBest (K : PySem.W.Frag) (k : Int → List Int → Int) : List V → Hp → VK → Prop := fun vs H Q => ∃ (a : Addr) (n : Int) (ns : List Int), vs = [V.ref a] ∧ (SqL K H a ((n :: ns).map V.int) ∨ SqT K H a ((n :: ns).map V.int)) ∧ Q (.int (k n ns)) H
theorem c_min (hc : X.calm = true) (hu : X.A.units + 64 < cLine) : CallR X (.builtin "min") (rBest X.K minI) := by
  intro pins s σ H vs us Q I r h
  obtain ⟨a, n, ns, rfl, hs, q⟩ := h
  have d0 : PyData.depthAll ((n :: ns).map PyData.int) = 0 := depth_ints _
  rcases hs with hs | hs
  · obtain ⟨its, rv, hl, _⟩ := I.list hs
    rw [Vals.ref1 r]
    refine PySem.W.min_list_data (I.ok.hd hc) hl.isList (reads_ints (ns := n :: ns) rv.ints) (alike_ints (n :: ns)) (by have : PyData.depthAll (PyData.int n :: ns.map PyData.int) = 0 := d0; omega) fun i v h' tk bs _ hr hk => ?_
    rw [minI_eq] at hr
    cases hr
    exact ⟨.int _, H, I.kept hk, ⟨_, rfl⟩, q⟩
  · obtain ⟨its, rv, hl, _⟩ := I.tuple hs
    rw [Vals.ref1 r]
    refine PySem.W.min_tuple_data (I.ok.hd hc) hl (reads_ints (ns := n :: ns) rv.ints) (alike_ints (n :: ns)) (by have : PyData.depthAll (PyData.int n :: ns.map PyData.int) = 0 := d0; omega) fun i v h' tk bs _ hr hk => ?_
    rw [minI_eq] at hr
    cases hr
    exact ⟨.int _, H, I.kept hk, ⟨_, rfl⟩, q⟩
theorem c_max (hc : X.calm = true) (hu : X.A.units + 64 < cLine) : CallR X (.builtin "max") (rBest X.K maxI) := by
  intro pins s σ H vs us Q I r h
  obtain ⟨a, n, ns, rfl, hs, q⟩ := h
  have d0 : PyData.depthAll ((n :: ns).map PyData.int) = 0 := depth_ints _
  rcases hs with hs | hs
  · obtain ⟨its, rv, hl, _⟩ := I.list hs
    rw [Vals.ref1 r]
    refine PySem.W.max_list_data (I.ok.hd hc) hl.isList (reads_ints (ns := n :: ns) rv.ints) (alike_ints (n :: ns)) (by have : PyData.depthAll (PyData.int n :: ns.map PyData.int) = 0 := d0; omega) fun i v h' tk bs _ hr hk => ?_
    rw [maxI_eq] at hr
    cases hr
    exact ⟨.int _, H, I.kept hk, ⟨_, rfl⟩, q⟩
  · obtain ⟨its, rv, hl, _⟩ := I.tuple hs
    rw [Vals.ref1 r]
    refine PySem.W.max_tuple_data (I.ok.hd hc) hl (reads_ints (ns := n :: ns) rv.ints) (alike_ints (n :: ns)) (by have : PyData.depthAll (PyData.int n :: ns.map PyData.int) = 0 := d0; omega) fun i v h' tk bs _ hr hk => ?_
    rw [maxI_eq] at hr
    cases hr
    exact ⟨.int _, H, I.kept hk, ⟨_, rfl⟩, q⟩
def gBest (k : Int → List Int → Int) : List D → Option D
  | [.lst _ xs] => match intsOf xs with
    | some (n :: ns) => some (.int (k n ns))
    | _ => none
  | [.tup xs] => match intsOf xs with
    | some (n :: ns) => some (.int (k n ns))
    | _ => none
  | _ => none
theorem cg_best {k : Int → List Int → Int} : CallG X (gBest k) (rBest X.K k) := by
  intro H vs ds z Q r hg hq
  unfold gBest at hg
  split at hg
  · split at hg
    · rename_i n ns e
      obtain ⟨v, rfl, h⟩ := r.inv1
      cases hg
      cases h with
      | ls hs rs =>
        rw [intsOf_V e rs] at hs
        exact ⟨_, n, ns, rfl, .inl (SqL.of hs), hq _ (.int _)⟩
    · cases hg
  · split at hg
    · rename_i n ns e
      obtain ⟨v, rfl, h⟩ := r.inv1
      cases hg
      cases h with
      | tp hs rs =>
        rw [intsOf_V e rs] at hs
        exact ⟨_, n, ns, rfl, .inr hs, hq _ (.int _)⟩
    · cases hg
  · cases hg
/-- abs; int(n), int(flag) -/
def gAbs : List D → Option D
  | [.int i] => some (.int (if i < 0 then -i else i))
  | _ => none
theorem cg_abs : CallG X gAbs (fun xs H Q => ∃ i, xs = [.int i] ∧ Q (.int (if i < 0 then -i else i)) H) := by
  intro H vs ds z Q r hg hq
  unfold gAbs at hg
  split at hg
  · obtain ⟨v, rfl, h⟩ := r.inv1
    cases hg
    rw [h.int_inv]
    exact ⟨_, rfl, hq _ (.int _)⟩
  · cases hg
def gInt : List D → Option D
  | [.int i] => some (.int i)
  | [.bl k] => some (.int (if k then 1 else 0))
  | _ => none
theorem cg_int : CallG X gInt (fun xs H Q => (∃ i, xs = [.int i] ∧ Q (.int i) H) ∨ ∃ k, xs = [.bl k] ∧ Q (.int (if k then 1 else 0)) H) := by
  intro H vs ds z Q r hg hq
  unfold gInt at hg
  split at hg
  · obtain ⟨v, rfl, h⟩ := r.inv1
    cases hg
    rw [h.int_inv]
    exact .inl ⟨_, rfl, hq _ (.int _)⟩
  · obtain ⟨v, rfl, h⟩ := r.inv1
    cases hg
    rw [h.bl_inv]
    exact .inr ⟨_, rfl, hq _ (.int _)⟩
  · cases hg
/-! ### isinstance of built-in types -/
inductive Ty where
  | int | bool | list | tuple | str
def Ty.nm : Ty → String
  | .int => "int"
  | .bool => "bool"
  | .list => "list"
  | .tuple => "tuple"
  | .str => "str"
def isiD : Ty → D → Option Bool
  | .int, .int _ => some true
  | .int, .bl _ => some true
  | .bool, .bl _ => some true
  | .list, .lst _ _ => some true
  | .list, .sc _ => some true
  | .tuple, .tup _ => some true
  | .str, .str _ => some true
  | _, .ins _ _ _ _ => none
  | _, .fn _ => none
  | _, .dic _ _ _ => none
  | _, _ => some false
def tyD : D → String
  | .non => "NoneType"
  | .bl _ => "bool"
  | .int _ => "int"
  | .str _ => "str"
  | .sc _ => "list"
  | .lst _ _ => "list"
  | .tup _ => "tuple"
  | .dic _ _ _ => "dict"
  | .dik _ _ _ => "dict"
  | .ins _ _ _ _ => "object"
  | .fn _ => "function"
theorem kit_all : ∀ n : Ty, kitB "NoneType" n.nm = some (match n with | _ => false) ∧ kitB "bool" n.nm = some (match n with | .int => true | .bool => true | _ => false) ∧ kitB "int" n.nm = some (match n with | .int => true | _ => false) ∧
    kitB "str" n.nm = some (match n with | .str => true | _ => false) ∧ kitB "list" n.nm = some (match n with | .list => true | _ => false) ∧ kitB "tuple" n.nm = some (match n with | .tuple => true | _ => false) ∧ kitB "dict" n.nm = some false
  | .int => by decide +kernel
  | .bool => by decide +kernel
  | .list => by decide +kernel
  | .tuple => by decide +kernel
  | .str => by decide +kernel
theorem isi_kit {n : Ty} {d : D} {b : Bool} (h : isiD n d = some b) : kitB (tyD d) n.nm = some b := by
  obtain ⟨h1, h2, h3, h4, h5, h6, h7⟩ := kit_all n
  cases d <;> cases n <;> simp only [isiD] at h <;> (first | (cases h; done) | skip) <;> (cases h; simp only [tyD]; first | exact h1 | exact h2 | exact h3 | exact h4 | exact h5 | exact h6 | exact h7)
theorem seqT_ty {K : PySem.W.Frag} {H : Hp} {a : Addr} {xs : List V} (h : SqT K H a xs) : TyX K H (.ref a) (.type "tuple") := by
  rcases h with (h | ⟨o, h⟩) | ⟨o, its, n, hk, hc, _⟩
  · exact .base (.tup h)
  · exact .fTuple h
  · exact .kTuple hk hc
theorem seqL_ty {K : PySem.W.Frag} {H : Hp} {a : Addr} {xs : List V} (h : SqL K H a xs) : TyX K H (.ref a) (.type "list") := by
  rcases h with (h | ⟨o, h⟩) | ⟨o, its, n, hk, hc, _⟩
  · exact .base (.lst h)
  · exact .base (.frz h)
  · exact .kList hk hc
theorem RV.ty {K : PySem.W.Frag} {mg : Str → Option Value} {H : Hp} {v : V} {d : D} {n : Ty} {b : Bool} (r : RV K mg H H v d []) (h : isiD n d = some b) : TyX K H v (.type (tyD d)) := by
  cases r with
  | non => exact .base .non
  | bl b => exact .base (.bl b)
  | int i => exact .base (.int i)
  | str s => exact .base (.str s)
  | ls hs _ => exact .base (.lst hs)
  | sc hs => exact seqL_ty hs
  | tp hs _ => exact seqT_ty hs
  | ds _ _ _ => cases n <;> cases h
  | ks h1 _ _ =>
    rcases h1 with h1 | ⟨o, h1⟩
    · exact .base (.dK h1)
    · exact .fDict h1
  | is _ _ _ _ => cases n <;> cases h
  | fn _ => cases n <;> cases h
def dIsi (n : Ty) (f : Dn D) : Dn D := bnd f fun d => lif ((isiD n d).map D.bl)
theorem vx_isi (n : Ty) {p1 p2 : Pos} (hm : X.mg "isinstance" = none) (hmt : X.mg x = none) (hv : bootBuiltins x = some (.type n.nm)) (ha : VX X W a ta fa) (hgl : Gl X "isinstance" := by rfl) (hgt : Gl X x := by rfl) (hn : x ≠ "__name__" := by decide) (hdb : (x == ("__debug__" : Str)) = false := by decide)
    (hs1 : starEach (a :: [.Name x p2]) X.env = (false, eval a X.env) :: starEach [.Name x p2] X.env := by rfl) (hs2 : starEach [.Name x p2] X.env = (false, eval (.Name x p2) X.env) :: starEach [] X.env := by rfl) (hpl : (backTo pos (starEach [.Name x p2] X.env)).any (·.1) = false := by rfl) :
    VX X W (.Call (.Name "isinstance" p1) [a, .Name x p2] [] pos) (tCB (rIsi X.K) (tCons ta (tCons (tC (.ty n.nm)) tNil))) (dIsi n fa) := by
  refine ⟨pe_callB call_isi hgl hm PyProof.Rows.boot_isinstance (pa_cons ha.p (pa_cons (pe_bltn hgt hmt hv rfl hn hdb) pa_nil hs2) hs1) (by decide) (by decide) hs1 hpl, fun G σ us H ρ τ Q r hw => ?_⟩
  refine ha.s G σ us H ρ τ _ r (wp_mono (wp_bnd hw) (fun d ρ1 q v H1 s1 r1 w1 => ?_) fun _ _ q => q)
  obtain ⟨z, h1, h2⟩ := wp_lif q
  rw [Option.map_eq_some_iff] at h1
  obtain ⟨b, e, rfl⟩ := h1
  exact ⟨v, .ty n.nm, _, .type n.nm, b, rfl, .ty n.nm, w1.ty e, kit_ty (isi_kit e), h2 _ H1 s1 r1 (.bl b)⟩
/-! ### subscripts, looked at -/
def gIx : D → D → Option D
  | .lst _ xs, .int i => atI xs i
  | .tup xs, .int i => atI xs i
  | .sc ns, .int i => (atI ns i).map D.int
  | .str s, .int i => if s.length ≤ big then (atI s.cps.toList i).map fun c => .str ⟨#[c]⟩ else none
  | _, _ => none
theorem atI_vals {K : PySem.W.Frag} {mg : Str → Option Value} {B H : Hp} {vs : List V} {xs : List D} {F : List Addr} {i : Int} {z : D} (r : RVs K mg B H vs xs F) (h : atI xs i = some z) : ∃ v E, atI vs i = some v ∧ RV K mg B H v z E ∧ ∀ p ∈ E, p ∈ F := by
  unfold atI at h ⊢
  rw [Option.bind_eq_some_iff] at h
  obtain ⟨j, h1, h2⟩ := h
  obtain ⟨v, E, e1, e2, e3⟩ := r.get h2
  refine ⟨v, E, ?_, e2, e3⟩
  rw [r.length, h1]
  exact e1
theorem og_ix : OpG X gIx (rIx X.K) := by
  intro H x y d e z Q rx ry hg hq
  unfold gIx at hg
  split at hg
  · rw [ry.int_inv]
    cases rx with
    | ls hs rs =>
      obtain ⟨v, E, e1, e2, e3⟩ := atI_vals rs hg
      have : E = [] := List.eq_nil_iff_forall_not_mem.mpr fun p hp => absurd (e3 p hp) (by simp)
      subst this
      exact .inl ⟨_, _, _, v, rfl, rfl, SqL.of hs, e1, hq v e2⟩
  · rw [ry.int_inv]
    cases rx with
    | tp hs rs =>
      obtain ⟨v, E, e1, e2, e3⟩ := atI_vals rs hg
      have : E = [] := List.eq_nil_iff_forall_not_mem.mpr fun p hp => absurd (e3 p hp) (by simp)
      subst this
      exact .inr (.inl ⟨_, _, _, v, rfl, rfl, hs, e1, hq v e2⟩)
  · rw [ry.int_inv]
    rw [Option.map_eq_some_iff] at hg
    obtain ⟨n, e1, rfl⟩ := hg
    cases rx with
    | sc hs =>
      refine .inl ⟨_, _, _, .int n, rfl, rfl, hs, ?_, hq _ (.int n)⟩
      unfold atI at e1 ⊢
      rw [Option.bind_eq_some_iff] at e1
      obtain ⟨j, h1, h2⟩ := e1
      rw [List.length_map, h1]
      show (List.map V.int _)[j]? = _
      rw [List.getElem?_map, h2]
      rfl
  · split at hg
    · rename_i hb
      rw [Option.map_eq_some_iff] at hg
      obtain ⟨n, e1, rfl⟩ := hg
      rw [ry.int_inv, rx.str_inv]
      exact .inr (.inr ⟨_, _, n, rfl, rfl, by rw [← big_eq]; exact hb, e1, hq _ (.str _)⟩)
    · cases hg
  · cases hg
theorem vx_ix (ha : VX X W a ta fa) (hb : VX X W b tb fb) (hs : PlainIx b := by exact fun _ _ => rfl) : VX X W (.Subscript a b pos) (tOp (rIx X.K) ta tb) (dBin gIx fa fb) := ⟨pe_ix ix_seq ha.p hb.p hs, sv_bin og_ix ha.s hb.s⟩
/-! ### subscripts, kept: an item of a slot's list or tuple -/
def dIxS (i : Nat) (f : Dn D) : Dn D := fun ρ0 => match ρ0[i]? with
  | some (some _) => bnd f (fun k => fun ρ => match ρ[i]? with
    | some (some d) => match d.items, k with
      | some xs, .int j => match atI xs j with
        | some x => if x.plain then some (.ok x ρ) else none
        | none => none
      | _, _ => none
    | _ => none) ρ0
  | _ => none
theorem RL.item {K : PySem.W.Frag} {mg : Str → Option Value} {G : Gt} {H : Hp} {σ : St} {us : List V} {ρ : Rho} {τ : List D} {i j : Nat} {d x : D} {xs : List D} (r : RL K mg G H σ us ρ τ) (h : ρ[i]? = some (some d)) (hx : d.items = some xs) (hj : xs[j]? = some x) (hp : x.plain = true) :
    ∃ p vs v, σ[i]? = some (some (.ref p)) ∧ SqD K H d p vs ∧ vs.length = xs.length ∧ vs[j]? = some v ∧ RL K mg G H σ (us ++ [v]) ρ (τ ++ [x]) := by
  obtain ⟨h1, h2⟩ := r.slot h
  obtain ⟨p, vs, v, e1, e2, e3, e4, e5⟩ := r.rel.item h2 hx hj hp
  exact ⟨p, vs, v, by rw [List.getElem?_append_left h1] at e1; exact e1, e2, e3, e4, .ofSnoc r.ls e5⟩
theorem ex_ixS (i : Nat) {p2 : Pos} (hb : VX X W b tb fb) (hN : X.N[i]? = some x := by rfl) (hv : Vis X.env.scope x := by first | exact Or.inl rfl | exact Or.inr (Or.inl rfl) | exact Or.inr (Or.inr rfl)) (hd : (x == ("__debug__" : Str)) = false := by decide)
    (hcd : (x == ("__classdict__" : Str)) = false := by decide) (hs : PlainIx b := by exact fun _ _ => rfl) : EX X W (.Subscript (.Name x p2) b pos) (fun σ H Q => ∃ v, σ[i]? = some (some v) ∧ tb σ H fun y H2 => rIx X.K v y H2 Q) (dIxS i fb) := by
  refine ⟨pe_ix ix_seq (pe_var hN hv hd hcd) hb.p hs, fun G σ us H ρ τ Q r hw => ?_⟩
  unfold dIxS at hw
  split at hw
  · rename_i d0 h0
    obtain ⟨v0, hv0, _⟩ := r.at h0
    refine ⟨v0, hv0, ?_⟩
    refine hb.s G σ us H ρ τ _ r (wp_mono (wp_bnd hw) (fun k ρ1 q y H2 s2 r2 w2 => ?_) fun _ _ q => q)
    split at q
    · rename_i d hi
      split at q
      · rename_i xs j hxs
        split at q
        · rename_i x hx
          split at q
          · rename_i hp
            unfold atI at hx
            rw [Option.bind_eq_some_iff] at hx
            obtain ⟨m, m1, m2⟩ := hx
            obtain ⟨pp, vs, v, e1, e2, e3, e4, e5⟩ := r2.item hi hxs m2 hp
            rw [hv0] at e1
            cases e1
            rw [w2.int_inv]
            have at_ : atI vs j = some v := by
              unfold atI
              rw [e3, m1]
              exact e4
            rcases e2.or with e2 | e2
            · exact .inl ⟨_, _, _, v, rfl, rfl, e2, at_, q v H2 s2 e5⟩
            · exact .inr (.inl ⟨_, _, _, v, rfl, rfl, e2, at_, q v H2 s2 e5⟩)
          · exact q.elim
        · exact q.elim
      · exact q.elim
    · exact q.elim
  · exact hw.elim
end
end Ly

set_option Elab.async false
set_option linter.all false
set_option maxRecDepth 100000
/-! Ly, part J: new lists of old items, statements, defs. -/
namespace Ly
open PySem PySem.Spec L2
/-- the new list's items come from the old one -/
def Sel (vs vs' : List V) (xs xs' : List D) : Prop := vs'.length = xs'.length ∧ ∀ (j : Nat) (v : V) (x : D), vs'[j]? = some v → xs'[j]? = some x → ∃ m : Nat, vs[m]? = some v ∧ xs[m]? = some x
/-- .. or are the one at hand -/
def SelP (vs vs' : List V) (xs xs' : List D) (v : V) (d : D) : Prop := vs'.length = xs'.length ∧ ∀ (j : Nat) (u : V) (x : D), vs'[j]? = some u → xs'[j]? = some x → (u = v ∧ x = d) ∨ ∃ m : Nat, vs[m]? = some u ∧ xs[m]? = some x
section
variable {K : PySem.W.Frag} {mg : Str → Option Value} {G : Gt} {B H : Hp} {L : List (Option V)} {R : List (Option D)} {v : V} {d : D} {E : List Addr} {i : Nat} {σ : St} {us vs vs' : List V} {ρ : Rho} {τ xs xs' : List D}
theorem Sel.rvs (s : Sel vs vs' xs xs') (r : RVs K mg B H vs xs []) : RVs K mg B H vs' xs' [] := RVs.of_get s.1 fun j v x h1 h2 => by
  obtain ⟨m, e1, e2⟩ := s.2 j v x h1 h2
  obtain ⟨E, q1, q2⟩ := r.at e1 e2
  have : E = [] := List.eq_nil_iff_forall_not_mem.mpr fun p hp => absurd (q2 p hp) (by simp)
  subst this
  exact q1
theorem SelP.rvs (s : SelP vs vs' xs xs' v d) (r : RVs K mg B H vs xs []) (h : RV K mg B H v d []) : RVs K mg B H vs' xs' [] := RVs.of_get s.1 fun j u x h1 h2 => by
  rcases s.2 j u x h1 h2 with ⟨rfl, rfl⟩ | ⟨m, e1, e2⟩
  · exact h
  · obtain ⟨E, q1, q2⟩ := r.at e1 e2
    have : E = [] := List.eq_nil_iff_forall_not_mem.mpr fun p hp => absurd (q2 p hp) (by simp)
    subst this
    exact q1
theorem Sel.refl (l : vs.length = xs.length) : Sel vs vs xs xs := ⟨l, fun j v x h1 h2 => ⟨j, h1, h2⟩⟩
theorem Sel.plain (s : Sel vs vs' xs xs') (h : plains xs = true) : plains xs' = true := plains_of fun d hd => by
  obtain ⟨j, hj, e⟩ := List.getElem_of_mem hd
  obtain ⟨m, _, e2⟩ := s.2 j (vs'[j]'(by rw [s.1]; exact hj)) d (List.getElem?_eq_getElem _) (by rw [List.getElem?_eq_getElem hj, e])
  exact plains_get h e2
theorem Rel.copyBy (r : Rel K mg G H L R) (h : R[i]? = some (some d)) (hx : d.items = some xs) (hp : plains xs = true) : ∃ p vs, L[i]? = some (some (.ref p)) ∧ SqD K H d p vs ∧ vs.length = xs.length ∧
    ∀ vs' xs' q, Sel vs vs' xs xs' → H q = none → Rel K mg G (upd H q (.lst vs')) (L ++ [some (.ref q)]) (R ++ [some (.lst true xs')]) := by
  obtain ⟨B, F, W⟩ := r
  have fin : ∀ vs, RVs K mg B H vs xs [] → ∀ vs' xs' q, Sel vs vs' xs xs' → H q = none → Rel K mg G (upd H q (.lst vs')) (L ++ [some (.ref q)]) (R ++ [some (.lst true xs')]) := fun vs r vs' xs' q s hq => by
    have fr := (W.free hq)
    have W2 := W.grow (o := .lst vs') hq rfl
    refine ⟨_, _, W2.push (.lo upd_same ((s.rvs r).mono (Le.of fun _ _ z => z) fun x hx => absurd hx (by simp))) (fun x hx => ?_) (by simp) fun x hx j hj hm => ?_⟩
    · rcases List.mem_cons.mp hx with rfl | hx
      · exact ⟨fr.1, fr.2.1, by rw [upd_same]; exact fun z => nomatch z⟩
      · cases hx
    · rcases List.mem_cons.mp hx with rfl | hx
      · exact fr.2.2 j hm
      · cases hx
  obtain ⟨v, h1, h2⟩ := W.ent i d h
  generalize F i = Fi at h2
  cases h2 with
  | ls hs rs =>
    cases hx
    exact ⟨_, _, h1, SqL.of (W.sbh _ _ hs), rs.length, fin _ (rs.plainly hp)⟩
  | lo hs rs =>
    cases hx
    exact ⟨_, _, h1, SqL.of hs, rs.length, fin _ (rs.plainly hp)⟩
  | @sc _ ns hs =>
    cases hx
    refine ⟨_, _, h1, Le.seq (Le.of W.sbh) hs, by simp, fin _ (RVs.of_get (by simp) fun j v x e1 e2 => ?_)⟩
    rw [List.getElem?_map] at e1 e2
    cases e : ns[j]? with
    | none => rw [e] at e1; cases e1
    | some n =>
      rw [e] at e1 e2
      cases e1
      cases e2
      exact .int n
  | tp hs rs =>
    cases hx
    exact ⟨_, _, h1, Le.seqT (Le.of W.sbh) hs, rs.length, fin _ (rs.plainly hp)⟩
  | _ => cases hx
theorem RL.copyBy (r : RL K mg G H σ us ρ τ) (h : ρ[i]? = some (some d)) (hx : d.items = some xs) (hp : plains xs = true) : ∃ p vs, σ[i]? = some (some (.ref p)) ∧ SqD K H d p vs ∧ vs.length = xs.length ∧
    ∀ vs' xs' q, Sel vs vs' xs xs' → H q = none → RL K mg G (upd H q (.lst vs')) σ (us ++ [.ref q]) ρ (τ ++ [.lst true xs']) := by
  obtain ⟨h1, h2⟩ := r.slot h
  obtain ⟨p, vs, e1, e2, e3, e4⟩ := r.rel.copyBy h2 hx hp
  exact ⟨p, vs, by rw [List.getElem?_append_left h1] at e1; exact e1, e2, e3, fun vs' xs' q a b => .ofSnoc r.ls (e4 vs' xs' q a b)⟩
/-- of the held one at the end, which is dropped -/
theorem RL.copyLast (r : RL K mg G H σ (us ++ [v]) ρ (τ ++ [d])) (hl : us.length = τ.length) (hx : d.items = some xs) (hp : plains xs = true) : ∃ p vs, v = .ref p ∧ SqD K H d p vs ∧ vs.length = xs.length ∧
    ∀ vs' xs' q, Sel vs vs' xs xs' → H q = none → RL K mg G (upd H q (.lst vs')) σ (us ++ [.ref q]) ρ (τ ++ [.lst true xs']) := by
  have q := r.snoc
  have hn : (σ ++ us.map some).length = (ρ ++ τ.map some).length := by
    have := q.len
    simp at this ⊢
    omega
  obtain ⟨p, vs, e1, e2, e3, e4⟩ := q.copyBy (i := (ρ ++ τ.map some).length) (get_last rfl) hx hp
  rw [get_last hn.symm] at e1
  cases e1
  refine ⟨p, vs, rfl, e2, e3, fun vs' xs' q a b => ?_⟩
  have z : RL K mg G (upd H q (.lst vs')) σ ((us ++ [.ref p]) ++ [.ref q]) ρ ((τ ++ [d]) ++ [.lst true xs']) := .ofSnoc r.ls (by simpa using e4 vs' xs' q a b)
  exact RL.dropMid (ws := [.ref p]) (es := [d]) (vs := [.ref q]) (ds := [.lst true xs']) hl rfl z
/-- a list in the i-th is changed by the held one at the end -/
theorem Rel.put (r : Rel K mg G H (L ++ [some v]) (R ++ [some d])) (h : R[i]? = some (some (.lst true xs))) (hp : plains xs = true) (hd : d.plain = true) : ∃ p vs, L[i]? = some (some (.ref p)) ∧ H p = some (.lst vs) ∧ vs.length = xs.length ∧
    ∀ vs' xs', SelP vs vs' xs xs' v d → Rel K mg G (upd H p (.lst vs')) L (R.set i (some (.lst true xs'))) := by
  have hl : L.length = R.length := by
    have := r.len
    simpa using this
  obtain ⟨B, F, W⟩ := r
  obtain ⟨u, e1, e2⟩ := W.ent i _ (get_keep h)
  have hi := lt_of_get h
  rw [List.getElem?_append_left (by omega)] at e1
  obtain ⟨u', k1, k2⟩ := W.ent R.length d (get_last rfl)
  rw [get_last hl.symm] at k1
  cases k1
  have k3 : RV K mg B H v d [] := k2.plainly hd
  have W0 := W.less (L' := L) (R' := R) hl fun i d h => ⟨get_keep h, (List.getElem?_append_left (by rw [hl]; exact lt_of_get h)).symm⟩
  generalize hE : F i = E at e2
  cases e2 with
  | @lo a vs _ E2 hs rs =>
    have z := rs.noF hp
    subst z
    refine ⟨a, vs, e1, hs, rs.length, fun vs' xs' s => ?_⟩
    exact ⟨_, _, W0.mut (p := a) (E := [a]) (by rw [hE]; simp) rfl (.lo upd_same ((s.rvs rs k3).mono (Le.of fun _ _ z => z) fun _ h => absurd h (by simp))) (fun q hq => .inl (by rw [hE]; exact hq)) (by simp) e1 hi⟩
theorem RL.put (r : RL K mg G H σ (us ++ [v]) ρ (τ ++ [d])) (h : ρ[i]? = some (some (.lst true xs))) (hp : plains xs = true) (hd : d.plain = true) : ∃ p vs, σ[i]? = some (some (.ref p)) ∧ H p = some (.lst vs) ∧ vs.length = xs.length ∧
    ∀ vs' xs', SelP vs vs' xs xs' v d → RL K mg G (upd H p (.lst vs')) σ us (ρ.set i (some (.lst true xs'))) τ := by
  obtain ⟨p, vs, h1, h2, h3, h4⟩ := r.snoc.put (get_keep h) hp hd
  rw [List.getElem?_append_left (by rw [r.ls]; exact lt_of_get h)] at h1
  refine ⟨p, vs, h1, h2, h3, fun vs' xs' s => ⟨by rw [List.length_set]; exact r.ls, ?_⟩⟩
  have q := h4 vs' xs' s
  rw [List.set_append_left _ _ (lt_of_get h)] at q
  exact q
end

section
variable {X : Cx} {W : WX} {e a b c : Expr} {es : List Expr} {t ta tb : TE} {tc : TT} {f fa fb : Dn D} {fc : Dn Bool} {pos p : Pos} {x : Str}
/-! ### list(..), slices -/
def copyD (o : Option (List D)) : Option D := match o with
  | some xs => if plains xs = true then some (.lst true xs) else none
  | none => none
def dListS (i : Nat) : Dn D := fun ρ => match ρ[i]? with
  | some (some d) => match copyD d.items with
    | some z => some (.ok z ρ)
    | none => none
  | _ => none
def dListE (f : Dn D) : Dn D := bnd f fun d => lif (copyD d.items)
theorem copyD_some {o : Option (List D)} {z : D} (h : copyD o = some z) : ∃ xs, o = some xs ∧ plains xs = true ∧ z = .lst true xs := by
  unfold copyD at h
  split at h
  · split at h
    · cases h
      exact ⟨_, rfl, ‹_›, rfl⟩
    · cases h
  · cases h
def rListOf (K : PySem.W.Frag) : List V → Hp → VK → Prop := fun xs H Q => ∃ p ys, xs = [.ref p] ∧ (SqL K H p ys ∨ SqT K H p ys) ∧ ∀ l, H l = none → Q (.ref l) (upd H l (.lst ys))
theorem ex_listS (i : Nat) {p1 p2 : Pos} (hm : X.mg "list" = none) (hg : Gl X "list" := by rfl) (hN : X.N[i]? = some x := by rfl) (hv : Vis X.env.scope x := by first | exact Or.inl rfl | exact Or.inr (Or.inl rfl) | exact Or.inr (Or.inr rfl)) (hd : (x == ("__debug__" : Str)) = false := by decide)
    (hcd : (x == ("__classdict__" : Str)) = false := by decide) (he : starEach [.Name x p2] X.env = (false, eval (.Name x p2) X.env) :: starEach [] X.env := by rfl) (hpl : (backTo pos (starEach [] X.env)).any (·.1) = false := by rfl) :
    EX X W (.Call (.Name "list" p1) [.Name x p2] [] pos) (tCB (rListOf X.K) (tCons (tVar i) tNil)) (dListS i) := by
  refine ⟨pe_callTy call_list_of hg hm PyProof.Rows.boot_list (pa_cons (pe_var hN hv hd hcd) pa_nil he) (by decide) (by decide) he hpl, fun G σ us H ρ τ Q r hw => ?_⟩
  unfold dListS at hw
  split at hw
  · rename_i d hi
    split at hw
    · rename_i z hz
      obtain ⟨xs, h1, h2, rfl⟩ := copyD_some hz
      obtain ⟨p, vs, e1, e2, e3, e4⟩ := r.copyBy hi h1 h2
      exact ⟨_, e1, p, vs, rfl, e2.or, fun l hl => hw _ _ (Ly.same_upd hl) (e4 vs xs l (Sel.refl e3) hl)⟩
    · exact hw.elim
  · exact hw.elim
theorem ex_listE {p1 : Pos} (hm : X.mg "list" = none) (ha : EX X W a ta fa) (hg : Gl X "list" := by rfl) (he : starEach [a] X.env = (false, eval a X.env) :: starEach [] X.env := by rfl) (hpl : (backTo pos (starEach [] X.env)).any (·.1) = false := by rfl) :
    EX X W (.Call (.Name "list" p1) [a] [] pos) (tCB (rListOf X.K) (tCons ta tNil)) (dListE fa) := by
  refine ⟨pe_callTy call_list_of hg hm PyProof.Rows.boot_list (pa_cons ha.p pa_nil he) (by decide) (by decide) he hpl, fun G σ us H ρ τ Q r hw => ?_⟩
  refine ha.s G σ us H ρ τ _ r (wp_mono (wp_bnd hw) (fun d ρ1 q v H1 s1 r1 => ?_) fun _ _ q => q)
  obtain ⟨z, h1, h2⟩ := wp_lif q
  obtain ⟨xs, k1, k2, rfl⟩ := copyD_some h1
  obtain ⟨p, vs, rfl, e2, e3, e4⟩ := r1.copyLast r.lu k1 k2
  exact ⟨p, vs, rfl, e2.or, fun l hl => h2 _ _ (s1.trans (Ly.same_upd hl)) (e4 vs xs l (Sel.refl e3) hl)⟩
/-- list(range(..)) -/
def dLRng1 (f : Dn D) : Dn D := bnd f fun d => match d with
  | .int n => if (decide (0 ≤ n) && decide (n ≤ 16777216)) = true then ret (.lst true (rngD 0 n.toNat)) else stuck
  | _ => stuck
theorem rng_plain (lo : Int) (n : Nat) : plains (rngD lo n) = true := plains_of fun d hd => by
  obtain ⟨k, _, rfl⟩ := List.mem_map.mp hd
  rfl
theorem ex_lrng1 {p1 p2 p3 : Pos} (hc : X.calm = true) (hm : X.mg "list" = none) (hr : X.mg "range" = none) (ha : VX X W a ta fa) (hg : Gl X "list" := by rfl) (hgr : Gl X "range" := by rfl) (na : starEach [a] X.env = (false, eval a X.env) :: starEach [] X.env := by rfl)
    (he : starEach [.Call (.Name "range" p2) [a] [] p3] X.env = (false, eval (.Call (.Name "range" p2) [a] [] p3) X.env) :: starEach [] X.env := by rfl) :
    EX X W (.Call (.Name "list" p1) [.Call (.Name "range" p2) [a] [] p3] [] pos) (tLstRg (tRg1 ta)) (dLRng1 fa) := by
  refine ⟨pe_listRg hc hg hm (prg_1 hgr hr ha.p na) he, fun G σ us H ρ τ Q r hw => ?_⟩
  refine ha.s G σ us H ρ τ _ r (wp_mono (wp_bnd hw) (fun d ρ1 q v H1 s1 r1 w1 => ?_) fun _ _ q => q)
  split at q
  · rename_i n
    split at q
    · rename_i hb
      simp only [Bool.and_eq_true, decide_eq_true_eq] at hb
      rw [w1.int_inv]
      refine ⟨n, rfl, RgOk.of_le (Int.le_refl 0) hb.2 (by decide) hb.1, fun z hz => ?_⟩
      have e : RVs X.K X.mg H1 H1 (rgV 0 n) (rngD 0 n.toNat) [] := RVs.of_get (by rw [rgV_length, rngD_len]; simp) fun j v x e1 e2 => by
        rw [rngD_get e2]
        unfold rgV at e1
        rw [List.getElem?_map] at e1
        cases ej : (List.range (n - 0).toNat)[j]? with
        | none => rw [ej] at e1; cases e1
        | some m =>
          rw [ej] at e1
          cases e1
          have : m = j := by
            have := (List.getElem?_eq_some_iff.mp ej).2
            simpa using this.symm
          subst this
          exact .int _
      have r2 : RL X.K X.mg G (upd H1 z (.lst (rgV 0 n))) σ (us ++ [.ref z]) ρ1 (τ ++ [.lst true (rngD 0 n.toNat)]) := .ofSnoc r1.ls (r1.rel.copyL (fun B F W => RVs.of_get e.length fun j v x e1 e2 => by
        rw [rngD_get e2]
        obtain ⟨E, q1, _⟩ := e.at e1 e2
        rw [rngD_get e2] at q1
        rw [q1.int_inv]
        exact .int _) hz)
      exact q _ _ (s1.trans (Ly.same_upd hz)) r2
    · exact q.elim
  · exact q.elim
/-- slices of a slot's list -/
def SO (K : PySem.W.Frag) (mg : Str → Option Value) (W : WX) (t : TO) (f : Dn (Option Int)) : Prop := ∀ (G : Gt) (σ : St) (us : List V) (H : Hp) (ρ : Rho) (τ : List D) (Q : Option Int → Hp → Prop), RL K mg G H σ us ρ τ →
  wp (f ρ) (fun o ρ' => ∀ H', Same H H' → RL K mg G H' σ us ρ' τ → Q o H') (Wx K mg W G σ us τ) → t σ H Q
structure OX (X : Cx) (W : WX) (e : Option Expr) (t : TO) (f : Dn (Option Int)) : Prop where
  p : PO X e t
  s : SO X.K X.mg W t f
theorem ox_none : OX X W none tNoPart (ret none) := ⟨po_none, fun G σ us H ρ τ Q r hw => hw H (Same.refl _) r⟩
def dPart (f : Dn D) : Dn (Option Int) := bnd f fun d => match d with
  | .int i => ret (some i)
  | _ => stuck
theorem ox_some (h : VX X W e t f) : OX X W (some e) (tPart t) (dPart f) := by
  refine ⟨po_some h.p, fun G σ us H ρ τ Q r hw => ?_⟩
  refine h.s G σ us H ρ τ _ r (wp_mono (wp_bnd hw) (fun d ρ1 q v H1 s1 r1 w1 => ?_) fun _ _ q => q)
  split at q
  · rw [w1.int_inv]
    exact ⟨_, rfl, q H1 s1 r1⟩
  · exact q.elim
def cutD {α : Type} (xs : List α) (lo hi : Option Int) : List α := (xs.drop (HT.sIx xs.length 0 lo)).take (HT.sIx xs.length xs.length hi - HT.sIx xs.length 0 lo)
theorem cut_sel {vs : List V} {xs : List D} (l : vs.length = xs.length) (lo hi : Option Int) : Sel vs (cutV vs lo hi) xs (cutD xs lo hi) := by
  unfold cutV cutD
  rw [l]
  refine ⟨by simp [l], fun j v x h1 h2 => ?_⟩
  rw [List.getElem?_take] at h1 h2
  split at h1
  · rename_i hj
    rw [if_pos hj] at h2
    rw [List.getElem?_drop] at h1 h2
    exact ⟨_, h1, h2⟩
  · cases h1
def cutO (o : Option (List D)) (lo hi : Option Int) : Option D := match o with
  | some xs => if plains xs = true then some (.lst true (cutD xs lo hi)) else none
  | none => none
def D.isTup : D → Bool
  | .tup _ => true
  | _ => false
def dSliceS (i : Nat) (fl fh : Dn (Option Int)) : Dn D := fun ρ0 => match ρ0[i]? with
  | some (some _) => bnd fl (fun lo => bnd fh fun hi => fun ρ => match ρ[i]? with
    | some (some d) => if d.isTup = true then none else match cutO d.items lo hi with
      | some z => some (.ok z ρ)
      | none => none
    | _ => none) ρ0
  | _ => none
theorem ex_sliceS (i : Nat) {lo hi : Option Expr} {tl th : TO} {fl fh : Dn (Option Int)} {p1 p2 : Pos} (hl : OX X W lo tl fl) (hh : OX X W hi th fh) (hN : X.N[i]? = some x := by rfl) (hv : Vis X.env.scope x := by first | exact Or.inl rfl | exact Or.inr (Or.inl rfl) | exact Or.inr (Or.inr rfl)) (hd : (x == ("__debug__" : Str)) = false := by decide)
    (hcd : (x == ("__classdict__" : Str)) = false := by decide) : EX X W (.Subscript (.Name x p1) (.Slice lo hi none p2) pos) (tSl (rSlL X.K) (tVar i) tl th) (dSliceS i fl fh) := by
  refine ⟨pe_slice sl_list (pe_var hN hv hd hcd) hl.p hh.p, fun G σ us H ρ τ Q r hw => ?_⟩
  unfold dSliceS at hw
  split at hw
  · rename_i d0 h0
    obtain ⟨v0, hv0, _⟩ := r.at h0
    refine ⟨v0, hv0, ?_⟩
    refine hl.s G σ us H ρ τ _ r (wp_mono (wp_bnd hw) (fun l ρ1 q H1 s1 r1 => ?_) fun _ _ q => q)
    refine hh.s G σ us H1 ρ1 τ _ r1 (wp_mono (wp_bnd q) (fun u ρ2 q H2 s2 r2 => ?_) fun _ _ q => q)
    split at q
    · rename_i d hi
      split at q
      · exact q.elim
      · rename_i hT
        split at q
        · rename_i z hz
          unfold cutO at hz
          split at hz
          · rename_i xs hx
            split at hz
            · rename_i hp
              cases hz
              obtain ⟨p, vs, e1, e2, e3, e4⟩ := r2.copyBy hi hx hp
              rw [hv0] at e1
              cases e1
              have e2' : SqL X.K H2 p vs := by
                cases d <;> first | exact e2 | exact absurd rfl hT
              exact ⟨p, vs, rfl, e2', fun z hz => q _ _ (s1.trans (s2.trans (Ly.same_upd hz))) (e4 _ _ z (cut_sel e3 l u) hz)⟩
            · cases hz
          · cases hz
        · exact q.elim
    · exact q.elim
  · exact hw.elim

/-! ### statements -/
variable {st : Stmt} {rest sa sb : List Stmt} {ts tu : TS} {fs fu : Sn}
def dNx : Sn := fun ρ => some (.nx ρ)
def dSeq (f g : Sn) : Sn := fun ρ => match f ρ with
  | some (.nx ρ') => g ρ'
  | r => r
theorem bx_nil : BX X W [] tNext dNx := ⟨pss_nil, fun G σ us H ρ τ E r hw => hw σ H r⟩
theorem bx_one (h : SX X W st ts fs) : BX X W [st] ts fs := ⟨pss_one h.p, h.s⟩
theorem bx_cons (h : SX X W st ts fs) (k : BX X W rest tu fu) : BX X W (st :: rest) (tSeq ts tu) (dSeq fs fu) := by
  refine ⟨pss_cons h.p k.p, fun G σ us H ρ τ E r hw => ?_⟩
  refine h.s G σ us H ρ τ _ r ?_
  unfold dSeq at hw
  cases e : fs ρ with
  | none => rw [e] at hw; exact hw.elim
  | some fl =>
    rw [e] at hw
    cases fl with
    | nx ρ' => exact fun σ' H' r' => k.s G σ' us H' ρ' τ E r' hw
    | rt d ρ' => exact hw
    | bk ρ' => exact hw
    | ct ρ' => exact hw
    | ex c ρ' => exact hw
theorem sx_pass : SX X W (.Pass pos) tNext dNx := ⟨ps_pass, fun G σ us H ρ τ E r hw => hw σ H r⟩
theorem sx_break : SX X W (.Break pos) tBreak (fun ρ => some (.bk ρ)) := ⟨ps_break, fun G σ us H ρ τ E r hw => hw σ H r⟩
theorem sx_continue : SX X W (.Continue pos) tCont (fun ρ => some (.ct ρ)) := ⟨ps_continue, fun G σ us H ρ τ E r hw => hw σ H r⟩
def dDrop (f : Dn D) : Sn := fun ρ => match f ρ with
  | none => none
  | some (.ex c ρ') => some (.ex c ρ')
  | some (.ok _ ρ') => some (.nx ρ')
theorem sx_expr (h : VX X W e t f) (hs : swapsWith e none pos.line X.env = pure false := by rfl) : SX X W (.Expr e pos) (tDrop t) (dDrop f) := by
  refine ⟨ps_expr h.p hs, fun G σ us H ρ τ E r hw => ?_⟩
  refine h.s G σ us H ρ τ _ r ?_
  unfold dDrop at hw
  cases e1 : f ρ with
  | none => rw [e1] at hw; exact hw.elim
  | some o =>
    rw [e1] at hw
    cases o with
    | ok d ρ' => exact fun v H' s r' w => hw σ H' r'
    | ex c ρ' => exact fun H' C hC r' => hw σ H' C hC r'
def dRet (f : Dn D) : Sn := fun ρ => match f ρ with
  | none => none
  | some (.ex c ρ') => some (.ex c ρ')
  | some (.ok d ρ') => some (.rt d ρ')
theorem sx_ret (h : EX X W e t f) : SX X W (.Return (some e) pos) (tRet t) (dRet f) := by
  refine ⟨ps_ret h.p, fun G σ us H ρ τ E r hw => ?_⟩
  refine h.s G σ us H ρ τ _ r ?_
  unfold dRet at hw
  cases e1 : f ρ with
  | none => rw [e1] at hw; exact hw.elim
  | some o =>
    rw [e1] at hw
    cases o with
    | ok d ρ' => exact fun v H' s r' => hw σ v H' r'
    | ex c ρ' => exact fun H' C hC r' => hw σ H' C hC r'
def dIfS (c : Dn Bool) (f g : Sn) : Sn := fun ρ => match c ρ with
  | none => none
  | some (.ex k ρ') => some (.ex k ρ')
  | some (.ok true ρ') => f ρ'
  | some (.ok false ρ') => g ρ'
theorem sx_if (hc : TX X W c tc fc) (ha : BX X W sa ts fs) (hb : BX X W sb tu fu) : SX X W (.If c sa sb pos) (tIfS tc ts tu) (dIfS fc fs fu) := by
  refine ⟨ps_if hc.p ha.p hb.p, fun G σ us H ρ τ E r hw => ?_⟩
  refine hc.s G σ us H ρ τ _ r ?_
  unfold dIfS at hw
  cases e1 : fc ρ with
  | none => rw [e1] at hw; exact hw.elim
  | some o =>
    rw [e1] at hw
    cases o with
    | ok b ρ' =>
      intro H' s r'
      cases b with
      | true =>
        rw [if_pos rfl]
        exact ha.s G σ us H' ρ' τ E r' hw
      | false =>
        rw [if_neg Bool.false_ne_true]
        exact hb.s G σ us H' ρ' τ E r' hw
    | ex k ρ' => exact fun H' C hC r' => hw σ H' C hC r'
/-- name = e -/
def dSet (i : Nat) (f : Dn D) : Sn := fun ρ => match f ρ with
  | none => none
  | some (.ex c ρ') => some (.ex c ρ')
  | some (.ok d ρ') => some (.nx (ρ'.set i (some d)))
theorem ss_set {K : PySem.W.Frag} {mg : Str → Option Value} {W : WX} {t : TE} {f : Dn D} (i : Nat) (h : SE K mg W t f) : SS K mg W (tAsg t (gName i)) (dSet i f) := by
  intro G σ us H ρ τ E r hw
  refine h G σ us H ρ τ _ r ?_
  unfold dSet at hw
  cases e1 : f ρ with
  | none => rw [e1] at hw; exact hw.elim
  | some o =>
    rw [e1] at hw
    cases o with
    | ok d ρ' => exact fun v H' s r' => sg_name i G σ us H' ρ' τ v d _ _ r' rfl fun σ' H'' _ _ r'' => hw σ' H'' r''
    | ex c ρ' => exact fun H' C hC r' => hw σ H' C hC r'
theorem sx_set (i : Nat) {p' : Pos} (hN : X.N.Nodup) (he : EX X W e t f) (hi : X.N[i]? = some x := by rfl) (hx : Loc X.env.scope x := by first | exact Or.inl rfl | exact Or.inr rfl) (hs : swapsWith e (some (.Name x p')) pos.line X.env = pure false := by rfl)
    (hf : X.fn x = true ∨ X.env.scope.names.lookup x = some .local := by first | exact .inl rfl | exact .inr rfl) : SX X W (.Assign [.Name x p'] e pos) (tAsg t (gName i)) (dSet i f) := ⟨ps_set hN hi hx he.p hs hf, ss_set i he.s⟩
/-- target = e -/
def dAsg (f : Dn D) (h : D → Rho → Option Rho) : Sn := fun ρ => match f ρ with
  | none => none
  | some (.ex c ρ') => some (.ex c ρ')
  | some (.ok d ρ') => match h d ρ' with
    | none => none
    | some ρ'' => some (.nx ρ'')
theorem sx_asg {tg : Expr} {g : TG} {ix : List Nat} {h : D → Rho → Option Rho} (he : EX X W e t f) (hg : GX X tg g ix h) (hs : swapsWithSole [tg] e pos.line X.env = pure false := by rfl) (hw : swappedStores [tg] e X.env = pure none := by rfl)
    (h1 : (assignEach [tg] X.env).map (·.2) = [assign tg X.env] := by rfl) : SX X W (.Assign [tg] e pos) (tAsg t g) (dAsg f h) := by
  refine ⟨ps_asg he.p hg.p hs hw h1, fun G σ us H ρ τ E r hw => ?_⟩
  refine he.s G σ us H ρ τ _ r ?_
  unfold dAsg at hw
  cases e1 : f ρ with
  | none => rw [e1] at hw; exact hw.elim
  | some o =>
    rw [e1] at hw
    cases o with
    | ok d ρ' =>
      (try simp only at hw)
      cases e2 : h d ρ' with
      | none => rw [e2] at hw; exact hw.elim
      | some ρ'' =>
        rw [e2] at hw
        exact fun v H' s r' => hg.s G σ us H' ρ' τ v d _ _ r' e2 fun σ' H'' _ _ r'' => hw σ' H'' r''
    | ex c ρ' => exact fun H' C hC r' => hw σ H' C hC r'
/-- name op= e, of whole numbers -/
def dAug (i : Nat) (k : Int → Int → Int) (f : Dn D) : Sn := fun ρ0 => match ρ0[i]? with
  | some (some (.int n)) => match f ρ0 with
    | none => none
    | some (.ex c ρ') => some (.ex c ρ')
    | some (.ok (.int m) ρ') => some (.nx (ρ'.set i (some (.int (k n m)))))
    | some (.ok _ _) => none
  | _ => none
theorem sx_aug (i : Nat) {op : Operator} {k : Int → Int → Int} {p' : Pos} (hN : X.N.Nodup) (ho : PIp X op (ipI k)) (he : VX X W e t f) (hi : X.N[i]? = some x := by rfl) (hx : Loc X.env.scope x := by first | exact Or.inl rfl | exact Or.inr rfl)
    (hf : X.fn x = true ∨ X.env.scope.names.lookup x = some .local := by first | exact .inl rfl | exact .inr rfl) : SX X W (.AugAssign (.Name x p') op e pos) (tAug i t (ipI k)) (dAug i k f) := by
  refine ⟨ps_aug hN hi hx he.p ho hf, fun G σ us H ρ τ E r hw => ?_⟩
  unfold dAug at hw
  split at hw
  · rename_i n h0
    obtain ⟨v0, hv0, w0⟩ := r.at h0
    have e0 : v0 = .int n := (show RV X.K X.mg H H v0 (.int n) [] from w0).int_inv
    subst e0
    refine ⟨_, hv0, he.s G σ us H ρ τ _ r ?_⟩
    cases e1 : f ρ with
    | none => rw [e1] at hw; exact hw.elim
    | some o =>
      rw [e1] at hw
      cases o with
      | ok d ρ' =>
        intro v H' s r' w'
        cases d <;> first | exact hw.elim | skip
        rename_i m
        rw [w'.int_inv]
        refine ⟨n, m, rfl, rfl, ?_⟩
        exact sg_name i G σ us H' ρ' τ (.int (k n m)) (.int (k n m)) _ _ (r'.flat (.int _) rfl) rfl fun σ' H'' _ _ r'' => hw σ' H'' r''
      | ex c ρ' => exact fun H' C hC r' => hw σ H' C hC r'
  · exact hw.elim
/-- name.append(e) -/
def dAppend (i : Nat) (f : Dn D) : Sn := fun ρ0 => match ρ0[i]? with
  | some (some (.lst _ _)) => match f ρ0 with
    | none => none
    | some (.ex c ρ') => some (.ex c ρ')
    | some (.ok d ρ') => match ρ'[i]? with
      | some (some (.lst true xs)) => if xs.length < big then some (.nx (ρ'.set i (some (.lst true (xs ++ [d]))))) else none
      | _ => none
  | _ => none
theorem sx_append (i : Nat) {p1 p2 p3 p4 : Pos} (he : EX X W e t f) (hN : X.N[i]? = some x := by rfl) (hv : Vis X.env.scope x := by first | exact Or.inl rfl | exact Or.inr (Or.inl rfl) | exact Or.inr (Or.inr rfl)) (hd : (x == ("__debug__" : Str)) = false := by decide)
    (hcd : (x == ("__classdict__" : Str)) = false := by decide) (hbase : attributeBase (.Name x p1) "append" X.env (eval (.Name x p1) X.env) = eval (.Name x p1) X.env := by rfl)
    (hfew : ((backTo p3 (starEach [e] X.env)).all (fun x => !x.1) && (backToKw p3 (keywordEach [] X.env)).all (fun x => x.1.isSome) && decide ([e].length + ([] : List Keyword).length + (if ([] : List Keyword).isEmpty then 0 else 1) < 30)) = true := by rfl)
    (hline : (p2.endLine == p3.line) = true := by rfl) (hs : starEach [e] X.env = (false, eval e X.env) :: starEach [] X.env := by rfl) (hplain : (backTo p3 (starEach [] X.env)).any (·.1) = false := by rfl)
    (hsw : swapsWith (.Call (.Attribute (.Name x p1) "append" p2) [e] [] p3) none p4.line X.env = pure false := by rfl) :
    SX X W (.Expr (.Call (.Attribute (.Name x p1) "append" p2) [e] [] p3) p4) (tDrop (tBM X.K "list" rAppend (tVar i) (tCons t tNil))) (dAppend i f) := by
  refine ⟨ps_expr (pe_bm PySem.F.plainAttrs_list PySem.F.slot_list_append PySem.F.type_list_append mt_append (pe_var hN hv hd hcd) (pa_cons he.p pa_nil hs) hbase hfew hline hs hplain) hsw, fun G σ us H ρ τ E r hw => ?_⟩
  unfold dAppend at hw
  split at hw
  · rename_i o xs0 h0
    obtain ⟨v0, hv0, w0⟩ := r.at h0
    have ty : tyV X.K "list" v0 H := by
      cases w0 with
      | ls hs rs => exact .inl ⟨rfl, _, SqL.of hs⟩
    refine ⟨v0, hv0, ty, he.s G σ us H ρ τ _ r ?_⟩
    cases e1 : f ρ with
    | none => rw [e1] at hw; exact hw.elim
    | some o =>
      rw [e1] at hw
      cases o with
      | ok d ρ' =>
        intro v H' s r'
        (try simp only at hw)
        split at hw
        · rename_i xs hi
          split at hw
          · rename_i hb
            obtain ⟨p, vs, e1, e2, e3, e4⟩ := r'.append hi
            rw [hv0] at e1
            cases e1
            exact ⟨p, vs, v, rfl, rfl, e2, by rw [e3, ← big_eq]; exact hb, hw _ _ e4⟩
          · exact hw.elim
        · exact hw.elim
      | ex c ρ' => exact fun H' C hC r' => hw σ H' C hC r'
  · exact hw.elim
/-- name[k] = e -/
def dSetItem (i : Nat) (f fk : Dn D) : Sn := fun ρ0 => match f ρ0 with
  | none => none
  | some (.ex c ρ') => some (.ex c ρ')
  | some (.ok d ρ1) => match ρ1[i]? with
    | some (some _) => match fk ρ1 with
      | none => none
      | some (.ex c ρ') => some (.ex c ρ')
      | some (.ok k ρ') => match ρ'[i]?, k with
        | some (some (.lst true xs)), .int n => match ixN xs.length n with
          | some j => if (plains xs && d.plain) = true then some (.nx (ρ'.set i (some (.lst true (xs.set j d))))) else none
          | none => none
        | _, _ => none
    | _ => none
theorem set_sel {vs : List V} {xs : List D} {v : V} {d : D} {j : Nat} (l : vs.length = xs.length) : SelP vs (vs.set j v) xs (xs.set j d) v d := by
  refine ⟨by simp [l], fun m u x h1 h2 => ?_⟩
  by_cases e : j = m
  · subst e
    have hl := lt_of_get h1
    rw [List.length_set] at hl
    rw [List.getElem?_set_self hl] at h1
    rw [List.getElem?_set_self (by omega)] at h2
    cases h1
    cases h2
    exact .inl ⟨rfl, rfl⟩
  · rw [List.getElem?_set_ne e] at h1 h2
    exact .inr ⟨m, h1, h2⟩
theorem sx_setItem (i : Nat) {k : Expr} {tk : TE} {fk : Dn D} {p1 p2 : Pos} (he : EX X W e t f) (hk : VX X W k tk fk) (hN : X.N[i]? = some x := by rfl) (hv : Vis X.env.scope x := by first | exact Or.inl rfl | exact Or.inr (Or.inl rfl) | exact Or.inr (Or.inr rfl)) (hd : (x == ("__debug__" : Str)) = false := by decide)
    (hcd : (x == ("__classdict__" : Str)) = false := by decide) (ha : ∀ v, assign (.Subscript (.Name x p1) k p2) X.env v = (do
      let ov ← holding [v] (eval (.Name x p1) X.env)
      let iv ← holding [v, ov] (eval k X.env)
      standAt p2
      holding [v, ov, iv] (setItem ov iv v)
      release [v, ov, iv] []) := by intro _; rfl) (hs : swapsWithSole [.Subscript (.Name x p1) k p2] e pos.line X.env = pure false := by rfl) (hw : swappedStores [.Subscript (.Name x p1) k p2] e X.env = pure none := by rfl)
    (h1 : (assignEach [.Subscript (.Name x p1) k p2] X.env).map (·.2) = [assign (.Subscript (.Name x p1) k p2) X.env] := by rfl) : SX X W (.Assign [.Subscript (.Name x p1) k p2] e pos) (tAsg t (gSub (tVar i) tk rSetL)) (dSetItem i f fk) := by
  refine ⟨ps_asg he.p (pg_sub (pe_var hN hv hd hcd) hk.p set_list ha) hs hw h1, fun G σ us H ρ τ E r hw => ?_⟩
  refine he.s G σ us H ρ τ _ r ?_
  unfold dSetItem at hw
  cases e1 : f ρ with
  | none => rw [e1] at hw; exact hw.elim
  | some o =>
    rw [e1] at hw
    cases o with
    | ex c ρ' => exact fun H' C hC r' => hw σ H' C hC r'
    | ok d ρ1 =>
      intro v H1 s1 r1
      (try simp only at hw)
      split at hw
      · rename_i d0 h0
        obtain ⟨v0, hv0, w0⟩ := r1.at h0
        refine ⟨v0, hv0, hk.s G σ (us ++ [v]) H1 ρ1 (τ ++ [d]) _ r1 ?_⟩
        cases e2 : fk ρ1 with
        | none => rw [e2] at hw; exact hw.elim
        | some o =>
          rw [e2] at hw
          cases o with
          | ex c ρ' => exact fun H' C hC r' => hw σ H' C hC r'.pop
          | ok kk ρ' =>
            intro kv H2 s2 r2 w2
            (try simp only at hw)
            split at hw
            · rename_i xs n hi
              split at hw
              · rename_i j hj
                split at hw
                · rename_i hp
                  rw [Bool.and_eq_true] at hp
                  obtain ⟨p, vs, k1, k2, k3, k4⟩ := r2.put hi hp.1 hp.2
                  rw [hv0] at k1
                  cases k1
                  exact ⟨p, vs, n, j, rfl, w2.int_inv, k2, by rw [k3]; exact hj, hw _ _ (k4 _ _ (set_sel k3))⟩
                · exact hw.elim
              · exact hw.elim
            · exact hw.elim
      · exact hw.elim
/-- name[k] op= e, of whole numbers -/
theorem get_list : PGet X (rIxL X.K) := by
  intro pins s σ H x y v u Q I rx ry h
  obtain ⟨p, xs, i, z, rfl, rfl, hq, he, q⟩ := h
  cases rx
  obtain ⟨t, rfl⟩ := ry
  obtain ⟨its, r, pl, hz⟩ := I.list hq
  obtain ⟨j, h1, h2, h3, h4, h5⟩ := atI_get he
  obtain ⟨w, ew, rw'⟩ := r.get h2
  have hl := r.length
  have hn := line63
  have fin : EP X pins σ Q w s := ⟨z, H, I, rw', q⟩
  by_cases h0 : 0 ≤ i
  · have hj : i.toNat = j := by
      rw [seqIndex_of h0 h5] at h1
      exact Option.some.inj h1
    exact wpAny_getItem_list pl.isList h0 (by omega) (by rw [hj]; simpa using ew) fin
  · have hj : (i + (its.toArray.size : Int)).toNat = j := by
      rw [seqIndex_neg (by omega) h4] at h1
      rw [List.size_toArray, ← hl]
      exact Option.some.inj h1
    exact wpAny_getItem_list_neg pl.isList (by omega) (by rw [List.size_toArray] <;> omega) (by omega) (by rw [hj]; simpa using ew) fin
def dAugItem (i : Nat) (g : Int → Int → Int) (fk f : Dn D) : Sn := fun ρ0 => match ρ0[i]? with
  | some (some _) => match fk ρ0 with
    | none => none
    | some (.ex c ρ') => some (.ex c ρ')
    | some (.ok (.int n) ρ1) => match ρ1[i]? with
      | some (some (.lst true xs0)) => match atI xs0 n with
        | some (.int m0) => match f ρ1 with
          | none => none
          | some (.ex c ρ') => some (.ex c ρ')
          | some (.ok (.int m) ρ') => match ρ'[i]? with
            | some (some (.lst true xs)) => match ixN xs.length n with
              | some j => if plains xs = true then some (.nx (ρ'.set i (some (.lst true (xs.set j (.int (g m0 m))))))) else none
              | none => none
            | _ => none
          | some (.ok _ _) => none
        | _ => none
      | _ => none
    | some (.ok _ _) => none
  | _ => none
theorem sx_augItem (i : Nat) {op : Operator} {g : Int → Int → Int} {k : Expr} {tk : TE} {fk : Dn D} {p1 p2 : Pos} (ho : PIp X op (ipI g)) (hk : VX X W k tk fk) (he : VX X W e t f) (hN : X.N[i]? = some x := by rfl) (hv : Vis X.env.scope x := by first | exact Or.inl rfl | exact Or.inr (Or.inl rfl) | exact Or.inr (Or.inr rfl)) (hd : (x == ("__debug__" : Str)) = false := by decide)
    (hcd : (x == ("__classdict__" : Str)) = false := by decide) (ha : ∀ ov iv new, augStore k ov iv new = (do holding [new, ov, iv] (setItem ov iv new); release [new, ov, iv] []; pure .next) := by intros; rfl) :
    SX X W (.AugAssign (.Subscript (.Name x p1) k p2) op e pos) (tAugS (tVar i) tk t (rIxL X.K) (ipI g) rSetL) (dAugItem i g fk f) := by
  refine ⟨ps_augS (pe_var hN hv hd hcd) hk.p get_list he.p ho set_list ha, fun G σ us H ρ τ E r hw => ?_⟩
  unfold dAugItem at hw
  split at hw
  · rename_i d0 h0
    obtain ⟨v0, hv0, _⟩ := r.at h0
    refine ⟨v0, hv0, hk.s G σ us H ρ τ _ r ?_⟩
    cases e1 : fk ρ with
    | none => rw [e1] at hw; exact hw.elim
    | some o =>
      rw [e1] at hw
      cases o with
      | ex c ρ' => exact fun H' C hC r' => hw σ H' C hC r'
      | ok kd ρ1 =>
        intro kv H1 s1 r1 w1
        cases kd <;> first | exact hw.elim | skip
        rename_i n
        rw [w1.int_inv]
        (try simp only at hw)
        split at hw
        · rename_i xs0 h1
          split at hw
          · rename_i m0 h2
            obtain ⟨v1, hv1, w1⟩ := r1.at h1
            rw [hv0] at hv1
            cases hv1
            have at_ : ∃ a vs, v0 = .ref a ∧ SqL X.K H1 a vs ∧ atI vs n = some (.int m0) := by
              cases w1 with
              | ls hs rs =>
                unfold atI at h2
                rw [Option.bind_eq_some_iff] at h2
                obtain ⟨j, j1, j2⟩ := h2
                obtain ⟨v, F, z1, z2, _⟩ := rs.get (i := j) (d := .int m0) (by rw [uns_get, j2]; rfl)
                refine ⟨_, _, rfl, SqL.of hs, ?_⟩
                unfold atI
                rw [rs.length, uns_length, j1]
                show _[j]? = _
                rw [z1, z2.int_inv]
            obtain ⟨a, vs, rfl, a1, a2⟩ := at_
            refine ⟨a, vs, n, .int m0, rfl, rfl, a1, a2, he.s G σ us H1 ρ1 τ _ r1 ?_⟩
            cases e3 : f ρ1 with
            | none => rw [e3] at hw; exact hw.elim
            | some o =>
              rw [e3] at hw
              cases o with
              | ex c ρ' => exact fun H' C hC r' => hw σ H' C hC r'
              | ok md ρ2 =>
                intro mv H2 s2 r2 w2
                cases md <;> first | exact hw.elim | skip
                rename_i m
                (try simp only at hw)
                split at hw
                · rename_i xs h3
                  split at hw
                  · rename_i j hj
                    split at hw
                    · rename_i hp
                      refine ⟨m0, m, rfl, w2.int_inv, ?_⟩
                      obtain ⟨p, vs, k1, k2, k3, k4⟩ := (r2.flat (.int (g m0 m)) rfl).put h3 hp rfl
                      rw [hv0] at k1
                      cases k1
                      exact ⟨_, vs, n, j, rfl, rfl, k2, by rw [k3]; exact hj, hw _ _ (k4 _ _ (set_sel k3))⟩
                    · exact hw.elim
                  · exact hw.elim
                · exact hw.elim
          · exact hw.elim
        · exact hw.elim
  · exact hw.elim
/-- raise X('..') -/
theorem sx_raise {C : Addr} {m : Str} {j : Nat} {p1 p2 : Pos} (hc : X.calm = true) (tk : Takes X W) (q : PySem.W.excIn X.K C [.type "ValueError", .type "Exception", .type "BaseException", .type "object"] "ValueError.__new__" = true) (gC : X.mg x = some (.ref C)) (kC : PySem.W.keepIn X.K (.ref C) = true)
    (bC : PySem.W.subIn X.K (.ref C) (.type "BaseException") = some true) (tC : PySem.W.typeIn X.K (.ref C) = some (.type "type")) (hg : Gl X x := by rfl) (hdb : (x == ("__debug__" : Str)) = false := by decide) :
    SX X W (.Raise (some (.Call (.Name x p) [.Constant (.str m) j p2] [] p1)) none pos) (fun _ σ H => W (.ref C) none σ H) (fun ρ => some (.ex x ρ)) := by
  refine ⟨ps_raise hc tk (pmk_own PySem.F.excBase_ValueError q gC kC (raises_own bC tC) hg hdb), fun G σ us H ρ τ E r hw => hw σ H C gC r⟩
end

/-! ### defs -/
def run (k n : Nat) (g : Sn) : Fd := fun ds => if ds.length = k then match g (ds.map some ++ List.replicate (n - k) none) with
  | some (.nx _) => some (.rt .non)
  | some (.rt d _) => some (.rt d)
  | some (.ex c _) => some (.ex c)
  | _ => none else none
theorem run_len {k n : Nat} {g : Sn} : ∀ (ds : List D) (r : Fr), run k n g ds = some r → ds.length = k := fun ds r h => by
  unfold run at h
  split at h
  · assumption
  · cases h
theorem RelW.aft {K : PySem.W.Frag} {mg : Str → Option Value} {G : Gt} {B H : Hp} {F : Nat → List Addr} {L : List (Option V)} {R : List (Option D)} (W : RelW K mg G B F H L R) : Aft G.B0 G.H0 B H := ⟨W.sh, W.sb, W.sbh, W.tup, W.new⟩
theorem fn_ok {P : Program} {w : World} {K : PySem.W.Frag} {mg : Str → Option Value} {base : Heap} {y qual : Str} {st : Stmt} {f : Addr} {fd : FuncData} {N ps : List Str} {k : Nat} {g : Sn} (F : Fun K y qual st f fd) (S : FnScope N ps (defScope st)) (hn : ps.length ≤ N.length)
    (hb : ∀ (cdv : Value) (A : Around) (outer : List Env) (s : Shared) (H : Hp) (E : XK), Room k (A.deeper (PyProof.Rows.envOfC qual (defScope st) s.heap.objs.size f cdv)) →
      ∃ t, BX (cxOf (L2.CX P w) P w K mg base N qual (defScope st) f cdv A outer s H E) (fun cls d _ H => E cls d H) (defBody st) t g) : FnOk P w K mg base (L2.CX P w) (k + 1) f fd ps (spD K mg ps.length (run ps.length N.length g)) := by
  refine F.okX S (fun vs H Q E h => h.1) (fun cdv A outer s H vs Q E hr h => ?_)
  obtain ⟨t, hp⟩ := hb cdv A outer s H E hr
  refine ⟨t, hp.p, ?_⟩
  obtain ⟨hl, B0, ds, s0, t0, rv, h⟩ := h
  have hd : ds.length = ps.length := by rw [← rv.length]; exact hl
  -- the entry
  have r0 : RL K mg ⟨B0, H⟩ H (L2.start N vs) [] (ds.map some ++ List.replicate (N.length - ps.length) none) [] := by
    refine ⟨by simp [L2.start, hl, hd], B0, fun _ => [], ⟨by simp [L2.start, hl, hd], Same.refl _, Same.refl _, s0, fun p hp => .inl hp, t0, fun i p hp => absurd hp (by simp), fun _ => List.nodup_nil, fun i j p hp => absurd hp (by simp), fun i d e => ?_⟩⟩
    simp only [List.map_nil, List.append_nil] at e ⊢
    by_cases hi : i < ds.length
    · rw [List.getElem?_append_left (by simpa using hi), List.getElem?_map, List.getElem?_eq_getElem hi] at e
      cases e
      obtain ⟨v, E, e1, e2, e3⟩ := rv.get (List.getElem?_eq_getElem hi)
      have : E = [] := List.eq_nil_iff_forall_not_mem.mpr fun p hp => absurd (e3 p hp) (by simp)
      subst this
      refine ⟨v, ?_, e2⟩
      unfold L2.start
      rw [List.getElem?_append_left (by rw [List.length_map, rv.length]; exact hi), List.getElem?_map, e1]
      rfl
    · rw [List.getElem?_append_right (by simpa using hi)] at e
      rw [List.getElem?_replicate] at e
      split at e <;> cases e
  refine hp.s ⟨B0, H⟩ (L2.start N vs) [] H _ [] _ r0 ?_
  unfold run at h
  rw [if_pos hd] at h
  cases eg : g (ds.map some ++ List.replicate (N.length - ps.length) none) with
  | none => simp only [eg] at h
  | some fl =>
    cases fl with
    | nx ρ' =>
      simp only [eg] at h
      intro σ' H' r'
      obtain ⟨B, F', W⟩ := r'.rel
      exact h .non H' B [] W.aft (fun p hp => absurd hp (by simp)) List.nodup_nil .non
    | rt d ρ' =>
      simp only [eg] at h
      intro σ' v H' r'
      obtain ⟨B, F', W⟩ := r'.rel
      obtain ⟨u, e1, e2⟩ := W.ent ρ'.length d (by rw [List.getElem?_append_right (Nat.le_refl _)]; simp)
      rw [List.getElem?_append_right (by rw [r'.ls]; exact Nat.le_refl _)] at e1
      simp [r'.ls] at e1
      subst e1
      exact h v H' B (F' ρ'.length) W.aft (fun p hp => W.owf _ p hp) (W.nd _) e2
    | bk ρ' => simp only [eg] at h
    | ct ρ' => simp only [eg] at h
    | ex c ρ' =>
      simp only [eg] at h
      intro σ' H' C hC r'
      obtain ⟨B, F', W⟩ := r'.rel
      exact h H' B C W.aft hC
/-- what law(script) promises: for so many whole numbers at most the answer is True -/
def spLaw (n : Nat) (K : PySem.W.Frag) : Sp := fun vs H Q _ => ∃ (a : Addr) (ns : List Int), vs = [.ref a] ∧ SqL K H a (ns.map V.int) ∧ ns.length ≤ n ∧ ∀ H', Q (.bl true) H'
theorem law_ok {P : Program} {w : World} {K : PySem.W.Frag} {mg : Str → Option Value} {base : Heap} {CX : CXT} {k n : Nat} {f : Addr} {fd : FuncData} {ps : List Str} {g : Fd} (F : FnOk P w K mg base CX k f fd ps (spD K mg 1 g)) (h : ∀ ns : List Int, ns.length ≤ n → g [.sc ns] = some (.rt (.bl true))) : FnOk P w K mg base CX k f fd ps (spLaw n K) := F.imp fun vs H Q E hs => by
  obtain ⟨a, ns, rfl, hS, hl, q⟩ := hs
  refine ⟨rfl, H, [.sc ns], Same.refl _, fun p o e _ => e, RVs.one (.sc hS), ?_⟩
  rw [h ns hl]
  intro v H' B' F A nF nd r
  rw [r.bl_inv]
  exact q H'
end Ly

set_option Elab.async false
set_option linter.all false
set_option maxRecDepth 100000
/-! Ly, part K: what the generated texts name. -/
namespace Ly
open PySem PySem.Spec L2
theorem bt_all : bootBuiltins "all" = some (.builtin "all") := by decide +kernel
theorem bt_any : bootBuiltins "any" = some (.builtin "any") := by decide +kernel
theorem bt_sum : bootBuiltins "sum" = some (.builtin "sum") := by decide +kernel
theorem bt_min : bootBuiltins "min" = some (.builtin "min") := by decide +kernel
theorem bt_max : bootBuiltins "max" = some (.builtin "max") := by decide +kernel
theorem bt_abs : bootBuiltins "abs" = some (.builtin "abs") := by decide +kernel
theorem bt_int : bootBuiltins "int" = some (.type "int") := by decide +kernel
theorem bt_bool : bootBuiltins "bool" = some (.type "bool") := by decide +kernel
theorem bt_list : bootBuiltins "list" = some (.type "list") := by decide +kernel
theorem bt_tuple : bootBuiltins "tuple" = some (.type "tuple") := by decide +kernel
theorem bt_str : bootBuiltins "str" = some (.type "str") := by decide +kernel
/-- a def by its name, with what it is worth -/
def Cal (P : Program) (w : World) (K : PySem.W.Frag) (mg : Str → Option Value) (base : Heap) (x : Str) (k : Nat) (ps : List Str) (g : Fd) : Prop :=
  ∃ f fd, FnOk P w K mg base (L2.CX P w) k f fd ps (spD K mg ps.length g) ∧ mg x = some (.ref f) ∧ PySem.W.keepIn K (.ref f) = true ∧ Binds K fd ps []
/-- a module's number -/
def IsI (mg : Str → Option Value) (x : Str) (i : Int) : Prop := ∃ t, mg x = some (.int i t)
/-- an own class of errors over ValueError -/
structure ExcA (K : PySem.W.Frag) (mg : Str → Option Value) (x : Str) (C : Addr) : Prop where
  q : PySem.W.excIn K C [.type "ValueError", .type "Exception", .type "BaseException", .type "object"] "ValueError.__new__" = true
  g : mg x = some (.ref C)
  k : PySem.W.keepIn K (.ref C) = true
  b : PySem.W.subIn K (.ref C) (.type "BaseException") = some true
  t : PySem.W.typeIn K (.ref C) = some (.type "type")
def ExcT (K : PySem.W.Frag) (mg : Str → Option Value) (x : Str) : Prop := ∃ C, ExcA K mg x C
section
variable {X : Cx} {W : WX} {e a b : Expr} {es : List Expr} {t ta tb : TE} {f fa fb : Dn D} {pos p : Pos} {x : Str}
theorem ex_callC {k n : Nat} {g : Sn} {m : Nat} {ps : List Str} {ta : TA} {fa : Dn (List D)} (C : Cal X.prog X.w X.K X.mg X.base x k ps (run m n g)) (tk : Takes X W) (hr : Room k X.A) (ha : WA X W (e :: es) ta fa) (hm : m = ps.length := by rfl) (hg : Gl X x := by rfl) (hdb : (x == ("__debug__" : Str)) = false := by decide)
    (he : starEach (e :: es) X.env = (false, eval e X.env) :: starEach es X.env := by rfl) (hpl : (backTo pos (starEach es X.env)).any (·.1) = false := by rfl) :
    EX X W (.Call (.Name x p) (e :: es) [] pos) (tCallS (spD X.K X.mg ps.length (run m n g)) (WE W) ta) (dCall (run m n g) fa) := by
  obtain ⟨f, fd, F, h1, h2, h3⟩ := C
  subst hm
  exact ex_call (base := X.base) F (fun ds r h => run_len ds r h) tk hr h1 h2 h3 ha hg hdb he hpl
theorem vx_globI {i : Int} (h : IsI X.mg x i) (hg : Gl X x := by rfl) (hd : (x == ("__debug__" : Str)) = false := by decide) : VX X W (.Name x pos) (tC (.int i)) (ret (.int i)) := by
  obtain ⟨tk, hm⟩ := h
  exact ⟨pe_glob hg hm ⟨tk, rfl⟩ hd, fun G σ us H ρ τ Q r hw => hw _ H (Same.refl _) r (.int i)⟩
/-- -e -/
def dNeg (f : Dn D) : Dn D := bnd f fun v => match v with | .int i => ret (.int (-i)) | _ => fun _ => none
theorem vx_neg {f : Dn D} {tt : TE} (he : VX X W e tt f) : VX X W (.UnaryOp .USub e pos) (tUn (rU fun i => .int (-i)) tt) (dNeg f) := by
  refine ⟨pe_un un_neg he.p, fun G σ us H ρ τ Q r hw => ?_⟩
  refine he.s G σ us H ρ τ _ r (wp_mono (wp_bnd hw) (fun k ρ1 q v H1 s1 r1 w1 => ?_) fun _ _ q => q)
  split at q
  · cases w1
    exact ⟨_, rfl, q _ H1 s1 r1 (.int _)⟩
  · exact q.elim
/-- raise X('..') by the class's facts -/
def tRaiseX (mg : Str → Option Value) (x : Str) (W : WX) : TS := fun _ σ H => ∃ C, mg x = some (.ref C) ∧ W (.ref C) none σ H
theorem sx_raiseX {m : Str} {j : Nat} {p1 p2 : Pos} (hc : X.calm = true) (tk : Takes X W) (T : ExcT X.K X.mg x) (hg : Gl X x := by rfl) (hdb : (x == ("__debug__" : Str)) = false := by decide) :
    SX X W (.Raise (some (.Call (.Name x p) [.Constant (.str m) j p2] [] p1)) none pos) (tRaiseX X.mg x W) (fun ρ => some (.ex x ρ)) := by
  obtain ⟨C, q, gC, kC, bC, tC⟩ := T
  have h := sx_raise (m := m) (j := j) (p := p) (p1 := p1) (p2 := p2) (pos := pos) (W := W) hc tk q gC kC bC tC hg hdb
  refine ⟨⟨fun pins s σ H E I hs => ?_⟩, fun G σ us H ρ τ E r hw => ⟨C, gC, hw σ H C gC r⟩⟩
  obtain ⟨C', g', hw⟩ := hs
  rw [gC] at g'
  cases g'
  exact h.p.run pins s σ H E I hw
/-- name = [.. for ..] on one line -/
theorem sx_setComp (i : Nat) {y : Str} {py spos : Pos} {elt tg iter : Expr} {ifs : List Expr} {scope : Scope} {own : List (Str × Nat)} {wi : TI} {fi : Dn (List D)} {ft : Dn Bool} {fe : Dn D} {ix : List Nat} {h : D → Rho → Option Rho}
    {g : Shared → Hp → Addr → List (Str × Addr) → List Addr → TG} {tt : Shared → Hp → Addr → List (Str × Addr) → List Addr → TT} {te : Shared → Hp → Addr → List (Str × Addr) → List Addr → TE}
    (hc : X.calm = true) (hN : X.N.Nodup) (hi : IX X W tg iter wi fi) (ok : BlkOk X.N X.env.scope scope own)
    (hg : ∀ (s : Shared) (H : Hp) (C : Addr) (cl : List (Str × Addr)) (fp : List Addr), GX (X.blk s H scope (compEnvC scope cl C X.env) fp) tg (g s H C cl fp) ix h) (ht : ∀ (s : Shared) (H : Hp) (C : Addr) (cl : List (Str × Addr)) (fp : List Addr), KX (X.blk s H scope (compEnvC scope cl C X.env) fp) WF ifs (tt s H C cl fp) ft)
    (he : ∀ (s : Shared) (H : Hp) (C : Addr) (cl : List (Str × Addr)) (fp : List Addr), EX (X.blk s H scope (compEnvC scope cl C X.env) fp) WF elt (te s H C cl fp) fe) (hix : ∀ i ∈ ix, i ∈ own.map (·.2))
    (hy : X.N[i]? = some y := by rfl) (hyl : X.env.scope.names.lookup y = some .local := by rfl) (hsw : swapsWith (.ListComp elt [⟨tg, iter, ifs, 0⟩] scope pos) (some (.Name y py)) spos.line X.env = pure true := by exact sw_true rfl rfl rfl (by decide +kernel)) (hs : ∀ x, foldedSetIterable iter X.env x = pure x := by intro _; rfl)
    (eg : ∀ s H C cl fp, g s H C cl fp = g {} (fun _ => none) 0 [] [] := by intros; rfl) (et : ∀ s H C cl fp, tt s H C cl fp = tt {} (fun _ => none) 0 [] [] := by intros; rfl) (ee : ∀ s H C cl fp, te s H C cl fp = te {} (fun _ => none) 0 [] [] := by intros; rfl) :
    SX X W (.Assign [.Name y py] (.ListComp elt [⟨tg, iter, ifs, 0⟩] scope pos) spos) (tAsg (tLc wi (g {} (fun _ => none) 0 [] []) (tt {} (fun _ => none) 0 [] []) (te {} (fun _ => none) 0 [] []) (own.map (·.2))) (gName i)) (dSet i (dComp (own.map (·.2)) fi h ft fe)) :=
  ⟨ps_setLc hc hN hy hyl hsw hi.p ok (fun s H C cl fp => eg s H C cl fp ▸ (hg s H C cl fp).p) (fun s H C cl fp => et s H C cl fp ▸ (ht s H C cl fp).p) (fun s H C cl fp => ee s H C cl fp ▸ (he s H C cl fp).p) hs,
    ss_set i (se_comp (X := X) (own.map (·.2)) hi.s (hg {} (fun _ => none) 0 [] []).s (ht {} (fun _ => none) 0 [] []).s (he {} (fun _ => none) 0 [] []).s hix)⟩
end
end Ly

set_option Elab.async false
set_option linter.all false
set_option maxRecDepth 100000
/-! Ly, part L: values that lean on no list, more of lists. -/
namespace Ly
open PySem PySem.Spec L2
mutual
/-- no list, no dict, no instance within -/
def D.tight : D → Bool
  | .tup xs => tights xs
  | .non => true
  | .bl _ => true
  | .int _ => true
  | .str _ => true
  | .fn _ => true
  | _ => false
def tights : List D → Bool
  | [] => true
  | x :: xs => x.tight && tights xs
end
section
variable {K : PySem.W.Frag} {mg : Str → Option Value} {G : Gt} {B H : Hp} {L : List (Option V)} {R : List (Option D)} {v : V} {d : D} {i : Nat} {σ : St} {us vs vs' : List V} {ρ : Rho} {τ xs xs' : List D}
theorem SqT.down {a : Addr} (t : TupIn B H) (h : SqT K H a vs) : SqT K B a vs := by
  rcases h with (h | ⟨o, h⟩) | h
  · exact .inl (.inl (t _ _ h rfl))
  · exact .inl (.inr ⟨o, t _ _ h rfl⟩)
  · exact .inr h
mutual
theorem tight_down (t : TupIn B H) : ∀ (d : D) {v : V} {F : List Addr}, RV K mg H H v d F → d.tight = true → F = [] ∧ RV K mg B H v d []
  | .non, _, _, .non, _ => ⟨rfl, .non⟩
  | .bl b, _, _, .bl _, _ => ⟨rfl, .bl _⟩
  | .int b, _, _, .int _, _ => ⟨rfl, .int _⟩
  | .str b, _, _, .str _, _ => ⟨rfl, .str _⟩
  | .fn n, _, _, .fn h, _ => ⟨rfl, .fn h⟩
  | .tup xs, _, _, .tp hs rs, ht => by
    obtain ⟨e, q⟩ := tights_down t xs rs ht
    subst e
    exact ⟨rfl, .tp (Ly.SqT.down t hs) q⟩
  | .sc ns, _, _, _, ht => by cases ht
  | .lst o xs, _, _, _, ht => by cases ht
  | .dic o ks xs, _, _, _, ht => by cases ht
  | .dik o ks xs, _, _, _, ht => by cases ht
  | .ins o c ns xs, _, _, _, ht => by cases ht
theorem tights_down (t : TupIn B H) : ∀ (xs : List D) {vs : List V} {F : List Addr}, RVs K mg H H vs xs F → tights xs = true → F = [] ∧ RVs K mg B H vs xs []
  | [], _, _, .nil, _ => ⟨rfl, .nil⟩
  | x :: xs, _, _, .cons r rs, ht => by
    unfold tights at ht
    rw [Bool.and_eq_true] at ht
    obtain ⟨e1, q1⟩ := tight_down t x r ht.1
    obtain ⟨e2, q2⟩ := tights_down t xs rs ht.2
    subst e1 e2
    exact ⟨rfl, .cons (F := []) (F' := []) q1 q2⟩
end
theorem Rel.tights (r : Rel K mg G H L R) (h : RVs K mg H H vs xs []) (ht : Ly.tights xs = true) : Rel K mg G H (L ++ vs.map some) (R ++ xs.map some) := by
  obtain ⟨B, F, W⟩ := r
  exact W.pushs (tights_down W.tup xs h ht).2 (fun _ h => nomatch h) List.nodup_nil (fun _ h => nomatch h)
theorem RL.tight (r : RL K mg G H σ us ρ τ) (h : RV K mg H H v d []) (ht : d.tight = true) : RL K mg G H σ (us ++ [v]) ρ (τ ++ [d]) :=
  .ofSnoc r.ls (by
    have := r.rel.tights (vs := [v]) (xs := [d]) (.cons (F := []) (F' := []) h .nil) (by simp [Ly.tights, ht])
    simpa using this)
theorem RL.tights (r : RL K mg G H σ us ρ τ) (h : RVs K mg H H vs xs []) (ht : Ly.tights xs = true) : RL K mg G H σ (us ++ vs) ρ (τ ++ xs) :=
  ⟨r.ls, by
    have := r.rel.tights h ht
    simpa using this⟩
mutual
theorem tight_plain : ∀ d : D, d.tight = true → d.plain = true
  | .tup ys, h => tights_plain ys h
  | .non, _ => rfl
  | .bl _, _ => rfl
  | .int _, _ => rfl
  | .str _, _ => rfl
  | .fn _, _ => rfl
  | .sc _, h => by cases h
  | .lst _ _, h => by cases h
  | .dic _ _ _, h => by cases h
  | .dik _ _ _, h => by cases h
  | .ins _ _ _ _, h => by cases h
theorem tights_plain : ∀ xs : List D, tights xs = true → plains xs = true
  | [], _ => rfl
  | x :: xs, h => by
    unfold tights at h
    rw [Bool.and_eq_true] at h
    unfold plains
    rw [Bool.and_eq_true]
    exact ⟨tight_plain x h.1, tights_plain xs h.2⟩
end
/-- a new list of looked at values -/
theorem RL.newTight {p : Addr} (r : RL K mg G H σ us ρ τ) (h : RVs K mg H H vs xs []) (ht : Ly.tights xs = true) (hp : H p = none) : RL K mg G (upd H p (.lst vs)) σ (us ++ [.ref p]) ρ (τ ++ [.lst true xs]) := by
  have q := r.tights h ht
  have hl := r.lu
  exact q.newLst hl hp
end
section
variable {X : Cx} {W : WX} {e a b c : Expr} {es : List Expr} {t ta tb : TE} {tc : TT} {f fa fb : Dn D} {fc : Dn Bool} {pos p : Pos} {x : Str}
/-- a looked at value that leans on no list is kept -/
def dKeep (f : Dn D) : Dn D := bnd f fun d => if d.tight then ret d else stuck
theorem VX.keepT (h : VX X W e t f) : EX X W e t (dKeep f) := ⟨h.p, fun G σ us H ρ τ Q r hw => h.s G σ us H ρ τ Q r (wp_mono (wp_bnd hw) (fun d ρ' q v H' s r' w => by
  split at q
  · rename_i hf
    exact q v H' s (r'.tight w hf)
  · exact q.elim) fun _ _ q => q)⟩
/-- xs + ys -/
def catD : D → D → Option D
  | .lst _ xs, .lst _ ys => if (tights xs && tights ys && decide (xs.length + ys.length ≤ big)) = true then some (.lst true (xs ++ ys)) else none
  | _, _ => none
theorem catD_some {d1 d2 z : D} (h : catD d1 d2 = some z) : ∃ o1 xs o2 ys, d1 = .lst o1 xs ∧ d2 = .lst o2 ys ∧ tights xs = true ∧ tights ys = true ∧ xs.length + ys.length ≤ big ∧ z = .lst true (xs ++ ys) := by
  unfold catD at h
  split at h
  · rename_i o1 xs o2 ys
    split at h
    · rename_i hc
      simp only [Bool.and_eq_true, decide_eq_true_eq] at hc
      cases h
      exact ⟨o1, xs, o2, ys, rfl, rfl, hc.1.1, hc.1.2, hc.2, rfl⟩
    · cases h
  · cases h
theorem rv_lst {K : PySem.W.Frag} {mg : Str → Option Value} {H : Hp} {v : V} {o : Bool} {xs : List D} (h : RV K mg H H v (.lst o xs) []) : ∃ q vs, v = .ref q ∧ H q = some (.lst vs) ∧ RVs K mg H H vs xs [] := by
  cases h with
  | ls hb rs => exact ⟨_, _, rfl, hb, rs⟩
def dCat (fa fb : Dn D) : Dn D := bnd fa fun x => bnd fb fun y => lif (catD x y)
theorem tights_app : ∀ {xs ys : List D}, tights xs = true → tights ys = true → tights (xs ++ ys) = true
  | [], _, _, h => h
  | x :: xs, ys, h1, h2 => by
    simp only [tights, Bool.and_eq_true] at h1
    simp only [List.cons_append, tights, Bool.and_eq_true]
    exact ⟨h1.1, tights_app h1.2 h2⟩
theorem RVs.app {K : PySem.W.Frag} {mg : Str → Option Value} {B H : Hp} : ∀ {vs ws : List V} {xs ys : List D}, RVs K mg B H vs xs [] → RVs K mg B H ws ys [] → RVs K mg B H (vs ++ ws) (xs ++ ys) []
  | [], ws, [], ys, _, h => h
  | v :: vs, ws, x :: xs, ys, h, h2 => by
    generalize hF : ([] : List Addr) = F at h
    cases h with
    | cons r rs =>
      obtain ⟨e1, e2⟩ := List.append_eq_nil_iff.mp hF.symm
      subst e1 e2
      exact .cons (F := []) (F' := []) r (RVs.app rs h2)
theorem RVs.lens {K : PySem.W.Frag} {mg : Str → Option Value} {B H : Hp} : ∀ {vs : List V} {xs : List D} {F : List Addr}, RVs K mg B H vs xs F → vs.length = xs.length
  | _, _, _, .nil => rfl
  | _, _, _, .cons _ rs => by simp [RVs.lens rs]
theorem ex_cat (ha : VX X W a ta fa) (hb : VX X W b tb fb) : EX X W (.BinOp a .Add b pos) (tOp rCat ta tb) (dCat fa fb) := by
  refine ⟨pe_op op_cat ha.p hb.p, fun G σ us H ρ τ Q r hw => ?_⟩
  refine ha.s G σ us H ρ τ _ r (wp_mono (wp_bnd hw) (fun d1 ρ1 q v1 H1 s1 r1 w1 => ?_) fun _ _ q => q)
  refine hb.s G σ us H1 ρ1 τ _ r1 (wp_mono (wp_bnd q) (fun d2 ρ2 q2 v2 H2 s2 r2 w2 => ?_) fun _ _ q => q)
  obtain ⟨z, h1, h2⟩ := wp_lif q2
  obtain ⟨o1, xs, o2, ys, rfl, rfl, t1, t2, hl, rfl⟩ := catD_some h1
  obtain ⟨q1, vs, rfl, k1, m1⟩ := rv_lst (w1.up s2)
  obtain ⟨q2, ws, rfl, k2, m2⟩ := rv_lst w2
  refine ⟨q1, q2, vs, ws, rfl, rfl, k1, k2, by rw [m1.lens, m2.lens, ← big_eq]; exact hl, fun p hp => ?_⟩
  exact h2 _ _ ((s1.trans s2).trans (Ly.same_upd hp)) (r2.newTight (m1.app m2) (tights_app t1 t2) hp)
/-- sorted(xs), of whole numbers -/
def sortI (ns : List Int) : List Int := ns.mergeSort (fun a b => decide (a ≤ b))
theorem sortI_perm (ns : List Int) : (sortI ns).Perm ns := List.mergeSort_perm _ _
theorem sortI_srt (ns : List Int) : (sortI ns).Pairwise (· ≤ ·) := by
  have := List.pairwise_mergeSort (le := fun a b : Int => decide (a ≤ b)) (fun a b c h1 h2 => by
    simp only [decide_eq_true_eq] at *
    omega) (fun a b => by
    simp only [Bool.or_eq_true, decide_eq_true_eq]
    omega) ns
  exact this.imp fun h => by simpa using h
theorem srt_uniq : ∀ {xs ys : List Int}, xs.Perm ys → xs.Pairwise (· ≤ ·) → ys.Pairwise (· ≤ ·) → xs = ys
  | [], ys, p, _, _ => (List.nil_perm.mp p).symm
  | x :: xs, [], p, _, _ => absurd p.length_eq (by simp)
  | x :: xs, y :: ys, p, h1, h2 => by
    rw [List.pairwise_cons] at h1 h2
    have e : x = y := by
      have a : x ≤ y := by
        rcases List.mem_cons.mp (p.mem_iff.mpr (by simp : y ∈ y :: ys)) with h | h
        · omega
        · exact h1.1 y h
      have b : y ≤ x := by
        rcases List.mem_cons.mp (p.mem_iff.mp (by simp : x ∈ x :: xs)) with h | h
        · omega
        · exact h2.1 x h
      omega
    subst e
    rw [srt_uniq (List.Perm.cons_inv p) h1.2 h2.2]
def sortD : D → Option D
  | .lst _ xs => (intsOf xs).map fun ns => .lst true ((sortI ns).map D.int)
  | _ => none
theorem intsOf_some : ∀ {xs : List D} {ns : List Int}, intsOf xs = some ns → xs = ns.map D.int
  | [], ns, h => by cases h; rfl
  | x :: xs, ns, h => by
    cases x <;> first | cases h | skip
    rename_i i
    rw [intsOf] at h
    cases e : intsOf xs with
    | none => rw [e] at h; cases h
    | some ms => rw [e] at h; cases h; rw [intsOf_some e]; rfl
theorem ints_tight : ∀ ns : List Int, tights (ns.map D.int) = true
  | [] => rfl
  | n :: ns => by simp only [List.map, tights, D.tight, Bool.true_and]; exact ints_tight ns
theorem rvs_ints {K : PySem.W.Frag} {mg : Str → Option Value} {B H : Hp} : ∀ ns : List Int, RVs K mg B H (ns.map V.int) (ns.map D.int) []
  | [] => .nil
  | n :: ns => .cons (F := []) (F' := []) (.int n) (rvs_ints ns)
theorem rvs_ints_inv {K : PySem.W.Frag} {mg : Str → Option Value} {B H : Hp} : ∀ {ns : List Int} {vs : List V} {F : List Addr}, RVs K mg B H vs (ns.map D.int) F → vs = ns.map V.int
  | [], _, _, .nil => rfl
  | n :: ns, _, _, .cons r rs => by
    cases r
    rw [rvs_ints_inv rs]
    rfl
def dSorted (f : Dn D) : Dn D := bnd f fun d => lif (sortD d)
theorem bt_sorted : bootBuiltins "sorted" = some (.builtin "sorted") := by decide +kernel
theorem ex_sorted (hm : X.mg "sorted" = none) (ha : VX X W a ta fa) (hgl : Gl X "sorted" := by rfl) (he : starEach [a] X.env = (false, eval a X.env) :: starEach [] X.env := by rfl) (hpl : (backTo pos (starEach [] X.env)).any (·.1) = false := by rfl) :
    EX X W (.Call (.Name "sorted" p) [a] [] pos) (tCB (rSortedI X.K) (tCons ta tNil)) (dSorted fa) := by
  refine ⟨pe_callB cr_sortedI hgl hm bt_sorted (pa_cons ha.p pa_nil he) (by decide) (by decide) he hpl, fun G σ us H ρ τ Q r hw => ?_⟩
  refine ha.s G σ us H ρ τ _ r (wp_mono (wp_bnd hw) (fun d ρ1 q v H1 s1 r1 w1 => ?_) fun _ _ q => q)
  obtain ⟨z, h1, h2⟩ := wp_lif q
  unfold sortD at h1
  split at h1
  · rename_i o xs
    cases e : intsOf xs with
    | none => rw [e] at h1; cases h1
    | some ns =>
      rw [e] at h1
      cases h1
      have ex := intsOf_some e
      subst ex
      obtain ⟨a', vs, rfl, k1, m1⟩ := rv_lst w1
      have ev := rvs_ints_inv m1
      subst ev
      refine ⟨a', ns, rfl, SqL.of k1, fun ns' p hp hs hn => ?_⟩
      have : ns' = sortI ns := srt_uniq (hp.trans (sortI_perm ns).symm) hs (sortI_srt ns)
      subst this
      exact h2 _ _ (s1.trans (Ly.same_upd hn)) (r1.newTight (rvs_ints _) (ints_tight _) hn)
  · cases h1
/-! ### lists changed in their place -/
section
variable {st : Stmt}
/-- name.clear() -/
def dClear (i : Nat) : Sn := fun ρ => match ρ[i]? with
  | some (some (.lst true xs)) => if plains xs = true then some (.nx (ρ.set i (some (.lst true [])))) else none
  | _ => none
theorem sx_clear (i : Nat) {p1 p2 p3 p4 : Pos} (hN : X.N[i]? = some x := by rfl) (hv : Vis X.env.scope x := by first | exact Or.inl rfl | exact Or.inr (Or.inl rfl) | exact Or.inr (Or.inr rfl)) (hd : (x == ("__debug__" : Str)) = false := by decide)
    (hcd : (x == ("__classdict__" : Str)) = false := by decide) (hbase : attributeBase (.Name x p1) "clear" X.env (eval (.Name x p1) X.env) = eval (.Name x p1) X.env := by rfl)
    (hline : (p2.endLine == p3.line) = true := by rfl)
    (hsw : swapsWith (.Call (.Attribute (.Name x p1) "clear" p2) [] [] p3) none p4.line X.env = pure false := by rfl) :
    SX X W (.Expr (.Call (.Attribute (.Name x p1) "clear" p2) [] [] p3) p4) (tDrop (tBM0 X.K "list" rClear (tVar i))) (dClear i) := by
  refine ⟨ps_expr (pe_bm0 PySem.F.plainAttrs_list PySem.F.slot_list_clear PySem.F.type_list_clear mt_clear (pe_var hN hv hd hcd) hbase hline) hsw, fun G σ us H ρ τ E r hw => ?_⟩
  unfold dClear at hw
  split at hw
  · rename_i xs h0
    split at hw
    · rename_i hp
      obtain ⟨p, vs, e1, e2, e3, e4⟩ := r.mutL h0
      refine ⟨.ref p, e1, .inl ⟨rfl, _, SqL.of e2⟩, p, vs, rfl, rfl, e2, ?_⟩
      exact hw _ _ (e4 [] [] (fun _ _ => .nil) hp)
    · exact hw.elim
  · exact hw.elim
/-- name.insert(k, e) -/
def dInsert (i : Nat) (fk f : Dn D) : Sn := fun ρ0 => match ρ0[i]? with
  | some (some (.lst _ _)) => match fk ρ0 with
    | none => none
    | some (.ex c ρ') => some (.ex c ρ')
    | some (.ok (.int n) ρ1) => match f ρ1 with
      | none => none
      | some (.ex c ρ') => some (.ex c ρ')
      | some (.ok d ρ') => match ρ'[i]? with
        | some (some (.lst true xs)) => if (decide (0 ≤ n) && decide (n ≤ 16777216) && decide (xs.length < big) && plains xs && d.plain) = true then some (.nx (ρ'.set i (some (.lst true (xs.take n.toNat ++ [d] ++ xs.drop n.toNat))))) else none
        | _ => none
    | some (.ok _ _) => none
  | _ => none
theorem ins_sel {vs : List V} {xs : List D} {v : V} {d : D} {n : Nat} (l : vs.length = xs.length) : SelP vs (vs.take n ++ [v] ++ vs.drop n) xs (xs.take n ++ [d] ++ xs.drop n) v d := by
  refine ⟨by simp [l], fun m u x h1 h2 => ?_⟩
  have ht : (vs.take n).length = (xs.take n).length := by simp [l]
  by_cases c1 : m < (vs.take n).length
  · rw [List.append_assoc, List.getElem?_append_left c1, List.getElem?_take] at h1
    rw [List.append_assoc, List.getElem?_append_left (by omega), List.getElem?_take] at h2
    split at h1
    · rename_i c
      rw [if_pos c] at h2
      exact .inr ⟨m, h1, h2⟩
    · cases h1
  · rw [List.append_assoc, List.getElem?_append_right (by omega)] at h1 h2
    rw [← ht] at h2
    cases e : m - (vs.take n).length with
    | zero =>
      rw [e] at h1 h2
      simp at h1 h2
      exact .inl ⟨h1.symm, h2.symm⟩
    | succ k =>
      rw [e] at h1 h2
      simp only [List.singleton_append, List.getElem?_cons_succ, List.getElem?_drop] at h1 h2
      exact .inr ⟨n + k, h1, h2⟩
theorem sx_insert (i : Nat) {k : Expr} {tk : TE} {fk : Dn D} {p1 p2 p3 p4 : Pos} (hk : VX X W k tk fk) (he : EX X W e t f) (hN : X.N[i]? = some x := by rfl) (hv : Vis X.env.scope x := by first | exact Or.inl rfl | exact Or.inr (Or.inl rfl) | exact Or.inr (Or.inr rfl)) (hd : (x == ("__debug__" : Str)) = false := by decide)
    (hcd : (x == ("__classdict__" : Str)) = false := by decide) (hbase : attributeBase (.Name x p1) "insert" X.env (eval (.Name x p1) X.env) = eval (.Name x p1) X.env := by rfl)
    (hfew : ((backTo p3 (starEach [k, e] X.env)).all (fun x => !x.1) && (backToKw p3 (keywordEach [] X.env)).all (fun x => x.1.isSome) && decide ([k, e].length + ([] : List Keyword).length + (if ([] : List Keyword).isEmpty then 0 else 1) < 30)) = true := by rfl)
    (hline : (p2.endLine == p3.line) = true := by rfl) (hs : starEach [k, e] X.env = (false, eval k X.env) :: starEach [e] X.env := by rfl) (hs2 : starEach [e] X.env = (false, eval e X.env) :: starEach [] X.env := by rfl) (hplain : (backTo p3 (starEach [e] X.env)).any (·.1) = false := by rfl)
    (hsw : swapsWith (.Call (.Attribute (.Name x p1) "insert" p2) [k, e] [] p3) none p4.line X.env = pure false := by rfl) :
    SX X W (.Expr (.Call (.Attribute (.Name x p1) "insert" p2) [k, e] [] p3) p4) (tDrop (tBM X.K "list" (fun x vs H Q => ∃ (l : Addr) (xs : List V) (i : Int) (y : V), x = .ref l ∧ vs = [.int i, y] ∧ H l = some (.lst xs) ∧ xs.length < sizeLine ∧ 0 ≤ i ∧ i < 2 ^ 63 ∧
    Q .non (upd H l (.lst (xs.take i.toNat ++ [y] ++ xs.drop i.toNat)))) (tVar i) (tCons tk (tCons t tNil)))) (dInsert i fk f) := by
  refine ⟨ps_expr (pe_bm PySem.F.plainAttrs_list PySem.F.slot_list_insert PySem.F.type_list_insert mt_insert (pe_var hN hv hd hcd) (pa_cons hk.p (pa_cons he.p pa_nil hs2) hs) hbase hfew hline hs hplain) hsw, fun G σ us H ρ τ E r hw => ?_⟩
  unfold dInsert at hw
  split at hw
  · rename_i o xs0 h0
    obtain ⟨v0, hv0, w0⟩ := r.at h0
    have ty : tyV X.K "list" v0 H := by
      cases w0 with
      | ls hs rs => exact .inl ⟨rfl, _, SqL.of hs⟩
    refine ⟨v0, hv0, ty, hk.s G σ us H ρ τ _ r ?_⟩
    cases e0 : fk ρ with
    | none => rw [e0] at hw; exact hw.elim
    | some o =>
      rw [e0] at hw
      cases o with
      | ex c ρ' => exact fun H' C hC r' => hw σ H' C hC r'
      | ok kd ρ1 =>
        intro kv H1 s1 r1 w1
        cases kd <;> first | exact hw.elim | skip
        rename_i n
        have ek := w1.int_inv
        subst ek
        refine he.s G σ us H1 ρ1 τ _ r1 ?_
        (try simp only at hw)
        cases e1 : f ρ1 with
        | none => rw [e1] at hw; exact hw.elim
        | some o =>
          rw [e1] at hw
          cases o with
          | ex c ρ' => exact fun H' C hC r' => hw σ H' C hC r'
          | ok d ρ' =>
            intro v H' s r'
            (try simp only at hw)
            split at hw
            · rename_i xs hi
              split at hw
              · rename_i hc
                simp only [Bool.and_eq_true, decide_eq_true_eq] at hc
                obtain ⟨⟨⟨⟨c1, c2⟩, c3⟩, c4⟩, c5⟩ := hc
                obtain ⟨p, vs, k1, k2, k3, k4⟩ := r'.put hi c4 c5
                rw [hv0] at k1
                cases k1
                exact ⟨p, vs, n, v, rfl, rfl, k2, by rw [k3, ← big_eq]; exact c3, c1, by omega, hw _ _ (k4 _ _ (ins_sel k3))⟩
              · exact hw.elim
            · exact hw.elim
  · exact hw.elim
end
end
end Ly

set_option Elab.async false
set_option linter.all false
set_option maxRecDepth 100000
/-! Ly, part M: tuples and lists turned round. -/
namespace L2
open PySem PySem.Spec PyProof.Rows HT
section
variable {prog : Program} {w : World} {A : Around} {E : Value → Shared → Prop} {s : Shared}
theorem adjust_rev (n : Nat) : Builtin.Slice.sliceAdjust none none (-1) (n : Int) = ((n : Int) - 1, -1) := by
  unfold Builtin.Slice.sliceAdjust
  simp
theorem places_rev (n : Nat) : Builtin.Slice.slicePlaces ((n : Int) - 1) (-1) (-1) = n := by
  unfold Builtin.Slice.slicePlaces
  rw [if_neg (by decide)]
  by_cases h : 0 < n
  · rw [if_pos (by omega)]
    have : ((n : Int) - 1 - -1 - 1) / (- -1) = (n : Int) - 1 := by
      rw [show (- -1 : Int) = 1 by decide, Int.ediv_one]
      omega
    rw [this]
    omega
  · rw [if_neg (by omega)]
    omega
theorem sliceApplied_rev {sl : Addr} {vl vu vs : Value} {n : Nat} {Q : Int × Int × Nat → Shared → Prop} (hs : s.heap.IsSliceOf sl vl vu vs) (pl : IsPart vl none) (pu : IsPart vu none) (ps : IsPart vs (some (-1)))
    (h : Q ((n : Int) - 1, -1, n) s) : wpAny (model prog w) A (Builtin.Slice.sliceApplied (.ref sl) (pure (n : Int))) Q E s := by
  obtain ⟨os, hos, hcs, hds⟩ := id hs
  unfold Builtin.Slice.sliceApplied Builtin.Slice.sliceFields
  refine wpAny_bind (wpAny_bind (wpAny_field hos hds (x := vl) rfl (wpAny_bind (wpAny_field hos hds (x := vu) rfl (wpAny_bind (wpAny_field hos hds (x := vs) rfl (wpAny_pure ?_)))))))
  refine wpAny_bind (slicePart_ ps ?_)
  show wpAny _ _ (if ((-1 : Int) == 0) = true then _ else _) _ _ s
  rw [if_neg (by decide)]
  refine wpAny_bind (slicePart_ pl (wpAny_bind (slicePart_ pu (wpAny_bind (wpAny_pure ?_)))))
  show wpAny _ _ (match Builtin.Slice.sliceAdjust none none (-1) (n : Int) with | (lo, hi) => pure (lo, (-1 : Int), Builtin.Slice.slicePlaces lo hi (-1))) _ _ s
  rw [adjust_rev n]
  show wpAny _ _ (pure ((n : Int) - 1, (-1 : Int), Builtin.Slice.slicePlaces ((n : Int) - 1) (-1) (-1))) _ _ s
  rw [places_rev]
  exact wpAny_pure h
theorem pick_rev (xs : Array Value) : ((List.range xs.size).filterMap fun (m : Nat) => xs[(((xs.size : Nat) : Int) - 1 + (m : Int) * (-1)).toNat]?).toArray = xs.toList.reverse.toArray := by
  have e : (fun (m : Nat) => xs[(((xs.size : Nat) : Int) - 1 + (m : Int) * (-1)).toNat]?) = (fun k => xs[k]?) ∘ fun m => xs.size - 1 - m := by
    funext m
    have : (((xs.size : Nat) : Int) - 1 + (m : Int) * (-1)).toNat = xs.size - 1 - m := by omega
    show xs[(((xs.size : Nat) : Int) - 1 + (m : Int) * (-1)).toNat]? = xs[xs.size - 1 - m]?
    rw [this]
  rw [e, ← List.filterMap_map, PySem.W.krv_range, List.filterMap_reverse, PySem.W.krv_all]
theorem getItem_tuple_rev {t sl : Addr} {items : Array Value} {vl vu vs : Value} {Q : Value → Shared → Prop} (ht : IsTup s.heap t items) (hs : s.heap.IsSliceOf sl vl vu vs) (pl : IsPart vl none) (pu : IsPart vu none) (ps : IsPart vs (some (-1)))
    (h : Q (.ref s.heap.objs.size) { s with heap := s.heap.push { cls := .type "tuple", data := .seq items.toList.reverse.toArray } })
    (hsz : items.size ≤ sizeLine) : wpAny (model prog w) A (getItem (.ref t) (.ref sl)) Q E s := by
  have htake : sizeOk (.seq items.toList.reverse.toArray) := by
    show items.toList.reverse.toArray.size ≤ sizeLine
    rw [List.size_toArray, List.length_reverse, Array.length_toList]
    exact hsz
  obtain ⟨os, hos, hcs, hds⟩ := id hs
  have hTs : s.TypeIs (.ref sl) "slice" := ⟨os, hos, hcs⟩
  unfold getItem
  try with_reducible refine wpAny_holding ?_
  first | refine wpAny_bind (wpAny_pure ?_) | skip
  refine wpAny_bind (wpAny_sequenceKey ht.typeIs (by decide) ?_)
  refine wpAny_bind (wpAny_callSpecial?_slot (name := Str.ofString "__getitem__") ht.typeIs PyProof.Rows.slot_tuple_getitem
    (wpAny_call_entry PyProof.Rows.slot_tuple_getitem ht.typeIs entry_tuple_getitem ?_ (args_tuple_getitem _ _)))
  show wpAny _ _ (Builtin.Tuple.tupleItemsOf (.ref t) >>= _) _ _ s
  refine wpAny_bind (tupleItemsOf_ ht ?_)
  refine wpAny_bind (wpAny_typeOf hTs ?_)
  rw [if_pos (by decide)]
  refine wpAny_bind (sliceApplied_rev hs pl pu ps ?_)
  have hno : ¬ ((((items.size : Nat) : Int) - 1 == 0 && (-1 : Int) == 1 && items.size == items.size) = true) := by
    intro q
    rw [Bool.and_eq_true, Bool.and_eq_true] at q
    exact absurd q.1.2 (by decide)
  show wpAny _ _ (if (((items.size : Nat) : Int) - 1 == 0 && (-1 : Int) == 1 && items.size == items.size) = true then _ else _) _ _ s
  rw [if_neg hno, pick_rev]
  first
    | exact wpAny_bind (m := Builtin.Tuple.tupleExact _) (wpAny_newObj_type (wpAny_pure ⟨_, rfl, wpAny_pure h⟩) htake)
    | exact wpAny_bind (m := Builtin.Tuple.tupleExact _) (wpAny_newObj_type (wpAny_bind (wpAny_pure (wpAny_pure ⟨_, rfl, wpAny_pure h⟩))) htake)
    | exact wpAny_bind (wpAny_bind (m := Builtin.Tuple.tupleExact _) (wpAny_newObj_type (wpAny_pure (wpAny_pure ⟨_, rfl, wpAny_pure h⟩)) htake))
    | exact wpAny_bind (wpAny_bind (m := Builtin.Tuple.tupleExact _) (wpAny_newObj_type (wpAny_pure ⟨_, rfl, wpAny_pure h⟩) htake))
end
section
variable {X : Cx}
def tRevT (K : PySem.W.Frag) (te : TE) : TE := fun σ H Q => te σ H fun x H1 => ∃ a xs, x = .ref a ∧ SqT K H1 a xs ∧ ∀ p, H1 p = none → Q (.ref p) (upd H1 p (.tup xs.reverse))
theorem pe_revT {e : Expr} {te : TE} {k : Nat} {p1 p2 p3 pos : Pos} (he : PE X e te) : PE X (.Subscript e (.Slice none none (some (.UnaryOp .USub (.Constant (.int 1) k p1) p2)) p3) pos) (tRevT X.K te) := by
  refine ⟨fun pins s σ H Q I h => ?_⟩
  refine Subscript_ (thn (he.run pins s σ H _ I h) fun v s1 ⟨x, H1, I1, r1, q1⟩ => ?_)
  obtain ⟨a, xs, ex, hx, q⟩ := q1
  subst ex
  cases r1
  have hst : PO X (some (.UnaryOp .USub (.Constant (.int 1) k p1) p2)) (tPart (tUn (rU fun i => .int (-i)) (tC (.int 1)))) := po_some (pe_un un_neg pe_int)
  refine wpAny_Slice (thn (po_none.run pins s1 σ H1 (fun o H2 => o = none ∧ H2 = H1) I1 ⟨rfl, rfl⟩) fun vl s2 ⟨l, H2, I2, pl, el, e2⟩ => ?_)
  subst el e2
  refine thn (po_none.run pins s2 σ H2 (fun o H3 => o = none ∧ H3 = H2) I2 ⟨rfl, rfl⟩) fun vu s3 ⟨u, H3, I3, pu, eu, e3⟩ => ?_
  subst eu e3
  refine thn (hst.run pins s3 σ H3 (fun o H4 => o = some (-1) ∧ H4 = H3) I3 ⟨1, rfl, -1, rfl, rfl, rfl⟩) fun vs s4 ⟨o, H4, I4, ps, eo, e4⟩ => ?_
  subst eo e4
  have I5 : Inv X pins σ H4 { s4 with heap := s4.heap.push { cls := .type "slice", data := .fields #[vl, vu, vs] } } := I4.kept (t' := s4.toks) fun b ob q => Heap.get?_push_of_some _ q
  obtain ⟨its, r, ht, hz⟩ := I5.tuple hx
  have hlen := r.length
  show wpAny (model X.prog X.w) X.A (subscriptTail e (.Slice none none (some (.UnaryOp .USub (.Constant (.int 1) k p1) p2)) p3) (.ref a) (.ref s4.heap.objs.size)) (EP X pins σ Q) X.xe { s4 with heap := s4.heap.push { cls := .type "slice", data := .fields #[vl, vu, vs] } }
  refine tail_any (ops := [.ref a, .ref s4.heap.objs.size]) ht.typeIs (PyProof.Rows.slot_tuple_getitem.lookup) ?_ (by with_unfolding_all rfl)
  refine getItem_tuple_rev ht (Heap.IsSliceOf.new _ vl vu vs) pl pu ps ?_ (by rw [List.size_toArray]; omega)
  refine ⟨.ref _, _, I5.laid (t' := s4.toks) (o := .tup xs.reverse) (fun b ob q => Heap.get?_push_of_some _ q) (Nat.le_refl _) ?_, rfl, q _ (I5.hok.fresh (Nat.le_refl _))⟩
  exact ⟨by rw [List.length_reverse]; exact hz, _, r.reverse, IsTup.new _ _⟩
end
end L2
namespace Ly
open PySem PySem.Spec L2
section
variable {X : Cx} {W : WX} {e a b c : Expr} {es : List Expr} {t ta tb : TE} {f fa fb : Dn D} {pos p : Pos} {x : Str}
theorem RVs.rev {K : PySem.W.Frag} {mg : Str → Option Value} {B H : Hp} : ∀ {vs : List V} {xs : List D}, RVs K mg B H vs xs [] → RVs K mg B H vs.reverse xs.reverse []
  | [], [], h => h
  | v :: vs, x :: xs, h => by
    generalize hF : ([] : List Addr) = F at h
    cases h with
    | cons r rs =>
      obtain ⟨e1, e2⟩ := List.append_eq_nil_iff.mp hF.symm
      subst e1 e2
      rw [List.reverse_cons, List.reverse_cons]
      exact (RVs.rev rs).app (.cons (F := []) (F' := []) r .nil)
theorem tights_rev : ∀ {xs : List D}, tights xs = true → tights xs.reverse = true
  | [], _ => rfl
  | x :: xs, h => by
    simp only [tights, Bool.and_eq_true] at h
    rw [List.reverse_cons]
    exact tights_app (tights_rev h.2) (by simp [tights, h.1])
def revTD : D → Option D
  | .tup xs => if tights xs = true then some (.tup xs.reverse) else none
  | _ => none
def dRevT (f : Dn D) : Dn D := bnd f fun d => lif (revTD d)
theorem ex_revT {k : Nat} {p1 p2 p3 : Pos} (ha : VX X W a ta fa) : EX X W (.Subscript a (.Slice none none (some (.UnaryOp .USub (.Constant (.int 1) k p1) p2)) p3) pos) (tRevT X.K ta) (dRevT fa) := by
  refine ⟨pe_revT ha.p, fun G σ us H ρ τ Q r hw => ?_⟩
  refine ha.s G σ us H ρ τ _ r (wp_mono (wp_bnd hw) (fun d ρ1 q v H1 s1 r1 w1 => ?_) fun _ _ q => q)
  obtain ⟨z, h1, h2⟩ := wp_lif q
  unfold revTD at h1
  split at h1
  · rename_i xs
    split at h1
    · rename_i ht
      cases h1
      cases w1 with
      | tp hs rs =>
        refine ⟨_, _, rfl, hs, fun p hp => ?_⟩
        have q := r1.tights rs.rev (tights_rev ht)
        exact h2 _ _ (s1.trans (Ly.same_upd hp)) (q.newTup r1.lu hp)
    · cases h1
  · cases h1
def revLD : D → Option D
  | .lst _ xs => if tights xs = true then some (.lst true xs.reverse) else none
  | _ => none
def dRevL (f : Dn D) : Dn D := bnd f fun d => lif (revLD d)
theorem ex_revL {k : Nat} {p1 p2 p3 : Pos} (ha : VX X W a ta fa) : EX X W (.Subscript a (.Slice none none (some (.UnaryOp .USub (.Constant (.int 1) k p1) p2)) p3) pos) (tRevL X.K ta) (dRevL fa) := by
  refine ⟨pe_revL ha.p, fun G σ us H ρ τ Q r hw => ?_⟩
  refine ha.s G σ us H ρ τ _ r (wp_mono (wp_bnd hw) (fun d ρ1 q v H1 s1 r1 w1 => ?_) fun _ _ q => q)
  obtain ⟨z, h1, h2⟩ := wp_lif q
  unfold revLD at h1
  split at h1
  · rename_i o xs
    split at h1
    · rename_i ht
      cases h1
      obtain ⟨q1, vs, rfl, k1, m1⟩ := rv_lst w1
      exact ⟨_, _, rfl, SqL.of k1, fun p hp => h2 _ _ (s1.trans (Ly.same_upd hp)) (r1.newTight m1.rev (tights_rev ht) hp)⟩
    · cases h1
  · cases h1
end
end Ly

set_option Elab.async false
set_option linter.all false
set_option maxRecDepth 100000
/-! Ly, part N: try .. except X as e: the suite looks at what e is an instance of. -/
namespace L2
open PySem PySem.Spec PyProof.Rows
/-- isinstance(e, (c, ..)) -/
def rIsET (K : PySem.W.Frag) (D a : Addr) : List V → Hp → VK → Prop := fun xs H Q => ∃ (t : Addr) (cs : List Addr) (b : Bool), xs = [.ref a, .ref t] ∧ H t = some (.tup (cs.map V.ref)) ∧ PySem.W.kitAny K (.ref D) (cs.map Value.ref) = some b ∧ Q (.bl b) H
theorem vals_refsA : ∀ {cs : List Addr} {us : List Value}, Vals (cs.map V.ref) us → us = cs.map Value.ref
  | [], _, .nil => rfl
  | c :: cs, _, .cons r rs => by
    cases r
    rw [vals_refsA rs]
    rfl
theorem call_isET {X : Cx} {a D : Addr} {oe : Obj} {pn : List (Addr × Obj)} (C : ExcC X.K D) (hz : Zc (.ref D) none oe) (hf : ∃ vs, oe.data = .fields vs) : CallR (X.suite a ((a, oe) :: pn)) (.builtin "isinstance") (rIsET X.K D a) := by
  intro pins s σ H xs us Q I r h
  obtain ⟨t, cs, b, rfl, ht, e, q⟩ := h
  cases r with
  | cons rx rr =>
    cases rr with
    | cons rt rr =>
      cases rr
      cases rx
      cases rt
      obtain ⟨hget, _⟩ := I.pin (a, oe) (List.mem_append.mpr (.inl List.mem_cons_self))
      obtain ⟨vs, hv⟩ := hf
      have J : PySem.W.InstAt s.heap a oe D none := by
        obtain ⟨oc, od, oda, osl⟩ := oe
        obtain ⟨h1, h2⟩ := hz
        dsimp only at h1 h2 hv
        subst h1 h2 hv
        exact ⟨hget, rfl, rfl, trivial⟩
      obtain ⟨its, rv, ⟨o, ho, hc, n, hd⟩, _⟩ := I.tuple (.inl (.inl ht))
      have ev := vals_refsA rv
      subst ev
      obtain ⟨oc, od, oda, osl⟩ := o
      dsimp only at hc hd
      subst hc hd
      exact PySem.W.kia_tup (PySem.W.handS_kitx_exc C.hg C.hk C.hs C.hd C.ha C.hn C.ht C.hm) I.kIn J ho e (fun z => nomatch z) fun tk => ⟨.bl b, H, I.kept (t' := tk) fun _ _ z => z, rfl, q⟩
theorem PE.weak {X : Cx} {e : Expr} {t t' : TE} (h : PE X e t) (w : ∀ σ H Q, t' σ H Q → t σ H Q) : PE X e t' := ⟨fun pins s σ H Q I q => h.run pins s σ H Q I (w σ H Q q)⟩
theorem PSs.weak {X : Cx} {e : List Stmt} {t t' : TS} (h : PSs X e t) (w : ∀ E σ H, t' E σ H → t E σ H) : PSs X e t' := ⟨fun pins s σ H E I q => h.run pins s σ H E I (w E σ H q)⟩
end L2
namespace Ly
open PySem PySem.Spec L2
/-- what can be said of what is raised as c -/
def ExcI (K : PySem.W.Frag) (mg : Str → Option Value) (c : Str) : Prop := ∃ C, mg c = some (.ref C) ∧ ExcC K C
def Kit (K : PySem.W.Frag) (mg : Str → Option Value) (c d : Str) (b : Bool) : Prop := ∀ C D, mg c = some (.ref C) → mg d = some (.ref D) → PySem.W.kitOne K (.ref C) (.ref D) = some b
def KitV (K : PySem.W.Frag) (mg : Str → Option Value) (c : Str) (b : Bool) : Prop := ∀ C, mg c = some (.ref C) → PySem.W.kitOne K (.ref C) (.type "ValueError") = some b
def Clsx (mg : Str → Option Value) (d : Str) : Prop := ∃ D, mg d = some (.ref D)
theorem bt_VE : bootBuiltins "ValueError" = some (.type "ValueError") := by decide +kernel
/-- some tuples came -/
inductive Gro : Hp → Hp → Prop
  | refl (H : Hp) : Gro H H
  | step {H H1 : Hp} {p : Addr} {vs : List V} : Gro H H1 → H1 p = none → Gro H (upd H1 p (.tup vs))
theorem Gro.trans {H H1 H2 : Hp} (a : Gro H H1) (b : Gro H1 H2) : Gro H H2 := by
  induction b with
  | refl => exact a
  | step _ hp ih => exact .step ih hp
theorem RL.gro {K : PySem.W.Frag} {mg : Str → Option Value} {G : Gt} {H H' : Hp} {σ : St} {us : List V} {ρ : Rho} {τ : List D} (g : Gro H H') (r : RL K mg G H σ us ρ τ) : RL K mg G H' σ us ρ τ := by
  induction g with
  | refl => exact r
  | step _ hp ih =>
    obtain ⟨B, F, W⟩ := ih.rel
    exact ⟨ih.ls, _, _, W.growB hp⟩
/-- a truth, given what the slots hold -/
def tQ (P : St → Prop) (b : Bool) : TE := fun σ H Q => P σ ∧ ∀ H', Gro H H' → Q (.bl b) H'
section
variable {X : Cx} {e e1 e2 : Expr} {es : List Expr} {P P' : St → Prop} {a C : Addr} {oe : Obj} {pn : List (Addr × Obj)} {i j : Nat} {x d : Str} {b b' : Bool} {pos p p1 p2 p3 : Pos} {c : Str}
theorem qx_isi (EC : ExcC X.K C) (hz : Zc (.ref C) none oe) (hf : ∃ vs, oe.data = .fields vs) (hc : X.mg c = some (.ref C)) (kt : Kit X.K X.mg c d b) (dc : Clsx X.mg d) (hm : X.mg "isinstance" = none) (hP : ∀ σ, P σ → σ[i]? = some (some (.ref a))) (hN : X.N[i]? = some x := by rfl)
    (hv : Vis X.env.scope x := by first | exact Or.inl rfl | exact Or.inr (Or.inl rfl) | exact Or.inr (Or.inr rfl)) (hd : (x == ("__debug__" : Str)) = false := by decide) (hcd : (x == ("__classdict__" : Str)) = false := by decide)
    (hg : Gl X "isinstance" := by rfl) (hgd : Gl X d := by rfl) (hdd : (d == ("__debug__" : Str)) = false := by decide)
    (he : starEach [.Name x p1, .Name d p2] X.env = (false, eval (.Name x p1) X.env) :: starEach [.Name d p2] X.env := by rfl) (he2 : starEach [.Name d p2] X.env = (false, eval (.Name d p2) X.env) :: starEach [] X.env := by rfl) (hpl : (backTo pos (starEach [.Name d p2] X.env)).any (·.1) = false := by rfl) :
    PE (X.suite a ((a, oe) :: pn)) (.Call (.Name "isinstance" p) [.Name x p1, .Name d p2] [] pos) (tQ P b) := by
  obtain ⟨Dd, hD⟩ := dc
  have h1 : PE (X.suite a ((a, oe) :: pn)) (.Name x p1) (tVar i) := pe_var hN hv hd hcd
  have h2 : PE (X.suite a ((a, oe) :: pn)) (.Name d p2) (tC (.ref Dd)) := pe_glob hgd hD rfl hdd
  refine (pe_callB (call_isE (X := X) (pn := pn) EC hz hf) hg hm PyProof.Rows.boot_isinstance (pa_cons h1 (pa_cons h2 pa_nil he2) he) (by decide) (by decide) he hpl).weak fun σ H Q q => ?_
  obtain ⟨q1, q2⟩ := q
  exact ⟨_, hP σ q1, .ref Dd, .ref Dd, b, rfl, fun u r => by cases r; rfl, kt C Dd hc hD, q2 H (.refl H)⟩
theorem qx_isiV (EC : ExcC X.K C) (hz : Zc (.ref C) none oe) (hf : ∃ vs, oe.data = .fields vs) (hc : X.mg c = some (.ref C)) (kt : KitV X.K X.mg c b) (dm : X.mg "ValueError" = none) (hm : X.mg "isinstance" = none) (hP : ∀ σ, P σ → σ[i]? = some (some (.ref a))) (hN : X.N[i]? = some x := by rfl)
    (hv : Vis X.env.scope x := by first | exact Or.inl rfl | exact Or.inr (Or.inl rfl) | exact Or.inr (Or.inr rfl)) (hd : (x == ("__debug__" : Str)) = false := by decide) (hcd : (x == ("__classdict__" : Str)) = false := by decide)
    (hg : Gl X "isinstance" := by rfl) (hgd : Gl X "ValueError" := by rfl)
    (he : starEach [.Name x p1, .Name "ValueError" p2] X.env = (false, eval (.Name x p1) X.env) :: starEach [.Name "ValueError" p2] X.env := by rfl) (he2 : starEach [.Name "ValueError" p2] X.env = (false, eval (.Name "ValueError" p2) X.env) :: starEach [] X.env := by rfl) (hpl : (backTo pos (starEach [.Name "ValueError" p2] X.env)).any (·.1) = false := by rfl) :
    PE (X.suite a ((a, oe) :: pn)) (.Call (.Name "isinstance" p) [.Name x p1, .Name "ValueError" p2] [] pos) (tQ P b) := by
  have h1 : PE (X.suite a ((a, oe) :: pn)) (.Name x p1) (tVar i) := pe_var hN hv hd hcd
  have h2 : PE (X.suite a ((a, oe) :: pn)) (.Name "ValueError" p2) (tC (.ty "ValueError")) := pe_bltn hgd dm bt_VE rfl
  refine (pe_callB (call_isE (X := X) (pn := pn) EC hz hf) hg hm PyProof.Rows.boot_isinstance (pa_cons h1 (pa_cons h2 pa_nil he2) he) (by decide) (by decide) he hpl).weak fun σ H Q q => ?_
  obtain ⟨q1, q2⟩ := q
  exact ⟨_, hP σ q1, .ty "ValueError", .type "ValueError", b, rfl, fun u r => r, kt C hc, q2 H (.refl H)⟩
/-- and, of truths -/
theorem qx_and (h1 : PE X e1 (tQ P b)) (h2 : PE X (.BoolOp .And (e2 :: es) pos) (tQ P b')) : PE X (.BoolOp .And (e1 :: e2 :: es) pos) (tQ P (b && b')) := by
  refine (pe_and h1 h2).weak fun σ H Q q => ⟨q.1, fun H1 s1 => ⟨b, rfl, ?_⟩⟩
  cases b with
  | true => exact ⟨q.1, fun H2 s2 => q.2 H2 (s1.trans s2)⟩
  | false => exact q.2 H1 s1
theorem qx_one (h : PE X e (tQ P b)) : PE X (.BoolOp .And [e] pos) (tQ P b) := pe_one h
theorem qx_not (h : PE X e (tQ P b)) : PE X (.UnaryOp .Not e pos) (tQ P (!b)) :=
  (pe_not h).weak fun σ H Q q => ⟨q.1, fun H1 s1 => ⟨b, rfl, q.2 H1 s1⟩⟩
theorem qx_var (i : Nat) (hP : ∀ σ, P σ → σ[i]? = some (some (.bl b))) (hN : X.N[i]? = some x := by rfl) (hv : Vis X.env.scope x := by first | exact Or.inl rfl | exact Or.inr (Or.inl rfl) | exact Or.inr (Or.inr rfl)) (hd : (x == ("__debug__" : Str)) = false := by decide) (hcd : (x == ("__classdict__" : Str)) = false := by decide) :
    PE X (.Name x pos) (tQ P b) := (pe_var hN hv hd hcd).weak fun σ H Q q => ⟨_, hP σ q.1, q.2 H (.refl H)⟩
/-- the classes in a tuple -/
def KitT (K : PySem.W.Frag) (mg : Str → Option Value) (c : Str) (ds : List Str) (b : Bool) : Prop := ∃ Ds : List Addr, ds.map mg = Ds.map (fun D => some (.ref D)) ∧ ∀ C, mg c = some (.ref C) → PySem.W.kitAny K (.ref C) (Ds.map Value.ref) = some b
/-- the names of globals, one after the other -/
inductive GlN (X : Cx) : List Expr → List Str → Prop
  | nil : GlN X [] []
  | cons {d : Str} {p : Pos} {es : List Expr} {ds : List Str} : Gl X d → (d == ("__debug__" : Str)) = false → starEach (.Name d p :: es) X.env = (false, eval (.Name d p) X.env) :: starEach es X.env → GlN X es ds → GlN X (.Name d p :: es) (d :: ds)
def tCs : List V → TA
  | [] => tNil
  | v :: vs => tCons (tC v) (tCs vs)
theorem tCs_ok : ∀ (vs : List V) (σ : St) (H : Hp) (Q : List V → Hp → Prop), Q vs H → tCs vs σ H Q
  | [], _, _, _, q => q
  | v :: vs, σ, H, Q, q => tCs_ok vs σ H _ q
theorem pa_gl {X' : Cx} (hE : X'.env = X.env) (hm : X'.mg = X.mg) : ∀ {es : List Expr} {ds : List Str} {Ds : List Addr}, GlN X es ds → ds.map X.mg = Ds.map (fun D => some (.ref D)) → PA X' es (tCs (Ds.map V.ref))
  | _, _, [], .nil, _ => pa_nil
  | _, _, D :: Ds, .nil, h => by cases h
  | _, _, [], .cons _ _ _ _, h => by cases h
  | _, _, D :: Ds, .cons (d := d) g hd hs gs, h => by
    simp only [List.map_cons, List.cons.injEq] at h
    have g' : Gl X' d := by
      unfold Gl at g ⊢
      rw [hE]
      exact g
    refine pa_cons (pe_glob g' (by rw [hm]; exact h.1) rfl hd) (pa_gl hE hm gs h.2) (by rw [hE]; exact hs)
theorem qx_isiT {es : List Expr} {ds : List Str} {k : Nat} {pt : Pos} (EC : ExcC X.K C) (hz : Zc (.ref C) none oe) (hf : ∃ vs, oe.data = .fields vs) (hc : X.mg c = some (.ref C)) (kt : KitT X.K X.mg c ds b) (gn : GlN X es ds) (hlen : ds.length ≤ 1000) (hm : X.mg "isinstance" = none) (hP : ∀ σ, P σ → σ[i]? = some (some (.ref a))) (hN : X.N[i]? = some x := by rfl)
    (hv : Vis X.env.scope x := by first | exact Or.inl rfl | exact Or.inr (Or.inl rfl) | exact Or.inr (Or.inr rfl)) (hd : (x == ("__debug__" : Str)) = false := by decide) (hcd : (x == ("__classdict__" : Str)) = false := by decide)
    (hg : Gl X "isinstance" := by rfl)
    (he : starEach [.Name x p1, .Tuple es k pt] X.env = (false, eval (.Name x p1) X.env) :: starEach [.Tuple es k pt] X.env := by rfl) (he2 : starEach [.Tuple es k pt] X.env = (false, eval (.Tuple es k pt) X.env) :: starEach [] X.env := by rfl) (hpl : (backTo pos (starEach [.Tuple es k pt] X.env)).any (·.1) = false := by rfl) :
    PE (X.suite a ((a, oe) :: pn)) (.Call (.Name "isinstance" p) [.Name x p1, .Tuple es k pt] [] pos) (tQ P b) := by
  obtain ⟨Ds, hDs, kb⟩ := kt
  have h1 : PE (X.suite a ((a, oe) :: pn)) (.Name x p1) (tVar i) := pe_var hN hv hd hcd
  have h2 : PE (X.suite a ((a, oe) :: pn)) (.Tuple es k pt) (tTup (tCs (Ds.map V.ref))) := pe_tup (pa_gl (X := X) (X' := X.suite a ((a, oe) :: pn)) rfl rfl gn hDs)
  refine (pe_callB (call_isET (X := X) (pn := pn) EC hz hf) hg hm PyProof.Rows.boot_isinstance (pa_cons h1 (pa_cons h2 pa_nil he2) he) (by decide) (by decide) he hpl).weak fun σ H Q q => ?_
  obtain ⟨q1, q2⟩ := q
  refine ⟨_, hP σ q1, tCs_ok _ σ H _ ⟨?_, fun t ht => ?_⟩⟩
  · have : ds.length = Ds.length := by simpa using congrArg List.length hDs
    rw [List.length_map, ← this]
    exact Nat.le_trans hlen (by decide)
  · exact ⟨t, Ds, b, rfl, upd_same, kb C hc, q2 _ (.step (.refl H) ht)⟩
end
/-- a suite that ends with the truth b, its error in slot i; slot j is its own -/
def tSu (i j : Nat) (a : Addr) (b : Bool) : TS := fun E σ H => σ[i]? = some (some (.ref a)) ∧ j < σ.length ∧ ∀ H', Gro H H' → E.rt (.bl b) H'
def dTryB (i j : Nat) (tab : Str → Option Bool) (fb : Sn) : Sn := fun ρ => match fb ρ with
  | some (.ex c ρ') => match tab c with
    | some b => if i < ρ'.length ∧ j < ρ'.length then some (.rt (.bl b) ((ρ'.set i none).set j none)) else none
    | none => none
  | r => r
section
variable {X : Cx} {W : WX} {x n : Str} {i j : Nat} {body suite : List Stmt} {b₀ : Stmt} {np pos pos' : Pos} {fb : Sn} {tab : Str → Option Bool} {cv : Value}
def tsTry (X : Cx) (i j : Nat) (tab : Str → Option Bool) : Addr → Value → Option Addr → TS := fun a cls d E σ H => ∃ (c : Str) (b : Bool) (C : Addr), tab c = some b ∧ X.mg c = some (.ref C) ∧ cls = .ref C ∧ d = none ∧ tSu i j a b E σ H
theorem sx_tryB (i j : Nat) {tb : WX → List (Addr × Obj) → (Value → Shared → Prop) → TS} (hx : Names X x cv) (tk : Takes X W)
    (hb : ∀ (W' : WX) (pn : List (Addr × Obj)) (xe : Value → Shared → Prop), Takes (X.tr pn xe) W' → BX (X.tr pn xe) W' body (tb W' pn xe) fb)
    (hsu : ∀ c b, tab c = some b → ∃ C, X.mg c = some (.ref C) ∧ PySem.W.exmOne X.K (.ref C) cv = some true ∧ ∀ (a : Addr) (oe : Obj) (pn : List (Addr × Obj)), Zc (.ref C) none oe → (∃ vs, oe.data = .fields vs) → PSs (X.suite a ((a, oe) :: pn)) (b₀ :: suite) (tSu i j a b))
    (hN : X.N.Nodup) (hi : X.N[i]? = some n := by rfl) (hs : X.stack = X.env :: X.outer := by rfl) (hf : X.env.frame = some X.env.locals := by rfl) (hln : X.env.kindOf n = some .local := by rfl)
    (eb : ∀ W' pn xe, tb W' pn xe = tb W' [] (fun _ _ => True) := by intros; rfl) :
    SX X W (.Try body [.ExceptHandler (some (.Name x np)) (some n) (b₀ :: suite) pos'] [] [] pos) (fun D σ H => tb (wAs X.K cv i (tsTry X i j tab) W D) [] (fun _ _ => True) D σ H) (dTryB i j tab fb) := by
  refine ⟨ps_try_as (tb := fun W' => tb W' [] (fun _ _ => True)) (ts := tsTry X i j tab) hs hf hN hi hln hx tk (fun W' pn xe h _ => eb W' pn xe ▸ (hb W' pn xe h).p) (fun a oe cls d pn hz hv => ⟨fun pins s σ H D I q => ?_⟩), fun G σ us H ρ τ E r hw => ?_⟩
  · obtain ⟨c, b, C, ht, hm, rfl, rfl, q⟩ := q
    obtain ⟨C', hm', _, k⟩ := hsu c b ht
    rw [hm] at hm'
    cases hm'
    exact (k a oe pn hz hv).run pins s σ H D I q
  · have S := (hb (wAs X.K cv i (tsTry X i j tab) W E) [] (fun _ _ => True) (fun _ _ _ => trivial)).s
    refine S G σ us H ρ τ E r ?_
    unfold dTryB at hw
    cases e1 : fb ρ with
    | none => rw [e1] at hw; exact hw.elim
    | some o =>
      rw [e1] at hw
      cases o with
      | nx ρ' => exact hw
      | rt d ρ' => exact hw
      | bk ρ' => exact hw
      | ct ρ' => exact hw
      | ex c ρ' =>
        (try simp only at hw)
        cases e2 : tab c with
        | none => rw [e2] at hw; exact hw.elim
        | some b =>
          rw [e2] at hw
          (try simp only at hw)
          split at hw
          · rename_i hl
            obtain ⟨C, hm, hx1, _⟩ := hsu c b e2
            intro σ' H' C' hC' r'
            have eC : C' = C := by
              have := hC'.symm.trans hm
              cases this
              rfl
            subst eC
            refine ⟨true, hx1, fun _ a ha => ⟨c, b, C', e2, hm, rfl, rfl, ?_, ?_, fun H2 s2 => ?_⟩, fun z => by cases z⟩
            · rw [List.getElem?_set_self (by rw [r'.ls]; exact hl.1)]
            · rw [List.length_set, r'.ls]
              exact hl.2
            · have r2 : RL X.K X.mg G H2 (σ'.set i (some (.ref a))) us ((ρ'.set i none).set j none) τ := (r'.gro s2).less (by rw [List.length_set]) (by rw [List.length_set, List.length_set]) fun k d hk => by
                by_cases hj : j = k
                · subst hj
                  rw [List.getElem?_set_self (by rw [List.length_set]; exact hl.2)] at hk
                  cases hk
                · rw [List.getElem?_set_ne hj] at hk
                  by_cases hi' : i = k
                  · subst hi'
                    rw [List.getElem?_set_self hl.1] at hk
                    cases hk
                  · rw [List.getElem?_set_ne hi'] at hk
                    exact ⟨hk, List.getElem?_set_ne hi'⟩
              exact hw _ _ _ (r2.flat (.bl b) rfl)
          · exact hw.elim
/-- name = a truth; return a truth -/
theorem su_two {a : Addr} {oe : Obj} {pn : List (Addr × Obj)} {o b : Bool} {e1 e2 : Expr} {y : Str} {p1 p2 p3 : Pos} (h1 : PE (X.suite a ((a, oe) :: pn)) e1 (tQ (fun σ => σ[i]? = some (some (.ref a))) o)) (h2 : PE (X.suite a ((a, oe) :: pn)) e2 (tQ (fun σ => σ[i]? = some (some (.ref a)) ∧ σ[j]? = some (some (.bl o))) b))
    (hN : X.N.Nodup) (hj : X.N[j]? = some y := by rfl) (hij : i ≠ j := by decide) (hx : Loc X.env.scope y := by first | exact Or.inl rfl | exact Or.inr rfl) (hs : swapsWith e1 (some (.Name y p1)) p2.line X.env = pure false := by rfl) (hf : X.fn y = true ∨ X.env.scope.names.lookup y = some .local := by first | exact .inl rfl | exact .inr rfl) :
    PSs (X.suite a ((a, oe) :: pn)) [.Assign [.Name y p1] e1 p2, .Return (some e2) p3] (tSu i j a b) := by
  refine (pss_cons (ps_set (X := X.suite a ((a, oe) :: pn)) hN hj hx h1 hs hf) (pss_one (ps_ret h2))).weak fun E σ H q => ?_
  obtain ⟨q1, q2, q3⟩ := q
  refine ⟨q1, fun H1 g1 => ⟨⟨?_, ?_⟩, fun H2 g2 => q3 H2 (g1.trans g2)⟩⟩
  · rw [List.getElem?_set_ne (Ne.symm hij)]
    exact q1
  · rw [List.getElem?_set_self q2]
/-- what the top has written of an error c that 'except h' takes, that is a d and a ValueError and none of ds -/
structure RefT (K : PySem.W.Frag) (mg : Str → Option Value) (c h d : Str) (ds : List Str) (C Hh Dd : Addr) (Ds : List Addr) : Prop where
  c : mg c = some (.ref C)
  h : mg h = some (.ref Hh)
  d : mg d = some (.ref Dd)
  ds : ds.map mg = Ds.map (fun D => some (.ref D))
  v : mg "ValueError" = none
  i : mg "isinstance" = none
  e : ExcC K C
  x : PySem.W.exmOne K (.ref C) (.ref Hh) = some true
  kd : PySem.W.kitOne K (.ref C) (.ref Dd) = some true
  kv : PySem.W.kitOne K (.ref C) (.type "ValueError") = some true
  ks : PySem.W.kitAny K (.ref C) (Ds.map Value.ref) = some false
def RefX (K : PySem.W.Frag) (mg : Str → Option Value) (c h d : Str) (ds : List Str) : Prop := ∃ C Hh Dd Ds, RefT K mg c h d ds C Hh Dd Ds
theorem sx_refused (i j : Nat) {c h d y : Str} {ds : List Str} {es : List Expr} {kk : Nat} {q1 q2 q3 q4 q5 q6 q7 q8 q9 q10 q11 q12 q13 q14 q15 : Pos} {tb : WX → List (Addr × Obj) → (Value → Shared → Prop) → TS} (R0 : RefX X.K X.mg c h d ds) (tk : Takes X W)
    (hb : ∀ (W' : WX) (pn : List (Addr × Obj)) (xe : Value → Shared → Prop), Takes (X.tr pn xe) W' → BX (X.tr pn xe) W' body (tb W' pn xe) fb)
    (gn : GlN X es ds) (hlen : ds.length ≤ 1000) (hN : X.N.Nodup)
    (hi : X.N[i]? = some n := by rfl) (hj : X.N[j]? = some y := by rfl) (hij : i ≠ j := by decide) (hgh : Gl X h := by rfl) (hdh : (h == ("__debug__" : Str)) = false := by decide) (hgd : Gl X d := by rfl) (hdd : (d == ("__debug__" : Str)) = false := by decide) (hgi : Gl X "isinstance" := by rfl) (hgv : Gl X "ValueError" := by rfl)
    (hvn : Vis X.env.scope n := by first | exact Or.inl rfl | exact Or.inr (Or.inl rfl) | exact Or.inr (Or.inr rfl)) (hd1 : (n == ("__debug__" : Str)) = false := by decide) (hcd1 : (n == ("__classdict__" : Str)) = false := by decide)
    (hvy : Vis X.env.scope y := by first | exact Or.inl rfl | exact Or.inr (Or.inl rfl) | exact Or.inr (Or.inr rfl)) (hd2 : (y == ("__debug__" : Str)) = false := by decide) (hcd2 : (y == ("__classdict__" : Str)) = false := by decide)
    (hx : Loc X.env.scope y := by first | exact Or.inl rfl | exact Or.inr rfl)
    (hsw : swapsWith (.Call (.Name "isinstance" q3) [.Name n q4, .Tuple es kk q5] [] q6) (some (.Name y q2)) q1.line X.env = pure false := by rfl) (hfy : X.fn y = true ∨ X.env.scope.names.lookup y = some .local := by first | exact .inl rfl | exact .inr rfl)
    (he : starEach [.Name n q4, .Tuple es kk q5] X.env = (false, eval (.Name n q4) X.env) :: starEach [.Tuple es kk q5] X.env := by rfl) (he2 : starEach [.Tuple es kk q5] X.env = (false, eval (.Tuple es kk q5) X.env) :: starEach [] X.env := by rfl) (hpl : (backTo q6 (starEach [.Tuple es kk q5] X.env)).any (·.1) = false := by rfl)
    (he3 : starEach [.Name n q8, .Name d q9] X.env = (false, eval (.Name n q8) X.env) :: starEach [.Name d q9] X.env := by rfl) (he4 : starEach [.Name d q9] X.env = (false, eval (.Name d q9) X.env) :: starEach [] X.env := by rfl) (hpl2 : (backTo q10 (starEach [.Name d q9] X.env)).any (·.1) = false := by rfl)
    (he5 : starEach [.Name n q12, .Name "ValueError" q13] X.env = (false, eval (.Name n q12) X.env) :: starEach [.Name "ValueError" q13] X.env := by rfl) (he6 : starEach [.Name "ValueError" q13] X.env = (false, eval (.Name "ValueError" q13) X.env) :: starEach [] X.env := by rfl) (hpl3 : (backTo q14 (starEach [.Name "ValueError" q13] X.env)).any (·.1) = false := by rfl)
    (hs : X.stack = X.env :: X.outer := by rfl) (hf : X.env.frame = some X.env.locals := by rfl) (hln : X.env.kindOf n = some .local := by rfl)
    (eb : ∀ W' pn xe, tb W' pn xe = tb W' [] (fun _ _ => True) := by intros; rfl) {qa qb qc : Pos} :
    SX X W (.Try body [.ExceptHandler (some (.Name h np)) (some n) [.Assign [.Name y q2] (.Call (.Name "isinstance" q3) [.Name n q4, .Tuple es kk q5] [] q6) q1,
      .Return (some (.BoolOp .And [.Call (.Name "isinstance" q7) [.Name n q8, .Name d q9] [] q10, .Call (.Name "isinstance" q11) [.Name n q12, .Name "ValueError" q13] [] q14, .UnaryOp .Not (.Name y q15) qa] qb)) qc] pos'] [] [] pos)
      (fun D σ H => tb (wAs X.K ((X.mg h).getD .none) i (tsTry X i j (fun c' => if c' = c then some true else none)) W D) [] (fun _ _ => True) D σ H) (dTryB i j (fun c' => if c' = c then some true else none) fb) := by
  obtain ⟨C, Hh, Dd, Ds, R⟩ := R0
  have eh : (X.mg h).getD .none = .ref Hh := by rw [R.h]; rfl
  rw [eh]
  refine sx_tryB i j (cv := .ref Hh) ⟨hgh, hdh, .inl R.h⟩ tk hb (fun c' b hc => ?_) hN hi hs hf hln eb
  split at hc
  · rename_i e
    cases hc
    subst e
    refine ⟨C, R.c, R.x, fun a oe pn hz hv => ?_⟩
    have k1 : PE (X.suite a ((a, oe) :: pn)) _ _ := qx_isiT (P := fun σ => σ[i]? = some (some (.ref a))) (b := false) (p := q3) (p1 := q4) (pos := q6) (k := kk) (pt := q5) (pn := pn) R.e hz hv R.c ⟨Ds, R.ds, fun C' hC' => by rw [R.c] at hC'; cases hC'; exact R.ks⟩ gn hlen R.i (fun _ h => h) hi hvn hd1 hcd1 hgi he he2 hpl
    have k2 : PE (X.suite a ((a, oe) :: pn)) _ _ := qx_isi (P := fun σ => σ[i]? = some (some (.ref a)) ∧ σ[j]? = some (some (.bl false))) (b := true) (p := q7) (p1 := q8) (p2 := q9) (pos := q10) (d := d) (pn := pn) R.e hz hv R.c (fun C' D' hC' hD' => by rw [R.c] at hC'; rw [R.d] at hD'; cases hC'; cases hD'; exact R.kd) ⟨_, R.d⟩ R.i (fun _ h => h.1) hi hvn hd1 hcd1 hgi hgd hdd he3 he4 hpl2
    have k3 : PE (X.suite a ((a, oe) :: pn)) _ _ := qx_isiV (P := fun σ => σ[i]? = some (some (.ref a)) ∧ σ[j]? = some (some (.bl false))) (b := true) (p := q11) (p1 := q12) (p2 := q13) (pos := q14) (pn := pn) R.e hz hv R.c (fun C' hC' => by rw [R.c] at hC'; cases hC'; exact R.kv) R.v R.i (fun _ h => h.1) hi hvn hd1 hcd1 hgi hgv he5 he6 hpl3
    have k4 : PE (X.suite a ((a, oe) :: pn)) (.Name y q15) _ := qx_var (P := fun σ => σ[i]? = some (some (.ref a)) ∧ σ[j]? = some (some (.bl false))) (b := false) j (fun _ h => h.2) hj hvy hd2 hcd2
    exact su_two k1 (qx_and k2 (qx_and k3 (qx_one (qx_not k4)))) hN hj hij hx hsw hfy
  · cases hc
end
end Ly

set_option Elab.async false
set_option linter.all false
set_option maxRecDepth 100000
/-! Ly, part O: list + list with all that they own, tuple(xs). -/
namespace Ly
open PySem PySem.Spec L2
section
variable {K : PySem.W.Frag} {mg : Str → Option Value} {G : Gt} {B H : Hp} {L : List (Option V)} {R : List (Option D)} {v : V} {d : D} {σ : St} {us vs ws : List V} {ρ : Rho} {τ xs ys ds : List D}
theorem Rel.unpackL {o : Bool} (r : Rel K mg G H (L ++ [some v]) (R ++ [some (.lst o ds)])) (hl : L.length = R.length) : ∃ a vs, v = .ref a ∧ H a = some (.lst vs) ∧ vs.length = ds.length ∧ Rel K mg G H (L ++ vs.map some) (R ++ ds.map some) := by
  obtain ⟨B, F, W⟩ := r
  obtain ⟨u, e1, e2⟩ := W.ent R.length (.lst o ds) (get_last rfl)
  rw [get_last hl.symm] at e1
  cases e1
  have W0 := W.less (L' := L) (R' := R) hl fun i d h => ⟨get_keep h, (List.getElem?_append_left (by rw [hl]; exact lt_of_get h)).symm⟩
  have ow := W.owf R.length
  have nd := W.nd R.length
  have dj := W.dj R.length
  generalize F R.length = E at e2 ow nd dj
  cases e2 with
  | ls hs rs => exact ⟨_, _, rfl, W.sbh _ _ hs, rs.length, W0.pushs rs ow nd fun p hp j hj hm => by
      have := dj _ _ hp hm
      omega⟩
  | lo hs rs => exact ⟨_, _, rfl, hs, rs.length, W0.pushs rs (fun p hp => ow p (List.mem_cons_of_mem _ hp)) (List.nodup_cons.mp nd).2 fun p hp j hj hm => by
      have := dj _ _ (List.mem_cons_of_mem _ hp) hm
      omega⟩
theorem RL.unpackL {o : Bool} (r : RL K mg G H σ (us ++ [v]) ρ (τ ++ [.lst o ds])) (hl : us.length = τ.length) : ∃ a vs, v = .ref a ∧ H a = some (.lst vs) ∧ vs.length = ds.length ∧ RL K mg G H σ (us ++ vs) ρ (τ ++ ds) := by
  obtain ⟨a, vs, h1, h2, h3, h4⟩ := r.snoc.unpackL (by have := r.ls; simp; omega)
  exact ⟨a, vs, h1, h2, h3, r.ls, by simpa using h4⟩
theorem RL.rots : ∀ {ws : List V} {ys : List D} {vs : List V} {xs : List D}, ws.length = ys.length → us.length = τ.length → RL K mg G H σ (us ++ (ws ++ vs)) ρ (τ ++ (ys ++ xs)) → RL K mg G H σ (us ++ (vs ++ ws)) ρ (τ ++ (xs ++ ys))
  | [], [], vs, xs, _, _, r => by simpa using r
  | [], y :: ys, vs, xs, h, _, _ => by cases h
  | w :: ws, [], vs, xs, h, _, _ => by cases h
  | w :: ws, y :: ys, vs, xs, h, hl, r => by
    have r1 := RL.rot (us := us) (v := w) (vs := ws ++ vs) (τ := τ) (d := y) (ds := ys ++ xs) r hl
    have r2 : RL K mg G H σ (us ++ (ws ++ (vs ++ [w]))) ρ (τ ++ (ys ++ (xs ++ [y]))) := by simpa using r1
    have r3 := RL.rots (by simpa using h) hl r2
    simpa using r3
end
section
variable {X : Cx} {W : WX} {e a b c : Expr} {es : List Expr} {t ta tb : TE} {f fa fb : Dn D} {pos p : Pos} {x : Str}
def catM : D → D → Option D
  | .lst _ xs, .lst _ ys => if xs.length + ys.length ≤ big then some (.lst true (xs ++ ys)) else none
  | _, _ => none
def dCatM (fa fb : Dn D) : Dn D := bnd fa fun x => bnd fb fun y => lif (catM x y)
theorem ex_catM (ha : EX X W a ta fa) (hb : EX X W b tb fb) : EX X W (.BinOp a .Add b pos) (tOp rCat ta tb) (dCatM fa fb) := by
  refine ⟨pe_op op_cat ha.p hb.p, fun G σ us H ρ τ Q r hw => ?_⟩
  refine ha.s G σ us H ρ τ _ r (wp_mono (wp_bnd hw) (fun d1 ρ1 q v1 H1 s1 r1 => ?_) fun _ _ q => q)
  refine hb.s G σ (us ++ [v1]) H1 ρ1 (τ ++ [d1]) _ r1 (wp_mono (wp_bnd q) (fun d2 ρ2 q2 v2 H2 s2 r2 => ?_) fun c ρ' z H' C hC r' => z H' C hC r'.pop)
  obtain ⟨z, h1, h2⟩ := wp_lif q2
  unfold catM at h1
  split at h1
  · rename_i o1 xs o2 ys
    split at h1
    · rename_i hlen
      cases h1
      have lu := r.lu
      obtain ⟨q2', ws, rfl, k2, l2, r3⟩ := r2.unpackL (by simp [lu])
      have r4 : RL X.K X.mg G H2 σ (us ++ v1 :: ws) ρ2 (τ ++ .lst o1 xs :: ys) := by simpa using r3
      have r5 := r4.rot lu
      obtain ⟨q1', vs, rfl, k1, l1, r6⟩ := r5.unpackL (by simp [lu, l2])
      have r7 : RL X.K X.mg G H2 σ (us ++ (ws ++ vs)) ρ2 (τ ++ (ys ++ xs)) := by simpa using r6
      have r8 := RL.rots l2 lu r7
      refine ⟨_, _, vs, ws, rfl, rfl, k1, k2, by rw [l1, l2, ← big_eq]; exact hlen, fun p hp => ?_⟩
      exact h2 _ _ ((s1.trans s2).trans (Ly.same_upd hp)) (r8.newLst lu hp)
    · cases h1
  · cases h1
/-- tuple(xs) -/
def tupD : D → Option D
  | .lst _ xs => if tights xs = true then some (.tup xs) else none
  | _ => none
def dTupOf (f : Dn D) : Dn D := bnd f fun d => lif (tupD d)
theorem ex_tupOf (hm : X.mg "tuple" = none) (ha : VX X W a ta fa) (hgl : Gl X "tuple" := by rfl) (he : starEach [a] X.env = (false, eval a X.env) :: starEach [] X.env := by rfl) (hpl : (backTo pos (starEach [] X.env)).any (·.1) = false := by rfl) :
    EX X W (.Call (.Name "tuple" p) [a] [] pos) (tCB (fun xs H Q => ∃ p ys, xs = [.ref p] ∧ ((SqL X.K H p ys ∧ ∀ l, H l = none → Q (.ref l) (upd H l (.tup ys))) ∨ (SqT X.K H p ys ∧ Q (.ref p) H))) (tCons ta tNil)) (dTupOf fa) := by
  refine ⟨pe_callTy call_tuple_of hgl hm PyProof.Rows.boot_tuple (pa_cons ha.p pa_nil he) (by decide) (by decide) he hpl, fun G σ us H ρ τ Q r hw => ?_⟩
  refine ha.s G σ us H ρ τ _ r (wp_mono (wp_bnd hw) (fun d ρ1 q v H1 s1 r1 w1 => ?_) fun _ _ q => q)
  obtain ⟨z, h1, h2⟩ := wp_lif q
  unfold tupD at h1
  split at h1
  · rename_i o xs
    split at h1
    · rename_i ht
      cases h1
      obtain ⟨q1, vs, rfl, k1, m1⟩ := rv_lst w1
      exact ⟨q1, vs, rfl, .inl ⟨SqL.of k1, fun l hl => h2 _ _ (s1.trans (Ly.same_upd hl)) ((r1.tights m1 ht).newTup r1.lu hl)⟩⟩
    · cases h1
  · cases h1
end
theorem kit_ref {K : PySem.W.Frag} {C D : Addr} {b : Bool} (hd : PySem.W.hasDictIn K D = true) (ht : PySem.W.typeIn K (.ref D) = some (.type "type")) (hs : PySem.W.subIn K (.ref C) (.ref D) = some b) (hself : PySem.W.subIn K (.ref C) (.ref C) = some true) : PySem.W.kitOne K (.ref C) (.ref D) = some b := by
  unfold PySem.W.kitOne
  by_cases e : C = D
  · subst e
    rw [hself] at hs
    cases hs
    rw [if_pos (by simp)]
  · rw [if_neg (by simpa using e)]
    obtain ⟨cd, hc, _⟩ := PySem.W.any_some hd
    have e2 : ((PySem.W.clsIn K D).isSome && PySem.W.typeIn K (.ref D) == some (.type "type")) = true := by rw [hc, ht] <;> rfl
    show (if ((PySem.W.clsIn K D).isSome && PySem.W.typeIn K (.ref D) == some (.type "type")) = true then PySem.W.subIn K (.ref C) (.ref D) else none) = some b
    rw [if_pos e2]
    exact hs
theorem kit_val {K : PySem.W.Frag} {C : Addr} (hs : PySem.W.subIn K (.ref C) (.type "ValueError") = some true) : PySem.W.kitOne K (.ref C) (.type "ValueError") = some true := by
  unfold PySem.W.kitOne
  rw [if_neg (by intro h; cases eq_of_beq h)]
  have e2 : PySem.W.kitMeta "ValueError" = true := by decide +kernel
  show (if PySem.W.kitMeta "ValueError" = true then PySem.W.subIn K (.ref C) (.type "ValueError") else none) = some true
  rw [if_pos e2]
  exact hs
theorem kit_nil {K : PySem.W.Frag} {t : Value} : PySem.W.kitAny K t [] = some false := rfl
theorem kit_cons {K : PySem.W.Frag} {t c : Value} {cs : List Value} (h : PySem.W.kitOne K t c = some false) (h2 : PySem.W.kitAny K t cs = some false) : PySem.W.kitAny K t (c :: cs) = some false := by
  unfold PySem.W.kitAny
  rw [h]
  exact h2
end Ly

set_option Elab.async false
set_option linter.all false
set_option maxRecDepth 100000
set_option maxHeartbeats 4000000

namespace Sh
open PySem PySem.Spec L2 Ly
def dn_within : Sn := (dRet (dFlat (dAndV (dIsi .int (dPk 0)) (dAndV (dNotV (dIsi .bool (dPk 0))) (dChain gLe gLe (dPk 1) (dPk 0) (dPk 2))))))
def fd_within : Fd := run 3 3 dn_within
def dn_is_game : Sn := (dSeq (dIfS (dOr (dNot (dTest (dIsi .tuple (dPk 0)))) (dOr (dTest (dBin gNe (dCB gLen (dCons (dPk 0) (ret []))) (ret (.int 2)))) (dTest (dBin gEq (dBin gIx (dPk 0) (ret (.int 0))) (dBin gIx (dPk 0) (ret (.int 1))))))) (dRet (dFlat (ret (.bl false)))) dNx)
  (dRet (dFlat (dAndV (dView (dCall fd_within (dCons (dBin gIx (dPk 0) (ret (.int 0))) (dCons (ret (.int 0)) (dCons (dBin gMinus (dPk 1) (ret (.int 1))) (ret [])))))) (dView (dCall fd_within (dCons (dBin gIx (dPk 0) (ret (.int 1))) (dCons (ret (.int 0)) (dCons (dBin gMinus (dPk 1) (ret (.int 1))) (ret []))))))))))
def fd_is_game : Fd := run 2 2 dn_is_game
def dn_game_of : Sn := (dRet (dTup (dCons (dFlat (dCB (gBest minI) (dCons (dPk 0) (ret [])))) (dCons (dFlat (dCB (gBest maxI) (dCons (dPk 0) (ret [])))) (ret [])))))
def fd_game_of : Fd := run 1 1 dn_game_of
def dn_check_begun : Sn := (dSeq (dIfS (dOr (dNot (dTest (dView (dCall fd_within (dCons (dPk 1) (dCons (ret (.int 1)) (dCons (ret (.int 10)) (ret [])))))))) (dNot (dTest (dIsi .list (dPk 0))))) (fun ρ => some (.ex "BadRound" ρ)) dNx)
  (dSeq (dIfS (dNot (dTest (dCB gAll (dCons (dView (dComp [3] (dItL (dFrz 0)) (hName 3) (ret true) (dCall fd_is_game (dCons (dPk 3) (dCons (dPk 1) (ret [])))))) (ret []))))) (fun ρ => some (.ex "BadRound" ρ)) dNx)
  (dFor (dRng2 (dCons (ret (.int 1)) (dCons (dCB gLen (dCons (dPk 0) (ret []))) (ret [])))) (hName 2) (dIfS (dTest (dBin gGe (dView (dCall fd_game_of (dCons (dBin gIx (dPk 0) (dBin gMinus (dPk 2) (ret (.int 1)))) (ret [])))) (dView (dCall fd_game_of (dCons (dBin gIx (dPk 0) (dPk 2)) (ret [])))))) (fun ρ => some (.ex "BadRound" ρ)) dNx))))
def fd_check_begun : Fd := run 2 4 dn_check_begun
def dn_counted : Sn := (dSeq (dSet 2 (dComp [5] (dRng1 (dCons (dPk 1) (ret []))) (hName 5) (ret true) (dFlat (ret (.int 0)))))
  (dSeq (dFor (dItL (dFrz 0)) (hTup (hCons (hName 3) (hCons (hName 4) hNil))) (dAugItem 2 (fun i j => i + j) (dPk 3) (ret (.int 1))))
  (dRet (dMv 2))))
def fd_counted : Fd := run 2 6 dn_counted
def dn_unplayed : Sn := (dSeq (dSet 2 (dComp [6] (dItL (dFrz 0)) (hName 6) (ret true) (dCall fd_game_of (dCons (dPk 6) (ret [])))))
  (dSeq (dSet 3 (dLst (ret [])))
  (dSeq (dFor (dRng1 (dCons (dPk 1) (ret []))) (hName 4) (dFor (dRng2 (dCons (dBin gAdd (dPk 4) (ret (.int 1))) (dCons (dPk 1) (ret [])))) (hName 5) (dIfS (dTest (dBin gNotIn (dView (dTup (dCons (dVar 4) (dCons (dVar 5) (ret []))))) (dPk 2))) (dAppend 3 (dTup (dCons (dVar 4) (dCons (dVar 5) (ret []))))) dNx)))
  (dRet (dMv 3)))))
def fd_unplayed : Fd := run 2 7 dn_unplayed
def dn_wins_of : Sn := (dSeq (dDrop (dView (dCall fd_check_begun (dCons (dPk 0) (dCons (dPk 1) (ret []))))))
  (dRet (dCall fd_counted (dCons (dPk 0) (dCons (dPk 1) (ret []))))))
def fd_wins_of : Fd := run 2 2 dn_wins_of
def dn_left_of : Sn := (dSeq (dDrop (dView (dCall fd_check_begun (dCons (dPk 0) (dCons (dPk 1) (ret []))))))
  (dRet (dCall fd_unplayed (dCons (dPk 0) (dCons (dPk 1) (ret []))))))
def fd_left_of : Fd := run 2 2 dn_left_of
def dn_l_cell_at : Sn := (dSeq (dIfS (dTest (dBin gLt (dPk 1) (dCB gLen (dCons (dPk 0) (ret []))))) (dRet (dIxS 0 (dPk 1))) dNx)
  (dRet (dFlat (ret (.int 0)))))
def fd_l_cell_at : Fd := run 2 2 dn_l_cell_at
def dn_l_mixed : Sn := (dSeq (dSet 2 (dFlat (dBin gMod (dBin gMul (dBin gAdd (dBin gAdd (dPk 0) (dBin gMul (ret (.int 977)) (dPk 1))) (ret (.int 31))) (ret (.int 48271))) (ret (.int 2147483647)))))
  (dRet (dFlat (dBin gMod (dBin gMul (dPk 2) (dPk 2)) (ret (.int 2147483629))))))
def fd_l_mixed : Fd := run 2 3 dn_l_mixed
def dn_l_first_wins : Sn := (dSeq (dSet 4 (dCall fd_l_mixed (dCons (dPk 0) (dCons (dBin gAdd (dBin gMul (ret (.int 20)) (dPk 1)) (dPk 2)) (ret [])))))
  (dSeq (dIfS (dTest (dBin gEq (dBin gMod (dPk 0) (ret (.int 4))) (ret (.int 1)))) (dRet (dFlat (dBin gGt (dBin gMod (dPk 4) (ret (.int 5))) (ret (.int 0))))) dNx)
  (dSeq (dIfS (dAnd (dTest (dBin gEq (dBin gMod (dPk 0) (ret (.int 4))) (ret (.int 2)))) (dTest (dBin gNe (dBin gLt (dPk 1) (dBin gDiv (dPk 3) (ret (.int 2)))) (dBin gLt (dPk 2) (dBin gDiv (dPk 3) (ret (.int 2))))))) (dRet (dFlat (dBin gEq (dBin gMod (dBin gDiv (dPk 0) (ret (.int 4))) (ret (.int 2))) (ret (.int 0))))) dNx)
  (dSeq (dIfS (dAnd (dTest (dBin gEq (dBin gMod (dPk 0) (ret (.int 4))) (ret (.int 3)))) (dTest (dBin gLt (dPk 2) (ret (.int 3))))) (dRet (dFlat (dBin gNe (dView (dTup (dCons (dVar 1) (dCons (dVar 2) (ret []))))) (dView (dTup (dCons (dFlat (ret (.int 0))) (dCons (dFlat (ret (.int 2))) (ret [])))))))) dNx)
  (dSeq (dIfS (dTest (dBin gEq (dBin gMod (dPk 0) (ret (.int 4))) (ret (.int 3)))) (dSeq (dSet 5 (dComp [6] (dItT (dTup (dCons (dVar 1) (dCons (dVar 2) (ret []))))) (hName 6) (ret true) (dIf (dTest (dBin gLt (dPk 6) (ret (.int 3)))) (dFlat (ret (.int 0))) (dFlat (dBin gAdd (ret (.int 1)) (dBin gMod (dView (dCall fd_l_mixed (dCons (dPk 0) (dCons (dPk 6) (ret []))))) (ret (.int 2))))))))
  (dIfS (dTest (dBin gNe (dBin gIx (dPk 5) (ret (.int 0))) (dBin gIx (dPk 5) (ret (.int 1))))) (dRet (dFlat (dBin gEq (dBin gMod (dBin gMinus (dBin gIx (dPk 5) (ret (.int 1))) (dBin gIx (dPk 5) (ret (.int 0)))) (ret (.int 3))) (ret (.int 2))))) dNx)) dNx)
  (dRet (dFlat (dBin gEq (dBin gMod (dPk 4) (ret (.int 2))) (ret (.int 0))))))))))
def fd_l_first_wins : Fd := run 4 7 dn_l_first_wins
def dn_l_round_by : Sn := (dSeq (dSet 2 (dLst (ret [])))
  (dSeq (dFor (dRng1 (dCons (dPk 1) (ret []))) (hName 3) (dFor (dRng2 (dCons (dBin gAdd (dPk 3) (ret (.int 1))) (dCons (dPk 1) (ret [])))) (hName 4) (dAppend 2 (dIf (dTest (dView (dCall fd_l_first_wins (dCons (dPk 0) (dCons (dPk 3) (dCons (dPk 4) (dCons (dPk 1) (ret [])))))))) (dTup (dCons (dVar 3) (dCons (dVar 4) (ret [])))) (dTup (dCons (dVar 4) (dCons (dVar 3) (ret []))))))))
  (dRet (dMv 2))))
def fd_l_round_by : Fd := run 2 5 dn_l_round_by
def dn_l_wins : Sn := (dSeq (dSet 2 (dComp [5] (dRng1 (dCons (dPk 1) (ret []))) (hName 5) (ret true) (dFlat (ret (.int 0)))))
  (dSeq (dFor (dItL (dFrz 0)) (hTup (hCons (hName 3) (hCons (hName 4) hNil))) (dAugItem 2 (fun i j => i + j) (dPk 3) (ret (.int 1))))
  (dRet (dMv 2))))
def fd_l_wins : Fd := run 2 6 dn_l_wins
def dn_l_is_round : Sn := (dSeq (dIfS (dOr (dNot (dTest (dIsi .list (dPk 0)))) (dTest (dBin gNe (dCB gLen (dCons (dPk 0) (ret []))) (dBin gDiv (dBin gMul (dPk 1) (dBin gMinus (dPk 1) (ret (.int 1)))) (ret (.int 2)))))) (dRet (dFlat (ret (.bl false)))) dNx)
  (dSeq (dSet 2 (dFlat (ret (.int 0))))
  (dSeq (dFor (dRng1 (dCons (dPk 1) (ret []))) (hName 3) (dFor (dRng2 (dCons (dBin gAdd (dPk 3) (ret (.int 1))) (dCons (dPk 1) (ret [])))) (hName 4) (dSeq (dSet 5 (dIxS 0 (dPk 2)))
  (dSeq (dSet 2 (dFlat (dBin gAdd (dPk 2) (ret (.int 1)))))
  (dSeq (dIfS (dOr (dNot (dTest (dIsi .tuple (dPk 5)))) (dAnd (dTest (dBin gNe (dPk 5) (dView (dTup (dCons (dVar 3) (dCons (dVar 4) (ret []))))))) (dTest (dBin gNe (dPk 5) (dView (dTup (dCons (dVar 4) (dCons (dVar 3) (ret []))))))))) (dRet (dFlat (ret (.bl false)))) dNx)
  (dIfS (dOr (dTest (dIsi .bool (dBin gIx (dPk 5) (ret (.int 0))))) (dTest (dIsi .bool (dBin gIx (dPk 5) (ret (.int 1)))))) (dRet (dFlat (ret (.bl false)))) dNx))))))
  (dRet (dFlat (ret (.bl true)))))))
def fd_l_is_round : Fd := run 2 6 dn_l_is_round
def dn_l_is_some : Sn := (dSeq (dIfS (dOr (dNot (dTest (dIsi .list (dPk 0)))) (dTest (dBin gLt (dCB gLen (dCons (dPk 0) (ret []))) (dPk 2)))) (dRet (dFlat (ret (.bl false)))) dNx)
  (dSeq (dSet 3 (dFlat (dNeg (ret (.int 1)))))
  (dSeq (dFor (dItL (dFrz 0)) (hName 4) (dSeq (dIfS (dOr (dTest (dIsi .bool (dPk 4))) (dOr (dNot (dTest (dIsi .int (dPk 4)))) (dNot (dTest (dChain gLt gLt (dPk 3) (dPk 4) (dPk 1)))))) (dRet (dFlat (ret (.bl false)))) dNx)
  (dSet 3 (dVar 4))))
  (dRet (dFlat (ret (.bl true)))))))
def fd_l_is_some : Fd := run 3 5 dn_l_is_some
def dn_l_begun_by : Sn := (dSeq (dSet 2 (dFlat (dBin gAdd (ret (.int 1)) (dBin gMod (dPk 1) (ret (.int 4))))))
  (dRet (dComp [3] (dRng1 (dCons (dCB gLen (dCons (dPk 0) (ret []))) (ret []))) (hName 3) (dTest (dBin gLt (dBin gMod (dView (dCall fd_l_mixed (dCons (dPk 1) (dCons (dPk 3) (ret []))))) (ret (.int 4))) (dBin gMinus (dPk 2) (ret (.int 1))))) (dIxS 0 (dPk 3)))))
def fd_l_begun_by : Fd := run 2 4 dn_l_begun_by
def dn_check_wins : Sn := (dSeq (dIfS (dOr (dNot (dTest (dIsi .list (dPk 0)))) (dNot (dTest (dChain gLe gLe (ret (.int 1)) (dCB gLen (dCons (dPk 0) (ret []))) (ret (.int 10)))))) (fun ρ => some (.ex "BadWins" ρ)) dNx)
  (dIfS (dNot (dTest (dCB gAll (dCons (dView (dComp [1] (dItL (dFrz 0)) (hName 1) (ret true) (dCall fd_within (dCons (dPk 1) (dCons (ret (.int 0)) (dCons (dBin gMinus (dCB gLen (dCons (dPk 0) (ret []))) (ret (.int 1))) (ret []))))))) (ret []))))) (fun ρ => some (.ex "BadWins" ρ)) dNx))
def fd_check_wins : Fd := run 1 2 dn_check_wins
def dn_check_round : Sn := (dSeq (dDrop (dView (dCall fd_check_begun (dCons (dPk 0) (dCons (dPk 1) (ret []))))))
  (dIfS (dTest (dBin gNe (dCB gLen (dCons (dPk 0) (ret []))) (dBin gDiv (dBin gMul (dPk 1) (dBin gMinus (dPk 1) (ret (.int 1)))) (ret (.int 2))))) (fun ρ => some (.ex "BadRound" ρ)) dNx))
def fd_check_round : Fd := run 2 2 dn_check_round
def dn_turned : Sn := (dSeq (dDrop (dView (dCall fd_check_round (dCons (dPk 0) (dCons (dPk 1) (ret []))))))
  (dSeq (dIfS (dOr (dNot (dTest (dIsi .tuple (dPk 2)))) (dOr (dTest (dBin gNe (dCB gLen (dCons (dPk 2) (ret []))) (ret (.int 3)))) (dNot (dTest (dCB gAll (dCons (dView (dComp [8] (dItT (dVar 2)) (hName 8) (ret true) (dCall fd_within (dCons (dPk 8) (dCons (ret (.int 0)) (dCons (dBin gMinus (dPk 1) (ret (.int 1))) (ret []))))))) (ret []))))))) (fun ρ => some (.ex "BadTurn" ρ)) dNx)
  (dSeq (dAsg (dVar 2) (hTup (hCons (hName 3) (hCons (hName 4) (hCons (hName 5) hNil)))))
  (dSeq (dSet 6 (dLst (dCons (dTup (dCons (dVar 3) (dCons (dVar 4) (ret [])))) (dCons (dTup (dCons (dVar 4) (dCons (dVar 5) (ret [])))) (dCons (dTup (dCons (dVar 5) (dCons (dVar 3) (ret [])))) (ret []))))))
  (dSeq (dIfS (dNot (dTest (dCB gAll (dCons (dView (dComp [7] (dItL (dFrz 6)) (hName 7) (ret true) (dFlat (dBin gIn (dPk 7) (dPk 0))))) (ret []))))) (fun ρ => some (.ex "BadTurn" ρ)) dNx)
  (dRet (dComp [7] (dItL (dFrz 0)) (hName 7) (ret true) (dIf (dTest (dBin gIn (dPk 7) (dPk 6))) (dRevT (dPk 7)) (dVar 7)))))))))
def fd_turned : Fd := run 3 9 dn_turned
def dn_rings : Sn := (dSeq (dDrop (dView (dCall fd_check_round (dCons (dPk 0) (dCons (dPk 1) (ret []))))))
  (dSeq (dSet 2 (dFlat (dBin gDiv (dBin gMul (dBin gMul (dPk 1) (dBin gMinus (dPk 1) (ret (.int 1)))) (dBin gMinus (dPk 1) (ret (.int 2)))) (ret (.int 6)))))
  (dSeq (dFor (dItL (dCall fd_counted (dCons (dPk 0) (dCons (dPk 1) (ret []))))) (hName 3) (dAug 2 (fun i j => i - j) (dBin gDiv (dBin gMul (dPk 3) (dBin gMinus (dPk 3) (ret (.int 1)))) (ret (.int 2)))))
  (dRet (dMv 2)))))
def fd_rings : Fd := run 2 4 dn_rings
def dn_only : Sn := (dRet (dFlat (dBin gEq (dView (dCall fd_rings (dCons (dPk 0) (dCons (dPk 1) (ret []))))) (ret (.int 0)))))
def fd_only : Fd := run 2 2 dn_only
def dn_row_in : Sn := (dSeq (dSet 2 (dLst (ret [])))
  (dSeq (dFor (dItL (dFrz 1)) (hName 3) (dSeq (dSet 4 (dFlat (ret (.int 0))))
  (dSeq (whl (dAnd (dTest (dBin gLt (dPk 4) (dCB gLen (dCons (dPk 2) (ret []))))) (dTest (dBin gIn (dView (dTup (dCons (dIxS 2 (dPk 4)) (dCons (dVar 3) (ret []))))) (dPk 0)))) (dAug 4 (fun i j => i + j) (ret (.int 1))) 100)
  (dInsert 2 (dPk 4) (dVar 3)))))
  (dRet (dMv 2))))
def fd_row_in : Fd := run 2 5 dn_row_in
def dn_row_through : Sn := (dSeq (dDrop (dView (dCall fd_check_round (dCons (dPk 0) (dCons (dPk 1) (ret []))))))
  (dRet (dCall fd_row_in (dCons (dPk 0) (dCons (dView (dLRng1 (dPk 1))) (ret []))))))
def fd_row_through : Fd := run 2 2 dn_row_through
def dn_first_ring : Sn := (dSeq (dFor (dItL (dFrz 0)) (hTup (hCons (hName 2) (hCons (hName 3) hNil))) (dFor (dRng1 (dCons (dPk 1) (ret []))) (hName 4) (dIfS (dAnd (dTest (dBin gIn (dView (dTup (dCons (dVar 3) (dCons (dVar 4) (ret []))))) (dPk 0))) (dTest (dBin gIn (dView (dTup (dCons (dVar 4) (dCons (dVar 2) (ret []))))) (dPk 0)))) (dRet (dLst (dCons (dMv 2) (dCons (dMv 3) (dCons (dMv 4) (ret [])))))) dNx)))
  (dRet (dLst (ret []))))
def fd_first_ring : Fd := run 2 5 dn_first_ring
def dn_longer : Sn := (dSeq (dFor (dItL (dFrz 2)) (hName 3) (dFor (dRng1 (dCons (dCB gLen (dCons (dPk 1) (ret []))) (ret []))) (hName 7) (dSeq (dSet 9 (dIxS 1 (dBin gMod (dBin gAdd (dPk 7) (ret (.int 1))) (dCB gLen (dCons (dPk 1) (ret []))))))
  (dIfS (dAnd (dTest (dBin gIn (dView (dTup (dCons (dIxS 1 (dPk 7)) (dCons (dVar 3) (ret []))))) (dPk 0))) (dTest (dBin gIn (dView (dTup (dCons (dVar 3) (dCons (dVar 9) (ret []))))) (dPk 0)))) (dRet (dCat (dView (dCat (dView (dSliceS 1 (ret none) (dPart (dBin gAdd (dPk 7) (ret (.int 1)))))) (dView (dLst (dCons (dVar 3) (ret [])))))) (dView (dSliceS 1 (dPart (dBin gAdd (dPk 7) (ret (.int 1)))) (ret none))))) dNx))))
  (dSeq (dSet 4 (dComp [3] (dItL (dFrz 2)) (hName 3) (dTest (dBin gIn (dView (dTup (dCons (dVar 3) (dCons (dIxS 1 (ret (.int 0))) (ret []))))) (dPk 0))) (dVar 3)))
  (dSeq (dSet 5 (dComp [3] (dItL (dFrz 2)) (hName 3) (dTest (dBin gNotIn (dPk 3) (dPk 4))) (dVar 3)))
  (dSeq (dFor (dItL (dFrz 5)) (hName 6) (dFor (dItL (dFrz 4)) (hName 8) (dIfS (dTest (dBin gIn (dView (dTup (dCons (dVar 6) (dCons (dVar 8) (ret []))))) (dPk 0))) (dRet (dCat (dPk 1) (dView (dLst (dCons (dVar 6) (dCons (dVar 8) (ret []))))))) dNx)))
  (dRet (dMv 1))))))
def fd_longer : Fd := run 3 10 dn_longer
def dn_kings : Sn := (dSeq (dDrop (dView (dCall fd_check_round (dCons (dPk 0) (dCons (dPk 1) (ret []))))))
  (dSeq (dSet 2 (dLst (ret [])))
  (dSeq (dFor (dRng1 (dCons (dPk 1) (ret []))) (hName 3) (dSeq (dSet 4 (dComp [6, 7] (dItL (dFrz 0)) (hTup (hCons (hName 6) (hCons (hName 7) hNil))) (dTest (dBin gEq (dPk 6) (dPk 3))) (dVar 7)))
  (dSeq (dSet 5 (dComp [6, 7] (dItL (dFrz 0)) (hTup (hCons (hName 6) (hCons (hName 7) hNil))) (dTest (dBin gIn (dPk 6) (dPk 4))) (dVar 7)))
  (dIfS (dTest (dCB gAll (dCons (dView (dComp [8] (dRng1 (dCons (dPk 1) (ret []))) (hName 8) (ret true) (dFlat (dOrV (dBin gEq (dPk 8) (dPk 3)) (dOrV (dBin gIn (dPk 8) (dPk 4)) (dBin gIn (dPk 8) (dPk 5))))))) (ret [])))) (dAppend 2 (dVar 3)) dNx))))
  (dRet (dMv 2)))))
def fd_kings : Fd := run 2 9 dn_kings
end Sh

set_option Elab.async false
set_option linter.all false
set_option maxRecDepth 100000
set_option maxHeartbeats 4000000

namespace Kx
open PySem PySem.Spec L2 Ly
def topS (i : Nat) : Stmt := PySem.Challenge.pw_playedall_k04_turned.main.body.getD i (.Pass ⟨0, 0, 0, 0⟩)
/-! ### what the defs are worth -/
def dn_l_refused : Sn := (dSeq (dTryB 3 4 (fun c' => if c' = "BadTurn" then some true else none) (dDrop (dView (dCall Sh.fd_turned (dCons (dPk 0) (dCons (dPk 1) (dCons (dPk 2) (ret []))))))))
  (dRet (dFlat (ret (.bl false)))))
def fd_l_refused : Fd := run 3 5 dn_l_refused
def dn_l_turn_by : Sn := (dSeq (dSet 3 (dLst (ret [])))
  (dSeq (dFor (dItL (dFrz 0)) (hTup (hCons (hName 4) (hCons (hName 5) hNil))) (dFor (dRng1 (dCons (dPk 1) (ret []))) (hName 6) (dIfS (dAnd (dTest (dBin gIn (dView (dTup (dCons (dVar 5) (dCons (dVar 6) (ret []))))) (dPk 0))) (dTest (dBin gIn (dView (dTup (dCons (dVar 6) (dCons (dVar 4) (ret []))))) (dPk 0)))) (dAppend 3 (dTup (dCons (dVar 4) (dCons (dVar 5) (dCons (dVar 6) (ret [])))))) dNx)))
  (dSeq (dIfS (dAnd (dTest (dBin gNe (dPk 3) (dView (dLst (ret []))))) (dTest (dBin gGt (dBin gMod (dPk 2) (ret (.int 4))) (ret (.int 0))))) (dSeq (dSet 7 (dIxS 3 (dBin gMod (dBin gDiv (dPk 2) (ret (.int 4))) (dCB gLen (dCons (dPk 3) (ret []))))))
  (dRet (dIf (dTest (dBin gEq (dBin gMod (dPk 2) (ret (.int 4))) (ret (.int 1)))) (dRevT (dPk 7)) (dMv 7)))) dNx)
  (dRet (dTupOf (dView (dComp [8] (dRng1 (dCons (ret (.int 3)) (ret []))) (hName 8) (ret true) (dFlat (dBin gMod (dView (dCall Sh.fd_l_mixed (dCons (dPk 2) (dCons (dPk 8) (ret []))))) (dPk 1))))))))))
def fd_l_turn_by : Fd := run 3 9 dn_l_turn_by
def dn_law : Sn := (dSeq (dSet 1 (dFlat (dBin gAdd (ret (.int 1)) (dBin gMod (dView (dCall Sh.fd_l_cell_at (dCons (dPk 0) (dCons (ret (.int 0)) (ret []))))) (ret (.int 8))))))
  (dSeq (dSet 2 (dCall Sh.fd_l_round_by (dCons (dView (dCall Sh.fd_l_cell_at (dCons (dPk 0) (dCons (ret (.int 1)) (ret []))))) (dCons (dPk 1) (ret [])))))
  (dSeq (dSet 3 (dListS 2))
  (dSeq (dFor (dRng1 (dCons (ret (.int 4)) (ret []))) (hName 4) (dSeq (dSet 6 (dCall fd_l_turn_by (dCons (dPk 2) (dCons (dPk 1) (dCons (dBin gAdd (dView (dCall Sh.fd_l_cell_at (dCons (dPk 0) (dCons (ret (.int 2)) (ret []))))) (dBin gMul (ret (.int 5)) (dPk 4))) (ret []))))))
  (dSeq (dSet 7 (dLst (dCons (dTup (dCons (dIxS 6 (ret (.int 0))) (dCons (dIxS 6 (ret (.int 1))) (ret [])))) (dCons (dTup (dCons (dIxS 6 (ret (.int 1))) (dCons (dIxS 6 (ret (.int 2))) (ret [])))) (dCons (dTup (dCons (dIxS 6 (ret (.int 2))) (dCons (dIxS 6 (ret (.int 0))) (ret [])))) (ret []))))))
  (dSeq (dIfS (dNot (dTest (dCB gAll (dCons (dView (dComp [11] (dItL (dFrz 7)) (hName 11) (ret true) (dFlat (dBin gIn (dPk 11) (dPk 2))))) (ret []))))) (dIfS (dNot (dTest (dView (dCall fd_l_refused (dCons (dPk 3) (dCons (dPk 1) (dCons (dPk 6) (ret [])))))))) (dRet (dFlat (ret (.bl false)))) dNx) (dSeq (dSet 8 (dComp [11] (dItL (dFrz 2)) (hName 11) (ret true) (dIf (dTest (dBin gIn (dPk 11) (dPk 7))) (dRevT (dPk 11)) (dVar 11))))
  (dSeq (dSet 9 (dCall Sh.fd_turned (dCons (dPk 3) (dCons (dPk 1) (dCons (dPk 6) (ret []))))))
  (dSeq (dIfS (dOr (dNot (dTest (dView (dCall Sh.fd_l_is_round (dCons (dPk 9) (dCons (dPk 1) (ret []))))))) (dTest (dBin gNe (dPk 9) (dPk 8)))) (dRet (dFlat (ret (.bl false)))) dNx)
  (dSeq (dIfS (dTest (dBin gNe (dView (dCall Sh.fd_l_wins (dCons (dPk 8) (dCons (dPk 1) (ret []))))) (dView (dCall Sh.fd_l_wins (dCons (dPk 2) (dCons (dPk 1) (ret []))))))) (dRet (dFlat (ret (.bl false)))) dNx)
  (dSeq (dClear 9)
  (dIfS (dTest (dBin gNe (dView (dCall Sh.fd_turned (dCons (dPk 3) (dCons (dPk 1) (dCons (dPk 6) (ret [])))))) (dPk 8))) (dRet (dFlat (ret (.bl false)))) dNx)))))))
  (dIfS (dTest (dBin gNe (dPk 3) (dPk 2))) (dRet (dFlat (ret (.bl false)))) dNx)))))
  (dSeq (dSet 5 (dLst (dCons (dTup (dCons (dLst (dCons (dFlat (ret (.int 0))) (ret []))) (dCons (dFlat (ret (.int 1))) (dCons (dFlat (ret (.int 2))) (ret []))))) (ret []))))
  (dSeq (dSet 5 (dCatM (dMv 5) (dLst (dCons (dFlat (ret .non)) (dCons (dTup (dCons (dFlat (ret (.int 0))) (dCons (dFlat (ret (.int 1))) (ret [])))) (dCons (dLst (dCons (dFlat (ret (.int 0))) (dCons (dFlat (ret (.int 1))) (dCons (dFlat (ret (.int 2))) (ret []))))) (dCons (dTup (dCons (dFlat (ret (.int 0))) (dCons (dFlat (ret (.int 1))) (dCons (dVar 1) (ret []))))) (dCons (dTup (dCons (dFlat (dNeg (ret (.int 1)))) (dCons (dFlat (ret (.int 0))) (dCons (dFlat (ret (.int 1))) (ret []))))) (dCons (dTup (dCons (dFlat (ret (.bl true))) (dCons (dFlat (ret (.int 0))) (dCons (dFlat (ret (.int 1))) (ret []))))) (dCons (dTup (dCons (dFlat (ret (.str "0"))) (dCons (dFlat (ret (.str "1"))) (dCons (dFlat (ret (.str "2"))) (ret []))))) (dCons (dTup (dCons (dFlat (ret (.int 0))) (dCons (dFlat (ret (.int 1))) (dCons (dFlat (ret (.int 2))) (dCons (dFlat (ret (.int 0))) (ret [])))))) (ret []))))))))))))
  (dRet (dFlat (dCB gAll (dCons (dView (dComp [10] (dItL (dFrz 5)) (hName 10) (ret true) (dCall fd_l_refused (dCons (dPk 3) (dCons (dPk 1) (dCons (dPk 10) (ret []))))))) (ret [])))))))))))
def fd_law : Fd := run 1 12 dn_law
/-! ### what the top has written -/
structure Txt (K : PySem.W.Frag) (mg : Str → Option Value) : Prop where
  zValueError : mg "ValueError" = none
  zall : mg "all" = none
  zbool : mg "bool" = none
  zint : mg "int" = none
  zisinstance : mg "isinstance" = none
  zlen : mg "len" = none
  zlist : mg "list" = none
  zmax : mg "max" = none
  zmin : mg "min" = none
  zrange : mg "range" = none
  ztuple : mg "tuple" = none
  cMOST : IsI mg "MOST" 10
  eBadRound : ExcT K mg "BadRound"
  eBadTurn : ExcT K mg "BadTurn"
  rBadTurn_RoundError_BadTurn : RefX K mg "BadTurn" "RoundError" "BadTurn" ["BadPlayer", "BadRound", "BadText", "BadWins", "Unlike"]
/-! ### the defs -/
abbrev s_within : Stmt := topS 10
theorem sc_within : FnScope ["number", "low", "high"] ["number", "low", "high"] (defScope s_within) := ⟨rfl, rfl, rfl, by decide +kernel, rfl, by decide +kernel, by decide +kernel⟩
theorem ok_within {P : Program} {w : World} {K : PySem.W.Frag} {mg : Str → Option Value} {base : Heap} (T : Txt K mg) {f : Addr} {fd : FuncData} (F : Fun K "within" "within" s_within f fd) : FnOk P w K mg base (L2.CX P w) 1 f fd ["number", "low", "high"] (spD K mg 3 Sh.fd_within) := fn_ok (N := ["number", "low", "high"]) (g := Sh.dn_within) F sc_within (by decide) fun cdv A outer s H E hr => ⟨_, by
  unfold Sh.dn_within
  exact (bx_one (sx_ret (VX.keep (vx_and (vx_isi .int T.zisinstance T.zint bt_int (vx_var 0)) (vx_and (vx_not (vx_isi .bool T.zisinstance T.zbool bt_bool (vx_var 0))) (vx_one (vx_chain (oLe hr.units) og_le (oLe hr.units) og_le (vx_var 1) (vx_var 0) (vx_var 2))))))))⟩
abbrev s_is_game : Stmt := topS 11
theorem sc_is_game : FnScope ["pair", "players"] ["pair", "players"] (defScope s_is_game) := ⟨rfl, rfl, rfl, by decide +kernel, rfl, by decide +kernel, by decide +kernel⟩
theorem ok_is_game {P : Program} {w : World} {K : PySem.W.Frag} {mg : Str → Option Value} {base : Heap} (T : Txt K mg) (C_within : Cal P w K mg base "within" 1 ["number", "low", "high"] Sh.fd_within) {f : Addr} {fd : FuncData} (F : Fun K "is_game" "is_game" s_is_game f fd) : FnOk P w K mg base (L2.CX P w) 2 f fd ["pair", "players"] (spD K mg 2 Sh.fd_is_game) := fn_ok (N := ["pair", "players"]) (g := Sh.dn_is_game) F sc_is_game (by decide) fun cdv A outer s H E hr => ⟨_, by
  unfold Sh.dn_is_game
  exact (bx_cons (sx_if (UX.test (ux_or (tx_not (tx_val (vx_isi .tuple T.zisinstance T.ztuple bt_tuple (vx_var 0)))) (ux_or (tx_cmp (op_neD hr.units) og_ne (vx_cb cLen cg_len T.zlen PySem.boot_len (wa_cons (vx_var 0) wa_nil)) vx_int (nomark _)) (ux_or1 (tx_cmp (op_eqD hr.units) og_eq (vx_ix (vx_var 0) vx_int) (vx_ix (vx_var 0) vx_int) (nomark _)))))) (bx_one (sx_ret (VX.keep vx_bl))) bx_nil)
    (bx_one (sx_ret (VX.keep (vx_and (EX.look (ex_callC C_within (by exact takes_of rfl rfl rfl rfl) (hr.mono (by decide)) (wa_cons (vx_ix (vx_var 0) vx_int) (wa_cons vx_int (wa_cons (vx_op op_sub og_sub (vx_var 1) vx_int) wa_nil))))) (vx_one (EX.look (ex_callC C_within (by exact takes_of rfl rfl rfl rfl) (hr.mono (by decide)) (wa_cons (vx_ix (vx_var 0) vx_int) (wa_cons vx_int (wa_cons (vx_op op_sub og_sub (vx_var 1) vx_int) wa_nil)))))))))))⟩
abbrev s_game_of : Stmt := topS 12
theorem sc_game_of : FnScope ["pair"] ["pair"] (defScope s_game_of) := ⟨rfl, rfl, rfl, by decide +kernel, rfl, by decide +kernel, by decide +kernel⟩
theorem ok_game_of {P : Program} {w : World} {K : PySem.W.Frag} {mg : Str → Option Value} {base : Heap} (T : Txt K mg) {f : Addr} {fd : FuncData} (F : Fun K "game_of" "game_of" s_game_of f fd) : FnOk P w K mg base (L2.CX P w) 1 f fd ["pair"] (spD K mg 1 Sh.fd_game_of) := fn_ok (N := ["pair"]) (g := Sh.dn_game_of) F sc_game_of (by decide) fun cdv A outer s H E hr => ⟨_, by
  unfold Sh.dn_game_of
  exact (bx_one (sx_ret (ex_tup (ax_cons (VX.keep (vx_cb (c_min (by rfl) hr.units) cg_best T.zmin bt_min (wa_cons (vx_var 0) wa_nil))) (ax_cons (VX.keep (vx_cb (c_max (by rfl) hr.units) cg_best T.zmax bt_max (wa_cons (vx_var 0) wa_nil))) ax_nil)))))⟩
abbrev s_check_begun : Stmt := topS 13
theorem sc_check_begun : FnScope ["begun", "players", "k", "pair"] ["begun", "players"] (defScope s_check_begun) := ⟨rfl, rfl, rfl, by decide +kernel, rfl, by decide +kernel, by decide +kernel⟩
theorem ok_check_begun {P : Program} {w : World} {K : PySem.W.Frag} {mg : Str → Option Value} {base : Heap} (T : Txt K mg) (C_within : Cal P w K mg base "within" 1 ["number", "low", "high"] Sh.fd_within) (C_is_game : Cal P w K mg base "is_game" 2 ["pair", "players"] Sh.fd_is_game) (C_game_of : Cal P w K mg base "game_of" 1 ["pair"] Sh.fd_game_of) {f : Addr} {fd : FuncData} (F : Fun K "check_begun" "check_begun" s_check_begun f fd) : FnOk P w K mg base (L2.CX P w) 3 f fd ["begun", "players"] (spD K mg 2 Sh.fd_check_begun) := fn_ok (N := ["begun", "players", "k", "pair"]) (g := Sh.dn_check_begun) F sc_check_begun (by decide) fun cdv A outer s H E hr => ⟨_, by
  unfold Sh.dn_check_begun
  exact (bx_cons (sx_if (UX.test (ux_or (tx_not (tx_val (EX.look (ex_callC C_within (by exact takes_of rfl rfl rfl rfl) (hr.mono (by decide)) (wa_cons (vx_var 1) (wa_cons vx_int (wa_cons (vx_globI T.cMOST) wa_nil))))))) (ux_or1 (tx_not (tx_val (vx_isi .list T.zisinstance T.zlist bt_list (vx_var 0))))))) (bx_one (sx_raiseX (by rfl) (by exact takes_of rfl rfl rfl rfl) T.eBadRound)) bx_nil)
    (bx_cons (sx_if (tx_not (tx_val (vx_cb (cr_all (by rfl)) cg_all T.zall bt_all (wa_cons (EX.look (ex_comp (own := [("pair", 3)]) (by rfl) (by exact sc_check_begun.nd) (ix_lst (ex_frz 0)) (by exact blkOk_by (own := [("pair", 3)]) (N := ["begun", "players", "k", "pair"]) (sc := defScope s_check_begun) (by decide +kernel)) (fun _ _ _ _ _ => (gx_name 3 (by exact sc_check_begun.nd))) (fun _ _ _ _ _ => kx_nil) (fun _ _ _ _ _ => (ex_callC C_is_game takes0 (hr.mono (by decide)) (wa_cons (vx_var 3) (wa_cons (vx_var 1) wa_nil)))) (by decide))) wa_nil)))) (bx_one (sx_raiseX (by rfl) (by exact takes_of rfl rfl rfl rfl) T.eBadRound)) bx_nil)
    (bx_one (sx_for (by exact passes_of rfl) (by rfl) (ix_rng2 (by rfl) T.zrange (wa_cons vx_int (wa_cons (vx_cb cLen cg_len T.zlen PySem.boot_len (wa_cons (vx_var 0) wa_nil)) wa_nil))) (gx_name 2 (by exact sc_check_begun.nd)) (bx_one (sx_if (tx_cmp (oGe hr.units) og_ge (EX.look (ex_callC C_game_of (by exact takes_of rfl rfl rfl rfl) (hr.mono (by decide)) (wa_cons (vx_ix (vx_var 0) (vx_op op_sub og_sub (vx_var 2) vx_int)) wa_nil))) (EX.look (ex_callC C_game_of (by exact takes_of rfl rfl rfl rfl) (hr.mono (by decide)) (wa_cons (vx_ix (vx_var 0) (vx_var 2)) wa_nil))) (nomark _)) (bx_one (sx_raiseX (by rfl) (by exact takes_of rfl rfl rfl rfl) T.eBadRound)) bx_nil))))))⟩
abbrev s_check_round : Stmt := topS 14
theorem sc_check_round : FnScope ["games", "players"] ["games", "players"] (defScope s_check_round) := ⟨rfl, rfl, rfl, by decide +kernel, rfl, by decide +kernel, by decide +kernel⟩
theorem ok_check_round {P : Program} {w : World} {K : PySem.W.Frag} {mg : Str → Option Value} {base : Heap} (T : Txt K mg) (C_check_begun : Cal P w K mg base "check_begun" 3 ["begun", "players"] Sh.fd_check_begun) {f : Addr} {fd : FuncData} (F : Fun K "check_round" "check_round" s_check_round f fd) : FnOk P w K mg base (L2.CX P w) 4 f fd ["games", "players"] (spD K mg 2 Sh.fd_check_round) := fn_ok (N := ["games", "players"]) (g := Sh.dn_check_round) F sc_check_round (by decide) fun cdv A outer s H E hr => ⟨_, by
  unfold Sh.dn_check_round
  exact (bx_cons (sx_expr (EX.look (ex_callC C_check_begun (by exact takes_of rfl rfl rfl rfl) (hr.mono (by decide)) (wa_cons (vx_var 0) (wa_cons (vx_var 1) wa_nil)))))
    (bx_one (sx_if (tx_cmp (op_neD hr.units) og_ne (vx_cb cLen cg_len T.zlen PySem.boot_len (wa_cons (vx_var 0) wa_nil)) (vx_op op_fdiv og_div (vx_op op_mul og_mul (vx_var 1) (vx_op op_sub og_sub (vx_var 1) vx_int)) vx_int) (nomark _)) (bx_one (sx_raiseX (by rfl) (by exact takes_of rfl rfl rfl rfl) T.eBadRound)) bx_nil)))⟩
abbrev s_turned : Stmt := topS 16
theorem sc_turned : FnScope ["games", "players", "turn", "a", "b", "c", "ring", "pair", "one"] ["games", "players", "turn"] (defScope s_turned) := ⟨rfl, rfl, rfl, by decide +kernel, rfl, by decide +kernel, by decide +kernel⟩
theorem ok_turned {P : Program} {w : World} {K : PySem.W.Frag} {mg : Str → Option Value} {base : Heap} (T : Txt K mg) (C_within : Cal P w K mg base "within" 1 ["number", "low", "high"] Sh.fd_within) (C_check_round : Cal P w K mg base "check_round" 4 ["games", "players"] Sh.fd_check_round) {f : Addr} {fd : FuncData} (F : Fun K "turned" "turned" s_turned f fd) : FnOk P w K mg base (L2.CX P w) 5 f fd ["games", "players", "turn"] (spD K mg 3 Sh.fd_turned) := fn_ok (N := ["games", "players", "turn", "a", "b", "c", "ring", "pair", "one"]) (g := Sh.dn_turned) F sc_turned (by decide) fun cdv A outer s H E hr => ⟨_, by
  unfold Sh.dn_turned
  exact (bx_cons (sx_expr (EX.look (ex_callC C_check_round (by exact takes_of rfl rfl rfl rfl) (hr.mono (by decide)) (wa_cons (vx_var 0) (wa_cons (vx_var 1) wa_nil)))))
    (bx_cons (sx_if (UX.test (ux_or (tx_not (tx_val (vx_isi .tuple T.zisinstance T.ztuple bt_tuple (vx_var 2)))) (ux_or (tx_cmp (op_neD hr.units) og_ne (vx_cb cLen cg_len T.zlen PySem.boot_len (wa_cons (vx_var 2) wa_nil)) vx_int (nomark _)) (ux_or1 (tx_not (tx_val (vx_cb (cr_all (by rfl)) cg_all T.zall bt_all (wa_cons (EX.look (ex_comp (own := [("one", 8)]) (by rfl) (by exact sc_turned.nd) (ix_tpl (ex_var 2)) (by exact blkOk_by (own := [("one", 8)]) (N := ["games", "players", "turn", "a", "b", "c", "ring", "pair", "one"]) (sc := defScope s_turned) (by decide +kernel)) (fun _ _ _ _ _ => (gx_name 8 (by exact sc_turned.nd))) (fun _ _ _ _ _ => kx_nil) (fun _ _ _ _ _ => (ex_callC C_within takes0 (hr.mono (by decide)) (wa_cons (vx_var 8) (wa_cons vx_int (wa_cons (vx_op op_sub og_sub (vx_var 1) vx_int) wa_nil))))) (by decide))) wa_nil)))))))) (bx_one (sx_raiseX (by rfl) (by exact takes_of rfl rfl rfl rfl) T.eBadTurn)) bx_nil)
    (bx_cons (sx_asg (ex_var 2) (gx_tup (by rfl) (gxs_cons (gx_name 3 (by exact sc_turned.nd)) (gxs_cons (gx_name 4 (by exact sc_turned.nd)) (gxs_cons (gx_name 5 (by exact sc_turned.nd)) gxs_nil))) (hCons_len (hCons_len (hCons_len (fun _ _ _ e => hNil_len e))))))
    (bx_cons (sx_set 6 (by exact sc_turned.nd) (ex_lst (ax_cons (ex_tup (ax_cons (ex_var 3) (ax_cons (ex_var 4) ax_nil))) (ax_cons (ex_tup (ax_cons (ex_var 4) (ax_cons (ex_var 5) ax_nil))) (ax_cons (ex_tup (ax_cons (ex_var 5) (ax_cons (ex_var 3) ax_nil))) ax_nil)))))
    (bx_cons (sx_if (tx_not (tx_val (vx_cb (cr_all (by rfl)) cg_all T.zall bt_all (wa_cons (EX.look (ex_comp (own := [("pair", 7)]) (by rfl) (by exact sc_turned.nd) (ix_lst (ex_frz 6)) (by exact blkOk_by (own := [("pair", 7)]) (N := ["games", "players", "turn", "a", "b", "c", "ring", "pair", "one"]) (sc := defScope s_turned) (by decide +kernel)) (fun _ _ _ _ _ => (gx_name 7 (by exact sc_turned.nd))) (fun _ _ _ _ _ => kx_nil) (fun _ _ _ _ _ => (VX.keep (vx_cmp (oIn (Room.u65 hr)) og_in (vx_var 7) (vx_var 0) rfl))) (by decide))) wa_nil)))) (bx_one (sx_raiseX (by rfl) (by exact takes_of rfl rfl rfl rfl) T.eBadTurn)) bx_nil)
    (bx_one (sx_ret (ex_comp (own := [("pair", 7)]) (by rfl) (by exact sc_turned.nd) (ix_lst (ex_frz 0)) (by exact blkOk_by (own := [("pair", 7)]) (N := ["games", "players", "turn", "a", "b", "c", "ring", "pair", "one"]) (sc := defScope s_turned) (by decide +kernel)) (fun _ _ _ _ _ => (gx_name 7 (by exact sc_turned.nd))) (fun _ _ _ _ _ => kx_nil) (fun _ _ _ _ _ => (ex_if (tx_cmp (oIn (Room.u65 hr)) og_in (vx_var 7) (vx_var 6) rfl) (ex_revT (vx_var 7)) (ex_var 7))) (by decide)))))))))⟩
abbrev s_l_cell_at : Stmt := topS 18
theorem sc_l_cell_at : FnScope ["_law_script", "_law_k"] ["_law_script", "_law_k"] (defScope s_l_cell_at) := ⟨rfl, rfl, rfl, by decide +kernel, rfl, by decide +kernel, by decide +kernel⟩
theorem ok_l_cell_at {P : Program} {w : World} {K : PySem.W.Frag} {mg : Str → Option Value} {base : Heap} (T : Txt K mg) {f : Addr} {fd : FuncData} (F : Fun K "_law_cell_at" "_law_cell_at" s_l_cell_at f fd) : FnOk P w K mg base (L2.CX P w) 1 f fd ["_law_script", "_law_k"] (spD K mg 2 Sh.fd_l_cell_at) := fn_ok (N := ["_law_script", "_law_k"]) (g := Sh.dn_l_cell_at) F sc_l_cell_at (by decide) fun cdv A outer s H E hr => ⟨_, by
  unfold Sh.dn_l_cell_at
  exact (bx_cons (sx_if (tx_cmp (oLt hr.units) og_lt (vx_var 1) (vx_cb cLen cg_len T.zlen PySem.boot_len (wa_cons (vx_var 0) wa_nil)) (nomark _)) (bx_one (sx_ret (ex_ixS 0 (vx_var 1)))) bx_nil)
    (bx_one (sx_ret (VX.keep vx_int))))⟩
abbrev s_l_mixed : Stmt := topS 19
theorem sc_l_mixed : FnScope ["_law_cell", "_law_k", "_law_found"] ["_law_cell", "_law_k"] (defScope s_l_mixed) := ⟨rfl, rfl, rfl, by decide +kernel, rfl, by decide +kernel, by decide +kernel⟩
theorem ok_l_mixed {P : Program} {w : World} {K : PySem.W.Frag} {mg : Str → Option Value} {base : Heap} (T : Txt K mg) {f : Addr} {fd : FuncData} (F : Fun K "_law_mixed" "_law_mixed" s_l_mixed f fd) : FnOk P w K mg base (L2.CX P w) 1 f fd ["_law_cell", "_law_k"] (spD K mg 2 Sh.fd_l_mixed) := fn_ok (N := ["_law_cell", "_law_k", "_law_found"]) (g := Sh.dn_l_mixed) F sc_l_mixed (by decide) fun cdv A outer s H E hr => ⟨_, by
  unfold Sh.dn_l_mixed
  exact (bx_cons (sx_set 2 (by exact sc_l_mixed.nd) (VX.keep (vx_op op_mod og_mod (vx_op op_mul og_mul (vx_op oAdd og_add (vx_op oAdd og_add (vx_var 0) (vx_op op_mul og_mul vx_int (vx_var 1))) vx_int) vx_int) vx_int)))
    (bx_one (sx_ret (VX.keep (vx_op op_mod og_mod (vx_op op_mul og_mul (vx_var 2) (vx_var 2)) vx_int)))))⟩
abbrev s_l_first_wins : Stmt := topS 20
theorem sc_l_first_wins : FnScope ["_law_cell", "_law_one", "_law_other", "_law_players", "_law_drawn", "_law_sides", "_law_player"] ["_law_cell", "_law_one", "_law_other", "_law_players"] (defScope s_l_first_wins) := ⟨rfl, rfl, rfl, by decide +kernel, rfl, by decide +kernel, by decide +kernel⟩
theorem ok_l_first_wins {P : Program} {w : World} {K : PySem.W.Frag} {mg : Str → Option Value} {base : Heap} (T : Txt K mg) (C_l_mixed : Cal P w K mg base "_law_mixed" 1 ["_law_cell", "_law_k"] Sh.fd_l_mixed) {f : Addr} {fd : FuncData} (F : Fun K "_law_first_wins" "_law_first_wins" s_l_first_wins f fd) : FnOk P w K mg base (L2.CX P w) 2 f fd ["_law_cell", "_law_one", "_law_other", "_law_players"] (spD K mg 4 Sh.fd_l_first_wins) := fn_ok (N := ["_law_cell", "_law_one", "_law_other", "_law_players", "_law_drawn", "_law_sides", "_law_player"]) (g := Sh.dn_l_first_wins) F sc_l_first_wins (by decide) fun cdv A outer s H E hr => ⟨_, by
  unfold Sh.dn_l_first_wins
  exact (bx_cons (sx_set 4 (by exact sc_l_first_wins.nd) (ex_callC C_l_mixed (by exact takes_of rfl rfl rfl rfl) (hr.mono (by decide)) (wa_cons (vx_var 0) (wa_cons (vx_op oAdd og_add (vx_op op_mul og_mul vx_int (vx_var 1)) (vx_var 2)) wa_nil))))
    (bx_cons (sx_if (tx_cmp (op_eqD hr.units) og_eq (vx_op op_mod og_mod (vx_var 0) vx_int) vx_int (nomark _)) (bx_one (sx_ret (VX.keep (vx_cmp (oGt hr.units) og_gt (vx_op op_mod og_mod (vx_var 4) vx_int) vx_int (nomark _))))) bx_nil)
    (bx_cons (sx_if (UX.test (ux_and (tx_cmp (op_eqD hr.units) og_eq (vx_op op_mod og_mod (vx_var 0) vx_int) vx_int (nomark _)) (ux_and1 (tx_cmp (op_neD hr.units) og_ne (vx_cmp (oLt hr.units) og_lt (vx_var 1) (vx_op op_fdiv og_div (vx_var 3) vx_int) (nomark _)) (vx_cmp (oLt hr.units) og_lt (vx_var 2) (vx_op op_fdiv og_div (vx_var 3) vx_int) (nomark _)) (nomark _))))) (bx_one (sx_ret (VX.keep (vx_cmp (op_eqD hr.units) og_eq (vx_op op_mod og_mod (vx_op op_fdiv og_div (vx_var 0) vx_int) vx_int) vx_int (nomark _))))) bx_nil)
    (bx_cons (sx_if (UX.test (ux_and (tx_cmp (op_eqD hr.units) og_eq (vx_op op_mod og_mod (vx_var 0) vx_int) vx_int (nomark _)) (ux_and1 (tx_cmp (oLt hr.units) og_lt (vx_var 2) vx_int (nomark _))))) (bx_one (sx_ret (VX.keep (vx_cmp (op_neD hr.units) og_ne (EX.look (ex_tup (ax_cons (ex_var 1) (ax_cons (ex_var 2) ax_nil)))) (EX.look (ex_tup (ax_cons (VX.keep vx_int) (ax_cons (VX.keep vx_int) ax_nil)))) (nomark _))))) bx_nil)
    (bx_cons (sx_if (tx_cmp (op_eqD hr.units) og_eq (vx_op op_mod og_mod (vx_var 0) vx_int) vx_int (nomark _)) (bx_cons (sx_setComp 5 (own := [("_law_player", 6)]) (by rfl) (by exact sc_l_first_wins.nd) (ix_tpl (ex_tup (ax_cons (ex_var 1) (ax_cons (ex_var 2) ax_nil)))) (by exact blkOk_by (own := [("_law_player", 6)]) (N := ["_law_cell", "_law_one", "_law_other", "_law_players", "_law_drawn", "_law_sides", "_law_player"]) (sc := defScope s_l_first_wins) (by decide +kernel)) (fun _ _ _ _ _ => (gx_name 6 (by exact sc_l_first_wins.nd))) (fun _ _ _ _ _ => kx_nil) (fun _ _ _ _ _ => (ex_if (tx_cmp (oLt hr.units) og_lt (vx_var 6) vx_int (nomark _)) (VX.keep vx_int) (VX.keep (vx_op oAdd og_add vx_int (vx_op op_mod og_mod (EX.look (ex_callC C_l_mixed takes0 (hr.mono (by decide)) (wa_cons (vx_var 0) (wa_cons (vx_var 6) wa_nil)))) vx_int))))) (by decide))
    (bx_one (sx_if (tx_cmp (op_neD hr.units) og_ne (vx_ix (vx_var 5) vx_int) (vx_ix (vx_var 5) vx_int) (nomark _)) (bx_one (sx_ret (VX.keep (vx_cmp (op_eqD hr.units) og_eq (vx_op op_mod og_mod (vx_op op_sub og_sub (vx_ix (vx_var 5) vx_int) (vx_ix (vx_var 5) vx_int)) vx_int) vx_int (nomark _))))) bx_nil))) bx_nil)
    (bx_one (sx_ret (VX.keep (vx_cmp (op_eqD hr.units) og_eq (vx_op op_mod og_mod (vx_var 4) vx_int) vx_int (nomark _))))))))))⟩
abbrev s_l_round_by : Stmt := topS 21
theorem sc_l_round_by : FnScope ["_law_cell", "_law_players", "_law_games", "_law_one", "_law_other"] ["_law_cell", "_law_players"] (defScope s_l_round_by) := ⟨rfl, rfl, rfl, by decide +kernel, rfl, by decide +kernel, by decide +kernel⟩
theorem ok_l_round_by {P : Program} {w : World} {K : PySem.W.Frag} {mg : Str → Option Value} {base : Heap} (T : Txt K mg) (C_l_first_wins : Cal P w K mg base "_law_first_wins" 2 ["_law_cell", "_law_one", "_law_other", "_law_players"] Sh.fd_l_first_wins) {f : Addr} {fd : FuncData} (F : Fun K "_law_round_by" "_law_round_by" s_l_round_by f fd) : FnOk P w K mg base (L2.CX P w) 3 f fd ["_law_cell", "_law_players"] (spD K mg 2 Sh.fd_l_round_by) := fn_ok (N := ["_law_cell", "_law_players", "_law_games", "_law_one", "_law_other"]) (g := Sh.dn_l_round_by) F sc_l_round_by (by decide) fun cdv A outer s H E hr => ⟨_, by
  unfold Sh.dn_l_round_by
  exact (bx_cons (sx_set 2 (by exact sc_l_round_by.nd) (ex_lst ax_nil))
    (bx_cons (sx_for (by exact passes_of rfl) (by rfl) (ix_rng1 (by rfl) T.zrange (wa_cons (vx_var 1) wa_nil)) (gx_name 3 (by exact sc_l_round_by.nd)) (bx_one (sx_for (by exact passes_of rfl) (by rfl) (ix_rng2 (by rfl) T.zrange (wa_cons (vx_op oAdd og_add (vx_var 3) vx_int) (wa_cons (vx_var 1) wa_nil))) (gx_name 4 (by exact sc_l_round_by.nd)) (bx_one (sx_append 2 (ex_if (tx_val (EX.look (ex_callC C_l_first_wins (by exact takes_of rfl rfl rfl rfl) (hr.mono (by decide)) (wa_cons (vx_var 0) (wa_cons (vx_var 3) (wa_cons (vx_var 4) (wa_cons (vx_var 1) wa_nil))))))) (ex_tup (ax_cons (ex_var 3) (ax_cons (ex_var 4) ax_nil))) (ex_tup (ax_cons (ex_var 4) (ax_cons (ex_var 3) ax_nil)))))))))
    (bx_one (sx_ret (ex_mv 2)))))⟩
abbrev s_l_wins : Stmt := topS 22
theorem sc_l_wins : FnScope ["_law_games", "_law_players", "_law_found", "_law_winner", "_law_loser", "_law_player"] ["_law_games", "_law_players"] (defScope s_l_wins) := ⟨rfl, rfl, rfl, by decide +kernel, rfl, by decide +kernel, by decide +kernel⟩
theorem ok_l_wins {P : Program} {w : World} {K : PySem.W.Frag} {mg : Str → Option Value} {base : Heap} (T : Txt K mg) {f : Addr} {fd : FuncData} (F : Fun K "_law_wins" "_law_wins" s_l_wins f fd) : FnOk P w K mg base (L2.CX P w) 1 f fd ["_law_games", "_law_players"] (spD K mg 2 Sh.fd_l_wins) := fn_ok (N := ["_law_games", "_law_players", "_law_found", "_law_winner", "_law_loser", "_law_player"]) (g := Sh.dn_l_wins) F sc_l_wins (by decide) fun cdv A outer s H E hr => ⟨_, by
  unfold Sh.dn_l_wins
  exact (bx_cons (sx_setComp 2 (own := [("_law_player", 5)]) (by rfl) (by exact sc_l_wins.nd) (ix_rng1 (by rfl) T.zrange (wa_cons (vx_var 1) wa_nil)) (by exact blkOk_by (own := [("_law_player", 5)]) (N := ["_law_games", "_law_players", "_law_found", "_law_winner", "_law_loser", "_law_player"]) (sc := defScope s_l_wins) (by decide +kernel)) (fun _ _ _ _ _ => (gx_name 5 (by exact sc_l_wins.nd))) (fun _ _ _ _ _ => kx_nil) (fun _ _ _ _ _ => (VX.keep vx_int)) (by decide))
    (bx_cons (sx_for (by exact passes_of rfl) (by rfl) (ix_lst (ex_frz 0)) (gx_tup (by rfl) (gxs_cons (gx_name 3 (by exact sc_l_wins.nd)) (gxs_cons (gx_name 4 (by exact sc_l_wins.nd)) gxs_nil)) (hCons_len (hCons_len (fun _ _ _ e => hNil_len e)))) (bx_one (sx_augItem 2 ip_add (vx_var 3) vx_int)))
    (bx_one (sx_ret (ex_mv 2)))))⟩
abbrev s_l_is_round : Stmt := topS 23
theorem sc_l_is_round : FnScope ["_law_games", "_law_players", "_law_at", "_law_one", "_law_other", "_law_pair"] ["_law_games", "_law_players"] (defScope s_l_is_round) := ⟨rfl, rfl, rfl, by decide +kernel, rfl, by decide +kernel, by decide +kernel⟩
theorem ok_l_is_round {P : Program} {w : World} {K : PySem.W.Frag} {mg : Str → Option Value} {base : Heap} (T : Txt K mg) {f : Addr} {fd : FuncData} (F : Fun K "_law_is_round" "_law_is_round" s_l_is_round f fd) : FnOk P w K mg base (L2.CX P w) 1 f fd ["_law_games", "_law_players"] (spD K mg 2 Sh.fd_l_is_round) := fn_ok (N := ["_law_games", "_law_players", "_law_at", "_law_one", "_law_other", "_law_pair"]) (g := Sh.dn_l_is_round) F sc_l_is_round (by decide) fun cdv A outer s H E hr => ⟨_, by
  unfold Sh.dn_l_is_round
  exact (bx_cons (sx_if (UX.test (ux_or (tx_not (tx_val (vx_isi .list T.zisinstance T.zlist bt_list (vx_var 0)))) (ux_or1 (tx_cmp (op_neD hr.units) og_ne (vx_cb cLen cg_len T.zlen PySem.boot_len (wa_cons (vx_var 0) wa_nil)) (vx_op op_fdiv og_div (vx_op op_mul og_mul (vx_var 1) (vx_op op_sub og_sub (vx_var 1) vx_int)) vx_int) (nomark _))))) (bx_one (sx_ret (VX.keep vx_bl))) bx_nil)
    (bx_cons (sx_set 2 (by exact sc_l_is_round.nd) (VX.keep vx_int))
    (bx_cons (sx_for (by exact passes_of rfl) (by rfl) (ix_rng1 (by rfl) T.zrange (wa_cons (vx_var 1) wa_nil)) (gx_name 3 (by exact sc_l_is_round.nd)) (bx_one (sx_for (by exact passes_of rfl) (by rfl) (ix_rng2 (by rfl) T.zrange (wa_cons (vx_op oAdd og_add (vx_var 3) vx_int) (wa_cons (vx_var 1) wa_nil))) (gx_name 4 (by exact sc_l_is_round.nd)) (bx_cons (sx_set 5 (by exact sc_l_is_round.nd) (ex_ixS 0 (vx_var 2)))
    (bx_cons (sx_set 2 (by exact sc_l_is_round.nd) (VX.keep (vx_op oAdd og_add (vx_var 2) vx_int)))
    (bx_cons (sx_if (UX.test (ux_or (tx_not (tx_val (vx_isi .tuple T.zisinstance T.ztuple bt_tuple (vx_var 5)))) (ux_or1 (UX.test (ux_and (tx_cmp (op_neD hr.units) og_ne (vx_var 5) (EX.look (ex_tup (ax_cons (ex_var 3) (ax_cons (ex_var 4) ax_nil)))) (nomark _)) (ux_and1 (tx_cmp (op_neD hr.units) og_ne (vx_var 5) (EX.look (ex_tup (ax_cons (ex_var 4) (ax_cons (ex_var 3) ax_nil)))) (nomark _)))))))) (bx_one (sx_ret (VX.keep vx_bl))) bx_nil)
    (bx_one (sx_if (UX.test (ux_or (tx_val (vx_isi .bool T.zisinstance T.zbool bt_bool (vx_ix (vx_var 5) vx_int))) (ux_or1 (tx_val (vx_isi .bool T.zisinstance T.zbool bt_bool (vx_ix (vx_var 5) vx_int)))))) (bx_one (sx_ret (VX.keep vx_bl))) bx_nil))))))))
    (bx_one (sx_ret (VX.keep vx_bl))))))⟩
abbrev s_l_refused : Stmt := topS 25
theorem sc_l_refused : FnScope ["_law_games", "_law_players", "_law_turn", "error", "_law_others"] ["_law_games", "_law_players", "_law_turn"] (defScope s_l_refused) := ⟨rfl, rfl, rfl, by decide +kernel, rfl, by decide +kernel, by decide +kernel⟩
theorem ok_l_refused {P : Program} {w : World} {K : PySem.W.Frag} {mg : Str → Option Value} {base : Heap} (T : Txt K mg) (C_turned : Cal P w K mg base "turned" 5 ["games", "players", "turn"] Sh.fd_turned) {f : Addr} {fd : FuncData} (F : Fun K "_law_refused" "_law_refused" s_l_refused f fd) : FnOk P w K mg base (L2.CX P w) 6 f fd ["_law_games", "_law_players", "_law_turn"] (spD K mg 3 fd_l_refused) := fn_ok (N := ["_law_games", "_law_players", "_law_turn", "error", "_law_others"]) (g := dn_l_refused) F sc_l_refused (by decide) fun cdv A outer s H E hr => ⟨_, by
  unfold dn_l_refused
  exact (bx_cons (sx_refused 3 4 T.rBadTurn_RoundError_BadTurn (by exact takes_of rfl rfl rfl rfl) (fun _ _ _ tk1 => (bx_one (sx_expr (EX.look (ex_callC C_turned tk1 (hr.mono (by decide)) (wa_cons (vx_var 0) (wa_cons (vx_var 1) (wa_cons (vx_var 2) wa_nil)))))))) (by exact (.cons (by rfl) (by decide) (by rfl) (.cons (by rfl) (by decide) (by rfl) (.cons (by rfl) (by decide) (by rfl) (.cons (by rfl) (by decide) (by rfl) (.cons (by rfl) (by decide) (by rfl) .nil)))))) (by decide) (by exact sc_l_refused.nd))
    (bx_one (sx_ret (VX.keep vx_bl))))⟩
abbrev s_l_turn_by : Stmt := topS 26
theorem sc_l_turn_by : FnScope ["_law_games", "_law_players", "_law_cell", "_law_threes", "_law_a", "_law_b", "_law_c", "_law_turn", "_law_k"] ["_law_games", "_law_players", "_law_cell"] (defScope s_l_turn_by) := ⟨rfl, rfl, rfl, by decide +kernel, rfl, by decide +kernel, by decide +kernel⟩
theorem ok_l_turn_by {P : Program} {w : World} {K : PySem.W.Frag} {mg : Str → Option Value} {base : Heap} (T : Txt K mg) (C_l_mixed : Cal P w K mg base "_law_mixed" 1 ["_law_cell", "_law_k"] Sh.fd_l_mixed) {f : Addr} {fd : FuncData} (F : Fun K "_law_turn_by" "_law_turn_by" s_l_turn_by f fd) : FnOk P w K mg base (L2.CX P w) 2 f fd ["_law_games", "_law_players", "_law_cell"] (spD K mg 3 fd_l_turn_by) := fn_ok (N := ["_law_games", "_law_players", "_law_cell", "_law_threes", "_law_a", "_law_b", "_law_c", "_law_turn", "_law_k"]) (g := dn_l_turn_by) F sc_l_turn_by (by decide) fun cdv A outer s H E hr => ⟨_, by
  unfold dn_l_turn_by
  exact (bx_cons (sx_set 3 (by exact sc_l_turn_by.nd) (ex_lst ax_nil))
    (bx_cons (sx_for (by exact passes_of rfl) (by rfl) (ix_lst (ex_frz 0)) (gx_tup (by rfl) (gxs_cons (gx_name 4 (by exact sc_l_turn_by.nd)) (gxs_cons (gx_name 5 (by exact sc_l_turn_by.nd)) gxs_nil)) (hCons_len (hCons_len (fun _ _ _ e => hNil_len e)))) (bx_one (sx_for (by exact passes_of rfl) (by rfl) (ix_rng1 (by rfl) T.zrange (wa_cons (vx_var 1) wa_nil)) (gx_name 6 (by exact sc_l_turn_by.nd)) (bx_one (sx_if (UX.test (ux_and (tx_cmp (oIn (Room.u65 hr)) og_in (EX.look (ex_tup (ax_cons (ex_var 5) (ax_cons (ex_var 6) ax_nil)))) (vx_var 0) rfl) (ux_and1 (tx_cmp (oIn (Room.u65 hr)) og_in (EX.look (ex_tup (ax_cons (ex_var 6) (ax_cons (ex_var 4) ax_nil)))) (vx_var 0) rfl)))) (bx_one (sx_append 3 (ex_tup (ax_cons (ex_var 4) (ax_cons (ex_var 5) (ax_cons (ex_var 6) ax_nil)))))) bx_nil)))))
    (bx_cons (sx_if (UX.test (ux_and (tx_cmp (op_neD hr.units) og_ne (vx_var 3) (EX.look (ex_lst ax_nil)) (nomark _)) (ux_and1 (tx_cmp (oGt hr.units) og_gt (vx_op op_mod og_mod (vx_var 2) vx_int) vx_int (nomark _))))) (bx_cons (sx_set 7 (by exact sc_l_turn_by.nd) (ex_ixS 3 (vx_op op_mod og_mod (vx_op op_fdiv og_div (vx_var 2) vx_int) (vx_cb cLen cg_len T.zlen PySem.boot_len (wa_cons (vx_var 3) wa_nil)))))
    (bx_one (sx_ret (ex_if (tx_cmp (op_eqD hr.units) og_eq (vx_op op_mod og_mod (vx_var 2) vx_int) vx_int (nomark _)) (ex_revT (vx_var 7)) (ex_mv 7))))) bx_nil)
    (bx_one (sx_ret (ex_tupOf T.ztuple (EX.look (ex_comp (own := [("_law_k", 8)]) (by rfl) (by exact sc_l_turn_by.nd) (ix_rng1 (by rfl) T.zrange (wa_cons vx_int wa_nil)) (by exact blkOk_by (own := [("_law_k", 8)]) (N := ["_law_games", "_law_players", "_law_cell", "_law_threes", "_law_a", "_law_b", "_law_c", "_law_turn", "_law_k"]) (sc := defScope s_l_turn_by) (by decide +kernel)) (fun _ _ _ _ _ => (gx_name 8 (by exact sc_l_turn_by.nd))) (fun _ _ _ _ _ => kx_nil) (fun _ _ _ _ _ => (VX.keep (vx_op op_mod og_mod (EX.look (ex_callC C_l_mixed takes0 (hr.mono (by decide)) (wa_cons (vx_var 2) (wa_cons (vx_var 8) wa_nil)))) (vx_var 1)))) (by decide)))))))))⟩
abbrev s_law : Stmt := topS 27
theorem sc_law : FnScope ["_law_script", "_law_players", "_law_games", "_law_handed", "_law_at", "_law_odd", "_law_turn", "_law_ring", "_law_due", "_law_found", "_law_thing", "_law_pair"] ["_law_script"] (defScope s_law) := ⟨rfl, rfl, rfl, by decide +kernel, rfl, by decide +kernel, by decide +kernel⟩
theorem ok_law {P : Program} {w : World} {K : PySem.W.Frag} {mg : Str → Option Value} {base : Heap} (T : Txt K mg) (C_turned : Cal P w K mg base "turned" 5 ["games", "players", "turn"] Sh.fd_turned) (C_l_cell_at : Cal P w K mg base "_law_cell_at" 1 ["_law_script", "_law_k"] Sh.fd_l_cell_at) (C_l_round_by : Cal P w K mg base "_law_round_by" 3 ["_law_cell", "_law_players"] Sh.fd_l_round_by) (C_l_wins : Cal P w K mg base "_law_wins" 1 ["_law_games", "_law_players"] Sh.fd_l_wins) (C_l_is_round : Cal P w K mg base "_law_is_round" 1 ["_law_games", "_law_players"] Sh.fd_l_is_round) (C_l_refused : Cal P w K mg base "_law_refused" 6 ["_law_games", "_law_players", "_law_turn"] fd_l_refused) (C_l_turn_by : Cal P w K mg base "_law_turn_by" 2 ["_law_games", "_law_players", "_law_cell"] fd_l_turn_by) {f : Addr} {fd : FuncData} (F : Fun K "law" "law" s_law f fd) : FnOk P w K mg base (L2.CX P w) 7 f fd ["_law_script"] (spD K mg 1 fd_law) := fn_ok (N := ["_law_script", "_law_players", "_law_games", "_law_handed", "_law_at", "_law_odd", "_law_turn", "_law_ring", "_law_due", "_law_found", "_law_thing", "_law_pair"]) (g := dn_law) F sc_law (by decide) fun cdv A outer s H E hr => ⟨_, by
  unfold dn_law
  exact (bx_cons (sx_set 1 (by exact sc_law.nd) (VX.keep (vx_op oAdd og_add vx_int (vx_op op_mod og_mod (EX.look (ex_callC C_l_cell_at (by exact takes_of rfl rfl rfl rfl) (hr.mono (by decide)) (wa_cons (vx_var 0) (wa_cons vx_int wa_nil)))) vx_int))))
    (bx_cons (sx_set 2 (by exact sc_law.nd) (ex_callC C_l_round_by (by exact takes_of rfl rfl rfl rfl) (hr.mono (by decide)) (wa_cons (EX.look (ex_callC C_l_cell_at (by exact takes_of rfl rfl rfl rfl) (hr.mono (by decide)) (wa_cons (vx_var 0) (wa_cons vx_int wa_nil)))) (wa_cons (vx_var 1) wa_nil))))
    (bx_cons (sx_set 3 (by exact sc_law.nd) (ex_listS 2 T.zlist))
    (bx_cons (sx_for (by exact passes_of rfl) (by rfl) (ix_rng1 (by rfl) T.zrange (wa_cons vx_int wa_nil)) (gx_name 4 (by exact sc_law.nd)) (bx_cons (sx_set 6 (by exact sc_law.nd) (ex_callC C_l_turn_by (by exact takes_of rfl rfl rfl rfl) (hr.mono (by decide)) (wa_cons (vx_var 2) (wa_cons (vx_var 1) (wa_cons (vx_op oAdd og_add (EX.look (ex_callC C_l_cell_at (by exact takes_of rfl rfl rfl rfl) (hr.mono (by decide)) (wa_cons (vx_var 0) (wa_cons vx_int wa_nil)))) (vx_op op_mul og_mul vx_int (vx_var 4))) wa_nil)))))
    (bx_cons (sx_set 7 (by exact sc_law.nd) (ex_lst (ax_cons (ex_tup (ax_cons (ex_ixS 6 vx_int) (ax_cons (ex_ixS 6 vx_int) ax_nil))) (ax_cons (ex_tup (ax_cons (ex_ixS 6 vx_int) (ax_cons (ex_ixS 6 vx_int) ax_nil))) (ax_cons (ex_tup (ax_cons (ex_ixS 6 vx_int) (ax_cons (ex_ixS 6 vx_int) ax_nil))) ax_nil)))))
    (bx_cons (sx_if (tx_not (tx_val (vx_cb (cr_all (by rfl)) cg_all T.zall bt_all (wa_cons (EX.look (ex_comp (own := [("_law_pair", 11)]) (by rfl) (by exact sc_law.nd) (ix_lst (ex_frz 7)) (by exact blkOk_by (own := [("_law_pair", 11)]) (N := ["_law_script", "_law_players", "_law_games", "_law_handed", "_law_at", "_law_odd", "_law_turn", "_law_ring", "_law_due", "_law_found", "_law_thing", "_law_pair"]) (sc := defScope s_law) (by decide +kernel)) (fun _ _ _ _ _ => (gx_name 11 (by exact sc_law.nd))) (fun _ _ _ _ _ => kx_nil) (fun _ _ _ _ _ => (VX.keep (vx_cmp (oIn (Room.u65 hr)) og_in (vx_var 11) (vx_var 2) rfl))) (by decide))) wa_nil)))) (bx_one (sx_if (tx_not (tx_val (EX.look (ex_callC C_l_refused (by exact takes_of rfl rfl rfl rfl) (hr.mono (by decide)) (wa_cons (vx_var 3) (wa_cons (vx_var 1) (wa_cons (vx_var 6) wa_nil))))))) (bx_one (sx_ret (VX.keep vx_bl))) bx_nil)) (bx_cons (sx_setComp 8 (own := [("_law_pair", 11)]) (by rfl) (by exact sc_law.nd) (ix_lst (ex_frz 2)) (by exact blkOk_by (own := [("_law_pair", 11)]) (N := ["_law_script", "_law_players", "_law_games", "_law_handed", "_law_at", "_law_odd", "_law_turn", "_law_ring", "_law_due", "_law_found", "_law_thing", "_law_pair"]) (sc := defScope s_law) (by decide +kernel)) (fun _ _ _ _ _ => (gx_name 11 (by exact sc_law.nd))) (fun _ _ _ _ _ => kx_nil) (fun _ _ _ _ _ => (ex_if (tx_cmp (oIn (Room.u65 hr)) og_in (vx_var 11) (vx_var 7) rfl) (ex_revT (vx_var 11)) (ex_var 11))) (by decide))
    (bx_cons (sx_set 9 (by exact sc_law.nd) (ex_callC C_turned (by exact takes_of rfl rfl rfl rfl) (hr.mono (by decide)) (wa_cons (vx_var 3) (wa_cons (vx_var 1) (wa_cons (vx_var 6) wa_nil)))))
    (bx_cons (sx_if (UX.test (ux_or (tx_not (tx_val (EX.look (ex_callC C_l_is_round (by exact takes_of rfl rfl rfl rfl) (hr.mono (by decide)) (wa_cons (vx_var 9) (wa_cons (vx_var 1) wa_nil)))))) (ux_or1 (tx_cmp (op_neD hr.units) og_ne (vx_var 9) (vx_var 8) (nomark _))))) (bx_one (sx_ret (VX.keep vx_bl))) bx_nil)
    (bx_cons (sx_if (tx_cmp (op_neD hr.units) og_ne (EX.look (ex_callC C_l_wins (by exact takes_of rfl rfl rfl rfl) (hr.mono (by decide)) (wa_cons (vx_var 8) (wa_cons (vx_var 1) wa_nil)))) (EX.look (ex_callC C_l_wins (by exact takes_of rfl rfl rfl rfl) (hr.mono (by decide)) (wa_cons (vx_var 2) (wa_cons (vx_var 1) wa_nil)))) (nomark _)) (bx_one (sx_ret (VX.keep vx_bl))) bx_nil)
    (bx_cons (sx_clear 9)
    (bx_one (sx_if (tx_cmp (op_neD hr.units) og_ne (EX.look (ex_callC C_turned (by exact takes_of rfl rfl rfl rfl) (hr.mono (by decide)) (wa_cons (vx_var 3) (wa_cons (vx_var 1) (wa_cons (vx_var 6) wa_nil))))) (vx_var 8) (nomark _)) (bx_one (sx_ret (VX.keep vx_bl))) bx_nil))))))))
    (bx_one (sx_if (tx_cmp (op_neD hr.units) og_ne (vx_var 3) (vx_var 2) (nomark _)) (bx_one (sx_ret (VX.keep vx_bl))) bx_nil))))))
    (bx_cons (sx_set 5 (by exact sc_law.nd) (ex_lst (ax_cons (ex_tup (ax_cons (ex_lst (ax_cons (VX.keep vx_int) ax_nil)) (ax_cons (VX.keep vx_int) (ax_cons (VX.keep vx_int) ax_nil)))) ax_nil)))
    (bx_cons (sx_set 5 (by exact sc_law.nd) (ex_catM (ex_mv 5) (ex_lst (ax_cons (VX.keep vx_non) (ax_cons (ex_tup (ax_cons (VX.keep vx_int) (ax_cons (VX.keep vx_int) ax_nil))) (ax_cons (ex_lst (ax_cons (VX.keep vx_int) (ax_cons (VX.keep vx_int) (ax_cons (VX.keep vx_int) ax_nil)))) (ax_cons (ex_tup (ax_cons (VX.keep vx_int) (ax_cons (VX.keep vx_int) (ax_cons (ex_var 1) ax_nil)))) (ax_cons (ex_tup (ax_cons (VX.keep (vx_neg vx_int)) (ax_cons (VX.keep vx_int) (ax_cons (VX.keep vx_int) ax_nil)))) (ax_cons (ex_tup (ax_cons (VX.keep vx_bl) (ax_cons (VX.keep vx_int) (ax_cons (VX.keep vx_int) ax_nil)))) (ax_cons (ex_tup (ax_cons (VX.keep vx_str) (ax_cons (VX.keep vx_str) (ax_cons (VX.keep vx_str) ax_nil)))) (ax_cons (ex_tup (ax_cons (VX.keep vx_int) (ax_cons (VX.keep vx_int) (ax_cons (VX.keep vx_int) (ax_cons (VX.keep vx_int) ax_nil))))) ax_nil)))))))))))
    (bx_one (sx_ret (VX.keep (vx_cb (cr_all (by rfl)) cg_all T.zall bt_all (wa_cons (EX.look (ex_comp (own := [("_law_thing", 10)]) (by rfl) (by exact sc_law.nd) (ix_lst (ex_frz 5)) (by exact blkOk_by (own := [("_law_thing", 10)]) (N := ["_law_script", "_law_players", "_law_games", "_law_handed", "_law_at", "_law_odd", "_law_turn", "_law_ring", "_law_due", "_law_found", "_law_thing", "_law_pair"]) (sc := defScope s_law) (by decide +kernel)) (fun _ _ _ _ _ => (gx_name 10 (by exact sc_law.nd))) (fun _ _ _ _ _ => kx_nil) (fun _ _ _ _ _ => (ex_callC C_l_refused takes0 (hr.mono (by decide)) (wa_cons (vx_var 3) (wa_cons (vx_var 1) (wa_cons (vx_var 10) wa_nil))))) (by decide))) wa_nil)))))))))))⟩
theorem all_mk {P : Program} {w : World} {K : PySem.W.Frag} {h : Heap} {mg : Str → Option Value} {fa : Addr} (hlaw : ∀ ns : List Int, ns.length ≤ 63 → fd_law [.sc ns] = some (.rt (.bl true))) (X : K.In h) (G : h.Ns mainGlobals mg) (hfa : mg "law" = some (.ref fa))
    {tMOST : Tok} {CBadRound : Addr} {CBadTurn : Addr} {CRoundError : Addr} {CBadPlayer : Addr} {CBadText : Addr} {CBadWins : Addr} {CUnlike : Addr} {f0 : Addr} {od0 an0 : Option Addr} {sl0 : Array (Option Value)} {oc0 kV0 dc0 pm0 cd0 ct0 : Value} {f1 : Addr} {od1 an1 : Option Addr} {sl1 : Array (Option Value)} {oc1 kV1 dc1 pm1 cd1 ct1 : Value} {f2 : Addr} {od2 an2 : Option Addr} {sl2 : Array (Option Value)} {oc2 kV2 dc2 pm2 cd2 ct2 : Value} {f3 : Addr} {od3 an3 : Option Addr} {sl3 : Array (Option Value)} {oc3 kV3 dc3 pm3 cd3 ct3 : Value} {f4 : Addr} {od4 an4 : Option Addr} {sl4 : Array (Option Value)} {oc4 kV4 dc4 pm4 cd4 ct4 : Value} {f5 : Addr} {od5 an5 : Option Addr} {sl5 : Array (Option Value)} {oc5 kV5 dc5 pm5 cd5 ct5 : Value} {f6 : Addr} {od6 an6 : Option Addr} {sl6 : Array (Option Value)} {oc6 kV6 dc6 pm6 cd6 ct6 : Value} {f7 : Addr} {od7 an7 : Option Addr} {sl7 : Array (Option Value)} {oc7 kV7 dc7 pm7 cd7 ct7 : Value} {f8 : Addr} {od8 an8 : Option Addr} {sl8 : Array (Option Value)} {oc8 kV8 dc8 pm8 cd8 ct8 : Value} {f9 : Addr} {od9 an9 : Option Addr} {sl9 : Array (Option Value)} {oc9 kV9 dc9 pm9 cd9 ct9 : Value} {f10 : Addr} {od10 an10 : Option Addr} {sl10 : Array (Option Value)} {oc10 kV10 dc10 pm10 cd10 ct10 : Value} {f11 : Addr} {od11 an11 : Option Addr} {sl11 : Array (Option Value)} {oc11 kV11 dc11 pm11 cd11 ct11 : Value} {f12 : Addr} {od12 an12 : Option Addr} {sl12 : Array (Option Value)} {oc12 kV12 dc12 pm12 cd12 ct12 : Value} {f13 : Addr} {od13 an13 : Option Addr} {sl13 : Array (Option Value)} {oc13 kV13 dc13 pm13 cd13 ct13 : Value} {f14 : Addr} {od14 an14 : Option Addr} {sl14 : Array (Option Value)} {oc14 kV14 dc14 pm14 cd14 ct14 : Value}
    (zValueError : PySem.W.nsIn K mainGlobals "ValueError" = some none)
    (zall : PySem.W.nsIn K mainGlobals "all" = some none)
    (zbool : PySem.W.nsIn K mainGlobals "bool" = some none)
    (zint : PySem.W.nsIn K mainGlobals "int" = some none)
    (zisinstance : PySem.W.nsIn K mainGlobals "isinstance" = some none)
    (zlen : PySem.W.nsIn K mainGlobals "len" = some none)
    (zlist : PySem.W.nsIn K mainGlobals "list" = some none)
    (zmax : PySem.W.nsIn K mainGlobals "max" = some none)
    (zmin : PySem.W.nsIn K mainGlobals "min" = some none)
    (zrange : PySem.W.nsIn K mainGlobals "range" = some none)
    (ztuple : PySem.W.nsIn K mainGlobals "tuple" = some none)
    (cMOST : PySem.W.nsIn K mainGlobals "MOST" = some (some (.int 10 tMOST)))
    (gBadRound : PySem.W.nsIn K mainGlobals "BadRound" = some (some (.ref CBadRound)))
    (xBadRound : PySem.W.excIn K CBadRound [.type "ValueError", .type "Exception", .type "BaseException", .type "object"] "ValueError.__new__" = true)
    (kBadRound : PySem.W.keepIn K (.ref CBadRound) = true)
    (bBadRound : PySem.W.subIn K (.ref CBadRound) (.type "BaseException") = some true)
    (tBadRound : PySem.W.typeIn K (.ref CBadRound) = some (.type "type"))
    (gBadTurn : PySem.W.nsIn K mainGlobals "BadTurn" = some (some (.ref CBadTurn)))
    (xBadTurn : PySem.W.excIn K CBadTurn [.type "ValueError", .type "Exception", .type "BaseException", .type "object"] "ValueError.__new__" = true)
    (kBadTurn : PySem.W.keepIn K (.ref CBadTurn) = true)
    (bBadTurn : PySem.W.subIn K (.ref CBadTurn) (.type "BaseException") = some true)
    (tBadTurn : PySem.W.typeIn K (.ref CBadTurn) = some (.type "type"))
    (gRoundError : PySem.W.nsIn K mainGlobals "RoundError" = some (some (.ref CRoundError)))
    (gBadPlayer : PySem.W.nsIn K mainGlobals "BadPlayer" = some (some (.ref CBadPlayer)))
    (gBadText : PySem.W.nsIn K mainGlobals "BadText" = some (some (.ref CBadText)))
    (gBadWins : PySem.W.nsIn K mainGlobals "BadWins" = some (some (.ref CBadWins)))
    (gUnlike : PySem.W.nsIn K mainGlobals "Unlike" = some (some (.ref CUnlike)))
    (uBadTurnhg : PySem.W.findIn K (.ref CBadTurn) "__getattribute__" = some (some (.builtin "BaseException.__getattribute__")))
    (uBadTurnhk : PySem.W.findIn K (.ref CBadTurn) "__getattr__" = some none)
    (uBadTurnhs : PySem.W.subIn K (.ref CBadTurn) (.type "BaseException") = some true)
    (uBadTurnhd : PySem.W.hasDictIn K CBadTurn = true)
    (uBadTurnha : PySem.W.findIn K (.ref CBadTurn) "__class__" = some (some (.builtin "object.__class__")))
    (uBadTurnhn : PySem.W.specialIn K (.builtin "object.__class__") "__get__" = some (some (.builtin "getset_descriptor.__get__")))
    (uBadTurnht : PySem.W.takesIn K (.builtin "object.__class__") = some true)
    (uBadTurnhm : PySem.W.mroIn K CBadTurn (.type "object") = some true)
    (rBadTurn_RoundError_BadTurnb : PySem.W.subIn K (.ref CRoundError) (.type "BaseException") = some true)
    (rBadTurn_RoundError_BadTurnv : PySem.W.subIn K (.ref CBadTurn) (.type "ValueError") = some true)
    (rBadTurn_RoundError_BadTurns : PySem.W.subIn K (.ref CBadTurn) (.ref CBadTurn) = some true)
    (rBadTurn_RoundError_BadTurndRoundError : PySem.W.hasDictIn K CRoundError = true)
    (rBadTurn_RoundError_BadTurntRoundError : PySem.W.typeIn K (.ref CRoundError) = some (.type "type"))
    (rBadTurn_RoundError_BadTurnuRoundError : PySem.W.subIn K (.ref CBadTurn) (.ref CRoundError) = some true)
    (rBadTurn_RoundError_BadTurndBadTurn : PySem.W.hasDictIn K CBadTurn = true)
    (rBadTurn_RoundError_BadTurntBadTurn : PySem.W.typeIn K (.ref CBadTurn) = some (.type "type"))
    (rBadTurn_RoundError_BadTurnuBadTurn : PySem.W.subIn K (.ref CBadTurn) (.ref CBadTurn) = some true)
    (rBadTurn_RoundError_BadTurndBadPlayer : PySem.W.hasDictIn K CBadPlayer = true)
    (rBadTurn_RoundError_BadTurntBadPlayer : PySem.W.typeIn K (.ref CBadPlayer) = some (.type "type"))
    (rBadTurn_RoundError_BadTurnuBadPlayer : PySem.W.subIn K (.ref CBadTurn) (.ref CBadPlayer) = some false)
    (rBadTurn_RoundError_BadTurndBadRound : PySem.W.hasDictIn K CBadRound = true)
    (rBadTurn_RoundError_BadTurntBadRound : PySem.W.typeIn K (.ref CBadRound) = some (.type "type"))
    (rBadTurn_RoundError_BadTurnuBadRound : PySem.W.subIn K (.ref CBadTurn) (.ref CBadRound) = some false)
    (rBadTurn_RoundError_BadTurndBadText : PySem.W.hasDictIn K CBadText = true)
    (rBadTurn_RoundError_BadTurntBadText : PySem.W.typeIn K (.ref CBadText) = some (.type "type"))
    (rBadTurn_RoundError_BadTurnuBadText : PySem.W.subIn K (.ref CBadTurn) (.ref CBadText) = some false)
    (rBadTurn_RoundError_BadTurndBadWins : PySem.W.hasDictIn K CBadWins = true)
    (rBadTurn_RoundError_BadTurntBadWins : PySem.W.typeIn K (.ref CBadWins) = some (.type "type"))
    (rBadTurn_RoundError_BadTurnuBadWins : PySem.W.subIn K (.ref CBadTurn) (.ref CBadWins) = some false)
    (rBadTurn_RoundError_BadTurndUnlike : PySem.W.hasDictIn K CUnlike = true)
    (rBadTurn_RoundError_BadTurntUnlike : PySem.W.typeIn K (.ref CUnlike) = some (.type "type"))
    (rBadTurn_RoundError_BadTurnuUnlike : PySem.W.subIn K (.ref CBadTurn) (.ref CUnlike) = some false)
    (a0 : PySem.W.nsIn K mainGlobals "within" = some (some (.ref f0)))
    (l0 : K.lookup f0 = some ⟨oc0, od0, .func (PySem.W.fnOf "within" "within" (defArgs s_within) (defBody s_within) (defScope s_within) .none kV0 dc0 pm0 an0 cd0 ct0), sl0⟩)
    (p0 : PySem.W.codeIn K cd0 "within" = true)
    (k0 : PySem.W.keepIn K (.ref f0) = true)
    (a1 : PySem.W.nsIn K mainGlobals "is_game" = some (some (.ref f1)))
    (l1 : K.lookup f1 = some ⟨oc1, od1, .func (PySem.W.fnOf "is_game" "is_game" (defArgs s_is_game) (defBody s_is_game) (defScope s_is_game) .none kV1 dc1 pm1 an1 cd1 ct1), sl1⟩)
    (p1 : PySem.W.codeIn K cd1 "is_game" = true)
    (k1 : PySem.W.keepIn K (.ref f1) = true)
    (a2 : PySem.W.nsIn K mainGlobals "game_of" = some (some (.ref f2)))
    (l2 : K.lookup f2 = some ⟨oc2, od2, .func (PySem.W.fnOf "game_of" "game_of" (defArgs s_game_of) (defBody s_game_of) (defScope s_game_of) .none kV2 dc2 pm2 an2 cd2 ct2), sl2⟩)
    (p2 : PySem.W.codeIn K cd2 "game_of" = true)
    (k2 : PySem.W.keepIn K (.ref f2) = true)
    (a3 : PySem.W.nsIn K mainGlobals "check_begun" = some (some (.ref f3)))
    (l3 : K.lookup f3 = some ⟨oc3, od3, .func (PySem.W.fnOf "check_begun" "check_begun" (defArgs s_check_begun) (defBody s_check_begun) (defScope s_check_begun) .none kV3 dc3 pm3 an3 cd3 ct3), sl3⟩)
    (p3 : PySem.W.codeIn K cd3 "check_begun" = true)
    (k3 : PySem.W.keepIn K (.ref f3) = true)
    (a4 : PySem.W.nsIn K mainGlobals "check_round" = some (some (.ref f4)))
    (l4 : K.lookup f4 = some ⟨oc4, od4, .func (PySem.W.fnOf "check_round" "check_round" (defArgs s_check_round) (defBody s_check_round) (defScope s_check_round) .none kV4 dc4 pm4 an4 cd4 ct4), sl4⟩)
    (p4 : PySem.W.codeIn K cd4 "check_round" = true)
    (k4 : PySem.W.keepIn K (.ref f4) = true)
    (a5 : PySem.W.nsIn K mainGlobals "turned" = some (some (.ref f5)))
    (l5 : K.lookup f5 = some ⟨oc5, od5, .func (PySem.W.fnOf "turned" "turned" (defArgs s_turned) (defBody s_turned) (defScope s_turned) .none kV5 dc5 pm5 an5 cd5 ct5), sl5⟩)
    (p5 : PySem.W.codeIn K cd5 "turned" = true)
    (k5 : PySem.W.keepIn K (.ref f5) = true)
    (a6 : PySem.W.nsIn K mainGlobals "_law_cell_at" = some (some (.ref f6)))
    (l6 : K.lookup f6 = some ⟨oc6, od6, .func (PySem.W.fnOf "_law_cell_at" "_law_cell_at" (defArgs s_l_cell_at) (defBody s_l_cell_at) (defScope s_l_cell_at) .none kV6 dc6 pm6 an6 cd6 ct6), sl6⟩)
    (p6 : PySem.W.codeIn K cd6 "_law_cell_at" = true)
    (k6 : PySem.W.keepIn K (.ref f6) = true)
    (a7 : PySem.W.nsIn K mainGlobals "_law_mixed" = some (some (.ref f7)))
    (l7 : K.lookup f7 = some ⟨oc7, od7, .func (PySem.W.fnOf "_law_mixed" "_law_mixed" (defArgs s_l_mixed) (defBody s_l_mixed) (defScope s_l_mixed) .none kV7 dc7 pm7 an7 cd7 ct7), sl7⟩)
    (p7 : PySem.W.codeIn K cd7 "_law_mixed" = true)
    (k7 : PySem.W.keepIn K (.ref f7) = true)
    (a8 : PySem.W.nsIn K mainGlobals "_law_first_wins" = some (some (.ref f8)))
    (l8 : K.lookup f8 = some ⟨oc8, od8, .func (PySem.W.fnOf "_law_first_wins" "_law_first_wins" (defArgs s_l_first_wins) (defBody s_l_first_wins) (defScope s_l_first_wins) .none kV8 dc8 pm8 an8 cd8 ct8), sl8⟩)
    (p8 : PySem.W.codeIn K cd8 "_law_first_wins" = true)
    (k8 : PySem.W.keepIn K (.ref f8) = true)
    (a9 : PySem.W.nsIn K mainGlobals "_law_round_by" = some (some (.ref f9)))
    (l9 : K.lookup f9 = some ⟨oc9, od9, .func (PySem.W.fnOf "_law_round_by" "_law_round_by" (defArgs s_l_round_by) (defBody s_l_round_by) (defScope s_l_round_by) .none kV9 dc9 pm9 an9 cd9 ct9), sl9⟩)
    (p9 : PySem.W.codeIn K cd9 "_law_round_by" = true)
    (k9 : PySem.W.keepIn K (.ref f9) = true)
    (a10 : PySem.W.nsIn K mainGlobals "_law_wins" = some (some (.ref f10)))
    (l10 : K.lookup f10 = some ⟨oc10, od10, .func (PySem.W.fnOf "_law_wins" "_law_wins" (defArgs s_l_wins) (defBody s_l_wins) (defScope s_l_wins) .none kV10 dc10 pm10 an10 cd10 ct10), sl10⟩)
    (p10 : PySem.W.codeIn K cd10 "_law_wins" = true)
    (k10 : PySem.W.keepIn K (.ref f10) = true)
    (a11 : PySem.W.nsIn K mainGlobals "_law_is_round" = some (some (.ref f11)))
    (l11 : K.lookup f11 = some ⟨oc11, od11, .func (PySem.W.fnOf "_law_is_round" "_law_is_round" (defArgs s_l_is_round) (defBody s_l_is_round) (defScope s_l_is_round) .none kV11 dc11 pm11 an11 cd11 ct11), sl11⟩)
    (p11 : PySem.W.codeIn K cd11 "_law_is_round" = true)
    (k11 : PySem.W.keepIn K (.ref f11) = true)
    (a12 : PySem.W.nsIn K mainGlobals "_law_refused" = some (some (.ref f12)))
    (l12 : K.lookup f12 = some ⟨oc12, od12, .func (PySem.W.fnOf "_law_refused" "_law_refused" (defArgs s_l_refused) (defBody s_l_refused) (defScope s_l_refused) .none kV12 dc12 pm12 an12 cd12 ct12), sl12⟩)
    (p12 : PySem.W.codeIn K cd12 "_law_refused" = true)
    (k12 : PySem.W.keepIn K (.ref f12) = true)
    (a13 : PySem.W.nsIn K mainGlobals "_law_turn_by" = some (some (.ref f13)))
    (l13 : K.lookup f13 = some ⟨oc13, od13, .func (PySem.W.fnOf "_law_turn_by" "_law_turn_by" (defArgs s_l_turn_by) (defBody s_l_turn_by) (defScope s_l_turn_by) .none kV13 dc13 pm13 an13 cd13 ct13), sl13⟩)
    (p13 : PySem.W.codeIn K cd13 "_law_turn_by" = true)
    (k13 : PySem.W.keepIn K (.ref f13) = true)
    (a14 : PySem.W.nsIn K mainGlobals "law" = some (some (.ref f14)))
    (l14 : K.lookup f14 = some ⟨oc14, od14, .func (PySem.W.fnOf "law" "law" (defArgs s_law) (defBody s_law) (defScope s_law) .none kV14 dc14 pm14 an14 cd14 ct14), sl14⟩)
    (p14 : PySem.W.codeIn K cd14 "law" = true)
    (k14 : PySem.W.keepIn K (.ref f14) = true)
    : ∃ fd : FuncData, (∀ (s : Shared) (u : Value), BindsTo s fd ⟨[u], []⟩ [("_law_script", u)]) ∧ ∀ base : Heap, K.In base → base.Ns mainGlobals mg → FnOk P w K mg base (L2.CX P w) 7 fa fd ["_law_script"] (spLaw 63 K) := by
  have e := hfa.symm.trans (PySem.W.mg_of X G a14)
  cases e
  have T : Txt K mg := ⟨PySem.W.mg_none_of X G zValueError, PySem.W.mg_none_of X G zall, PySem.W.mg_none_of X G zbool, PySem.W.mg_none_of X G zint, PySem.W.mg_none_of X G zisinstance, PySem.W.mg_none_of X G zlen, PySem.W.mg_none_of X G zlist, PySem.W.mg_none_of X G zmax, PySem.W.mg_none_of X G zmin, PySem.W.mg_none_of X G zrange, PySem.W.mg_none_of X G ztuple, ⟨tMOST, PySem.W.mg_of X G cMOST⟩, ⟨CBadRound, xBadRound, PySem.W.mg_of X G gBadRound, kBadRound, bBadRound, tBadRound⟩, ⟨CBadTurn, xBadTurn, PySem.W.mg_of X G gBadTurn, kBadTurn, bBadTurn, tBadTurn⟩, ⟨CBadTurn, CRoundError, CBadTurn, [CBadPlayer, CBadRound, CBadText, CBadWins, CUnlike], ⟨PySem.W.mg_of X G gBadTurn, PySem.W.mg_of X G gRoundError, PySem.W.mg_of X G gBadTurn, by simp only [List.map_cons, List.map_nil, PySem.W.mg_of X G gBadPlayer, PySem.W.mg_of X G gBadRound, PySem.W.mg_of X G gBadText, PySem.W.mg_of X G gBadWins, PySem.W.mg_of X G gUnlike], PySem.W.mg_none_of X G zValueError, PySem.W.mg_none_of X G zisinstance, ⟨uBadTurnhg, uBadTurnhk, uBadTurnhs, uBadTurnhd, uBadTurnha, uBadTurnhn, uBadTurnht, uBadTurnhm⟩, PySem.W.exm_ref rBadTurn_RoundError_BadTurnb rBadTurn_RoundError_BadTurndRoundError rBadTurn_RoundError_BadTurntRoundError rBadTurn_RoundError_BadTurnuRoundError, kit_ref rBadTurn_RoundError_BadTurndBadTurn rBadTurn_RoundError_BadTurntBadTurn rBadTurn_RoundError_BadTurnuBadTurn rBadTurn_RoundError_BadTurns, kit_val rBadTurn_RoundError_BadTurnv, (kit_cons (kit_ref rBadTurn_RoundError_BadTurndBadPlayer rBadTurn_RoundError_BadTurntBadPlayer rBadTurn_RoundError_BadTurnuBadPlayer rBadTurn_RoundError_BadTurns) (kit_cons (kit_ref rBadTurn_RoundError_BadTurndBadRound rBadTurn_RoundError_BadTurntBadRound rBadTurn_RoundError_BadTurnuBadRound rBadTurn_RoundError_BadTurns) (kit_cons (kit_ref rBadTurn_RoundError_BadTurndBadText rBadTurn_RoundError_BadTurntBadText rBadTurn_RoundError_BadTurnuBadText rBadTurn_RoundError_BadTurns) (kit_cons (kit_ref rBadTurn_RoundError_BadTurndBadWins rBadTurn_RoundError_BadTurntBadWins rBadTurn_RoundError_BadTurnuBadWins rBadTurn_RoundError_BadTurns) (kit_cons (kit_ref rBadTurn_RoundError_BadTurndUnlike rBadTurn_RoundError_BadTurntUnlike rBadTurn_RoundError_BadTurnuUnlike rBadTurn_RoundError_BadTurns) kit_nil)))))⟩⟩⟩
  have F0 := fun_mk (st := s_within) l0 p0 k0
  have F1 := fun_mk (st := s_is_game) l1 p1 k1
  have F2 := fun_mk (st := s_game_of) l2 p2 k2
  have F3 := fun_mk (st := s_check_begun) l3 p3 k3
  have F4 := fun_mk (st := s_check_round) l4 p4 k4
  have F5 := fun_mk (st := s_turned) l5 p5 k5
  have F6 := fun_mk (st := s_l_cell_at) l6 p6 k6
  have F7 := fun_mk (st := s_l_mixed) l7 p7 k7
  have F8 := fun_mk (st := s_l_first_wins) l8 p8 k8
  have F9 := fun_mk (st := s_l_round_by) l9 p9 k9
  have F10 := fun_mk (st := s_l_wins) l10 p10 k10
  have F11 := fun_mk (st := s_l_is_round) l11 p11 k11
  have F12 := fun_mk (st := s_l_refused) l12 p12 k12
  have F13 := fun_mk (st := s_l_turn_by) l13 p13 k13
  have F14 := fun_mk (st := s_law) l14 p14 k14
  refine ⟨PySem.W.fnOf "law" "law" (defArgs s_law) (defBody s_law) (defScope s_law) .none kV14 dc14 pm14 an14 cd14 ct14, fun s u => .of_eq rfl, fun base _ _ => ?_⟩
  have C_within : Cal P w K mg base "within" 1 ["number", "low", "high"] Sh.fd_within := ⟨_, _, ok_within T  F0, PySem.W.mg_of X G a0, k0, F0.binds (ps := ["number", "low", "high"]) fun _ _ _ _ _ _ us hl => match us, hl with | [_, _, _], _ => rfl⟩
  have C_is_game : Cal P w K mg base "is_game" 2 ["pair", "players"] Sh.fd_is_game := ⟨_, _, ok_is_game T C_within F1, PySem.W.mg_of X G a1, k1, F1.binds (ps := ["pair", "players"]) fun _ _ _ _ _ _ us hl => match us, hl with | [_, _], _ => rfl⟩
  have C_game_of : Cal P w K mg base "game_of" 1 ["pair"] Sh.fd_game_of := ⟨_, _, ok_game_of T  F2, PySem.W.mg_of X G a2, k2, F2.binds (ps := ["pair"]) fun _ _ _ _ _ _ us hl => match us, hl with | [_], _ => rfl⟩
  have C_check_begun : Cal P w K mg base "check_begun" 3 ["begun", "players"] Sh.fd_check_begun := ⟨_, _, ok_check_begun T C_within C_is_game C_game_of F3, PySem.W.mg_of X G a3, k3, F3.binds (ps := ["begun", "players"]) fun _ _ _ _ _ _ us hl => match us, hl with | [_, _], _ => rfl⟩
  have C_check_round : Cal P w K mg base "check_round" 4 ["games", "players"] Sh.fd_check_round := ⟨_, _, ok_check_round T C_check_begun F4, PySem.W.mg_of X G a4, k4, F4.binds (ps := ["games", "players"]) fun _ _ _ _ _ _ us hl => match us, hl with | [_, _], _ => rfl⟩
  have C_turned : Cal P w K mg base "turned" 5 ["games", "players", "turn"] Sh.fd_turned := ⟨_, _, ok_turned T C_within C_check_round F5, PySem.W.mg_of X G a5, k5, F5.binds (ps := ["games", "players", "turn"]) fun _ _ _ _ _ _ us hl => match us, hl with | [_, _, _], _ => rfl⟩
  have C_l_cell_at : Cal P w K mg base "_law_cell_at" 1 ["_law_script", "_law_k"] Sh.fd_l_cell_at := ⟨_, _, ok_l_cell_at T  F6, PySem.W.mg_of X G a6, k6, F6.binds (ps := ["_law_script", "_law_k"]) fun _ _ _ _ _ _ us hl => match us, hl with | [_, _], _ => rfl⟩
  have C_l_mixed : Cal P w K mg base "_law_mixed" 1 ["_law_cell", "_law_k"] Sh.fd_l_mixed := ⟨_, _, ok_l_mixed T  F7, PySem.W.mg_of X G a7, k7, F7.binds (ps := ["_law_cell", "_law_k"]) fun _ _ _ _ _ _ us hl => match us, hl with | [_, _], _ => rfl⟩
  have C_l_first_wins : Cal P w K mg base "_law_first_wins" 2 ["_law_cell", "_law_one", "_law_other", "_law_players"] Sh.fd_l_first_wins := ⟨_, _, ok_l_first_wins T C_l_mixed F8, PySem.W.mg_of X G a8, k8, F8.binds (ps := ["_law_cell", "_law_one", "_law_other", "_law_players"]) fun _ _ _ _ _ _ us hl => match us, hl with | [_, _, _, _], _ => rfl⟩
  have C_l_round_by : Cal P w K mg base "_law_round_by" 3 ["_law_cell", "_law_players"] Sh.fd_l_round_by := ⟨_, _, ok_l_round_by T C_l_first_wins F9, PySem.W.mg_of X G a9, k9, F9.binds (ps := ["_law_cell", "_law_players"]) fun _ _ _ _ _ _ us hl => match us, hl with | [_, _], _ => rfl⟩
  have C_l_wins : Cal P w K mg base "_law_wins" 1 ["_law_games", "_law_players"] Sh.fd_l_wins := ⟨_, _, ok_l_wins T  F10, PySem.W.mg_of X G a10, k10, F10.binds (ps := ["_law_games", "_law_players"]) fun _ _ _ _ _ _ us hl => match us, hl with | [_, _], _ => rfl⟩
  have C_l_is_round : Cal P w K mg base "_law_is_round" 1 ["_law_games", "_law_players"] Sh.fd_l_is_round := ⟨_, _, ok_l_is_round T  F11, PySem.W.mg_of X G a11, k11, F11.binds (ps := ["_law_games", "_law_players"]) fun _ _ _ _ _ _ us hl => match us, hl with | [_, _], _ => rfl⟩
  have C_l_refused : Cal P w K mg base "_law_refused" 6 ["_law_games", "_law_players", "_law_turn"] fd_l_refused := ⟨_, _, ok_l_refused T C_turned F12, PySem.W.mg_of X G a12, k12, F12.binds (ps := ["_law_games", "_law_players", "_law_turn"]) fun _ _ _ _ _ _ us hl => match us, hl with | [_, _, _], _ => rfl⟩
  have C_l_turn_by : Cal P w K mg base "_law_turn_by" 2 ["_law_games", "_law_players", "_law_cell"] fd_l_turn_by := ⟨_, _, ok_l_turn_by T C_l_mixed F13, PySem.W.mg_of X G a13, k13, F13.binds (ps := ["_law_games", "_law_players", "_law_cell"]) fun _ _ _ _ _ _ us hl => match us, hl with | [_, _, _], _ => rfl⟩
  exact law_ok (ok_law T C_turned C_l_cell_at C_l_round_by C_l_wins C_l_is_round C_l_refused C_l_turn_by F14) hlaw
theorem walk {l : PySem.W.OpenLaw} {q : Program} {loose : List Str} {XP : (Str → Option Value) → Heap → Prop} {YP : World → Heap → Prop} {d : DefRec} {K : Params → PySem.W.Frag} (hn : l.most = some 63) (hdf : d.params.defaults = [])
    (hY : ∀ (w : World) (h : Heap), YP w h → (K w.params).In h)
    (F : ∀ (w : World) (mg : Str → Option Value) (fa : Addr) (h : Heap), (K w.params).In h → h.Ns mainGlobals mg → mg d.name = some (.ref fa) →
      ∃ fd : FuncData, (∀ (s : Shared) (u : Value), BindsTo s fd ⟨[u], []⟩ [("_law_script", u)]) ∧ ∀ base : Heap, (K w.params).In base → base.Ns mainGlobals mg → FnOk l.prog w (K w.params) mg base (L2.CX l.prog w) 7 fa fd ["_law_script"] (spLaw 63 (K w.params))) :
    PySem.W.WalkO q loose XP YP l.row.toRowW d [] (fun f vs => PySem.call f vs) :=
  L2.walk_of (n := 63) (k := 7) (x := "_law_script") (CX := fun w => L2.CX l.prog w) (sp := fun w => spLaw 63 (K w.params)) hn (by decide) hdf ⟨rfl, by decide, by decide⟩ hY F (fun _ _ a ns hl _ hS => ⟨a, ns, rfl, hS, hl, fun _ => rfl⟩) fun _ _ _ _ _ z => by
    obtain ⟨_, _, _, _, _, _, _, _, _, _, _, _, y⟩ := z
    exact y
end Kx

set_option Elab.async false
set_option linter.all false
/-! Ly, part S: what a denotation is worth at a state, step by step (each step a lemma of its own, none by unfolding). -/
namespace Ly
open L2
def kb {α β : Type} (o : Option (Out α)) (g : α → Dn β) : Option (Out β) := match o with
  | none => none
  | some (.ok a ρ') => g a ρ'
  | some (.ex c ρ') => some (.ex c ρ')
section
variable {α β : Type} (ρ : Rho) (c : PySem.Str)
theorem bnd_k (f : Dn α) (g : α → Dn β) : bnd f g ρ = kb (f ρ) g := Eq.trans rfl rfl
theorem kb_ok (a : α) (g : α → Dn β) : kb (some (.ok a ρ)) g = g a ρ := Eq.trans rfl rfl
theorem kb_ex (g : α → Dn β) : kb (some (.ex c ρ)) g = some (.ex c ρ) := Eq.trans rfl rfl
theorem kb_no (g : α → Dn β) : kb none g = none := Eq.trans rfl rfl
theorem ret_k (a : α) : ret a ρ = some (.ok a ρ) := Eq.trans rfl rfl
theorem lif_s (a : α) : lif (some a) ρ = some (.ok a ρ) := Eq.trans rfl rfl
theorem lif_n : lif (none : Option α) ρ = none := Eq.trans rfl rfl
/-! values -/
def vView (d : D) : Dn D := ret d.un
theorem dView_k (f : Dn D) : dView f ρ = kb (f ρ) vView := Eq.trans rfl rfl
theorem vView_k (d : D) : vView d ρ = some (.ok d.un ρ) := Eq.trans rfl rfl
def vFlat (d : D) : Dn D := if d.flat then ret d else stuck
theorem dFlat_k (f : Dn D) : dFlat f ρ = kb (f ρ) vFlat := Eq.trans rfl rfl
theorem vFlat_int (i : Int) : vFlat (.int i) ρ = some (.ok (.int i) ρ) := Eq.trans rfl rfl
theorem vFlat_bl (b : Bool) : vFlat (.bl b) ρ = some (.ok (.bl b) ρ) := Eq.trans rfl rfl
theorem vFlat_str (s : PySem.Str) : vFlat (.str s) ρ = some (.ok (.str s) ρ) := Eq.trans rfl rfl
theorem vFlat_non : vFlat .non ρ = some (.ok .non ρ) := Eq.trans rfl rfl
def kVar (o : Option (Option D)) (ρ : Rho) : Option (Out D) := match o with
  | some (some d) => if d.plain then some (.ok d ρ) else none
  | _ => none
theorem dVar_k (i : Nat) : dVar i ρ = kVar ρ[i]? ρ := Eq.trans rfl rfl
theorem kVar_k (d : D) : kVar (some (some d)) ρ = if d.plain = true then some (.ok d ρ) else none := Eq.trans rfl rfl
def kPk (o : Option (Option D)) (ρ : Rho) : Option (Out D) := match o with
  | some (some d) => some (.ok d.un ρ)
  | _ => none
theorem dPk_k (i : Nat) : dPk i ρ = kPk ρ[i]? ρ := Eq.trans rfl rfl
theorem kPk_k (d : D) : kPk (some (some d)) ρ = some (.ok d.un ρ) := Eq.trans rfl rfl
def kMv (o : Option (Option D)) (i : Nat) (ρ : Rho) : Option (Out D) := match o with
  | some (some d) => some (.ok d (ρ.set i none))
  | _ => none
theorem dMv_k (i : Nat) : dMv i ρ = kMv ρ[i]? i ρ := Eq.trans rfl rfl
theorem kMv_k (i : Nat) (d : D) : kMv (some (some d)) i ρ = some (.ok d (ρ.set i none)) := Eq.trans rfl rfl
def kFrz (o : Option (Option D)) (i : Nat) (ρ : Rho) : Option (Out D) := match o with
  | some (some d) => some (.ok d.un (ρ.set i (some d.un)))
  | _ => none
theorem dFrz_k (i : Nat) : dFrz i ρ = kFrz ρ[i]? i ρ := Eq.trans rfl rfl
theorem kFrz_k (i : Nat) (d : D) : kFrz (some (some d)) i ρ = some (.ok d.un (ρ.set i (some d.un))) := Eq.trans rfl rfl
def vBin1 (g : D → D → Option D) (fb : Dn D) (x : D) : Dn D := bnd fb fun y => lif (g x y)
def vBin2 (g : D → D → Option D) (x y : D) : Dn D := lif (g x y)
theorem dBin_k (g : D → D → Option D) (fa fb : Dn D) : dBin g fa fb ρ = kb (fa ρ) (vBin1 g fb) := Eq.trans rfl rfl
theorem vBin1_k (g : D → D → Option D) (fb : Dn D) (x : D) : vBin1 g fb x ρ = kb (fb ρ) (vBin2 g x) := Eq.trans rfl rfl
theorem vBin2_k (g : D → D → Option D) (x y : D) : vBin2 g x y ρ = lif (g x y) ρ := Eq.trans rfl rfl
def vTest (d : D) : Dn Bool := match d with
  | .bl b => ret b
  | _ => stuck
theorem dTest_k (f : Dn D) : dTest f ρ = kb (f ρ) vTest := Eq.trans rfl rfl
theorem vTest_k (b : Bool) : vTest (.bl b) ρ = some (.ok b ρ) := Eq.trans rfl rfl
def vCh3 (g' : D → D → Option D) (y : D) (fc : Dn D) (z : D) : Dn D := match z with
  | .bl true => bnd fc fun u => lif (g' y u)
  | .bl false => ret (.bl false)
  | _ => stuck
def vCh2 (g g' : D → D → Option D) (x : D) (fc : Dn D) (y : D) : Dn D := bnd (lif (g x y)) (vCh3 g' y fc)
def vCh1 (g g' : D → D → Option D) (fb fc : Dn D) (x : D) : Dn D := bnd fb (vCh2 g g' x fc)
theorem dChain_k (g g' : D → D → Option D) (fa fb fc : Dn D) : dChain g g' fa fb fc ρ = kb (fa ρ) (vCh1 g g' fb fc) := Eq.trans rfl rfl
theorem vCh1_k (g g' : D → D → Option D) (fb fc : Dn D) (x : D) : vCh1 g g' fb fc x ρ = kb (fb ρ) (vCh2 g g' x fc) := Eq.trans rfl rfl
theorem vCh2_k (g g' : D → D → Option D) (fc : Dn D) (x y : D) : vCh2 g g' x fc y ρ = kb (lif (g x y) ρ) (vCh3 g' y fc) := Eq.trans rfl rfl
theorem vCh3_t (g' : D → D → Option D) (fc : Dn D) (y : D) : vCh3 g' y fc (.bl true) ρ = kb (fc ρ) (vBin2 g' y) := Eq.trans rfl rfl
theorem vCh3_f (g' : D → D → Option D) (fc : Dn D) (y : D) : vCh3 g' y fc (.bl false) ρ = some (.ok (.bl false) ρ) := Eq.trans rfl rfl
def vNot (b : Bool) : Dn Bool := ret (!b)
theorem dNot_k (f : Dn Bool) : dNot f ρ = kb (f ρ) vNot := Eq.trans rfl rfl
theorem vNot_k (b : Bool) : vNot b ρ = some (.ok (!b) ρ) := Eq.trans rfl rfl
def vAnd (g : Dn Bool) (b : Bool) : Dn Bool := if b = true then g else ret false
theorem dAnd_k (f g : Dn Bool) : dAnd f g ρ = kb (f ρ) (vAnd g) := Eq.trans rfl rfl
theorem vAnd_t (g : Dn Bool) : vAnd g true ρ = g ρ := Eq.trans rfl rfl
theorem vAnd_f (g : Dn Bool) : vAnd g false ρ = some (.ok false ρ) := Eq.trans rfl rfl
def vOr (g : Dn Bool) (b : Bool) : Dn Bool := if b = true then ret true else g
theorem dOr_k (f g : Dn Bool) : dOr f g ρ = kb (f ρ) (vOr g) := Eq.trans rfl rfl
theorem vOr_t (g : Dn Bool) : vOr g true ρ = some (.ok true ρ) := Eq.trans rfl rfl
theorem vOr_f (g : Dn Bool) : vOr g false ρ = g ρ := Eq.trans rfl rfl
def vAndV (g : Dn D) (d : D) : Dn D := match d with
  | .bl true => g
  | .bl false => ret (.bl false)
  | _ => stuck
theorem dAndV_k (f g : Dn D) : dAndV f g ρ = kb (f ρ) (vAndV g) := Eq.trans rfl rfl
theorem vAndV_t (g : Dn D) : vAndV g (.bl true) ρ = g ρ := Eq.trans rfl rfl
theorem vAndV_f (g : Dn D) : vAndV g (.bl false) ρ = some (.ok (.bl false) ρ) := Eq.trans rfl rfl
def vOrV (g : Dn D) (d : D) : Dn D := match d with
  | .bl true => ret (.bl true)
  | .bl false => g
  | _ => stuck
theorem dOrV_k (f g : Dn D) : dOrV f g ρ = kb (f ρ) (vOrV g) := Eq.trans rfl rfl
theorem vOrV_t (g : Dn D) : vOrV g (.bl true) ρ = some (.ok (.bl true) ρ) := Eq.trans rfl rfl
theorem vOrV_f (g : Dn D) : vOrV g (.bl false) ρ = g ρ := Eq.trans rfl rfl
def vNotV (d : D) : Dn D := match d with
  | .bl b => ret (.bl (!b))
  | _ => stuck
theorem dNotV_k (f : Dn D) : dNotV f ρ = kb (f ρ) vNotV := Eq.trans rfl rfl
theorem vNotV_k (b : Bool) : vNotV (.bl b) ρ = some (.ok (.bl (!b)) ρ) := Eq.trans rfl rfl
def vIf (f g : Dn D) (b : Bool) : Dn D := if b = true then f else g
theorem dIf_k (c : Dn Bool) (f g : Dn D) : dIf c f g ρ = kb (c ρ) (vIf f g) := Eq.trans rfl rfl
theorem vIf_t (f g : Dn D) : vIf f g true ρ = f ρ := Eq.trans rfl rfl
theorem vIf_f (f g : Dn D) : vIf f g false ρ = g ρ := Eq.trans rfl rfl
def vCons2 (d : D) (ds : List D) : Dn (List D) := ret (d :: ds)
def vCons1 (g : Dn (List D)) (d : D) : Dn (List D) := bnd g (vCons2 d)
theorem dCons_k (f : Dn D) (g : Dn (List D)) : dCons f g ρ = kb (f ρ) (vCons1 g) := Eq.trans rfl rfl
theorem vCons1_k (g : Dn (List D)) (d : D) : vCons1 g d ρ = kb (g ρ) (vCons2 d) := Eq.trans rfl rfl
theorem vCons2_k (d : D) (ds : List D) : vCons2 d ds ρ = some (.ok (d :: ds) ρ) := Eq.trans rfl rfl
def vTup (ds : List D) : Dn D := if ds.length ≤ big then ret (.tup ds) else stuck
theorem dTup_k (g : Dn (List D)) : dTup g ρ = kb (g ρ) vTup := Eq.trans rfl rfl
theorem vTup_k (ds : List D) : vTup ds ρ = if ds.length ≤ big then some (.ok (.tup ds) ρ) else none := by unfold vTup; split <;> rfl
def vLst (ds : List D) : Dn D := if ds.length ≤ big then ret (.lst true ds) else stuck
theorem dLst_k (g : Dn (List D)) : dLst g ρ = kb (g ρ) vLst := Eq.trans rfl rfl
theorem vLst_k (ds : List D) : vLst ds ρ = if ds.length ≤ big then some (.ok (.lst true ds) ρ) else none := by unfold vLst; split <;> rfl
def kc (o : Option Fr) (ρ : Rho) : Option (Out D) := match o with
  | some (.rt d) => if d.own then some (.ok d ρ) else none
  | some (.ex c) => some (.ex c ρ)
  | none => none
def vCall (g : Fd) (ds : List D) : Dn D := kc (g ds)
theorem dCall_k (g : Fd) (f : Dn (List D)) : dCall g f ρ = kb (f ρ) (vCall g) := Eq.trans rfl rfl
theorem vCall_k (g : Fd) (ds : List D) : vCall g ds ρ = kc (g ds) ρ := Eq.trans rfl rfl
theorem kc_rt (d : D) : kc (some (.rt d)) ρ = if d.own = true then some (.ok d ρ) else none := Eq.trans rfl rfl
theorem kc_ex : kc (some (.ex c)) ρ = some (.ex c ρ) := Eq.trans rfl rfl
def vItL (d : D) : Dn (List D) := match d with
  | .lst _ xs => if plains xs = true then ret xs else stuck
  | .sc ns => ret (ns.map D.int)
  | _ => stuck
theorem dItL_k (f : Dn D) : dItL f ρ = kb (f ρ) vItL := Eq.trans rfl rfl
theorem vItL_lst (o : Bool) (xs : List D) : vItL (.lst o xs) ρ = if plains xs = true then some (.ok xs ρ) else none := by unfold vItL; dsimp only; split <;> rfl
theorem vItL_sc (ns : List Int) : vItL (.sc ns) ρ = some (.ok (ns.map D.int) ρ) := Eq.trans rfl rfl
def vItT (d : D) : Dn (List D) := match d with
  | .tup xs => if plains xs = true then ret xs else stuck
  | _ => stuck
theorem dItT_k (f : Dn D) : dItT f ρ = kb (f ρ) vItT := Eq.trans rfl rfl
theorem vItT_k (xs : List D) : vItT (.tup xs) ρ = if plains xs = true then some (.ok xs ρ) else none := by unfold vItT; dsimp only; split <;> rfl
def vRng1 (ds : List D) : Dn (List D) := match ds with
  | [.int j] => if b62 j = true then ret (rngD 0 j.toNat) else stuck
  | _ => stuck
theorem dRng1_k (f : Dn (List D)) : dRng1 f ρ = kb (f ρ) vRng1 := Eq.trans rfl rfl
theorem vRng1_k (j : Int) : vRng1 [.int j] ρ = if b62 j = true then some (.ok (rngD 0 j.toNat) ρ) else none := by unfold vRng1; dsimp only; split <;> rfl
def vRng2 (ds : List D) : Dn (List D) := match ds with
  | [.int i, .int j] => if (b62 i && b62 j) = true then ret (rngD i (j - i).toNat) else stuck
  | _ => stuck
theorem dRng2_k (f : Dn (List D)) : dRng2 f ρ = kb (f ρ) vRng2 := Eq.trans rfl rfl
theorem vRng2_k (i j : Int) : vRng2 [.int i, .int j] ρ = if (b62 i && b62 j) = true then some (.ok (rngD i (j - i).toNat) ρ) else none := by unfold vRng2; dsimp only; split <;> rfl
def vCB (g : List D → Option D) (ds : List D) : Dn D := lif (g ds)
theorem dCB_k (g : List D → Option D) (f : Dn (List D)) : dCB g f ρ = kb (f ρ) (vCB g) := Eq.trans rfl rfl
theorem vCB_k (g : List D → Option D) (ds : List D) : vCB g ds ρ = lif (g ds) ρ := Eq.trans rfl rfl
def vIsi (n : Ty) (d : D) : Dn D := lif ((isiD n d).map D.bl)
theorem dIsi_k (n : Ty) (f : Dn D) : dIsi n f ρ = kb (f ρ) (vIsi n) := Eq.trans rfl rfl
theorem vIsi_k (n : Ty) (d : D) : vIsi n d ρ = lif ((isiD n d).map D.bl) ρ := Eq.trans rfl rfl
def vListE (d : D) : Dn D := lif (copyD d.items)
theorem dListE_k (f : Dn D) : dListE f ρ = kb (f ρ) vListE := Eq.trans rfl rfl
theorem vListE_k (d : D) : vListE d ρ = lif (copyD d.items) ρ := Eq.trans rfl rfl
def kLS (o : Option (Option D)) (ρ : Rho) : Option (Out D) := match o with
  | some (some d) => match copyD d.items with
    | some z => some (.ok z ρ)
    | none => none
  | _ => none
theorem dListS_k (i : Nat) : dListS i ρ = kLS ρ[i]? ρ := Eq.trans rfl rfl
theorem kLS_lst (o : Bool) (xs : List D) : kLS (some (some (.lst o xs))) ρ = if plains xs = true then some (.ok (.lst true xs) ρ) else none := by
  unfold kLS copyD D.items; dsimp only; cases plains xs <;> rfl
def vLRng1 (d : D) : Dn D := match d with
  | .int n => if (decide (0 ≤ n) && decide (n ≤ 16777216)) = true then ret (.lst true (rngD 0 n.toNat)) else stuck
  | _ => stuck
theorem dLRng1_k (f : Dn D) : dLRng1 f ρ = kb (f ρ) vLRng1 := Eq.trans rfl rfl
theorem vLRng1_k (n : Int) : vLRng1 (.int n) ρ = if (decide (0 ≤ n) && decide (n ≤ 16777216)) = true then some (.ok (.lst true (rngD 0 n.toNat)) ρ) else none := by unfold vLRng1; dsimp only; split <;> rfl
def vNeg (v : D) : Dn D := match v with | .int i => ret (.int (-i)) | _ => fun _ => none
theorem dNeg_k (f : Dn D) : dNeg f ρ = kb (f ρ) vNeg := Eq.trans rfl rfl
theorem vNeg_k (i : Int) : vNeg (.int i) ρ = some (.ok (.int (-i)) ρ) := Eq.trans rfl rfl
def vIxS (i : Nat) (k : D) : Dn D := fun ρ => match ρ[i]? with
  | some (some d) => match d.items, k with
    | some xs, .int j => match atI xs j with
      | some x => if x.plain then some (.ok x ρ) else none
      | none => none
    | _, _ => none
  | _ => none
def kIxS (o : Option (Option D)) (i : Nat) (f : Dn D) (ρ : Rho) : Option (Out D) := match o with
  | some (some _) => bnd f (vIxS i) ρ
  | _ => none
def kIx2 (o : Option (Option D)) (k : D) (ρ : Rho) : Option (Out D) := match o with
  | some (some d) => match d.items, k with
    | some xs, .int j => match atI xs j with
      | some x => if x.plain then some (.ok x ρ) else none
      | none => none
    | _, _ => none
  | _ => none
def kIx3 (o : Option D) (ρ : Rho) : Option (Out D) := match o with
  | some x => if x.plain then some (.ok x ρ) else none
  | none => none
theorem dIxS_k (i : Nat) (f : Dn D) : dIxS i f ρ = kIxS ρ[i]? i f ρ := by
  unfold dIxS kIxS; rfl
theorem kIxS_k (i : Nat) (f : Dn D) (d : D) : kIxS (some (some d)) i f ρ = kb (f ρ) (vIxS i) := Eq.trans rfl rfl
theorem vIxS_k (i : Nat) (k : D) : vIxS i k ρ = kIx2 ρ[i]? k ρ := Eq.trans rfl rfl
theorem kIx2_lst (o : Bool) (xs : List D) (j : Int) : kIx2 (some (some (.lst o xs))) (.int j) ρ = kIx3 (atI xs j) ρ := Eq.trans rfl rfl
theorem kIx2_tup (xs : List D) (j : Int) : kIx2 (some (some (.tup xs))) (.int j) ρ = kIx3 (atI xs j) ρ := Eq.trans rfl rfl
theorem kIx2_sc (ns : List Int) (j : Int) : kIx2 (some (some (.sc ns))) (.int j) ρ = kIx3 (atI (ns.map D.int) j) ρ := Eq.trans rfl rfl
theorem kIx3_k (x : D) : kIx3 (some x) ρ = if x.plain = true then some (.ok x ρ) else none := Eq.trans rfl rfl
/-! statements -/
theorem dNx_k : dNx ρ = some (.nx ρ) := Eq.trans rfl rfl
def ks (o : Option Fl) (g : Sn) : Option Fl := match o with
  | some (.nx ρ') => g ρ'
  | r => r
theorem dSeq_k (f g : Sn) : dSeq f g ρ = ks (f ρ) g := Eq.trans rfl rfl
theorem ks_nx (g : Sn) : ks (some (.nx ρ)) g = g ρ := Eq.trans rfl rfl
theorem ks_rt (d : D) (g : Sn) : ks (some (.rt d ρ)) g = some (.rt d ρ) := Eq.trans rfl rfl
theorem ks_bk (g : Sn) : ks (some (.bk ρ)) g = some (.bk ρ) := Eq.trans rfl rfl
theorem ks_ct (g : Sn) : ks (some (.ct ρ)) g = some (.ct ρ) := Eq.trans rfl rfl
theorem ks_ex (g : Sn) : ks (some (.ex c ρ)) g = some (.ex c ρ) := Eq.trans rfl rfl
def kDrop (o : Option (Out D)) : Option Fl := match o with
  | none => none
  | some (.ex c ρ') => some (.ex c ρ')
  | some (.ok _ ρ') => some (.nx ρ')
theorem dDrop_k (f : Dn D) : dDrop f ρ = kDrop (f ρ) := Eq.trans rfl rfl
theorem kDrop_ok (d : D) : kDrop (some (.ok d ρ)) = some (.nx ρ) := Eq.trans rfl rfl
theorem kDrop_ex : kDrop (some (.ex c ρ)) = some (.ex c ρ) := Eq.trans rfl rfl
def kRet (o : Option (Out D)) : Option Fl := match o with
  | none => none
  | some (.ex c ρ') => some (.ex c ρ')
  | some (.ok d ρ') => some (.rt d ρ')
theorem dRet_k (f : Dn D) : dRet f ρ = kRet (f ρ) := Eq.trans rfl rfl
theorem kRet_ok (d : D) : kRet (some (.ok d ρ)) = some (.rt d ρ) := Eq.trans rfl rfl
theorem kRet_ex : kRet (some (.ex c ρ)) = some (.ex c ρ) := Eq.trans rfl rfl
def kIfS (o : Option (Out Bool)) (f g : Sn) : Option Fl := match o with
  | none => none
  | some (.ex k ρ') => some (.ex k ρ')
  | some (.ok true ρ') => f ρ'
  | some (.ok false ρ') => g ρ'
theorem dIfS_k (t : Dn Bool) (f g : Sn) : dIfS t f g ρ = kIfS (t ρ) f g := Eq.trans rfl rfl
theorem kIfS_t (f g : Sn) : kIfS (some (.ok true ρ)) f g = f ρ := Eq.trans rfl rfl
theorem kIfS_f (f g : Sn) : kIfS (some (.ok false ρ)) f g = g ρ := Eq.trans rfl rfl
theorem kIfS_ex (f g : Sn) : kIfS (some (.ex c ρ)) f g = some (.ex c ρ) := Eq.trans rfl rfl
def kSet (o : Option (Out D)) (i : Nat) : Option Fl := match o with
  | none => none
  | some (.ex c ρ') => some (.ex c ρ')
  | some (.ok d ρ') => some (.nx (ρ'.set i (some d)))
theorem dSet_k (i : Nat) (f : Dn D) : dSet i f ρ = kSet (f ρ) i := Eq.trans rfl rfl
theorem kSet_ok (d : D) (i : Nat) : kSet (some (.ok d ρ)) i = some (.nx (ρ.set i (some d))) := Eq.trans rfl rfl
theorem kSet_ex (i : Nat) : kSet (some (.ex c ρ)) i = some (.ex c ρ) := Eq.trans rfl rfl
def kh (o : Option Rho) : Option Fl := match o with
  | none => none
  | some ρ'' => some (.nx ρ'')
def kAsg (o : Option (Out D)) (h : D → Rho → Option Rho) : Option Fl := match o with
  | none => none
  | some (.ex c ρ') => some (.ex c ρ')
  | some (.ok d ρ') => kh (h d ρ')
theorem dAsg_k (f : Dn D) (h : D → Rho → Option Rho) : dAsg f h ρ = kAsg (f ρ) h := by
  unfold dAsg kAsg kh; rfl
theorem kAsg_ok (d : D) (h : D → Rho → Option Rho) : kAsg (some (.ok d ρ)) h = kh (h d ρ) := Eq.trans rfl rfl
theorem kAsg_ex (h : D → Rho → Option Rho) : kAsg (some (.ex c ρ)) h = some (.ex c ρ) := Eq.trans rfl rfl
theorem kh_k : kh (some ρ) = some (.nx ρ) := Eq.trans rfl rfl
def kAp2 (o : Option (Option D)) (i : Nat) (d : D) (ρ' : Rho) : Option Fl := match o with
  | some (some (.lst true xs)) => if xs.length < big then some (.nx (ρ'.set i (some (.lst true (xs ++ [d]))))) else none
  | _ => none
def kAp1 (o : Option (Out D)) (i : Nat) : Option Fl := match o with
  | none => none
  | some (.ex c ρ') => some (.ex c ρ')
  | some (.ok d ρ') => kAp2 ρ'[i]? i d ρ'
def kAp (o : Option (Option D)) (i : Nat) (f : Dn D) (ρ0 : Rho) : Option Fl := match o with
  | some (some (.lst _ _)) => kAp1 (f ρ0) i
  | _ => none
theorem dAppend_k (i : Nat) (f : Dn D) : dAppend i f ρ = kAp ρ[i]? i f ρ := by
  unfold dAppend kAp kAp1 kAp2; rfl
theorem kAp_k (i : Nat) (f : Dn D) (o : Bool) (xs : List D) : kAp (some (some (.lst o xs))) i f ρ = kAp1 (f ρ) i := Eq.trans rfl rfl
theorem kAp1_ok (i : Nat) (d : D) : kAp1 (some (.ok d ρ)) i = kAp2 ρ[i]? i d ρ := Eq.trans rfl rfl
theorem kAp1_ex (i : Nat) : kAp1 (some (.ex c ρ)) i = some (.ex c ρ) := Eq.trans rfl rfl
theorem kAp2_k (i : Nat) (d : D) (xs : List D) : kAp2 (some (some (.lst true xs))) i d ρ = if xs.length < big then some (.nx (ρ.set i (some (.lst true (xs ++ [d]))))) else none := Eq.trans rfl rfl
def kAug1 (o : Option (Out D)) (i : Nat) (k : Int → Int → Int) (n : Int) : Option Fl := match o with
  | none => none
  | some (.ex c ρ') => some (.ex c ρ')
  | some (.ok (.int m) ρ') => some (.nx (ρ'.set i (some (.int (k n m)))))
  | some (.ok _ _) => none
def kAug (o : Option (Option D)) (i : Nat) (k : Int → Int → Int) (f : Dn D) (ρ0 : Rho) : Option Fl := match o with
  | some (some (.int n)) => kAug1 (f ρ0) i k n
  | _ => none
theorem dAug_k (i : Nat) (k : Int → Int → Int) (f : Dn D) : dAug i k f ρ = kAug ρ[i]? i k f ρ := by
  unfold dAug kAug kAug1; rfl
theorem kAug_k (i : Nat) (k : Int → Int → Int) (f : Dn D) (n : Int) : kAug (some (some (.int n))) i k f ρ = kAug1 (f ρ) i k n := Eq.trans rfl rfl
theorem kAug1_ok (i : Nat) (k : Int → Int → Int) (n m : Int) : kAug1 (some (.ok (.int m) ρ)) i k n = some (.nx (ρ.set i (some (.int (k n m))))) := Eq.trans rfl rfl
def kSI3 (o : Option (Option D)) (k : D) (i : Nat) (d : D) (ρ' : Rho) : Option Fl := match o, k with
  | some (some (.lst true xs)), .int n => match ixN xs.length n with
    | some j => if (plains xs && d.plain) = true then some (.nx (ρ'.set i (some (.lst true (xs.set j d))))) else none
    | none => none
  | _, _ => none
def kSI2 (o : Option (Out D)) (i : Nat) (d : D) : Option Fl := match o with
  | none => none
  | some (.ex c ρ') => some (.ex c ρ')
  | some (.ok k ρ') => kSI3 ρ'[i]? k i d ρ'
def kSI1 (o : Option (Option D)) (i : Nat) (fk : Dn D) (d : D) (ρ1 : Rho) : Option Fl := match o with
  | some (some _) => kSI2 (fk ρ1) i d
  | _ => none
def kSI (o : Option (Out D)) (i : Nat) (fk : Dn D) : Option Fl := match o with
  | none => none
  | some (.ex c ρ') => some (.ex c ρ')
  | some (.ok d ρ1) => kSI1 ρ1[i]? i fk d ρ1
def kSI4 (o : Option Nat) (xs : List D) (i : Nat) (d : D) (ρ' : Rho) : Option Fl := match o with
  | some j => if (plains xs && d.plain) = true then some (.nx (ρ'.set i (some (.lst true (xs.set j d))))) else none
  | none => none
theorem dSetItem_k (i : Nat) (f fk : Dn D) : dSetItem i f fk ρ = kSI (f ρ) i fk := by
  unfold dSetItem kSI kSI1 kSI2 kSI3; rfl
theorem kSI_ok (i : Nat) (fk : Dn D) (d : D) : kSI (some (.ok d ρ)) i fk = kSI1 ρ[i]? i fk d ρ := Eq.trans rfl rfl
theorem kSI_ex (i : Nat) (fk : Dn D) : kSI (some (.ex c ρ)) i fk = some (.ex c ρ) := Eq.trans rfl rfl
theorem kSI1_k (i : Nat) (fk : Dn D) (d e : D) : kSI1 (some (some e)) i fk d ρ = kSI2 (fk ρ) i d := Eq.trans rfl rfl
theorem kSI2_ok (i : Nat) (k d : D) : kSI2 (some (.ok k ρ)) i d = kSI3 ρ[i]? k i d ρ := Eq.trans rfl rfl
theorem kSI3_k (xs : List D) (n : Int) (i : Nat) (d : D) : kSI3 (some (some (.lst true xs))) (.int n) i d ρ = kSI4 (ixN xs.length n) xs i d ρ := Eq.trans rfl rfl
theorem kSI4_k (xs : List D) (j i : Nat) (d : D) : kSI4 (some j) xs i d ρ = if (plains xs && d.plain) = true then some (.nx (ρ.set i (some (.lst true (xs.set j d))))) else none := Eq.trans rfl rfl
def kAI6 (o : Option Nat) (xs : List D) (i : Nat) (z : Int) (ρ' : Rho) : Option Fl := match o with
  | some j => if plains xs = true then some (.nx (ρ'.set i (some (.lst true (xs.set j (.int z)))))) else none
  | none => none
def kAI5 (o : Option (Option D)) (i : Nat) (n z : Int) (ρ' : Rho) : Option Fl := match o with
  | some (some (.lst true xs)) => kAI6 (ixN xs.length n) xs i z ρ'
  | _ => none
def kAI4 (o : Option (Out D)) (i : Nat) (g : Int → Int → Int) (n m0 : Int) : Option Fl := match o with
  | none => none
  | some (.ex c ρ') => some (.ex c ρ')
  | some (.ok (.int m) ρ') => kAI5 ρ'[i]? i n (g m0 m) ρ'
  | some (.ok _ _) => none
def kAI3 (o : Option D) (i : Nat) (g : Int → Int → Int) (f : Dn D) (n : Int) (ρ1 : Rho) : Option Fl := match o with
  | some (.int m0) => kAI4 (f ρ1) i g n m0
  | _ => none
def kAI2 (o : Option (Option D)) (i : Nat) (g : Int → Int → Int) (f : Dn D) (n : Int) (ρ1 : Rho) : Option Fl := match o with
  | some (some (.lst true xs0)) => kAI3 (atI xs0 n) i g f n ρ1
  | _ => none
def kAI1 (o : Option (Out D)) (i : Nat) (g : Int → Int → Int) (f : Dn D) : Option Fl := match o with
  | none => none
  | some (.ex c ρ') => some (.ex c ρ')
  | some (.ok (.int n) ρ1) => kAI2 ρ1[i]? i g f n ρ1
  | some (.ok _ _) => none
def kAI (o : Option (Option D)) (i : Nat) (g : Int → Int → Int) (fk f : Dn D) (ρ0 : Rho) : Option Fl := match o with
  | some (some _) => kAI1 (fk ρ0) i g f
  | _ => none
theorem dAugItem_k (i : Nat) (g : Int → Int → Int) (fk f : Dn D) : dAugItem i g fk f ρ = kAI ρ[i]? i g fk f ρ := by
  unfold dAugItem kAI kAI1 kAI2 kAI3 kAI4 kAI5 kAI6; rfl
theorem kAI_k (i : Nat) (g : Int → Int → Int) (fk f : Dn D) (d : D) : kAI (some (some d)) i g fk f ρ = kAI1 (fk ρ) i g f := Eq.trans rfl rfl
theorem kAI1_ok (i : Nat) (g : Int → Int → Int) (f : Dn D) (n : Int) : kAI1 (some (.ok (.int n) ρ)) i g f = kAI2 ρ[i]? i g f n ρ := Eq.trans rfl rfl
theorem kAI2_k (i : Nat) (g : Int → Int → Int) (f : Dn D) (n : Int) (xs : List D) : kAI2 (some (some (.lst true xs))) i g f n ρ = kAI3 (atI xs n) i g f n ρ := Eq.trans rfl rfl
theorem kAI3_k (i : Nat) (g : Int → Int → Int) (f : Dn D) (n m : Int) : kAI3 (some (.int m)) i g f n ρ = kAI4 (f ρ) i g n m := Eq.trans rfl rfl
theorem kAI4_ok (i : Nat) (g : Int → Int → Int) (n m0 m : Int) : kAI4 (some (.ok (.int m) ρ)) i g n m0 = kAI5 ρ[i]? i n (g m0 m) ρ := Eq.trans rfl rfl
theorem kAI5_k (i : Nat) (n z : Int) (xs : List D) : kAI5 (some (some (.lst true xs))) i n z ρ = kAI6 (ixN xs.length n) xs i z ρ := Eq.trans rfl rfl
theorem kAI6_k (i j : Nat) (z : Int) (xs : List D) : kAI6 (some j) xs i z ρ = if plains xs = true then some (.nx (ρ.set i (some (.lst true (xs.set j (.int z)))))) else none := Eq.trans rfl rfl
def kFor (o : Option (Out (List D))) (h : D → Rho → Option Rho) (b : Sn) : Option Fl := match o with
  | none => none
  | some (.ex c ρ') => some (.ex c ρ')
  | some (.ok xs ρ') => loop h b xs ρ'
theorem dFor_k (f : Dn (List D)) (h : D → Rho → Option Rho) (b : Sn) : dFor f h b ρ = kFor (f ρ) h b := Eq.trans rfl rfl
theorem kFor_ok (xs : List D) (h : D → Rho → Option Rho) (b : Sn) : kFor (some (.ok xs ρ)) h b = loop h b xs ρ := Eq.trans rfl rfl
def kCo (o : Option (List D × Rho)) : Option (Out D) := match o with
  | none => none
  | some (acc, ρ') => some (.ok (.lst true acc) ρ')
def vComp (vs : List Nat) (h : D → Rho → Option Rho) (t : Dn Bool) (e : Dn D) (xs : List D) : Dn D := fun ρ => kCo (comp vs h t e xs [] (wipeR ρ vs))
theorem dComp_k (vs : List Nat) (f : Dn (List D)) (h : D → Rho → Option Rho) (t : Dn Bool) (e : Dn D) : dComp vs f h t e ρ = kb (f ρ) (vComp vs h t e) := by
  unfold dComp vComp kCo; rfl
theorem vComp_k (vs : List Nat) (h : D → Rho → Option Rho) (t : Dn Bool) (e : Dn D) (xs : List D) : vComp vs h t e xs ρ = kCo (comp vs h t e xs [] (wipeR ρ vs)) := Eq.trans rfl rfl
theorem kCo_k (acc : List D) : kCo (some (acc, ρ)) = some (.ok (.lst true acc) ρ) := Eq.trans rfl rfl
def kc3 (o : Option (Out D)) (vs : List Nat) (h : D → Rho → Option Rho) (t : Dn Bool) (e : Dn D) (xs acc : List D) : Option (List D × Rho) := match o with
  | some (.ok d ρ3) => if acc.length < big then comp vs h t e xs (acc ++ [d]) (wipeR ρ3 vs) else none
  | _ => none
def kc2 (o : Option (Out Bool)) (vs : List Nat) (h : D → Rho → Option Rho) (t : Dn Bool) (e : Dn D) (xs acc : List D) : Option (List D × Rho) := match o with
  | some (.ok true ρ2) => kc3 (e ρ2) vs h t e xs acc
  | some (.ok false ρ2) => comp vs h t e xs acc (wipeR ρ2 vs)
  | _ => none
def kc1 (o : Option Rho) (vs : List Nat) (h : D → Rho → Option Rho) (t : Dn Bool) (e : Dn D) (xs acc : List D) : Option (List D × Rho) := match o with
  | none => none
  | some ρ1 => kc2 (t ρ1) vs h t e xs acc
theorem comp_nil (vs : List Nat) (h : D → Rho → Option Rho) (t : Dn Bool) (e : Dn D) (acc : List D) : comp vs h t e [] acc ρ = some (acc, ρ) := Eq.trans rfl rfl
theorem comp_cons (vs : List Nat) (h : D → Rho → Option Rho) (t : Dn Bool) (e : Dn D) (x : D) (xs acc : List D) : comp vs h t e (x :: xs) acc ρ = kc1 (h x ρ) vs h t e xs acc := by
  unfold kc1 kc2 kc3; rw [comp]; first | done | rfl
theorem kc1_k (vs : List Nat) (h : D → Rho → Option Rho) (t : Dn Bool) (e : Dn D) (xs acc : List D) : kc1 (some ρ) vs h t e xs acc = kc2 (t ρ) vs h t e xs acc := Eq.trans rfl rfl
theorem kc2_t (vs : List Nat) (h : D → Rho → Option Rho) (t : Dn Bool) (e : Dn D) (xs acc : List D) : kc2 (some (.ok true ρ)) vs h t e xs acc = kc3 (e ρ) vs h t e xs acc := Eq.trans rfl rfl
theorem kc2_f (vs : List Nat) (h : D → Rho → Option Rho) (t : Dn Bool) (e : Dn D) (xs acc : List D) : kc2 (some (.ok false ρ)) vs h t e xs acc = comp vs h t e xs acc (wipeR ρ vs) := Eq.trans rfl rfl
theorem kc3_k (vs : List Nat) (h : D → Rho → Option Rho) (t : Dn Bool) (e : Dn D) (xs acc : List D) (d : D) : kc3 (some (.ok d ρ)) vs h t e xs acc = if acc.length < big then comp vs h t e xs (acc ++ [d]) (wipeR ρ vs) else none := Eq.trans rfl rfl
def kRun (o : Option Fl) : Option Fr := match o with
  | some (.nx _) => some (.rt .non)
  | some (.rt d _) => some (.rt d)
  | some (.ex c _) => some (.ex c)
  | _ => none
theorem run_k (k n : Nat) (g : Sn) (ds : List D) : Ly.run k n g ds = if ds.length = k then kRun (g (ds.map some ++ List.replicate (n - k) none)) else none := by
  unfold Ly.run kRun; rfl
theorem kRun_nx : kRun (some (.nx ρ)) = some (.rt .non) := Eq.trans rfl rfl
theorem kRun_rt (d : D) : kRun (some (.rt d ρ)) = some (.rt d) := Eq.trans rfl rfl
theorem kRun_ex : kRun (some (.ex c ρ)) = some (.ex c) := Eq.trans rfl rfl
theorem hName_k (i : Nat) (d : D) : hName i d ρ = some (ρ.set i (some d)) := Eq.trans rfl rfl
def kH (o : Option Rho) (k : List D → Rho → Option Rho) (ds : List D) : Option Rho := match o with
  | none => none
  | some ρ' => k ds ρ'
theorem hNil_k : hNil [] ρ = some ρ := Eq.trans rfl rfl
theorem hCons_k (h : D → Rho → Option Rho) (k : List D → Rho → Option Rho) (d : D) (ds : List D) : hCons h k (d :: ds) ρ = kH (h d ρ) k ds := by
  unfold kH; rw [hCons]; first | done | rfl
theorem kH_k (k : List D → Rho → Option Rho) (ds : List D) : kH (some ρ) k ds = k ds ρ := Eq.trans rfl rfl
theorem hTup_k (k : List D → Rho → Option Rho) (ds : List D) : hTup k (.tup ds) ρ = k ds ρ := Eq.trans rfl rfl
/-! operators -/
theorem gLt_int (i j : Int) : gLt (.int i) (.int j) = some (.bl (decide (i < j))) := Eq.trans rfl rfl
theorem gGt_int (i j : Int) : gGt (.int i) (.int j) = some (.bl (decide (j < i))) := Eq.trans rfl rfl
theorem gLe_int (i j : Int) : gLe (.int i) (.int j) = some (.bl (decide (i ≤ j))) := Eq.trans rfl rfl
theorem gGe_int (i j : Int) : gGe (.int i) (.int j) = some (.bl (decide (j ≤ i))) := Eq.trans rfl rfl
theorem gAdd_int (i j : Int) : gAdd (.int i) (.int j) = some (.int (i + j)) := Eq.trans rfl rfl
theorem gMinus_int (i j : Int) : gMinus (.int i) (.int j) = some (.int (i - j)) := Eq.trans rfl rfl
theorem gMul_int (i j : Int) : gMul (.int i) (.int j) = if cMul i j = true then some (.int (i * j)) else none := Eq.trans rfl rfl
theorem gMod_int (i j : Int) : gMod (.int i) (.int j) = if decide (0 < j) = true then some (.int (i % j)) else none := Eq.trans rfl rfl
theorem gDiv_int (i j : Int) : gDiv (.int i) (.int j) = if (decide (0 < j) && decide (j < 1073741824)) = true then some (.int (i / j)) else none := Eq.trans rfl rfl
theorem gIx_lst (o : Bool) (xs : List D) (i : Int) : gIx (.lst o xs) (.int i) = atI xs i := Eq.trans rfl rfl
theorem gIx_tup (xs : List D) (i : Int) : gIx (.tup xs) (.int i) = atI xs i := Eq.trans rfl rfl
theorem gIx_sc (ns : List Int) (i : Int) : gIx (.sc ns) (.int i) = (atI ns i).map D.int := Eq.trans rfl rfl
theorem gEq_k (d e : D) : gEq d e = if (d.fit 8 && e.fit 8) = true then some (.bl (d.eqv e)) else none := Eq.trans rfl rfl
theorem gNe_k (d e : D) : gNe d e = if (d.fit 8 && e.fit 8) = true then some (.bl (!d.eqv e)) else none := Eq.trans rfl rfl
theorem gIn_lst (d : D) (o : Bool) (xs : List D) : gIn d (.lst o xs) = if (d.fit 8 && fits 7 xs) = true then some (.bl (isIn d xs)) else none := by
  unfold gIn gInK; simp
theorem gIn_tup (d : D) (xs : List D) : gIn d (.tup xs) = if (d.fit 8 && fits 7 xs) = true then some (.bl (isIn d xs)) else none := by
  unfold gIn gInK; simp
theorem gNotIn_lst (d : D) (o : Bool) (xs : List D) : gNotIn d (.lst o xs) = if (d.fit 8 && fits 7 xs) = true then some (.bl (!isIn d xs)) else none := by
  unfold gNotIn gInK; simp
theorem gNotIn_tup (d : D) (xs : List D) : gNotIn d (.tup xs) = if (d.fit 8 && fits 7 xs) = true then some (.bl (!isIn d xs)) else none := by
  unfold gNotIn gInK; simp
theorem gLen_lst (o : Bool) (xs : List D) : gLen [.lst o xs] = some (.int xs.length) := Eq.trans rfl rfl
theorem gLen_tup (xs : List D) : gLen [.tup xs] = some (.int xs.length) := Eq.trans rfl rfl
theorem gLen_sc (ns : List Int) : gLen [.sc ns] = some (.int ns.length) := Eq.trans rfl rfl
theorem gAll_lst (o : Bool) (xs : List D) : gAll [.lst o xs] = (blsOf xs).map fun bs => .bl (bs.all id) := Eq.trans rfl rfl
theorem gAny_lst (o : Bool) (xs : List D) : gAny [.lst o xs] = (blsOf xs).map fun bs => .bl (bs.any id) := Eq.trans rfl rfl
theorem gSum_lst (o : Bool) (xs : List D) : gSum [.lst o xs] = (intsOf xs).map fun ns => .int ns.sum := Eq.trans rfl rfl
theorem isi_int_int (i : Int) : isiD .int (.int i) = some true := Eq.trans rfl rfl
theorem isi_int_bl (b : Bool) : isiD .int (.bl b) = some true := Eq.trans rfl rfl
theorem isi_bool_int (i : Int) : isiD .bool (.int i) = some false := Eq.trans rfl rfl
theorem isi_bool_bl (b : Bool) : isiD .bool (.bl b) = some true := Eq.trans rfl rfl
theorem isi_list_lst (o : Bool) (xs : List D) : isiD .list (.lst o xs) = some true := Eq.trans rfl rfl
theorem isi_tuple_tup (xs : List D) : isiD .tuple (.tup xs) = some true := Eq.trans rfl rfl
theorem isi_str_str (s : PySem.Str) : isiD .str (.str s) = some true := Eq.trans rfl rfl
theorem un_int (i : Int) : (D.int i).un = .int i := Eq.trans rfl rfl
theorem un_bl (b : Bool) : (D.bl b).un = .bl b := Eq.trans rfl rfl
theorem un_str (s : PySem.Str) : (D.str s).un = .str s := Eq.trans rfl rfl
theorem un_non : (D.non).un = .non := Eq.trans rfl rfl
theorem un_sc (ns : List Int) : (D.sc ns).un = .sc ns := Eq.trans rfl rfl
theorem un_lst (o : Bool) (xs : List D) : (D.lst o xs).un = .lst false (uns xs) := Eq.trans rfl rfl
theorem un_tup (xs : List D) : (D.tup xs).un = .tup (uns xs) := Eq.trans rfl rfl
theorem uns_nil : uns [] = [] := Eq.trans rfl rfl
theorem uns_cons (x : D) (xs : List D) : uns (x :: xs) = x.un :: uns xs := Eq.trans rfl rfl
theorem pl_int (i : Int) : (D.int i).plain = true := Eq.trans rfl rfl
theorem pl_bl (b : Bool) : (D.bl b).plain = true := Eq.trans rfl rfl
theorem pl_str (s : PySem.Str) : (D.str s).plain = true := Eq.trans rfl rfl
theorem pl_non : (D.non).plain = true := Eq.trans rfl rfl
theorem pl_sc (ns : List Int) : (D.sc ns).plain = true := Eq.trans rfl rfl
theorem pl_lst (o : Bool) (xs : List D) : (D.lst o xs).plain = (!o && plains xs) := Eq.trans rfl rfl
theorem pl_tup (xs : List D) : (D.tup xs).plain = plains xs := Eq.trans rfl rfl
theorem pls_nil : plains [] = true := Eq.trans rfl rfl
theorem pls_cons (x : D) (xs : List D) : plains (x :: xs) = (x.plain && plains xs) := Eq.trans rfl rfl
theorem ow_int (i : Int) : (D.int i).own = true := Eq.trans rfl rfl
theorem ow_bl (b : Bool) : (D.bl b).own = true := Eq.trans rfl rfl
theorem ow_str (s : PySem.Str) : (D.str s).own = true := Eq.trans rfl rfl
theorem ow_non : (D.non).own = true := Eq.trans rfl rfl
theorem ow_lst (o : Bool) (xs : List D) : (D.lst o xs).own = (o && owns xs) := Eq.trans rfl rfl
theorem ow_tup (xs : List D) : (D.tup xs).own = owns xs := Eq.trans rfl rfl
theorem ows_nil : owns [] = true := Eq.trans rfl rfl
theorem ows_cons (x : D) (xs : List D) : owns (x :: xs) = (x.own && owns xs) := Eq.trans rfl rfl
theorem wipe_nil : wipeR ρ [] = ρ := Eq.trans rfl rfl
theorem wipe_cons (v : Nat) (vs : List Nat) : wipeR ρ (v :: vs) = (wipeR ρ vs).set v none := Eq.trans rfl rfl
theorem ints_nil : intsOf [] = some [] := Eq.trans rfl rfl
theorem ints_cons (n : Int) (xs : List D) : intsOf (.int n :: xs) = (intsOf xs).map (n :: ·) := Eq.trans rfl rfl
def kBest (k : Int → List Int → Int) (o : Option (List Int)) : Option D := match o with
  | some (n :: ns) => some (.int (k n ns))
  | _ => none
theorem gBest_lst (k : Int → List Int → Int) (o : Bool) (xs : List D) : gBest k [.lst o xs] = kBest k (intsOf xs) := by unfold gBest kBest; rfl
theorem gBest_tup (k : Int → List Int → Int) (xs : List D) : gBest k [.tup xs] = kBest k (intsOf xs) := by unfold gBest kBest; rfl
theorem kBest_k (k : Int → List Int → Int) (n : Int) (ns : List Int) : kBest k (some (n :: ns)) = some (.int (k n ns)) := Eq.trans rfl rfl
def vKeep (d : D) : Dn D := if d.tight then ret d else stuck
theorem dKeep_k (f : Dn D) : dKeep f ρ = kb (f ρ) vKeep := Eq.trans rfl rfl
theorem vKeep_k (d : D) : vKeep d ρ = if d.tight = true then some (.ok d ρ) else none := by unfold vKeep; split <;> rfl
def vCat2 (x y : D) : Dn D := lif (catD x y)
def vCat1 (fb : Dn D) (x : D) : Dn D := bnd fb (vCat2 x)
theorem dCat_k (fa fb : Dn D) : dCat fa fb ρ = kb (fa ρ) (vCat1 fb) := Eq.trans rfl rfl
theorem vCat1_k (fb : Dn D) (x : D) : vCat1 fb x ρ = kb (fb ρ) (vCat2 x) := Eq.trans rfl rfl
theorem vCat2_k (x y : D) : vCat2 x y ρ = lif (catD x y) ρ := Eq.trans rfl rfl
theorem catD_k (o p : Bool) (xs ys : List D) : catD (.lst o xs) (.lst p ys) = if (tights xs && tights ys && decide (xs.length + ys.length ≤ big)) = true then some (.lst true (xs ++ ys)) else none := Eq.trans rfl rfl
def vSorted (d : D) : Dn D := lif (sortD d)
theorem dSorted_k (f : Dn D) : dSorted f ρ = kb (f ρ) vSorted := Eq.trans rfl rfl
theorem vSorted_k (d : D) : vSorted d ρ = lif (sortD d) ρ := Eq.trans rfl rfl
theorem sortD_k (o : Bool) (xs : List D) : sortD (.lst o xs) = (intsOf xs).map fun ns => .lst true ((sortI ns).map D.int) := Eq.trans rfl rfl
def kClr (o : Option (Option D)) (i : Nat) (ρ : Rho) : Option Fl := match o with
  | some (some (.lst true xs)) => if plains xs = true then some (.nx (ρ.set i (some (.lst true [])))) else none
  | _ => none
theorem dClear_k (i : Nat) : dClear i ρ = kClr ρ[i]? i ρ := by unfold dClear kClr; rfl
theorem kClr_k (i : Nat) (xs : List D) : kClr (some (some (.lst true xs))) i ρ = if plains xs = true then some (.nx (ρ.set i (some (.lst true [])))) else none := Eq.trans rfl rfl
def kIn3 (o : Option (Option D)) (i : Nat) (n : Int) (d : D) (ρ' : Rho) : Option Fl := match o with
  | some (some (.lst true xs)) => if (decide (0 ≤ n) && decide (n ≤ 16777216) && decide (xs.length < big) && plains xs && d.plain) = true then some (.nx (ρ'.set i (some (.lst true (xs.take n.toNat ++ [d] ++ xs.drop n.toNat))))) else none
  | _ => none
def kIn2 (o : Option (Out D)) (i : Nat) (n : Int) : Option Fl := match o with
  | none => none
  | some (.ex c ρ') => some (.ex c ρ')
  | some (.ok d ρ') => kIn3 ρ'[i]? i n d ρ'
def kIn1 (o : Option (Out D)) (i : Nat) (f : Dn D) : Option Fl := match o with
  | none => none
  | some (.ex c ρ') => some (.ex c ρ')
  | some (.ok (.int n) ρ1) => kIn2 (f ρ1) i n
  | some (.ok _ _) => none
def kIn (o : Option (Option D)) (i : Nat) (fk f : Dn D) (ρ0 : Rho) : Option Fl := match o with
  | some (some (.lst _ _)) => kIn1 (fk ρ0) i f
  | _ => none
theorem dInsert_k (i : Nat) (fk f : Dn D) : dInsert i fk f ρ = kIn ρ[i]? i fk f ρ := by
  unfold dInsert kIn kIn1 kIn2 kIn3; rfl
theorem kIn_k (i : Nat) (fk f : Dn D) (o : Bool) (xs : List D) : kIn (some (some (.lst o xs))) i fk f ρ = kIn1 (fk ρ) i f := Eq.trans rfl rfl
theorem kIn1_ok (i : Nat) (f : Dn D) (n : Int) : kIn1 (some (.ok (.int n) ρ)) i f = kIn2 (f ρ) i n := Eq.trans rfl rfl
theorem kIn2_ok (i : Nat) (n : Int) (d : D) : kIn2 (some (.ok d ρ)) i n = kIn3 ρ[i]? i n d ρ := Eq.trans rfl rfl
theorem kIn3_k (i : Nat) (n : Int) (d : D) (xs : List D) : kIn3 (some (some (.lst true xs))) i n d ρ = if (decide (0 ≤ n) && decide (n ≤ 16777216) && decide (xs.length < big) && plains xs && d.plain) = true then some (.nx (ρ.set i (some (.lst true (xs.take n.toNat ++ [d] ++ xs.drop n.toNat))))) else none := Eq.trans rfl rfl
theorem tg_int (i : Int) : (D.int i).tight = true := Eq.trans rfl rfl
theorem tg_bl (b : Bool) : (D.bl b).tight = true := Eq.trans rfl rfl
theorem tg_str (s : PySem.Str) : (D.str s).tight = true := Eq.trans rfl rfl
theorem tg_non : (D.non).tight = true := Eq.trans rfl rfl
theorem tg_tup (xs : List D) : (D.tup xs).tight = tights xs := Eq.trans rfl rfl
theorem tgs_nil : tights [] = true := Eq.trans rfl rfl
theorem tgs_cons (x : D) (xs : List D) : tights (x :: xs) = (x.tight && tights xs) := Eq.trans rfl rfl
def vRevT (d : D) : Dn D := lif (revTD d)
theorem dRevT_k (f : Dn D) : dRevT f ρ = kb (f ρ) vRevT := Eq.trans rfl rfl
theorem vRevT_k (d : D) : vRevT d ρ = lif (revTD d) ρ := Eq.trans rfl rfl
theorem revTD_k (xs : List D) : revTD (.tup xs) = if tights xs = true then some (.tup xs.reverse) else none := Eq.trans rfl rfl
def vRevL (d : D) : Dn D := lif (revLD d)
theorem dRevL_k (f : Dn D) : dRevL f ρ = kb (f ρ) vRevL := Eq.trans rfl rfl
theorem vRevL_k (d : D) : vRevL d ρ = lif (revLD d) ρ := Eq.trans rfl rfl
theorem revLD_k (o : Bool) (xs : List D) : revLD (.lst o xs) = if tights xs = true then some (.lst true xs.reverse) else none := Eq.trans rfl rfl
def vTupOf (d : D) : Dn D := lif (tupD d)
theorem dTupOf_k (f : Dn D) : dTupOf f ρ = kb (f ρ) vTupOf := Eq.trans rfl rfl
theorem vTupOf_k (d : D) : vTupOf d ρ = lif (tupD d) ρ := Eq.trans rfl rfl
theorem tupD_k (o : Bool) (xs : List D) : tupD (.lst o xs) = if tights xs = true then some (.tup xs) else none := Eq.trans rfl rfl
def vCatM2 (x y : D) : Dn D := lif (catM x y)
def vCatM1 (fb : Dn D) (x : D) : Dn D := bnd fb (vCatM2 x)
theorem dCatM_k (fa fb : Dn D) : dCatM fa fb ρ = kb (fa ρ) (vCatM1 fb) := Eq.trans rfl rfl
theorem vCatM1_k (fb : Dn D) (x : D) : vCatM1 fb x ρ = kb (fb ρ) (vCatM2 x) := Eq.trans rfl rfl
theorem vCatM2_k (x y : D) : vCatM2 x y ρ = lif (catM x y) ρ := Eq.trans rfl rfl
theorem catM_k (o p : Bool) (xs ys : List D) : catM (.lst o xs) (.lst p ys) = if xs.length + ys.length ≤ big then some (.lst true (xs ++ ys)) else none := Eq.trans rfl rfl
def kTry2 (o : Option Bool) (i j : Nat) (ρ' : Rho) : Option Fl := match o with
  | some b => if i < ρ'.length ∧ j < ρ'.length then some (.rt (.bl b) ((ρ'.set i none).set j none)) else none
  | none => none
def kTry (o : Option Fl) (i j : Nat) (tab : PySem.Str → Option Bool) : Option Fl := match o with
  | some (.ex c ρ') => kTry2 (tab c) i j ρ'
  | r => r
theorem dTryB_k (i j : Nat) (tab : PySem.Str → Option Bool) (fb : Sn) : dTryB i j tab fb ρ = kTry (fb ρ) i j tab := by unfold dTryB kTry kTry2; rfl
theorem kTry_nx (i j : Nat) (tab : PySem.Str → Option Bool) : kTry (some (.nx ρ)) i j tab = some (.nx ρ) := Eq.trans rfl rfl
theorem kTry_rt (d : D) (i j : Nat) (tab : PySem.Str → Option Bool) : kTry (some (.rt d ρ)) i j tab = some (.rt d ρ) := Eq.trans rfl rfl
theorem kTry_ex (i j : Nat) (tab : PySem.Str → Option Bool) : kTry (some (.ex c ρ)) i j tab = kTry2 (tab c) i j ρ := Eq.trans rfl rfl
theorem kTry2_k (b : Bool) (i j : Nat) : kTry2 (some b) i j ρ = if i < ρ.length ∧ j < ρ.length then some (.rt (.bl b) ((ρ.set i none).set j none)) else none := Eq.trans rfl rfl
theorem isi_tuple_non : isiD .tuple .non = some false := Eq.trans rfl rfl
theorem isi_tuple_lst (o : Bool) (xs : List D) : isiD .tuple (.lst o xs) = some false := Eq.trans rfl rfl
theorem isi_int_lst (o : Bool) (xs : List D) : isiD .int (.lst o xs) = some false := Eq.trans rfl rfl
theorem isi_int_str (s : PySem.Str) : isiD .int (.str s) = some false := Eq.trans rfl rfl
theorem isi_int_non : isiD .int .non = some false := Eq.trans rfl rfl
theorem bls_nil : blsOf [] = some [] := Eq.trans rfl rfl
theorem bls_cons (b : Bool) (xs : List D) : blsOf (.bl b :: xs) = (blsOf xs).map (b :: ·) := Eq.trans rfl rfl
end
end Ly

set_option Elab.async false
set_option linter.all false
set_option maxRecDepth 100000
/-! The plain laws, part A: games, rounds; what the shared defs answer. -/
namespace Sh
open L2 Ly
/-! ### equations -/
theorem big_val : big = 16777216 := rfl
theorem bigL0 : (0 ≤ big) = True := by simp
theorem bigL1 : (1 ≤ big) = True := by simp [big_val]
theorem bigL2 : (2 ≤ big) = True := by simp [big_val]
theorem bigL3 : (3 ≤ big) = True := by simp [big_val]
theorem bigP0 : (0 < big) = True := by simp [big_val]
theorem bigL4 : (4 ≤ big) = True := by simp [big_val]
theorem bigL5 : (5 ≤ big) = True := by simp [big_val]
theorem bigL6 : (6 ≤ big) = True := by simp [big_val]
theorem bigL7 : (7 ≤ big) = True := by simp [big_val]
theorem bigL8 : (8 ≤ big) = True := by simp [big_val]
theorem bigL9 : (9 ≤ big) = True := by simp [big_val]
theorem bigL10 : (10 ≤ big) = True := by simp [big_val]
theorem bigL11 : (11 ≤ big) = True := by simp [big_val]
theorem bigL12 : (12 ≤ big) = True := by simp [big_val]
theorem bigP2 : (2 < big) = True := by simp [big_val]
theorem bigP3 : (3 < big) = True := by simp [big_val]
theorem bigP4 : (4 < big) = True := by simp [big_val]
theorem bigP5 : (5 < big) = True := by simp [big_val]
theorem bigP6 : (6 < big) = True := by simp [big_val]
theorem bigP7 : (7 < big) = True := by simp [big_val]
theorem bigP8 : (8 < big) = True := by simp [big_val]
theorem bigP9 : (9 < big) = True := by simp [big_val]
theorem bigP10 : (10 < big) = True := by simp [big_val]
theorem bigP11 : (11 < big) = True := by simp [big_val]
theorem bigP12 : (12 < big) = True := by simp [big_val]
theorem bigP1 : (1 < big) = True := by simp [big_val]
theorem fit_int (n : Nat) (i : Int) : D.fit n (.int i) = true := by cases n <;> rfl
theorem fit_bl (n : Nat) (b : Bool) : D.fit n (.bl b) = true := by cases n <;> rfl
theorem fit_non (n : Nat) : D.fit n .non = true := by cases n <;> rfl
theorem fit_lst (n : Nat) (o : Bool) (xs : List D) : D.fit (n + 1) (.lst o xs) = fits n xs := rfl
theorem fit_tup (n : Nat) (xs : List D) : D.fit (n + 1) (.tup xs) = fits n xs := rfl
theorem fit_lst8 (o : Bool) (xs : List D) : D.fit 8 (.lst o xs) = fits 7 xs := rfl
theorem fit_tup8 (xs : List D) : D.fit 8 (.tup xs) = fits 7 xs := rfl
theorem fits_nil (n : Nat) : fits n [] = true := by cases n <;> rfl
theorem fits_cons (n : Nat) (x : D) (xs : List D) : fits n (x :: xs) = (x.fit n && fits n xs) := by cases n <;> rfl
theorem eqv_ii (i j : Int) : (D.int i).eqv (.int j) = (i == j) := rfl
theorem eqv_bb (i j : Bool) : (D.bl i).eqv (.bl j) = (i == j) := rfl
theorem eqv_tt (xs ys : List D) : (D.tup xs).eqv (.tup ys) = eqvs xs ys := rfl
theorem eqv_ll (o p : Bool) (xs ys : List D) : (D.lst o xs).eqv (.lst p ys) = eqvs xs ys := rfl
theorem eqvs_nil : eqvs [] [] = true := rfl
theorem eqvs_cons (x y : D) (xs ys : List D) : eqvs (x :: xs) (y :: ys) = (x.eqv y && eqvs xs ys) := rfl
/-! ### pairs, and lists of them -/
abbrev Gm := Nat × Nat
def enc (p : Gm) : D := .tup [.int p.1, .int p.2]
def encs (gs : List Gm) : List D := gs.map enc
@[simp] theorem enc_un (p : Gm) : (enc p).un = enc p := by simp [enc, D.un, uns]
@[simp] theorem enc_plain (p : Gm) : (enc p).plain = true := by simp [enc, D.plain, plains]
@[simp] theorem enc_own (p : Gm) : (enc p).own = true := by simp [enc, D.own, owns]
@[simp] theorem encs_un : ∀ gs : List Gm, uns (encs gs) = encs gs
  | [] => rfl
  | p :: gs => by simp only [encs, List.map, uns, enc_un]; exact congrArg _ (encs_un gs)
@[simp] theorem encs_plain : ∀ gs : List Gm, plains (encs gs) = true
  | [] => rfl
  | p :: gs => by simp only [encs, List.map, plains, enc_plain, Bool.true_and]; exact encs_plain gs
@[simp] theorem encs_own : ∀ gs : List Gm, owns (encs gs) = true
  | [] => rfl
  | p :: gs => by simp only [encs, List.map, owns, enc_own, Bool.true_and]; exact encs_own gs
@[simp] theorem encs_len (gs : List Gm) : (encs gs).length = gs.length := by simp [encs]
@[simp] theorem enc_fit (p : Gm) (n : Nat) : (enc p).fit (n + 1) = true := by simp [enc, D.fit, fits]
@[simp] theorem encs_fit (n : Nat) : ∀ gs : List Gm, fits (n + 1) (encs gs) = true
  | [] => rfl
  | p :: gs => by simp only [encs, List.map, fits, enc_fit, Bool.true_and]; exact encs_fit n gs
theorem enc_eqv (p q : Gm) : (enc p).eqv (enc q) = decide (p = q) := by
  obtain ⟨a, b⟩ := p
  obtain ⟨c, d⟩ := q
  simp only [enc, D.eqv, eqvs, Bool.and_true, Prod.mk.injEq]
  by_cases h1 : a = c <;> by_cases h2 : b = d <;> simp [h1, h2] <;> omega
theorem encs_eqv : ∀ gs hs : List Gm, eqvs (encs gs) (encs hs) = decide (gs = hs)
  | [], [] => rfl
  | [], _ :: _ => rfl
  | _ :: _, [] => rfl
  | p :: gs, q :: hs => by
    simp only [encs, List.map, eqvs, enc_eqv, List.cons.injEq]
    have := encs_eqv gs hs
    simp only [encs] at this
    rw [this]
    simp
theorem encs_in (p : Gm) : ∀ gs : List Gm, isIn (enc p) (encs gs) = decide (p ∈ gs)
  | [] => rfl
  | q :: gs => by
    simp only [encs, List.map, isIn, enc_eqv, List.mem_cons]
    have := encs_in p gs
    simp only [encs] at this
    rw [this]
    by_cases h : q = p
    · simp [h]
    · have h2 : ¬ p = q := fun e => h e.symm
      simp [h, h2]
/-- first the first, then the second -/
def plt (p q : Gm) : Bool := if p.1 = q.1 then decide (p.2 < q.2) else decide (p.1 < q.1)
theorem enc_lt (p q : Gm) : (enc p).lt (enc q) = plt p q := by
  obtain ⟨a, b⟩ := p
  obtain ⟨c, d⟩ := q
  simp only [enc, D.lt, lts, D.eqv, plt]
  by_cases h1 : a = c
  · subst h1
    simp
    by_cases h2 : b = d
    · simp [h2]
    · by_cases h3 : b < d <;> simp [h2, h3] <;> omega
  · have : ¬ ((a : Int) = c) := by omega
    simp [h1, this]
theorem enc_alike (p q : Gm) : (enc p).alike (enc q) = true := by simp [enc, D.alike, alikes]
/-! ### loops -/
/-- a loop's turn: what the body ends as -/
def Turn (h : D → Rho → Option Rho) (b : Sn) (x : D) (ρ : Rho) (P : Rho → Prop) : Prop := ∃ ρ1, h x ρ = some ρ1 ∧ ∀ r, b ρ1 = r → ∃ ρ2, (r = some (.nx ρ2) ∨ r = some (.ct ρ2)) ∧ P ρ2
theorem loop_gen {α β : Type} (e : α → D) (g : β → α → β) {h : D → Rho → Option Rho} {b : Sn} {Sp : β → Rho → Prop} : ∀ (xs : List α) (_ : ∀ x ∈ xs, ∀ s ρ, Sp s ρ → Turn h b (e x) ρ (Sp (g s x))) (s : β) (ρ : Rho), Sp s ρ →
    ∃ ρ', loop h b (xs.map e) ρ = some (.nx ρ') ∧ Sp (xs.foldl g s) ρ'
  | [], _, s, ρ, w => ⟨ρ, rfl, w⟩
  | x :: xs, k, s, ρ, w => by
    obtain ⟨ρ1, h1, k2⟩ := k x (by simp) s ρ w
    obtain ⟨ρ2, h2, h3⟩ := k2 _ rfl
    obtain ⟨ρ', h4, h5⟩ := loop_gen e g xs (fun y hy => k y (by simp [hy])) _ _ h3
    refine ⟨ρ', ?_, h5⟩
    rw [List.map, loop, h1]
    rcases h2 with h2 | h2 <;> (simp only [h2]; exact h4)
/-- a loop that appends -/
theorem loop_app {α β : Type} (e : α → D) (f : α → List β) (M : Nat) {h : D → Rho → Option Rho} {b : Sn} {Sp : List β → Rho → Prop} : ∀ (xs : List α) (_ : ∀ x ∈ xs, ∀ s ρ, s.length + (f x).length ≤ M → Sp s ρ → Turn h b (e x) ρ (Sp (s ++ f x))) (s : List β) (ρ : Rho),
    s.length + (xs.flatMap f).length ≤ M → Sp s ρ → ∃ ρ', loop h b (xs.map e) ρ = some (.nx ρ') ∧ Sp (s ++ xs.flatMap f) ρ'
  | [], _, s, ρ, _, w => ⟨ρ, rfl, by simpa using w⟩
  | x :: xs, k, s, ρ, hl, w => by
    simp only [List.flatMap_cons, List.length_append] at hl
    obtain ⟨ρ1, h1, k2⟩ := k x (by simp) s ρ (by omega) w
    obtain ⟨ρ2, h2, h3⟩ := k2 _ rfl
    obtain ⟨ρ', h4, h5⟩ := loop_app e f M xs (fun y hy => k y (by simp [hy])) _ _ (by rw [List.length_append]; omega) h3
    refine ⟨ρ', ?_, by simpa using h5⟩
    rw [List.map, loop, h1]
    rcases h2 with h2 | h2 <;> (simp only [h2]; exact h4)
theorem loop_gen_of {α β : Type} {h : D → Rho → Option Rho} {b : Sn} {ys : List D} {ρ : Rho} {r : Option Fl} (hL : loop h b ys ρ = r) (e : α → D) (g : β → α → β) (Sp : β → Rho → Prop) (xs : List α) (s : β) (hy : ys = xs.map e) (h0 : Sp s ρ) (k : ∀ x ∈ xs, ∀ s ρ, Sp s ρ → Turn h b (e x) ρ (Sp (g s x))) :
    ∃ ρ', r = some (.nx ρ') ∧ Sp (xs.foldl g s) ρ' := by
  subst hy hL
  exact loop_gen e g xs k s ρ h0
theorem loop_app_of {α β : Type} {h : D → Rho → Option Rho} {b : Sn} {ys : List D} {ρ : Rho} {r : Option Fl} (hL : loop h b ys ρ = r) (e : α → D) (f : α → List β) (M : Nat) (Sp : List β → Rho → Prop) (xs : List α) (s : List β) (hy : ys = xs.map e) (hM : s.length + (xs.flatMap f).length ≤ M) (h0 : Sp s ρ)
    (k : ∀ x ∈ xs, ∀ s ρ, s.length + (f x).length ≤ M → Sp s ρ → Turn h b (e x) ρ (Sp (s ++ f x))) : ∃ ρ', r = some (.nx ρ') ∧ Sp (s ++ xs.flatMap f) ρ' := by
  subst hy hL
  exact loop_app e f M xs k s ρ hM h0
/-- what a loop holds on to, by what has gone by -/
theorem loop_inv_of {α : Type} {h : D → Rho → Option Rho} {b : Sn} {ys : List D} {ρ : Rho} {r : Option Fl} (hL : loop h b ys ρ = r) (e : α → D) (xs : List α) (I : List α → Rho → Prop) (hy : ys = xs.map e) (h0 : I [] ρ) (k : ∀ pre x post, xs = pre ++ x :: post → ∀ ρ, I pre ρ → Turn h b (e x) ρ (I (pre ++ [x]))) :
    ∃ ρ', r = some (.nx ρ') ∧ I xs ρ' := by
  subst hy hL
  have : ∀ (post pre : List α) (ρ : Rho), xs = pre ++ post → I pre ρ → ∃ ρ', loop h b (post.map e) ρ = some (.nx ρ') ∧ I xs ρ' := by
    intro post
    induction post with
    | nil =>
      intro pre ρ hx hI
      refine ⟨ρ, rfl, ?_⟩
      have : xs = pre := by simpa using hx
      rw [this]
      exact hI
    | cons x post ih =>
      intro pre ρ hx hI
      obtain ⟨ρ1, h1, k2⟩ := k pre x post hx ρ hI
      obtain ⟨ρ2, h2, h3⟩ := k2 _ rfl
      obtain ⟨ρ', h4, h5⟩ := ih (pre ++ [x]) ρ2 (by simpa using hx) h3
      refine ⟨ρ', ?_, h5⟩
      rw [List.map, loop, h1]
      rcases h2 with h2 | h2 <;> (simp only [h2]; exact h4)
  exact this xs [] ρ rfl h0
theorem comp_gen {α : Type} (vs : List Nat) (e : α → D) (p : α → Bool) (f : α → D) {h : D → Rho → Option Rho} {t : Dn Bool} {el : Dn D} {ρ : Rho} : ∀ (xs : List α) (_ : ∀ x ∈ xs, ∃ ρ1 ρ2, h (e x) ρ = some ρ1 ∧ t ρ1 = some (.ok (p x) ρ2) ∧ wipeR ρ2 vs = ρ ∧ (p x = true → ∃ ρ3, el ρ2 = some (.ok (f x) ρ3) ∧ wipeR ρ3 vs = ρ)) (acc : List D),
    acc.length + xs.length ≤ big → comp vs h t el (xs.map e) acc ρ = some (acc ++ (xs.filter p).map f, ρ)
  | [], _, acc, _ => by simp [comp]
  | x :: xs, k, acc, hl => by
    obtain ⟨ρ1, ρ2, h1, h2, h3, h4⟩ := k x (by simp)
    simp only [List.length_cons] at hl
    rw [List.map, comp, h1]
    simp only [h2]
    cases hp : p x with
    | false =>
      simp only [h3]
      rw [comp_gen vs e p f xs (fun y hy => k y (by simp [hy])) acc (by omega)]
      simp [hp]
    | true =>
      obtain ⟨ρ3, h5, h6⟩ := h4 hp
      simp only [h5, h6]
      rw [if_pos (by omega), comp_gen vs e p f xs (fun y hy => k y (by simp [hy])) (acc ++ [f x]) (by simp; omega)]
      simp [hp]
theorem comp_gen_of {α : Type} {vs : List Nat} {h : D → Rho → Option Rho} {t : Dn Bool} {el : Dn D} {ρ : Rho} {ys acc : List D} {r : Option (List D × Rho)} (hC : comp vs h t el ys acc ρ = r) (e : α → D) (p : α → Bool) (f : α → D) (xs : List α) (hy : ys = xs.map e) (ha : acc = []) (hb : xs.length ≤ big)
    (k : ∀ x ∈ xs, ∃ ρ1, h (e x) ρ = some ρ1 ∧ ∀ r, t ρ1 = r → ∃ ρ2, r = some (.ok (p x) ρ2) ∧ wipeR ρ2 vs = ρ ∧ (p x = true → ∀ r, el ρ2 = r → ∃ ρ3, r = some (.ok (f x) ρ3) ∧ wipeR ρ3 vs = ρ)) : r = some ((xs.filter p).map f, ρ) := by
  subst hy hC ha
  rw [comp_gen vs e p f xs (fun x hx => ?_) [] (by simpa using hb)]
  · rfl
  · obtain ⟨ρ1, h1, k2⟩ := k x hx
    obtain ⟨ρ2, h2, h3, h4⟩ := k2 _ rfl
    refine ⟨ρ1, ρ2, h1, h2, h3, fun hp => ?_⟩
    obtain ⟨ρ3, h5, h6⟩ := h4 hp _ rfl
    exact ⟨ρ3, h5, h6⟩
/-- .. with no test -/
theorem comp_map_of {α : Type} {vs : List Nat} {h : D → Rho → Option Rho} {el : Dn D} {ρ : Rho} {ys acc : List D} {r : Option (List D × Rho)} (hC : comp vs h (ret true) el ys acc ρ = r) (e : α → D) (f : α → D) (xs : List α) (hy : ys = xs.map e) (ha : acc = []) (hb : xs.length ≤ big)
    (k : ∀ x ∈ xs, ∃ ρ1, h (e x) ρ = some ρ1 ∧ ∀ r, el ρ1 = r → ∃ ρ3, r = some (.ok (f x) ρ3) ∧ wipeR ρ3 vs = ρ) (hw : wipeR ρ vs = ρ := by rfl) (hh : ∀ x ∈ xs, ∀ ρ1, h (e x) ρ = some ρ1 → wipeR ρ1 vs = ρ := by intro _ _ _ h; cases h; rfl) : r = some (xs.map f, ρ) := by
  have := comp_gen_of hC e (fun _ => true) f xs hy ha hb fun x hx => by
    obtain ⟨ρ1, h1, k2⟩ := k x hx
    exact ⟨ρ1, h1, fun r hr => ⟨ρ1, hr.symm, hh x hx ρ1 h1, fun _ => k2⟩⟩
  rw [this, List.filter_eq_self.2 (by simp)]
theorem rngD0 (n : Nat) : rngD 0 n = (List.range n).map fun k : Nat => D.int k := by
  simp [rngD]
theorem rngDN (i m : Nat) : rngD ((i : Int) + 1) m = ((List.range m).map (fun k => i + 1 + k)).map fun k : Nat => D.int k := by
  simp only [rngD, List.map_map]
  refine List.map_congr_left fun k _ => ?_
  simp
/-! ### the small defs -/
theorem within_int (n lo hi : Int) : fd_within [.int n, .int lo, .int hi] = some (.rt (.bl (decide (lo ≤ n) && decide (n ≤ hi)))) := by
  by_cases h : lo ≤ n <;> simp only [fd_within, dn_within, kb_ok, kb_ex, kb_no, ret_k, lif_s, lif_n, dView_k, vView_k, dFlat_k, vFlat_int, vFlat_bl, vFlat_str, vFlat_non, dVar_k, kVar_k, dPk_k, kPk_k, dMv_k, kMv_k, dFrz_k, kFrz_k, dBin_k, vBin1_k, vBin2_k, dTest_k, vTest_k, dChain_k, vCh1_k, vCh2_k, vCh3_t, vCh3_f, dNot_k, vNot_k, dAnd_k, vAnd_t, vAnd_f, dOr_k, vOr_t, vOr_f, dAndV_k, vAndV_t, vAndV_f, dOrV_k, vOrV_t, vOrV_f, dNotV_k, vNotV_k, dIf_k, vIf_t, vIf_f, dCons_k, vCons1_k, vCons2_k, dTup_k, vTup_k, dLst_k, vLst_k, dCall_k, vCall_k, kc_rt, kc_ex, dItL_k, vItL_lst, vItL_sc, dItT_k, vItT_k, dRng1_k, vRng1_k, dRng2_k, vRng2_k, dCB_k, vCB_k, dIsi_k, vIsi_k, dListE_k, vListE_k, dListS_k, kLS_lst, dLRng1_k, vLRng1_k, dNeg_k, vNeg_k, dIxS_k, kIxS_k, vIxS_k, kIx2_lst, kIx2_tup, kIx2_sc, kIx3_k, dNx_k, dSeq_k, ks_nx, ks_rt, ks_bk, ks_ct, ks_ex, dDrop_k, kDrop_ok, kDrop_ex, dRet_k, kRet_ok, kRet_ex, dIfS_k, kIfS_t, kIfS_f, kIfS_ex, dSet_k, kSet_ok, kSet_ex, dAsg_k, kAsg_ok, kAsg_ex, kh_k, dAppend_k, kAp_k, kAp1_ok, kAp1_ex, kAp2_k, dAug_k, kAug_k, kAug1_ok, dSetItem_k, kSI_ok, kSI_ex, kSI1_k, kSI2_ok, kSI3_k, kSI4_k, dAugItem_k, kAI_k, kAI1_ok, kAI2_k, kAI3_k, kAI4_ok, kAI5_k, kAI6_k, dFor_k, kFor_ok, dComp_k, vComp_k, kCo_k, comp_nil, comp_cons, kc1_k, kc2_t, kc2_f, kc3_k, run_k, kRun_nx, kRun_rt, kRun_ex, hName_k, hNil_k, hCons_k, kH_k, hTup_k, gLt_int, gGt_int, gLe_int, gGe_int, gAdd_int, gMinus_int, gMul_int, gMod_int, gDiv_int, gIx_lst, gIx_tup, gIx_sc, gLen_lst, gLen_tup, gLen_sc, gAll_lst, gAny_lst, gSum_lst, isi_int_int, isi_int_bl, isi_bool_int, isi_bool_bl, isi_list_lst, isi_tuple_tup, isi_str_str, un_int, un_bl, un_str, un_non, un_sc, un_lst, un_tup, uns_nil, uns_cons, pl_int, pl_bl, pl_str, pl_non, pl_sc, pl_lst, pl_tup, pls_nil, pls_cons, ow_int, ow_bl, ow_str, ow_non, ow_lst, ow_tup, ows_nil, ows_cons, wipe_nil, wipe_cons, ints_nil, ints_cons, gBest_lst, gBest_tup, kBest_k, dKeep_k, vKeep_k, dCat_k, vCat1_k, vCat2_k, catD_k, dSorted_k, vSorted_k, sortD_k, dClear_k, kClr_k, dInsert_k, kIn_k, kIn1_ok, kIn2_ok, kIn3_k, tg_int, tg_bl, tg_str, tg_non, tg_tup, tgs_nil, tgs_cons, dRevT_k, vRevT_k, revTD_k, dRevL_k, vRevL_k, revLD_k, dTupOf_k, vTupOf_k, tupD_k, dCatM_k, vCatM1_k, vCatM2_k, catM_k, dTryB_k, kTry_nx, kTry_rt, kTry_ex, kTry2_k, isi_tuple_non, isi_tuple_lst, isi_int_lst, isi_int_str, isi_int_non, bls_nil, bls_cons, bnd_k, bigL0, bigL1, bigL2, bigL3, bigP0, bigP1, bigL4, bigL5, bigL6, bigL7, bigL8, bigL9, bigL10, bigL11, bigL12, bigP2, bigP3, bigP4, bigP5, bigP6, bigP7, bigP8, bigP9, bigP10, bigP11, bigP12, List.length_cons, List.length_nil, List.replicate, List.map_cons, List.map_nil, List.cons_append, List.nil_append, List.append_nil, List.getElem?_cons_zero, List.getElem?_cons_succ, List.set_cons_zero, List.set_cons_succ, Option.map_some, Option.map_none, Bool.not_true, Bool.not_false, if_true, Bool.false_eq_true, if_false, Nat.reduceAdd, Nat.reduceSub, Nat.reduceEqDiff, Bool.and_true, Bool.true_and, Bool.and_self, ite_true, ite_false, Nat.reduceLeDiff, reduceIte, reduceCtorEq, eq_self, decide_true, decide_false, not_true_eq_false, not_false_eq_true, Bool.false_and, Bool.and_false, Bool.or_false, Bool.false_or, Bool.true_or, Bool.or_true, h] <;> simp
end Sh

set_option Elab.async false
set_option linter.all false
set_option maxRecDepth 100000
/-! The plain laws, part B: what the scripts' defs answer. -/
namespace Sh
open L2 Ly
theorem atI_nat {α : Type} (xs : List α) (k : Nat) : atI xs (k : Int) = xs[k]? := by
  unfold atI ixN
  rw [if_pos (by omega)]
  by_cases h : k < xs.length
  · rw [if_pos (by omega)]
    simp
  · rw [if_neg (by omega)]
    simp at h
    simp [h]
theorem atI_zero {α : Type} (xs : List α) : atI xs 0 = xs[0]? := atI_nat xs 0
theorem atI_one {α : Type} (xs : List α) : atI xs 1 = xs[1]? := atI_nat xs 1
theorem ixN_nat (n k : Nat) : ixN n (k : Int) = if k < n then some k else none := by
  unfold ixN
  rw [if_pos (by omega)]
  by_cases h : k < n
  · rw [if_pos (by omega), if_pos h]
    simp
  · rw [if_neg (by omega), if_neg h]
/-- a script's cell, 0 where there is none -/
def cell (ns : List Int) (k : Nat) : Int := ns.getD k 0
theorem cell_at (ns : List Int) (k : Nat) : fd_l_cell_at [.sc ns, .int k] = some (.rt (.int (cell ns k))) := by
  by_cases h : k < ns.length
  · have h2 : (k : Int) < (ns.length : Int) := by omega
    simp only [fd_l_cell_at, dn_l_cell_at, kb_ok, kb_ex, kb_no, ret_k, lif_s, lif_n, dView_k, vView_k, dFlat_k, vFlat_int, vFlat_bl, vFlat_str, vFlat_non, dVar_k, kVar_k, dPk_k, kPk_k, dMv_k, kMv_k, dFrz_k, kFrz_k, dBin_k, vBin1_k, vBin2_k, dTest_k, vTest_k, dChain_k, vCh1_k, vCh2_k, vCh3_t, vCh3_f, dNot_k, vNot_k, dAnd_k, vAnd_t, vAnd_f, dOr_k, vOr_t, vOr_f, dAndV_k, vAndV_t, vAndV_f, dOrV_k, vOrV_t, vOrV_f, dNotV_k, vNotV_k, dIf_k, vIf_t, vIf_f, dCons_k, vCons1_k, vCons2_k, dTup_k, vTup_k, dLst_k, vLst_k, dCall_k, vCall_k, kc_rt, kc_ex, dItL_k, vItL_lst, vItL_sc, dItT_k, vItT_k, dRng1_k, vRng1_k, dRng2_k, vRng2_k, dCB_k, vCB_k, dIsi_k, vIsi_k, dListE_k, vListE_k, dListS_k, kLS_lst, dLRng1_k, vLRng1_k, dNeg_k, vNeg_k, dIxS_k, kIxS_k, vIxS_k, kIx2_lst, kIx2_tup, kIx2_sc, kIx3_k, dNx_k, dSeq_k, ks_nx, ks_rt, ks_bk, ks_ct, ks_ex, dDrop_k, kDrop_ok, kDrop_ex, dRet_k, kRet_ok, kRet_ex, dIfS_k, kIfS_t, kIfS_f, kIfS_ex, dSet_k, kSet_ok, kSet_ex, dAsg_k, kAsg_ok, kAsg_ex, kh_k, dAppend_k, kAp_k, kAp1_ok, kAp1_ex, kAp2_k, dAug_k, kAug_k, kAug1_ok, dSetItem_k, kSI_ok, kSI_ex, kSI1_k, kSI2_ok, kSI3_k, kSI4_k, dAugItem_k, kAI_k, kAI1_ok, kAI2_k, kAI3_k, kAI4_ok, kAI5_k, kAI6_k, dFor_k, kFor_ok, dComp_k, vComp_k, kCo_k, comp_nil, comp_cons, kc1_k, kc2_t, kc2_f, kc3_k, run_k, kRun_nx, kRun_rt, kRun_ex, hName_k, hNil_k, hCons_k, kH_k, hTup_k, gLt_int, gGt_int, gLe_int, gGe_int, gAdd_int, gMinus_int, gMul_int, gMod_int, gDiv_int, gIx_lst, gIx_tup, gIx_sc, gLen_lst, gLen_tup, gLen_sc, gAll_lst, gAny_lst, gSum_lst, isi_int_int, isi_int_bl, isi_bool_int, isi_bool_bl, isi_list_lst, isi_tuple_tup, isi_str_str, un_int, un_bl, un_str, un_non, un_sc, un_lst, un_tup, uns_nil, uns_cons, pl_int, pl_bl, pl_str, pl_non, pl_sc, pl_lst, pl_tup, pls_nil, pls_cons, ow_int, ow_bl, ow_str, ow_non, ow_lst, ow_tup, ows_nil, ows_cons, wipe_nil, wipe_cons, ints_nil, ints_cons, gBest_lst, gBest_tup, kBest_k, dKeep_k, vKeep_k, dCat_k, vCat1_k, vCat2_k, catD_k, dSorted_k, vSorted_k, sortD_k, dClear_k, kClr_k, dInsert_k, kIn_k, kIn1_ok, kIn2_ok, kIn3_k, tg_int, tg_bl, tg_str, tg_non, tg_tup, tgs_nil, tgs_cons, dRevT_k, vRevT_k, revTD_k, dRevL_k, vRevL_k, revLD_k, dTupOf_k, vTupOf_k, tupD_k, dCatM_k, vCatM1_k, vCatM2_k, catM_k, dTryB_k, kTry_nx, kTry_rt, kTry_ex, kTry2_k, isi_tuple_non, isi_tuple_lst, isi_int_lst, isi_int_str, isi_int_non, bls_nil, bls_cons, bnd_k, bigL0, bigL1, bigL2, bigL3, bigP0, bigP1, List.length_cons, List.length_nil, List.replicate, List.map_cons, List.map_nil, List.cons_append, List.nil_append, List.append_nil, List.getElem?_cons_zero, List.getElem?_cons_succ, List.set_cons_zero, List.set_cons_succ, Option.map_some, Option.map_none, Bool.not_true, Bool.not_false, if_true, Bool.false_eq_true, if_false, Nat.reduceAdd, Nat.reduceSub, Nat.reduceEqDiff, Bool.and_true, Bool.true_and, Bool.and_self, ite_true, ite_false, Nat.reduceLeDiff, reduceIte, reduceCtorEq, eq_self, decide_true, decide_false, not_true_eq_false, not_false_eq_true, Bool.false_and, Bool.and_false, Bool.or_false, Bool.false_or, Bool.true_or, Bool.or_true, h2, atI_nat, List.getElem?_map, List.getElem?_eq_getElem h, cell, List.getD]
    simp
  · have h2 : ¬ ((k : Int) < (ns.length : Int)) := by omega
    have h3 : ns[k]? = none := by simp; omega
    simp only [fd_l_cell_at, dn_l_cell_at, kb_ok, kb_ex, kb_no, ret_k, lif_s, lif_n, dView_k, vView_k, dFlat_k, vFlat_int, vFlat_bl, vFlat_str, vFlat_non, dVar_k, kVar_k, dPk_k, kPk_k, dMv_k, kMv_k, dFrz_k, kFrz_k, dBin_k, vBin1_k, vBin2_k, dTest_k, vTest_k, dChain_k, vCh1_k, vCh2_k, vCh3_t, vCh3_f, dNot_k, vNot_k, dAnd_k, vAnd_t, vAnd_f, dOr_k, vOr_t, vOr_f, dAndV_k, vAndV_t, vAndV_f, dOrV_k, vOrV_t, vOrV_f, dNotV_k, vNotV_k, dIf_k, vIf_t, vIf_f, dCons_k, vCons1_k, vCons2_k, dTup_k, vTup_k, dLst_k, vLst_k, dCall_k, vCall_k, kc_rt, kc_ex, dItL_k, vItL_lst, vItL_sc, dItT_k, vItT_k, dRng1_k, vRng1_k, dRng2_k, vRng2_k, dCB_k, vCB_k, dIsi_k, vIsi_k, dListE_k, vListE_k, dListS_k, kLS_lst, dLRng1_k, vLRng1_k, dNeg_k, vNeg_k, dIxS_k, kIxS_k, vIxS_k, kIx2_lst, kIx2_tup, kIx2_sc, kIx3_k, dNx_k, dSeq_k, ks_nx, ks_rt, ks_bk, ks_ct, ks_ex, dDrop_k, kDrop_ok, kDrop_ex, dRet_k, kRet_ok, kRet_ex, dIfS_k, kIfS_t, kIfS_f, kIfS_ex, dSet_k, kSet_ok, kSet_ex, dAsg_k, kAsg_ok, kAsg_ex, kh_k, dAppend_k, kAp_k, kAp1_ok, kAp1_ex, kAp2_k, dAug_k, kAug_k, kAug1_ok, dSetItem_k, kSI_ok, kSI_ex, kSI1_k, kSI2_ok, kSI3_k, kSI4_k, dAugItem_k, kAI_k, kAI1_ok, kAI2_k, kAI3_k, kAI4_ok, kAI5_k, kAI6_k, dFor_k, kFor_ok, dComp_k, vComp_k, kCo_k, comp_nil, comp_cons, kc1_k, kc2_t, kc2_f, kc3_k, run_k, kRun_nx, kRun_rt, kRun_ex, hName_k, hNil_k, hCons_k, kH_k, hTup_k, gLt_int, gGt_int, gLe_int, gGe_int, gAdd_int, gMinus_int, gMul_int, gMod_int, gDiv_int, gIx_lst, gIx_tup, gIx_sc, gLen_lst, gLen_tup, gLen_sc, gAll_lst, gAny_lst, gSum_lst, isi_int_int, isi_int_bl, isi_bool_int, isi_bool_bl, isi_list_lst, isi_tuple_tup, isi_str_str, un_int, un_bl, un_str, un_non, un_sc, un_lst, un_tup, uns_nil, uns_cons, pl_int, pl_bl, pl_str, pl_non, pl_sc, pl_lst, pl_tup, pls_nil, pls_cons, ow_int, ow_bl, ow_str, ow_non, ow_lst, ow_tup, ows_nil, ows_cons, wipe_nil, wipe_cons, ints_nil, ints_cons, gBest_lst, gBest_tup, kBest_k, dKeep_k, vKeep_k, dCat_k, vCat1_k, vCat2_k, catD_k, dSorted_k, vSorted_k, sortD_k, dClear_k, kClr_k, dInsert_k, kIn_k, kIn1_ok, kIn2_ok, kIn3_k, tg_int, tg_bl, tg_str, tg_non, tg_tup, tgs_nil, tgs_cons, dRevT_k, vRevT_k, revTD_k, dRevL_k, vRevL_k, revLD_k, dTupOf_k, vTupOf_k, tupD_k, dCatM_k, vCatM1_k, vCatM2_k, catM_k, dTryB_k, kTry_nx, kTry_rt, kTry_ex, kTry2_k, isi_tuple_non, isi_tuple_lst, isi_int_lst, isi_int_str, isi_int_non, bls_nil, bls_cons, bnd_k, bigL0, bigL1, bigL2, bigL3, bigP0, bigP1, List.length_cons, List.length_nil, List.replicate, List.map_cons, List.map_nil, List.cons_append, List.nil_append, List.append_nil, List.getElem?_cons_zero, List.getElem?_cons_succ, List.set_cons_zero, List.set_cons_succ, Option.map_some, Option.map_none, Bool.not_true, Bool.not_false, if_true, Bool.false_eq_true, if_false, Nat.reduceAdd, Nat.reduceSub, Nat.reduceEqDiff, Bool.and_true, Bool.true_and, Bool.and_self, ite_true, ite_false, Nat.reduceLeDiff, reduceIte, reduceCtorEq, eq_self, decide_true, decide_false, not_true_eq_false, not_false_eq_true, Bool.false_and, Bool.and_false, Bool.or_false, Bool.false_or, Bool.true_or, Bool.or_true, h2, cell, List.getD, h3]
    simp
theorem mod_lt64 (x : Int) (m : Int) (h : 0 < m) (h2 : m < 2 ^ 40) : decide (-(2 ^ 64) < x % m) = true ∧ decide (x % m < 2 ^ 64) = true := by
  have a := Int.emod_nonneg x (Int.ne_of_gt h)
  have b := Int.emod_lt_of_pos x h
  refine ⟨decide_eq_true (Int.lt_of_lt_of_le (by decide) a), decide_eq_true (Int.lt_trans b (Int.lt_trans h2 (by decide)))⟩
def mix (c k : Int) : Int := ((c + 977 * k + 31) * 48271 % 2147483647) * ((c + 977 * k + 31) * 48271 % 2147483647) % 2147483629
theorem mixed_eq (c k : Int) : fd_l_mixed [.int c, .int k] = some (.rt (.int (mix c k))) := by
  have h := mod_lt64 ((c + 977 * k + 31) * 48271) 2147483647 (by decide) (by decide)
  have e1 : cMul 977 k = true := by simp [cMul]
  have e2 : ∀ i, cMul i 48271 = true := fun i => by simp [cMul]
  have e3 : cMul ((c + 977 * k + 31) * 48271 % 2147483647) ((c + 977 * k + 31) * 48271 % 2147483647) = true := by
    unfold cMul
    rw [h.1, h.2]
    rfl
  have p1 : (0 : Int) < 2147483647 := by decide
  have p2 : (0 : Int) < 2147483629 := by decide
  simp only [fd_l_mixed, dn_l_mixed, kb_ok, kb_ex, kb_no, ret_k, lif_s, lif_n, dView_k, vView_k, dFlat_k, vFlat_int, vFlat_bl, vFlat_str, vFlat_non, dVar_k, kVar_k, dPk_k, kPk_k, dMv_k, kMv_k, dFrz_k, kFrz_k, dBin_k, vBin1_k, vBin2_k, dTest_k, vTest_k, dChain_k, vCh1_k, vCh2_k, vCh3_t, vCh3_f, dNot_k, vNot_k, dAnd_k, vAnd_t, vAnd_f, dOr_k, vOr_t, vOr_f, dAndV_k, vAndV_t, vAndV_f, dOrV_k, vOrV_t, vOrV_f, dNotV_k, vNotV_k, dIf_k, vIf_t, vIf_f, dCons_k, vCons1_k, vCons2_k, dTup_k, vTup_k, dLst_k, vLst_k, dCall_k, vCall_k, kc_rt, kc_ex, dItL_k, vItL_lst, vItL_sc, dItT_k, vItT_k, dRng1_k, vRng1_k, dRng2_k, vRng2_k, dCB_k, vCB_k, dIsi_k, vIsi_k, dListE_k, vListE_k, dListS_k, kLS_lst, dLRng1_k, vLRng1_k, dNeg_k, vNeg_k, dIxS_k, kIxS_k, vIxS_k, kIx2_lst, kIx2_tup, kIx2_sc, kIx3_k, dNx_k, dSeq_k, ks_nx, ks_rt, ks_bk, ks_ct, ks_ex, dDrop_k, kDrop_ok, kDrop_ex, dRet_k, kRet_ok, kRet_ex, dIfS_k, kIfS_t, kIfS_f, kIfS_ex, dSet_k, kSet_ok, kSet_ex, dAsg_k, kAsg_ok, kAsg_ex, kh_k, dAppend_k, kAp_k, kAp1_ok, kAp1_ex, kAp2_k, dAug_k, kAug_k, kAug1_ok, dSetItem_k, kSI_ok, kSI_ex, kSI1_k, kSI2_ok, kSI3_k, kSI4_k, dAugItem_k, kAI_k, kAI1_ok, kAI2_k, kAI3_k, kAI4_ok, kAI5_k, kAI6_k, dFor_k, kFor_ok, dComp_k, vComp_k, kCo_k, comp_nil, comp_cons, kc1_k, kc2_t, kc2_f, kc3_k, run_k, kRun_nx, kRun_rt, kRun_ex, hName_k, hNil_k, hCons_k, kH_k, hTup_k, gLt_int, gGt_int, gLe_int, gGe_int, gAdd_int, gMinus_int, gMul_int, gMod_int, gDiv_int, gIx_lst, gIx_tup, gIx_sc, gLen_lst, gLen_tup, gLen_sc, gAll_lst, gAny_lst, gSum_lst, isi_int_int, isi_int_bl, isi_bool_int, isi_bool_bl, isi_list_lst, isi_tuple_tup, isi_str_str, un_int, un_bl, un_str, un_non, un_sc, un_lst, un_tup, uns_nil, uns_cons, pl_int, pl_bl, pl_str, pl_non, pl_sc, pl_lst, pl_tup, pls_nil, pls_cons, ow_int, ow_bl, ow_str, ow_non, ow_lst, ow_tup, ows_nil, ows_cons, wipe_nil, wipe_cons, ints_nil, ints_cons, gBest_lst, gBest_tup, kBest_k, dKeep_k, vKeep_k, dCat_k, vCat1_k, vCat2_k, catD_k, dSorted_k, vSorted_k, sortD_k, dClear_k, kClr_k, dInsert_k, kIn_k, kIn1_ok, kIn2_ok, kIn3_k, tg_int, tg_bl, tg_str, tg_non, tg_tup, tgs_nil, tgs_cons, dRevT_k, vRevT_k, revTD_k, dRevL_k, vRevL_k, revLD_k, dTupOf_k, vTupOf_k, tupD_k, dCatM_k, vCatM1_k, vCatM2_k, catM_k, dTryB_k, kTry_nx, kTry_rt, kTry_ex, kTry2_k, isi_tuple_non, isi_tuple_lst, isi_int_lst, isi_int_str, isi_int_non, bls_nil, bls_cons, bnd_k, bigL0, bigL1, bigL2, bigL3, bigP0, bigP1, List.length_cons, List.length_nil, List.replicate, List.map_cons, List.map_nil, List.cons_append, List.nil_append, List.append_nil, List.getElem?_cons_zero, List.getElem?_cons_succ, List.set_cons_zero, List.set_cons_succ, Option.map_some, Option.map_none, Bool.not_true, Bool.not_false, if_true, Bool.false_eq_true, if_false, Nat.reduceAdd, Nat.reduceSub, Nat.reduceEqDiff, Bool.and_true, Bool.true_and, Bool.and_self, ite_true, ite_false, Nat.reduceLeDiff, reduceIte, reduceCtorEq, eq_self, decide_true, decide_false, not_true_eq_false, not_false_eq_true, Bool.false_and, Bool.and_false, Bool.or_false, Bool.false_or, Bool.true_or, Bool.or_true, e1, e2, p1, p2, e3, mix]
theorem first_some (c i j n : Int) : ∃ b : Bool, fd_l_first_wins [.int c, .int i, .int j, .int n] = some (.rt (.bl b)) := by
  have e1 : cMul 20 i = true := by simp [cMul]
  have p4 : (0 : Int) < 4 := by decide
  have p5 : (0 : Int) < 5 := by decide
  have p2 : (0 : Int) < 2 := by decide
  have p3 : (0 : Int) < 3 := by decide
  have q4 : (4 : Int) < 1073741824 := by decide
  have q2 : (2 : Int) < 1073741824 := by decide
  have tot : ∀ (c1 c2 c3 cb i3 j3 : Bool) (h1 : (c % 4 == 1) = c1) (h2 : (c % 4 == 2) = c2) (h3 : (c % 4 == 3) = c3) (hb : (decide (i < n / 2) == decide (j < n / 2)) = cb) (hi : decide (i < 3) = i3) (hj : decide (j < 3) = j3), ∃ b : Bool, fd_l_first_wins [.int c, .int i, .int j, .int n] = some (.rt (.bl b)) := by
    intro c1 c2 c3 cb i3 j3 h1 h2 h3 hb hi hj
    have b1 : 1 ≤ big := by decide
    have b0 : 0 < big := by decide
    have b2 : 2 ≤ big := by decide
    have bb : 1 < big := by decide
    have sd : ∀ x y : Int, ∃ s : Bool, (x == y) = s := fun x y => ⟨_, rfl⟩
    unfold fd_l_first_wins dn_l_first_wins
    cases c1
    · cases c2
      · cases c3
        · simp only [e1, h1, h2, h3, hb, kb_ok, kb_ex, kb_no, ret_k, lif_s, lif_n, dView_k, vView_k, dFlat_k, vFlat_int, vFlat_bl, vFlat_str, vFlat_non, dVar_k, kVar_k, dPk_k, kPk_k, dMv_k, kMv_k, dFrz_k, kFrz_k, dBin_k, vBin1_k, vBin2_k, dTest_k, vTest_k, dChain_k, vCh1_k, vCh2_k, vCh3_t, vCh3_f, dNot_k, vNot_k, dAnd_k, vAnd_t, vAnd_f, dOr_k, vOr_t, vOr_f, dAndV_k, vAndV_t, vAndV_f, dOrV_k, vOrV_t, vOrV_f, dNotV_k, vNotV_k, dIf_k, vIf_t, vIf_f, dCons_k, vCons1_k, vCons2_k, dTup_k, vTup_k, dLst_k, vLst_k, dCall_k, vCall_k, kc_rt, kc_ex, dItL_k, vItL_lst, vItL_sc, dItT_k, vItT_k, dRng1_k, vRng1_k, dRng2_k, vRng2_k, dCB_k, vCB_k, dIsi_k, vIsi_k, dListE_k, vListE_k, dListS_k, kLS_lst, dLRng1_k, vLRng1_k, dNeg_k, vNeg_k, dIxS_k, kIxS_k, vIxS_k, kIx2_lst, kIx2_tup, kIx2_sc, kIx3_k, dNx_k, dSeq_k, ks_nx, ks_rt, ks_bk, ks_ct, ks_ex, dDrop_k, kDrop_ok, kDrop_ex, dRet_k, kRet_ok, kRet_ex, dIfS_k, kIfS_t, kIfS_f, kIfS_ex, dSet_k, kSet_ok, kSet_ex, dAsg_k, kAsg_ok, kAsg_ex, kh_k, dAppend_k, kAp_k, kAp1_ok, kAp1_ex, kAp2_k, dAug_k, kAug_k, kAug1_ok, dSetItem_k, kSI_ok, kSI_ex, kSI1_k, kSI2_ok, kSI3_k, kSI4_k, dAugItem_k, kAI_k, kAI1_ok, kAI2_k, kAI3_k, kAI4_ok, kAI5_k, kAI6_k, dFor_k, kFor_ok, dComp_k, vComp_k, kCo_k, comp_nil, comp_cons, kc1_k, kc2_t, kc2_f, kc3_k, run_k, kRun_nx, kRun_rt, kRun_ex, hName_k, hNil_k, hCons_k, kH_k, hTup_k, gLt_int, gGt_int, gLe_int, gGe_int, gAdd_int, gMinus_int, gMul_int, gMod_int, gDiv_int, gIx_lst, gIx_tup, gIx_sc, gLen_lst, gLen_tup, gLen_sc, gAll_lst, gAny_lst, gSum_lst, isi_int_int, isi_int_bl, isi_bool_int, isi_bool_bl, isi_list_lst, isi_tuple_tup, isi_str_str, un_int, un_bl, un_str, un_non, un_sc, un_lst, un_tup, uns_nil, uns_cons, pl_int, pl_bl, pl_str, pl_non, pl_sc, pl_lst, pl_tup, pls_nil, pls_cons, ow_int, ow_bl, ow_str, ow_non, ow_lst, ow_tup, ows_nil, ows_cons, wipe_nil, wipe_cons, ints_nil, ints_cons, gBest_lst, gBest_tup, kBest_k, dKeep_k, vKeep_k, dCat_k, vCat1_k, vCat2_k, catD_k, dSorted_k, vSorted_k, sortD_k, dClear_k, kClr_k, dInsert_k, kIn_k, kIn1_ok, kIn2_ok, kIn3_k, tg_int, tg_bl, tg_str, tg_non, tg_tup, tgs_nil, tgs_cons, dRevT_k, vRevT_k, revTD_k, dRevL_k, vRevL_k, revLD_k, dTupOf_k, vTupOf_k, tupD_k, dCatM_k, vCatM1_k, vCatM2_k, catM_k, dTryB_k, kTry_nx, kTry_rt, kTry_ex, kTry2_k, isi_tuple_non, isi_tuple_lst, isi_int_lst, isi_int_str, isi_int_non, bls_nil, bls_cons, bnd_k, bigL0, bigL1, bigL2, bigL3, bigP0, bigP1, List.length_cons, List.length_nil, List.replicate, List.map_cons, List.map_nil, List.cons_append, List.nil_append, List.append_nil, List.getElem?_cons_zero, List.getElem?_cons_succ, List.set_cons_zero, List.set_cons_succ, Option.map_some, Option.map_none, Bool.not_true, Bool.not_false, if_true, Bool.false_eq_true, if_false, Nat.reduceAdd, Nat.reduceSub, Nat.reduceEqDiff, Bool.and_true, Bool.true_and, Bool.and_self, ite_true, ite_false, Nat.reduceLeDiff, reduceIte, reduceCtorEq, eq_self, decide_true, decide_false, not_true_eq_false, not_false_eq_true, Bool.false_and, Bool.and_false, Bool.or_false, Bool.false_or, Bool.true_or, Bool.or_true, p4, p5, p2, p3, q4, q2, mixed_eq, gEq_k, gNe_k, fit_int, fit_bl, fit_non, fit_lst8, fit_tup8, fits_nil, fits_cons, eqv_ii, eqv_bb, eqv_tt, eqv_ll, eqvs_nil, eqvs_cons, atI_zero, atI_one]
          exact ⟨_, rfl⟩
        · cases j3
          · cases i3
            · obtain ⟨s, hs⟩ := sd (1 + mix c i % 2) (1 + mix c j % 2)
              cases s <;> simp only [e1, h1, h2, h3, hb, hi, hj, hs, b0, b2, bb, kb_ok, kb_ex, kb_no, ret_k, lif_s, lif_n, dView_k, vView_k, dFlat_k, vFlat_int, vFlat_bl, vFlat_str, vFlat_non, dVar_k, kVar_k, dPk_k, kPk_k, dMv_k, kMv_k, dFrz_k, kFrz_k, dBin_k, vBin1_k, vBin2_k, dTest_k, vTest_k, dChain_k, vCh1_k, vCh2_k, vCh3_t, vCh3_f, dNot_k, vNot_k, dAnd_k, vAnd_t, vAnd_f, dOr_k, vOr_t, vOr_f, dAndV_k, vAndV_t, vAndV_f, dOrV_k, vOrV_t, vOrV_f, dNotV_k, vNotV_k, dIf_k, vIf_t, vIf_f, dCons_k, vCons1_k, vCons2_k, dTup_k, vTup_k, dLst_k, vLst_k, dCall_k, vCall_k, kc_rt, kc_ex, dItL_k, vItL_lst, vItL_sc, dItT_k, vItT_k, dRng1_k, vRng1_k, dRng2_k, vRng2_k, dCB_k, vCB_k, dIsi_k, vIsi_k, dListE_k, vListE_k, dListS_k, kLS_lst, dLRng1_k, vLRng1_k, dNeg_k, vNeg_k, dIxS_k, kIxS_k, vIxS_k, kIx2_lst, kIx2_tup, kIx2_sc, kIx3_k, dNx_k, dSeq_k, ks_nx, ks_rt, ks_bk, ks_ct, ks_ex, dDrop_k, kDrop_ok, kDrop_ex, dRet_k, kRet_ok, kRet_ex, dIfS_k, kIfS_t, kIfS_f, kIfS_ex, dSet_k, kSet_ok, kSet_ex, dAsg_k, kAsg_ok, kAsg_ex, kh_k, dAppend_k, kAp_k, kAp1_ok, kAp1_ex, kAp2_k, dAug_k, kAug_k, kAug1_ok, dSetItem_k, kSI_ok, kSI_ex, kSI1_k, kSI2_ok, kSI3_k, kSI4_k, dAugItem_k, kAI_k, kAI1_ok, kAI2_k, kAI3_k, kAI4_ok, kAI5_k, kAI6_k, dFor_k, kFor_ok, dComp_k, vComp_k, kCo_k, comp_nil, comp_cons, kc1_k, kc2_t, kc2_f, kc3_k, run_k, kRun_nx, kRun_rt, kRun_ex, hName_k, hNil_k, hCons_k, kH_k, hTup_k, gLt_int, gGt_int, gLe_int, gGe_int, gAdd_int, gMinus_int, gMul_int, gMod_int, gDiv_int, gIx_lst, gIx_tup, gIx_sc, gLen_lst, gLen_tup, gLen_sc, gAll_lst, gAny_lst, gSum_lst, isi_int_int, isi_int_bl, isi_bool_int, isi_bool_bl, isi_list_lst, isi_tuple_tup, isi_str_str, un_int, un_bl, un_str, un_non, un_sc, un_lst, un_tup, uns_nil, uns_cons, pl_int, pl_bl, pl_str, pl_non, pl_sc, pl_lst, pl_tup, pls_nil, pls_cons, ow_int, ow_bl, ow_str, ow_non, ow_lst, ow_tup, ows_nil, ows_cons, wipe_nil, wipe_cons, ints_nil, ints_cons, gBest_lst, gBest_tup, kBest_k, dKeep_k, vKeep_k, dCat_k, vCat1_k, vCat2_k, catD_k, dSorted_k, vSorted_k, sortD_k, dClear_k, kClr_k, dInsert_k, kIn_k, kIn1_ok, kIn2_ok, kIn3_k, tg_int, tg_bl, tg_str, tg_non, tg_tup, tgs_nil, tgs_cons, dRevT_k, vRevT_k, revTD_k, dRevL_k, vRevL_k, revLD_k, dTupOf_k, vTupOf_k, tupD_k, dCatM_k, vCatM1_k, vCatM2_k, catM_k, dTryB_k, kTry_nx, kTry_rt, kTry_ex, kTry2_k, isi_tuple_non, isi_tuple_lst, isi_int_lst, isi_int_str, isi_int_non, bls_nil, bls_cons, bnd_k, bigL0, bigL1, bigL2, bigL3, bigP0, bigP1, List.length_cons, List.length_nil, List.replicate, List.map_cons, List.map_nil, List.cons_append, List.nil_append, List.append_nil, List.getElem?_cons_zero, List.getElem?_cons_succ, List.set_cons_zero, List.set_cons_succ, Option.map_some, Option.map_none, Bool.not_true, Bool.not_false, if_true, Bool.false_eq_true, if_false, Nat.reduceAdd, Nat.reduceSub, Nat.reduceEqDiff, Bool.and_true, Bool.true_and, Bool.and_self, ite_true, ite_false, Nat.reduceLeDiff, reduceIte, reduceCtorEq, eq_self, decide_true, decide_false, not_true_eq_false, not_false_eq_true, Bool.false_and, Bool.and_false, Bool.or_false, Bool.false_or, Bool.true_or, Bool.or_true, p4, p5, p2, p3, q4, q2, mixed_eq, gEq_k, gNe_k, fit_int, fit_bl, fit_non, fit_lst8, fit_tup8, fits_nil, fits_cons, eqv_ii, eqv_bb, eqv_tt, eqv_ll, eqvs_nil, eqvs_cons, atI_zero, atI_one] <;> exact ⟨_, rfl⟩
            · obtain ⟨s, hs⟩ := sd 0 (1 + mix c j % 2)
              cases s <;> simp only [e1, h1, h2, h3, hb, hi, hj, hs, b0, b2, bb, kb_ok, kb_ex, kb_no, ret_k, lif_s, lif_n, dView_k, vView_k, dFlat_k, vFlat_int, vFlat_bl, vFlat_str, vFlat_non, dVar_k, kVar_k, dPk_k, kPk_k, dMv_k, kMv_k, dFrz_k, kFrz_k, dBin_k, vBin1_k, vBin2_k, dTest_k, vTest_k, dChain_k, vCh1_k, vCh2_k, vCh3_t, vCh3_f, dNot_k, vNot_k, dAnd_k, vAnd_t, vAnd_f, dOr_k, vOr_t, vOr_f, dAndV_k, vAndV_t, vAndV_f, dOrV_k, vOrV_t, vOrV_f, dNotV_k, vNotV_k, dIf_k, vIf_t, vIf_f, dCons_k, vCons1_k, vCons2_k, dTup_k, vTup_k, dLst_k, vLst_k, dCall_k, vCall_k, kc_rt, kc_ex, dItL_k, vItL_lst, vItL_sc, dItT_k, vItT_k, dRng1_k, vRng1_k, dRng2_k, vRng2_k, dCB_k, vCB_k, dIsi_k, vIsi_k, dListE_k, vListE_k, dListS_k, kLS_lst, dLRng1_k, vLRng1_k, dNeg_k, vNeg_k, dIxS_k, kIxS_k, vIxS_k, kIx2_lst, kIx2_tup, kIx2_sc, kIx3_k, dNx_k, dSeq_k, ks_nx, ks_rt, ks_bk, ks_ct, ks_ex, dDrop_k, kDrop_ok, kDrop_ex, dRet_k, kRet_ok, kRet_ex, dIfS_k, kIfS_t, kIfS_f, kIfS_ex, dSet_k, kSet_ok, kSet_ex, dAsg_k, kAsg_ok, kAsg_ex, kh_k, dAppend_k, kAp_k, kAp1_ok, kAp1_ex, kAp2_k, dAug_k, kAug_k, kAug1_ok, dSetItem_k, kSI_ok, kSI_ex, kSI1_k, kSI2_ok, kSI3_k, kSI4_k, dAugItem_k, kAI_k, kAI1_ok, kAI2_k, kAI3_k, kAI4_ok, kAI5_k, kAI6_k, dFor_k, kFor_ok, dComp_k, vComp_k, kCo_k, comp_nil, comp_cons, kc1_k, kc2_t, kc2_f, kc3_k, run_k, kRun_nx, kRun_rt, kRun_ex, hName_k, hNil_k, hCons_k, kH_k, hTup_k, gLt_int, gGt_int, gLe_int, gGe_int, gAdd_int, gMinus_int, gMul_int, gMod_int, gDiv_int, gIx_lst, gIx_tup, gIx_sc, gLen_lst, gLen_tup, gLen_sc, gAll_lst, gAny_lst, gSum_lst, isi_int_int, isi_int_bl, isi_bool_int, isi_bool_bl, isi_list_lst, isi_tuple_tup, isi_str_str, un_int, un_bl, un_str, un_non, un_sc, un_lst, un_tup, uns_nil, uns_cons, pl_int, pl_bl, pl_str, pl_non, pl_sc, pl_lst, pl_tup, pls_nil, pls_cons, ow_int, ow_bl, ow_str, ow_non, ow_lst, ow_tup, ows_nil, ows_cons, wipe_nil, wipe_cons, ints_nil, ints_cons, gBest_lst, gBest_tup, kBest_k, dKeep_k, vKeep_k, dCat_k, vCat1_k, vCat2_k, catD_k, dSorted_k, vSorted_k, sortD_k, dClear_k, kClr_k, dInsert_k, kIn_k, kIn1_ok, kIn2_ok, kIn3_k, tg_int, tg_bl, tg_str, tg_non, tg_tup, tgs_nil, tgs_cons, dRevT_k, vRevT_k, revTD_k, dRevL_k, vRevL_k, revLD_k, dTupOf_k, vTupOf_k, tupD_k, dCatM_k, vCatM1_k, vCatM2_k, catM_k, dTryB_k, kTry_nx, kTry_rt, kTry_ex, kTry2_k, isi_tuple_non, isi_tuple_lst, isi_int_lst, isi_int_str, isi_int_non, bls_nil, bls_cons, bnd_k, bigL0, bigL1, bigL2, bigL3, bigP0, bigP1, List.length_cons, List.length_nil, List.replicate, List.map_cons, List.map_nil, List.cons_append, List.nil_append, List.append_nil, List.getElem?_cons_zero, List.getElem?_cons_succ, List.set_cons_zero, List.set_cons_succ, Option.map_some, Option.map_none, Bool.not_true, Bool.not_false, if_true, Bool.false_eq_true, if_false, Nat.reduceAdd, Nat.reduceSub, Nat.reduceEqDiff, Bool.and_true, Bool.true_and, Bool.and_self, ite_true, ite_false, Nat.reduceLeDiff, reduceIte, reduceCtorEq, eq_self, decide_true, decide_false, not_true_eq_false, not_false_eq_true, Bool.false_and, Bool.and_false, Bool.or_false, Bool.false_or, Bool.true_or, Bool.or_true, p4, p5, p2, p3, q4, q2, mixed_eq, gEq_k, gNe_k, fit_int, fit_bl, fit_non, fit_lst8, fit_tup8, fits_nil, fits_cons, eqv_ii, eqv_bb, eqv_tt, eqv_ll, eqvs_nil, eqvs_cons, atI_zero, atI_one] <;> exact ⟨_, rfl⟩
          · simp only [e1, h1, h2, h3, hb, hi, hj, b0, b2, bb, kb_ok, kb_ex, kb_no, ret_k, lif_s, lif_n, dView_k, vView_k, dFlat_k, vFlat_int, vFlat_bl, vFlat_str, vFlat_non, dVar_k, kVar_k, dPk_k, kPk_k, dMv_k, kMv_k, dFrz_k, kFrz_k, dBin_k, vBin1_k, vBin2_k, dTest_k, vTest_k, dChain_k, vCh1_k, vCh2_k, vCh3_t, vCh3_f, dNot_k, vNot_k, dAnd_k, vAnd_t, vAnd_f, dOr_k, vOr_t, vOr_f, dAndV_k, vAndV_t, vAndV_f, dOrV_k, vOrV_t, vOrV_f, dNotV_k, vNotV_k, dIf_k, vIf_t, vIf_f, dCons_k, vCons1_k, vCons2_k, dTup_k, vTup_k, dLst_k, vLst_k, dCall_k, vCall_k, kc_rt, kc_ex, dItL_k, vItL_lst, vItL_sc, dItT_k, vItT_k, dRng1_k, vRng1_k, dRng2_k, vRng2_k, dCB_k, vCB_k, dIsi_k, vIsi_k, dListE_k, vListE_k, dListS_k, kLS_lst, dLRng1_k, vLRng1_k, dNeg_k, vNeg_k, dIxS_k, kIxS_k, vIxS_k, kIx2_lst, kIx2_tup, kIx2_sc, kIx3_k, dNx_k, dSeq_k, ks_nx, ks_rt, ks_bk, ks_ct, ks_ex, dDrop_k, kDrop_ok, kDrop_ex, dRet_k, kRet_ok, kRet_ex, dIfS_k, kIfS_t, kIfS_f, kIfS_ex, dSet_k, kSet_ok, kSet_ex, dAsg_k, kAsg_ok, kAsg_ex, kh_k, dAppend_k, kAp_k, kAp1_ok, kAp1_ex, kAp2_k, dAug_k, kAug_k, kAug1_ok, dSetItem_k, kSI_ok, kSI_ex, kSI1_k, kSI2_ok, kSI3_k, kSI4_k, dAugItem_k, kAI_k, kAI1_ok, kAI2_k, kAI3_k, kAI4_ok, kAI5_k, kAI6_k, dFor_k, kFor_ok, dComp_k, vComp_k, kCo_k, comp_nil, comp_cons, kc1_k, kc2_t, kc2_f, kc3_k, run_k, kRun_nx, kRun_rt, kRun_ex, hName_k, hNil_k, hCons_k, kH_k, hTup_k, gLt_int, gGt_int, gLe_int, gGe_int, gAdd_int, gMinus_int, gMul_int, gMod_int, gDiv_int, gIx_lst, gIx_tup, gIx_sc, gLen_lst, gLen_tup, gLen_sc, gAll_lst, gAny_lst, gSum_lst, isi_int_int, isi_int_bl, isi_bool_int, isi_bool_bl, isi_list_lst, isi_tuple_tup, isi_str_str, un_int, un_bl, un_str, un_non, un_sc, un_lst, un_tup, uns_nil, uns_cons, pl_int, pl_bl, pl_str, pl_non, pl_sc, pl_lst, pl_tup, pls_nil, pls_cons, ow_int, ow_bl, ow_str, ow_non, ow_lst, ow_tup, ows_nil, ows_cons, wipe_nil, wipe_cons, ints_nil, ints_cons, gBest_lst, gBest_tup, kBest_k, dKeep_k, vKeep_k, dCat_k, vCat1_k, vCat2_k, catD_k, dSorted_k, vSorted_k, sortD_k, dClear_k, kClr_k, dInsert_k, kIn_k, kIn1_ok, kIn2_ok, kIn3_k, tg_int, tg_bl, tg_str, tg_non, tg_tup, tgs_nil, tgs_cons, dRevT_k, vRevT_k, revTD_k, dRevL_k, vRevL_k, revLD_k, dTupOf_k, vTupOf_k, tupD_k, dCatM_k, vCatM1_k, vCatM2_k, catM_k, dTryB_k, kTry_nx, kTry_rt, kTry_ex, kTry2_k, isi_tuple_non, isi_tuple_lst, isi_int_lst, isi_int_str, isi_int_non, bls_nil, bls_cons, bnd_k, bigL0, bigL1, bigL2, bigL3, bigP0, bigP1, List.length_cons, List.length_nil, List.replicate, List.map_cons, List.map_nil, List.cons_append, List.nil_append, List.append_nil, List.getElem?_cons_zero, List.getElem?_cons_succ, List.set_cons_zero, List.set_cons_succ, Option.map_some, Option.map_none, Bool.not_true, Bool.not_false, if_true, Bool.false_eq_true, if_false, Nat.reduceAdd, Nat.reduceSub, Nat.reduceEqDiff, Bool.and_true, Bool.true_and, Bool.and_self, ite_true, ite_false, Nat.reduceLeDiff, reduceIte, reduceCtorEq, eq_self, decide_true, decide_false, not_true_eq_false, not_false_eq_true, Bool.false_and, Bool.and_false, Bool.or_false, Bool.false_or, Bool.true_or, Bool.or_true, p4, p5, p2, p3, q4, q2, mixed_eq, gEq_k, gNe_k, fit_int, fit_bl, fit_non, fit_lst8, fit_tup8, fits_nil, fits_cons, eqv_ii, eqv_bb, eqv_tt, eqv_ll, eqvs_nil, eqvs_cons, atI_zero, atI_one]
            exact ⟨_, rfl⟩
      · cases cb
        · simp only [e1, h1, h2, h3, hb, hi, hj, b0, b2, bb, kb_ok, kb_ex, kb_no, ret_k, lif_s, lif_n, dView_k, vView_k, dFlat_k, vFlat_int, vFlat_bl, vFlat_str, vFlat_non, dVar_k, kVar_k, dPk_k, kPk_k, dMv_k, kMv_k, dFrz_k, kFrz_k, dBin_k, vBin1_k, vBin2_k, dTest_k, vTest_k, dChain_k, vCh1_k, vCh2_k, vCh3_t, vCh3_f, dNot_k, vNot_k, dAnd_k, vAnd_t, vAnd_f, dOr_k, vOr_t, vOr_f, dAndV_k, vAndV_t, vAndV_f, dOrV_k, vOrV_t, vOrV_f, dNotV_k, vNotV_k, dIf_k, vIf_t, vIf_f, dCons_k, vCons1_k, vCons2_k, dTup_k, vTup_k, dLst_k, vLst_k, dCall_k, vCall_k, kc_rt, kc_ex, dItL_k, vItL_lst, vItL_sc, dItT_k, vItT_k, dRng1_k, vRng1_k, dRng2_k, vRng2_k, dCB_k, vCB_k, dIsi_k, vIsi_k, dListE_k, vListE_k, dListS_k, kLS_lst, dLRng1_k, vLRng1_k, dNeg_k, vNeg_k, dIxS_k, kIxS_k, vIxS_k, kIx2_lst, kIx2_tup, kIx2_sc, kIx3_k, dNx_k, dSeq_k, ks_nx, ks_rt, ks_bk, ks_ct, ks_ex, dDrop_k, kDrop_ok, kDrop_ex, dRet_k, kRet_ok, kRet_ex, dIfS_k, kIfS_t, kIfS_f, kIfS_ex, dSet_k, kSet_ok, kSet_ex, dAsg_k, kAsg_ok, kAsg_ex, kh_k, dAppend_k, kAp_k, kAp1_ok, kAp1_ex, kAp2_k, dAug_k, kAug_k, kAug1_ok, dSetItem_k, kSI_ok, kSI_ex, kSI1_k, kSI2_ok, kSI3_k, kSI4_k, dAugItem_k, kAI_k, kAI1_ok, kAI2_k, kAI3_k, kAI4_ok, kAI5_k, kAI6_k, dFor_k, kFor_ok, dComp_k, vComp_k, kCo_k, comp_nil, comp_cons, kc1_k, kc2_t, kc2_f, kc3_k, run_k, kRun_nx, kRun_rt, kRun_ex, hName_k, hNil_k, hCons_k, kH_k, hTup_k, gLt_int, gGt_int, gLe_int, gGe_int, gAdd_int, gMinus_int, gMul_int, gMod_int, gDiv_int, gIx_lst, gIx_tup, gIx_sc, gLen_lst, gLen_tup, gLen_sc, gAll_lst, gAny_lst, gSum_lst, isi_int_int, isi_int_bl, isi_bool_int, isi_bool_bl, isi_list_lst, isi_tuple_tup, isi_str_str, un_int, un_bl, un_str, un_non, un_sc, un_lst, un_tup, uns_nil, uns_cons, pl_int, pl_bl, pl_str, pl_non, pl_sc, pl_lst, pl_tup, pls_nil, pls_cons, ow_int, ow_bl, ow_str, ow_non, ow_lst, ow_tup, ows_nil, ows_cons, wipe_nil, wipe_cons, ints_nil, ints_cons, gBest_lst, gBest_tup, kBest_k, dKeep_k, vKeep_k, dCat_k, vCat1_k, vCat2_k, catD_k, dSorted_k, vSorted_k, sortD_k, dClear_k, kClr_k, dInsert_k, kIn_k, kIn1_ok, kIn2_ok, kIn3_k, tg_int, tg_bl, tg_str, tg_non, tg_tup, tgs_nil, tgs_cons, dRevT_k, vRevT_k, revTD_k, dRevL_k, vRevL_k, revLD_k, dTupOf_k, vTupOf_k, tupD_k, dCatM_k, vCatM1_k, vCatM2_k, catM_k, dTryB_k, kTry_nx, kTry_rt, kTry_ex, kTry2_k, isi_tuple_non, isi_tuple_lst, isi_int_lst, isi_int_str, isi_int_non, bls_nil, bls_cons, bnd_k, bigL0, bigL1, bigL2, bigL3, bigP0, bigP1, List.length_cons, List.length_nil, List.replicate, List.map_cons, List.map_nil, List.cons_append, List.nil_append, List.append_nil, List.getElem?_cons_zero, List.getElem?_cons_succ, List.set_cons_zero, List.set_cons_succ, Option.map_some, Option.map_none, Bool.not_true, Bool.not_false, if_true, Bool.false_eq_true, if_false, Nat.reduceAdd, Nat.reduceSub, Nat.reduceEqDiff, Bool.and_true, Bool.true_and, Bool.and_self, ite_true, ite_false, Nat.reduceLeDiff, reduceIte, reduceCtorEq, eq_self, decide_true, decide_false, not_true_eq_false, not_false_eq_true, Bool.false_and, Bool.and_false, Bool.or_false, Bool.false_or, Bool.true_or, Bool.or_true, p4, p5, p2, p3, q4, q2, mixed_eq, gEq_k, gNe_k, fit_int, fit_bl, fit_non, fit_lst8, fit_tup8, fits_nil, fits_cons, eqv_ii, eqv_bb, eqv_tt, eqv_ll, eqvs_nil, eqvs_cons, atI_zero, atI_one]
          exact ⟨_, rfl⟩
        · have h4 : (c % 4 == 3) = false := by
            have : c % 4 = 2 := by simpa using h2
            simp [this]
          simp only [e1, h1, h2, h4, hb, hi, hj, b0, b2, bb, kb_ok, kb_ex, kb_no, ret_k, lif_s, lif_n, dView_k, vView_k, dFlat_k, vFlat_int, vFlat_bl, vFlat_str, vFlat_non, dVar_k, kVar_k, dPk_k, kPk_k, dMv_k, kMv_k, dFrz_k, kFrz_k, dBin_k, vBin1_k, vBin2_k, dTest_k, vTest_k, dChain_k, vCh1_k, vCh2_k, vCh3_t, vCh3_f, dNot_k, vNot_k, dAnd_k, vAnd_t, vAnd_f, dOr_k, vOr_t, vOr_f, dAndV_k, vAndV_t, vAndV_f, dOrV_k, vOrV_t, vOrV_f, dNotV_k, vNotV_k, dIf_k, vIf_t, vIf_f, dCons_k, vCons1_k, vCons2_k, dTup_k, vTup_k, dLst_k, vLst_k, dCall_k, vCall_k, kc_rt, kc_ex, dItL_k, vItL_lst, vItL_sc, dItT_k, vItT_k, dRng1_k, vRng1_k, dRng2_k, vRng2_k, dCB_k, vCB_k, dIsi_k, vIsi_k, dListE_k, vListE_k, dListS_k, kLS_lst, dLRng1_k, vLRng1_k, dNeg_k, vNeg_k, dIxS_k, kIxS_k, vIxS_k, kIx2_lst, kIx2_tup, kIx2_sc, kIx3_k, dNx_k, dSeq_k, ks_nx, ks_rt, ks_bk, ks_ct, ks_ex, dDrop_k, kDrop_ok, kDrop_ex, dRet_k, kRet_ok, kRet_ex, dIfS_k, kIfS_t, kIfS_f, kIfS_ex, dSet_k, kSet_ok, kSet_ex, dAsg_k, kAsg_ok, kAsg_ex, kh_k, dAppend_k, kAp_k, kAp1_ok, kAp1_ex, kAp2_k, dAug_k, kAug_k, kAug1_ok, dSetItem_k, kSI_ok, kSI_ex, kSI1_k, kSI2_ok, kSI3_k, kSI4_k, dAugItem_k, kAI_k, kAI1_ok, kAI2_k, kAI3_k, kAI4_ok, kAI5_k, kAI6_k, dFor_k, kFor_ok, dComp_k, vComp_k, kCo_k, comp_nil, comp_cons, kc1_k, kc2_t, kc2_f, kc3_k, run_k, kRun_nx, kRun_rt, kRun_ex, hName_k, hNil_k, hCons_k, kH_k, hTup_k, gLt_int, gGt_int, gLe_int, gGe_int, gAdd_int, gMinus_int, gMul_int, gMod_int, gDiv_int, gIx_lst, gIx_tup, gIx_sc, gLen_lst, gLen_tup, gLen_sc, gAll_lst, gAny_lst, gSum_lst, isi_int_int, isi_int_bl, isi_bool_int, isi_bool_bl, isi_list_lst, isi_tuple_tup, isi_str_str, un_int, un_bl, un_str, un_non, un_sc, un_lst, un_tup, uns_nil, uns_cons, pl_int, pl_bl, pl_str, pl_non, pl_sc, pl_lst, pl_tup, pls_nil, pls_cons, ow_int, ow_bl, ow_str, ow_non, ow_lst, ow_tup, ows_nil, ows_cons, wipe_nil, wipe_cons, ints_nil, ints_cons, gBest_lst, gBest_tup, kBest_k, dKeep_k, vKeep_k, dCat_k, vCat1_k, vCat2_k, catD_k, dSorted_k, vSorted_k, sortD_k, dClear_k, kClr_k, dInsert_k, kIn_k, kIn1_ok, kIn2_ok, kIn3_k, tg_int, tg_bl, tg_str, tg_non, tg_tup, tgs_nil, tgs_cons, dRevT_k, vRevT_k, revTD_k, dRevL_k, vRevL_k, revLD_k, dTupOf_k, vTupOf_k, tupD_k, dCatM_k, vCatM1_k, vCatM2_k, catM_k, dTryB_k, kTry_nx, kTry_rt, kTry_ex, kTry2_k, isi_tuple_non, isi_tuple_lst, isi_int_lst, isi_int_str, isi_int_non, bls_nil, bls_cons, bnd_k, bigL0, bigL1, bigL2, bigL3, bigP0, bigP1, List.length_cons, List.length_nil, List.replicate, List.map_cons, List.map_nil, List.cons_append, List.nil_append, List.append_nil, List.getElem?_cons_zero, List.getElem?_cons_succ, List.set_cons_zero, List.set_cons_succ, Option.map_some, Option.map_none, Bool.not_true, Bool.not_false, if_true, Bool.false_eq_true, if_false, Nat.reduceAdd, Nat.reduceSub, Nat.reduceEqDiff, Bool.and_true, Bool.true_and, Bool.and_self, ite_true, ite_false, Nat.reduceLeDiff, reduceIte, reduceCtorEq, eq_self, decide_true, decide_false, not_true_eq_false, not_false_eq_true, Bool.false_and, Bool.and_false, Bool.or_false, Bool.false_or, Bool.true_or, Bool.or_true, p4, p5, p2, p3, q4, q2, mixed_eq, gEq_k, gNe_k, fit_int, fit_bl, fit_non, fit_lst8, fit_tup8, fits_nil, fits_cons, eqv_ii, eqv_bb, eqv_tt, eqv_ll, eqvs_nil, eqvs_cons, atI_zero, atI_one]
          exact ⟨_, rfl⟩
    · simp only [e1, h1, kb_ok, kb_ex, kb_no, ret_k, lif_s, lif_n, dView_k, vView_k, dFlat_k, vFlat_int, vFlat_bl, vFlat_str, vFlat_non, dVar_k, kVar_k, dPk_k, kPk_k, dMv_k, kMv_k, dFrz_k, kFrz_k, dBin_k, vBin1_k, vBin2_k, dTest_k, vTest_k, dChain_k, vCh1_k, vCh2_k, vCh3_t, vCh3_f, dNot_k, vNot_k, dAnd_k, vAnd_t, vAnd_f, dOr_k, vOr_t, vOr_f, dAndV_k, vAndV_t, vAndV_f, dOrV_k, vOrV_t, vOrV_f, dNotV_k, vNotV_k, dIf_k, vIf_t, vIf_f, dCons_k, vCons1_k, vCons2_k, dTup_k, vTup_k, dLst_k, vLst_k, dCall_k, vCall_k, kc_rt, kc_ex, dItL_k, vItL_lst, vItL_sc, dItT_k, vItT_k, dRng1_k, vRng1_k, dRng2_k, vRng2_k, dCB_k, vCB_k, dIsi_k, vIsi_k, dListE_k, vListE_k, dListS_k, kLS_lst, dLRng1_k, vLRng1_k, dNeg_k, vNeg_k, dIxS_k, kIxS_k, vIxS_k, kIx2_lst, kIx2_tup, kIx2_sc, kIx3_k, dNx_k, dSeq_k, ks_nx, ks_rt, ks_bk, ks_ct, ks_ex, dDrop_k, kDrop_ok, kDrop_ex, dRet_k, kRet_ok, kRet_ex, dIfS_k, kIfS_t, kIfS_f, kIfS_ex, dSet_k, kSet_ok, kSet_ex, dAsg_k, kAsg_ok, kAsg_ex, kh_k, dAppend_k, kAp_k, kAp1_ok, kAp1_ex, kAp2_k, dAug_k, kAug_k, kAug1_ok, dSetItem_k, kSI_ok, kSI_ex, kSI1_k, kSI2_ok, kSI3_k, kSI4_k, dAugItem_k, kAI_k, kAI1_ok, kAI2_k, kAI3_k, kAI4_ok, kAI5_k, kAI6_k, dFor_k, kFor_ok, dComp_k, vComp_k, kCo_k, comp_nil, comp_cons, kc1_k, kc2_t, kc2_f, kc3_k, run_k, kRun_nx, kRun_rt, kRun_ex, hName_k, hNil_k, hCons_k, kH_k, hTup_k, gLt_int, gGt_int, gLe_int, gGe_int, gAdd_int, gMinus_int, gMul_int, gMod_int, gDiv_int, gIx_lst, gIx_tup, gIx_sc, gLen_lst, gLen_tup, gLen_sc, gAll_lst, gAny_lst, gSum_lst, isi_int_int, isi_int_bl, isi_bool_int, isi_bool_bl, isi_list_lst, isi_tuple_tup, isi_str_str, un_int, un_bl, un_str, un_non, un_sc, un_lst, un_tup, uns_nil, uns_cons, pl_int, pl_bl, pl_str, pl_non, pl_sc, pl_lst, pl_tup, pls_nil, pls_cons, ow_int, ow_bl, ow_str, ow_non, ow_lst, ow_tup, ows_nil, ows_cons, wipe_nil, wipe_cons, ints_nil, ints_cons, gBest_lst, gBest_tup, kBest_k, dKeep_k, vKeep_k, dCat_k, vCat1_k, vCat2_k, catD_k, dSorted_k, vSorted_k, sortD_k, dClear_k, kClr_k, dInsert_k, kIn_k, kIn1_ok, kIn2_ok, kIn3_k, tg_int, tg_bl, tg_str, tg_non, tg_tup, tgs_nil, tgs_cons, dRevT_k, vRevT_k, revTD_k, dRevL_k, vRevL_k, revLD_k, dTupOf_k, vTupOf_k, tupD_k, dCatM_k, vCatM1_k, vCatM2_k, catM_k, dTryB_k, kTry_nx, kTry_rt, kTry_ex, kTry2_k, isi_tuple_non, isi_tuple_lst, isi_int_lst, isi_int_str, isi_int_non, bls_nil, bls_cons, bnd_k, bigL0, bigL1, bigL2, bigL3, bigP0, bigP1, List.length_cons, List.length_nil, List.replicate, List.map_cons, List.map_nil, List.cons_append, List.nil_append, List.append_nil, List.getElem?_cons_zero, List.getElem?_cons_succ, List.set_cons_zero, List.set_cons_succ, Option.map_some, Option.map_none, Bool.not_true, Bool.not_false, if_true, Bool.false_eq_true, if_false, Nat.reduceAdd, Nat.reduceSub, Nat.reduceEqDiff, Bool.and_true, Bool.true_and, Bool.and_self, ite_true, ite_false, Nat.reduceLeDiff, reduceIte, reduceCtorEq, eq_self, decide_true, decide_false, not_true_eq_false, not_false_eq_true, Bool.false_and, Bool.and_false, Bool.or_false, Bool.false_or, Bool.true_or, Bool.or_true, p4, p5, p2, p3, q4, q2, mixed_eq, gEq_k, gNe_k, fit_int, fit_bl, fit_non, fit_lst8, fit_tup8, fits_nil, fits_cons, eqv_ii, eqv_bb, eqv_tt, eqv_ll, eqvs_nil, eqvs_cons, atI_zero, atI_one]
      exact ⟨_, rfl⟩
  exact tot _ _ _ _ _ _ rfl rfl rfl rfl rfl rfl
end Sh

set_option Elab.async false
set_option linter.all false
set_option maxRecDepth 100000
/-! The plain laws, part C: rounds by a script, and what the shared defs answer. -/
namespace Sh
open L2 Ly
/-! ### rounds -/
def row (n i : Nat) : List Gm := (List.range (n - (i + 1))).map fun k => (i, i + 1 + k)
/-- every pair of players, in order -/
def pairs (n : Nat) : List Gm := (List.range n).flatMap (row n)
/-- a round: who wins, by w -/
def side (w : Nat → Nat → Bool) (p : Gm) : Gm := if w p.1 p.2 then p else (p.2, p.1)
def round (w : Nat → Nat → Bool) (n : Nat) : List Gm := (pairs n).map (side w)
def gm (p : Gm) : Gm := if p.2 < p.1 then (p.2, p.1) else p
theorem row_len (n i : Nat) : (row n i).length ≤ n := by simp [row]
theorem flat_len {α β : Type} (f : α → List β) (m : Nat) : ∀ xs : List α, (∀ x ∈ xs, (f x).length ≤ m) → (xs.flatMap f).length ≤ xs.length * m
  | [], _ => by simp
  | x :: xs, h => by
    simp only [List.flatMap_cons, List.length_append, List.length_cons, Nat.add_mul, Nat.one_mul]
    have := flat_len f m xs fun y hy => h y (by simp [hy])
    have := h x (by simp)
    omega
theorem flat_one {α β : Type} (f : α → β) : ∀ xs : List α, xs.flatMap (fun a => [f a]) = xs.map f
  | [] => rfl
  | x :: xs => by rw [List.flatMap_cons, flat_one f xs]; rfl
theorem pairs_len (n : Nat) : (pairs n).length ≤ n * n := by
  have := flat_len (row n) n (List.range n) fun i _ => row_len n i
  simpa [pairs] using this
theorem pairs_big {n : Nat} (h : n ≤ 10) : (pairs n).length ≤ 100 := Nat.le_trans (pairs_len n) (by
  have : n * n ≤ 10 * 10 := Nat.mul_le_mul h h
  omega)
theorem mem_pairs {n : Nat} {p : Gm} : p ∈ pairs n ↔ p.1 < p.2 ∧ p.2 < n := by
  obtain ⟨a, b⟩ := p
  simp only [pairs, row, List.mem_flatMap, List.mem_range, List.mem_map, Prod.mk.injEq]
  constructor
  · rintro ⟨i, hi, k, hk, rfl, rfl⟩
    omega
  · rintro ⟨h1, h2⟩
    exact ⟨a, by omega, b - (a + 1), by omega, rfl, by omega⟩
theorem gm_side {n : Nat} (w : Nat → Nat → Bool) {p : Gm} (h : p ∈ pairs n) : gm (side w p) = p := by
  obtain ⟨h1, h2⟩ := mem_pairs.1 h
  unfold gm side
  split
  · rw [if_neg (by omega)]
  · rfl
theorem round_gm (w : Nat → Nat → Bool) (n : Nat) : (round w n).map gm = pairs n := by
  unfold round
  rw [List.map_map]
  have : (pairs n).map (gm ∘ side w) = (pairs n).map id := List.map_congr_left fun p hp => gm_side w hp
  rw [this, List.map_id]
/-- a script's cell as a rule of who wins -/
noncomputable def fw (c : Int) (n i j : Nat) : Bool := Classical.choose (first_some c i j n)
theorem fw_eq (c : Int) (n i j : Nat) : fd_l_first_wins [.int c, .int i, .int j, .int n] = some (.rt (.bl (fw c n i j))) := Classical.choose_spec (first_some c i j n)
theorem b62_small {n : Nat} (h : n ≤ 1000000000) : b62 (n : Int) = true := by
  simp only [b62, Bool.and_eq_true, decide_eq_true_eq]
  omega
theorem b62_int {i : Int} (h : -1000000000 ≤ i) (h2 : i ≤ 1000000000) : b62 i = true := by
  simp only [b62, Bool.and_eq_true, decide_eq_true_eq]
  omega
theorem nat_sub_toNat (n i : Nat) : ((n : Int) - ((i : Int) + 1)).toNat = n - (i + 1) := by omega
theorem round_by (c : Int) (n : Nat) (hn : n ≤ 10) : fd_l_round_by [.int c, .int n] = some (.rt (.lst true (encs (round (fw c n) n)))) := by
  have hb : b62 (n : Int) = true := b62_small (by omega)
  have hp := pairs_big hn
  unfold fd_l_round_by dn_l_round_by
  simp only [kb_ok, kb_ex, kb_no, ret_k, lif_s, lif_n, dView_k, vView_k, dFlat_k, vFlat_int, vFlat_bl, vFlat_str, vFlat_non, dVar_k, kVar_k, dPk_k, kPk_k, dMv_k, kMv_k, dFrz_k, kFrz_k, dBin_k, vBin1_k, vBin2_k, dTest_k, vTest_k, dChain_k, vCh1_k, vCh2_k, vCh3_t, vCh3_f, dNot_k, vNot_k, dAnd_k, vAnd_t, vAnd_f, dOr_k, vOr_t, vOr_f, dAndV_k, vAndV_t, vAndV_f, dOrV_k, vOrV_t, vOrV_f, dNotV_k, vNotV_k, dIf_k, vIf_t, vIf_f, dCons_k, vCons1_k, vCons2_k, dTup_k, vTup_k, dLst_k, vLst_k, dCall_k, vCall_k, kc_rt, kc_ex, dItL_k, vItL_lst, vItL_sc, dItT_k, vItT_k, dRng1_k, vRng1_k, dRng2_k, vRng2_k, dCB_k, vCB_k, dIsi_k, vIsi_k, dListE_k, vListE_k, dListS_k, kLS_lst, dLRng1_k, vLRng1_k, dNeg_k, vNeg_k, dIxS_k, kIxS_k, vIxS_k, kIx2_lst, kIx2_tup, kIx2_sc, kIx3_k, dNx_k, dSeq_k, ks_nx, ks_rt, ks_bk, ks_ct, ks_ex, dDrop_k, kDrop_ok, kDrop_ex, dRet_k, kRet_ok, kRet_ex, dIfS_k, kIfS_t, kIfS_f, kIfS_ex, dSet_k, kSet_ok, kSet_ex, dAsg_k, kAsg_ok, kAsg_ex, kh_k, dAppend_k, kAp_k, kAp1_ok, kAp1_ex, kAp2_k, dAug_k, kAug_k, kAug1_ok, dSetItem_k, kSI_ok, kSI_ex, kSI1_k, kSI2_ok, kSI3_k, kSI4_k, dAugItem_k, kAI_k, kAI1_ok, kAI2_k, kAI3_k, kAI4_ok, kAI5_k, kAI6_k, dFor_k, kFor_ok, dComp_k, vComp_k, kCo_k, comp_nil, comp_cons, kc1_k, kc2_t, kc2_f, kc3_k, run_k, kRun_nx, kRun_rt, kRun_ex, hName_k, hNil_k, hCons_k, kH_k, hTup_k, gLt_int, gGt_int, gLe_int, gGe_int, gAdd_int, gMinus_int, gMul_int, gMod_int, gDiv_int, gIx_lst, gIx_tup, gIx_sc, gLen_lst, gLen_tup, gLen_sc, gAll_lst, gAny_lst, gSum_lst, isi_int_int, isi_int_bl, isi_bool_int, isi_bool_bl, isi_list_lst, isi_tuple_tup, isi_str_str, un_int, un_bl, un_str, un_non, un_sc, un_lst, un_tup, uns_nil, uns_cons, pl_int, pl_bl, pl_str, pl_non, pl_sc, pl_lst, pl_tup, pls_nil, pls_cons, ow_int, ow_bl, ow_str, ow_non, ow_lst, ow_tup, ows_nil, ows_cons, wipe_nil, wipe_cons, ints_nil, ints_cons, gBest_lst, gBest_tup, kBest_k, dKeep_k, vKeep_k, dCat_k, vCat1_k, vCat2_k, catD_k, dSorted_k, vSorted_k, sortD_k, dClear_k, kClr_k, dInsert_k, kIn_k, kIn1_ok, kIn2_ok, kIn3_k, tg_int, tg_bl, tg_str, tg_non, tg_tup, tgs_nil, tgs_cons, dRevT_k, vRevT_k, revTD_k, dRevL_k, vRevL_k, revLD_k, dTupOf_k, vTupOf_k, tupD_k, dCatM_k, vCatM1_k, vCatM2_k, catM_k, dTryB_k, kTry_nx, kTry_rt, kTry_ex, kTry2_k, isi_tuple_non, isi_tuple_lst, isi_int_lst, isi_int_str, isi_int_non, bls_nil, bls_cons, bnd_k, bigL0, bigL1, bigL2, bigL3, bigP0, bigP1, List.length_cons, List.length_nil, List.replicate, List.map_cons, List.map_nil, List.cons_append, List.nil_append, List.append_nil, List.getElem?_cons_zero, List.getElem?_cons_succ, List.set_cons_zero, List.set_cons_succ, Option.map_some, Option.map_none, Bool.not_true, Bool.not_false, if_true, Bool.false_eq_true, if_false, Nat.reduceAdd, Nat.reduceSub, Nat.reduceEqDiff, Bool.and_true, Bool.true_and, Bool.and_self, ite_true, ite_false, Nat.reduceLeDiff, reduceIte, reduceCtorEq, eq_self, decide_true, decide_false, not_true_eq_false, not_false_eq_true, Bool.false_and, Bool.and_false, Bool.or_false, Bool.false_or, Bool.true_or, Bool.or_true, hb, Int.toNat_natCast, rngD0]
  generalize hL : loop _ _ _ _ = r
  obtain ⟨ρ', rfl, a, b, rfl⟩ := loop_app_of hL (fun k : Nat => D.int k) (fun i => (row n i).map (side (fw c n))) 100 (fun s ρ => ∃ a b, ρ = [some (.int c), some (.int n), some (.lst true (encs s)), a, b]) (List.range n) [] rfl
    (by simp only [pairs] at hp; simpa [List.flatMap_map] using hp) ⟨none, none, rfl⟩ (by
      rintro i hi s ρ hl ⟨a, b, rfl⟩
      have hi' : i < n := by simpa using hi
      have hb2 : b62 ((i : Int) + 1) = true := b62_int (by omega) (by omega)
      refine ⟨_, rfl, fun r hr => ?_⟩
      simp only [kb_ok, kb_ex, kb_no, ret_k, lif_s, lif_n, dView_k, vView_k, dFlat_k, vFlat_int, vFlat_bl, vFlat_str, vFlat_non, dVar_k, kVar_k, dPk_k, kPk_k, dMv_k, kMv_k, dFrz_k, kFrz_k, dBin_k, vBin1_k, vBin2_k, dTest_k, vTest_k, dChain_k, vCh1_k, vCh2_k, vCh3_t, vCh3_f, dNot_k, vNot_k, dAnd_k, vAnd_t, vAnd_f, dOr_k, vOr_t, vOr_f, dAndV_k, vAndV_t, vAndV_f, dOrV_k, vOrV_t, vOrV_f, dNotV_k, vNotV_k, dIf_k, vIf_t, vIf_f, dCons_k, vCons1_k, vCons2_k, dTup_k, vTup_k, dLst_k, vLst_k, dCall_k, vCall_k, kc_rt, kc_ex, dItL_k, vItL_lst, vItL_sc, dItT_k, vItT_k, dRng1_k, vRng1_k, dRng2_k, vRng2_k, dCB_k, vCB_k, dIsi_k, vIsi_k, dListE_k, vListE_k, dListS_k, kLS_lst, dLRng1_k, vLRng1_k, dNeg_k, vNeg_k, dIxS_k, kIxS_k, vIxS_k, kIx2_lst, kIx2_tup, kIx2_sc, kIx3_k, dNx_k, dSeq_k, ks_nx, ks_rt, ks_bk, ks_ct, ks_ex, dDrop_k, kDrop_ok, kDrop_ex, dRet_k, kRet_ok, kRet_ex, dIfS_k, kIfS_t, kIfS_f, kIfS_ex, dSet_k, kSet_ok, kSet_ex, dAsg_k, kAsg_ok, kAsg_ex, kh_k, dAppend_k, kAp_k, kAp1_ok, kAp1_ex, kAp2_k, dAug_k, kAug_k, kAug1_ok, dSetItem_k, kSI_ok, kSI_ex, kSI1_k, kSI2_ok, kSI3_k, kSI4_k, dAugItem_k, kAI_k, kAI1_ok, kAI2_k, kAI3_k, kAI4_ok, kAI5_k, kAI6_k, dFor_k, kFor_ok, dComp_k, vComp_k, kCo_k, comp_nil, comp_cons, kc1_k, kc2_t, kc2_f, kc3_k, run_k, kRun_nx, kRun_rt, kRun_ex, hName_k, hNil_k, hCons_k, kH_k, hTup_k, gLt_int, gGt_int, gLe_int, gGe_int, gAdd_int, gMinus_int, gMul_int, gMod_int, gDiv_int, gIx_lst, gIx_tup, gIx_sc, gLen_lst, gLen_tup, gLen_sc, gAll_lst, gAny_lst, gSum_lst, isi_int_int, isi_int_bl, isi_bool_int, isi_bool_bl, isi_list_lst, isi_tuple_tup, isi_str_str, un_int, un_bl, un_str, un_non, un_sc, un_lst, un_tup, uns_nil, uns_cons, pl_int, pl_bl, pl_str, pl_non, pl_sc, pl_lst, pl_tup, pls_nil, pls_cons, ow_int, ow_bl, ow_str, ow_non, ow_lst, ow_tup, ows_nil, ows_cons, wipe_nil, wipe_cons, ints_nil, ints_cons, gBest_lst, gBest_tup, kBest_k, dKeep_k, vKeep_k, dCat_k, vCat1_k, vCat2_k, catD_k, dSorted_k, vSorted_k, sortD_k, dClear_k, kClr_k, dInsert_k, kIn_k, kIn1_ok, kIn2_ok, kIn3_k, tg_int, tg_bl, tg_str, tg_non, tg_tup, tgs_nil, tgs_cons, dRevT_k, vRevT_k, revTD_k, dRevL_k, vRevL_k, revLD_k, dTupOf_k, vTupOf_k, tupD_k, dCatM_k, vCatM1_k, vCatM2_k, catM_k, dTryB_k, kTry_nx, kTry_rt, kTry_ex, kTry2_k, isi_tuple_non, isi_tuple_lst, isi_int_lst, isi_int_str, isi_int_non, bls_nil, bls_cons, bnd_k, bigL0, bigL1, bigL2, bigL3, bigP0, bigP1, List.length_cons, List.length_nil, List.replicate, List.map_cons, List.map_nil, List.cons_append, List.nil_append, List.append_nil, List.getElem?_cons_zero, List.getElem?_cons_succ, List.set_cons_zero, List.set_cons_succ, Option.map_some, Option.map_none, Bool.not_true, Bool.not_false, if_true, Bool.false_eq_true, if_false, Nat.reduceAdd, Nat.reduceSub, Nat.reduceEqDiff, Bool.and_true, Bool.true_and, Bool.and_self, ite_true, ite_false, Nat.reduceLeDiff, reduceIte, reduceCtorEq, eq_self, decide_true, decide_false, not_true_eq_false, not_false_eq_true, Bool.false_and, Bool.and_false, Bool.or_false, Bool.false_or, Bool.true_or, Bool.or_true, hb, hb2, nat_sub_toNat, rngDN] at hr
      obtain ⟨ρ', rfl, b, rfl⟩ := loop_app_of hr (fun k : Nat => D.int k) (fun j => [side (fw c n) (i, j)]) 100 (fun s ρ => ∃ b, ρ = [some (.int c), some (.int n), some (.lst true (encs s)), some (.int i), b]) ((List.range (n - (i + 1))).map (fun k => i + 1 + k)) s rfl
        (by rw [flat_one, List.length_map, List.length_map]; simpa [row] using hl) ⟨b, rfl⟩ (by
          rintro j hj s ρ hl ⟨b, rfl⟩
          have hz : s.length < big := by
            simp at hl
            rw [big_val]; omega
          refine ⟨_, rfl, fun r hr => ?_⟩
          cases hw : fw c n i j <;> simp only [kb_ok, kb_ex, kb_no, ret_k, lif_s, lif_n, dView_k, vView_k, dFlat_k, vFlat_int, vFlat_bl, vFlat_str, vFlat_non, dVar_k, kVar_k, dPk_k, kPk_k, dMv_k, kMv_k, dFrz_k, kFrz_k, dBin_k, vBin1_k, vBin2_k, dTest_k, vTest_k, dChain_k, vCh1_k, vCh2_k, vCh3_t, vCh3_f, dNot_k, vNot_k, dAnd_k, vAnd_t, vAnd_f, dOr_k, vOr_t, vOr_f, dAndV_k, vAndV_t, vAndV_f, dOrV_k, vOrV_t, vOrV_f, dNotV_k, vNotV_k, dIf_k, vIf_t, vIf_f, dCons_k, vCons1_k, vCons2_k, dTup_k, vTup_k, dLst_k, vLst_k, dCall_k, vCall_k, kc_rt, kc_ex, dItL_k, vItL_lst, vItL_sc, dItT_k, vItT_k, dRng1_k, vRng1_k, dRng2_k, vRng2_k, dCB_k, vCB_k, dIsi_k, vIsi_k, dListE_k, vListE_k, dListS_k, kLS_lst, dLRng1_k, vLRng1_k, dNeg_k, vNeg_k, dIxS_k, kIxS_k, vIxS_k, kIx2_lst, kIx2_tup, kIx2_sc, kIx3_k, dNx_k, dSeq_k, ks_nx, ks_rt, ks_bk, ks_ct, ks_ex, dDrop_k, kDrop_ok, kDrop_ex, dRet_k, kRet_ok, kRet_ex, dIfS_k, kIfS_t, kIfS_f, kIfS_ex, dSet_k, kSet_ok, kSet_ex, dAsg_k, kAsg_ok, kAsg_ex, kh_k, dAppend_k, kAp_k, kAp1_ok, kAp1_ex, kAp2_k, dAug_k, kAug_k, kAug1_ok, dSetItem_k, kSI_ok, kSI_ex, kSI1_k, kSI2_ok, kSI3_k, kSI4_k, dAugItem_k, kAI_k, kAI1_ok, kAI2_k, kAI3_k, kAI4_ok, kAI5_k, kAI6_k, dFor_k, kFor_ok, dComp_k, vComp_k, kCo_k, comp_nil, comp_cons, kc1_k, kc2_t, kc2_f, kc3_k, run_k, kRun_nx, kRun_rt, kRun_ex, hName_k, hNil_k, hCons_k, kH_k, hTup_k, gLt_int, gGt_int, gLe_int, gGe_int, gAdd_int, gMinus_int, gMul_int, gMod_int, gDiv_int, gIx_lst, gIx_tup, gIx_sc, gLen_lst, gLen_tup, gLen_sc, gAll_lst, gAny_lst, gSum_lst, isi_int_int, isi_int_bl, isi_bool_int, isi_bool_bl, isi_list_lst, isi_tuple_tup, isi_str_str, un_int, un_bl, un_str, un_non, un_sc, un_lst, un_tup, uns_nil, uns_cons, pl_int, pl_bl, pl_str, pl_non, pl_sc, pl_lst, pl_tup, pls_nil, pls_cons, ow_int, ow_bl, ow_str, ow_non, ow_lst, ow_tup, ows_nil, ows_cons, wipe_nil, wipe_cons, ints_nil, ints_cons, gBest_lst, gBest_tup, kBest_k, dKeep_k, vKeep_k, dCat_k, vCat1_k, vCat2_k, catD_k, dSorted_k, vSorted_k, sortD_k, dClear_k, kClr_k, dInsert_k, kIn_k, kIn1_ok, kIn2_ok, kIn3_k, tg_int, tg_bl, tg_str, tg_non, tg_tup, tgs_nil, tgs_cons, dRevT_k, vRevT_k, revTD_k, dRevL_k, vRevL_k, revLD_k, dTupOf_k, vTupOf_k, tupD_k, dCatM_k, vCatM1_k, vCatM2_k, catM_k, dTryB_k, kTry_nx, kTry_rt, kTry_ex, kTry2_k, isi_tuple_non, isi_tuple_lst, isi_int_lst, isi_int_str, isi_int_non, bls_nil, bls_cons, bnd_k, bigL0, bigL1, bigL2, bigL3, bigP0, bigP1, List.length_cons, List.length_nil, List.replicate, List.map_cons, List.map_nil, List.cons_append, List.nil_append, List.append_nil, List.getElem?_cons_zero, List.getElem?_cons_succ, List.set_cons_zero, List.set_cons_succ, Option.map_some, Option.map_none, Bool.not_true, Bool.not_false, if_true, Bool.false_eq_true, if_false, Nat.reduceAdd, Nat.reduceSub, Nat.reduceEqDiff, Bool.and_true, Bool.true_and, Bool.and_self, ite_true, ite_false, Nat.reduceLeDiff, reduceIte, reduceCtorEq, eq_self, decide_true, decide_false, not_true_eq_false, not_false_eq_true, Bool.false_and, Bool.and_false, Bool.or_false, Bool.false_or, Bool.true_or, Bool.or_true, fw_eq, hw, encs_len, hz] at hr <;> exact ⟨_, .inl hr.symm, some (.int j), by simp [side, hw, encs, enc]⟩)
      refine ⟨_, .inl rfl, some (.int i), b, ?_⟩
      rw [flat_one, List.map_map, row, List.map_map]
      rfl)
  simp only [kb_ok, kb_ex, kb_no, ret_k, lif_s, lif_n, dView_k, vView_k, dFlat_k, vFlat_int, vFlat_bl, vFlat_str, vFlat_non, dVar_k, kVar_k, dPk_k, kPk_k, dMv_k, kMv_k, dFrz_k, kFrz_k, dBin_k, vBin1_k, vBin2_k, dTest_k, vTest_k, dChain_k, vCh1_k, vCh2_k, vCh3_t, vCh3_f, dNot_k, vNot_k, dAnd_k, vAnd_t, vAnd_f, dOr_k, vOr_t, vOr_f, dAndV_k, vAndV_t, vAndV_f, dOrV_k, vOrV_t, vOrV_f, dNotV_k, vNotV_k, dIf_k, vIf_t, vIf_f, dCons_k, vCons1_k, vCons2_k, dTup_k, vTup_k, dLst_k, vLst_k, dCall_k, vCall_k, kc_rt, kc_ex, dItL_k, vItL_lst, vItL_sc, dItT_k, vItT_k, dRng1_k, vRng1_k, dRng2_k, vRng2_k, dCB_k, vCB_k, dIsi_k, vIsi_k, dListE_k, vListE_k, dListS_k, kLS_lst, dLRng1_k, vLRng1_k, dNeg_k, vNeg_k, dIxS_k, kIxS_k, vIxS_k, kIx2_lst, kIx2_tup, kIx2_sc, kIx3_k, dNx_k, dSeq_k, ks_nx, ks_rt, ks_bk, ks_ct, ks_ex, dDrop_k, kDrop_ok, kDrop_ex, dRet_k, kRet_ok, kRet_ex, dIfS_k, kIfS_t, kIfS_f, kIfS_ex, dSet_k, kSet_ok, kSet_ex, dAsg_k, kAsg_ok, kAsg_ex, kh_k, dAppend_k, kAp_k, kAp1_ok, kAp1_ex, kAp2_k, dAug_k, kAug_k, kAug1_ok, dSetItem_k, kSI_ok, kSI_ex, kSI1_k, kSI2_ok, kSI3_k, kSI4_k, dAugItem_k, kAI_k, kAI1_ok, kAI2_k, kAI3_k, kAI4_ok, kAI5_k, kAI6_k, dFor_k, kFor_ok, dComp_k, vComp_k, kCo_k, comp_nil, comp_cons, kc1_k, kc2_t, kc2_f, kc3_k, run_k, kRun_nx, kRun_rt, kRun_ex, hName_k, hNil_k, hCons_k, kH_k, hTup_k, gLt_int, gGt_int, gLe_int, gGe_int, gAdd_int, gMinus_int, gMul_int, gMod_int, gDiv_int, gIx_lst, gIx_tup, gIx_sc, gLen_lst, gLen_tup, gLen_sc, gAll_lst, gAny_lst, gSum_lst, isi_int_int, isi_int_bl, isi_bool_int, isi_bool_bl, isi_list_lst, isi_tuple_tup, isi_str_str, un_int, un_bl, un_str, un_non, un_sc, un_lst, un_tup, uns_nil, uns_cons, pl_int, pl_bl, pl_str, pl_non, pl_sc, pl_lst, pl_tup, pls_nil, pls_cons, ow_int, ow_bl, ow_str, ow_non, ow_lst, ow_tup, ows_nil, ows_cons, wipe_nil, wipe_cons, ints_nil, ints_cons, gBest_lst, gBest_tup, kBest_k, dKeep_k, vKeep_k, dCat_k, vCat1_k, vCat2_k, catD_k, dSorted_k, vSorted_k, sortD_k, dClear_k, kClr_k, dInsert_k, kIn_k, kIn1_ok, kIn2_ok, kIn3_k, tg_int, tg_bl, tg_str, tg_non, tg_tup, tgs_nil, tgs_cons, dRevT_k, vRevT_k, revTD_k, dRevL_k, vRevL_k, revLD_k, dTupOf_k, vTupOf_k, tupD_k, dCatM_k, vCatM1_k, vCatM2_k, catM_k, dTryB_k, kTry_nx, kTry_rt, kTry_ex, kTry2_k, isi_tuple_non, isi_tuple_lst, isi_int_lst, isi_int_str, isi_int_non, bls_nil, bls_cons, bnd_k, bigL0, bigL1, bigL2, bigL3, bigP0, bigP1, List.length_cons, List.length_nil, List.replicate, List.map_cons, List.map_nil, List.cons_append, List.nil_append, List.append_nil, List.getElem?_cons_zero, List.getElem?_cons_succ, List.set_cons_zero, List.set_cons_succ, Option.map_some, Option.map_none, Bool.not_true, Bool.not_false, if_true, Bool.false_eq_true, if_false, Nat.reduceAdd, Nat.reduceSub, Nat.reduceEqDiff, Bool.and_true, Bool.true_and, Bool.and_self, ite_true, ite_false, Nat.reduceLeDiff, reduceIte, reduceCtorEq, eq_self, decide_true, decide_false, not_true_eq_false, not_false_eq_true, Bool.false_and, Bool.and_false, Bool.or_false, Bool.false_or, Bool.true_or, Bool.or_true, round, pairs, List.map_flatMap]
end Sh

set_option Elab.async false
set_option linter.all false
set_option maxRecDepth 100000
/-! The plain laws, part D: begun rounds; what the program's small defs answer. -/
namespace Sh
open L2 Ly
theorem ofSel {α : Type} (p : Nat → Bool) (g : Nat → α) : ∀ (n : Nat), List.Sublist (((List.range n).filter p).map g) ((List.range n).map g) := fun n => (List.filter_sublist (p := p)).map g
theorem range_map_get {α : Type} (xs : List α) (d : α) : (List.range xs.length).map (fun k => xs.getD k d) = xs := by
  apply List.ext_getElem
  · simp
  · intro i h1 h2
    simp [List.getD, List.getElem?_eq_getElem h2]
theorem begun_by (gs : List Gm) (o : Bool) (c : Int) (hl : gs.length ≤ 100000) : ∃ hs : List Gm, hs.Sublist gs ∧ fd_l_begun_by [.lst o (encs gs), .int c] = some (.rt (.lst true (encs hs))) := by
  have hb : b62 (gs.length : Int) = true := b62_small (by omega)
  have p4 : (0 : Int) < 4 := by decide
  refine ⟨((List.range gs.length).filter fun k : Nat => decide (mix c k % 4 < 1 + c % 4 - 1)).map fun k => gs.getD k (0, 0), ?_, ?_⟩
  · have := ofSel (fun k : Nat => decide (mix c k % 4 < 1 + c % 4 - 1)) (fun k => gs.getD k (0, 0)) gs.length
    rw [range_map_get] at this
    exact this
  · unfold fd_l_begun_by dn_l_begun_by
    simp only [kb_ok, kb_ex, kb_no, ret_k, lif_s, lif_n, dView_k, vView_k, dFlat_k, vFlat_int, vFlat_bl, vFlat_str, vFlat_non, dVar_k, kVar_k, dPk_k, kPk_k, dMv_k, kMv_k, dFrz_k, kFrz_k, dBin_k, vBin1_k, vBin2_k, dTest_k, vTest_k, dChain_k, vCh1_k, vCh2_k, vCh3_t, vCh3_f, dNot_k, vNot_k, dAnd_k, vAnd_t, vAnd_f, dOr_k, vOr_t, vOr_f, dAndV_k, vAndV_t, vAndV_f, dOrV_k, vOrV_t, vOrV_f, dNotV_k, vNotV_k, dIf_k, vIf_t, vIf_f, dCons_k, vCons1_k, vCons2_k, dTup_k, vTup_k, dLst_k, vLst_k, dCall_k, vCall_k, kc_rt, kc_ex, dItL_k, vItL_lst, vItL_sc, dItT_k, vItT_k, dRng1_k, vRng1_k, dRng2_k, vRng2_k, dCB_k, vCB_k, dIsi_k, vIsi_k, dListE_k, vListE_k, dListS_k, kLS_lst, dLRng1_k, vLRng1_k, dNeg_k, vNeg_k, dIxS_k, kIxS_k, vIxS_k, kIx2_lst, kIx2_tup, kIx2_sc, kIx3_k, dNx_k, dSeq_k, ks_nx, ks_rt, ks_bk, ks_ct, ks_ex, dDrop_k, kDrop_ok, kDrop_ex, dRet_k, kRet_ok, kRet_ex, dIfS_k, kIfS_t, kIfS_f, kIfS_ex, dSet_k, kSet_ok, kSet_ex, dAsg_k, kAsg_ok, kAsg_ex, kh_k, dAppend_k, kAp_k, kAp1_ok, kAp1_ex, kAp2_k, dAug_k, kAug_k, kAug1_ok, dSetItem_k, kSI_ok, kSI_ex, kSI1_k, kSI2_ok, kSI3_k, kSI4_k, dAugItem_k, kAI_k, kAI1_ok, kAI2_k, kAI3_k, kAI4_ok, kAI5_k, kAI6_k, dFor_k, kFor_ok, dComp_k, vComp_k, kCo_k, comp_nil, comp_cons, kc1_k, kc2_t, kc2_f, kc3_k, run_k, kRun_nx, kRun_rt, kRun_ex, hName_k, hNil_k, hCons_k, kH_k, hTup_k, gLt_int, gGt_int, gLe_int, gGe_int, gAdd_int, gMinus_int, gMul_int, gMod_int, gDiv_int, gIx_lst, gIx_tup, gIx_sc, gLen_lst, gLen_tup, gLen_sc, gAll_lst, gAny_lst, gSum_lst, isi_int_int, isi_int_bl, isi_bool_int, isi_bool_bl, isi_list_lst, isi_tuple_tup, isi_str_str, un_int, un_bl, un_str, un_non, un_sc, un_lst, un_tup, uns_nil, uns_cons, pl_int, pl_bl, pl_str, pl_non, pl_sc, pl_lst, pl_tup, pls_nil, pls_cons, ow_int, ow_bl, ow_str, ow_non, ow_lst, ow_tup, ows_nil, ows_cons, wipe_nil, wipe_cons, ints_nil, ints_cons, gBest_lst, gBest_tup, kBest_k, dKeep_k, vKeep_k, dCat_k, vCat1_k, vCat2_k, catD_k, dSorted_k, vSorted_k, sortD_k, dClear_k, kClr_k, dInsert_k, kIn_k, kIn1_ok, kIn2_ok, kIn3_k, tg_int, tg_bl, tg_str, tg_non, tg_tup, tgs_nil, tgs_cons, dRevT_k, vRevT_k, revTD_k, dRevL_k, vRevL_k, revLD_k, dTupOf_k, vTupOf_k, tupD_k, dCatM_k, vCatM1_k, vCatM2_k, catM_k, dTryB_k, kTry_nx, kTry_rt, kTry_ex, kTry2_k, isi_tuple_non, isi_tuple_lst, isi_int_lst, isi_int_str, isi_int_non, bls_nil, bls_cons, bnd_k, bigL0, bigL1, bigL2, bigL3, bigP0, bigP1, List.length_cons, List.length_nil, List.replicate, List.map_cons, List.map_nil, List.cons_append, List.nil_append, List.append_nil, List.getElem?_cons_zero, List.getElem?_cons_succ, List.set_cons_zero, List.set_cons_succ, Option.map_some, Option.map_none, Bool.not_true, Bool.not_false, if_true, Bool.false_eq_true, if_false, Nat.reduceAdd, Nat.reduceSub, Nat.reduceEqDiff, Bool.and_true, Bool.true_and, Bool.and_self, ite_true, ite_false, Nat.reduceLeDiff, reduceIte, reduceCtorEq, eq_self, decide_true, decide_false, not_true_eq_false, not_false_eq_true, Bool.false_and, Bool.and_false, Bool.or_false, Bool.false_or, Bool.true_or, Bool.or_true, hb, encs_un, encs_len, p4, Int.toNat_natCast, rngD0]
    generalize hC : comp _ _ _ _ _ _ _ = r
    have := comp_gen_of hC (fun k : Nat => D.int k) (fun k : Nat => decide (mix c k % 4 < 1 + c % 4 - 1)) (fun k => enc (gs.getD k (0, 0))) (List.range gs.length) rfl rfl (by rw [List.length_range, big_val]; omega) (by
      intro k hk
      have hk' : k < gs.length := by simpa using hk
      refine ⟨_, rfl, fun r hr => ?_⟩
      simp only [kb_ok, kb_ex, kb_no, ret_k, lif_s, lif_n, dView_k, vView_k, dFlat_k, vFlat_int, vFlat_bl, vFlat_str, vFlat_non, dVar_k, kVar_k, dPk_k, kPk_k, dMv_k, kMv_k, dFrz_k, kFrz_k, dBin_k, vBin1_k, vBin2_k, dTest_k, vTest_k, dChain_k, vCh1_k, vCh2_k, vCh3_t, vCh3_f, dNot_k, vNot_k, dAnd_k, vAnd_t, vAnd_f, dOr_k, vOr_t, vOr_f, dAndV_k, vAndV_t, vAndV_f, dOrV_k, vOrV_t, vOrV_f, dNotV_k, vNotV_k, dIf_k, vIf_t, vIf_f, dCons_k, vCons1_k, vCons2_k, dTup_k, vTup_k, dLst_k, vLst_k, dCall_k, vCall_k, kc_rt, kc_ex, dItL_k, vItL_lst, vItL_sc, dItT_k, vItT_k, dRng1_k, vRng1_k, dRng2_k, vRng2_k, dCB_k, vCB_k, dIsi_k, vIsi_k, dListE_k, vListE_k, dListS_k, kLS_lst, dLRng1_k, vLRng1_k, dNeg_k, vNeg_k, dIxS_k, kIxS_k, vIxS_k, kIx2_lst, kIx2_tup, kIx2_sc, kIx3_k, dNx_k, dSeq_k, ks_nx, ks_rt, ks_bk, ks_ct, ks_ex, dDrop_k, kDrop_ok, kDrop_ex, dRet_k, kRet_ok, kRet_ex, dIfS_k, kIfS_t, kIfS_f, kIfS_ex, dSet_k, kSet_ok, kSet_ex, dAsg_k, kAsg_ok, kAsg_ex, kh_k, dAppend_k, kAp_k, kAp1_ok, kAp1_ex, kAp2_k, dAug_k, kAug_k, kAug1_ok, dSetItem_k, kSI_ok, kSI_ex, kSI1_k, kSI2_ok, kSI3_k, kSI4_k, dAugItem_k, kAI_k, kAI1_ok, kAI2_k, kAI3_k, kAI4_ok, kAI5_k, kAI6_k, dFor_k, kFor_ok, dComp_k, vComp_k, kCo_k, comp_nil, comp_cons, kc1_k, kc2_t, kc2_f, kc3_k, run_k, kRun_nx, kRun_rt, kRun_ex, hName_k, hNil_k, hCons_k, kH_k, hTup_k, gLt_int, gGt_int, gLe_int, gGe_int, gAdd_int, gMinus_int, gMul_int, gMod_int, gDiv_int, gIx_lst, gIx_tup, gIx_sc, gLen_lst, gLen_tup, gLen_sc, gAll_lst, gAny_lst, gSum_lst, isi_int_int, isi_int_bl, isi_bool_int, isi_bool_bl, isi_list_lst, isi_tuple_tup, isi_str_str, un_int, un_bl, un_str, un_non, un_sc, un_lst, un_tup, uns_nil, uns_cons, pl_int, pl_bl, pl_str, pl_non, pl_sc, pl_lst, pl_tup, pls_nil, pls_cons, ow_int, ow_bl, ow_str, ow_non, ow_lst, ow_tup, ows_nil, ows_cons, wipe_nil, wipe_cons, ints_nil, ints_cons, gBest_lst, gBest_tup, kBest_k, dKeep_k, vKeep_k, dCat_k, vCat1_k, vCat2_k, catD_k, dSorted_k, vSorted_k, sortD_k, dClear_k, kClr_k, dInsert_k, kIn_k, kIn1_ok, kIn2_ok, kIn3_k, tg_int, tg_bl, tg_str, tg_non, tg_tup, tgs_nil, tgs_cons, dRevT_k, vRevT_k, revTD_k, dRevL_k, vRevL_k, revLD_k, dTupOf_k, vTupOf_k, tupD_k, dCatM_k, vCatM1_k, vCatM2_k, catM_k, dTryB_k, kTry_nx, kTry_rt, kTry_ex, kTry2_k, isi_tuple_non, isi_tuple_lst, isi_int_lst, isi_int_str, isi_int_non, bls_nil, bls_cons, bnd_k, bigL0, bigL1, bigL2, bigL3, bigP0, bigP1, List.length_cons, List.length_nil, List.replicate, List.map_cons, List.map_nil, List.cons_append, List.nil_append, List.append_nil, List.getElem?_cons_zero, List.getElem?_cons_succ, List.set_cons_zero, List.set_cons_succ, Option.map_some, Option.map_none, Bool.not_true, Bool.not_false, if_true, Bool.false_eq_true, if_false, Nat.reduceAdd, Nat.reduceSub, Nat.reduceEqDiff, Bool.and_true, Bool.true_and, Bool.and_self, ite_true, ite_false, Nat.reduceLeDiff, reduceIte, reduceCtorEq, eq_self, decide_true, decide_false, not_true_eq_false, not_false_eq_true, Bool.false_and, Bool.and_false, Bool.or_false, Bool.false_or, Bool.true_or, Bool.or_true, mixed_eq, p4] at hr
      refine ⟨_, hr.symm, rfl, fun _ r hr => ?_⟩
      simp only [kb_ok, kb_ex, kb_no, ret_k, lif_s, lif_n, dView_k, vView_k, dFlat_k, vFlat_int, vFlat_bl, vFlat_str, vFlat_non, dVar_k, kVar_k, dPk_k, kPk_k, dMv_k, kMv_k, dFrz_k, kFrz_k, dBin_k, vBin1_k, vBin2_k, dTest_k, vTest_k, dChain_k, vCh1_k, vCh2_k, vCh3_t, vCh3_f, dNot_k, vNot_k, dAnd_k, vAnd_t, vAnd_f, dOr_k, vOr_t, vOr_f, dAndV_k, vAndV_t, vAndV_f, dOrV_k, vOrV_t, vOrV_f, dNotV_k, vNotV_k, dIf_k, vIf_t, vIf_f, dCons_k, vCons1_k, vCons2_k, dTup_k, vTup_k, dLst_k, vLst_k, dCall_k, vCall_k, kc_rt, kc_ex, dItL_k, vItL_lst, vItL_sc, dItT_k, vItT_k, dRng1_k, vRng1_k, dRng2_k, vRng2_k, dCB_k, vCB_k, dIsi_k, vIsi_k, dListE_k, vListE_k, dListS_k, kLS_lst, dLRng1_k, vLRng1_k, dNeg_k, vNeg_k, dIxS_k, kIxS_k, vIxS_k, kIx2_lst, kIx2_tup, kIx2_sc, kIx3_k, dNx_k, dSeq_k, ks_nx, ks_rt, ks_bk, ks_ct, ks_ex, dDrop_k, kDrop_ok, kDrop_ex, dRet_k, kRet_ok, kRet_ex, dIfS_k, kIfS_t, kIfS_f, kIfS_ex, dSet_k, kSet_ok, kSet_ex, dAsg_k, kAsg_ok, kAsg_ex, kh_k, dAppend_k, kAp_k, kAp1_ok, kAp1_ex, kAp2_k, dAug_k, kAug_k, kAug1_ok, dSetItem_k, kSI_ok, kSI_ex, kSI1_k, kSI2_ok, kSI3_k, kSI4_k, dAugItem_k, kAI_k, kAI1_ok, kAI2_k, kAI3_k, kAI4_ok, kAI5_k, kAI6_k, dFor_k, kFor_ok, dComp_k, vComp_k, kCo_k, comp_nil, comp_cons, kc1_k, kc2_t, kc2_f, kc3_k, run_k, kRun_nx, kRun_rt, kRun_ex, hName_k, hNil_k, hCons_k, kH_k, hTup_k, gLt_int, gGt_int, gLe_int, gGe_int, gAdd_int, gMinus_int, gMul_int, gMod_int, gDiv_int, gIx_lst, gIx_tup, gIx_sc, gLen_lst, gLen_tup, gLen_sc, gAll_lst, gAny_lst, gSum_lst, isi_int_int, isi_int_bl, isi_bool_int, isi_bool_bl, isi_list_lst, isi_tuple_tup, isi_str_str, un_int, un_bl, un_str, un_non, un_sc, un_lst, un_tup, uns_nil, uns_cons, pl_int, pl_bl, pl_str, pl_non, pl_sc, pl_lst, pl_tup, pls_nil, pls_cons, ow_int, ow_bl, ow_str, ow_non, ow_lst, ow_tup, ows_nil, ows_cons, wipe_nil, wipe_cons, ints_nil, ints_cons, gBest_lst, gBest_tup, kBest_k, dKeep_k, vKeep_k, dCat_k, vCat1_k, vCat2_k, catD_k, dSorted_k, vSorted_k, sortD_k, dClear_k, kClr_k, dInsert_k, kIn_k, kIn1_ok, kIn2_ok, kIn3_k, tg_int, tg_bl, tg_str, tg_non, tg_tup, tgs_nil, tgs_cons, dRevT_k, vRevT_k, revTD_k, dRevL_k, vRevL_k, revLD_k, dTupOf_k, vTupOf_k, tupD_k, dCatM_k, vCatM1_k, vCatM2_k, catM_k, dTryB_k, kTry_nx, kTry_rt, kTry_ex, kTry2_k, isi_tuple_non, isi_tuple_lst, isi_int_lst, isi_int_str, isi_int_non, bls_nil, bls_cons, bnd_k, bigL0, bigL1, bigL2, bigL3, bigP0, bigP1, List.length_cons, List.length_nil, List.replicate, List.map_cons, List.map_nil, List.cons_append, List.nil_append, List.append_nil, List.getElem?_cons_zero, List.getElem?_cons_succ, List.set_cons_zero, List.set_cons_succ, Option.map_some, Option.map_none, Bool.not_true, Bool.not_false, if_true, Bool.false_eq_true, if_false, Nat.reduceAdd, Nat.reduceSub, Nat.reduceEqDiff, Bool.and_true, Bool.true_and, Bool.and_self, ite_true, ite_false, Nat.reduceLeDiff, reduceIte, reduceCtorEq, eq_self, decide_true, decide_false, not_true_eq_false, not_false_eq_true, Bool.false_and, Bool.and_false, Bool.or_false, Bool.false_or, Bool.true_or, Bool.or_true, atI_nat, encs, List.getElem?_map, List.getElem?_eq_getElem hk', enc_plain] at hr
      have e : gs.getD k (0, 0) = gs[k] := by simp [List.getD, List.getElem?_eq_getElem hk']
      rw [e]
      exact ⟨_, hr.symm, rfl⟩)
    rw [this]
    simp only [kb_ok, kb_ex, kb_no, ret_k, lif_s, lif_n, dView_k, vView_k, dFlat_k, vFlat_int, vFlat_bl, vFlat_str, vFlat_non, dVar_k, kVar_k, dPk_k, kPk_k, dMv_k, kMv_k, dFrz_k, kFrz_k, dBin_k, vBin1_k, vBin2_k, dTest_k, vTest_k, dChain_k, vCh1_k, vCh2_k, vCh3_t, vCh3_f, dNot_k, vNot_k, dAnd_k, vAnd_t, vAnd_f, dOr_k, vOr_t, vOr_f, dAndV_k, vAndV_t, vAndV_f, dOrV_k, vOrV_t, vOrV_f, dNotV_k, vNotV_k, dIf_k, vIf_t, vIf_f, dCons_k, vCons1_k, vCons2_k, dTup_k, vTup_k, dLst_k, vLst_k, dCall_k, vCall_k, kc_rt, kc_ex, dItL_k, vItL_lst, vItL_sc, dItT_k, vItT_k, dRng1_k, vRng1_k, dRng2_k, vRng2_k, dCB_k, vCB_k, dIsi_k, vIsi_k, dListE_k, vListE_k, dListS_k, kLS_lst, dLRng1_k, vLRng1_k, dNeg_k, vNeg_k, dIxS_k, kIxS_k, vIxS_k, kIx2_lst, kIx2_tup, kIx2_sc, kIx3_k, dNx_k, dSeq_k, ks_nx, ks_rt, ks_bk, ks_ct, ks_ex, dDrop_k, kDrop_ok, kDrop_ex, dRet_k, kRet_ok, kRet_ex, dIfS_k, kIfS_t, kIfS_f, kIfS_ex, dSet_k, kSet_ok, kSet_ex, dAsg_k, kAsg_ok, kAsg_ex, kh_k, dAppend_k, kAp_k, kAp1_ok, kAp1_ex, kAp2_k, dAug_k, kAug_k, kAug1_ok, dSetItem_k, kSI_ok, kSI_ex, kSI1_k, kSI2_ok, kSI3_k, kSI4_k, dAugItem_k, kAI_k, kAI1_ok, kAI2_k, kAI3_k, kAI4_ok, kAI5_k, kAI6_k, dFor_k, kFor_ok, dComp_k, vComp_k, kCo_k, comp_nil, comp_cons, kc1_k, kc2_t, kc2_f, kc3_k, run_k, kRun_nx, kRun_rt, kRun_ex, hName_k, hNil_k, hCons_k, kH_k, hTup_k, gLt_int, gGt_int, gLe_int, gGe_int, gAdd_int, gMinus_int, gMul_int, gMod_int, gDiv_int, gIx_lst, gIx_tup, gIx_sc, gLen_lst, gLen_tup, gLen_sc, gAll_lst, gAny_lst, gSum_lst, isi_int_int, isi_int_bl, isi_bool_int, isi_bool_bl, isi_list_lst, isi_tuple_tup, isi_str_str, un_int, un_bl, un_str, un_non, un_sc, un_lst, un_tup, uns_nil, uns_cons, pl_int, pl_bl, pl_str, pl_non, pl_sc, pl_lst, pl_tup, pls_nil, pls_cons, ow_int, ow_bl, ow_str, ow_non, ow_lst, ow_tup, ows_nil, ows_cons, wipe_nil, wipe_cons, ints_nil, ints_cons, gBest_lst, gBest_tup, kBest_k, dKeep_k, vKeep_k, dCat_k, vCat1_k, vCat2_k, catD_k, dSorted_k, vSorted_k, sortD_k, dClear_k, kClr_k, dInsert_k, kIn_k, kIn1_ok, kIn2_ok, kIn3_k, tg_int, tg_bl, tg_str, tg_non, tg_tup, tgs_nil, tgs_cons, dRevT_k, vRevT_k, revTD_k, dRevL_k, vRevL_k, revLD_k, dTupOf_k, vTupOf_k, tupD_k, dCatM_k, vCatM1_k, vCatM2_k, catM_k, dTryB_k, kTry_nx, kTry_rt, kTry_ex, kTry2_k, isi_tuple_non, isi_tuple_lst, isi_int_lst, isi_int_str, isi_int_non, bls_nil, bls_cons, bnd_k, bigL0, bigL1, bigL2, bigL3, bigP0, bigP1, List.length_cons, List.length_nil, List.replicate, List.map_cons, List.map_nil, List.cons_append, List.nil_append, List.append_nil, List.getElem?_cons_zero, List.getElem?_cons_succ, List.set_cons_zero, List.set_cons_succ, Option.map_some, Option.map_none, Bool.not_true, Bool.not_false, if_true, Bool.false_eq_true, if_false, Nat.reduceAdd, Nat.reduceSub, Nat.reduceEqDiff, Bool.and_true, Bool.true_and, Bool.and_self, ite_true, ite_false, Nat.reduceLeDiff, reduceIte, reduceCtorEq, eq_self, decide_true, decide_false, not_true_eq_false, not_false_eq_true, Bool.false_and, Bool.and_false, Bool.or_false, Bool.false_or, Bool.true_or, Bool.or_true]
    have e : List.map (fun k => enc (gs.getD k (0, 0))) (List.filter (fun k : Nat => decide (mix c k % 4 < 1 + c % 4 - 1)) (List.range gs.length)) = encs (((List.range gs.length).filter fun k : Nat => decide (mix c k % 4 < 1 + c % 4 - 1)).map fun k => gs.getD k (0, 0)) := by
      simp [encs, List.map_map, Function.comp_def]
    simp only [e, encs_own, kb_ok, kb_ex, kb_no, ret_k, lif_s, lif_n, dView_k, vView_k, dFlat_k, vFlat_int, vFlat_bl, vFlat_str, vFlat_non, dVar_k, kVar_k, dPk_k, kPk_k, dMv_k, kMv_k, dFrz_k, kFrz_k, dBin_k, vBin1_k, vBin2_k, dTest_k, vTest_k, dChain_k, vCh1_k, vCh2_k, vCh3_t, vCh3_f, dNot_k, vNot_k, dAnd_k, vAnd_t, vAnd_f, dOr_k, vOr_t, vOr_f, dAndV_k, vAndV_t, vAndV_f, dOrV_k, vOrV_t, vOrV_f, dNotV_k, vNotV_k, dIf_k, vIf_t, vIf_f, dCons_k, vCons1_k, vCons2_k, dTup_k, vTup_k, dLst_k, vLst_k, dCall_k, vCall_k, kc_rt, kc_ex, dItL_k, vItL_lst, vItL_sc, dItT_k, vItT_k, dRng1_k, vRng1_k, dRng2_k, vRng2_k, dCB_k, vCB_k, dIsi_k, vIsi_k, dListE_k, vListE_k, dListS_k, kLS_lst, dLRng1_k, vLRng1_k, dNeg_k, vNeg_k, dIxS_k, kIxS_k, vIxS_k, kIx2_lst, kIx2_tup, kIx2_sc, kIx3_k, dNx_k, dSeq_k, ks_nx, ks_rt, ks_bk, ks_ct, ks_ex, dDrop_k, kDrop_ok, kDrop_ex, dRet_k, kRet_ok, kRet_ex, dIfS_k, kIfS_t, kIfS_f, kIfS_ex, dSet_k, kSet_ok, kSet_ex, dAsg_k, kAsg_ok, kAsg_ex, kh_k, dAppend_k, kAp_k, kAp1_ok, kAp1_ex, kAp2_k, dAug_k, kAug_k, kAug1_ok, dSetItem_k, kSI_ok, kSI_ex, kSI1_k, kSI2_ok, kSI3_k, kSI4_k, dAugItem_k, kAI_k, kAI1_ok, kAI2_k, kAI3_k, kAI4_ok, kAI5_k, kAI6_k, dFor_k, kFor_ok, dComp_k, vComp_k, kCo_k, comp_nil, comp_cons, kc1_k, kc2_t, kc2_f, kc3_k, run_k, kRun_nx, kRun_rt, kRun_ex, hName_k, hNil_k, hCons_k, kH_k, hTup_k, gLt_int, gGt_int, gLe_int, gGe_int, gAdd_int, gMinus_int, gMul_int, gMod_int, gDiv_int, gIx_lst, gIx_tup, gIx_sc, gLen_lst, gLen_tup, gLen_sc, gAll_lst, gAny_lst, gSum_lst, isi_int_int, isi_int_bl, isi_bool_int, isi_bool_bl, isi_list_lst, isi_tuple_tup, isi_str_str, un_int, un_bl, un_str, un_non, un_sc, un_lst, un_tup, uns_nil, uns_cons, pl_int, pl_bl, pl_str, pl_non, pl_sc, pl_lst, pl_tup, pls_nil, pls_cons, ow_int, ow_bl, ow_str, ow_non, ow_lst, ow_tup, ows_nil, ows_cons, wipe_nil, wipe_cons, ints_nil, ints_cons, gBest_lst, gBest_tup, kBest_k, dKeep_k, vKeep_k, dCat_k, vCat1_k, vCat2_k, catD_k, dSorted_k, vSorted_k, sortD_k, dClear_k, kClr_k, dInsert_k, kIn_k, kIn1_ok, kIn2_ok, kIn3_k, tg_int, tg_bl, tg_str, tg_non, tg_tup, tgs_nil, tgs_cons, dRevT_k, vRevT_k, revTD_k, dRevL_k, vRevL_k, revLD_k, dTupOf_k, vTupOf_k, tupD_k, dCatM_k, vCatM1_k, vCatM2_k, catM_k, dTryB_k, kTry_nx, kTry_rt, kTry_ex, kTry2_k, isi_tuple_non, isi_tuple_lst, isi_int_lst, isi_int_str, isi_int_non, bls_nil, bls_cons, bnd_k, bigL0, bigL1, bigL2, bigL3, bigP0, bigP1, List.length_cons, List.length_nil, List.replicate, List.map_cons, List.map_nil, List.cons_append, List.nil_append, List.append_nil, List.getElem?_cons_zero, List.getElem?_cons_succ, List.set_cons_zero, List.set_cons_succ, Option.map_some, Option.map_none, Bool.not_true, Bool.not_false, if_true, Bool.false_eq_true, if_false, Nat.reduceAdd, Nat.reduceSub, Nat.reduceEqDiff, Bool.and_true, Bool.true_and, Bool.and_self, ite_true, ite_false, Nat.reduceLeDiff, reduceIte, reduceCtorEq, eq_self, decide_true, decide_false, not_true_eq_false, not_false_eq_true, Bool.false_and, Bool.and_false, Bool.or_false, Bool.false_or, Bool.true_or, Bool.or_true]
/-! ### wins -/
/-- how many games player i won -/
def wins (gs : List Gm) (i : Nat) : Nat := gs.countP fun p => p.1 == i
def winsL (gs : List Gm) (n : Nat) : List D := (List.range n).map fun i => D.int (wins gs i)
theorem winsL_snoc (gs : List Gm) (p : Gm) (n : Nat) : winsL (gs ++ [p]) n = (winsL gs n).set p.1 (.int (wins gs p.1 + 1)) := by
  apply List.ext_getElem
  · simp [winsL]
  · intro i h1 h2
    simp only [winsL, List.getElem_map, List.getElem_range, List.getElem_set, wins, List.countP_append, List.countP_cons, List.countP_nil]
    by_cases h : p.1 = i
    · subst h
      simp
    · simp [h]
theorem ints_plain {α : Type} (f : α → Int) : ∀ xs : List α, plains (xs.map fun x => D.int (f x)) = true
  | [] => rfl
  | x :: xs => by simp only [List.map, plains, D.plain, Bool.true_and]; exact ints_plain f xs
theorem ints_own {α : Type} (f : α → Int) : ∀ xs : List α, owns (xs.map fun x => D.int (f x)) = true
  | [] => rfl
  | x :: xs => by simp only [List.map, owns, D.own, Bool.true_and]; exact ints_own f xs
theorem ints_un {α : Type} (f : α → Int) : ∀ xs : List α, uns (xs.map fun x => D.int (f x)) = xs.map fun x => D.int (f x)
  | [] => rfl
  | x :: xs => by simp only [List.map, uns, D.un]; exact congrArg _ (ints_un f xs)
theorem ints_fit {α : Type} (f : α → Int) (n : Nat) : ∀ xs : List α, fits n (xs.map fun x => D.int (f x)) = true
  | [] => by cases n <;> rfl
  | x :: xs => by rw [List.map, fits_cons, fit_int, ints_fit f n xs]; rfl
theorem ints_eqv {α : Type} (f g : α → Int) : ∀ xs : List α, eqvs (xs.map fun x => D.int (f x)) (xs.map fun x => D.int (g x)) = decide (∀ x ∈ xs, f x = g x)
  | [] => by simp [eqvs]
  | x :: xs => by rw [List.map, List.map, eqvs_cons, eqv_ii, ints_eqv f g xs]; by_cases h : f x = g x <;> simp [h]
theorem winsL_plain (gs : List Gm) (n : Nat) : plains (winsL gs n) = true := ints_plain _ _
theorem winsL_own (gs : List Gm) (n : Nat) : owns (winsL gs n) = true := ints_own _ _
theorem winsL_un (gs : List Gm) (n : Nat) : uns (winsL gs n) = winsL gs n := ints_un _ _
theorem winsL_fit (gs : List Gm) (n m : Nat) : fits m (winsL gs n) = true := ints_fit _ _ _
theorem winsL_len (gs : List Gm) (n : Nat) : (winsL gs n).length = n := by simp [winsL]
theorem winsL_get (gs : List Gm) {n i : Nat} (h : i < n) : (winsL gs n)[i]? = some (.int (wins gs i)) := by
  simp [winsL, List.getElem?_map, List.getElem?_range h]
theorem winsL_eqv (gs : List Gm) (n : Nat) : eqvs (winsL gs n) (winsL gs n) = true := by
  unfold winsL
  rw [ints_eqv]
  simp
/-- all players at the table -/
def inn (n : Nat) (gs : List Gm) : Prop := ∀ p ∈ gs, p.1 < n ∧ p.2 < n
theorem l_wins_eq (gs : List Gm) (o : Bool) (n : Nat) (hn : n ≤ 10) (h : inn n gs) : fd_l_wins [.lst o (encs gs), .int n] = some (.rt (.lst true (winsL gs n))) := by
  have hb : b62 (n : Int) = true := b62_small (by omega)
  unfold fd_l_wins dn_l_wins
  simp only [kb_ok, kb_ex, kb_no, ret_k, lif_s, lif_n, dView_k, vView_k, dFlat_k, vFlat_int, vFlat_bl, vFlat_str, vFlat_non, dVar_k, kVar_k, dPk_k, kPk_k, dMv_k, kMv_k, dFrz_k, kFrz_k, dBin_k, vBin1_k, vBin2_k, dTest_k, vTest_k, dChain_k, vCh1_k, vCh2_k, vCh3_t, vCh3_f, dNot_k, vNot_k, dAnd_k, vAnd_t, vAnd_f, dOr_k, vOr_t, vOr_f, dAndV_k, vAndV_t, vAndV_f, dOrV_k, vOrV_t, vOrV_f, dNotV_k, vNotV_k, dIf_k, vIf_t, vIf_f, dCons_k, vCons1_k, vCons2_k, dTup_k, vTup_k, dLst_k, vLst_k, dCall_k, vCall_k, kc_rt, kc_ex, dItL_k, vItL_lst, vItL_sc, dItT_k, vItT_k, dRng1_k, vRng1_k, dRng2_k, vRng2_k, dCB_k, vCB_k, dIsi_k, vIsi_k, dListE_k, vListE_k, dListS_k, kLS_lst, dLRng1_k, vLRng1_k, dNeg_k, vNeg_k, dIxS_k, kIxS_k, vIxS_k, kIx2_lst, kIx2_tup, kIx2_sc, kIx3_k, dNx_k, dSeq_k, ks_nx, ks_rt, ks_bk, ks_ct, ks_ex, dDrop_k, kDrop_ok, kDrop_ex, dRet_k, kRet_ok, kRet_ex, dIfS_k, kIfS_t, kIfS_f, kIfS_ex, dSet_k, kSet_ok, kSet_ex, dAsg_k, kAsg_ok, kAsg_ex, kh_k, dAppend_k, kAp_k, kAp1_ok, kAp1_ex, kAp2_k, dAug_k, kAug_k, kAug1_ok, dSetItem_k, kSI_ok, kSI_ex, kSI1_k, kSI2_ok, kSI3_k, kSI4_k, dAugItem_k, kAI_k, kAI1_ok, kAI2_k, kAI3_k, kAI4_ok, kAI5_k, kAI6_k, dFor_k, kFor_ok, dComp_k, vComp_k, kCo_k, comp_nil, comp_cons, kc1_k, kc2_t, kc2_f, kc3_k, run_k, kRun_nx, kRun_rt, kRun_ex, hName_k, hNil_k, hCons_k, kH_k, hTup_k, gLt_int, gGt_int, gLe_int, gGe_int, gAdd_int, gMinus_int, gMul_int, gMod_int, gDiv_int, gIx_lst, gIx_tup, gIx_sc, gLen_lst, gLen_tup, gLen_sc, gAll_lst, gAny_lst, gSum_lst, isi_int_int, isi_int_bl, isi_bool_int, isi_bool_bl, isi_list_lst, isi_tuple_tup, isi_str_str, un_int, un_bl, un_str, un_non, un_sc, un_lst, un_tup, uns_nil, uns_cons, pl_int, pl_bl, pl_str, pl_non, pl_sc, pl_lst, pl_tup, pls_nil, pls_cons, ow_int, ow_bl, ow_str, ow_non, ow_lst, ow_tup, ows_nil, ows_cons, wipe_nil, wipe_cons, ints_nil, ints_cons, gBest_lst, gBest_tup, kBest_k, dKeep_k, vKeep_k, dCat_k, vCat1_k, vCat2_k, catD_k, dSorted_k, vSorted_k, sortD_k, dClear_k, kClr_k, dInsert_k, kIn_k, kIn1_ok, kIn2_ok, kIn3_k, tg_int, tg_bl, tg_str, tg_non, tg_tup, tgs_nil, tgs_cons, dRevT_k, vRevT_k, revTD_k, dRevL_k, vRevL_k, revLD_k, dTupOf_k, vTupOf_k, tupD_k, dCatM_k, vCatM1_k, vCatM2_k, catM_k, dTryB_k, kTry_nx, kTry_rt, kTry_ex, kTry2_k, isi_tuple_non, isi_tuple_lst, isi_int_lst, isi_int_str, isi_int_non, bls_nil, bls_cons, bnd_k, bigL0, bigL1, bigL2, bigL3, bigP0, bigP1, List.length_cons, List.length_nil, List.replicate, List.map_cons, List.map_nil, List.cons_append, List.nil_append, List.append_nil, List.getElem?_cons_zero, List.getElem?_cons_succ, List.set_cons_zero, List.set_cons_succ, Option.map_some, Option.map_none, Bool.not_true, Bool.not_false, if_true, Bool.false_eq_true, if_false, Nat.reduceAdd, Nat.reduceSub, Nat.reduceEqDiff, Bool.and_true, Bool.true_and, Bool.and_self, ite_true, ite_false, Nat.reduceLeDiff, reduceIte, reduceCtorEq, eq_self, decide_true, decide_false, not_true_eq_false, not_false_eq_true, Bool.false_and, Bool.and_false, Bool.or_false, Bool.false_or, Bool.true_or, Bool.or_true, hb, Int.toNat_natCast, rngD0]
  generalize hC : comp _ _ _ _ _ _ _ = r
  have := comp_map_of hC (fun k : Nat => D.int k) (fun _ => D.int 0) (List.range n) rfl rfl (by rw [List.length_range, big_val]; omega) (by
    intro k hk
    refine ⟨_, rfl, fun r hr => ?_⟩
    simp only [kb_ok, kb_ex, kb_no, ret_k, lif_s, lif_n, dView_k, vView_k, dFlat_k, vFlat_int, vFlat_bl, vFlat_str, vFlat_non, dVar_k, kVar_k, dPk_k, kPk_k, dMv_k, kMv_k, dFrz_k, kFrz_k, dBin_k, vBin1_k, vBin2_k, dTest_k, vTest_k, dChain_k, vCh1_k, vCh2_k, vCh3_t, vCh3_f, dNot_k, vNot_k, dAnd_k, vAnd_t, vAnd_f, dOr_k, vOr_t, vOr_f, dAndV_k, vAndV_t, vAndV_f, dOrV_k, vOrV_t, vOrV_f, dNotV_k, vNotV_k, dIf_k, vIf_t, vIf_f, dCons_k, vCons1_k, vCons2_k, dTup_k, vTup_k, dLst_k, vLst_k, dCall_k, vCall_k, kc_rt, kc_ex, dItL_k, vItL_lst, vItL_sc, dItT_k, vItT_k, dRng1_k, vRng1_k, dRng2_k, vRng2_k, dCB_k, vCB_k, dIsi_k, vIsi_k, dListE_k, vListE_k, dListS_k, kLS_lst, dLRng1_k, vLRng1_k, dNeg_k, vNeg_k, dIxS_k, kIxS_k, vIxS_k, kIx2_lst, kIx2_tup, kIx2_sc, kIx3_k, dNx_k, dSeq_k, ks_nx, ks_rt, ks_bk, ks_ct, ks_ex, dDrop_k, kDrop_ok, kDrop_ex, dRet_k, kRet_ok, kRet_ex, dIfS_k, kIfS_t, kIfS_f, kIfS_ex, dSet_k, kSet_ok, kSet_ex, dAsg_k, kAsg_ok, kAsg_ex, kh_k, dAppend_k, kAp_k, kAp1_ok, kAp1_ex, kAp2_k, dAug_k, kAug_k, kAug1_ok, dSetItem_k, kSI_ok, kSI_ex, kSI1_k, kSI2_ok, kSI3_k, kSI4_k, dAugItem_k, kAI_k, kAI1_ok, kAI2_k, kAI3_k, kAI4_ok, kAI5_k, kAI6_k, dFor_k, kFor_ok, dComp_k, vComp_k, kCo_k, comp_nil, comp_cons, kc1_k, kc2_t, kc2_f, kc3_k, run_k, kRun_nx, kRun_rt, kRun_ex, hName_k, hNil_k, hCons_k, kH_k, hTup_k, gLt_int, gGt_int, gLe_int, gGe_int, gAdd_int, gMinus_int, gMul_int, gMod_int, gDiv_int, gIx_lst, gIx_tup, gIx_sc, gLen_lst, gLen_tup, gLen_sc, gAll_lst, gAny_lst, gSum_lst, isi_int_int, isi_int_bl, isi_bool_int, isi_bool_bl, isi_list_lst, isi_tuple_tup, isi_str_str, un_int, un_bl, un_str, un_non, un_sc, un_lst, un_tup, uns_nil, uns_cons, pl_int, pl_bl, pl_str, pl_non, pl_sc, pl_lst, pl_tup, pls_nil, pls_cons, ow_int, ow_bl, ow_str, ow_non, ow_lst, ow_tup, ows_nil, ows_cons, wipe_nil, wipe_cons, ints_nil, ints_cons, gBest_lst, gBest_tup, kBest_k, dKeep_k, vKeep_k, dCat_k, vCat1_k, vCat2_k, catD_k, dSorted_k, vSorted_k, sortD_k, dClear_k, kClr_k, dInsert_k, kIn_k, kIn1_ok, kIn2_ok, kIn3_k, tg_int, tg_bl, tg_str, tg_non, tg_tup, tgs_nil, tgs_cons, dRevT_k, vRevT_k, revTD_k, dRevL_k, vRevL_k, revLD_k, dTupOf_k, vTupOf_k, tupD_k, dCatM_k, vCatM1_k, vCatM2_k, catM_k, dTryB_k, kTry_nx, kTry_rt, kTry_ex, kTry2_k, isi_tuple_non, isi_tuple_lst, isi_int_lst, isi_int_str, isi_int_non, bls_nil, bls_cons, bnd_k, bigL0, bigL1, bigL2, bigL3, bigP0, bigP1, List.length_cons, List.length_nil, List.replicate, List.map_cons, List.map_nil, List.cons_append, List.nil_append, List.append_nil, List.getElem?_cons_zero, List.getElem?_cons_succ, List.set_cons_zero, List.set_cons_succ, Option.map_some, Option.map_none, Bool.not_true, Bool.not_false, if_true, Bool.false_eq_true, if_false, Nat.reduceAdd, Nat.reduceSub, Nat.reduceEqDiff, Bool.and_true, Bool.true_and, Bool.and_self, ite_true, ite_false, Nat.reduceLeDiff, reduceIte, reduceCtorEq, eq_self, decide_true, decide_false, not_true_eq_false, not_false_eq_true, Bool.false_and, Bool.and_false, Bool.or_false, Bool.false_or, Bool.true_or, Bool.or_true] at hr
    exact ⟨_, hr.symm, rfl⟩)
  rw [this]
  simp only [kb_ok, kb_ex, kb_no, ret_k, lif_s, lif_n, dView_k, vView_k, dFlat_k, vFlat_int, vFlat_bl, vFlat_str, vFlat_non, dVar_k, kVar_k, dPk_k, kPk_k, dMv_k, kMv_k, dFrz_k, kFrz_k, dBin_k, vBin1_k, vBin2_k, dTest_k, vTest_k, dChain_k, vCh1_k, vCh2_k, vCh3_t, vCh3_f, dNot_k, vNot_k, dAnd_k, vAnd_t, vAnd_f, dOr_k, vOr_t, vOr_f, dAndV_k, vAndV_t, vAndV_f, dOrV_k, vOrV_t, vOrV_f, dNotV_k, vNotV_k, dIf_k, vIf_t, vIf_f, dCons_k, vCons1_k, vCons2_k, dTup_k, vTup_k, dLst_k, vLst_k, dCall_k, vCall_k, kc_rt, kc_ex, dItL_k, vItL_lst, vItL_sc, dItT_k, vItT_k, dRng1_k, vRng1_k, dRng2_k, vRng2_k, dCB_k, vCB_k, dIsi_k, vIsi_k, dListE_k, vListE_k, dListS_k, kLS_lst, dLRng1_k, vLRng1_k, dNeg_k, vNeg_k, dIxS_k, kIxS_k, vIxS_k, kIx2_lst, kIx2_tup, kIx2_sc, kIx3_k, dNx_k, dSeq_k, ks_nx, ks_rt, ks_bk, ks_ct, ks_ex, dDrop_k, kDrop_ok, kDrop_ex, dRet_k, kRet_ok, kRet_ex, dIfS_k, kIfS_t, kIfS_f, kIfS_ex, dSet_k, kSet_ok, kSet_ex, dAsg_k, kAsg_ok, kAsg_ex, kh_k, dAppend_k, kAp_k, kAp1_ok, kAp1_ex, kAp2_k, dAug_k, kAug_k, kAug1_ok, dSetItem_k, kSI_ok, kSI_ex, kSI1_k, kSI2_ok, kSI3_k, kSI4_k, dAugItem_k, kAI_k, kAI1_ok, kAI2_k, kAI3_k, kAI4_ok, kAI5_k, kAI6_k, dFor_k, kFor_ok, dComp_k, vComp_k, kCo_k, comp_nil, comp_cons, kc1_k, kc2_t, kc2_f, kc3_k, run_k, kRun_nx, kRun_rt, kRun_ex, hName_k, hNil_k, hCons_k, kH_k, hTup_k, gLt_int, gGt_int, gLe_int, gGe_int, gAdd_int, gMinus_int, gMul_int, gMod_int, gDiv_int, gIx_lst, gIx_tup, gIx_sc, gLen_lst, gLen_tup, gLen_sc, gAll_lst, gAny_lst, gSum_lst, isi_int_int, isi_int_bl, isi_bool_int, isi_bool_bl, isi_list_lst, isi_tuple_tup, isi_str_str, un_int, un_bl, un_str, un_non, un_sc, un_lst, un_tup, uns_nil, uns_cons, pl_int, pl_bl, pl_str, pl_non, pl_sc, pl_lst, pl_tup, pls_nil, pls_cons, ow_int, ow_bl, ow_str, ow_non, ow_lst, ow_tup, ows_nil, ows_cons, wipe_nil, wipe_cons, ints_nil, ints_cons, gBest_lst, gBest_tup, kBest_k, dKeep_k, vKeep_k, dCat_k, vCat1_k, vCat2_k, catD_k, dSorted_k, vSorted_k, sortD_k, dClear_k, kClr_k, dInsert_k, kIn_k, kIn1_ok, kIn2_ok, kIn3_k, tg_int, tg_bl, tg_str, tg_non, tg_tup, tgs_nil, tgs_cons, dRevT_k, vRevT_k, revTD_k, dRevL_k, vRevL_k, revLD_k, dTupOf_k, vTupOf_k, tupD_k, dCatM_k, vCatM1_k, vCatM2_k, catM_k, dTryB_k, kTry_nx, kTry_rt, kTry_ex, kTry2_k, isi_tuple_non, isi_tuple_lst, isi_int_lst, isi_int_str, isi_int_non, bls_nil, bls_cons, bnd_k, bigL0, bigL1, bigL2, bigL3, bigP0, bigP1, List.length_cons, List.length_nil, List.replicate, List.map_cons, List.map_nil, List.cons_append, List.nil_append, List.append_nil, List.getElem?_cons_zero, List.getElem?_cons_succ, List.set_cons_zero, List.set_cons_succ, Option.map_some, Option.map_none, Bool.not_true, Bool.not_false, if_true, Bool.false_eq_true, if_false, Nat.reduceAdd, Nat.reduceSub, Nat.reduceEqDiff, Bool.and_true, Bool.true_and, Bool.and_self, ite_true, ite_false, Nat.reduceLeDiff, reduceIte, reduceCtorEq, eq_self, decide_true, decide_false, not_true_eq_false, not_false_eq_true, Bool.false_and, Bool.and_false, Bool.or_false, Bool.false_or, Bool.true_or, Bool.or_true, encs_un, encs_plain]
  generalize hL : loop _ _ _ _ = r
  obtain ⟨ρ', rfl, a, b, rfl⟩ := loop_inv_of hL enc gs (fun pre ρ => ∃ a b, ρ = [some (.lst false (encs gs)), some (.int n), some (.lst true (winsL pre n)), a, b, none]) rfl ⟨none, none, by
      simp [winsL, wins]⟩ (by
    rintro pre p post hg ρ ⟨a, b, rfl⟩
    obtain ⟨h1, h2⟩ := h p (by rw [hg]; simp)
    refine ⟨_, rfl, fun r hr => ?_⟩
    simp only [kb_ok, kb_ex, kb_no, ret_k, lif_s, lif_n, dView_k, vView_k, dFlat_k, vFlat_int, vFlat_bl, vFlat_str, vFlat_non, dVar_k, kVar_k, dPk_k, kPk_k, dMv_k, kMv_k, dFrz_k, kFrz_k, dBin_k, vBin1_k, vBin2_k, dTest_k, vTest_k, dChain_k, vCh1_k, vCh2_k, vCh3_t, vCh3_f, dNot_k, vNot_k, dAnd_k, vAnd_t, vAnd_f, dOr_k, vOr_t, vOr_f, dAndV_k, vAndV_t, vAndV_f, dOrV_k, vOrV_t, vOrV_f, dNotV_k, vNotV_k, dIf_k, vIf_t, vIf_f, dCons_k, vCons1_k, vCons2_k, dTup_k, vTup_k, dLst_k, vLst_k, dCall_k, vCall_k, kc_rt, kc_ex, dItL_k, vItL_lst, vItL_sc, dItT_k, vItT_k, dRng1_k, vRng1_k, dRng2_k, vRng2_k, dCB_k, vCB_k, dIsi_k, vIsi_k, dListE_k, vListE_k, dListS_k, kLS_lst, dLRng1_k, vLRng1_k, dNeg_k, vNeg_k, dIxS_k, kIxS_k, vIxS_k, kIx2_lst, kIx2_tup, kIx2_sc, kIx3_k, dNx_k, dSeq_k, ks_nx, ks_rt, ks_bk, ks_ct, ks_ex, dDrop_k, kDrop_ok, kDrop_ex, dRet_k, kRet_ok, kRet_ex, dIfS_k, kIfS_t, kIfS_f, kIfS_ex, dSet_k, kSet_ok, kSet_ex, dAsg_k, kAsg_ok, kAsg_ex, kh_k, dAppend_k, kAp_k, kAp1_ok, kAp1_ex, kAp2_k, dAug_k, kAug_k, kAug1_ok, dSetItem_k, kSI_ok, kSI_ex, kSI1_k, kSI2_ok, kSI3_k, kSI4_k, dAugItem_k, kAI_k, kAI1_ok, kAI2_k, kAI3_k, kAI4_ok, kAI5_k, kAI6_k, dFor_k, kFor_ok, dComp_k, vComp_k, kCo_k, comp_nil, comp_cons, kc1_k, kc2_t, kc2_f, kc3_k, run_k, kRun_nx, kRun_rt, kRun_ex, hName_k, hNil_k, hCons_k, kH_k, hTup_k, gLt_int, gGt_int, gLe_int, gGe_int, gAdd_int, gMinus_int, gMul_int, gMod_int, gDiv_int, gIx_lst, gIx_tup, gIx_sc, gLen_lst, gLen_tup, gLen_sc, gAll_lst, gAny_lst, gSum_lst, isi_int_int, isi_int_bl, isi_bool_int, isi_bool_bl, isi_list_lst, isi_tuple_tup, isi_str_str, un_int, un_bl, un_str, un_non, un_sc, un_lst, un_tup, uns_nil, uns_cons, pl_int, pl_bl, pl_str, pl_non, pl_sc, pl_lst, pl_tup, pls_nil, pls_cons, ow_int, ow_bl, ow_str, ow_non, ow_lst, ow_tup, ows_nil, ows_cons, wipe_nil, wipe_cons, ints_nil, ints_cons, gBest_lst, gBest_tup, kBest_k, dKeep_k, vKeep_k, dCat_k, vCat1_k, vCat2_k, catD_k, dSorted_k, vSorted_k, sortD_k, dClear_k, kClr_k, dInsert_k, kIn_k, kIn1_ok, kIn2_ok, kIn3_k, tg_int, tg_bl, tg_str, tg_non, tg_tup, tgs_nil, tgs_cons, dRevT_k, vRevT_k, revTD_k, dRevL_k, vRevL_k, revLD_k, dTupOf_k, vTupOf_k, tupD_k, dCatM_k, vCatM1_k, vCatM2_k, catM_k, dTryB_k, kTry_nx, kTry_rt, kTry_ex, kTry2_k, isi_tuple_non, isi_tuple_lst, isi_int_lst, isi_int_str, isi_int_non, bls_nil, bls_cons, bnd_k, bigL0, bigL1, bigL2, bigL3, bigP0, bigP1, List.length_cons, List.length_nil, List.replicate, List.map_cons, List.map_nil, List.cons_append, List.nil_append, List.append_nil, List.getElem?_cons_zero, List.getElem?_cons_succ, List.set_cons_zero, List.set_cons_succ, Option.map_some, Option.map_none, Bool.not_true, Bool.not_false, if_true, Bool.false_eq_true, if_false, Nat.reduceAdd, Nat.reduceSub, Nat.reduceEqDiff, Bool.and_true, Bool.true_and, Bool.and_self, ite_true, ite_false, Nat.reduceLeDiff, reduceIte, reduceCtorEq, eq_self, decide_true, decide_false, not_true_eq_false, not_false_eq_true, Bool.false_and, Bool.and_false, Bool.or_false, Bool.false_or, Bool.true_or, Bool.or_true, atI_nat, winsL_get pre h1, ixN_nat, winsL_len, h1, winsL_plain] at hr
    exact ⟨_, .inl hr.symm, some (.int p.1), some (.int p.2), by rw [winsL_snoc]⟩)
  simp only [kb_ok, kb_ex, kb_no, ret_k, lif_s, lif_n, dView_k, vView_k, dFlat_k, vFlat_int, vFlat_bl, vFlat_str, vFlat_non, dVar_k, kVar_k, dPk_k, kPk_k, dMv_k, kMv_k, dFrz_k, kFrz_k, dBin_k, vBin1_k, vBin2_k, dTest_k, vTest_k, dChain_k, vCh1_k, vCh2_k, vCh3_t, vCh3_f, dNot_k, vNot_k, dAnd_k, vAnd_t, vAnd_f, dOr_k, vOr_t, vOr_f, dAndV_k, vAndV_t, vAndV_f, dOrV_k, vOrV_t, vOrV_f, dNotV_k, vNotV_k, dIf_k, vIf_t, vIf_f, dCons_k, vCons1_k, vCons2_k, dTup_k, vTup_k, dLst_k, vLst_k, dCall_k, vCall_k, kc_rt, kc_ex, dItL_k, vItL_lst, vItL_sc, dItT_k, vItT_k, dRng1_k, vRng1_k, dRng2_k, vRng2_k, dCB_k, vCB_k, dIsi_k, vIsi_k, dListE_k, vListE_k, dListS_k, kLS_lst, dLRng1_k, vLRng1_k, dNeg_k, vNeg_k, dIxS_k, kIxS_k, vIxS_k, kIx2_lst, kIx2_tup, kIx2_sc, kIx3_k, dNx_k, dSeq_k, ks_nx, ks_rt, ks_bk, ks_ct, ks_ex, dDrop_k, kDrop_ok, kDrop_ex, dRet_k, kRet_ok, kRet_ex, dIfS_k, kIfS_t, kIfS_f, kIfS_ex, dSet_k, kSet_ok, kSet_ex, dAsg_k, kAsg_ok, kAsg_ex, kh_k, dAppend_k, kAp_k, kAp1_ok, kAp1_ex, kAp2_k, dAug_k, kAug_k, kAug1_ok, dSetItem_k, kSI_ok, kSI_ex, kSI1_k, kSI2_ok, kSI3_k, kSI4_k, dAugItem_k, kAI_k, kAI1_ok, kAI2_k, kAI3_k, kAI4_ok, kAI5_k, kAI6_k, dFor_k, kFor_ok, dComp_k, vComp_k, kCo_k, comp_nil, comp_cons, kc1_k, kc2_t, kc2_f, kc3_k, run_k, kRun_nx, kRun_rt, kRun_ex, hName_k, hNil_k, hCons_k, kH_k, hTup_k, gLt_int, gGt_int, gLe_int, gGe_int, gAdd_int, gMinus_int, gMul_int, gMod_int, gDiv_int, gIx_lst, gIx_tup, gIx_sc, gLen_lst, gLen_tup, gLen_sc, gAll_lst, gAny_lst, gSum_lst, isi_int_int, isi_int_bl, isi_bool_int, isi_bool_bl, isi_list_lst, isi_tuple_tup, isi_str_str, un_int, un_bl, un_str, un_non, un_sc, un_lst, un_tup, uns_nil, uns_cons, pl_int, pl_bl, pl_str, pl_non, pl_sc, pl_lst, pl_tup, pls_nil, pls_cons, ow_int, ow_bl, ow_str, ow_non, ow_lst, ow_tup, ows_nil, ows_cons, wipe_nil, wipe_cons, ints_nil, ints_cons, gBest_lst, gBest_tup, kBest_k, dKeep_k, vKeep_k, dCat_k, vCat1_k, vCat2_k, catD_k, dSorted_k, vSorted_k, sortD_k, dClear_k, kClr_k, dInsert_k, kIn_k, kIn1_ok, kIn2_ok, kIn3_k, tg_int, tg_bl, tg_str, tg_non, tg_tup, tgs_nil, tgs_cons, dRevT_k, vRevT_k, revTD_k, dRevL_k, vRevL_k, revLD_k, dTupOf_k, vTupOf_k, tupD_k, dCatM_k, vCatM1_k, vCatM2_k, catM_k, dTryB_k, kTry_nx, kTry_rt, kTry_ex, kTry2_k, isi_tuple_non, isi_tuple_lst, isi_int_lst, isi_int_str, isi_int_non, bls_nil, bls_cons, bnd_k, bigL0, bigL1, bigL2, bigL3, bigP0, bigP1, List.length_cons, List.length_nil, List.replicate, List.map_cons, List.map_nil, List.cons_append, List.nil_append, List.append_nil, List.getElem?_cons_zero, List.getElem?_cons_succ, List.set_cons_zero, List.set_cons_succ, Option.map_some, Option.map_none, Bool.not_true, Bool.not_false, if_true, Bool.false_eq_true, if_false, Nat.reduceAdd, Nat.reduceSub, Nat.reduceEqDiff, Bool.and_true, Bool.true_and, Bool.and_self, ite_true, ite_false, Nat.reduceLeDiff, reduceIte, reduceCtorEq, eq_self, decide_true, decide_false, not_true_eq_false, not_false_eq_true, Bool.false_and, Bool.and_false, Bool.or_false, Bool.false_or, Bool.true_or, Bool.or_true]
theorem counted_eq (gs : List Gm) (o : Bool) (n : Nat) (hn : n ≤ 10) (h : inn n gs) : fd_counted [.lst o (encs gs), .int n] = some (.rt (.lst true (winsL gs n))) := l_wins_eq gs o n hn h
end Sh

set_option Elab.async false
set_option linter.all false
set_option maxRecDepth 100000
/-! The plain laws, part E: the checks, the games left. -/
namespace Sh
open L2 Ly
theorem gm_min (p : Gm) : (if (p.2 : Int) < p.1 then (p.2 : Int) else p.1) = ((gm p).1 : Int) := by
  unfold gm
  by_cases h : p.2 < p.1
  · rw [if_pos h, if_pos (by omega)]
  · rw [if_neg h, if_neg (by omega)]
theorem gm_max (p : Gm) : (if (p.1 : Int) < p.2 then (p.2 : Int) else p.1) = ((gm p).2 : Int) := by
  unfold gm
  by_cases h : p.2 < p.1
  · rw [if_pos h, if_neg (by omega)]
  · rw [if_neg h]
    by_cases h2 : p.1 < p.2
    · rw [if_pos (by omega)]
    · rw [if_neg (by omega)]
      have : p.1 = p.2 := by omega
      rw [this]
theorem minI_two (a b : Int) : minI a [b] = if b < a then b else a := rfl
theorem maxI_two (a b : Int) : maxI a [b] = if a < b then b else a := rfl
theorem min_enc (p : Gm) : gBest minI [enc p] = some (.int (gm p).1) := by
  unfold enc
  simp only [kb_ok, kb_ex, kb_no, ret_k, lif_s, lif_n, dView_k, vView_k, dFlat_k, vFlat_int, vFlat_bl, vFlat_str, vFlat_non, dVar_k, kVar_k, dPk_k, kPk_k, dMv_k, kMv_k, dFrz_k, kFrz_k, dBin_k, vBin1_k, vBin2_k, dTest_k, vTest_k, dChain_k, vCh1_k, vCh2_k, vCh3_t, vCh3_f, dNot_k, vNot_k, dAnd_k, vAnd_t, vAnd_f, dOr_k, vOr_t, vOr_f, dAndV_k, vAndV_t, vAndV_f, dOrV_k, vOrV_t, vOrV_f, dNotV_k, vNotV_k, dIf_k, vIf_t, vIf_f, dCons_k, vCons1_k, vCons2_k, dTup_k, vTup_k, dLst_k, vLst_k, dCall_k, vCall_k, kc_rt, kc_ex, dItL_k, vItL_lst, vItL_sc, dItT_k, vItT_k, dRng1_k, vRng1_k, dRng2_k, vRng2_k, dCB_k, vCB_k, dIsi_k, vIsi_k, dListE_k, vListE_k, dListS_k, kLS_lst, dLRng1_k, vLRng1_k, dNeg_k, vNeg_k, dIxS_k, kIxS_k, vIxS_k, kIx2_lst, kIx2_tup, kIx2_sc, kIx3_k, dNx_k, dSeq_k, ks_nx, ks_rt, ks_bk, ks_ct, ks_ex, dDrop_k, kDrop_ok, kDrop_ex, dRet_k, kRet_ok, kRet_ex, dIfS_k, kIfS_t, kIfS_f, kIfS_ex, dSet_k, kSet_ok, kSet_ex, dAsg_k, kAsg_ok, kAsg_ex, kh_k, dAppend_k, kAp_k, kAp1_ok, kAp1_ex, kAp2_k, dAug_k, kAug_k, kAug1_ok, dSetItem_k, kSI_ok, kSI_ex, kSI1_k, kSI2_ok, kSI3_k, kSI4_k, dAugItem_k, kAI_k, kAI1_ok, kAI2_k, kAI3_k, kAI4_ok, kAI5_k, kAI6_k, dFor_k, kFor_ok, dComp_k, vComp_k, kCo_k, comp_nil, comp_cons, kc1_k, kc2_t, kc2_f, kc3_k, run_k, kRun_nx, kRun_rt, kRun_ex, hName_k, hNil_k, hCons_k, kH_k, hTup_k, gLt_int, gGt_int, gLe_int, gGe_int, gAdd_int, gMinus_int, gMul_int, gMod_int, gDiv_int, gIx_lst, gIx_tup, gIx_sc, gLen_lst, gLen_tup, gLen_sc, gAll_lst, gAny_lst, gSum_lst, isi_int_int, isi_int_bl, isi_bool_int, isi_bool_bl, isi_list_lst, isi_tuple_tup, isi_str_str, un_int, un_bl, un_str, un_non, un_sc, un_lst, un_tup, uns_nil, uns_cons, pl_int, pl_bl, pl_str, pl_non, pl_sc, pl_lst, pl_tup, pls_nil, pls_cons, ow_int, ow_bl, ow_str, ow_non, ow_lst, ow_tup, ows_nil, ows_cons, wipe_nil, wipe_cons, ints_nil, ints_cons, gBest_lst, gBest_tup, kBest_k, dKeep_k, vKeep_k, dCat_k, vCat1_k, vCat2_k, catD_k, dSorted_k, vSorted_k, sortD_k, dClear_k, kClr_k, dInsert_k, kIn_k, kIn1_ok, kIn2_ok, kIn3_k, tg_int, tg_bl, tg_str, tg_non, tg_tup, tgs_nil, tgs_cons, dRevT_k, vRevT_k, revTD_k, dRevL_k, vRevL_k, revLD_k, dTupOf_k, vTupOf_k, tupD_k, dCatM_k, vCatM1_k, vCatM2_k, catM_k, dTryB_k, kTry_nx, kTry_rt, kTry_ex, kTry2_k, isi_tuple_non, isi_tuple_lst, isi_int_lst, isi_int_str, isi_int_non, bls_nil, bls_cons, bnd_k, bigL0, bigL1, bigL2, bigL3, bigP0, bigP1, List.length_cons, List.length_nil, List.replicate, List.map_cons, List.map_nil, List.cons_append, List.nil_append, List.append_nil, List.getElem?_cons_zero, List.getElem?_cons_succ, List.set_cons_zero, List.set_cons_succ, Option.map_some, Option.map_none, Bool.not_true, Bool.not_false, if_true, Bool.false_eq_true, if_false, Nat.reduceAdd, Nat.reduceSub, Nat.reduceEqDiff, Bool.and_true, Bool.true_and, Bool.and_self, ite_true, ite_false, Nat.reduceLeDiff, reduceIte, reduceCtorEq, eq_self, decide_true, decide_false, not_true_eq_false, not_false_eq_true, Bool.false_and, Bool.and_false, Bool.or_false, Bool.false_or, Bool.true_or, Bool.or_true, minI_two, gm_min]
theorem max_enc (p : Gm) : gBest maxI [enc p] = some (.int (gm p).2) := by
  unfold enc
  simp only [kb_ok, kb_ex, kb_no, ret_k, lif_s, lif_n, dView_k, vView_k, dFlat_k, vFlat_int, vFlat_bl, vFlat_str, vFlat_non, dVar_k, kVar_k, dPk_k, kPk_k, dMv_k, kMv_k, dFrz_k, kFrz_k, dBin_k, vBin1_k, vBin2_k, dTest_k, vTest_k, dChain_k, vCh1_k, vCh2_k, vCh3_t, vCh3_f, dNot_k, vNot_k, dAnd_k, vAnd_t, vAnd_f, dOr_k, vOr_t, vOr_f, dAndV_k, vAndV_t, vAndV_f, dOrV_k, vOrV_t, vOrV_f, dNotV_k, vNotV_k, dIf_k, vIf_t, vIf_f, dCons_k, vCons1_k, vCons2_k, dTup_k, vTup_k, dLst_k, vLst_k, dCall_k, vCall_k, kc_rt, kc_ex, dItL_k, vItL_lst, vItL_sc, dItT_k, vItT_k, dRng1_k, vRng1_k, dRng2_k, vRng2_k, dCB_k, vCB_k, dIsi_k, vIsi_k, dListE_k, vListE_k, dListS_k, kLS_lst, dLRng1_k, vLRng1_k, dNeg_k, vNeg_k, dIxS_k, kIxS_k, vIxS_k, kIx2_lst, kIx2_tup, kIx2_sc, kIx3_k, dNx_k, dSeq_k, ks_nx, ks_rt, ks_bk, ks_ct, ks_ex, dDrop_k, kDrop_ok, kDrop_ex, dRet_k, kRet_ok, kRet_ex, dIfS_k, kIfS_t, kIfS_f, kIfS_ex, dSet_k, kSet_ok, kSet_ex, dAsg_k, kAsg_ok, kAsg_ex, kh_k, dAppend_k, kAp_k, kAp1_ok, kAp1_ex, kAp2_k, dAug_k, kAug_k, kAug1_ok, dSetItem_k, kSI_ok, kSI_ex, kSI1_k, kSI2_ok, kSI3_k, kSI4_k, dAugItem_k, kAI_k, kAI1_ok, kAI2_k, kAI3_k, kAI4_ok, kAI5_k, kAI6_k, dFor_k, kFor_ok, dComp_k, vComp_k, kCo_k, comp_nil, comp_cons, kc1_k, kc2_t, kc2_f, kc3_k, run_k, kRun_nx, kRun_rt, kRun_ex, hName_k, hNil_k, hCons_k, kH_k, hTup_k, gLt_int, gGt_int, gLe_int, gGe_int, gAdd_int, gMinus_int, gMul_int, gMod_int, gDiv_int, gIx_lst, gIx_tup, gIx_sc, gLen_lst, gLen_tup, gLen_sc, gAll_lst, gAny_lst, gSum_lst, isi_int_int, isi_int_bl, isi_bool_int, isi_bool_bl, isi_list_lst, isi_tuple_tup, isi_str_str, un_int, un_bl, un_str, un_non, un_sc, un_lst, un_tup, uns_nil, uns_cons, pl_int, pl_bl, pl_str, pl_non, pl_sc, pl_lst, pl_tup, pls_nil, pls_cons, ow_int, ow_bl, ow_str, ow_non, ow_lst, ow_tup, ows_nil, ows_cons, wipe_nil, wipe_cons, ints_nil, ints_cons, gBest_lst, gBest_tup, kBest_k, dKeep_k, vKeep_k, dCat_k, vCat1_k, vCat2_k, catD_k, dSorted_k, vSorted_k, sortD_k, dClear_k, kClr_k, dInsert_k, kIn_k, kIn1_ok, kIn2_ok, kIn3_k, tg_int, tg_bl, tg_str, tg_non, tg_tup, tgs_nil, tgs_cons, dRevT_k, vRevT_k, revTD_k, dRevL_k, vRevL_k, revLD_k, dTupOf_k, vTupOf_k, tupD_k, dCatM_k, vCatM1_k, vCatM2_k, catM_k, dTryB_k, kTry_nx, kTry_rt, kTry_ex, kTry2_k, isi_tuple_non, isi_tuple_lst, isi_int_lst, isi_int_str, isi_int_non, bls_nil, bls_cons, bnd_k, bigL0, bigL1, bigL2, bigL3, bigP0, bigP1, List.length_cons, List.length_nil, List.replicate, List.map_cons, List.map_nil, List.cons_append, List.nil_append, List.append_nil, List.getElem?_cons_zero, List.getElem?_cons_succ, List.set_cons_zero, List.set_cons_succ, Option.map_some, Option.map_none, Bool.not_true, Bool.not_false, if_true, Bool.false_eq_true, if_false, Nat.reduceAdd, Nat.reduceSub, Nat.reduceEqDiff, Bool.and_true, Bool.true_and, Bool.and_self, ite_true, ite_false, Nat.reduceLeDiff, reduceIte, reduceCtorEq, eq_self, decide_true, decide_false, not_true_eq_false, not_false_eq_true, Bool.false_and, Bool.and_false, Bool.or_false, Bool.false_or, Bool.true_or, Bool.or_true, maxI_two, gm_max]
theorem game_of_eq (p : Gm) : fd_game_of [enc p] = some (.rt (enc (gm p))) := by
  unfold fd_game_of dn_game_of
  simp only [kb_ok, kb_ex, kb_no, ret_k, lif_s, lif_n, dView_k, vView_k, dFlat_k, vFlat_int, vFlat_bl, vFlat_str, vFlat_non, dVar_k, kVar_k, dPk_k, kPk_k, dMv_k, kMv_k, dFrz_k, kFrz_k, dBin_k, vBin1_k, vBin2_k, dTest_k, vTest_k, dChain_k, vCh1_k, vCh2_k, vCh3_t, vCh3_f, dNot_k, vNot_k, dAnd_k, vAnd_t, vAnd_f, dOr_k, vOr_t, vOr_f, dAndV_k, vAndV_t, vAndV_f, dOrV_k, vOrV_t, vOrV_f, dNotV_k, vNotV_k, dIf_k, vIf_t, vIf_f, dCons_k, vCons1_k, vCons2_k, dTup_k, vTup_k, dLst_k, vLst_k, dCall_k, vCall_k, kc_rt, kc_ex, dItL_k, vItL_lst, vItL_sc, dItT_k, vItT_k, dRng1_k, vRng1_k, dRng2_k, vRng2_k, dCB_k, vCB_k, dIsi_k, vIsi_k, dListE_k, vListE_k, dListS_k, kLS_lst, dLRng1_k, vLRng1_k, dNeg_k, vNeg_k, dIxS_k, kIxS_k, vIxS_k, kIx2_lst, kIx2_tup, kIx2_sc, kIx3_k, dNx_k, dSeq_k, ks_nx, ks_rt, ks_bk, ks_ct, ks_ex, dDrop_k, kDrop_ok, kDrop_ex, dRet_k, kRet_ok, kRet_ex, dIfS_k, kIfS_t, kIfS_f, kIfS_ex, dSet_k, kSet_ok, kSet_ex, dAsg_k, kAsg_ok, kAsg_ex, kh_k, dAppend_k, kAp_k, kAp1_ok, kAp1_ex, kAp2_k, dAug_k, kAug_k, kAug1_ok, dSetItem_k, kSI_ok, kSI_ex, kSI1_k, kSI2_ok, kSI3_k, kSI4_k, dAugItem_k, kAI_k, kAI1_ok, kAI2_k, kAI3_k, kAI4_ok, kAI5_k, kAI6_k, dFor_k, kFor_ok, dComp_k, vComp_k, kCo_k, comp_nil, comp_cons, kc1_k, kc2_t, kc2_f, kc3_k, run_k, kRun_nx, kRun_rt, kRun_ex, hName_k, hNil_k, hCons_k, kH_k, hTup_k, gLt_int, gGt_int, gLe_int, gGe_int, gAdd_int, gMinus_int, gMul_int, gMod_int, gDiv_int, gIx_lst, gIx_tup, gIx_sc, gLen_lst, gLen_tup, gLen_sc, gAll_lst, gAny_lst, gSum_lst, isi_int_int, isi_int_bl, isi_bool_int, isi_bool_bl, isi_list_lst, isi_tuple_tup, isi_str_str, un_int, un_bl, un_str, un_non, un_sc, un_lst, un_tup, uns_nil, uns_cons, pl_int, pl_bl, pl_str, pl_non, pl_sc, pl_lst, pl_tup, pls_nil, pls_cons, ow_int, ow_bl, ow_str, ow_non, ow_lst, ow_tup, ows_nil, ows_cons, wipe_nil, wipe_cons, ints_nil, ints_cons, gBest_lst, gBest_tup, kBest_k, dKeep_k, vKeep_k, dCat_k, vCat1_k, vCat2_k, catD_k, dSorted_k, vSorted_k, sortD_k, dClear_k, kClr_k, dInsert_k, kIn_k, kIn1_ok, kIn2_ok, kIn3_k, tg_int, tg_bl, tg_str, tg_non, tg_tup, tgs_nil, tgs_cons, dRevT_k, vRevT_k, revTD_k, dRevL_k, vRevL_k, revLD_k, dTupOf_k, vTupOf_k, tupD_k, dCatM_k, vCatM1_k, vCatM2_k, catM_k, dTryB_k, kTry_nx, kTry_rt, kTry_ex, kTry2_k, isi_tuple_non, isi_tuple_lst, isi_int_lst, isi_int_str, isi_int_non, bls_nil, bls_cons, bnd_k, bigL0, bigL1, bigL2, bigL3, bigP0, bigP1, List.length_cons, List.length_nil, List.replicate, List.map_cons, List.map_nil, List.cons_append, List.nil_append, List.append_nil, List.getElem?_cons_zero, List.getElem?_cons_succ, List.set_cons_zero, List.set_cons_succ, Option.map_some, Option.map_none, Bool.not_true, Bool.not_false, if_true, Bool.false_eq_true, if_false, Nat.reduceAdd, Nat.reduceSub, Nat.reduceEqDiff, Bool.and_true, Bool.true_and, Bool.and_self, ite_true, ite_false, Nat.reduceLeDiff, reduceIte, reduceCtorEq, eq_self, decide_true, decide_false, not_true_eq_false, not_false_eq_true, Bool.false_and, Bool.and_false, Bool.or_false, Bool.false_or, Bool.true_or, Bool.or_true, enc_un, min_enc, max_enc]
  rfl
theorem gm_of_lt {p : Gm} (h : p.1 < p.2) : gm p = p := if_neg (by omega)
/-- a game between two of n players -/
def isG (n : Nat) (p : Gm) : Bool := decide (p.1 ≠ p.2) && (decide (p.1 < n) && decide (p.2 < n))
theorem is_game_eq (p : Gm) (n : Nat) : fd_is_game [enc p, .int n] = some (.rt (.bl (isG n p))) := by
  have f1 : decide ((0 : Int) ≤ (p.1 : Int)) = true := by simp
  have f2 : decide ((0 : Int) ≤ (p.2 : Int)) = true := by simp
  have g1 : decide ((p.1 : Int) ≤ (n : Int) - 1) = decide (p.1 < n) := by
    apply decide_eq_decide.2; omega
  have g2 : decide ((p.2 : Int) ≤ (n : Int) - 1) = decide (p.2 < n) := by
    apply decide_eq_decide.2; omega
  have e0 : ((p.1 : Int) == (p.2 : Int)) = decide (p.1 = p.2) := by
    by_cases h : p.1 = p.2
    · simp [h]
    · have : ¬ ((p.1 : Int) = p.2) := by omega
      simp [h, this]
  have l2 : ((2 : Int) == 2) = true := rfl
  have t2 : (((0 + 1 + 1 : Nat) : Int) == 2) = true := rfl
  unfold fd_is_game dn_is_game isG
  by_cases h : p.1 = p.2
  · have e1 : ((p.1 : Int) == (p.2 : Int)) = true := by rw [e0]; simp [h]
    unfold enc
    simp only [kb_ok, kb_ex, kb_no, ret_k, lif_s, lif_n, dView_k, vView_k, dFlat_k, vFlat_int, vFlat_bl, vFlat_str, vFlat_non, dVar_k, kVar_k, dPk_k, kPk_k, dMv_k, kMv_k, dFrz_k, kFrz_k, dBin_k, vBin1_k, vBin2_k, dTest_k, vTest_k, dChain_k, vCh1_k, vCh2_k, vCh3_t, vCh3_f, dNot_k, vNot_k, dAnd_k, vAnd_t, vAnd_f, dOr_k, vOr_t, vOr_f, dAndV_k, vAndV_t, vAndV_f, dOrV_k, vOrV_t, vOrV_f, dNotV_k, vNotV_k, dIf_k, vIf_t, vIf_f, dCons_k, vCons1_k, vCons2_k, dTup_k, vTup_k, dLst_k, vLst_k, dCall_k, vCall_k, kc_rt, kc_ex, dItL_k, vItL_lst, vItL_sc, dItT_k, vItT_k, dRng1_k, vRng1_k, dRng2_k, vRng2_k, dCB_k, vCB_k, dIsi_k, vIsi_k, dListE_k, vListE_k, dListS_k, kLS_lst, dLRng1_k, vLRng1_k, dNeg_k, vNeg_k, dIxS_k, kIxS_k, vIxS_k, kIx2_lst, kIx2_tup, kIx2_sc, kIx3_k, dNx_k, dSeq_k, ks_nx, ks_rt, ks_bk, ks_ct, ks_ex, dDrop_k, kDrop_ok, kDrop_ex, dRet_k, kRet_ok, kRet_ex, dIfS_k, kIfS_t, kIfS_f, kIfS_ex, dSet_k, kSet_ok, kSet_ex, dAsg_k, kAsg_ok, kAsg_ex, kh_k, dAppend_k, kAp_k, kAp1_ok, kAp1_ex, kAp2_k, dAug_k, kAug_k, kAug1_ok, dSetItem_k, kSI_ok, kSI_ex, kSI1_k, kSI2_ok, kSI3_k, kSI4_k, dAugItem_k, kAI_k, kAI1_ok, kAI2_k, kAI3_k, kAI4_ok, kAI5_k, kAI6_k, dFor_k, kFor_ok, dComp_k, vComp_k, kCo_k, comp_nil, comp_cons, kc1_k, kc2_t, kc2_f, kc3_k, run_k, kRun_nx, kRun_rt, kRun_ex, hName_k, hNil_k, hCons_k, kH_k, hTup_k, gLt_int, gGt_int, gLe_int, gGe_int, gAdd_int, gMinus_int, gMul_int, gMod_int, gDiv_int, gIx_lst, gIx_tup, gIx_sc, gLen_lst, gLen_tup, gLen_sc, gAll_lst, gAny_lst, gSum_lst, isi_int_int, isi_int_bl, isi_bool_int, isi_bool_bl, isi_list_lst, isi_tuple_tup, isi_str_str, un_int, un_bl, un_str, un_non, un_sc, un_lst, un_tup, uns_nil, uns_cons, pl_int, pl_bl, pl_str, pl_non, pl_sc, pl_lst, pl_tup, pls_nil, pls_cons, ow_int, ow_bl, ow_str, ow_non, ow_lst, ow_tup, ows_nil, ows_cons, wipe_nil, wipe_cons, ints_nil, ints_cons, gBest_lst, gBest_tup, kBest_k, dKeep_k, vKeep_k, dCat_k, vCat1_k, vCat2_k, catD_k, dSorted_k, vSorted_k, sortD_k, dClear_k, kClr_k, dInsert_k, kIn_k, kIn1_ok, kIn2_ok, kIn3_k, tg_int, tg_bl, tg_str, tg_non, tg_tup, tgs_nil, tgs_cons, dRevT_k, vRevT_k, revTD_k, dRevL_k, vRevL_k, revLD_k, dTupOf_k, vTupOf_k, tupD_k, dCatM_k, vCatM1_k, vCatM2_k, catM_k, dTryB_k, kTry_nx, kTry_rt, kTry_ex, kTry2_k, isi_tuple_non, isi_tuple_lst, isi_int_lst, isi_int_str, isi_int_non, bls_nil, bls_cons, bnd_k, bigL0, bigL1, bigL2, bigL3, bigP0, bigP1, List.length_cons, List.length_nil, List.replicate, List.map_cons, List.map_nil, List.cons_append, List.nil_append, List.append_nil, List.getElem?_cons_zero, List.getElem?_cons_succ, List.set_cons_zero, List.set_cons_succ, Option.map_some, Option.map_none, Bool.not_true, Bool.not_false, if_true, Bool.false_eq_true, if_false, Nat.reduceAdd, Nat.reduceSub, Nat.reduceEqDiff, Bool.and_true, Bool.true_and, Bool.and_self, ite_true, ite_false, Nat.reduceLeDiff, reduceIte, reduceCtorEq, eq_self, decide_true, decide_false, not_true_eq_false, not_false_eq_true, Bool.false_and, Bool.and_false, Bool.or_false, Bool.false_or, Bool.true_or, Bool.or_true, gEq_k, gNe_k, fit_int, fit_bl, fit_non, fit_lst8, fit_tup8, fits_nil, fits_cons, eqv_ii, eqv_bb, eqv_tt, eqv_ll, eqvs_nil, eqvs_cons, atI_zero, atI_one, e1, t2]
    simp [h, enc]
  · have e1 : ((p.1 : Int) == (p.2 : Int)) = false := by rw [e0]; simp [h]
    unfold enc
    simp only [kb_ok, kb_ex, kb_no, ret_k, lif_s, lif_n, dView_k, vView_k, dFlat_k, vFlat_int, vFlat_bl, vFlat_str, vFlat_non, dVar_k, kVar_k, dPk_k, kPk_k, dMv_k, kMv_k, dFrz_k, kFrz_k, dBin_k, vBin1_k, vBin2_k, dTest_k, vTest_k, dChain_k, vCh1_k, vCh2_k, vCh3_t, vCh3_f, dNot_k, vNot_k, dAnd_k, vAnd_t, vAnd_f, dOr_k, vOr_t, vOr_f, dAndV_k, vAndV_t, vAndV_f, dOrV_k, vOrV_t, vOrV_f, dNotV_k, vNotV_k, dIf_k, vIf_t, vIf_f, dCons_k, vCons1_k, vCons2_k, dTup_k, vTup_k, dLst_k, vLst_k, dCall_k, vCall_k, kc_rt, kc_ex, dItL_k, vItL_lst, vItL_sc, dItT_k, vItT_k, dRng1_k, vRng1_k, dRng2_k, vRng2_k, dCB_k, vCB_k, dIsi_k, vIsi_k, dListE_k, vListE_k, dListS_k, kLS_lst, dLRng1_k, vLRng1_k, dNeg_k, vNeg_k, dIxS_k, kIxS_k, vIxS_k, kIx2_lst, kIx2_tup, kIx2_sc, kIx3_k, dNx_k, dSeq_k, ks_nx, ks_rt, ks_bk, ks_ct, ks_ex, dDrop_k, kDrop_ok, kDrop_ex, dRet_k, kRet_ok, kRet_ex, dIfS_k, kIfS_t, kIfS_f, kIfS_ex, dSet_k, kSet_ok, kSet_ex, dAsg_k, kAsg_ok, kAsg_ex, kh_k, dAppend_k, kAp_k, kAp1_ok, kAp1_ex, kAp2_k, dAug_k, kAug_k, kAug1_ok, dSetItem_k, kSI_ok, kSI_ex, kSI1_k, kSI2_ok, kSI3_k, kSI4_k, dAugItem_k, kAI_k, kAI1_ok, kAI2_k, kAI3_k, kAI4_ok, kAI5_k, kAI6_k, dFor_k, kFor_ok, dComp_k, vComp_k, kCo_k, comp_nil, comp_cons, kc1_k, kc2_t, kc2_f, kc3_k, run_k, kRun_nx, kRun_rt, kRun_ex, hName_k, hNil_k, hCons_k, kH_k, hTup_k, gLt_int, gGt_int, gLe_int, gGe_int, gAdd_int, gMinus_int, gMul_int, gMod_int, gDiv_int, gIx_lst, gIx_tup, gIx_sc, gLen_lst, gLen_tup, gLen_sc, gAll_lst, gAny_lst, gSum_lst, isi_int_int, isi_int_bl, isi_bool_int, isi_bool_bl, isi_list_lst, isi_tuple_tup, isi_str_str, un_int, un_bl, un_str, un_non, un_sc, un_lst, un_tup, uns_nil, uns_cons, pl_int, pl_bl, pl_str, pl_non, pl_sc, pl_lst, pl_tup, pls_nil, pls_cons, ow_int, ow_bl, ow_str, ow_non, ow_lst, ow_tup, ows_nil, ows_cons, wipe_nil, wipe_cons, ints_nil, ints_cons, gBest_lst, gBest_tup, kBest_k, dKeep_k, vKeep_k, dCat_k, vCat1_k, vCat2_k, catD_k, dSorted_k, vSorted_k, sortD_k, dClear_k, kClr_k, dInsert_k, kIn_k, kIn1_ok, kIn2_ok, kIn3_k, tg_int, tg_bl, tg_str, tg_non, tg_tup, tgs_nil, tgs_cons, dRevT_k, vRevT_k, revTD_k, dRevL_k, vRevL_k, revLD_k, dTupOf_k, vTupOf_k, tupD_k, dCatM_k, vCatM1_k, vCatM2_k, catM_k, dTryB_k, kTry_nx, kTry_rt, kTry_ex, kTry2_k, isi_tuple_non, isi_tuple_lst, isi_int_lst, isi_int_str, isi_int_non, bls_nil, bls_cons, bnd_k, bigL0, bigL1, bigL2, bigL3, bigP0, bigP1, List.length_cons, List.length_nil, List.replicate, List.map_cons, List.map_nil, List.cons_append, List.nil_append, List.append_nil, List.getElem?_cons_zero, List.getElem?_cons_succ, List.set_cons_zero, List.set_cons_succ, Option.map_some, Option.map_none, Bool.not_true, Bool.not_false, if_true, Bool.false_eq_true, if_false, Nat.reduceAdd, Nat.reduceSub, Nat.reduceEqDiff, Bool.and_true, Bool.true_and, Bool.and_self, ite_true, ite_false, Nat.reduceLeDiff, reduceIte, reduceCtorEq, eq_self, decide_true, decide_false, not_true_eq_false, not_false_eq_true, Bool.false_and, Bool.and_false, Bool.or_false, Bool.false_or, Bool.true_or, Bool.or_true, gEq_k, gNe_k, fit_int, fit_bl, fit_non, fit_lst8, fit_tup8, fits_nil, fits_cons, eqv_ii, eqv_bb, eqv_tt, eqv_ll, eqvs_nil, eqvs_cons, atI_zero, atI_one, e1, t2, within_int, f1, f2, g1, g2]
    cases h1 : decide (p.1 < n) <;> simp only [kb_ok, kb_ex, kb_no, ret_k, lif_s, lif_n, dView_k, vView_k, dFlat_k, vFlat_int, vFlat_bl, vFlat_str, vFlat_non, dVar_k, kVar_k, dPk_k, kPk_k, dMv_k, kMv_k, dFrz_k, kFrz_k, dBin_k, vBin1_k, vBin2_k, dTest_k, vTest_k, dChain_k, vCh1_k, vCh2_k, vCh3_t, vCh3_f, dNot_k, vNot_k, dAnd_k, vAnd_t, vAnd_f, dOr_k, vOr_t, vOr_f, dAndV_k, vAndV_t, vAndV_f, dOrV_k, vOrV_t, vOrV_f, dNotV_k, vNotV_k, dIf_k, vIf_t, vIf_f, dCons_k, vCons1_k, vCons2_k, dTup_k, vTup_k, dLst_k, vLst_k, dCall_k, vCall_k, kc_rt, kc_ex, dItL_k, vItL_lst, vItL_sc, dItT_k, vItT_k, dRng1_k, vRng1_k, dRng2_k, vRng2_k, dCB_k, vCB_k, dIsi_k, vIsi_k, dListE_k, vListE_k, dListS_k, kLS_lst, dLRng1_k, vLRng1_k, dNeg_k, vNeg_k, dIxS_k, kIxS_k, vIxS_k, kIx2_lst, kIx2_tup, kIx2_sc, kIx3_k, dNx_k, dSeq_k, ks_nx, ks_rt, ks_bk, ks_ct, ks_ex, dDrop_k, kDrop_ok, kDrop_ex, dRet_k, kRet_ok, kRet_ex, dIfS_k, kIfS_t, kIfS_f, kIfS_ex, dSet_k, kSet_ok, kSet_ex, dAsg_k, kAsg_ok, kAsg_ex, kh_k, dAppend_k, kAp_k, kAp1_ok, kAp1_ex, kAp2_k, dAug_k, kAug_k, kAug1_ok, dSetItem_k, kSI_ok, kSI_ex, kSI1_k, kSI2_ok, kSI3_k, kSI4_k, dAugItem_k, kAI_k, kAI1_ok, kAI2_k, kAI3_k, kAI4_ok, kAI5_k, kAI6_k, dFor_k, kFor_ok, dComp_k, vComp_k, kCo_k, comp_nil, comp_cons, kc1_k, kc2_t, kc2_f, kc3_k, run_k, kRun_nx, kRun_rt, kRun_ex, hName_k, hNil_k, hCons_k, kH_k, hTup_k, gLt_int, gGt_int, gLe_int, gGe_int, gAdd_int, gMinus_int, gMul_int, gMod_int, gDiv_int, gIx_lst, gIx_tup, gIx_sc, gLen_lst, gLen_tup, gLen_sc, gAll_lst, gAny_lst, gSum_lst, isi_int_int, isi_int_bl, isi_bool_int, isi_bool_bl, isi_list_lst, isi_tuple_tup, isi_str_str, un_int, un_bl, un_str, un_non, un_sc, un_lst, un_tup, uns_nil, uns_cons, pl_int, pl_bl, pl_str, pl_non, pl_sc, pl_lst, pl_tup, pls_nil, pls_cons, ow_int, ow_bl, ow_str, ow_non, ow_lst, ow_tup, ows_nil, ows_cons, wipe_nil, wipe_cons, ints_nil, ints_cons, gBest_lst, gBest_tup, kBest_k, dKeep_k, vKeep_k, dCat_k, vCat1_k, vCat2_k, catD_k, dSorted_k, vSorted_k, sortD_k, dClear_k, kClr_k, dInsert_k, kIn_k, kIn1_ok, kIn2_ok, kIn3_k, tg_int, tg_bl, tg_str, tg_non, tg_tup, tgs_nil, tgs_cons, dRevT_k, vRevT_k, revTD_k, dRevL_k, vRevL_k, revLD_k, dTupOf_k, vTupOf_k, tupD_k, dCatM_k, vCatM1_k, vCatM2_k, catM_k, dTryB_k, kTry_nx, kTry_rt, kTry_ex, kTry2_k, isi_tuple_non, isi_tuple_lst, isi_int_lst, isi_int_str, isi_int_non, bls_nil, bls_cons, bnd_k, bigL0, bigL1, bigL2, bigL3, bigP0, bigP1, List.length_cons, List.length_nil, List.replicate, List.map_cons, List.map_nil, List.cons_append, List.nil_append, List.append_nil, List.getElem?_cons_zero, List.getElem?_cons_succ, List.set_cons_zero, List.set_cons_succ, Option.map_some, Option.map_none, Bool.not_true, Bool.not_false, if_true, Bool.false_eq_true, if_false, Nat.reduceAdd, Nat.reduceSub, Nat.reduceEqDiff, Bool.and_true, Bool.true_and, Bool.and_self, ite_true, ite_false, Nat.reduceLeDiff, reduceIte, reduceCtorEq, eq_self, decide_true, decide_false, not_true_eq_false, not_false_eq_true, Bool.false_and, Bool.and_false, Bool.or_false, Bool.false_or, Bool.true_or, Bool.or_true, gEq_k, gNe_k, fit_int, fit_bl, fit_non, fit_lst8, fit_tup8, fits_nil, fits_cons, eqv_ii, eqv_bb, eqv_tt, eqv_ll, eqvs_nil, eqvs_cons, atI_zero, atI_one, within_int, f1, f2, g1, g2] <;> simp [h]
theorem gGe_enc (p q : Gm) : gGe (enc p) (enc q) = some (.bl (!plt p q)) := by
  have e := enc_lt p q
  have a := enc_alike p q
  have b := enc_alike q p
  have f := enc_fit p 7
  have g := enc_fit q 7
  unfold gGe
  unfold enc at *
  unfold gCmp
  simp only [e, a, b, f, g, Bool.and_self, if_true]
def Srt (gs : List Gm) : Prop := (gs.map gm).Pairwise fun p q => plt p q = true
theorem plt_pairs (n : Nat) : (pairs n).Pairwise fun p q => plt p q = true := by
  unfold pairs
  rw [List.pairwise_flatMap]
  refine ⟨fun i hi => ?_, ?_⟩
  · unfold row
    rw [List.pairwise_map]
    refine List.Pairwise.imp ?_ List.pairwise_lt_range
    intro a b h
    simp only [plt, if_true]
    simp
    omega
  · refine List.Pairwise.imp ?_ List.pairwise_lt_range
    intro a b h p hp q hq
    simp only [row, List.mem_map] at hp hq
    obtain ⟨_, _, rfl⟩ := hp
    obtain ⟨_, _, rfl⟩ := hq
    simp only [plt]
    rw [if_neg (by omega)]
    simpa using h
theorem Srt.round (w : Nat → Nat → Bool) (n : Nat) : Srt (round w n) := by
  unfold Srt
  rw [round_gm]
  exact plt_pairs n
theorem Srt.sub {gs hs : List Gm} (h : Srt gs) (s : hs.Sublist gs) : Srt hs := List.Pairwise.sublist (s.map gm) h
def Gms (n : Nat) (gs : List Gm) : Prop := ∀ p ∈ gs, isG n p = true
theorem Gms.sub {n : Nat} {gs hs : List Gm} (h : Gms n gs) (s : hs.Sublist gs) : Gms n hs := fun p hp => h p (s.subset hp)
theorem Gms.round (w : Nat → Nat → Bool) (n : Nat) : Gms n (round w n) := by
  intro p hp
  unfold Sh.round at hp
  obtain ⟨q, hq, rfl⟩ := List.mem_map.1 hp
  obtain ⟨h1, h2⟩ := mem_pairs.1 hq
  unfold side isG
  split <;> simp <;> omega
theorem Gms.inn {n : Nat} {gs : List Gm} (h : Gms n gs) : inn n gs := fun p hp => by
  have := h p hp
  simp [isG] at this
  exact this.2
theorem blsOf_all {α : Type} (f : α → Bool) : ∀ xs : List α, blsOf (xs.map fun x => D.bl (f x)) = some (xs.map f)
  | [] => rfl
  | x :: xs => by rw [List.map, blsOf, blsOf_all f xs]; rfl
theorem bls_own {α : Type} (f : α → Bool) : ∀ xs : List α, owns (xs.map fun x => D.bl (f x)) = true
  | [] => rfl
  | x :: xs => by rw [List.map, ows_cons, bls_own f xs]; rfl
theorem bls_un {α : Type} (f : α → Bool) : ∀ xs : List α, uns (xs.map fun x => D.bl (f x)) = xs.map fun x => D.bl (f x)
  | [] => rfl
  | x :: xs => by rw [List.map, uns_cons, bls_un f xs]; rfl
theorem bls_plain {α : Type} (f : α → Bool) : ∀ xs : List α, plains (xs.map fun x => D.bl (f x)) = true
  | [] => rfl
  | x :: xs => by rw [List.map, pls_cons, bls_plain f xs]; rfl
theorem encs_get {gs : List Gm} {k : Nat} (h : k < gs.length) : (encs gs)[k]? = some (enc gs[k]) := by
  simp [encs, List.getElem?_eq_getElem h]
theorem rng1L (m : Nat) (L : Nat) (h : ((L : Int) - 1).toNat = m) : rngD 1 m = (List.range m).map fun k : Nat => D.int ((k : Int) + 1) := by
  simp only [rngD]
  refine List.map_congr_left fun k _ => ?_
  rw [Int.add_comm]
theorem check_ok (gs : List Gm) (o : Bool) (n : Nat) (h1 : 1 ≤ n) (hn : n ≤ 10) (hg : Gms n gs) (hs : Srt gs) (hl : gs.length ≤ 100000) : fd_check_begun [.lst o (encs gs), .int n] = some (.rt .non) := by
  have a1 : decide ((1 : Int) ≤ (n : Int)) = true := by simp; omega
  have a2 : decide ((n : Int) ≤ 10) = true := by simp; omega
  have hb : b62 (gs.length : Int) = true := b62_small (by omega)
  have hb1 : b62 1 = true := by decide
  unfold fd_check_begun dn_check_begun
  simp only [kb_ok, kb_ex, kb_no, ret_k, lif_s, lif_n, dView_k, vView_k, dFlat_k, vFlat_int, vFlat_bl, vFlat_str, vFlat_non, dVar_k, kVar_k, dPk_k, kPk_k, dMv_k, kMv_k, dFrz_k, kFrz_k, dBin_k, vBin1_k, vBin2_k, dTest_k, vTest_k, dChain_k, vCh1_k, vCh2_k, vCh3_t, vCh3_f, dNot_k, vNot_k, dAnd_k, vAnd_t, vAnd_f, dOr_k, vOr_t, vOr_f, dAndV_k, vAndV_t, vAndV_f, dOrV_k, vOrV_t, vOrV_f, dNotV_k, vNotV_k, dIf_k, vIf_t, vIf_f, dCons_k, vCons1_k, vCons2_k, dTup_k, vTup_k, dLst_k, vLst_k, dCall_k, vCall_k, kc_rt, kc_ex, dItL_k, vItL_lst, vItL_sc, dItT_k, vItT_k, dRng1_k, vRng1_k, dRng2_k, vRng2_k, dCB_k, vCB_k, dIsi_k, vIsi_k, dListE_k, vListE_k, dListS_k, kLS_lst, dLRng1_k, vLRng1_k, dNeg_k, vNeg_k, dIxS_k, kIxS_k, vIxS_k, kIx2_lst, kIx2_tup, kIx2_sc, kIx3_k, dNx_k, dSeq_k, ks_nx, ks_rt, ks_bk, ks_ct, ks_ex, dDrop_k, kDrop_ok, kDrop_ex, dRet_k, kRet_ok, kRet_ex, dIfS_k, kIfS_t, kIfS_f, kIfS_ex, dSet_k, kSet_ok, kSet_ex, dAsg_k, kAsg_ok, kAsg_ex, kh_k, dAppend_k, kAp_k, kAp1_ok, kAp1_ex, kAp2_k, dAug_k, kAug_k, kAug1_ok, dSetItem_k, kSI_ok, kSI_ex, kSI1_k, kSI2_ok, kSI3_k, kSI4_k, dAugItem_k, kAI_k, kAI1_ok, kAI2_k, kAI3_k, kAI4_ok, kAI5_k, kAI6_k, dFor_k, kFor_ok, dComp_k, vComp_k, kCo_k, comp_nil, comp_cons, kc1_k, kc2_t, kc2_f, kc3_k, run_k, kRun_nx, kRun_rt, kRun_ex, hName_k, hNil_k, hCons_k, kH_k, hTup_k, gLt_int, gGt_int, gLe_int, gGe_int, gAdd_int, gMinus_int, gMul_int, gMod_int, gDiv_int, gIx_lst, gIx_tup, gIx_sc, gLen_lst, gLen_tup, gLen_sc, gAll_lst, gAny_lst, gSum_lst, isi_int_int, isi_int_bl, isi_bool_int, isi_bool_bl, isi_list_lst, isi_tuple_tup, isi_str_str, un_int, un_bl, un_str, un_non, un_sc, un_lst, un_tup, uns_nil, uns_cons, pl_int, pl_bl, pl_str, pl_non, pl_sc, pl_lst, pl_tup, pls_nil, pls_cons, ow_int, ow_bl, ow_str, ow_non, ow_lst, ow_tup, ows_nil, ows_cons, wipe_nil, wipe_cons, ints_nil, ints_cons, gBest_lst, gBest_tup, kBest_k, dKeep_k, vKeep_k, dCat_k, vCat1_k, vCat2_k, catD_k, dSorted_k, vSorted_k, sortD_k, dClear_k, kClr_k, dInsert_k, kIn_k, kIn1_ok, kIn2_ok, kIn3_k, tg_int, tg_bl, tg_str, tg_non, tg_tup, tgs_nil, tgs_cons, dRevT_k, vRevT_k, revTD_k, dRevL_k, vRevL_k, revLD_k, dTupOf_k, vTupOf_k, tupD_k, dCatM_k, vCatM1_k, vCatM2_k, catM_k, dTryB_k, kTry_nx, kTry_rt, kTry_ex, kTry2_k, isi_tuple_non, isi_tuple_lst, isi_int_lst, isi_int_str, isi_int_non, bls_nil, bls_cons, bnd_k, bigL0, bigL1, bigL2, bigL3, bigP0, bigP1, List.length_cons, List.length_nil, List.replicate, List.map_cons, List.map_nil, List.cons_append, List.nil_append, List.append_nil, List.getElem?_cons_zero, List.getElem?_cons_succ, List.set_cons_zero, List.set_cons_succ, Option.map_some, Option.map_none, Bool.not_true, Bool.not_false, if_true, Bool.false_eq_true, if_false, Nat.reduceAdd, Nat.reduceSub, Nat.reduceEqDiff, Bool.and_true, Bool.true_and, Bool.and_self, ite_true, ite_false, Nat.reduceLeDiff, reduceIte, reduceCtorEq, eq_self, decide_true, decide_false, not_true_eq_false, not_false_eq_true, Bool.false_and, Bool.and_false, Bool.or_false, Bool.false_or, Bool.true_or, Bool.or_true, within_int, a1, a2, encs_un, encs_plain]
  generalize hC : comp _ _ _ _ _ _ _ = r
  have := comp_map_of hC enc (fun p => D.bl (isG n p)) gs rfl rfl (by rw [big_val]; omega) (by
    intro p hp
    refine ⟨_, rfl, fun r hr => ?_⟩
    simp only [kb_ok, kb_ex, kb_no, ret_k, lif_s, lif_n, dView_k, vView_k, dFlat_k, vFlat_int, vFlat_bl, vFlat_str, vFlat_non, dVar_k, kVar_k, dPk_k, kPk_k, dMv_k, kMv_k, dFrz_k, kFrz_k, dBin_k, vBin1_k, vBin2_k, dTest_k, vTest_k, dChain_k, vCh1_k, vCh2_k, vCh3_t, vCh3_f, dNot_k, vNot_k, dAnd_k, vAnd_t, vAnd_f, dOr_k, vOr_t, vOr_f, dAndV_k, vAndV_t, vAndV_f, dOrV_k, vOrV_t, vOrV_f, dNotV_k, vNotV_k, dIf_k, vIf_t, vIf_f, dCons_k, vCons1_k, vCons2_k, dTup_k, vTup_k, dLst_k, vLst_k, dCall_k, vCall_k, kc_rt, kc_ex, dItL_k, vItL_lst, vItL_sc, dItT_k, vItT_k, dRng1_k, vRng1_k, dRng2_k, vRng2_k, dCB_k, vCB_k, dIsi_k, vIsi_k, dListE_k, vListE_k, dListS_k, kLS_lst, dLRng1_k, vLRng1_k, dNeg_k, vNeg_k, dIxS_k, kIxS_k, vIxS_k, kIx2_lst, kIx2_tup, kIx2_sc, kIx3_k, dNx_k, dSeq_k, ks_nx, ks_rt, ks_bk, ks_ct, ks_ex, dDrop_k, kDrop_ok, kDrop_ex, dRet_k, kRet_ok, kRet_ex, dIfS_k, kIfS_t, kIfS_f, kIfS_ex, dSet_k, kSet_ok, kSet_ex, dAsg_k, kAsg_ok, kAsg_ex, kh_k, dAppend_k, kAp_k, kAp1_ok, kAp1_ex, kAp2_k, dAug_k, kAug_k, kAug1_ok, dSetItem_k, kSI_ok, kSI_ex, kSI1_k, kSI2_ok, kSI3_k, kSI4_k, dAugItem_k, kAI_k, kAI1_ok, kAI2_k, kAI3_k, kAI4_ok, kAI5_k, kAI6_k, dFor_k, kFor_ok, dComp_k, vComp_k, kCo_k, comp_nil, comp_cons, kc1_k, kc2_t, kc2_f, kc3_k, run_k, kRun_nx, kRun_rt, kRun_ex, hName_k, hNil_k, hCons_k, kH_k, hTup_k, gLt_int, gGt_int, gLe_int, gGe_int, gAdd_int, gMinus_int, gMul_int, gMod_int, gDiv_int, gIx_lst, gIx_tup, gIx_sc, gLen_lst, gLen_tup, gLen_sc, gAll_lst, gAny_lst, gSum_lst, isi_int_int, isi_int_bl, isi_bool_int, isi_bool_bl, isi_list_lst, isi_tuple_tup, isi_str_str, un_int, un_bl, un_str, un_non, un_sc, un_lst, un_tup, uns_nil, uns_cons, pl_int, pl_bl, pl_str, pl_non, pl_sc, pl_lst, pl_tup, pls_nil, pls_cons, ow_int, ow_bl, ow_str, ow_non, ow_lst, ow_tup, ows_nil, ows_cons, wipe_nil, wipe_cons, ints_nil, ints_cons, gBest_lst, gBest_tup, kBest_k, dKeep_k, vKeep_k, dCat_k, vCat1_k, vCat2_k, catD_k, dSorted_k, vSorted_k, sortD_k, dClear_k, kClr_k, dInsert_k, kIn_k, kIn1_ok, kIn2_ok, kIn3_k, tg_int, tg_bl, tg_str, tg_non, tg_tup, tgs_nil, tgs_cons, dRevT_k, vRevT_k, revTD_k, dRevL_k, vRevL_k, revLD_k, dTupOf_k, vTupOf_k, tupD_k, dCatM_k, vCatM1_k, vCatM2_k, catM_k, dTryB_k, kTry_nx, kTry_rt, kTry_ex, kTry2_k, isi_tuple_non, isi_tuple_lst, isi_int_lst, isi_int_str, isi_int_non, bls_nil, bls_cons, bnd_k, bigL0, bigL1, bigL2, bigL3, bigP0, bigP1, List.length_cons, List.length_nil, List.replicate, List.map_cons, List.map_nil, List.cons_append, List.nil_append, List.append_nil, List.getElem?_cons_zero, List.getElem?_cons_succ, List.set_cons_zero, List.set_cons_succ, Option.map_some, Option.map_none, Bool.not_true, Bool.not_false, if_true, Bool.false_eq_true, if_false, Nat.reduceAdd, Nat.reduceSub, Nat.reduceEqDiff, Bool.and_true, Bool.true_and, Bool.and_self, ite_true, ite_false, Nat.reduceLeDiff, reduceIte, reduceCtorEq, eq_self, decide_true, decide_false, not_true_eq_false, not_false_eq_true, Bool.false_and, Bool.and_false, Bool.or_false, Bool.false_or, Bool.true_or, Bool.or_true, enc_un, is_game_eq] at hr
    exact ⟨_, hr.symm, rfl⟩)
  rw [this]
  have hall : (gs.map (isG n)).all id = true := by
    rw [List.all_eq_true]
    intro b hb
    obtain ⟨p, hp, rfl⟩ := List.mem_map.1 hb
    exact hg p hp
  simp only [kb_ok, kb_ex, kb_no, ret_k, lif_s, lif_n, dView_k, vView_k, dFlat_k, vFlat_int, vFlat_bl, vFlat_str, vFlat_non, dVar_k, kVar_k, dPk_k, kPk_k, dMv_k, kMv_k, dFrz_k, kFrz_k, dBin_k, vBin1_k, vBin2_k, dTest_k, vTest_k, dChain_k, vCh1_k, vCh2_k, vCh3_t, vCh3_f, dNot_k, vNot_k, dAnd_k, vAnd_t, vAnd_f, dOr_k, vOr_t, vOr_f, dAndV_k, vAndV_t, vAndV_f, dOrV_k, vOrV_t, vOrV_f, dNotV_k, vNotV_k, dIf_k, vIf_t, vIf_f, dCons_k, vCons1_k, vCons2_k, dTup_k, vTup_k, dLst_k, vLst_k, dCall_k, vCall_k, kc_rt, kc_ex, dItL_k, vItL_lst, vItL_sc, dItT_k, vItT_k, dRng1_k, vRng1_k, dRng2_k, vRng2_k, dCB_k, vCB_k, dIsi_k, vIsi_k, dListE_k, vListE_k, dListS_k, kLS_lst, dLRng1_k, vLRng1_k, dNeg_k, vNeg_k, dIxS_k, kIxS_k, vIxS_k, kIx2_lst, kIx2_tup, kIx2_sc, kIx3_k, dNx_k, dSeq_k, ks_nx, ks_rt, ks_bk, ks_ct, ks_ex, dDrop_k, kDrop_ok, kDrop_ex, dRet_k, kRet_ok, kRet_ex, dIfS_k, kIfS_t, kIfS_f, kIfS_ex, dSet_k, kSet_ok, kSet_ex, dAsg_k, kAsg_ok, kAsg_ex, kh_k, dAppend_k, kAp_k, kAp1_ok, kAp1_ex, kAp2_k, dAug_k, kAug_k, kAug1_ok, dSetItem_k, kSI_ok, kSI_ex, kSI1_k, kSI2_ok, kSI3_k, kSI4_k, dAugItem_k, kAI_k, kAI1_ok, kAI2_k, kAI3_k, kAI4_ok, kAI5_k, kAI6_k, dFor_k, kFor_ok, dComp_k, vComp_k, kCo_k, comp_nil, comp_cons, kc1_k, kc2_t, kc2_f, kc3_k, run_k, kRun_nx, kRun_rt, kRun_ex, hName_k, hNil_k, hCons_k, kH_k, hTup_k, gLt_int, gGt_int, gLe_int, gGe_int, gAdd_int, gMinus_int, gMul_int, gMod_int, gDiv_int, gIx_lst, gIx_tup, gIx_sc, gLen_lst, gLen_tup, gLen_sc, gAll_lst, gAny_lst, gSum_lst, isi_int_int, isi_int_bl, isi_bool_int, isi_bool_bl, isi_list_lst, isi_tuple_tup, isi_str_str, un_int, un_bl, un_str, un_non, un_sc, un_lst, un_tup, uns_nil, uns_cons, pl_int, pl_bl, pl_str, pl_non, pl_sc, pl_lst, pl_tup, pls_nil, pls_cons, ow_int, ow_bl, ow_str, ow_non, ow_lst, ow_tup, ows_nil, ows_cons, wipe_nil, wipe_cons, ints_nil, ints_cons, gBest_lst, gBest_tup, kBest_k, dKeep_k, vKeep_k, dCat_k, vCat1_k, vCat2_k, catD_k, dSorted_k, vSorted_k, sortD_k, dClear_k, kClr_k, dInsert_k, kIn_k, kIn1_ok, kIn2_ok, kIn3_k, tg_int, tg_bl, tg_str, tg_non, tg_tup, tgs_nil, tgs_cons, dRevT_k, vRevT_k, revTD_k, dRevL_k, vRevL_k, revLD_k, dTupOf_k, vTupOf_k, tupD_k, dCatM_k, vCatM1_k, vCatM2_k, catM_k, dTryB_k, kTry_nx, kTry_rt, kTry_ex, kTry2_k, isi_tuple_non, isi_tuple_lst, isi_int_lst, isi_int_str, isi_int_non, bls_nil, bls_cons, bnd_k, bigL0, bigL1, bigL2, bigL3, bigP0, bigP1, List.length_cons, List.length_nil, List.replicate, List.map_cons, List.map_nil, List.cons_append, List.nil_append, List.append_nil, List.getElem?_cons_zero, List.getElem?_cons_succ, List.set_cons_zero, List.set_cons_succ, Option.map_some, Option.map_none, Bool.not_true, Bool.not_false, if_true, Bool.false_eq_true, if_false, Nat.reduceAdd, Nat.reduceSub, Nat.reduceEqDiff, Bool.and_true, Bool.true_and, Bool.and_self, ite_true, ite_false, Nat.reduceLeDiff, reduceIte, reduceCtorEq, eq_self, decide_true, decide_false, not_true_eq_false, not_false_eq_true, Bool.false_and, Bool.and_false, Bool.or_false, Bool.false_or, Bool.true_or, Bool.or_true, blsOf_all, hall, hb, hb1, encs_un, encs_len, bls_own, bls_un]
  generalize hL : loop _ _ _ _ = r
  obtain ⟨ρ', rfl, a, rfl⟩ := loop_gen_of hL (fun k : Nat => D.int ((k : Int) + 1)) (fun _ _ => ()) (fun _ ρ => ∃ a, ρ = [some (.lst false (encs gs)), some (.int n), a, none]) (List.range ((gs.length : Int) - 1).toNat) () (rng1L _ _ rfl) ⟨none, rfl⟩ (by
    rintro k hk _ ρ ⟨a, rfl⟩
    have hk' : k + 1 < gs.length := by
      have := List.mem_range.1 hk
      omega
    have e1 : ((k : Int) + 1 - 1) = (k : Nat) := by omega
    have e2 : ((k : Int) + 1) = ((k + 1 : Nat) : Int) := by omega
    have hlt : plt (gm gs[k]) (gm gs[k + 1]) = true := by
      have := List.pairwise_iff_getElem.1 hs k (k + 1) (by simp; omega) (by simpa using hk') (by omega)
      simpa using this
    refine ⟨_, rfl, fun r hr => ?_⟩
    simp only [kb_ok, kb_ex, kb_no, ret_k, lif_s, lif_n, dView_k, vView_k, dFlat_k, vFlat_int, vFlat_bl, vFlat_str, vFlat_non, dVar_k, kVar_k, dPk_k, kPk_k, dMv_k, kMv_k, dFrz_k, kFrz_k, dBin_k, vBin1_k, vBin2_k, dTest_k, vTest_k, dChain_k, vCh1_k, vCh2_k, vCh3_t, vCh3_f, dNot_k, vNot_k, dAnd_k, vAnd_t, vAnd_f, dOr_k, vOr_t, vOr_f, dAndV_k, vAndV_t, vAndV_f, dOrV_k, vOrV_t, vOrV_f, dNotV_k, vNotV_k, dIf_k, vIf_t, vIf_f, dCons_k, vCons1_k, vCons2_k, dTup_k, vTup_k, dLst_k, vLst_k, dCall_k, vCall_k, kc_rt, kc_ex, dItL_k, vItL_lst, vItL_sc, dItT_k, vItT_k, dRng1_k, vRng1_k, dRng2_k, vRng2_k, dCB_k, vCB_k, dIsi_k, vIsi_k, dListE_k, vListE_k, dListS_k, kLS_lst, dLRng1_k, vLRng1_k, dNeg_k, vNeg_k, dIxS_k, kIxS_k, vIxS_k, kIx2_lst, kIx2_tup, kIx2_sc, kIx3_k, dNx_k, dSeq_k, ks_nx, ks_rt, ks_bk, ks_ct, ks_ex, dDrop_k, kDrop_ok, kDrop_ex, dRet_k, kRet_ok, kRet_ex, dIfS_k, kIfS_t, kIfS_f, kIfS_ex, dSet_k, kSet_ok, kSet_ex, dAsg_k, kAsg_ok, kAsg_ex, kh_k, dAppend_k, kAp_k, kAp1_ok, kAp1_ex, kAp2_k, dAug_k, kAug_k, kAug1_ok, dSetItem_k, kSI_ok, kSI_ex, kSI1_k, kSI2_ok, kSI3_k, kSI4_k, dAugItem_k, kAI_k, kAI1_ok, kAI2_k, kAI3_k, kAI4_ok, kAI5_k, kAI6_k, dFor_k, kFor_ok, dComp_k, vComp_k, kCo_k, comp_nil, comp_cons, kc1_k, kc2_t, kc2_f, kc3_k, run_k, kRun_nx, kRun_rt, kRun_ex, hName_k, hNil_k, hCons_k, kH_k, hTup_k, gLt_int, gGt_int, gLe_int, gGe_int, gAdd_int, gMinus_int, gMul_int, gMod_int, gDiv_int, gIx_lst, gIx_tup, gIx_sc, gLen_lst, gLen_tup, gLen_sc, gAll_lst, gAny_lst, gSum_lst, isi_int_int, isi_int_bl, isi_bool_int, isi_bool_bl, isi_list_lst, isi_tuple_tup, isi_str_str, un_int, un_bl, un_str, un_non, un_sc, un_lst, un_tup, uns_nil, uns_cons, pl_int, pl_bl, pl_str, pl_non, pl_sc, pl_lst, pl_tup, pls_nil, pls_cons, ow_int, ow_bl, ow_str, ow_non, ow_lst, ow_tup, ows_nil, ows_cons, wipe_nil, wipe_cons, ints_nil, ints_cons, gBest_lst, gBest_tup, kBest_k, dKeep_k, vKeep_k, dCat_k, vCat1_k, vCat2_k, catD_k, dSorted_k, vSorted_k, sortD_k, dClear_k, kClr_k, dInsert_k, kIn_k, kIn1_ok, kIn2_ok, kIn3_k, tg_int, tg_bl, tg_str, tg_non, tg_tup, tgs_nil, tgs_cons, dRevT_k, vRevT_k, revTD_k, dRevL_k, vRevL_k, revLD_k, dTupOf_k, vTupOf_k, tupD_k, dCatM_k, vCatM1_k, vCatM2_k, catM_k, dTryB_k, kTry_nx, kTry_rt, kTry_ex, kTry2_k, isi_tuple_non, isi_tuple_lst, isi_int_lst, isi_int_str, isi_int_non, bls_nil, bls_cons, bnd_k, bigL0, bigL1, bigL2, bigL3, bigP0, bigP1, List.length_cons, List.length_nil, List.replicate, List.map_cons, List.map_nil, List.cons_append, List.nil_append, List.append_nil, List.getElem?_cons_zero, List.getElem?_cons_succ, List.set_cons_zero, List.set_cons_succ, Option.map_some, Option.map_none, Bool.not_true, Bool.not_false, if_true, Bool.false_eq_true, if_false, Nat.reduceAdd, Nat.reduceSub, Nat.reduceEqDiff, Bool.and_true, Bool.true_and, Bool.and_self, ite_true, ite_false, Nat.reduceLeDiff, reduceIte, reduceCtorEq, eq_self, decide_true, decide_false, not_true_eq_false, not_false_eq_true, Bool.false_and, Bool.and_false, Bool.or_false, Bool.false_or, Bool.true_or, Bool.or_true, encs_un, e1] at hr
    rw [e2] at hr
    simp only [kb_ok, kb_ex, kb_no, ret_k, lif_s, lif_n, dView_k, vView_k, dFlat_k, vFlat_int, vFlat_bl, vFlat_str, vFlat_non, dVar_k, kVar_k, dPk_k, kPk_k, dMv_k, kMv_k, dFrz_k, kFrz_k, dBin_k, vBin1_k, vBin2_k, dTest_k, vTest_k, dChain_k, vCh1_k, vCh2_k, vCh3_t, vCh3_f, dNot_k, vNot_k, dAnd_k, vAnd_t, vAnd_f, dOr_k, vOr_t, vOr_f, dAndV_k, vAndV_t, vAndV_f, dOrV_k, vOrV_t, vOrV_f, dNotV_k, vNotV_k, dIf_k, vIf_t, vIf_f, dCons_k, vCons1_k, vCons2_k, dTup_k, vTup_k, dLst_k, vLst_k, dCall_k, vCall_k, kc_rt, kc_ex, dItL_k, vItL_lst, vItL_sc, dItT_k, vItT_k, dRng1_k, vRng1_k, dRng2_k, vRng2_k, dCB_k, vCB_k, dIsi_k, vIsi_k, dListE_k, vListE_k, dListS_k, kLS_lst, dLRng1_k, vLRng1_k, dNeg_k, vNeg_k, dIxS_k, kIxS_k, vIxS_k, kIx2_lst, kIx2_tup, kIx2_sc, kIx3_k, dNx_k, dSeq_k, ks_nx, ks_rt, ks_bk, ks_ct, ks_ex, dDrop_k, kDrop_ok, kDrop_ex, dRet_k, kRet_ok, kRet_ex, dIfS_k, kIfS_t, kIfS_f, kIfS_ex, dSet_k, kSet_ok, kSet_ex, dAsg_k, kAsg_ok, kAsg_ex, kh_k, dAppend_k, kAp_k, kAp1_ok, kAp1_ex, kAp2_k, dAug_k, kAug_k, kAug1_ok, dSetItem_k, kSI_ok, kSI_ex, kSI1_k, kSI2_ok, kSI3_k, kSI4_k, dAugItem_k, kAI_k, kAI1_ok, kAI2_k, kAI3_k, kAI4_ok, kAI5_k, kAI6_k, dFor_k, kFor_ok, dComp_k, vComp_k, kCo_k, comp_nil, comp_cons, kc1_k, kc2_t, kc2_f, kc3_k, run_k, kRun_nx, kRun_rt, kRun_ex, hName_k, hNil_k, hCons_k, kH_k, hTup_k, gLt_int, gGt_int, gLe_int, gGe_int, gAdd_int, gMinus_int, gMul_int, gMod_int, gDiv_int, gIx_lst, gIx_tup, gIx_sc, gLen_lst, gLen_tup, gLen_sc, gAll_lst, gAny_lst, gSum_lst, isi_int_int, isi_int_bl, isi_bool_int, isi_bool_bl, isi_list_lst, isi_tuple_tup, isi_str_str, un_int, un_bl, un_str, un_non, un_sc, un_lst, un_tup, uns_nil, uns_cons, pl_int, pl_bl, pl_str, pl_non, pl_sc, pl_lst, pl_tup, pls_nil, pls_cons, ow_int, ow_bl, ow_str, ow_non, ow_lst, ow_tup, ows_nil, ows_cons, wipe_nil, wipe_cons, ints_nil, ints_cons, gBest_lst, gBest_tup, kBest_k, dKeep_k, vKeep_k, dCat_k, vCat1_k, vCat2_k, catD_k, dSorted_k, vSorted_k, sortD_k, dClear_k, kClr_k, dInsert_k, kIn_k, kIn1_ok, kIn2_ok, kIn3_k, tg_int, tg_bl, tg_str, tg_non, tg_tup, tgs_nil, tgs_cons, dRevT_k, vRevT_k, revTD_k, dRevL_k, vRevL_k, revLD_k, dTupOf_k, vTupOf_k, tupD_k, dCatM_k, vCatM1_k, vCatM2_k, catM_k, dTryB_k, kTry_nx, kTry_rt, kTry_ex, kTry2_k, isi_tuple_non, isi_tuple_lst, isi_int_lst, isi_int_str, isi_int_non, bls_nil, bls_cons, bnd_k, bigL0, bigL1, bigL2, bigL3, bigP0, bigP1, List.length_cons, List.length_nil, List.replicate, List.map_cons, List.map_nil, List.cons_append, List.nil_append, List.append_nil, List.getElem?_cons_zero, List.getElem?_cons_succ, List.set_cons_zero, List.set_cons_succ, Option.map_some, Option.map_none, Bool.not_true, Bool.not_false, if_true, Bool.false_eq_true, if_false, Nat.reduceAdd, Nat.reduceSub, Nat.reduceEqDiff, Bool.and_true, Bool.true_and, Bool.and_self, ite_true, ite_false, Nat.reduceLeDiff, reduceIte, reduceCtorEq, eq_self, decide_true, decide_false, not_true_eq_false, not_false_eq_true, Bool.false_and, Bool.and_false, Bool.or_false, Bool.false_or, Bool.true_or, Bool.or_true, encs_un, atI_nat, encs_get hk', encs_get (Nat.lt_of_succ_lt hk'), game_of_eq, enc_un, enc_own, gGe_enc, hlt] at hr
    exact ⟨_, .inl hr.symm, _, rfl⟩)
  simp only [kb_ok, kb_ex, kb_no, ret_k, lif_s, lif_n, dView_k, vView_k, dFlat_k, vFlat_int, vFlat_bl, vFlat_str, vFlat_non, dVar_k, kVar_k, dPk_k, kPk_k, dMv_k, kMv_k, dFrz_k, kFrz_k, dBin_k, vBin1_k, vBin2_k, dTest_k, vTest_k, dChain_k, vCh1_k, vCh2_k, vCh3_t, vCh3_f, dNot_k, vNot_k, dAnd_k, vAnd_t, vAnd_f, dOr_k, vOr_t, vOr_f, dAndV_k, vAndV_t, vAndV_f, dOrV_k, vOrV_t, vOrV_f, dNotV_k, vNotV_k, dIf_k, vIf_t, vIf_f, dCons_k, vCons1_k, vCons2_k, dTup_k, vTup_k, dLst_k, vLst_k, dCall_k, vCall_k, kc_rt, kc_ex, dItL_k, vItL_lst, vItL_sc, dItT_k, vItT_k, dRng1_k, vRng1_k, dRng2_k, vRng2_k, dCB_k, vCB_k, dIsi_k, vIsi_k, dListE_k, vListE_k, dListS_k, kLS_lst, dLRng1_k, vLRng1_k, dNeg_k, vNeg_k, dIxS_k, kIxS_k, vIxS_k, kIx2_lst, kIx2_tup, kIx2_sc, kIx3_k, dNx_k, dSeq_k, ks_nx, ks_rt, ks_bk, ks_ct, ks_ex, dDrop_k, kDrop_ok, kDrop_ex, dRet_k, kRet_ok, kRet_ex, dIfS_k, kIfS_t, kIfS_f, kIfS_ex, dSet_k, kSet_ok, kSet_ex, dAsg_k, kAsg_ok, kAsg_ex, kh_k, dAppend_k, kAp_k, kAp1_ok, kAp1_ex, kAp2_k, dAug_k, kAug_k, kAug1_ok, dSetItem_k, kSI_ok, kSI_ex, kSI1_k, kSI2_ok, kSI3_k, kSI4_k, dAugItem_k, kAI_k, kAI1_ok, kAI2_k, kAI3_k, kAI4_ok, kAI5_k, kAI6_k, dFor_k, kFor_ok, dComp_k, vComp_k, kCo_k, comp_nil, comp_cons, kc1_k, kc2_t, kc2_f, kc3_k, run_k, kRun_nx, kRun_rt, kRun_ex, hName_k, hNil_k, hCons_k, kH_k, hTup_k, gLt_int, gGt_int, gLe_int, gGe_int, gAdd_int, gMinus_int, gMul_int, gMod_int, gDiv_int, gIx_lst, gIx_tup, gIx_sc, gLen_lst, gLen_tup, gLen_sc, gAll_lst, gAny_lst, gSum_lst, isi_int_int, isi_int_bl, isi_bool_int, isi_bool_bl, isi_list_lst, isi_tuple_tup, isi_str_str, un_int, un_bl, un_str, un_non, un_sc, un_lst, un_tup, uns_nil, uns_cons, pl_int, pl_bl, pl_str, pl_non, pl_sc, pl_lst, pl_tup, pls_nil, pls_cons, ow_int, ow_bl, ow_str, ow_non, ow_lst, ow_tup, ows_nil, ows_cons, wipe_nil, wipe_cons, ints_nil, ints_cons, gBest_lst, gBest_tup, kBest_k, dKeep_k, vKeep_k, dCat_k, vCat1_k, vCat2_k, catD_k, dSorted_k, vSorted_k, sortD_k, dClear_k, kClr_k, dInsert_k, kIn_k, kIn1_ok, kIn2_ok, kIn3_k, tg_int, tg_bl, tg_str, tg_non, tg_tup, tgs_nil, tgs_cons, dRevT_k, vRevT_k, revTD_k, dRevL_k, vRevL_k, revLD_k, dTupOf_k, vTupOf_k, tupD_k, dCatM_k, vCatM1_k, vCatM2_k, catM_k, dTryB_k, kTry_nx, kTry_rt, kTry_ex, kTry2_k, isi_tuple_non, isi_tuple_lst, isi_int_lst, isi_int_str, isi_int_non, bls_nil, bls_cons, bnd_k, bigL0, bigL1, bigL2, bigL3, bigP0, bigP1, List.length_cons, List.length_nil, List.replicate, List.map_cons, List.map_nil, List.cons_append, List.nil_append, List.append_nil, List.getElem?_cons_zero, List.getElem?_cons_succ, List.set_cons_zero, List.set_cons_succ, Option.map_some, Option.map_none, Bool.not_true, Bool.not_false, if_true, Bool.false_eq_true, if_false, Nat.reduceAdd, Nat.reduceSub, Nat.reduceEqDiff, Bool.and_true, Bool.true_and, Bool.and_self, ite_true, ite_false, Nat.reduceLeDiff, reduceIte, reduceCtorEq, eq_self, decide_true, decide_false, not_true_eq_false, not_false_eq_true, Bool.false_and, Bool.and_false, Bool.or_false, Bool.false_or, Bool.true_or, Bool.or_true]
end Sh

set_option Elab.async false
set_option linter.all false
set_option maxRecDepth 100000
/-! The plain laws, part F: the games left. -/
namespace Sh
open L2 Ly
theorem enc_mk (i j : Nat) : D.tup [.int (i : Int), .int (j : Int)] = enc (i, j) := rfl
theorem ap_nil {α : Type} (xs : List α) : xs ++ [] = xs := by simp
theorem encs_snoc (s : List Gm) (i j : Nat) : encs s ++ [D.tup [.int (i : Int), .int (j : Int)]] = encs (s ++ [(i, j)]) := by simp [encs, enc]
theorem flat_if {α : Type} (p : α → Bool) : ∀ xs : List α, xs.flatMap (fun a => if p a = true then [a] else []) = xs.filter p
  | [] => rfl
  | x :: xs => by
    rw [List.flatMap_cons, flat_if p xs, List.filter_cons]
    split <;> simp
theorem gNotIn_encs (i j : Nat) (o : Bool) (gs : List Gm) : gNotIn (.tup [.int (i : Int), .int (j : Int)]) (.lst o (encs gs)) = some (.bl (!decide ((i, j) ∈ gs))) := by
  rw [gNotIn_lst, enc_mk, encs_in, enc_fit, encs_fit]
  rfl
theorem unplayed_eq (gs : List Gm) (o : Bool) (n : Nat) (hn : n ≤ 10) (hl : gs.length ≤ 100000) : fd_unplayed [.lst o (encs gs), .int n] = some (.rt (.lst true (encs ((pairs n).filter fun p => !decide (p ∈ gs.map gm))))) := by
  have hb : b62 (n : Int) = true := b62_small (by omega)
  have hp := pairs_big hn
  unfold fd_unplayed dn_unplayed
  simp only [kb_ok, kb_ex, kb_no, ret_k, lif_s, lif_n, dView_k, vView_k, dFlat_k, vFlat_int, vFlat_bl, vFlat_str, vFlat_non, dVar_k, kVar_k, dPk_k, kPk_k, dMv_k, kMv_k, dFrz_k, kFrz_k, dBin_k, vBin1_k, vBin2_k, dTest_k, vTest_k, dChain_k, vCh1_k, vCh2_k, vCh3_t, vCh3_f, dNot_k, vNot_k, dAnd_k, vAnd_t, vAnd_f, dOr_k, vOr_t, vOr_f, dAndV_k, vAndV_t, vAndV_f, dOrV_k, vOrV_t, vOrV_f, dNotV_k, vNotV_k, dIf_k, vIf_t, vIf_f, dCons_k, vCons1_k, vCons2_k, dTup_k, vTup_k, dLst_k, vLst_k, dCall_k, vCall_k, kc_rt, kc_ex, dItL_k, vItL_lst, vItL_sc, dItT_k, vItT_k, dRng1_k, vRng1_k, dRng2_k, vRng2_k, dCB_k, vCB_k, dIsi_k, vIsi_k, dListE_k, vListE_k, dListS_k, kLS_lst, dLRng1_k, vLRng1_k, dNeg_k, vNeg_k, dIxS_k, kIxS_k, vIxS_k, kIx2_lst, kIx2_tup, kIx2_sc, kIx3_k, dNx_k, dSeq_k, ks_nx, ks_rt, ks_bk, ks_ct, ks_ex, dDrop_k, kDrop_ok, kDrop_ex, dRet_k, kRet_ok, kRet_ex, dIfS_k, kIfS_t, kIfS_f, kIfS_ex, dSet_k, kSet_ok, kSet_ex, dAsg_k, kAsg_ok, kAsg_ex, kh_k, dAppend_k, kAp_k, kAp1_ok, kAp1_ex, kAp2_k, dAug_k, kAug_k, kAug1_ok, dSetItem_k, kSI_ok, kSI_ex, kSI1_k, kSI2_ok, kSI3_k, kSI4_k, dAugItem_k, kAI_k, kAI1_ok, kAI2_k, kAI3_k, kAI4_ok, kAI5_k, kAI6_k, dFor_k, kFor_ok, dComp_k, vComp_k, kCo_k, comp_nil, comp_cons, kc1_k, kc2_t, kc2_f, kc3_k, run_k, kRun_nx, kRun_rt, kRun_ex, hName_k, hNil_k, hCons_k, kH_k, hTup_k, gLt_int, gGt_int, gLe_int, gGe_int, gAdd_int, gMinus_int, gMul_int, gMod_int, gDiv_int, gIx_lst, gIx_tup, gIx_sc, gLen_lst, gLen_tup, gLen_sc, gAll_lst, gAny_lst, gSum_lst, isi_int_int, isi_int_bl, isi_bool_int, isi_bool_bl, isi_list_lst, isi_tuple_tup, isi_str_str, un_int, un_bl, un_str, un_non, un_sc, un_lst, un_tup, uns_nil, uns_cons, pl_int, pl_bl, pl_str, pl_non, pl_sc, pl_lst, pl_tup, pls_nil, pls_cons, ow_int, ow_bl, ow_str, ow_non, ow_lst, ow_tup, ows_nil, ows_cons, wipe_nil, wipe_cons, ints_nil, ints_cons, gBest_lst, gBest_tup, kBest_k, dKeep_k, vKeep_k, dCat_k, vCat1_k, vCat2_k, catD_k, dSorted_k, vSorted_k, sortD_k, dClear_k, kClr_k, dInsert_k, kIn_k, kIn1_ok, kIn2_ok, kIn3_k, tg_int, tg_bl, tg_str, tg_non, tg_tup, tgs_nil, tgs_cons, dRevT_k, vRevT_k, revTD_k, dRevL_k, vRevL_k, revLD_k, dTupOf_k, vTupOf_k, tupD_k, dCatM_k, vCatM1_k, vCatM2_k, catM_k, dTryB_k, kTry_nx, kTry_rt, kTry_ex, kTry2_k, isi_tuple_non, isi_tuple_lst, isi_int_lst, isi_int_str, isi_int_non, bls_nil, bls_cons, bnd_k, bigL0, bigL1, bigL2, bigL3, bigP0, bigP1, List.length_cons, List.length_nil, List.replicate, List.map_cons, List.map_nil, List.cons_append, List.nil_append, List.append_nil, List.getElem?_cons_zero, List.getElem?_cons_succ, List.set_cons_zero, List.set_cons_succ, Option.map_some, Option.map_none, Bool.not_true, Bool.not_false, if_true, Bool.false_eq_true, if_false, Nat.reduceAdd, Nat.reduceSub, Nat.reduceEqDiff, Bool.and_true, Bool.true_and, Bool.and_self, ite_true, ite_false, Nat.reduceLeDiff, reduceIte, reduceCtorEq, eq_self, decide_true, decide_false, not_true_eq_false, not_false_eq_true, Bool.false_and, Bool.and_false, Bool.or_false, Bool.false_or, Bool.true_or, Bool.or_true, encs_un, encs_plain]
  generalize hC : comp _ _ _ _ _ _ _ = r
  have := comp_map_of hC enc (fun p => enc (gm p)) gs rfl rfl (by rw [big_val]; omega) (by
    intro p hp
    refine ⟨_, rfl, fun r hr => ?_⟩
    simp only [kb_ok, kb_ex, kb_no, ret_k, lif_s, lif_n, dView_k, vView_k, dFlat_k, vFlat_int, vFlat_bl, vFlat_str, vFlat_non, dVar_k, kVar_k, dPk_k, kPk_k, dMv_k, kMv_k, dFrz_k, kFrz_k, dBin_k, vBin1_k, vBin2_k, dTest_k, vTest_k, dChain_k, vCh1_k, vCh2_k, vCh3_t, vCh3_f, dNot_k, vNot_k, dAnd_k, vAnd_t, vAnd_f, dOr_k, vOr_t, vOr_f, dAndV_k, vAndV_t, vAndV_f, dOrV_k, vOrV_t, vOrV_f, dNotV_k, vNotV_k, dIf_k, vIf_t, vIf_f, dCons_k, vCons1_k, vCons2_k, dTup_k, vTup_k, dLst_k, vLst_k, dCall_k, vCall_k, kc_rt, kc_ex, dItL_k, vItL_lst, vItL_sc, dItT_k, vItT_k, dRng1_k, vRng1_k, dRng2_k, vRng2_k, dCB_k, vCB_k, dIsi_k, vIsi_k, dListE_k, vListE_k, dListS_k, kLS_lst, dLRng1_k, vLRng1_k, dNeg_k, vNeg_k, dIxS_k, kIxS_k, vIxS_k, kIx2_lst, kIx2_tup, kIx2_sc, kIx3_k, dNx_k, dSeq_k, ks_nx, ks_rt, ks_bk, ks_ct, ks_ex, dDrop_k, kDrop_ok, kDrop_ex, dRet_k, kRet_ok, kRet_ex, dIfS_k, kIfS_t, kIfS_f, kIfS_ex, dSet_k, kSet_ok, kSet_ex, dAsg_k, kAsg_ok, kAsg_ex, kh_k, dAppend_k, kAp_k, kAp1_ok, kAp1_ex, kAp2_k, dAug_k, kAug_k, kAug1_ok, dSetItem_k, kSI_ok, kSI_ex, kSI1_k, kSI2_ok, kSI3_k, kSI4_k, dAugItem_k, kAI_k, kAI1_ok, kAI2_k, kAI3_k, kAI4_ok, kAI5_k, kAI6_k, dFor_k, kFor_ok, dComp_k, vComp_k, kCo_k, comp_nil, comp_cons, kc1_k, kc2_t, kc2_f, kc3_k, run_k, kRun_nx, kRun_rt, kRun_ex, hName_k, hNil_k, hCons_k, kH_k, hTup_k, gLt_int, gGt_int, gLe_int, gGe_int, gAdd_int, gMinus_int, gMul_int, gMod_int, gDiv_int, gIx_lst, gIx_tup, gIx_sc, gLen_lst, gLen_tup, gLen_sc, gAll_lst, gAny_lst, gSum_lst, isi_int_int, isi_int_bl, isi_bool_int, isi_bool_bl, isi_list_lst, isi_tuple_tup, isi_str_str, un_int, un_bl, un_str, un_non, un_sc, un_lst, un_tup, uns_nil, uns_cons, pl_int, pl_bl, pl_str, pl_non, pl_sc, pl_lst, pl_tup, pls_nil, pls_cons, ow_int, ow_bl, ow_str, ow_non, ow_lst, ow_tup, ows_nil, ows_cons, wipe_nil, wipe_cons, ints_nil, ints_cons, gBest_lst, gBest_tup, kBest_k, dKeep_k, vKeep_k, dCat_k, vCat1_k, vCat2_k, catD_k, dSorted_k, vSorted_k, sortD_k, dClear_k, kClr_k, dInsert_k, kIn_k, kIn1_ok, kIn2_ok, kIn3_k, tg_int, tg_bl, tg_str, tg_non, tg_tup, tgs_nil, tgs_cons, dRevT_k, vRevT_k, revTD_k, dRevL_k, vRevL_k, revLD_k, dTupOf_k, vTupOf_k, tupD_k, dCatM_k, vCatM1_k, vCatM2_k, catM_k, dTryB_k, kTry_nx, kTry_rt, kTry_ex, kTry2_k, isi_tuple_non, isi_tuple_lst, isi_int_lst, isi_int_str, isi_int_non, bls_nil, bls_cons, bnd_k, bigL0, bigL1, bigL2, bigL3, bigP0, bigP1, List.length_cons, List.length_nil, List.replicate, List.map_cons, List.map_nil, List.cons_append, List.nil_append, List.append_nil, List.getElem?_cons_zero, List.getElem?_cons_succ, List.set_cons_zero, List.set_cons_succ, Option.map_some, Option.map_none, Bool.not_true, Bool.not_false, if_true, Bool.false_eq_true, if_false, Nat.reduceAdd, Nat.reduceSub, Nat.reduceEqDiff, Bool.and_true, Bool.true_and, Bool.and_self, ite_true, ite_false, Nat.reduceLeDiff, reduceIte, reduceCtorEq, eq_self, decide_true, decide_false, not_true_eq_false, not_false_eq_true, Bool.false_and, Bool.and_false, Bool.or_false, Bool.false_or, Bool.true_or, Bool.or_true, enc_un, game_of_eq, enc_own] at hr
    exact ⟨_, hr.symm, rfl⟩)
  rw [this]
  have e1 : List.map (fun p => enc (gm p)) gs = encs (gs.map gm) := by simp [encs]
  simp only [kb_ok, kb_ex, kb_no, ret_k, lif_s, lif_n, dView_k, vView_k, dFlat_k, vFlat_int, vFlat_bl, vFlat_str, vFlat_non, dVar_k, kVar_k, dPk_k, kPk_k, dMv_k, kMv_k, dFrz_k, kFrz_k, dBin_k, vBin1_k, vBin2_k, dTest_k, vTest_k, dChain_k, vCh1_k, vCh2_k, vCh3_t, vCh3_f, dNot_k, vNot_k, dAnd_k, vAnd_t, vAnd_f, dOr_k, vOr_t, vOr_f, dAndV_k, vAndV_t, vAndV_f, dOrV_k, vOrV_t, vOrV_f, dNotV_k, vNotV_k, dIf_k, vIf_t, vIf_f, dCons_k, vCons1_k, vCons2_k, dTup_k, vTup_k, dLst_k, vLst_k, dCall_k, vCall_k, kc_rt, kc_ex, dItL_k, vItL_lst, vItL_sc, dItT_k, vItT_k, dRng1_k, vRng1_k, dRng2_k, vRng2_k, dCB_k, vCB_k, dIsi_k, vIsi_k, dListE_k, vListE_k, dListS_k, kLS_lst, dLRng1_k, vLRng1_k, dNeg_k, vNeg_k, dIxS_k, kIxS_k, vIxS_k, kIx2_lst, kIx2_tup, kIx2_sc, kIx3_k, dNx_k, dSeq_k, ks_nx, ks_rt, ks_bk, ks_ct, ks_ex, dDrop_k, kDrop_ok, kDrop_ex, dRet_k, kRet_ok, kRet_ex, dIfS_k, kIfS_t, kIfS_f, kIfS_ex, dSet_k, kSet_ok, kSet_ex, dAsg_k, kAsg_ok, kAsg_ex, kh_k, dAppend_k, kAp_k, kAp1_ok, kAp1_ex, kAp2_k, dAug_k, kAug_k, kAug1_ok, dSetItem_k, kSI_ok, kSI_ex, kSI1_k, kSI2_ok, kSI3_k, kSI4_k, dAugItem_k, kAI_k, kAI1_ok, kAI2_k, kAI3_k, kAI4_ok, kAI5_k, kAI6_k, dFor_k, kFor_ok, dComp_k, vComp_k, kCo_k, comp_nil, comp_cons, kc1_k, kc2_t, kc2_f, kc3_k, run_k, kRun_nx, kRun_rt, kRun_ex, hName_k, hNil_k, hCons_k, kH_k, hTup_k, gLt_int, gGt_int, gLe_int, gGe_int, gAdd_int, gMinus_int, gMul_int, gMod_int, gDiv_int, gIx_lst, gIx_tup, gIx_sc, gLen_lst, gLen_tup, gLen_sc, gAll_lst, gAny_lst, gSum_lst, isi_int_int, isi_int_bl, isi_bool_int, isi_bool_bl, isi_list_lst, isi_tuple_tup, isi_str_str, un_int, un_bl, un_str, un_non, un_sc, un_lst, un_tup, uns_nil, uns_cons, pl_int, pl_bl, pl_str, pl_non, pl_sc, pl_lst, pl_tup, pls_nil, pls_cons, ow_int, ow_bl, ow_str, ow_non, ow_lst, ow_tup, ows_nil, ows_cons, wipe_nil, wipe_cons, ints_nil, ints_cons, gBest_lst, gBest_tup, kBest_k, dKeep_k, vKeep_k, dCat_k, vCat1_k, vCat2_k, catD_k, dSorted_k, vSorted_k, sortD_k, dClear_k, kClr_k, dInsert_k, kIn_k, kIn1_ok, kIn2_ok, kIn3_k, tg_int, tg_bl, tg_str, tg_non, tg_tup, tgs_nil, tgs_cons, dRevT_k, vRevT_k, revTD_k, dRevL_k, vRevL_k, revLD_k, dTupOf_k, vTupOf_k, tupD_k, dCatM_k, vCatM1_k, vCatM2_k, catM_k, dTryB_k, kTry_nx, kTry_rt, kTry_ex, kTry2_k, isi_tuple_non, isi_tuple_lst, isi_int_lst, isi_int_str, isi_int_non, bls_nil, bls_cons, bnd_k, bigL0, bigL1, bigL2, bigL3, bigP0, bigP1, List.length_cons, List.length_nil, List.replicate, List.map_cons, List.map_nil, List.cons_append, List.nil_append, List.append_nil, List.getElem?_cons_zero, List.getElem?_cons_succ, List.set_cons_zero, List.set_cons_succ, Option.map_some, Option.map_none, Bool.not_true, Bool.not_false, if_true, Bool.false_eq_true, if_false, Nat.reduceAdd, Nat.reduceSub, Nat.reduceEqDiff, Bool.and_true, Bool.true_and, Bool.and_self, ite_true, ite_false, Nat.reduceLeDiff, reduceIte, reduceCtorEq, eq_self, decide_true, decide_false, not_true_eq_false, not_false_eq_true, Bool.false_and, Bool.and_false, Bool.or_false, Bool.false_or, Bool.true_or, Bool.or_true, hb, Int.toNat_natCast, rngD0, e1]
  generalize hL : loop _ _ _ _ = r
  let q : Gm → Bool := fun p => !decide (p ∈ gs.map gm)
  obtain ⟨ρ', rfl, a, b, rfl⟩ := loop_app_of hL (fun k : Nat => D.int k) (fun i => (row n i).filter q) 100 (fun s ρ => ∃ a b, ρ = [some (.lst false (encs gs)), some (.int n), some (.lst true (encs (gs.map gm))), some (.lst true (encs s)), a, b, none]) (List.range n) [] rfl
    (by
      refine Nat.le_trans ?_ hp
      have h : (List.range n).flatMap (fun i => (row n i).filter q) = (pairs n).filter q := by simp [pairs, List.filter_flatMap]
      simp only [List.length_nil, Nat.zero_add]
      rw [h]
      exact List.length_filter_le _ _) ⟨none, none, rfl⟩ (by
      rintro i hi s ρ hl ⟨a, b, rfl⟩
      have hi' : i < n := by simpa using hi
      have hb2 : b62 ((i : Int) + 1) = true := b62_int (by omega) (by omega)
      refine ⟨_, rfl, fun r hr => ?_⟩
      simp only [kb_ok, kb_ex, kb_no, ret_k, lif_s, lif_n, dView_k, vView_k, dFlat_k, vFlat_int, vFlat_bl, vFlat_str, vFlat_non, dVar_k, kVar_k, dPk_k, kPk_k, dMv_k, kMv_k, dFrz_k, kFrz_k, dBin_k, vBin1_k, vBin2_k, dTest_k, vTest_k, dChain_k, vCh1_k, vCh2_k, vCh3_t, vCh3_f, dNot_k, vNot_k, dAnd_k, vAnd_t, vAnd_f, dOr_k, vOr_t, vOr_f, dAndV_k, vAndV_t, vAndV_f, dOrV_k, vOrV_t, vOrV_f, dNotV_k, vNotV_k, dIf_k, vIf_t, vIf_f, dCons_k, vCons1_k, vCons2_k, dTup_k, vTup_k, dLst_k, vLst_k, dCall_k, vCall_k, kc_rt, kc_ex, dItL_k, vItL_lst, vItL_sc, dItT_k, vItT_k, dRng1_k, vRng1_k, dRng2_k, vRng2_k, dCB_k, vCB_k, dIsi_k, vIsi_k, dListE_k, vListE_k, dListS_k, kLS_lst, dLRng1_k, vLRng1_k, dNeg_k, vNeg_k, dIxS_k, kIxS_k, vIxS_k, kIx2_lst, kIx2_tup, kIx2_sc, kIx3_k, dNx_k, dSeq_k, ks_nx, ks_rt, ks_bk, ks_ct, ks_ex, dDrop_k, kDrop_ok, kDrop_ex, dRet_k, kRet_ok, kRet_ex, dIfS_k, kIfS_t, kIfS_f, kIfS_ex, dSet_k, kSet_ok, kSet_ex, dAsg_k, kAsg_ok, kAsg_ex, kh_k, dAppend_k, kAp_k, kAp1_ok, kAp1_ex, kAp2_k, dAug_k, kAug_k, kAug1_ok, dSetItem_k, kSI_ok, kSI_ex, kSI1_k, kSI2_ok, kSI3_k, kSI4_k, dAugItem_k, kAI_k, kAI1_ok, kAI2_k, kAI3_k, kAI4_ok, kAI5_k, kAI6_k, dFor_k, kFor_ok, dComp_k, vComp_k, kCo_k, comp_nil, comp_cons, kc1_k, kc2_t, kc2_f, kc3_k, run_k, kRun_nx, kRun_rt, kRun_ex, hName_k, hNil_k, hCons_k, kH_k, hTup_k, gLt_int, gGt_int, gLe_int, gGe_int, gAdd_int, gMinus_int, gMul_int, gMod_int, gDiv_int, gIx_lst, gIx_tup, gIx_sc, gLen_lst, gLen_tup, gLen_sc, gAll_lst, gAny_lst, gSum_lst, isi_int_int, isi_int_bl, isi_bool_int, isi_bool_bl, isi_list_lst, isi_tuple_tup, isi_str_str, un_int, un_bl, un_str, un_non, un_sc, un_lst, un_tup, uns_nil, uns_cons, pl_int, pl_bl, pl_str, pl_non, pl_sc, pl_lst, pl_tup, pls_nil, pls_cons, ow_int, ow_bl, ow_str, ow_non, ow_lst, ow_tup, ows_nil, ows_cons, wipe_nil, wipe_cons, ints_nil, ints_cons, gBest_lst, gBest_tup, kBest_k, dKeep_k, vKeep_k, dCat_k, vCat1_k, vCat2_k, catD_k, dSorted_k, vSorted_k, sortD_k, dClear_k, kClr_k, dInsert_k, kIn_k, kIn1_ok, kIn2_ok, kIn3_k, tg_int, tg_bl, tg_str, tg_non, tg_tup, tgs_nil, tgs_cons, dRevT_k, vRevT_k, revTD_k, dRevL_k, vRevL_k, revLD_k, dTupOf_k, vTupOf_k, tupD_k, dCatM_k, vCatM1_k, vCatM2_k, catM_k, dTryB_k, kTry_nx, kTry_rt, kTry_ex, kTry2_k, isi_tuple_non, isi_tuple_lst, isi_int_lst, isi_int_str, isi_int_non, bls_nil, bls_cons, bnd_k, bigL0, bigL1, bigL2, bigL3, bigP0, bigP1, List.length_cons, List.length_nil, List.replicate, List.map_cons, List.map_nil, List.cons_append, List.nil_append, List.append_nil, List.getElem?_cons_zero, List.getElem?_cons_succ, List.set_cons_zero, List.set_cons_succ, Option.map_some, Option.map_none, Bool.not_true, Bool.not_false, if_true, Bool.false_eq_true, if_false, Nat.reduceAdd, Nat.reduceSub, Nat.reduceEqDiff, Bool.and_true, Bool.true_and, Bool.and_self, ite_true, ite_false, Nat.reduceLeDiff, reduceIte, reduceCtorEq, eq_self, decide_true, decide_false, not_true_eq_false, not_false_eq_true, Bool.false_and, Bool.and_false, Bool.or_false, Bool.false_or, Bool.true_or, Bool.or_true, hb, hb2, nat_sub_toNat, rngDN] at hr
      obtain ⟨ρ', rfl, b, rfl⟩ := loop_app_of hr (fun k : Nat => D.int k) (fun j => if q (i, j) = true then [(i, j)] else []) 100 (fun s ρ => ∃ b, ρ = [some (.lst false (encs gs)), some (.int n), some (.lst true (encs (gs.map gm))), some (.lst true (encs s)), some (.int i), b, none]) ((List.range (n - (i + 1))).map (fun k => i + 1 + k)) s rfl
        (by
          have h : ((List.range (n - (i + 1))).map (fun k => i + 1 + k)).flatMap (fun j => if q (i, j) = true then [(i, j)] else []) = (row n i).filter q := by
            rw [← flat_if, row, List.flatMap_map, List.flatMap_map]
          rw [h]
          exact hl) ⟨b, rfl⟩ (by
          rintro j hj s ρ hl ⟨b, rfl⟩
          refine ⟨_, rfl, fun r hr => ?_⟩
          simp only [kb_ok, kb_ex, kb_no, ret_k, lif_s, lif_n, dView_k, vView_k, dFlat_k, vFlat_int, vFlat_bl, vFlat_str, vFlat_non, dVar_k, kVar_k, dPk_k, kPk_k, dMv_k, kMv_k, dFrz_k, kFrz_k, dBin_k, vBin1_k, vBin2_k, dTest_k, vTest_k, dChain_k, vCh1_k, vCh2_k, vCh3_t, vCh3_f, dNot_k, vNot_k, dAnd_k, vAnd_t, vAnd_f, dOr_k, vOr_t, vOr_f, dAndV_k, vAndV_t, vAndV_f, dOrV_k, vOrV_t, vOrV_f, dNotV_k, vNotV_k, dIf_k, vIf_t, vIf_f, dCons_k, vCons1_k, vCons2_k, dTup_k, vTup_k, dLst_k, vLst_k, dCall_k, vCall_k, kc_rt, kc_ex, dItL_k, vItL_lst, vItL_sc, dItT_k, vItT_k, dRng1_k, vRng1_k, dRng2_k, vRng2_k, dCB_k, vCB_k, dIsi_k, vIsi_k, dListE_k, vListE_k, dListS_k, kLS_lst, dLRng1_k, vLRng1_k, dNeg_k, vNeg_k, dIxS_k, kIxS_k, vIxS_k, kIx2_lst, kIx2_tup, kIx2_sc, kIx3_k, dNx_k, dSeq_k, ks_nx, ks_rt, ks_bk, ks_ct, ks_ex, dDrop_k, kDrop_ok, kDrop_ex, dRet_k, kRet_ok, kRet_ex, dIfS_k, kIfS_t, kIfS_f, kIfS_ex, dSet_k, kSet_ok, kSet_ex, dAsg_k, kAsg_ok, kAsg_ex, kh_k, dAppend_k, kAp_k, kAp1_ok, kAp1_ex, kAp2_k, dAug_k, kAug_k, kAug1_ok, dSetItem_k, kSI_ok, kSI_ex, kSI1_k, kSI2_ok, kSI3_k, kSI4_k, dAugItem_k, kAI_k, kAI1_ok, kAI2_k, kAI3_k, kAI4_ok, kAI5_k, kAI6_k, dFor_k, kFor_ok, dComp_k, vComp_k, kCo_k, comp_nil, comp_cons, kc1_k, kc2_t, kc2_f, kc3_k, run_k, kRun_nx, kRun_rt, kRun_ex, hName_k, hNil_k, hCons_k, kH_k, hTup_k, gLt_int, gGt_int, gLe_int, gGe_int, gAdd_int, gMinus_int, gMul_int, gMod_int, gDiv_int, gIx_lst, gIx_tup, gIx_sc, gLen_lst, gLen_tup, gLen_sc, gAll_lst, gAny_lst, gSum_lst, isi_int_int, isi_int_bl, isi_bool_int, isi_bool_bl, isi_list_lst, isi_tuple_tup, isi_str_str, un_int, un_bl, un_str, un_non, un_sc, un_lst, un_tup, uns_nil, uns_cons, pl_int, pl_bl, pl_str, pl_non, pl_sc, pl_lst, pl_tup, pls_nil, pls_cons, ow_int, ow_bl, ow_str, ow_non, ow_lst, ow_tup, ows_nil, ows_cons, wipe_nil, wipe_cons, ints_nil, ints_cons, gBest_lst, gBest_tup, kBest_k, dKeep_k, vKeep_k, dCat_k, vCat1_k, vCat2_k, catD_k, dSorted_k, vSorted_k, sortD_k, dClear_k, kClr_k, dInsert_k, kIn_k, kIn1_ok, kIn2_ok, kIn3_k, tg_int, tg_bl, tg_str, tg_non, tg_tup, tgs_nil, tgs_cons, dRevT_k, vRevT_k, revTD_k, dRevL_k, vRevL_k, revLD_k, dTupOf_k, vTupOf_k, tupD_k, dCatM_k, vCatM1_k, vCatM2_k, catM_k, dTryB_k, kTry_nx, kTry_rt, kTry_ex, kTry2_k, isi_tuple_non, isi_tuple_lst, isi_int_lst, isi_int_str, isi_int_non, bls_nil, bls_cons, bnd_k, bigL0, bigL1, bigL2, bigL3, bigP0, bigP1, List.length_cons, List.length_nil, List.replicate, List.map_cons, List.map_nil, List.cons_append, List.nil_append, List.append_nil, List.getElem?_cons_zero, List.getElem?_cons_succ, List.set_cons_zero, List.set_cons_succ, Option.map_some, Option.map_none, Bool.not_true, Bool.not_false, if_true, Bool.false_eq_true, if_false, Nat.reduceAdd, Nat.reduceSub, Nat.reduceEqDiff, Bool.and_true, Bool.true_and, Bool.and_self, ite_true, ite_false, Nat.reduceLeDiff, reduceIte, reduceCtorEq, eq_self, decide_true, decide_false, not_true_eq_false, not_false_eq_true, Bool.false_and, Bool.and_false, Bool.or_false, Bool.false_or, Bool.true_or, Bool.or_true, encs_un, gNotIn_encs] at hr
          cases hq : decide ((i, j) ∈ gs.map gm) with
          | true =>
            have hq2 : q (i, j) = false := by simp only [q, hq, Bool.not_true]
            simp only [kb_ok, kb_ex, kb_no, ret_k, lif_s, lif_n, dView_k, vView_k, dFlat_k, vFlat_int, vFlat_bl, vFlat_str, vFlat_non, dVar_k, kVar_k, dPk_k, kPk_k, dMv_k, kMv_k, dFrz_k, kFrz_k, dBin_k, vBin1_k, vBin2_k, dTest_k, vTest_k, dChain_k, vCh1_k, vCh2_k, vCh3_t, vCh3_f, dNot_k, vNot_k, dAnd_k, vAnd_t, vAnd_f, dOr_k, vOr_t, vOr_f, dAndV_k, vAndV_t, vAndV_f, dOrV_k, vOrV_t, vOrV_f, dNotV_k, vNotV_k, dIf_k, vIf_t, vIf_f, dCons_k, vCons1_k, vCons2_k, dTup_k, vTup_k, dLst_k, vLst_k, dCall_k, vCall_k, kc_rt, kc_ex, dItL_k, vItL_lst, vItL_sc, dItT_k, vItT_k, dRng1_k, vRng1_k, dRng2_k, vRng2_k, dCB_k, vCB_k, dIsi_k, vIsi_k, dListE_k, vListE_k, dListS_k, kLS_lst, dLRng1_k, vLRng1_k, dNeg_k, vNeg_k, dIxS_k, kIxS_k, vIxS_k, kIx2_lst, kIx2_tup, kIx2_sc, kIx3_k, dNx_k, dSeq_k, ks_nx, ks_rt, ks_bk, ks_ct, ks_ex, dDrop_k, kDrop_ok, kDrop_ex, dRet_k, kRet_ok, kRet_ex, dIfS_k, kIfS_t, kIfS_f, kIfS_ex, dSet_k, kSet_ok, kSet_ex, dAsg_k, kAsg_ok, kAsg_ex, kh_k, dAppend_k, kAp_k, kAp1_ok, kAp1_ex, kAp2_k, dAug_k, kAug_k, kAug1_ok, dSetItem_k, kSI_ok, kSI_ex, kSI1_k, kSI2_ok, kSI3_k, kSI4_k, dAugItem_k, kAI_k, kAI1_ok, kAI2_k, kAI3_k, kAI4_ok, kAI5_k, kAI6_k, dFor_k, kFor_ok, dComp_k, vComp_k, kCo_k, comp_nil, comp_cons, kc1_k, kc2_t, kc2_f, kc3_k, run_k, kRun_nx, kRun_rt, kRun_ex, hName_k, hNil_k, hCons_k, kH_k, hTup_k, gLt_int, gGt_int, gLe_int, gGe_int, gAdd_int, gMinus_int, gMul_int, gMod_int, gDiv_int, gIx_lst, gIx_tup, gIx_sc, gLen_lst, gLen_tup, gLen_sc, gAll_lst, gAny_lst, gSum_lst, isi_int_int, isi_int_bl, isi_bool_int, isi_bool_bl, isi_list_lst, isi_tuple_tup, isi_str_str, un_int, un_bl, un_str, un_non, un_sc, un_lst, un_tup, uns_nil, uns_cons, pl_int, pl_bl, pl_str, pl_non, pl_sc, pl_lst, pl_tup, pls_nil, pls_cons, ow_int, ow_bl, ow_str, ow_non, ow_lst, ow_tup, ows_nil, ows_cons, wipe_nil, wipe_cons, ints_nil, ints_cons, gBest_lst, gBest_tup, kBest_k, dKeep_k, vKeep_k, dCat_k, vCat1_k, vCat2_k, catD_k, dSorted_k, vSorted_k, sortD_k, dClear_k, kClr_k, dInsert_k, kIn_k, kIn1_ok, kIn2_ok, kIn3_k, tg_int, tg_bl, tg_str, tg_non, tg_tup, tgs_nil, tgs_cons, dRevT_k, vRevT_k, revTD_k, dRevL_k, vRevL_k, revLD_k, dTupOf_k, vTupOf_k, tupD_k, dCatM_k, vCatM1_k, vCatM2_k, catM_k, dTryB_k, kTry_nx, kTry_rt, kTry_ex, kTry2_k, isi_tuple_non, isi_tuple_lst, isi_int_lst, isi_int_str, isi_int_non, bls_nil, bls_cons, bnd_k, bigL0, bigL1, bigL2, bigL3, bigP0, bigP1, List.length_cons, List.length_nil, List.replicate, List.map_cons, List.map_nil, List.cons_append, List.nil_append, List.append_nil, List.getElem?_cons_zero, List.getElem?_cons_succ, List.set_cons_zero, List.set_cons_succ, Option.map_some, Option.map_none, Bool.not_true, Bool.not_false, if_true, Bool.false_eq_true, if_false, Nat.reduceAdd, Nat.reduceSub, Nat.reduceEqDiff, Bool.and_true, Bool.true_and, Bool.and_self, ite_true, ite_false, Nat.reduceLeDiff, reduceIte, reduceCtorEq, eq_self, decide_true, decide_false, not_true_eq_false, not_false_eq_true, Bool.false_and, Bool.and_false, Bool.or_false, Bool.false_or, Bool.true_or, Bool.or_true, hq] at hr
            refine ⟨_, .inl hr.symm, some (.int j), ?_⟩
            have z : s ++ (if q (i, j) = true then [(i, j)] else []) = s := by rw [if_neg (by rw [hq2]; exact Bool.false_ne_true), ap_nil]
            rw [z]
          | false =>
            have hq2 : q (i, j) = true := by simp only [q, hq, Bool.not_false]
            have hz : s.length < big := by
              rw [if_pos hq2] at hl
              simp at hl
              rw [big_val]; omega
            simp only [kb_ok, kb_ex, kb_no, ret_k, lif_s, lif_n, dView_k, vView_k, dFlat_k, vFlat_int, vFlat_bl, vFlat_str, vFlat_non, dVar_k, kVar_k, dPk_k, kPk_k, dMv_k, kMv_k, dFrz_k, kFrz_k, dBin_k, vBin1_k, vBin2_k, dTest_k, vTest_k, dChain_k, vCh1_k, vCh2_k, vCh3_t, vCh3_f, dNot_k, vNot_k, dAnd_k, vAnd_t, vAnd_f, dOr_k, vOr_t, vOr_f, dAndV_k, vAndV_t, vAndV_f, dOrV_k, vOrV_t, vOrV_f, dNotV_k, vNotV_k, dIf_k, vIf_t, vIf_f, dCons_k, vCons1_k, vCons2_k, dTup_k, vTup_k, dLst_k, vLst_k, dCall_k, vCall_k, kc_rt, kc_ex, dItL_k, vItL_lst, vItL_sc, dItT_k, vItT_k, dRng1_k, vRng1_k, dRng2_k, vRng2_k, dCB_k, vCB_k, dIsi_k, vIsi_k, dListE_k, vListE_k, dListS_k, kLS_lst, dLRng1_k, vLRng1_k, dNeg_k, vNeg_k, dIxS_k, kIxS_k, vIxS_k, kIx2_lst, kIx2_tup, kIx2_sc, kIx3_k, dNx_k, dSeq_k, ks_nx, ks_rt, ks_bk, ks_ct, ks_ex, dDrop_k, kDrop_ok, kDrop_ex, dRet_k, kRet_ok, kRet_ex, dIfS_k, kIfS_t, kIfS_f, kIfS_ex, dSet_k, kSet_ok, kSet_ex, dAsg_k, kAsg_ok, kAsg_ex, kh_k, dAppend_k, kAp_k, kAp1_ok, kAp1_ex, kAp2_k, dAug_k, kAug_k, kAug1_ok, dSetItem_k, kSI_ok, kSI_ex, kSI1_k, kSI2_ok, kSI3_k, kSI4_k, dAugItem_k, kAI_k, kAI1_ok, kAI2_k, kAI3_k, kAI4_ok, kAI5_k, kAI6_k, dFor_k, kFor_ok, dComp_k, vComp_k, kCo_k, comp_nil, comp_cons, kc1_k, kc2_t, kc2_f, kc3_k, run_k, kRun_nx, kRun_rt, kRun_ex, hName_k, hNil_k, hCons_k, kH_k, hTup_k, gLt_int, gGt_int, gLe_int, gGe_int, gAdd_int, gMinus_int, gMul_int, gMod_int, gDiv_int, gIx_lst, gIx_tup, gIx_sc, gLen_lst, gLen_tup, gLen_sc, gAll_lst, gAny_lst, gSum_lst, isi_int_int, isi_int_bl, isi_bool_int, isi_bool_bl, isi_list_lst, isi_tuple_tup, isi_str_str, un_int, un_bl, un_str, un_non, un_sc, un_lst, un_tup, uns_nil, uns_cons, pl_int, pl_bl, pl_str, pl_non, pl_sc, pl_lst, pl_tup, pls_nil, pls_cons, ow_int, ow_bl, ow_str, ow_non, ow_lst, ow_tup, ows_nil, ows_cons, wipe_nil, wipe_cons, ints_nil, ints_cons, gBest_lst, gBest_tup, kBest_k, dKeep_k, vKeep_k, dCat_k, vCat1_k, vCat2_k, catD_k, dSorted_k, vSorted_k, sortD_k, dClear_k, kClr_k, dInsert_k, kIn_k, kIn1_ok, kIn2_ok, kIn3_k, tg_int, tg_bl, tg_str, tg_non, tg_tup, tgs_nil, tgs_cons, dRevT_k, vRevT_k, revTD_k, dRevL_k, vRevL_k, revLD_k, dTupOf_k, vTupOf_k, tupD_k, dCatM_k, vCatM1_k, vCatM2_k, catM_k, dTryB_k, kTry_nx, kTry_rt, kTry_ex, kTry2_k, isi_tuple_non, isi_tuple_lst, isi_int_lst, isi_int_str, isi_int_non, bls_nil, bls_cons, bnd_k, bigL0, bigL1, bigL2, bigL3, bigP0, bigP1, List.length_cons, List.length_nil, List.replicate, List.map_cons, List.map_nil, List.cons_append, List.nil_append, List.append_nil, List.getElem?_cons_zero, List.getElem?_cons_succ, List.set_cons_zero, List.set_cons_succ, Option.map_some, Option.map_none, Bool.not_true, Bool.not_false, if_true, Bool.false_eq_true, if_false, Nat.reduceAdd, Nat.reduceSub, Nat.reduceEqDiff, Bool.and_true, Bool.true_and, Bool.and_self, ite_true, ite_false, Nat.reduceLeDiff, reduceIte, reduceCtorEq, eq_self, decide_true, decide_false, not_true_eq_false, not_false_eq_true, Bool.false_and, Bool.and_false, Bool.or_false, Bool.false_or, Bool.true_or, Bool.or_true, hq, encs_len, hz] at hr
            refine ⟨_, .inl hr.symm, some (.int j), ?_⟩
            have z : s ++ (if q (i, j) = true then [(i, j)] else []) = s ++ [(i, j)] := by rw [if_pos hq2]
            rw [z, encs_snoc])
      refine ⟨_, .inl rfl, some (.int i), b, ?_⟩
      have h : ((List.range (n - (i + 1))).map (fun k => i + 1 + k)).flatMap (fun j => if q (i, j) = true then [(i, j)] else []) = (row n i).filter q := by
        rw [← flat_if, row, List.flatMap_map, List.flatMap_map]
      rw [h])
  have h : (List.range n).flatMap (fun i => (row n i).filter q) = (pairs n).filter q := by simp [pairs, List.filter_flatMap]
  simp only [kb_ok, kb_ex, kb_no, ret_k, lif_s, lif_n, dView_k, vView_k, dFlat_k, vFlat_int, vFlat_bl, vFlat_str, vFlat_non, dVar_k, kVar_k, dPk_k, kPk_k, dMv_k, kMv_k, dFrz_k, kFrz_k, dBin_k, vBin1_k, vBin2_k, dTest_k, vTest_k, dChain_k, vCh1_k, vCh2_k, vCh3_t, vCh3_f, dNot_k, vNot_k, dAnd_k, vAnd_t, vAnd_f, dOr_k, vOr_t, vOr_f, dAndV_k, vAndV_t, vAndV_f, dOrV_k, vOrV_t, vOrV_f, dNotV_k, vNotV_k, dIf_k, vIf_t, vIf_f, dCons_k, vCons1_k, vCons2_k, dTup_k, vTup_k, dLst_k, vLst_k, dCall_k, vCall_k, kc_rt, kc_ex, dItL_k, vItL_lst, vItL_sc, dItT_k, vItT_k, dRng1_k, vRng1_k, dRng2_k, vRng2_k, dCB_k, vCB_k, dIsi_k, vIsi_k, dListE_k, vListE_k, dListS_k, kLS_lst, dLRng1_k, vLRng1_k, dNeg_k, vNeg_k, dIxS_k, kIxS_k, vIxS_k, kIx2_lst, kIx2_tup, kIx2_sc, kIx3_k, dNx_k, dSeq_k, ks_nx, ks_rt, ks_bk, ks_ct, ks_ex, dDrop_k, kDrop_ok, kDrop_ex, dRet_k, kRet_ok, kRet_ex, dIfS_k, kIfS_t, kIfS_f, kIfS_ex, dSet_k, kSet_ok, kSet_ex, dAsg_k, kAsg_ok, kAsg_ex, kh_k, dAppend_k, kAp_k, kAp1_ok, kAp1_ex, kAp2_k, dAug_k, kAug_k, kAug1_ok, dSetItem_k, kSI_ok, kSI_ex, kSI1_k, kSI2_ok, kSI3_k, kSI4_k, dAugItem_k, kAI_k, kAI1_ok, kAI2_k, kAI3_k, kAI4_ok, kAI5_k, kAI6_k, dFor_k, kFor_ok, dComp_k, vComp_k, kCo_k, comp_nil, comp_cons, kc1_k, kc2_t, kc2_f, kc3_k, run_k, kRun_nx, kRun_rt, kRun_ex, hName_k, hNil_k, hCons_k, kH_k, hTup_k, gLt_int, gGt_int, gLe_int, gGe_int, gAdd_int, gMinus_int, gMul_int, gMod_int, gDiv_int, gIx_lst, gIx_tup, gIx_sc, gLen_lst, gLen_tup, gLen_sc, gAll_lst, gAny_lst, gSum_lst, isi_int_int, isi_int_bl, isi_bool_int, isi_bool_bl, isi_list_lst, isi_tuple_tup, isi_str_str, un_int, un_bl, un_str, un_non, un_sc, un_lst, un_tup, uns_nil, uns_cons, pl_int, pl_bl, pl_str, pl_non, pl_sc, pl_lst, pl_tup, pls_nil, pls_cons, ow_int, ow_bl, ow_str, ow_non, ow_lst, ow_tup, ows_nil, ows_cons, wipe_nil, wipe_cons, ints_nil, ints_cons, gBest_lst, gBest_tup, kBest_k, dKeep_k, vKeep_k, dCat_k, vCat1_k, vCat2_k, catD_k, dSorted_k, vSorted_k, sortD_k, dClear_k, kClr_k, dInsert_k, kIn_k, kIn1_ok, kIn2_ok, kIn3_k, tg_int, tg_bl, tg_str, tg_non, tg_tup, tgs_nil, tgs_cons, dRevT_k, vRevT_k, revTD_k, dRevL_k, vRevL_k, revLD_k, dTupOf_k, vTupOf_k, tupD_k, dCatM_k, vCatM1_k, vCatM2_k, catM_k, dTryB_k, kTry_nx, kTry_rt, kTry_ex, kTry2_k, isi_tuple_non, isi_tuple_lst, isi_int_lst, isi_int_str, isi_int_non, bls_nil, bls_cons, bnd_k, bigL0, bigL1, bigL2, bigL3, bigP0, bigP1, List.length_cons, List.length_nil, List.replicate, List.map_cons, List.map_nil, List.cons_append, List.nil_append, List.append_nil, List.getElem?_cons_zero, List.getElem?_cons_succ, List.set_cons_zero, List.set_cons_succ, Option.map_some, Option.map_none, Bool.not_true, Bool.not_false, if_true, Bool.false_eq_true, if_false, Nat.reduceAdd, Nat.reduceSub, Nat.reduceEqDiff, Bool.and_true, Bool.true_and, Bool.and_self, ite_true, ite_false, Nat.reduceLeDiff, reduceIte, reduceCtorEq, eq_self, decide_true, decide_false, not_true_eq_false, not_false_eq_true, Bool.false_and, Bool.and_false, Bool.or_false, Bool.false_or, Bool.true_or, Bool.or_true, h, q]
theorem wins_of_eq (gs : List Gm) (o : Bool) (n : Nat) (h1 : 1 ≤ n) (hn : n ≤ 10) (hg : Gms n gs) (hs : Srt gs) (hl : gs.length ≤ 100000) : fd_wins_of [.lst o (encs gs), .int n] = some (.rt (.lst true (winsL gs n))) := by
  unfold fd_wins_of dn_wins_of
  simp only [kb_ok, kb_ex, kb_no, ret_k, lif_s, lif_n, dView_k, vView_k, dFlat_k, vFlat_int, vFlat_bl, vFlat_str, vFlat_non, dVar_k, kVar_k, dPk_k, kPk_k, dMv_k, kMv_k, dFrz_k, kFrz_k, dBin_k, vBin1_k, vBin2_k, dTest_k, vTest_k, dChain_k, vCh1_k, vCh2_k, vCh3_t, vCh3_f, dNot_k, vNot_k, dAnd_k, vAnd_t, vAnd_f, dOr_k, vOr_t, vOr_f, dAndV_k, vAndV_t, vAndV_f, dOrV_k, vOrV_t, vOrV_f, dNotV_k, vNotV_k, dIf_k, vIf_t, vIf_f, dCons_k, vCons1_k, vCons2_k, dTup_k, vTup_k, dLst_k, vLst_k, dCall_k, vCall_k, kc_rt, kc_ex, dItL_k, vItL_lst, vItL_sc, dItT_k, vItT_k, dRng1_k, vRng1_k, dRng2_k, vRng2_k, dCB_k, vCB_k, dIsi_k, vIsi_k, dListE_k, vListE_k, dListS_k, kLS_lst, dLRng1_k, vLRng1_k, dNeg_k, vNeg_k, dIxS_k, kIxS_k, vIxS_k, kIx2_lst, kIx2_tup, kIx2_sc, kIx3_k, dNx_k, dSeq_k, ks_nx, ks_rt, ks_bk, ks_ct, ks_ex, dDrop_k, kDrop_ok, kDrop_ex, dRet_k, kRet_ok, kRet_ex, dIfS_k, kIfS_t, kIfS_f, kIfS_ex, dSet_k, kSet_ok, kSet_ex, dAsg_k, kAsg_ok, kAsg_ex, kh_k, dAppend_k, kAp_k, kAp1_ok, kAp1_ex, kAp2_k, dAug_k, kAug_k, kAug1_ok, dSetItem_k, kSI_ok, kSI_ex, kSI1_k, kSI2_ok, kSI3_k, kSI4_k, dAugItem_k, kAI_k, kAI1_ok, kAI2_k, kAI3_k, kAI4_ok, kAI5_k, kAI6_k, dFor_k, kFor_ok, dComp_k, vComp_k, kCo_k, comp_nil, comp_cons, kc1_k, kc2_t, kc2_f, kc3_k, run_k, kRun_nx, kRun_rt, kRun_ex, hName_k, hNil_k, hCons_k, kH_k, hTup_k, gLt_int, gGt_int, gLe_int, gGe_int, gAdd_int, gMinus_int, gMul_int, gMod_int, gDiv_int, gIx_lst, gIx_tup, gIx_sc, gLen_lst, gLen_tup, gLen_sc, gAll_lst, gAny_lst, gSum_lst, isi_int_int, isi_int_bl, isi_bool_int, isi_bool_bl, isi_list_lst, isi_tuple_tup, isi_str_str, un_int, un_bl, un_str, un_non, un_sc, un_lst, un_tup, uns_nil, uns_cons, pl_int, pl_bl, pl_str, pl_non, pl_sc, pl_lst, pl_tup, pls_nil, pls_cons, ow_int, ow_bl, ow_str, ow_non, ow_lst, ow_tup, ows_nil, ows_cons, wipe_nil, wipe_cons, ints_nil, ints_cons, gBest_lst, gBest_tup, kBest_k, dKeep_k, vKeep_k, dCat_k, vCat1_k, vCat2_k, catD_k, dSorted_k, vSorted_k, sortD_k, dClear_k, kClr_k, dInsert_k, kIn_k, kIn1_ok, kIn2_ok, kIn3_k, tg_int, tg_bl, tg_str, tg_non, tg_tup, tgs_nil, tgs_cons, dRevT_k, vRevT_k, revTD_k, dRevL_k, vRevL_k, revLD_k, dTupOf_k, vTupOf_k, tupD_k, dCatM_k, vCatM1_k, vCatM2_k, catM_k, dTryB_k, kTry_nx, kTry_rt, kTry_ex, kTry2_k, isi_tuple_non, isi_tuple_lst, isi_int_lst, isi_int_str, isi_int_non, bls_nil, bls_cons, bnd_k, bigL0, bigL1, bigL2, bigL3, bigP0, bigP1, List.length_cons, List.length_nil, List.replicate, List.map_cons, List.map_nil, List.cons_append, List.nil_append, List.append_nil, List.getElem?_cons_zero, List.getElem?_cons_succ, List.set_cons_zero, List.set_cons_succ, Option.map_some, Option.map_none, Bool.not_true, Bool.not_false, if_true, Bool.false_eq_true, if_false, Nat.reduceAdd, Nat.reduceSub, Nat.reduceEqDiff, Bool.and_true, Bool.true_and, Bool.and_self, ite_true, ite_false, Nat.reduceLeDiff, reduceIte, reduceCtorEq, eq_self, decide_true, decide_false, not_true_eq_false, not_false_eq_true, Bool.false_and, Bool.and_false, Bool.or_false, Bool.false_or, Bool.true_or, Bool.or_true, encs_un, check_ok gs _ n h1 hn hg hs hl, counted_eq gs _ n hn hg.inn, winsL_own]
theorem left_of_eq (gs : List Gm) (o : Bool) (n : Nat) (h1 : 1 ≤ n) (hn : n ≤ 10) (hg : Gms n gs) (hs : Srt gs) (hl : gs.length ≤ 100000) : fd_left_of [.lst o (encs gs), .int n] = some (.rt (.lst true (encs ((pairs n).filter fun p => !decide (p ∈ gs.map gm))))) := by
  unfold fd_left_of dn_left_of
  simp only [kb_ok, kb_ex, kb_no, ret_k, lif_s, lif_n, dView_k, vView_k, dFlat_k, vFlat_int, vFlat_bl, vFlat_str, vFlat_non, dVar_k, kVar_k, dPk_k, kPk_k, dMv_k, kMv_k, dFrz_k, kFrz_k, dBin_k, vBin1_k, vBin2_k, dTest_k, vTest_k, dChain_k, vCh1_k, vCh2_k, vCh3_t, vCh3_f, dNot_k, vNot_k, dAnd_k, vAnd_t, vAnd_f, dOr_k, vOr_t, vOr_f, dAndV_k, vAndV_t, vAndV_f, dOrV_k, vOrV_t, vOrV_f, dNotV_k, vNotV_k, dIf_k, vIf_t, vIf_f, dCons_k, vCons1_k, vCons2_k, dTup_k, vTup_k, dLst_k, vLst_k, dCall_k, vCall_k, kc_rt, kc_ex, dItL_k, vItL_lst, vItL_sc, dItT_k, vItT_k, dRng1_k, vRng1_k, dRng2_k, vRng2_k, dCB_k, vCB_k, dIsi_k, vIsi_k, dListE_k, vListE_k, dListS_k, kLS_lst, dLRng1_k, vLRng1_k, dNeg_k, vNeg_k, dIxS_k, kIxS_k, vIxS_k, kIx2_lst, kIx2_tup, kIx2_sc, kIx3_k, dNx_k, dSeq_k, ks_nx, ks_rt, ks_bk, ks_ct, ks_ex, dDrop_k, kDrop_ok, kDrop_ex, dRet_k, kRet_ok, kRet_ex, dIfS_k, kIfS_t, kIfS_f, kIfS_ex, dSet_k, kSet_ok, kSet_ex, dAsg_k, kAsg_ok, kAsg_ex, kh_k, dAppend_k, kAp_k, kAp1_ok, kAp1_ex, kAp2_k, dAug_k, kAug_k, kAug1_ok, dSetItem_k, kSI_ok, kSI_ex, kSI1_k, kSI2_ok, kSI3_k, kSI4_k, dAugItem_k, kAI_k, kAI1_ok, kAI2_k, kAI3_k, kAI4_ok, kAI5_k, kAI6_k, dFor_k, kFor_ok, dComp_k, vComp_k, kCo_k, comp_nil, comp_cons, kc1_k, kc2_t, kc2_f, kc3_k, run_k, kRun_nx, kRun_rt, kRun_ex, hName_k, hNil_k, hCons_k, kH_k, hTup_k, gLt_int, gGt_int, gLe_int, gGe_int, gAdd_int, gMinus_int, gMul_int, gMod_int, gDiv_int, gIx_lst, gIx_tup, gIx_sc, gLen_lst, gLen_tup, gLen_sc, gAll_lst, gAny_lst, gSum_lst, isi_int_int, isi_int_bl, isi_bool_int, isi_bool_bl, isi_list_lst, isi_tuple_tup, isi_str_str, un_int, un_bl, un_str, un_non, un_sc, un_lst, un_tup, uns_nil, uns_cons, pl_int, pl_bl, pl_str, pl_non, pl_sc, pl_lst, pl_tup, pls_nil, pls_cons, ow_int, ow_bl, ow_str, ow_non, ow_lst, ow_tup, ows_nil, ows_cons, wipe_nil, wipe_cons, ints_nil, ints_cons, gBest_lst, gBest_tup, kBest_k, dKeep_k, vKeep_k, dCat_k, vCat1_k, vCat2_k, catD_k, dSorted_k, vSorted_k, sortD_k, dClear_k, kClr_k, dInsert_k, kIn_k, kIn1_ok, kIn2_ok, kIn3_k, tg_int, tg_bl, tg_str, tg_non, tg_tup, tgs_nil, tgs_cons, dRevT_k, vRevT_k, revTD_k, dRevL_k, vRevL_k, revLD_k, dTupOf_k, vTupOf_k, tupD_k, dCatM_k, vCatM1_k, vCatM2_k, catM_k, dTryB_k, kTry_nx, kTry_rt, kTry_ex, kTry2_k, isi_tuple_non, isi_tuple_lst, isi_int_lst, isi_int_str, isi_int_non, bls_nil, bls_cons, bnd_k, bigL0, bigL1, bigL2, bigL3, bigP0, bigP1, List.length_cons, List.length_nil, List.replicate, List.map_cons, List.map_nil, List.cons_append, List.nil_append, List.append_nil, List.getElem?_cons_zero, List.getElem?_cons_succ, List.set_cons_zero, List.set_cons_succ, Option.map_some, Option.map_none, Bool.not_true, Bool.not_false, if_true, Bool.false_eq_true, if_false, Nat.reduceAdd, Nat.reduceSub, Nat.reduceEqDiff, Bool.and_true, Bool.true_and, Bool.and_self, ite_true, ite_false, Nat.reduceLeDiff, reduceIte, reduceCtorEq, eq_self, decide_true, decide_false, not_true_eq_false, not_false_eq_true, Bool.false_and, Bool.and_false, Bool.or_false, Bool.false_or, Bool.true_or, Bool.or_true, encs_un, check_ok gs _ n h1 hn hg hs hl, unplayed_eq gs _ n hn hl, encs_own]
end Sh

set_option Elab.async false
set_option linter.all false
set_option maxRecDepth 100000
/-! The plain laws, part G: the games due. -/
namespace Sh
open L2 Ly
theorem due_eq {w : Nat → Nat → Bool} {n : Nat} {hs : List Gm} (s : hs.Sublist (round w n)) : ((round w n).filter fun p => !decide (p ∈ hs)).map gm = (pairs n).filter fun p => !decide (p ∈ hs.map gm) := by
  have key : ∀ p ∈ pairs n, (side w p ∈ hs ↔ p ∈ hs.map gm) := by
    intro p hp
    constructor
    · intro h
      exact List.mem_map.2 ⟨_, h, gm_side w hp⟩
    · intro h
      obtain ⟨q, hq, e⟩ := List.mem_map.1 h
      obtain ⟨p', hp', rfl⟩ := List.mem_map.1 (s.subset hq)
      rw [gm_side w hp'] at e
      rw [← e]
      exact hq
  unfold round
  rw [List.filter_map, List.map_map]
  have h1 : (pairs n).filter ((fun p => !decide (p ∈ hs)) ∘ side w) = (pairs n).filter fun p => !decide (p ∈ hs.map gm) := by
    apply List.filter_congr
    intro p hp
    simp only [Function.comp]
    rw [decide_eq_decide.2 (key p hp)]
  rw [h1]
  have h2 : ((pairs n).filter fun p => !decide (p ∈ hs.map gm)).map (gm ∘ side w) = ((pairs n).filter fun p => !decide (p ∈ hs.map gm)).map id := by
    apply List.map_congr_left
    intro p hp
    exact gm_side w (List.mem_filter.1 hp).1
  rw [h2, List.map_id]
theorem left_full (w : Nat → Nat → Bool) (n : Nat) : ((pairs n).filter fun p => !decide (p ∈ (round w n).map gm)) = [] := by
  rw [round_gm, List.filter_eq_nil_iff]
  intro p hp
  simp [hp]
/-- how many play, by a cell -/
def num (c : Int) : Nat := (1 + c % 10).toNat
theorem num_eq (c : Int) : 1 + c % 10 = (num c : Int) := by
  have := Int.emod_nonneg c (b := 10) (by decide)
  unfold num; omega
theorem num_ge (c : Int) : 1 ≤ num c := by
  have := Int.emod_nonneg c (b := 10) (by decide)
  unfold num; omega
theorem num_le (c : Int) : num c ≤ 10 := by
  have := Int.emod_lt_of_pos c (b := 10) (by decide)
  unfold num; omega
theorem round_len (w : Nat → Nat → Bool) {n : Nat} (h : n ≤ 10) : (round w n).length ≤ 100 := by
  unfold round
  rw [List.length_map]
  exact pairs_big h
theorem cell0 (ns : List Int) : fd_l_cell_at [.sc ns, .int 0] = some (.rt (.int (cell ns 0))) := cell_at ns 0
theorem cell1 (ns : List Int) : fd_l_cell_at [.sc ns, .int 1] = some (.rt (.int (cell ns 1))) := cell_at ns 1
theorem cell2 (ns : List Int) : fd_l_cell_at [.sc ns, .int 2] = some (.rt (.int (cell ns 2))) := cell_at ns 2
theorem cell3 (ns : List Int) : fd_l_cell_at [.sc ns, .int 3] = some (.rt (.int (cell ns 3))) := cell_at ns 3
theorem cell4 (ns : List Int) : fd_l_cell_at [.sc ns, .int 4] = some (.rt (.int (cell ns 4))) := cell_at ns 4
theorem p10 : (0 : Int) < 10 := by decide
theorem gNotIn_enc (p : Gm) (o : Bool) (gs : List Gm) : gNotIn (enc p) (.lst o (encs gs)) = some (.bl (!decide (p ∈ gs))) := by
  rw [gNotIn_lst, encs_in, enc_fit, encs_fit]
  rfl
theorem gIn_enc (p : Gm) (o : Bool) (gs : List Gm) : gIn (enc p) (.lst o (encs gs)) = some (.bl (decide (p ∈ gs))) := by
  rw [gIn_lst, encs_in, enc_fit, encs_fit]
  rfl
theorem encs_refl (gs : List Gm) : eqvs (encs gs) (encs gs) = true := by rw [encs_eqv]; simp
theorem rng2 : rngD 0 2 = [(), ()].zipIdx.map fun p => D.int (p.2 : Nat) := rfl
end Sh

set_option Elab.async false
set_option linter.all false
set_option maxRecDepth 100000
/-! The plain laws, part H: players in lists, loops that return, rounds with all games. -/
namespace Sh
open L2 Ly
def nats (xs : List Nat) : List D := xs.map fun k : Nat => D.int (k : Int)
theorem nats_plain (xs : List Nat) : plains (nats xs) = true := ints_plain _ _
theorem nats_own (xs : List Nat) : owns (nats xs) = true := ints_own _ _
theorem nats_un (xs : List Nat) : uns (nats xs) = nats xs := ints_un _ _
theorem nats_fit (n : Nat) (xs : List Nat) : fits n (nats xs) = true := ints_fit _ _ _
theorem nats_len (xs : List Nat) : (nats xs).length = xs.length := by simp [nats]
theorem nats_snoc (xs : List Nat) (k : Nat) : nats xs ++ [D.int (k : Int)] = nats (xs ++ [k]) := by simp [nats]
theorem beqN (a b : Nat) : ((a : Int) == (b : Int)) = decide (a = b) := by
  by_cases h : a = b
  · simp [h]
  · have : ¬ ((a : Int) = b) := by omega
    simp [h, this]
theorem nats_in (k : Nat) : ∀ xs : List Nat, isIn (.int (k : Int)) (nats xs) = decide (k ∈ xs)
  | [] => rfl
  | x :: xs => by
    have ih := nats_in k xs
    simp only [nats, List.map, isIn, eqv_ii, beqN, List.mem_cons] at ih ⊢
    rw [ih]
    by_cases h : x = k
    · simp [h]
    · have h2 : ¬ k = x := fun e => h e.symm
      simp [h, h2]
theorem nats_eqv : ∀ xs ys : List Nat, eqvs (nats xs) (nats ys) = decide (xs = ys)
  | [], [] => rfl
  | [], _ :: _ => rfl
  | _ :: _, [] => rfl
  | x :: xs, y :: ys => by
    have ih := nats_eqv xs ys
    simp only [nats, List.map, eqvs_cons, eqv_ii, beqN, List.cons.injEq] at ih ⊢
    rw [ih]
    simp
theorem nats_refl (xs : List Nat) : eqvs (nats xs) (nats xs) = true := by rw [nats_eqv]; simp
theorem gIn_nat (k : Nat) (o : Bool) (xs : List Nat) : gIn (.int (k : Int)) (.lst o (nats xs)) = some (.bl (decide (k ∈ xs))) := by
  rw [gIn_lst, nats_in, fit_int, nats_fit]
  rfl
theorem gNotIn_nat (k : Nat) (o : Bool) (xs : List Nat) : gNotIn (.int (k : Int)) (.lst o (nats xs)) = some (.bl (!decide (k ∈ xs))) := by
  rw [gNotIn_lst, nats_in, fit_int, nats_fit]
  rfl
theorem gIn_encs (i j : Nat) (o : Bool) (gs : List Gm) : gIn (.tup [.int (i : Int), .int (j : Int)]) (.lst o (encs gs)) = some (.bl (decide ((i, j) ∈ gs))) := by
  rw [gIn_lst, enc_mk, encs_in, enc_fit, encs_fit]
  rfl
/-- a turn that goes on, or returns d -/
def TurnR (h : D → Rho → Option Rho) (b : Sn) (x : D) (ρ : Rho) (ok : Bool) (d : D) (P : Rho → Prop) : Prop := ∃ ρ1, h x ρ = some ρ1 ∧ ∀ r, b ρ1 = r → (ok = true ∧ ∃ ρ2, (r = some (.nx ρ2) ∨ r = some (.ct ρ2)) ∧ P ρ2) ∨ (ok = false ∧ ∃ ρ2, r = some (.rt d ρ2))
theorem loop_ret_of {α : Type} {h : D → Rho → Option Rho} {b : Sn} {ys : List D} {ρ : Rho} {r : Option Fl} (hL : loop h b ys ρ = r) (e : α → D) (xs : List α) (ok : α → Bool) (d : D) (P : Rho → Prop) (hy : ys = xs.map e) (h0 : P ρ) (k : ∀ x ∈ xs, ∀ ρ, P ρ → TurnR h b (e x) ρ (ok x) d P) :
    (xs.all ok = true ∧ ∃ ρ', r = some (.nx ρ') ∧ P ρ') ∨ (xs.all ok = false ∧ ∃ ρ', r = some (.rt d ρ')) := by
  subst hy hL
  induction xs generalizing ρ with
  | nil => exact .inl ⟨rfl, ρ, rfl, h0⟩
  | cons x xs ih =>
    obtain ⟨ρ1, h1, k2⟩ := k x (by simp) ρ h0
    rw [List.map, loop, h1]
    rcases k2 _ rfl with ⟨o, ρ2, h2, h3⟩ | ⟨o, ρ2, h2⟩
    · have := ih h3 fun y hy => k y (by simp [hy])
      simp only [List.all_cons, o, Bool.true_and]
      rcases h2 with h2 | h2 <;> (simp only [h2]; exact this)
    · refine .inr ⟨by simp [o], ρ2, ?_⟩
      simp only [h2]
/-! ### rounds with all games -/
theorem pairs_all : ∀ n, n ≤ 10 → ((pairs n).length : Int) = (n : Int) * ((n : Int) - 1) / 2 := by decide
theorem round_all (w : Nat → Nat → Bool) {n : Nat} (h : n ≤ 10) : ((round w n).length : Int) = (n : Int) * ((n : Int) - 1) / 2 := by
  unfold round
  rw [List.length_map]
  exact pairs_all n h
theorem cMul_small {i j : Int} (h : 0 ≤ i) (h2 : i ≤ 1000000000) : cMul i j = true := by
  unfold cMul
  simp only [Bool.or_eq_true, Bool.and_eq_true, decide_eq_true_eq]
  exact .inl ⟨by omega, by omega⟩
theorem p2 : (0 : Int) < 2 := by decide
theorem q2 : (2 : Int) < 1073741824 := by decide
theorem check_round_ok (gs : List Gm) (o : Bool) (n : Nat) (h1 : 1 ≤ n) (hn : n ≤ 10) (hg : Gms n gs) (hs : Srt gs) (hl : gs.length ≤ 100000) (ha : (gs.length : Int) = (n : Int) * ((n : Int) - 1) / 2) : fd_check_round [.lst o (encs gs), .int n] = some (.rt .non) := by
  have c := cMul_small (i := n) (j := (n : Int) - 1) (by omega) (by omega)
  have e : ((gs.length : Int) == (n : Int) * ((n : Int) - 1) / 2) = true := by rw [ha]; simp
  unfold fd_check_round dn_check_round
  simp only [kb_ok, kb_ex, kb_no, ret_k, lif_s, lif_n, dView_k, vView_k, dFlat_k, vFlat_int, vFlat_bl, vFlat_str, vFlat_non, dVar_k, kVar_k, dPk_k, kPk_k, dMv_k, kMv_k, dFrz_k, kFrz_k, dBin_k, vBin1_k, vBin2_k, dTest_k, vTest_k, dChain_k, vCh1_k, vCh2_k, vCh3_t, vCh3_f, dNot_k, vNot_k, dAnd_k, vAnd_t, vAnd_f, dOr_k, vOr_t, vOr_f, dAndV_k, vAndV_t, vAndV_f, dOrV_k, vOrV_t, vOrV_f, dNotV_k, vNotV_k, dIf_k, vIf_t, vIf_f, dCons_k, vCons1_k, vCons2_k, dTup_k, vTup_k, dLst_k, vLst_k, dCall_k, vCall_k, kc_rt, kc_ex, dItL_k, vItL_lst, vItL_sc, dItT_k, vItT_k, dRng1_k, vRng1_k, dRng2_k, vRng2_k, dCB_k, vCB_k, dIsi_k, vIsi_k, dListE_k, vListE_k, dListS_k, kLS_lst, dLRng1_k, vLRng1_k, dNeg_k, vNeg_k, dIxS_k, kIxS_k, vIxS_k, kIx2_lst, kIx2_tup, kIx2_sc, kIx3_k, dNx_k, dSeq_k, ks_nx, ks_rt, ks_bk, ks_ct, ks_ex, dDrop_k, kDrop_ok, kDrop_ex, dRet_k, kRet_ok, kRet_ex, dIfS_k, kIfS_t, kIfS_f, kIfS_ex, dSet_k, kSet_ok, kSet_ex, dAsg_k, kAsg_ok, kAsg_ex, kh_k, dAppend_k, kAp_k, kAp1_ok, kAp1_ex, kAp2_k, dAug_k, kAug_k, kAug1_ok, dSetItem_k, kSI_ok, kSI_ex, kSI1_k, kSI2_ok, kSI3_k, kSI4_k, dAugItem_k, kAI_k, kAI1_ok, kAI2_k, kAI3_k, kAI4_ok, kAI5_k, kAI6_k, dFor_k, kFor_ok, dComp_k, vComp_k, kCo_k, comp_nil, comp_cons, kc1_k, kc2_t, kc2_f, kc3_k, run_k, kRun_nx, kRun_rt, kRun_ex, hName_k, hNil_k, hCons_k, kH_k, hTup_k, gLt_int, gGt_int, gLe_int, gGe_int, gAdd_int, gMinus_int, gMul_int, gMod_int, gDiv_int, gIx_lst, gIx_tup, gIx_sc, gLen_lst, gLen_tup, gLen_sc, gAll_lst, gAny_lst, gSum_lst, isi_int_int, isi_int_bl, isi_bool_int, isi_bool_bl, isi_list_lst, isi_tuple_tup, isi_str_str, un_int, un_bl, un_str, un_non, un_sc, un_lst, un_tup, uns_nil, uns_cons, pl_int, pl_bl, pl_str, pl_non, pl_sc, pl_lst, pl_tup, pls_nil, pls_cons, ow_int, ow_bl, ow_str, ow_non, ow_lst, ow_tup, ows_nil, ows_cons, wipe_nil, wipe_cons, ints_nil, ints_cons, gBest_lst, gBest_tup, kBest_k, dKeep_k, vKeep_k, dCat_k, vCat1_k, vCat2_k, catD_k, dSorted_k, vSorted_k, sortD_k, dClear_k, kClr_k, dInsert_k, kIn_k, kIn1_ok, kIn2_ok, kIn3_k, tg_int, tg_bl, tg_str, tg_non, tg_tup, tgs_nil, tgs_cons, dRevT_k, vRevT_k, revTD_k, dRevL_k, vRevL_k, revLD_k, dTupOf_k, vTupOf_k, tupD_k, dCatM_k, vCatM1_k, vCatM2_k, catM_k, dTryB_k, kTry_nx, kTry_rt, kTry_ex, kTry2_k, isi_tuple_non, isi_tuple_lst, isi_int_lst, isi_int_str, isi_int_non, bls_nil, bls_cons, bnd_k, bigL0, bigL1, bigL2, bigL3, bigP0, bigP1, List.length_cons, List.length_nil, List.replicate, List.map_cons, List.map_nil, List.cons_append, List.nil_append, List.append_nil, List.getElem?_cons_zero, List.getElem?_cons_succ, List.set_cons_zero, List.set_cons_succ, Option.map_some, Option.map_none, Bool.not_true, Bool.not_false, if_true, Bool.false_eq_true, if_false, Nat.reduceAdd, Nat.reduceSub, Nat.reduceEqDiff, Bool.and_true, Bool.true_and, Bool.and_self, ite_true, ite_false, Nat.reduceLeDiff, reduceIte, reduceCtorEq, eq_self, decide_true, decide_false, not_true_eq_false, not_false_eq_true, Bool.false_and, Bool.and_false, Bool.or_false, Bool.false_or, Bool.true_or, Bool.or_true, gEq_k, gNe_k, fit_int, fit_bl, fit_non, fit_lst8, fit_tup8, fits_nil, fits_cons, eqv_ii, eqv_bb, eqv_tt, eqv_ll, eqvs_nil, eqvs_cons, encs_un, check_ok gs _ n h1 hn hg hs hl, c, p2, q2, encs_len, e]
/-! ### kings -/
def near (gs : List Gm) (p : Nat) : List Nat := (gs.filter fun q => decide (q.1 = p)).map fun q => q.2
def far (gs : List Gm) (p : Nat) : List Nat := (gs.filter fun q => decide (q.1 ∈ near gs p)).map fun q => q.2
def kingB (gs : List Gm) (n p : Nat) : Bool := (List.range n).all fun o => decide (o = p) || (decide (o ∈ near gs p) || decide (o ∈ far gs p))
theorem map_snd (xs : List Gm) : List.map (fun p : Gm => D.int (p.2 : Int)) xs = nats (xs.map fun q => q.2) := by simp [nats]
theorem nats_range (n : Nat) : List.map (fun k : Nat => D.int k) (List.range n) = nats (List.range n) := rfl
theorem kings_eq (gs : List Gm) (o : Bool) (n : Nat) (h1 : 1 ≤ n) (hn : n ≤ 10) (hg : Gms n gs) (hs : Srt gs) (hl : gs.length ≤ 100000) (ha : (gs.length : Int) = (n : Int) * ((n : Int) - 1) / 2) : fd_kings [.lst o (encs gs), .int n] = some (.rt (.lst true (nats ((List.range n).filter (kingB gs n))))) := by
  have hb : b62 (n : Int) = true := b62_small (by omega)
  unfold fd_kings dn_kings
  simp only [kb_ok, kb_ex, kb_no, ret_k, lif_s, lif_n, dView_k, vView_k, dFlat_k, vFlat_int, vFlat_bl, vFlat_str, vFlat_non, dVar_k, kVar_k, dPk_k, kPk_k, dMv_k, kMv_k, dFrz_k, kFrz_k, dBin_k, vBin1_k, vBin2_k, dTest_k, vTest_k, dChain_k, vCh1_k, vCh2_k, vCh3_t, vCh3_f, dNot_k, vNot_k, dAnd_k, vAnd_t, vAnd_f, dOr_k, vOr_t, vOr_f, dAndV_k, vAndV_t, vAndV_f, dOrV_k, vOrV_t, vOrV_f, dNotV_k, vNotV_k, dIf_k, vIf_t, vIf_f, dCons_k, vCons1_k, vCons2_k, dTup_k, vTup_k, dLst_k, vLst_k, dCall_k, vCall_k, kc_rt, kc_ex, dItL_k, vItL_lst, vItL_sc, dItT_k, vItT_k, dRng1_k, vRng1_k, dRng2_k, vRng2_k, dCB_k, vCB_k, dIsi_k, vIsi_k, dListE_k, vListE_k, dListS_k, kLS_lst, dLRng1_k, vLRng1_k, dNeg_k, vNeg_k, dIxS_k, kIxS_k, vIxS_k, kIx2_lst, kIx2_tup, kIx2_sc, kIx3_k, dNx_k, dSeq_k, ks_nx, ks_rt, ks_bk, ks_ct, ks_ex, dDrop_k, kDrop_ok, kDrop_ex, dRet_k, kRet_ok, kRet_ex, dIfS_k, kIfS_t, kIfS_f, kIfS_ex, dSet_k, kSet_ok, kSet_ex, dAsg_k, kAsg_ok, kAsg_ex, kh_k, dAppend_k, kAp_k, kAp1_ok, kAp1_ex, kAp2_k, dAug_k, kAug_k, kAug1_ok, dSetItem_k, kSI_ok, kSI_ex, kSI1_k, kSI2_ok, kSI3_k, kSI4_k, dAugItem_k, kAI_k, kAI1_ok, kAI2_k, kAI3_k, kAI4_ok, kAI5_k, kAI6_k, dFor_k, kFor_ok, dComp_k, vComp_k, kCo_k, comp_nil, comp_cons, kc1_k, kc2_t, kc2_f, kc3_k, run_k, kRun_nx, kRun_rt, kRun_ex, hName_k, hNil_k, hCons_k, kH_k, hTup_k, gLt_int, gGt_int, gLe_int, gGe_int, gAdd_int, gMinus_int, gMul_int, gMod_int, gDiv_int, gIx_lst, gIx_tup, gIx_sc, gLen_lst, gLen_tup, gLen_sc, gAll_lst, gAny_lst, gSum_lst, isi_int_int, isi_int_bl, isi_bool_int, isi_bool_bl, isi_list_lst, isi_tuple_tup, isi_str_str, un_int, un_bl, un_str, un_non, un_sc, un_lst, un_tup, uns_nil, uns_cons, pl_int, pl_bl, pl_str, pl_non, pl_sc, pl_lst, pl_tup, pls_nil, pls_cons, ow_int, ow_bl, ow_str, ow_non, ow_lst, ow_tup, ows_nil, ows_cons, wipe_nil, wipe_cons, ints_nil, ints_cons, gBest_lst, gBest_tup, kBest_k, dKeep_k, vKeep_k, dCat_k, vCat1_k, vCat2_k, catD_k, dSorted_k, vSorted_k, sortD_k, dClear_k, kClr_k, dInsert_k, kIn_k, kIn1_ok, kIn2_ok, kIn3_k, tg_int, tg_bl, tg_str, tg_non, tg_tup, tgs_nil, tgs_cons, dRevT_k, vRevT_k, revTD_k, dRevL_k, vRevL_k, revLD_k, dTupOf_k, vTupOf_k, tupD_k, dCatM_k, vCatM1_k, vCatM2_k, catM_k, dTryB_k, kTry_nx, kTry_rt, kTry_ex, kTry2_k, isi_tuple_non, isi_tuple_lst, isi_int_lst, isi_int_str, isi_int_non, bls_nil, bls_cons, bnd_k, bigL0, bigL1, bigL2, bigL3, bigP0, bigP1, List.length_cons, List.length_nil, List.replicate, List.map_cons, List.map_nil, List.cons_append, List.nil_append, List.append_nil, List.getElem?_cons_zero, List.getElem?_cons_succ, List.set_cons_zero, List.set_cons_succ, Option.map_some, Option.map_none, Bool.not_true, Bool.not_false, if_true, Bool.false_eq_true, if_false, Nat.reduceAdd, Nat.reduceSub, Nat.reduceEqDiff, Bool.and_true, Bool.true_and, Bool.and_self, ite_true, ite_false, Nat.reduceLeDiff, reduceIte, reduceCtorEq, eq_self, decide_true, decide_false, not_true_eq_false, not_false_eq_true, Bool.false_and, Bool.and_false, Bool.or_false, Bool.false_or, Bool.true_or, Bool.or_true, encs_un, check_round_ok gs _ n h1 hn hg hs hl ha, hb, Int.toNat_natCast, rngD0]
  generalize hL : loop _ _ _ _ = r
  obtain ⟨ρ', rfl, o', a, b, c, rfl⟩ := loop_app_of hL (fun k : Nat => D.int k) (fun p => if kingB gs n p = true then [p] else []) 10 (fun s ρ => ∃ o' a b c, ρ = [some (.lst o' (encs gs)), some (.int n), some (.lst true (nats s)), a, b, c, none, none, none]) (List.range n) [] rfl
    (by rw [flat_if]; exact Nat.le_trans (Nat.add_le_add_left (List.length_filter_le _ _) _) (by simp; omega)) ⟨_, none, none, none, rfl⟩ (by
    rintro p hp s ρ hl ⟨o', a, b, c, rfl⟩
    refine ⟨_, rfl, fun r hr => ?_⟩
    simp only [kb_ok, kb_ex, kb_no, ret_k, lif_s, lif_n, dView_k, vView_k, dFlat_k, vFlat_int, vFlat_bl, vFlat_str, vFlat_non, dVar_k, kVar_k, dPk_k, kPk_k, dMv_k, kMv_k, dFrz_k, kFrz_k, dBin_k, vBin1_k, vBin2_k, dTest_k, vTest_k, dChain_k, vCh1_k, vCh2_k, vCh3_t, vCh3_f, dNot_k, vNot_k, dAnd_k, vAnd_t, vAnd_f, dOr_k, vOr_t, vOr_f, dAndV_k, vAndV_t, vAndV_f, dOrV_k, vOrV_t, vOrV_f, dNotV_k, vNotV_k, dIf_k, vIf_t, vIf_f, dCons_k, vCons1_k, vCons2_k, dTup_k, vTup_k, dLst_k, vLst_k, dCall_k, vCall_k, kc_rt, kc_ex, dItL_k, vItL_lst, vItL_sc, dItT_k, vItT_k, dRng1_k, vRng1_k, dRng2_k, vRng2_k, dCB_k, vCB_k, dIsi_k, vIsi_k, dListE_k, vListE_k, dListS_k, kLS_lst, dLRng1_k, vLRng1_k, dNeg_k, vNeg_k, dIxS_k, kIxS_k, vIxS_k, kIx2_lst, kIx2_tup, kIx2_sc, kIx3_k, dNx_k, dSeq_k, ks_nx, ks_rt, ks_bk, ks_ct, ks_ex, dDrop_k, kDrop_ok, kDrop_ex, dRet_k, kRet_ok, kRet_ex, dIfS_k, kIfS_t, kIfS_f, kIfS_ex, dSet_k, kSet_ok, kSet_ex, dAsg_k, kAsg_ok, kAsg_ex, kh_k, dAppend_k, kAp_k, kAp1_ok, kAp1_ex, kAp2_k, dAug_k, kAug_k, kAug1_ok, dSetItem_k, kSI_ok, kSI_ex, kSI1_k, kSI2_ok, kSI3_k, kSI4_k, dAugItem_k, kAI_k, kAI1_ok, kAI2_k, kAI3_k, kAI4_ok, kAI5_k, kAI6_k, dFor_k, kFor_ok, dComp_k, vComp_k, kCo_k, comp_nil, comp_cons, kc1_k, kc2_t, kc2_f, kc3_k, run_k, kRun_nx, kRun_rt, kRun_ex, hName_k, hNil_k, hCons_k, kH_k, hTup_k, gLt_int, gGt_int, gLe_int, gGe_int, gAdd_int, gMinus_int, gMul_int, gMod_int, gDiv_int, gIx_lst, gIx_tup, gIx_sc, gLen_lst, gLen_tup, gLen_sc, gAll_lst, gAny_lst, gSum_lst, isi_int_int, isi_int_bl, isi_bool_int, isi_bool_bl, isi_list_lst, isi_tuple_tup, isi_str_str, un_int, un_bl, un_str, un_non, un_sc, un_lst, un_tup, uns_nil, uns_cons, pl_int, pl_bl, pl_str, pl_non, pl_sc, pl_lst, pl_tup, pls_nil, pls_cons, ow_int, ow_bl, ow_str, ow_non, ow_lst, ow_tup, ows_nil, ows_cons, wipe_nil, wipe_cons, ints_nil, ints_cons, gBest_lst, gBest_tup, kBest_k, dKeep_k, vKeep_k, dCat_k, vCat1_k, vCat2_k, catD_k, dSorted_k, vSorted_k, sortD_k, dClear_k, kClr_k, dInsert_k, kIn_k, kIn1_ok, kIn2_ok, kIn3_k, tg_int, tg_bl, tg_str, tg_non, tg_tup, tgs_nil, tgs_cons, dRevT_k, vRevT_k, revTD_k, dRevL_k, vRevL_k, revLD_k, dTupOf_k, vTupOf_k, tupD_k, dCatM_k, vCatM1_k, vCatM2_k, catM_k, dTryB_k, kTry_nx, kTry_rt, kTry_ex, kTry2_k, isi_tuple_non, isi_tuple_lst, isi_int_lst, isi_int_str, isi_int_non, bls_nil, bls_cons, bnd_k, bigL0, bigL1, bigL2, bigL3, bigP0, bigP1, List.length_cons, List.length_nil, List.replicate, List.map_cons, List.map_nil, List.cons_append, List.nil_append, List.append_nil, List.getElem?_cons_zero, List.getElem?_cons_succ, List.set_cons_zero, List.set_cons_succ, Option.map_some, Option.map_none, Bool.not_true, Bool.not_false, if_true, Bool.false_eq_true, if_false, Nat.reduceAdd, Nat.reduceSub, Nat.reduceEqDiff, Bool.and_true, Bool.true_and, Bool.and_self, ite_true, ite_false, Nat.reduceLeDiff, reduceIte, reduceCtorEq, eq_self, decide_true, decide_false, not_true_eq_false, not_false_eq_true, Bool.false_and, Bool.and_false, Bool.or_false, Bool.false_or, Bool.true_or, Bool.or_true, encs_un, encs_plain] at hr
    generalize hC : comp _ _ _ _ _ _ _ = r1 at hr
    have q1 := comp_gen_of hC enc (fun q => decide (q.1 = p)) (fun q => D.int (q.2 : Int)) gs rfl rfl (by rw [big_val]; omega) (by
      intro q hq
      refine ⟨_, rfl, fun r hr => ?_⟩
      simp only [kb_ok, kb_ex, kb_no, ret_k, lif_s, lif_n, dView_k, vView_k, dFlat_k, vFlat_int, vFlat_bl, vFlat_str, vFlat_non, dVar_k, kVar_k, dPk_k, kPk_k, dMv_k, kMv_k, dFrz_k, kFrz_k, dBin_k, vBin1_k, vBin2_k, dTest_k, vTest_k, dChain_k, vCh1_k, vCh2_k, vCh3_t, vCh3_f, dNot_k, vNot_k, dAnd_k, vAnd_t, vAnd_f, dOr_k, vOr_t, vOr_f, dAndV_k, vAndV_t, vAndV_f, dOrV_k, vOrV_t, vOrV_f, dNotV_k, vNotV_k, dIf_k, vIf_t, vIf_f, dCons_k, vCons1_k, vCons2_k, dTup_k, vTup_k, dLst_k, vLst_k, dCall_k, vCall_k, kc_rt, kc_ex, dItL_k, vItL_lst, vItL_sc, dItT_k, vItT_k, dRng1_k, vRng1_k, dRng2_k, vRng2_k, dCB_k, vCB_k, dIsi_k, vIsi_k, dListE_k, vListE_k, dListS_k, kLS_lst, dLRng1_k, vLRng1_k, dNeg_k, vNeg_k, dIxS_k, kIxS_k, vIxS_k, kIx2_lst, kIx2_tup, kIx2_sc, kIx3_k, dNx_k, dSeq_k, ks_nx, ks_rt, ks_bk, ks_ct, ks_ex, dDrop_k, kDrop_ok, kDrop_ex, dRet_k, kRet_ok, kRet_ex, dIfS_k, kIfS_t, kIfS_f, kIfS_ex, dSet_k, kSet_ok, kSet_ex, dAsg_k, kAsg_ok, kAsg_ex, kh_k, dAppend_k, kAp_k, kAp1_ok, kAp1_ex, kAp2_k, dAug_k, kAug_k, kAug1_ok, dSetItem_k, kSI_ok, kSI_ex, kSI1_k, kSI2_ok, kSI3_k, kSI4_k, dAugItem_k, kAI_k, kAI1_ok, kAI2_k, kAI3_k, kAI4_ok, kAI5_k, kAI6_k, dFor_k, kFor_ok, dComp_k, vComp_k, kCo_k, comp_nil, comp_cons, kc1_k, kc2_t, kc2_f, kc3_k, run_k, kRun_nx, kRun_rt, kRun_ex, hName_k, hNil_k, hCons_k, kH_k, hTup_k, gLt_int, gGt_int, gLe_int, gGe_int, gAdd_int, gMinus_int, gMul_int, gMod_int, gDiv_int, gIx_lst, gIx_tup, gIx_sc, gLen_lst, gLen_tup, gLen_sc, gAll_lst, gAny_lst, gSum_lst, isi_int_int, isi_int_bl, isi_bool_int, isi_bool_bl, isi_list_lst, isi_tuple_tup, isi_str_str, un_int, un_bl, un_str, un_non, un_sc, un_lst, un_tup, uns_nil, uns_cons, pl_int, pl_bl, pl_str, pl_non, pl_sc, pl_lst, pl_tup, pls_nil, pls_cons, ow_int, ow_bl, ow_str, ow_non, ow_lst, ow_tup, ows_nil, ows_cons, wipe_nil, wipe_cons, ints_nil, ints_cons, gBest_lst, gBest_tup, kBest_k, dKeep_k, vKeep_k, dCat_k, vCat1_k, vCat2_k, catD_k, dSorted_k, vSorted_k, sortD_k, dClear_k, kClr_k, dInsert_k, kIn_k, kIn1_ok, kIn2_ok, kIn3_k, tg_int, tg_bl, tg_str, tg_non, tg_tup, tgs_nil, tgs_cons, dRevT_k, vRevT_k, revTD_k, dRevL_k, vRevL_k, revLD_k, dTupOf_k, vTupOf_k, tupD_k, dCatM_k, vCatM1_k, vCatM2_k, catM_k, dTryB_k, kTry_nx, kTry_rt, kTry_ex, kTry2_k, isi_tuple_non, isi_tuple_lst, isi_int_lst, isi_int_str, isi_int_non, bls_nil, bls_cons, bnd_k, bigL0, bigL1, bigL2, bigL3, bigP0, bigP1, List.length_cons, List.length_nil, List.replicate, List.map_cons, List.map_nil, List.cons_append, List.nil_append, List.append_nil, List.getElem?_cons_zero, List.getElem?_cons_succ, List.set_cons_zero, List.set_cons_succ, Option.map_some, Option.map_none, Bool.not_true, Bool.not_false, if_true, Bool.false_eq_true, if_false, Nat.reduceAdd, Nat.reduceSub, Nat.reduceEqDiff, Bool.and_true, Bool.true_and, Bool.and_self, ite_true, ite_false, Nat.reduceLeDiff, reduceIte, reduceCtorEq, eq_self, decide_true, decide_false, not_true_eq_false, not_false_eq_true, Bool.false_and, Bool.and_false, Bool.or_false, Bool.false_or, Bool.true_or, Bool.or_true, gEq_k, gNe_k, fit_int, fit_bl, fit_non, fit_lst8, fit_tup8, fits_nil, fits_cons, eqv_ii, eqv_bb, eqv_tt, eqv_ll, eqvs_nil, eqvs_cons, beqN] at hr
      refine ⟨_, hr.symm, rfl, fun _ r hr => ?_⟩
      simp only [kb_ok, kb_ex, kb_no, ret_k, lif_s, lif_n, dView_k, vView_k, dFlat_k, vFlat_int, vFlat_bl, vFlat_str, vFlat_non, dVar_k, kVar_k, dPk_k, kPk_k, dMv_k, kMv_k, dFrz_k, kFrz_k, dBin_k, vBin1_k, vBin2_k, dTest_k, vTest_k, dChain_k, vCh1_k, vCh2_k, vCh3_t, vCh3_f, dNot_k, vNot_k, dAnd_k, vAnd_t, vAnd_f, dOr_k, vOr_t, vOr_f, dAndV_k, vAndV_t, vAndV_f, dOrV_k, vOrV_t, vOrV_f, dNotV_k, vNotV_k, dIf_k, vIf_t, vIf_f, dCons_k, vCons1_k, vCons2_k, dTup_k, vTup_k, dLst_k, vLst_k, dCall_k, vCall_k, kc_rt, kc_ex, dItL_k, vItL_lst, vItL_sc, dItT_k, vItT_k, dRng1_k, vRng1_k, dRng2_k, vRng2_k, dCB_k, vCB_k, dIsi_k, vIsi_k, dListE_k, vListE_k, dListS_k, kLS_lst, dLRng1_k, vLRng1_k, dNeg_k, vNeg_k, dIxS_k, kIxS_k, vIxS_k, kIx2_lst, kIx2_tup, kIx2_sc, kIx3_k, dNx_k, dSeq_k, ks_nx, ks_rt, ks_bk, ks_ct, ks_ex, dDrop_k, kDrop_ok, kDrop_ex, dRet_k, kRet_ok, kRet_ex, dIfS_k, kIfS_t, kIfS_f, kIfS_ex, dSet_k, kSet_ok, kSet_ex, dAsg_k, kAsg_ok, kAsg_ex, kh_k, dAppend_k, kAp_k, kAp1_ok, kAp1_ex, kAp2_k, dAug_k, kAug_k, kAug1_ok, dSetItem_k, kSI_ok, kSI_ex, kSI1_k, kSI2_ok, kSI3_k, kSI4_k, dAugItem_k, kAI_k, kAI1_ok, kAI2_k, kAI3_k, kAI4_ok, kAI5_k, kAI6_k, dFor_k, kFor_ok, dComp_k, vComp_k, kCo_k, comp_nil, comp_cons, kc1_k, kc2_t, kc2_f, kc3_k, run_k, kRun_nx, kRun_rt, kRun_ex, hName_k, hNil_k, hCons_k, kH_k, hTup_k, gLt_int, gGt_int, gLe_int, gGe_int, gAdd_int, gMinus_int, gMul_int, gMod_int, gDiv_int, gIx_lst, gIx_tup, gIx_sc, gLen_lst, gLen_tup, gLen_sc, gAll_lst, gAny_lst, gSum_lst, isi_int_int, isi_int_bl, isi_bool_int, isi_bool_bl, isi_list_lst, isi_tuple_tup, isi_str_str, un_int, un_bl, un_str, un_non, un_sc, un_lst, un_tup, uns_nil, uns_cons, pl_int, pl_bl, pl_str, pl_non, pl_sc, pl_lst, pl_tup, pls_nil, pls_cons, ow_int, ow_bl, ow_str, ow_non, ow_lst, ow_tup, ows_nil, ows_cons, wipe_nil, wipe_cons, ints_nil, ints_cons, gBest_lst, gBest_tup, kBest_k, dKeep_k, vKeep_k, dCat_k, vCat1_k, vCat2_k, catD_k, dSorted_k, vSorted_k, sortD_k, dClear_k, kClr_k, dInsert_k, kIn_k, kIn1_ok, kIn2_ok, kIn3_k, tg_int, tg_bl, tg_str, tg_non, tg_tup, tgs_nil, tgs_cons, dRevT_k, vRevT_k, revTD_k, dRevL_k, vRevL_k, revLD_k, dTupOf_k, vTupOf_k, tupD_k, dCatM_k, vCatM1_k, vCatM2_k, catM_k, dTryB_k, kTry_nx, kTry_rt, kTry_ex, kTry2_k, isi_tuple_non, isi_tuple_lst, isi_int_lst, isi_int_str, isi_int_non, bls_nil, bls_cons, bnd_k, bigL0, bigL1, bigL2, bigL3, bigP0, bigP1, List.length_cons, List.length_nil, List.replicate, List.map_cons, List.map_nil, List.cons_append, List.nil_append, List.append_nil, List.getElem?_cons_zero, List.getElem?_cons_succ, List.set_cons_zero, List.set_cons_succ, Option.map_some, Option.map_none, Bool.not_true, Bool.not_false, if_true, Bool.false_eq_true, if_false, Nat.reduceAdd, Nat.reduceSub, Nat.reduceEqDiff, Bool.and_true, Bool.true_and, Bool.and_self, ite_true, ite_false, Nat.reduceLeDiff, reduceIte, reduceCtorEq, eq_self, decide_true, decide_false, not_true_eq_false, not_false_eq_true, Bool.false_and, Bool.and_false, Bool.or_false, Bool.false_or, Bool.true_or, Bool.or_true] at hr
      exact ⟨_, hr.symm, rfl⟩)
    subst q1
    simp only [kb_ok, kb_ex, kb_no, ret_k, lif_s, lif_n, dView_k, vView_k, dFlat_k, vFlat_int, vFlat_bl, vFlat_str, vFlat_non, dVar_k, kVar_k, dPk_k, kPk_k, dMv_k, kMv_k, dFrz_k, kFrz_k, dBin_k, vBin1_k, vBin2_k, dTest_k, vTest_k, dChain_k, vCh1_k, vCh2_k, vCh3_t, vCh3_f, dNot_k, vNot_k, dAnd_k, vAnd_t, vAnd_f, dOr_k, vOr_t, vOr_f, dAndV_k, vAndV_t, vAndV_f, dOrV_k, vOrV_t, vOrV_f, dNotV_k, vNotV_k, dIf_k, vIf_t, vIf_f, dCons_k, vCons1_k, vCons2_k, dTup_k, vTup_k, dLst_k, vLst_k, dCall_k, vCall_k, kc_rt, kc_ex, dItL_k, vItL_lst, vItL_sc, dItT_k, vItT_k, dRng1_k, vRng1_k, dRng2_k, vRng2_k, dCB_k, vCB_k, dIsi_k, vIsi_k, dListE_k, vListE_k, dListS_k, kLS_lst, dLRng1_k, vLRng1_k, dNeg_k, vNeg_k, dIxS_k, kIxS_k, vIxS_k, kIx2_lst, kIx2_tup, kIx2_sc, kIx3_k, dNx_k, dSeq_k, ks_nx, ks_rt, ks_bk, ks_ct, ks_ex, dDrop_k, kDrop_ok, kDrop_ex, dRet_k, kRet_ok, kRet_ex, dIfS_k, kIfS_t, kIfS_f, kIfS_ex, dSet_k, kSet_ok, kSet_ex, dAsg_k, kAsg_ok, kAsg_ex, kh_k, dAppend_k, kAp_k, kAp1_ok, kAp1_ex, kAp2_k, dAug_k, kAug_k, kAug1_ok, dSetItem_k, kSI_ok, kSI_ex, kSI1_k, kSI2_ok, kSI3_k, kSI4_k, dAugItem_k, kAI_k, kAI1_ok, kAI2_k, kAI3_k, kAI4_ok, kAI5_k, kAI6_k, dFor_k, kFor_ok, dComp_k, vComp_k, kCo_k, comp_nil, comp_cons, kc1_k, kc2_t, kc2_f, kc3_k, run_k, kRun_nx, kRun_rt, kRun_ex, hName_k, hNil_k, hCons_k, kH_k, hTup_k, gLt_int, gGt_int, gLe_int, gGe_int, gAdd_int, gMinus_int, gMul_int, gMod_int, gDiv_int, gIx_lst, gIx_tup, gIx_sc, gLen_lst, gLen_tup, gLen_sc, gAll_lst, gAny_lst, gSum_lst, isi_int_int, isi_int_bl, isi_bool_int, isi_bool_bl, isi_list_lst, isi_tuple_tup, isi_str_str, un_int, un_bl, un_str, un_non, un_sc, un_lst, un_tup, uns_nil, uns_cons, pl_int, pl_bl, pl_str, pl_non, pl_sc, pl_lst, pl_tup, pls_nil, pls_cons, ow_int, ow_bl, ow_str, ow_non, ow_lst, ow_tup, ows_nil, ows_cons, wipe_nil, wipe_cons, ints_nil, ints_cons, gBest_lst, gBest_tup, kBest_k, dKeep_k, vKeep_k, dCat_k, vCat1_k, vCat2_k, catD_k, dSorted_k, vSorted_k, sortD_k, dClear_k, kClr_k, dInsert_k, kIn_k, kIn1_ok, kIn2_ok, kIn3_k, tg_int, tg_bl, tg_str, tg_non, tg_tup, tgs_nil, tgs_cons, dRevT_k, vRevT_k, revTD_k, dRevL_k, vRevL_k, revLD_k, dTupOf_k, vTupOf_k, tupD_k, dCatM_k, vCatM1_k, vCatM2_k, catM_k, dTryB_k, kTry_nx, kTry_rt, kTry_ex, kTry2_k, isi_tuple_non, isi_tuple_lst, isi_int_lst, isi_int_str, isi_int_non, bls_nil, bls_cons, bnd_k, bigL0, bigL1, bigL2, bigL3, bigP0, bigP1, List.length_cons, List.length_nil, List.replicate, List.map_cons, List.map_nil, List.cons_append, List.nil_append, List.append_nil, List.getElem?_cons_zero, List.getElem?_cons_succ, List.set_cons_zero, List.set_cons_succ, Option.map_some, Option.map_none, Bool.not_true, Bool.not_false, if_true, Bool.false_eq_true, if_false, Nat.reduceAdd, Nat.reduceSub, Nat.reduceEqDiff, Bool.and_true, Bool.true_and, Bool.and_self, ite_true, ite_false, Nat.reduceLeDiff, reduceIte, reduceCtorEq, eq_self, decide_true, decide_false, not_true_eq_false, not_false_eq_true, Bool.false_and, Bool.and_false, Bool.or_false, Bool.false_or, Bool.true_or, Bool.or_true, map_snd, encs_un, encs_plain] at hr
    generalize hC2 : comp _ _ _ _ _ _ _ = r2 at hr
    have q2 := comp_gen_of hC2 enc (fun q => decide (q.1 ∈ near gs p)) (fun q => D.int (q.2 : Int)) gs rfl rfl (by rw [big_val]; omega) (by
      intro q hq
      refine ⟨_, rfl, fun r hr => ?_⟩
      simp only [kb_ok, kb_ex, kb_no, ret_k, lif_s, lif_n, dView_k, vView_k, dFlat_k, vFlat_int, vFlat_bl, vFlat_str, vFlat_non, dVar_k, kVar_k, dPk_k, kPk_k, dMv_k, kMv_k, dFrz_k, kFrz_k, dBin_k, vBin1_k, vBin2_k, dTest_k, vTest_k, dChain_k, vCh1_k, vCh2_k, vCh3_t, vCh3_f, dNot_k, vNot_k, dAnd_k, vAnd_t, vAnd_f, dOr_k, vOr_t, vOr_f, dAndV_k, vAndV_t, vAndV_f, dOrV_k, vOrV_t, vOrV_f, dNotV_k, vNotV_k, dIf_k, vIf_t, vIf_f, dCons_k, vCons1_k, vCons2_k, dTup_k, vTup_k, dLst_k, vLst_k, dCall_k, vCall_k, kc_rt, kc_ex, dItL_k, vItL_lst, vItL_sc, dItT_k, vItT_k, dRng1_k, vRng1_k, dRng2_k, vRng2_k, dCB_k, vCB_k, dIsi_k, vIsi_k, dListE_k, vListE_k, dListS_k, kLS_lst, dLRng1_k, vLRng1_k, dNeg_k, vNeg_k, dIxS_k, kIxS_k, vIxS_k, kIx2_lst, kIx2_tup, kIx2_sc, kIx3_k, dNx_k, dSeq_k, ks_nx, ks_rt, ks_bk, ks_ct, ks_ex, dDrop_k, kDrop_ok, kDrop_ex, dRet_k, kRet_ok, kRet_ex, dIfS_k, kIfS_t, kIfS_f, kIfS_ex, dSet_k, kSet_ok, kSet_ex, dAsg_k, kAsg_ok, kAsg_ex, kh_k, dAppend_k, kAp_k, kAp1_ok, kAp1_ex, kAp2_k, dAug_k, kAug_k, kAug1_ok, dSetItem_k, kSI_ok, kSI_ex, kSI1_k, kSI2_ok, kSI3_k, kSI4_k, dAugItem_k, kAI_k, kAI1_ok, kAI2_k, kAI3_k, kAI4_ok, kAI5_k, kAI6_k, dFor_k, kFor_ok, dComp_k, vComp_k, kCo_k, comp_nil, comp_cons, kc1_k, kc2_t, kc2_f, kc3_k, run_k, kRun_nx, kRun_rt, kRun_ex, hName_k, hNil_k, hCons_k, kH_k, hTup_k, gLt_int, gGt_int, gLe_int, gGe_int, gAdd_int, gMinus_int, gMul_int, gMod_int, gDiv_int, gIx_lst, gIx_tup, gIx_sc, gLen_lst, gLen_tup, gLen_sc, gAll_lst, gAny_lst, gSum_lst, isi_int_int, isi_int_bl, isi_bool_int, isi_bool_bl, isi_list_lst, isi_tuple_tup, isi_str_str, un_int, un_bl, un_str, un_non, un_sc, un_lst, un_tup, uns_nil, uns_cons, pl_int, pl_bl, pl_str, pl_non, pl_sc, pl_lst, pl_tup, pls_nil, pls_cons, ow_int, ow_bl, ow_str, ow_non, ow_lst, ow_tup, ows_nil, ows_cons, wipe_nil, wipe_cons, ints_nil, ints_cons, gBest_lst, gBest_tup, kBest_k, dKeep_k, vKeep_k, dCat_k, vCat1_k, vCat2_k, catD_k, dSorted_k, vSorted_k, sortD_k, dClear_k, kClr_k, dInsert_k, kIn_k, kIn1_ok, kIn2_ok, kIn3_k, tg_int, tg_bl, tg_str, tg_non, tg_tup, tgs_nil, tgs_cons, dRevT_k, vRevT_k, revTD_k, dRevL_k, vRevL_k, revLD_k, dTupOf_k, vTupOf_k, tupD_k, dCatM_k, vCatM1_k, vCatM2_k, catM_k, dTryB_k, kTry_nx, kTry_rt, kTry_ex, kTry2_k, isi_tuple_non, isi_tuple_lst, isi_int_lst, isi_int_str, isi_int_non, bls_nil, bls_cons, bnd_k, bigL0, bigL1, bigL2, bigL3, bigP0, bigP1, List.length_cons, List.length_nil, List.replicate, List.map_cons, List.map_nil, List.cons_append, List.nil_append, List.append_nil, List.getElem?_cons_zero, List.getElem?_cons_succ, List.set_cons_zero, List.set_cons_succ, Option.map_some, Option.map_none, Bool.not_true, Bool.not_false, if_true, Bool.false_eq_true, if_false, Nat.reduceAdd, Nat.reduceSub, Nat.reduceEqDiff, Bool.and_true, Bool.true_and, Bool.and_self, ite_true, ite_false, Nat.reduceLeDiff, reduceIte, reduceCtorEq, eq_self, decide_true, decide_false, not_true_eq_false, not_false_eq_true, Bool.false_and, Bool.and_false, Bool.or_false, Bool.false_or, Bool.true_or, Bool.or_true, nats_un, gIn_nat] at hr
      refine ⟨_, hr.symm, rfl, fun _ r hr => ?_⟩
      simp only [kb_ok, kb_ex, kb_no, ret_k, lif_s, lif_n, dView_k, vView_k, dFlat_k, vFlat_int, vFlat_bl, vFlat_str, vFlat_non, dVar_k, kVar_k, dPk_k, kPk_k, dMv_k, kMv_k, dFrz_k, kFrz_k, dBin_k, vBin1_k, vBin2_k, dTest_k, vTest_k, dChain_k, vCh1_k, vCh2_k, vCh3_t, vCh3_f, dNot_k, vNot_k, dAnd_k, vAnd_t, vAnd_f, dOr_k, vOr_t, vOr_f, dAndV_k, vAndV_t, vAndV_f, dOrV_k, vOrV_t, vOrV_f, dNotV_k, vNotV_k, dIf_k, vIf_t, vIf_f, dCons_k, vCons1_k, vCons2_k, dTup_k, vTup_k, dLst_k, vLst_k, dCall_k, vCall_k, kc_rt, kc_ex, dItL_k, vItL_lst, vItL_sc, dItT_k, vItT_k, dRng1_k, vRng1_k, dRng2_k, vRng2_k, dCB_k, vCB_k, dIsi_k, vIsi_k, dListE_k, vListE_k, dListS_k, kLS_lst, dLRng1_k, vLRng1_k, dNeg_k, vNeg_k, dIxS_k, kIxS_k, vIxS_k, kIx2_lst, kIx2_tup, kIx2_sc, kIx3_k, dNx_k, dSeq_k, ks_nx, ks_rt, ks_bk, ks_ct, ks_ex, dDrop_k, kDrop_ok, kDrop_ex, dRet_k, kRet_ok, kRet_ex, dIfS_k, kIfS_t, kIfS_f, kIfS_ex, dSet_k, kSet_ok, kSet_ex, dAsg_k, kAsg_ok, kAsg_ex, kh_k, dAppend_k, kAp_k, kAp1_ok, kAp1_ex, kAp2_k, dAug_k, kAug_k, kAug1_ok, dSetItem_k, kSI_ok, kSI_ex, kSI1_k, kSI2_ok, kSI3_k, kSI4_k, dAugItem_k, kAI_k, kAI1_ok, kAI2_k, kAI3_k, kAI4_ok, kAI5_k, kAI6_k, dFor_k, kFor_ok, dComp_k, vComp_k, kCo_k, comp_nil, comp_cons, kc1_k, kc2_t, kc2_f, kc3_k, run_k, kRun_nx, kRun_rt, kRun_ex, hName_k, hNil_k, hCons_k, kH_k, hTup_k, gLt_int, gGt_int, gLe_int, gGe_int, gAdd_int, gMinus_int, gMul_int, gMod_int, gDiv_int, gIx_lst, gIx_tup, gIx_sc, gLen_lst, gLen_tup, gLen_sc, gAll_lst, gAny_lst, gSum_lst, isi_int_int, isi_int_bl, isi_bool_int, isi_bool_bl, isi_list_lst, isi_tuple_tup, isi_str_str, un_int, un_bl, un_str, un_non, un_sc, un_lst, un_tup, uns_nil, uns_cons, pl_int, pl_bl, pl_str, pl_non, pl_sc, pl_lst, pl_tup, pls_nil, pls_cons, ow_int, ow_bl, ow_str, ow_non, ow_lst, ow_tup, ows_nil, ows_cons, wipe_nil, wipe_cons, ints_nil, ints_cons, gBest_lst, gBest_tup, kBest_k, dKeep_k, vKeep_k, dCat_k, vCat1_k, vCat2_k, catD_k, dSorted_k, vSorted_k, sortD_k, dClear_k, kClr_k, dInsert_k, kIn_k, kIn1_ok, kIn2_ok, kIn3_k, tg_int, tg_bl, tg_str, tg_non, tg_tup, tgs_nil, tgs_cons, dRevT_k, vRevT_k, revTD_k, dRevL_k, vRevL_k, revLD_k, dTupOf_k, vTupOf_k, tupD_k, dCatM_k, vCatM1_k, vCatM2_k, catM_k, dTryB_k, kTry_nx, kTry_rt, kTry_ex, kTry2_k, isi_tuple_non, isi_tuple_lst, isi_int_lst, isi_int_str, isi_int_non, bls_nil, bls_cons, bnd_k, bigL0, bigL1, bigL2, bigL3, bigP0, bigP1, List.length_cons, List.length_nil, List.replicate, List.map_cons, List.map_nil, List.cons_append, List.nil_append, List.append_nil, List.getElem?_cons_zero, List.getElem?_cons_succ, List.set_cons_zero, List.set_cons_succ, Option.map_some, Option.map_none, Bool.not_true, Bool.not_false, if_true, Bool.false_eq_true, if_false, Nat.reduceAdd, Nat.reduceSub, Nat.reduceEqDiff, Bool.and_true, Bool.true_and, Bool.and_self, ite_true, ite_false, Nat.reduceLeDiff, reduceIte, reduceCtorEq, eq_self, decide_true, decide_false, not_true_eq_false, not_false_eq_true, Bool.false_and, Bool.and_false, Bool.or_false, Bool.false_or, Bool.true_or, Bool.or_true] at hr
      exact ⟨_, hr.symm, rfl⟩)
    subst q2
    simp only [kb_ok, kb_ex, kb_no, ret_k, lif_s, lif_n, dView_k, vView_k, dFlat_k, vFlat_int, vFlat_bl, vFlat_str, vFlat_non, dVar_k, kVar_k, dPk_k, kPk_k, dMv_k, kMv_k, dFrz_k, kFrz_k, dBin_k, vBin1_k, vBin2_k, dTest_k, vTest_k, dChain_k, vCh1_k, vCh2_k, vCh3_t, vCh3_f, dNot_k, vNot_k, dAnd_k, vAnd_t, vAnd_f, dOr_k, vOr_t, vOr_f, dAndV_k, vAndV_t, vAndV_f, dOrV_k, vOrV_t, vOrV_f, dNotV_k, vNotV_k, dIf_k, vIf_t, vIf_f, dCons_k, vCons1_k, vCons2_k, dTup_k, vTup_k, dLst_k, vLst_k, dCall_k, vCall_k, kc_rt, kc_ex, dItL_k, vItL_lst, vItL_sc, dItT_k, vItT_k, dRng1_k, vRng1_k, dRng2_k, vRng2_k, dCB_k, vCB_k, dIsi_k, vIsi_k, dListE_k, vListE_k, dListS_k, kLS_lst, dLRng1_k, vLRng1_k, dNeg_k, vNeg_k, dIxS_k, kIxS_k, vIxS_k, kIx2_lst, kIx2_tup, kIx2_sc, kIx3_k, dNx_k, dSeq_k, ks_nx, ks_rt, ks_bk, ks_ct, ks_ex, dDrop_k, kDrop_ok, kDrop_ex, dRet_k, kRet_ok, kRet_ex, dIfS_k, kIfS_t, kIfS_f, kIfS_ex, dSet_k, kSet_ok, kSet_ex, dAsg_k, kAsg_ok, kAsg_ex, kh_k, dAppend_k, kAp_k, kAp1_ok, kAp1_ex, kAp2_k, dAug_k, kAug_k, kAug1_ok, dSetItem_k, kSI_ok, kSI_ex, kSI1_k, kSI2_ok, kSI3_k, kSI4_k, dAugItem_k, kAI_k, kAI1_ok, kAI2_k, kAI3_k, kAI4_ok, kAI5_k, kAI6_k, dFor_k, kFor_ok, dComp_k, vComp_k, kCo_k, comp_nil, comp_cons, kc1_k, kc2_t, kc2_f, kc3_k, run_k, kRun_nx, kRun_rt, kRun_ex, hName_k, hNil_k, hCons_k, kH_k, hTup_k, gLt_int, gGt_int, gLe_int, gGe_int, gAdd_int, gMinus_int, gMul_int, gMod_int, gDiv_int, gIx_lst, gIx_tup, gIx_sc, gLen_lst, gLen_tup, gLen_sc, gAll_lst, gAny_lst, gSum_lst, isi_int_int, isi_int_bl, isi_bool_int, isi_bool_bl, isi_list_lst, isi_tuple_tup, isi_str_str, un_int, un_bl, un_str, un_non, un_sc, un_lst, un_tup, uns_nil, uns_cons, pl_int, pl_bl, pl_str, pl_non, pl_sc, pl_lst, pl_tup, pls_nil, pls_cons, ow_int, ow_bl, ow_str, ow_non, ow_lst, ow_tup, ows_nil, ows_cons, wipe_nil, wipe_cons, ints_nil, ints_cons, gBest_lst, gBest_tup, kBest_k, dKeep_k, vKeep_k, dCat_k, vCat1_k, vCat2_k, catD_k, dSorted_k, vSorted_k, sortD_k, dClear_k, kClr_k, dInsert_k, kIn_k, kIn1_ok, kIn2_ok, kIn3_k, tg_int, tg_bl, tg_str, tg_non, tg_tup, tgs_nil, tgs_cons, dRevT_k, vRevT_k, revTD_k, dRevL_k, vRevL_k, revLD_k, dTupOf_k, vTupOf_k, tupD_k, dCatM_k, vCatM1_k, vCatM2_k, catM_k, dTryB_k, kTry_nx, kTry_rt, kTry_ex, kTry2_k, isi_tuple_non, isi_tuple_lst, isi_int_lst, isi_int_str, isi_int_non, bls_nil, bls_cons, bnd_k, bigL0, bigL1, bigL2, bigL3, bigP0, bigP1, List.length_cons, List.length_nil, List.replicate, List.map_cons, List.map_nil, List.cons_append, List.nil_append, List.append_nil, List.getElem?_cons_zero, List.getElem?_cons_succ, List.set_cons_zero, List.set_cons_succ, Option.map_some, Option.map_none, Bool.not_true, Bool.not_false, if_true, Bool.false_eq_true, if_false, Nat.reduceAdd, Nat.reduceSub, Nat.reduceEqDiff, Bool.and_true, Bool.true_and, Bool.and_self, ite_true, ite_false, Nat.reduceLeDiff, reduceIte, reduceCtorEq, eq_self, decide_true, decide_false, not_true_eq_false, not_false_eq_true, Bool.false_and, Bool.and_false, Bool.or_false, Bool.false_or, Bool.true_or, Bool.or_true, map_snd, hb, Int.toNat_natCast, rngD0] at hr
    generalize hC3 : comp _ _ _ _ _ _ _ = r3 at hr
    have q3 := comp_map_of hC3 (fun k : Nat => D.int k) (fun o => D.bl (decide (o = p) || (decide (o ∈ near gs p) || decide (o ∈ far gs p)))) (List.range n) rfl rfl (by rw [big_val]; simp; omega) (by
      intro o ho
      refine ⟨_, rfl, fun r hr => ?_⟩
      simp only [kb_ok, kb_ex, kb_no, ret_k, lif_s, lif_n, dView_k, vView_k, dFlat_k, vFlat_int, vFlat_bl, vFlat_str, vFlat_non, dVar_k, kVar_k, dPk_k, kPk_k, dMv_k, kMv_k, dFrz_k, kFrz_k, dBin_k, vBin1_k, vBin2_k, dTest_k, vTest_k, dChain_k, vCh1_k, vCh2_k, vCh3_t, vCh3_f, dNot_k, vNot_k, dAnd_k, vAnd_t, vAnd_f, dOr_k, vOr_t, vOr_f, dAndV_k, vAndV_t, vAndV_f, dOrV_k, vOrV_t, vOrV_f, dNotV_k, vNotV_k, dIf_k, vIf_t, vIf_f, dCons_k, vCons1_k, vCons2_k, dTup_k, vTup_k, dLst_k, vLst_k, dCall_k, vCall_k, kc_rt, kc_ex, dItL_k, vItL_lst, vItL_sc, dItT_k, vItT_k, dRng1_k, vRng1_k, dRng2_k, vRng2_k, dCB_k, vCB_k, dIsi_k, vIsi_k, dListE_k, vListE_k, dListS_k, kLS_lst, dLRng1_k, vLRng1_k, dNeg_k, vNeg_k, dIxS_k, kIxS_k, vIxS_k, kIx2_lst, kIx2_tup, kIx2_sc, kIx3_k, dNx_k, dSeq_k, ks_nx, ks_rt, ks_bk, ks_ct, ks_ex, dDrop_k, kDrop_ok, kDrop_ex, dRet_k, kRet_ok, kRet_ex, dIfS_k, kIfS_t, kIfS_f, kIfS_ex, dSet_k, kSet_ok, kSet_ex, dAsg_k, kAsg_ok, kAsg_ex, kh_k, dAppend_k, kAp_k, kAp1_ok, kAp1_ex, kAp2_k, dAug_k, kAug_k, kAug1_ok, dSetItem_k, kSI_ok, kSI_ex, kSI1_k, kSI2_ok, kSI3_k, kSI4_k, dAugItem_k, kAI_k, kAI1_ok, kAI2_k, kAI3_k, kAI4_ok, kAI5_k, kAI6_k, dFor_k, kFor_ok, dComp_k, vComp_k, kCo_k, comp_nil, comp_cons, kc1_k, kc2_t, kc2_f, kc3_k, run_k, kRun_nx, kRun_rt, kRun_ex, hName_k, hNil_k, hCons_k, kH_k, hTup_k, gLt_int, gGt_int, gLe_int, gGe_int, gAdd_int, gMinus_int, gMul_int, gMod_int, gDiv_int, gIx_lst, gIx_tup, gIx_sc, gLen_lst, gLen_tup, gLen_sc, gAll_lst, gAny_lst, gSum_lst, isi_int_int, isi_int_bl, isi_bool_int, isi_bool_bl, isi_list_lst, isi_tuple_tup, isi_str_str, un_int, un_bl, un_str, un_non, un_sc, un_lst, un_tup, uns_nil, uns_cons, pl_int, pl_bl, pl_str, pl_non, pl_sc, pl_lst, pl_tup, pls_nil, pls_cons, ow_int, ow_bl, ow_str, ow_non, ow_lst, ow_tup, ows_nil, ows_cons, wipe_nil, wipe_cons, ints_nil, ints_cons, gBest_lst, gBest_tup, kBest_k, dKeep_k, vKeep_k, dCat_k, vCat1_k, vCat2_k, catD_k, dSorted_k, vSorted_k, sortD_k, dClear_k, kClr_k, dInsert_k, kIn_k, kIn1_ok, kIn2_ok, kIn3_k, tg_int, tg_bl, tg_str, tg_non, tg_tup, tgs_nil, tgs_cons, dRevT_k, vRevT_k, revTD_k, dRevL_k, vRevL_k, revLD_k, dTupOf_k, vTupOf_k, tupD_k, dCatM_k, vCatM1_k, vCatM2_k, catM_k, dTryB_k, kTry_nx, kTry_rt, kTry_ex, kTry2_k, isi_tuple_non, isi_tuple_lst, isi_int_lst, isi_int_str, isi_int_non, bls_nil, bls_cons, bnd_k, bigL0, bigL1, bigL2, bigL3, bigP0, bigP1, List.length_cons, List.length_nil, List.replicate, List.map_cons, List.map_nil, List.cons_append, List.nil_append, List.append_nil, List.getElem?_cons_zero, List.getElem?_cons_succ, List.set_cons_zero, List.set_cons_succ, Option.map_some, Option.map_none, Bool.not_true, Bool.not_false, if_true, Bool.false_eq_true, if_false, Nat.reduceAdd, Nat.reduceSub, Nat.reduceEqDiff, Bool.and_true, Bool.true_and, Bool.and_self, ite_true, ite_false, Nat.reduceLeDiff, reduceIte, reduceCtorEq, eq_self, decide_true, decide_false, not_true_eq_false, not_false_eq_true, Bool.false_and, Bool.and_false, Bool.or_false, Bool.false_or, Bool.true_or, Bool.or_true, gEq_k, gNe_k, fit_int, fit_bl, fit_non, fit_lst8, fit_tup8, fits_nil, fits_cons, eqv_ii, eqv_bb, eqv_tt, eqv_ll, eqvs_nil, eqvs_cons, beqN] at hr
      cases e1 : decide (o = p) with
      | true =>
        simp only [kb_ok, kb_ex, kb_no, ret_k, lif_s, lif_n, dView_k, vView_k, dFlat_k, vFlat_int, vFlat_bl, vFlat_str, vFlat_non, dVar_k, kVar_k, dPk_k, kPk_k, dMv_k, kMv_k, dFrz_k, kFrz_k, dBin_k, vBin1_k, vBin2_k, dTest_k, vTest_k, dChain_k, vCh1_k, vCh2_k, vCh3_t, vCh3_f, dNot_k, vNot_k, dAnd_k, vAnd_t, vAnd_f, dOr_k, vOr_t, vOr_f, dAndV_k, vAndV_t, vAndV_f, dOrV_k, vOrV_t, vOrV_f, dNotV_k, vNotV_k, dIf_k, vIf_t, vIf_f, dCons_k, vCons1_k, vCons2_k, dTup_k, vTup_k, dLst_k, vLst_k, dCall_k, vCall_k, kc_rt, kc_ex, dItL_k, vItL_lst, vItL_sc, dItT_k, vItT_k, dRng1_k, vRng1_k, dRng2_k, vRng2_k, dCB_k, vCB_k, dIsi_k, vIsi_k, dListE_k, vListE_k, dListS_k, kLS_lst, dLRng1_k, vLRng1_k, dNeg_k, vNeg_k, dIxS_k, kIxS_k, vIxS_k, kIx2_lst, kIx2_tup, kIx2_sc, kIx3_k, dNx_k, dSeq_k, ks_nx, ks_rt, ks_bk, ks_ct, ks_ex, dDrop_k, kDrop_ok, kDrop_ex, dRet_k, kRet_ok, kRet_ex, dIfS_k, kIfS_t, kIfS_f, kIfS_ex, dSet_k, kSet_ok, kSet_ex, dAsg_k, kAsg_ok, kAsg_ex, kh_k, dAppend_k, kAp_k, kAp1_ok, kAp1_ex, kAp2_k, dAug_k, kAug_k, kAug1_ok, dSetItem_k, kSI_ok, kSI_ex, kSI1_k, kSI2_ok, kSI3_k, kSI4_k, dAugItem_k, kAI_k, kAI1_ok, kAI2_k, kAI3_k, kAI4_ok, kAI5_k, kAI6_k, dFor_k, kFor_ok, dComp_k, vComp_k, kCo_k, comp_nil, comp_cons, kc1_k, kc2_t, kc2_f, kc3_k, run_k, kRun_nx, kRun_rt, kRun_ex, hName_k, hNil_k, hCons_k, kH_k, hTup_k, gLt_int, gGt_int, gLe_int, gGe_int, gAdd_int, gMinus_int, gMul_int, gMod_int, gDiv_int, gIx_lst, gIx_tup, gIx_sc, gLen_lst, gLen_tup, gLen_sc, gAll_lst, gAny_lst, gSum_lst, isi_int_int, isi_int_bl, isi_bool_int, isi_bool_bl, isi_list_lst, isi_tuple_tup, isi_str_str, un_int, un_bl, un_str, un_non, un_sc, un_lst, un_tup, uns_nil, uns_cons, pl_int, pl_bl, pl_str, pl_non, pl_sc, pl_lst, pl_tup, pls_nil, pls_cons, ow_int, ow_bl, ow_str, ow_non, ow_lst, ow_tup, ows_nil, ows_cons, wipe_nil, wipe_cons, ints_nil, ints_cons, gBest_lst, gBest_tup, kBest_k, dKeep_k, vKeep_k, dCat_k, vCat1_k, vCat2_k, catD_k, dSorted_k, vSorted_k, sortD_k, dClear_k, kClr_k, dInsert_k, kIn_k, kIn1_ok, kIn2_ok, kIn3_k, tg_int, tg_bl, tg_str, tg_non, tg_tup, tgs_nil, tgs_cons, dRevT_k, vRevT_k, revTD_k, dRevL_k, vRevL_k, revLD_k, dTupOf_k, vTupOf_k, tupD_k, dCatM_k, vCatM1_k, vCatM2_k, catM_k, dTryB_k, kTry_nx, kTry_rt, kTry_ex, kTry2_k, isi_tuple_non, isi_tuple_lst, isi_int_lst, isi_int_str, isi_int_non, bls_nil, bls_cons, bnd_k, bigL0, bigL1, bigL2, bigL3, bigP0, bigP1, List.length_cons, List.length_nil, List.replicate, List.map_cons, List.map_nil, List.cons_append, List.nil_append, List.append_nil, List.getElem?_cons_zero, List.getElem?_cons_succ, List.set_cons_zero, List.set_cons_succ, Option.map_some, Option.map_none, Bool.not_true, Bool.not_false, if_true, Bool.false_eq_true, if_false, Nat.reduceAdd, Nat.reduceSub, Nat.reduceEqDiff, Bool.and_true, Bool.true_and, Bool.and_self, ite_true, ite_false, Nat.reduceLeDiff, reduceIte, reduceCtorEq, eq_self, decide_true, decide_false, not_true_eq_false, not_false_eq_true, Bool.false_and, Bool.and_false, Bool.or_false, Bool.false_or, Bool.true_or, Bool.or_true, e1] at hr
        exact ⟨_, hr.symm, rfl⟩
      | false =>
        simp only [kb_ok, kb_ex, kb_no, ret_k, lif_s, lif_n, dView_k, vView_k, dFlat_k, vFlat_int, vFlat_bl, vFlat_str, vFlat_non, dVar_k, kVar_k, dPk_k, kPk_k, dMv_k, kMv_k, dFrz_k, kFrz_k, dBin_k, vBin1_k, vBin2_k, dTest_k, vTest_k, dChain_k, vCh1_k, vCh2_k, vCh3_t, vCh3_f, dNot_k, vNot_k, dAnd_k, vAnd_t, vAnd_f, dOr_k, vOr_t, vOr_f, dAndV_k, vAndV_t, vAndV_f, dOrV_k, vOrV_t, vOrV_f, dNotV_k, vNotV_k, dIf_k, vIf_t, vIf_f, dCons_k, vCons1_k, vCons2_k, dTup_k, vTup_k, dLst_k, vLst_k, dCall_k, vCall_k, kc_rt, kc_ex, dItL_k, vItL_lst, vItL_sc, dItT_k, vItT_k, dRng1_k, vRng1_k, dRng2_k, vRng2_k, dCB_k, vCB_k, dIsi_k, vIsi_k, dListE_k, vListE_k, dListS_k, kLS_lst, dLRng1_k, vLRng1_k, dNeg_k, vNeg_k, dIxS_k, kIxS_k, vIxS_k, kIx2_lst, kIx2_tup, kIx2_sc, kIx3_k, dNx_k, dSeq_k, ks_nx, ks_rt, ks_bk, ks_ct, ks_ex, dDrop_k, kDrop_ok, kDrop_ex, dRet_k, kRet_ok, kRet_ex, dIfS_k, kIfS_t, kIfS_f, kIfS_ex, dSet_k, kSet_ok, kSet_ex, dAsg_k, kAsg_ok, kAsg_ex, kh_k, dAppend_k, kAp_k, kAp1_ok, kAp1_ex, kAp2_k, dAug_k, kAug_k, kAug1_ok, dSetItem_k, kSI_ok, kSI_ex, kSI1_k, kSI2_ok, kSI3_k, kSI4_k, dAugItem_k, kAI_k, kAI1_ok, kAI2_k, kAI3_k, kAI4_ok, kAI5_k, kAI6_k, dFor_k, kFor_ok, dComp_k, vComp_k, kCo_k, comp_nil, comp_cons, kc1_k, kc2_t, kc2_f, kc3_k, run_k, kRun_nx, kRun_rt, kRun_ex, hName_k, hNil_k, hCons_k, kH_k, hTup_k, gLt_int, gGt_int, gLe_int, gGe_int, gAdd_int, gMinus_int, gMul_int, gMod_int, gDiv_int, gIx_lst, gIx_tup, gIx_sc, gLen_lst, gLen_tup, gLen_sc, gAll_lst, gAny_lst, gSum_lst, isi_int_int, isi_int_bl, isi_bool_int, isi_bool_bl, isi_list_lst, isi_tuple_tup, isi_str_str, un_int, un_bl, un_str, un_non, un_sc, un_lst, un_tup, uns_nil, uns_cons, pl_int, pl_bl, pl_str, pl_non, pl_sc, pl_lst, pl_tup, pls_nil, pls_cons, ow_int, ow_bl, ow_str, ow_non, ow_lst, ow_tup, ows_nil, ows_cons, wipe_nil, wipe_cons, ints_nil, ints_cons, gBest_lst, gBest_tup, kBest_k, dKeep_k, vKeep_k, dCat_k, vCat1_k, vCat2_k, catD_k, dSorted_k, vSorted_k, sortD_k, dClear_k, kClr_k, dInsert_k, kIn_k, kIn1_ok, kIn2_ok, kIn3_k, tg_int, tg_bl, tg_str, tg_non, tg_tup, tgs_nil, tgs_cons, dRevT_k, vRevT_k, revTD_k, dRevL_k, vRevL_k, revLD_k, dTupOf_k, vTupOf_k, tupD_k, dCatM_k, vCatM1_k, vCatM2_k, catM_k, dTryB_k, kTry_nx, kTry_rt, kTry_ex, kTry2_k, isi_tuple_non, isi_tuple_lst, isi_int_lst, isi_int_str, isi_int_non, bls_nil, bls_cons, bnd_k, bigL0, bigL1, bigL2, bigL3, bigP0, bigP1, List.length_cons, List.length_nil, List.replicate, List.map_cons, List.map_nil, List.cons_append, List.nil_append, List.append_nil, List.getElem?_cons_zero, List.getElem?_cons_succ, List.set_cons_zero, List.set_cons_succ, Option.map_some, Option.map_none, Bool.not_true, Bool.not_false, if_true, Bool.false_eq_true, if_false, Nat.reduceAdd, Nat.reduceSub, Nat.reduceEqDiff, Bool.and_true, Bool.true_and, Bool.and_self, ite_true, ite_false, Nat.reduceLeDiff, reduceIte, reduceCtorEq, eq_self, decide_true, decide_false, not_true_eq_false, not_false_eq_true, Bool.false_and, Bool.and_false, Bool.or_false, Bool.false_or, Bool.true_or, Bool.or_true, e1, nats_un, gIn_nat] at hr
        have e2 : decide (o ∈ List.map (fun q : Gm => q.2) (List.filter (fun q => decide (q.1 = p)) gs)) = decide (o ∈ near gs p) := rfl
        rw [e2] at hr
        cases e3 : decide (o ∈ near gs p) with
        | true =>
          simp only [kb_ok, kb_ex, kb_no, ret_k, lif_s, lif_n, dView_k, vView_k, dFlat_k, vFlat_int, vFlat_bl, vFlat_str, vFlat_non, dVar_k, kVar_k, dPk_k, kPk_k, dMv_k, kMv_k, dFrz_k, kFrz_k, dBin_k, vBin1_k, vBin2_k, dTest_k, vTest_k, dChain_k, vCh1_k, vCh2_k, vCh3_t, vCh3_f, dNot_k, vNot_k, dAnd_k, vAnd_t, vAnd_f, dOr_k, vOr_t, vOr_f, dAndV_k, vAndV_t, vAndV_f, dOrV_k, vOrV_t, vOrV_f, dNotV_k, vNotV_k, dIf_k, vIf_t, vIf_f, dCons_k, vCons1_k, vCons2_k, dTup_k, vTup_k, dLst_k, vLst_k, dCall_k, vCall_k, kc_rt, kc_ex, dItL_k, vItL_lst, vItL_sc, dItT_k, vItT_k, dRng1_k, vRng1_k, dRng2_k, vRng2_k, dCB_k, vCB_k, dIsi_k, vIsi_k, dListE_k, vListE_k, dListS_k, kLS_lst, dLRng1_k, vLRng1_k, dNeg_k, vNeg_k, dIxS_k, kIxS_k, vIxS_k, kIx2_lst, kIx2_tup, kIx2_sc, kIx3_k, dNx_k, dSeq_k, ks_nx, ks_rt, ks_bk, ks_ct, ks_ex, dDrop_k, kDrop_ok, kDrop_ex, dRet_k, kRet_ok, kRet_ex, dIfS_k, kIfS_t, kIfS_f, kIfS_ex, dSet_k, kSet_ok, kSet_ex, dAsg_k, kAsg_ok, kAsg_ex, kh_k, dAppend_k, kAp_k, kAp1_ok, kAp1_ex, kAp2_k, dAug_k, kAug_k, kAug1_ok, dSetItem_k, kSI_ok, kSI_ex, kSI1_k, kSI2_ok, kSI3_k, kSI4_k, dAugItem_k, kAI_k, kAI1_ok, kAI2_k, kAI3_k, kAI4_ok, kAI5_k, kAI6_k, dFor_k, kFor_ok, dComp_k, vComp_k, kCo_k, comp_nil, comp_cons, kc1_k, kc2_t, kc2_f, kc3_k, run_k, kRun_nx, kRun_rt, kRun_ex, hName_k, hNil_k, hCons_k, kH_k, hTup_k, gLt_int, gGt_int, gLe_int, gGe_int, gAdd_int, gMinus_int, gMul_int, gMod_int, gDiv_int, gIx_lst, gIx_tup, gIx_sc, gLen_lst, gLen_tup, gLen_sc, gAll_lst, gAny_lst, gSum_lst, isi_int_int, isi_int_bl, isi_bool_int, isi_bool_bl, isi_list_lst, isi_tuple_tup, isi_str_str, un_int, un_bl, un_str, un_non, un_sc, un_lst, un_tup, uns_nil, uns_cons, pl_int, pl_bl, pl_str, pl_non, pl_sc, pl_lst, pl_tup, pls_nil, pls_cons, ow_int, ow_bl, ow_str, ow_non, ow_lst, ow_tup, ows_nil, ows_cons, wipe_nil, wipe_cons, ints_nil, ints_cons, gBest_lst, gBest_tup, kBest_k, dKeep_k, vKeep_k, dCat_k, vCat1_k, vCat2_k, catD_k, dSorted_k, vSorted_k, sortD_k, dClear_k, kClr_k, dInsert_k, kIn_k, kIn1_ok, kIn2_ok, kIn3_k, tg_int, tg_bl, tg_str, tg_non, tg_tup, tgs_nil, tgs_cons, dRevT_k, vRevT_k, revTD_k, dRevL_k, vRevL_k, revLD_k, dTupOf_k, vTupOf_k, tupD_k, dCatM_k, vCatM1_k, vCatM2_k, catM_k, dTryB_k, kTry_nx, kTry_rt, kTry_ex, kTry2_k, isi_tuple_non, isi_tuple_lst, isi_int_lst, isi_int_str, isi_int_non, bls_nil, bls_cons, bnd_k, bigL0, bigL1, bigL2, bigL3, bigP0, bigP1, List.length_cons, List.length_nil, List.replicate, List.map_cons, List.map_nil, List.cons_append, List.nil_append, List.append_nil, List.getElem?_cons_zero, List.getElem?_cons_succ, List.set_cons_zero, List.set_cons_succ, Option.map_some, Option.map_none, Bool.not_true, Bool.not_false, if_true, Bool.false_eq_true, if_false, Nat.reduceAdd, Nat.reduceSub, Nat.reduceEqDiff, Bool.and_true, Bool.true_and, Bool.and_self, ite_true, ite_false, Nat.reduceLeDiff, reduceIte, reduceCtorEq, eq_self, decide_true, decide_false, not_true_eq_false, not_false_eq_true, Bool.false_and, Bool.and_false, Bool.or_false, Bool.false_or, Bool.true_or, Bool.or_true, e3] at hr
          exact ⟨_, hr.symm, rfl⟩
        | false =>
          simp only [kb_ok, kb_ex, kb_no, ret_k, lif_s, lif_n, dView_k, vView_k, dFlat_k, vFlat_int, vFlat_bl, vFlat_str, vFlat_non, dVar_k, kVar_k, dPk_k, kPk_k, dMv_k, kMv_k, dFrz_k, kFrz_k, dBin_k, vBin1_k, vBin2_k, dTest_k, vTest_k, dChain_k, vCh1_k, vCh2_k, vCh3_t, vCh3_f, dNot_k, vNot_k, dAnd_k, vAnd_t, vAnd_f, dOr_k, vOr_t, vOr_f, dAndV_k, vAndV_t, vAndV_f, dOrV_k, vOrV_t, vOrV_f, dNotV_k, vNotV_k, dIf_k, vIf_t, vIf_f, dCons_k, vCons1_k, vCons2_k, dTup_k, vTup_k, dLst_k, vLst_k, dCall_k, vCall_k, kc_rt, kc_ex, dItL_k, vItL_lst, vItL_sc, dItT_k, vItT_k, dRng1_k, vRng1_k, dRng2_k, vRng2_k, dCB_k, vCB_k, dIsi_k, vIsi_k, dListE_k, vListE_k, dListS_k, kLS_lst, dLRng1_k, vLRng1_k, dNeg_k, vNeg_k, dIxS_k, kIxS_k, vIxS_k, kIx2_lst, kIx2_tup, kIx2_sc, kIx3_k, dNx_k, dSeq_k, ks_nx, ks_rt, ks_bk, ks_ct, ks_ex, dDrop_k, kDrop_ok, kDrop_ex, dRet_k, kRet_ok, kRet_ex, dIfS_k, kIfS_t, kIfS_f, kIfS_ex, dSet_k, kSet_ok, kSet_ex, dAsg_k, kAsg_ok, kAsg_ex, kh_k, dAppend_k, kAp_k, kAp1_ok, kAp1_ex, kAp2_k, dAug_k, kAug_k, kAug1_ok, dSetItem_k, kSI_ok, kSI_ex, kSI1_k, kSI2_ok, kSI3_k, kSI4_k, dAugItem_k, kAI_k, kAI1_ok, kAI2_k, kAI3_k, kAI4_ok, kAI5_k, kAI6_k, dFor_k, kFor_ok, dComp_k, vComp_k, kCo_k, comp_nil, comp_cons, kc1_k, kc2_t, kc2_f, kc3_k, run_k, kRun_nx, kRun_rt, kRun_ex, hName_k, hNil_k, hCons_k, kH_k, hTup_k, gLt_int, gGt_int, gLe_int, gGe_int, gAdd_int, gMinus_int, gMul_int, gMod_int, gDiv_int, gIx_lst, gIx_tup, gIx_sc, gLen_lst, gLen_tup, gLen_sc, gAll_lst, gAny_lst, gSum_lst, isi_int_int, isi_int_bl, isi_bool_int, isi_bool_bl, isi_list_lst, isi_tuple_tup, isi_str_str, un_int, un_bl, un_str, un_non, un_sc, un_lst, un_tup, uns_nil, uns_cons, pl_int, pl_bl, pl_str, pl_non, pl_sc, pl_lst, pl_tup, pls_nil, pls_cons, ow_int, ow_bl, ow_str, ow_non, ow_lst, ow_tup, ows_nil, ows_cons, wipe_nil, wipe_cons, ints_nil, ints_cons, gBest_lst, gBest_tup, kBest_k, dKeep_k, vKeep_k, dCat_k, vCat1_k, vCat2_k, catD_k, dSorted_k, vSorted_k, sortD_k, dClear_k, kClr_k, dInsert_k, kIn_k, kIn1_ok, kIn2_ok, kIn3_k, tg_int, tg_bl, tg_str, tg_non, tg_tup, tgs_nil, tgs_cons, dRevT_k, vRevT_k, revTD_k, dRevL_k, vRevL_k, revLD_k, dTupOf_k, vTupOf_k, tupD_k, dCatM_k, vCatM1_k, vCatM2_k, catM_k, dTryB_k, kTry_nx, kTry_rt, kTry_ex, kTry2_k, isi_tuple_non, isi_tuple_lst, isi_int_lst, isi_int_str, isi_int_non, bls_nil, bls_cons, bnd_k, bigL0, bigL1, bigL2, bigL3, bigP0, bigP1, List.length_cons, List.length_nil, List.replicate, List.map_cons, List.map_nil, List.cons_append, List.nil_append, List.append_nil, List.getElem?_cons_zero, List.getElem?_cons_succ, List.set_cons_zero, List.set_cons_succ, Option.map_some, Option.map_none, Bool.not_true, Bool.not_false, if_true, Bool.false_eq_true, if_false, Nat.reduceAdd, Nat.reduceSub, Nat.reduceEqDiff, Bool.and_true, Bool.true_and, Bool.and_self, ite_true, ite_false, Nat.reduceLeDiff, reduceIte, reduceCtorEq, eq_self, decide_true, decide_false, not_true_eq_false, not_false_eq_true, Bool.false_and, Bool.and_false, Bool.or_false, Bool.false_or, Bool.true_or, Bool.or_true, e3, nats_un, gIn_nat] at hr
          exact ⟨_, hr.symm, rfl⟩)
    subst q3
    have hz : s.length < big ∨ kingB gs n p = false := by
      cases hk : kingB gs n p with
      | false => exact .inr rfl
      | true =>
        rw [if_pos hk] at hl
        simp at hl
        exact .inl (by rw [big_val]; omega)
    simp only [kb_ok, kb_ex, kb_no, ret_k, lif_s, lif_n, dView_k, vView_k, dFlat_k, vFlat_int, vFlat_bl, vFlat_str, vFlat_non, dVar_k, kVar_k, dPk_k, kPk_k, dMv_k, kMv_k, dFrz_k, kFrz_k, dBin_k, vBin1_k, vBin2_k, dTest_k, vTest_k, dChain_k, vCh1_k, vCh2_k, vCh3_t, vCh3_f, dNot_k, vNot_k, dAnd_k, vAnd_t, vAnd_f, dOr_k, vOr_t, vOr_f, dAndV_k, vAndV_t, vAndV_f, dOrV_k, vOrV_t, vOrV_f, dNotV_k, vNotV_k, dIf_k, vIf_t, vIf_f, dCons_k, vCons1_k, vCons2_k, dTup_k, vTup_k, dLst_k, vLst_k, dCall_k, vCall_k, kc_rt, kc_ex, dItL_k, vItL_lst, vItL_sc, dItT_k, vItT_k, dRng1_k, vRng1_k, dRng2_k, vRng2_k, dCB_k, vCB_k, dIsi_k, vIsi_k, dListE_k, vListE_k, dListS_k, kLS_lst, dLRng1_k, vLRng1_k, dNeg_k, vNeg_k, dIxS_k, kIxS_k, vIxS_k, kIx2_lst, kIx2_tup, kIx2_sc, kIx3_k, dNx_k, dSeq_k, ks_nx, ks_rt, ks_bk, ks_ct, ks_ex, dDrop_k, kDrop_ok, kDrop_ex, dRet_k, kRet_ok, kRet_ex, dIfS_k, kIfS_t, kIfS_f, kIfS_ex, dSet_k, kSet_ok, kSet_ex, dAsg_k, kAsg_ok, kAsg_ex, kh_k, dAppend_k, kAp_k, kAp1_ok, kAp1_ex, kAp2_k, dAug_k, kAug_k, kAug1_ok, dSetItem_k, kSI_ok, kSI_ex, kSI1_k, kSI2_ok, kSI3_k, kSI4_k, dAugItem_k, kAI_k, kAI1_ok, kAI2_k, kAI3_k, kAI4_ok, kAI5_k, kAI6_k, dFor_k, kFor_ok, dComp_k, vComp_k, kCo_k, comp_nil, comp_cons, kc1_k, kc2_t, kc2_f, kc3_k, run_k, kRun_nx, kRun_rt, kRun_ex, hName_k, hNil_k, hCons_k, kH_k, hTup_k, gLt_int, gGt_int, gLe_int, gGe_int, gAdd_int, gMinus_int, gMul_int, gMod_int, gDiv_int, gIx_lst, gIx_tup, gIx_sc, gLen_lst, gLen_tup, gLen_sc, gAll_lst, gAny_lst, gSum_lst, isi_int_int, isi_int_bl, isi_bool_int, isi_bool_bl, isi_list_lst, isi_tuple_tup, isi_str_str, un_int, un_bl, un_str, un_non, un_sc, un_lst, un_tup, uns_nil, uns_cons, pl_int, pl_bl, pl_str, pl_non, pl_sc, pl_lst, pl_tup, pls_nil, pls_cons, ow_int, ow_bl, ow_str, ow_non, ow_lst, ow_tup, ows_nil, ows_cons, wipe_nil, wipe_cons, ints_nil, ints_cons, gBest_lst, gBest_tup, kBest_k, dKeep_k, vKeep_k, dCat_k, vCat1_k, vCat2_k, catD_k, dSorted_k, vSorted_k, sortD_k, dClear_k, kClr_k, dInsert_k, kIn_k, kIn1_ok, kIn2_ok, kIn3_k, tg_int, tg_bl, tg_str, tg_non, tg_tup, tgs_nil, tgs_cons, dRevT_k, vRevT_k, revTD_k, dRevL_k, vRevL_k, revLD_k, dTupOf_k, vTupOf_k, tupD_k, dCatM_k, vCatM1_k, vCatM2_k, catM_k, dTryB_k, kTry_nx, kTry_rt, kTry_ex, kTry2_k, isi_tuple_non, isi_tuple_lst, isi_int_lst, isi_int_str, isi_int_non, bls_nil, bls_cons, bnd_k, bigL0, bigL1, bigL2, bigL3, bigP0, bigP1, List.length_cons, List.length_nil, List.replicate, List.map_cons, List.map_nil, List.cons_append, List.nil_append, List.append_nil, List.getElem?_cons_zero, List.getElem?_cons_succ, List.set_cons_zero, List.set_cons_succ, Option.map_some, Option.map_none, Bool.not_true, Bool.not_false, if_true, Bool.false_eq_true, if_false, Nat.reduceAdd, Nat.reduceSub, Nat.reduceEqDiff, Bool.and_true, Bool.true_and, Bool.and_self, ite_true, ite_false, Nat.reduceLeDiff, reduceIte, reduceCtorEq, eq_self, decide_true, decide_false, not_true_eq_false, not_false_eq_true, Bool.false_and, Bool.and_false, Bool.or_false, Bool.false_or, Bool.true_or, Bool.or_true, bls_un, blsOf_all] at hr
    have e4 : (List.map (fun o => decide (o = p) || (decide (o ∈ near gs p) || decide (o ∈ far gs p))) (List.range n)).all id = kingB gs n p := by
      simp [kingB, List.all_map, Function.comp_def]
    rw [e4] at hr
    cases hk : kingB gs n p with
    | false =>
      simp only [kb_ok, kb_ex, kb_no, ret_k, lif_s, lif_n, dView_k, vView_k, dFlat_k, vFlat_int, vFlat_bl, vFlat_str, vFlat_non, dVar_k, kVar_k, dPk_k, kPk_k, dMv_k, kMv_k, dFrz_k, kFrz_k, dBin_k, vBin1_k, vBin2_k, dTest_k, vTest_k, dChain_k, vCh1_k, vCh2_k, vCh3_t, vCh3_f, dNot_k, vNot_k, dAnd_k, vAnd_t, vAnd_f, dOr_k, vOr_t, vOr_f, dAndV_k, vAndV_t, vAndV_f, dOrV_k, vOrV_t, vOrV_f, dNotV_k, vNotV_k, dIf_k, vIf_t, vIf_f, dCons_k, vCons1_k, vCons2_k, dTup_k, vTup_k, dLst_k, vLst_k, dCall_k, vCall_k, kc_rt, kc_ex, dItL_k, vItL_lst, vItL_sc, dItT_k, vItT_k, dRng1_k, vRng1_k, dRng2_k, vRng2_k, dCB_k, vCB_k, dIsi_k, vIsi_k, dListE_k, vListE_k, dListS_k, kLS_lst, dLRng1_k, vLRng1_k, dNeg_k, vNeg_k, dIxS_k, kIxS_k, vIxS_k, kIx2_lst, kIx2_tup, kIx2_sc, kIx3_k, dNx_k, dSeq_k, ks_nx, ks_rt, ks_bk, ks_ct, ks_ex, dDrop_k, kDrop_ok, kDrop_ex, dRet_k, kRet_ok, kRet_ex, dIfS_k, kIfS_t, kIfS_f, kIfS_ex, dSet_k, kSet_ok, kSet_ex, dAsg_k, kAsg_ok, kAsg_ex, kh_k, dAppend_k, kAp_k, kAp1_ok, kAp1_ex, kAp2_k, dAug_k, kAug_k, kAug1_ok, dSetItem_k, kSI_ok, kSI_ex, kSI1_k, kSI2_ok, kSI3_k, kSI4_k, dAugItem_k, kAI_k, kAI1_ok, kAI2_k, kAI3_k, kAI4_ok, kAI5_k, kAI6_k, dFor_k, kFor_ok, dComp_k, vComp_k, kCo_k, comp_nil, comp_cons, kc1_k, kc2_t, kc2_f, kc3_k, run_k, kRun_nx, kRun_rt, kRun_ex, hName_k, hNil_k, hCons_k, kH_k, hTup_k, gLt_int, gGt_int, gLe_int, gGe_int, gAdd_int, gMinus_int, gMul_int, gMod_int, gDiv_int, gIx_lst, gIx_tup, gIx_sc, gLen_lst, gLen_tup, gLen_sc, gAll_lst, gAny_lst, gSum_lst, isi_int_int, isi_int_bl, isi_bool_int, isi_bool_bl, isi_list_lst, isi_tuple_tup, isi_str_str, un_int, un_bl, un_str, un_non, un_sc, un_lst, un_tup, uns_nil, uns_cons, pl_int, pl_bl, pl_str, pl_non, pl_sc, pl_lst, pl_tup, pls_nil, pls_cons, ow_int, ow_bl, ow_str, ow_non, ow_lst, ow_tup, ows_nil, ows_cons, wipe_nil, wipe_cons, ints_nil, ints_cons, gBest_lst, gBest_tup, kBest_k, dKeep_k, vKeep_k, dCat_k, vCat1_k, vCat2_k, catD_k, dSorted_k, vSorted_k, sortD_k, dClear_k, kClr_k, dInsert_k, kIn_k, kIn1_ok, kIn2_ok, kIn3_k, tg_int, tg_bl, tg_str, tg_non, tg_tup, tgs_nil, tgs_cons, dRevT_k, vRevT_k, revTD_k, dRevL_k, vRevL_k, revLD_k, dTupOf_k, vTupOf_k, tupD_k, dCatM_k, vCatM1_k, vCatM2_k, catM_k, dTryB_k, kTry_nx, kTry_rt, kTry_ex, kTry2_k, isi_tuple_non, isi_tuple_lst, isi_int_lst, isi_int_str, isi_int_non, bls_nil, bls_cons, bnd_k, bigL0, bigL1, bigL2, bigL3, bigP0, bigP1, List.length_cons, List.length_nil, List.replicate, List.map_cons, List.map_nil, List.cons_append, List.nil_append, List.append_nil, List.getElem?_cons_zero, List.getElem?_cons_succ, List.set_cons_zero, List.set_cons_succ, Option.map_some, Option.map_none, Bool.not_true, Bool.not_false, if_true, Bool.false_eq_true, if_false, Nat.reduceAdd, Nat.reduceSub, Nat.reduceEqDiff, Bool.and_true, Bool.true_and, Bool.and_self, ite_true, ite_false, Nat.reduceLeDiff, reduceIte, reduceCtorEq, eq_self, decide_true, decide_false, not_true_eq_false, not_false_eq_true, Bool.false_and, Bool.and_false, Bool.or_false, Bool.false_or, Bool.true_or, Bool.or_true, hk] at hr
      rw [if_neg Bool.false_ne_true, ap_nil]
      exact ⟨_, .inl hr.symm, _, _, _, _, rfl⟩
    | true =>
      have hz' : s.length < big := by
        rcases hz with h | h
        · exact h
        · rw [hk] at h; cases h
      simp only [kb_ok, kb_ex, kb_no, ret_k, lif_s, lif_n, dView_k, vView_k, dFlat_k, vFlat_int, vFlat_bl, vFlat_str, vFlat_non, dVar_k, kVar_k, dPk_k, kPk_k, dMv_k, kMv_k, dFrz_k, kFrz_k, dBin_k, vBin1_k, vBin2_k, dTest_k, vTest_k, dChain_k, vCh1_k, vCh2_k, vCh3_t, vCh3_f, dNot_k, vNot_k, dAnd_k, vAnd_t, vAnd_f, dOr_k, vOr_t, vOr_f, dAndV_k, vAndV_t, vAndV_f, dOrV_k, vOrV_t, vOrV_f, dNotV_k, vNotV_k, dIf_k, vIf_t, vIf_f, dCons_k, vCons1_k, vCons2_k, dTup_k, vTup_k, dLst_k, vLst_k, dCall_k, vCall_k, kc_rt, kc_ex, dItL_k, vItL_lst, vItL_sc, dItT_k, vItT_k, dRng1_k, vRng1_k, dRng2_k, vRng2_k, dCB_k, vCB_k, dIsi_k, vIsi_k, dListE_k, vListE_k, dListS_k, kLS_lst, dLRng1_k, vLRng1_k, dNeg_k, vNeg_k, dIxS_k, kIxS_k, vIxS_k, kIx2_lst, kIx2_tup, kIx2_sc, kIx3_k, dNx_k, dSeq_k, ks_nx, ks_rt, ks_bk, ks_ct, ks_ex, dDrop_k, kDrop_ok, kDrop_ex, dRet_k, kRet_ok, kRet_ex, dIfS_k, kIfS_t, kIfS_f, kIfS_ex, dSet_k, kSet_ok, kSet_ex, dAsg_k, kAsg_ok, kAsg_ex, kh_k, dAppend_k, kAp_k, kAp1_ok, kAp1_ex, kAp2_k, dAug_k, kAug_k, kAug1_ok, dSetItem_k, kSI_ok, kSI_ex, kSI1_k, kSI2_ok, kSI3_k, kSI4_k, dAugItem_k, kAI_k, kAI1_ok, kAI2_k, kAI3_k, kAI4_ok, kAI5_k, kAI6_k, dFor_k, kFor_ok, dComp_k, vComp_k, kCo_k, comp_nil, comp_cons, kc1_k, kc2_t, kc2_f, kc3_k, run_k, kRun_nx, kRun_rt, kRun_ex, hName_k, hNil_k, hCons_k, kH_k, hTup_k, gLt_int, gGt_int, gLe_int, gGe_int, gAdd_int, gMinus_int, gMul_int, gMod_int, gDiv_int, gIx_lst, gIx_tup, gIx_sc, gLen_lst, gLen_tup, gLen_sc, gAll_lst, gAny_lst, gSum_lst, isi_int_int, isi_int_bl, isi_bool_int, isi_bool_bl, isi_list_lst, isi_tuple_tup, isi_str_str, un_int, un_bl, un_str, un_non, un_sc, un_lst, un_tup, uns_nil, uns_cons, pl_int, pl_bl, pl_str, pl_non, pl_sc, pl_lst, pl_tup, pls_nil, pls_cons, ow_int, ow_bl, ow_str, ow_non, ow_lst, ow_tup, ows_nil, ows_cons, wipe_nil, wipe_cons, ints_nil, ints_cons, gBest_lst, gBest_tup, kBest_k, dKeep_k, vKeep_k, dCat_k, vCat1_k, vCat2_k, catD_k, dSorted_k, vSorted_k, sortD_k, dClear_k, kClr_k, dInsert_k, kIn_k, kIn1_ok, kIn2_ok, kIn3_k, tg_int, tg_bl, tg_str, tg_non, tg_tup, tgs_nil, tgs_cons, dRevT_k, vRevT_k, revTD_k, dRevL_k, vRevL_k, revLD_k, dTupOf_k, vTupOf_k, tupD_k, dCatM_k, vCatM1_k, vCatM2_k, catM_k, dTryB_k, kTry_nx, kTry_rt, kTry_ex, kTry2_k, isi_tuple_non, isi_tuple_lst, isi_int_lst, isi_int_str, isi_int_non, bls_nil, bls_cons, bnd_k, bigL0, bigL1, bigL2, bigL3, bigP0, bigP1, List.length_cons, List.length_nil, List.replicate, List.map_cons, List.map_nil, List.cons_append, List.nil_append, List.append_nil, List.getElem?_cons_zero, List.getElem?_cons_succ, List.set_cons_zero, List.set_cons_succ, Option.map_some, Option.map_none, Bool.not_true, Bool.not_false, if_true, Bool.false_eq_true, if_false, Nat.reduceAdd, Nat.reduceSub, Nat.reduceEqDiff, Bool.and_true, Bool.true_and, Bool.and_self, ite_true, ite_false, Nat.reduceLeDiff, reduceIte, reduceCtorEq, eq_self, decide_true, decide_false, not_true_eq_false, not_false_eq_true, Bool.false_and, Bool.and_false, Bool.or_false, Bool.false_or, Bool.true_or, Bool.or_true, hk, nats_len, hz', nats_snoc] at hr
      rw [if_pos rfl]
      exact ⟨_, .inl hr.symm, _, _, _, _, rfl⟩)
  simp only [kb_ok, kb_ex, kb_no, ret_k, lif_s, lif_n, dView_k, vView_k, dFlat_k, vFlat_int, vFlat_bl, vFlat_str, vFlat_non, dVar_k, kVar_k, dPk_k, kPk_k, dMv_k, kMv_k, dFrz_k, kFrz_k, dBin_k, vBin1_k, vBin2_k, dTest_k, vTest_k, dChain_k, vCh1_k, vCh2_k, vCh3_t, vCh3_f, dNot_k, vNot_k, dAnd_k, vAnd_t, vAnd_f, dOr_k, vOr_t, vOr_f, dAndV_k, vAndV_t, vAndV_f, dOrV_k, vOrV_t, vOrV_f, dNotV_k, vNotV_k, dIf_k, vIf_t, vIf_f, dCons_k, vCons1_k, vCons2_k, dTup_k, vTup_k, dLst_k, vLst_k, dCall_k, vCall_k, kc_rt, kc_ex, dItL_k, vItL_lst, vItL_sc, dItT_k, vItT_k, dRng1_k, vRng1_k, dRng2_k, vRng2_k, dCB_k, vCB_k, dIsi_k, vIsi_k, dListE_k, vListE_k, dListS_k, kLS_lst, dLRng1_k, vLRng1_k, dNeg_k, vNeg_k, dIxS_k, kIxS_k, vIxS_k, kIx2_lst, kIx2_tup, kIx2_sc, kIx3_k, dNx_k, dSeq_k, ks_nx, ks_rt, ks_bk, ks_ct, ks_ex, dDrop_k, kDrop_ok, kDrop_ex, dRet_k, kRet_ok, kRet_ex, dIfS_k, kIfS_t, kIfS_f, kIfS_ex, dSet_k, kSet_ok, kSet_ex, dAsg_k, kAsg_ok, kAsg_ex, kh_k, dAppend_k, kAp_k, kAp1_ok, kAp1_ex, kAp2_k, dAug_k, kAug_k, kAug1_ok, dSetItem_k, kSI_ok, kSI_ex, kSI1_k, kSI2_ok, kSI3_k, kSI4_k, dAugItem_k, kAI_k, kAI1_ok, kAI2_k, kAI3_k, kAI4_ok, kAI5_k, kAI6_k, dFor_k, kFor_ok, dComp_k, vComp_k, kCo_k, comp_nil, comp_cons, kc1_k, kc2_t, kc2_f, kc3_k, run_k, kRun_nx, kRun_rt, kRun_ex, hName_k, hNil_k, hCons_k, kH_k, hTup_k, gLt_int, gGt_int, gLe_int, gGe_int, gAdd_int, gMinus_int, gMul_int, gMod_int, gDiv_int, gIx_lst, gIx_tup, gIx_sc, gLen_lst, gLen_tup, gLen_sc, gAll_lst, gAny_lst, gSum_lst, isi_int_int, isi_int_bl, isi_bool_int, isi_bool_bl, isi_list_lst, isi_tuple_tup, isi_str_str, un_int, un_bl, un_str, un_non, un_sc, un_lst, un_tup, uns_nil, uns_cons, pl_int, pl_bl, pl_str, pl_non, pl_sc, pl_lst, pl_tup, pls_nil, pls_cons, ow_int, ow_bl, ow_str, ow_non, ow_lst, ow_tup, ows_nil, ows_cons, wipe_nil, wipe_cons, ints_nil, ints_cons, gBest_lst, gBest_tup, kBest_k, dKeep_k, vKeep_k, dCat_k, vCat1_k, vCat2_k, catD_k, dSorted_k, vSorted_k, sortD_k, dClear_k, kClr_k, dInsert_k, kIn_k, kIn1_ok, kIn2_ok, kIn3_k, tg_int, tg_bl, tg_str, tg_non, tg_tup, tgs_nil, tgs_cons, dRevT_k, vRevT_k, revTD_k, dRevL_k, vRevL_k, revLD_k, dTupOf_k, vTupOf_k, tupD_k, dCatM_k, vCatM1_k, vCatM2_k, catM_k, dTryB_k, kTry_nx, kTry_rt, kTry_ex, kTry2_k, isi_tuple_non, isi_tuple_lst, isi_int_lst, isi_int_str, isi_int_non, bls_nil, bls_cons, bnd_k, bigL0, bigL1, bigL2, bigL3, bigP0, bigP1, List.length_cons, List.length_nil, List.replicate, List.map_cons, List.map_nil, List.cons_append, List.nil_append, List.append_nil, List.getElem?_cons_zero, List.getElem?_cons_succ, List.set_cons_zero, List.set_cons_succ, Option.map_some, Option.map_none, Bool.not_true, Bool.not_false, if_true, Bool.false_eq_true, if_false, Nat.reduceAdd, Nat.reduceSub, Nat.reduceEqDiff, Bool.and_true, Bool.true_and, Bool.and_self, ite_true, ite_false, Nat.reduceLeDiff, reduceIte, reduceCtorEq, eq_self, decide_true, decide_false, not_true_eq_false, not_false_eq_true, Bool.false_and, Bool.and_false, Bool.or_false, Bool.false_or, Bool.true_or, Bool.or_true, flat_if]
end Sh

set_option Elab.async false
set_option linter.all false
set_option maxRecDepth 100000
/-! The plain laws, part I: tournaments. -/
namespace Sh
open L2 Ly
structure Tour (n : Nat) (gs : List Gm) : Prop where
  tot : ∀ i j, i < n → j < n → i ≠ j → (i, j) ∈ gs ∨ (j, i) ∈ gs
  asym : ∀ i j, (i, j) ∈ gs → (j, i) ∉ gs
  inn : inn n gs
  nd : gs.Nodup
theorem pairs_nd (n : Nat) : (pairs n).Nodup := by
  refine (plt_pairs n).imp ?_
  intro p q h e
  subst e
  simp [plt] at h
theorem nd_of_map {α β : Type} (f : α → β) : ∀ {l : List α}, (l.map f).Nodup → l.Nodup
  | [], _ => List.nodup_nil
  | x :: xs, h => by
    rw [List.map_cons, List.nodup_cons] at h
    rw [List.nodup_cons]
    exact ⟨fun m => h.1 (List.mem_map.2 ⟨x, m, rfl⟩), nd_of_map f h.2⟩
theorem tour_round (w : Nat → Nat → Bool) (n : Nat) : Tour n (round w n) where
  tot := by
    have key : ∀ i j, i < j → j < n → (i, j) ∈ round w n ∨ (j, i) ∈ round w n := by
      intro i j h1 h2
      have hm : side w (i, j) ∈ round w n := List.mem_map.2 ⟨(i, j), mem_pairs.2 ⟨h1, h2⟩, rfl⟩
      unfold side at hm
      split at hm
      · exact .inl hm
      · exact .inr hm
    intro i j h1 h2 h3
    rcases Nat.lt_or_gt_of_ne h3 with h | h
    · exact key i j h h2
    · exact (key j i h h1).symm
  asym := by
    intro i j h1 h2
    obtain ⟨p, hp, e⟩ := List.mem_map.1 h1
    obtain ⟨q, hq, e2⟩ := List.mem_map.1 h2
    have g1 := gm_side w hp
    have g2 := gm_side w hq
    rw [e] at g1
    rw [e2] at g2
    have : gm (i, j) = gm (j, i) := by
      unfold gm
      simp only
      by_cases a : j < i
      · rw [if_pos a, if_neg (by omega)]
      · rw [if_neg a]
        by_cases b : i < j
        · rw [if_pos b]
        · rw [if_neg b]
          have : i = j := by omega
          rw [this]
    rw [g1, g2] at this
    subst this
    rw [e] at e2
    have hij : i = j := congrArg Prod.fst e2
    subst hij
    obtain ⟨m1, _⟩ := mem_pairs.1 hp
    rw [← g1] at m1
    unfold gm at m1
    simp at m1
  inn := (Gms.round w n).inn
  nd := nd_of_map gm (by rw [round_gm]; exact pairs_nd n)
theorem mem_near {gs : List Gm} {p o : Nat} : o ∈ near gs p ↔ (p, o) ∈ gs := by
  unfold near
  simp only [List.mem_map, List.mem_filter, decide_eq_true_eq]
  constructor
  · rintro ⟨⟨a, b⟩, ⟨h1, h2⟩, h3⟩
    simp only at h2 h3
    subst h2 h3
    exact h1
  · intro h
    exact ⟨(p, o), ⟨h, rfl⟩, rfl⟩
theorem mem_far {gs : List Gm} {p o : Nat} : o ∈ far gs p ↔ ∃ m, (p, m) ∈ gs ∧ (m, o) ∈ gs := by
  unfold far
  simp only [List.mem_map, List.mem_filter, decide_eq_true_eq]
  constructor
  · rintro ⟨⟨a, b⟩, ⟨h1, h2⟩, h3⟩
    simp only at h2 h3
    subst h3
    exact ⟨a, mem_near.1 h2, h1⟩
  · rintro ⟨m, h1, h2⟩
    exact ⟨(m, o), ⟨h2, mem_near.2 h1⟩, rfl⟩
def King (gs : List Gm) (n p : Nat) : Prop := ∀ o, o < n → o = p ∨ (p, o) ∈ gs ∨ ∃ m, (p, m) ∈ gs ∧ (m, o) ∈ gs
theorem kingB_iff {gs : List Gm} {n p : Nat} : kingB gs n p = true ↔ King gs n p := by
  unfold kingB King
  simp only [List.all_eq_true, List.mem_range, Bool.or_eq_true, decide_eq_true_eq, mem_near, mem_far]
theorem nd_sub_len {α : Type} [DecidableEq α] : ∀ {l m : List α}, l.Nodup → (∀ x ∈ l, x ∈ m) → l.length ≤ m.length
  | [], _, _, _ => Nat.zero_le _
  | x :: xs, m, h, s => by
    rw [List.nodup_cons] at h
    have hx := s x (by simp)
    have := nd_sub_len (m := m.erase x) h.2 fun y hy => by
      refine (List.mem_erase_of_ne ?_).2 (s y (by simp [hy]))
      intro e
      subst e
      exact h.1 hy
    rw [List.length_erase_of_mem hx] at this
    have : 0 < m.length := List.length_pos_of_mem hx
    simp only [List.length_cons]
    omega
theorem near_nd {gs : List Gm} (h : gs.Nodup) (p : Nat) : (near gs p).Nodup := by
  unfold near
  rw [List.Nodup, List.pairwise_map]
  have h1 : (gs.filter fun q => decide (q.1 = p)).Nodup := List.Nodup.sublist List.filter_sublist h
  refine List.Pairwise.imp_of_mem ?_ h1
  intro a b ha hb hne e
  have ha2 := (List.mem_filter.1 ha).2
  have hb2 := (List.mem_filter.1 hb).2
  simp only [decide_eq_true_eq] at ha2 hb2
  exact hne (Prod.ext (ha2.trans hb2.symm) e)
theorem wins_near (gs : List Gm) (p : Nat) : wins gs p = (near gs p).length := by
  unfold wins near
  rw [List.length_map, List.countP_eq_length_filter]
  have e : (fun q : Gm => q.1 == p) = fun q => decide (q.1 = p) := by
    funext q
    by_cases h : q.1 = p <;> simp [h]
  rw [e]
/-- who wins most is a king -/
theorem king_of_max {n : Nat} {gs : List Gm} (t : Tour n gs) {p : Nat} (hp : p < n) (h : ∀ j, j < n → wins gs j ≤ wins gs p) : King gs n p := by
  intro o ho
  by_cases e : o = p
  · exact .inl e
  by_cases e2 : (p, o) ∈ gs
  · exact .inr (.inl e2)
  by_cases e3 : ∃ m, (p, m) ∈ gs ∧ (m, o) ∈ gs
  · exact .inr (.inr e3)
  exfalso
  have op : (o, p) ∈ gs := (t.tot o p ho hp e).resolve_right e2
  have sub : ∀ x ∈ p :: near gs p, x ∈ near gs o := by
    intro x hx
    rcases List.mem_cons.1 hx with rfl | hx
    · exact mem_near.2 op
    · have hx := mem_near.1 hx
      have xn := (t.inn _ hx).2
      have : x ≠ o := fun e => e2 (e ▸ hx)
      refine mem_near.2 ((t.tot o x ho xn (Ne.symm this)).resolve_right fun z => e3 ⟨x, hx, z⟩)
  have nd : (p :: near gs p).Nodup := by
    rw [List.nodup_cons]
    refine ⟨fun z => ?_, near_nd t.nd p⟩
    exact t.asym _ _ (mem_near.1 z) (mem_near.1 z)
  have := nd_sub_len nd sub
  have h2 := h o ho
  rw [wins_near, wins_near] at h2
  simp at this
  omega
/-- some of the players have a king of their own -/
theorem king_in {n : Nat} {gs : List Gm} (t : Tour n gs) : ∀ S : List Nat, S ≠ [] → (∀ x ∈ S, x < n) → ∃ k ∈ S, ∀ o ∈ S, o = k ∨ (k, o) ∈ gs ∨ ∃ m ∈ S, (k, m) ∈ gs ∧ (m, o) ∈ gs
  | [], h, _ => absurd rfl h
  | [x], _, _ => ⟨x, by simp, by simp⟩
  | x :: y :: S, _, hn => by
    obtain ⟨k, hk, K⟩ := king_in t (y :: S) (by simp) fun z hz => hn z (by simp at hz ⊢; exact .inr hz)
    by_cases hx : x ∈ y :: S
    · refine ⟨k, List.mem_cons_of_mem _ hk, fun o ho => ?_⟩
      have ho' : o ∈ y :: S := by
        rcases List.mem_cons.1 ho with rfl | h
        · exact hx
        · exact h
      rcases K o ho' with h | h | ⟨m, hm, h1, h2⟩
      · exact .inl h
      · exact .inr (.inl h)
      · exact .inr (.inr ⟨m, List.mem_cons_of_mem _ hm, h1, h2⟩)
    have kx : k ≠ x := fun e => hx (e ▸ hk)
    have kn := hn k (List.mem_cons_of_mem _ hk)
    have xn := hn x (by simp)
    by_cases reach : (k, x) ∈ gs ∨ ∃ m ∈ y :: S, (k, m) ∈ gs ∧ (m, x) ∈ gs
    · refine ⟨k, List.mem_cons_of_mem _ hk, fun o ho => ?_⟩
      rcases List.mem_cons.1 ho with rfl | h
      · rcases reach with h | ⟨m, hm, h⟩
        · exact .inr (.inl h)
        · exact .inr (.inr ⟨m, List.mem_cons_of_mem _ hm, h⟩)
      · rcases K o h with h | h | ⟨m, hm, h⟩
        · exact .inl h
        · exact .inr (.inl h)
        · exact .inr (.inr ⟨m, List.mem_cons_of_mem _ hm, h⟩)
    · have h1 : (x, k) ∈ gs := (t.tot x k xn kn (Ne.symm kx)).resolve_right fun z => reach (.inl z)
      have h2 : ∀ m ∈ y :: S, (k, m) ∈ gs → (x, m) ∈ gs := by
        intro m hm km
        have mx : m ≠ x := fun e => hx (e ▸ hm)
        exact (t.tot x m xn (hn m (List.mem_cons_of_mem _ hm)) (Ne.symm mx)).resolve_right fun z => reach (.inr ⟨m, hm, km, z⟩)
      refine ⟨x, by simp, fun o ho => ?_⟩
      rcases List.mem_cons.1 ho with rfl | h
      · exact .inl rfl
      · rcases K o h with rfl | h3 | ⟨m, hm, h3, h4⟩
        · exact .inr (.inl h1)
        · exact .inr (.inl (h2 o h h3))
        · exact .inr (.inr ⟨m, List.mem_cons_of_mem _ hm, h2 m hm h3, h4⟩)
/-- who is beaten is beaten by a king -/
theorem king_over {n : Nat} {gs : List Gm} (t : Tour n gs) {a : Nat} (ha : a < n) (hb : ∃ b, (b, a) ∈ gs) : ∃ q, q < n ∧ (q, a) ∈ gs ∧ King gs n q := by
  obtain ⟨b, hb⟩ := hb
  obtain ⟨q, hq, K⟩ := king_in t ((List.range n).filter fun x => decide ((x, a) ∈ gs)) (by
    intro e
    have : b ∈ (List.range n).filter fun x => decide ((x, a) ∈ gs) := by
      simp only [List.mem_filter, List.mem_range, decide_eq_true_eq]
      exact ⟨(t.inn _ hb).1, hb⟩
    rw [e] at this
    cases this) fun x hx => by
      have := (List.mem_filter.1 hx).1
      simpa using this
  have q1 : q < n := by simpa using (List.mem_filter.1 hq).1
  have q2 : (q, a) ∈ gs := by simpa using (List.mem_filter.1 hq).2
  refine ⟨q, q1, q2, fun o ho => ?_⟩
  by_cases e : o = a
  · subst e
    exact .inr (.inl q2)
  rcases t.tot a o ha ho (Ne.symm e) with h | h
  · exact .inr (.inr ⟨a, q2, h⟩)
  · rcases K o (by simp only [List.mem_filter, List.mem_range, decide_eq_true_eq]; exact ⟨ho, h⟩) with h | h | ⟨m, _, h⟩
    · exact .inl h
    · exact .inr (.inl h)
    · exact .inr (.inr ⟨m, h⟩)
/-- never just two kings -/
theorem kings_not_two {n : Nat} {gs : List Gm} (t : Tour n gs) : ((List.range n).filter (kingB gs n)).length ≠ 2 := by
  intro h2
  have memK : ∀ x, x ∈ (List.range n).filter (kingB gs n) ↔ x < n ∧ King gs n x := by
    intro x
    rw [List.mem_filter, List.mem_range, kingB_iff]
  have nd : ((List.range n).filter (kingB gs n)).Nodup := List.Nodup.sublist List.filter_sublist List.nodup_range
  match hl : (List.range n).filter (kingB gs n), h2 with
  | [a, b], _ =>
    rw [hl] at memK nd
    have hab : a ≠ b := by
      simp at nd
      exact nd
    have ka := (memK a).1 (by simp)
    have kb := (memK b).1 (by simp)
    have main : ∀ a b, a < n → b < n → King gs n b → (a, b) ∈ gs → a ≠ b → ∃ q, q < n ∧ King gs n q ∧ q ≠ a ∧ q ≠ b := by
      intro a b an bn Kb ab hne
      have : ∃ c, (c, a) ∈ gs := by
        rcases Kb a an with h | h | ⟨m, _, h⟩
        · exact absurd h hne
        · exact ⟨b, h⟩
        · exact ⟨m, h⟩
      obtain ⟨q, qn, qa, K⟩ := king_over t an this
      refine ⟨q, qn, K, ?_, ?_⟩
      · intro e
        subst e
        exact t.asym _ _ qa qa
      · intro e
        subst e
        exact t.asym _ _ ab qa
    have fin : ∃ q, q < n ∧ King gs n q ∧ q ≠ a ∧ q ≠ b := by
      rcases t.tot a b ka.1 kb.1 hab with h | h
      · exact main a b ka.1 kb.1 kb.2 h hab
      · obtain ⟨q, h1, h2, h3, h4⟩ := main b a kb.1 ka.1 ka.2 h (Ne.symm hab)
        exact ⟨q, h1, h2, h4, h3⟩
    obtain ⟨q, h1, h2, h3, h4⟩ := fin
    have := (memK q).2 ⟨h1, h2⟩
    simp at this
    rcases this with h | h
    · exact h3 h
    · exact h4 h
end Sh

set_option Elab.async false
set_option linter.all false
set_option maxRecDepth 100000
/-! The plain laws, part J: rows (each one beats the next), rising lists. -/
namespace Sh
open L2 Ly
theorem natsR_len (n : Nat) : (nats (List.range n)).length = n := by simp [nats]
theorem rng_nats (n : Nat) : rngD 0 n = nats (List.range n) := by rw [rngD0]; rfl
theorem is_some_range (o : Bool) (n m : Nat) (hn : n ≤ 10) (hm : m ≤ n) : fd_l_is_some [.lst o (nats (List.range n)), .int n, .int m] = some (.rt (.bl true)) := by
  have g1 : decide ((n : Int) < (m : Int)) = false := by simp; omega
  unfold fd_l_is_some dn_l_is_some
  simp only [kb_ok, kb_ex, kb_no, ret_k, lif_s, lif_n, dView_k, vView_k, dFlat_k, vFlat_int, vFlat_bl, vFlat_str, vFlat_non, dVar_k, kVar_k, dPk_k, kPk_k, dMv_k, kMv_k, dFrz_k, kFrz_k, dBin_k, vBin1_k, vBin2_k, dTest_k, vTest_k, dChain_k, vCh1_k, vCh2_k, vCh3_t, vCh3_f, dNot_k, vNot_k, dAnd_k, vAnd_t, vAnd_f, dOr_k, vOr_t, vOr_f, dAndV_k, vAndV_t, vAndV_f, dOrV_k, vOrV_t, vOrV_f, dNotV_k, vNotV_k, dIf_k, vIf_t, vIf_f, dCons_k, vCons1_k, vCons2_k, dTup_k, vTup_k, dLst_k, vLst_k, dCall_k, vCall_k, kc_rt, kc_ex, dItL_k, vItL_lst, vItL_sc, dItT_k, vItT_k, dRng1_k, vRng1_k, dRng2_k, vRng2_k, dCB_k, vCB_k, dIsi_k, vIsi_k, dListE_k, vListE_k, dListS_k, kLS_lst, dLRng1_k, vLRng1_k, dNeg_k, vNeg_k, dIxS_k, kIxS_k, vIxS_k, kIx2_lst, kIx2_tup, kIx2_sc, kIx3_k, dNx_k, dSeq_k, ks_nx, ks_rt, ks_bk, ks_ct, ks_ex, dDrop_k, kDrop_ok, kDrop_ex, dRet_k, kRet_ok, kRet_ex, dIfS_k, kIfS_t, kIfS_f, kIfS_ex, dSet_k, kSet_ok, kSet_ex, dAsg_k, kAsg_ok, kAsg_ex, kh_k, dAppend_k, kAp_k, kAp1_ok, kAp1_ex, kAp2_k, dAug_k, kAug_k, kAug1_ok, dSetItem_k, kSI_ok, kSI_ex, kSI1_k, kSI2_ok, kSI3_k, kSI4_k, dAugItem_k, kAI_k, kAI1_ok, kAI2_k, kAI3_k, kAI4_ok, kAI5_k, kAI6_k, dFor_k, kFor_ok, dComp_k, vComp_k, kCo_k, comp_nil, comp_cons, kc1_k, kc2_t, kc2_f, kc3_k, run_k, kRun_nx, kRun_rt, kRun_ex, hName_k, hNil_k, hCons_k, kH_k, hTup_k, gLt_int, gGt_int, gLe_int, gGe_int, gAdd_int, gMinus_int, gMul_int, gMod_int, gDiv_int, gIx_lst, gIx_tup, gIx_sc, gLen_lst, gLen_tup, gLen_sc, gAll_lst, gAny_lst, gSum_lst, isi_int_int, isi_int_bl, isi_bool_int, isi_bool_bl, isi_list_lst, isi_tuple_tup, isi_str_str, un_int, un_bl, un_str, un_non, un_sc, un_lst, un_tup, uns_nil, uns_cons, pl_int, pl_bl, pl_str, pl_non, pl_sc, pl_lst, pl_tup, pls_nil, pls_cons, ow_int, ow_bl, ow_str, ow_non, ow_lst, ow_tup, ows_nil, ows_cons, wipe_nil, wipe_cons, ints_nil, ints_cons, gBest_lst, gBest_tup, kBest_k, dKeep_k, vKeep_k, dCat_k, vCat1_k, vCat2_k, catD_k, dSorted_k, vSorted_k, sortD_k, dClear_k, kClr_k, dInsert_k, kIn_k, kIn1_ok, kIn2_ok, kIn3_k, tg_int, tg_bl, tg_str, tg_non, tg_tup, tgs_nil, tgs_cons, dRevT_k, vRevT_k, revTD_k, dRevL_k, vRevL_k, revLD_k, dTupOf_k, vTupOf_k, tupD_k, dCatM_k, vCatM1_k, vCatM2_k, catM_k, dTryB_k, kTry_nx, kTry_rt, kTry_ex, kTry2_k, isi_tuple_non, isi_tuple_lst, isi_int_lst, isi_int_str, isi_int_non, bls_nil, bls_cons, bnd_k, bigL0, bigL1, bigL2, bigL3, bigP0, bigP1, List.length_cons, List.length_nil, List.replicate, List.map_cons, List.map_nil, List.cons_append, List.nil_append, List.append_nil, List.getElem?_cons_zero, List.getElem?_cons_succ, List.set_cons_zero, List.set_cons_succ, Option.map_some, Option.map_none, Bool.not_true, Bool.not_false, if_true, Bool.false_eq_true, if_false, Nat.reduceAdd, Nat.reduceSub, Nat.reduceEqDiff, Bool.and_true, Bool.true_and, Bool.and_self, ite_true, ite_false, Nat.reduceLeDiff, reduceIte, reduceCtorEq, eq_self, decide_true, decide_false, not_true_eq_false, not_false_eq_true, Bool.false_and, Bool.and_false, Bool.or_false, Bool.false_or, Bool.true_or, Bool.or_true, gEq_k, gNe_k, fit_int, fit_bl, fit_non, fit_lst8, fit_tup8, fits_nil, fits_cons, eqv_ii, eqv_bb, eqv_tt, eqv_ll, eqvs_nil, eqvs_cons, nats_un, natsR_len, g1, nats_plain]
  generalize hL : loop _ _ _ _ = r
  obtain ⟨ρ', rfl, a, rfl⟩ := loop_inv_of hL (fun k : Nat => D.int k) (List.range n) (fun pre ρ => ∃ a, ρ = [some (.lst false (nats (List.range n))), some (.int n), some (.int m), some (.int ((pre.length : Int) - 1)), a]) rfl ⟨none, rfl⟩ (by
    rintro pre x post hx ρ ⟨a, rfl⟩
    have e1 : x = pre.length := by
      have h := congrArg (fun l => l[pre.length]?) hx
      simp at h
      have hlt : pre.length < n := by
        have := congrArg List.length hx
        simp at this
        omega
      rw [List.getElem?_range hlt] at h
      cases h
      rfl
    have hlt : x < n := by
      have := congrArg List.length hx
      simp at this
      omega
    have h1 : decide ((pre.length : Int) - 1 < (x : Int)) = true := by simp; omega
    have h2 : decide ((x : Int) < (n : Int)) = true := by simp; omega
    refine ⟨_, rfl, fun r hr => ?_⟩
    simp only [kb_ok, kb_ex, kb_no, ret_k, lif_s, lif_n, dView_k, vView_k, dFlat_k, vFlat_int, vFlat_bl, vFlat_str, vFlat_non, dVar_k, kVar_k, dPk_k, kPk_k, dMv_k, kMv_k, dFrz_k, kFrz_k, dBin_k, vBin1_k, vBin2_k, dTest_k, vTest_k, dChain_k, vCh1_k, vCh2_k, vCh3_t, vCh3_f, dNot_k, vNot_k, dAnd_k, vAnd_t, vAnd_f, dOr_k, vOr_t, vOr_f, dAndV_k, vAndV_t, vAndV_f, dOrV_k, vOrV_t, vOrV_f, dNotV_k, vNotV_k, dIf_k, vIf_t, vIf_f, dCons_k, vCons1_k, vCons2_k, dTup_k, vTup_k, dLst_k, vLst_k, dCall_k, vCall_k, kc_rt, kc_ex, dItL_k, vItL_lst, vItL_sc, dItT_k, vItT_k, dRng1_k, vRng1_k, dRng2_k, vRng2_k, dCB_k, vCB_k, dIsi_k, vIsi_k, dListE_k, vListE_k, dListS_k, kLS_lst, dLRng1_k, vLRng1_k, dNeg_k, vNeg_k, dIxS_k, kIxS_k, vIxS_k, kIx2_lst, kIx2_tup, kIx2_sc, kIx3_k, dNx_k, dSeq_k, ks_nx, ks_rt, ks_bk, ks_ct, ks_ex, dDrop_k, kDrop_ok, kDrop_ex, dRet_k, kRet_ok, kRet_ex, dIfS_k, kIfS_t, kIfS_f, kIfS_ex, dSet_k, kSet_ok, kSet_ex, dAsg_k, kAsg_ok, kAsg_ex, kh_k, dAppend_k, kAp_k, kAp1_ok, kAp1_ex, kAp2_k, dAug_k, kAug_k, kAug1_ok, dSetItem_k, kSI_ok, kSI_ex, kSI1_k, kSI2_ok, kSI3_k, kSI4_k, dAugItem_k, kAI_k, kAI1_ok, kAI2_k, kAI3_k, kAI4_ok, kAI5_k, kAI6_k, dFor_k, kFor_ok, dComp_k, vComp_k, kCo_k, comp_nil, comp_cons, kc1_k, kc2_t, kc2_f, kc3_k, run_k, kRun_nx, kRun_rt, kRun_ex, hName_k, hNil_k, hCons_k, kH_k, hTup_k, gLt_int, gGt_int, gLe_int, gGe_int, gAdd_int, gMinus_int, gMul_int, gMod_int, gDiv_int, gIx_lst, gIx_tup, gIx_sc, gLen_lst, gLen_tup, gLen_sc, gAll_lst, gAny_lst, gSum_lst, isi_int_int, isi_int_bl, isi_bool_int, isi_bool_bl, isi_list_lst, isi_tuple_tup, isi_str_str, un_int, un_bl, un_str, un_non, un_sc, un_lst, un_tup, uns_nil, uns_cons, pl_int, pl_bl, pl_str, pl_non, pl_sc, pl_lst, pl_tup, pls_nil, pls_cons, ow_int, ow_bl, ow_str, ow_non, ow_lst, ow_tup, ows_nil, ows_cons, wipe_nil, wipe_cons, ints_nil, ints_cons, gBest_lst, gBest_tup, kBest_k, dKeep_k, vKeep_k, dCat_k, vCat1_k, vCat2_k, catD_k, dSorted_k, vSorted_k, sortD_k, dClear_k, kClr_k, dInsert_k, kIn_k, kIn1_ok, kIn2_ok, kIn3_k, tg_int, tg_bl, tg_str, tg_non, tg_tup, tgs_nil, tgs_cons, dRevT_k, vRevT_k, revTD_k, dRevL_k, vRevL_k, revLD_k, dTupOf_k, vTupOf_k, tupD_k, dCatM_k, vCatM1_k, vCatM2_k, catM_k, dTryB_k, kTry_nx, kTry_rt, kTry_ex, kTry2_k, isi_tuple_non, isi_tuple_lst, isi_int_lst, isi_int_str, isi_int_non, bls_nil, bls_cons, bnd_k, bigL0, bigL1, bigL2, bigL3, bigP0, bigP1, List.length_cons, List.length_nil, List.replicate, List.map_cons, List.map_nil, List.cons_append, List.nil_append, List.append_nil, List.getElem?_cons_zero, List.getElem?_cons_succ, List.set_cons_zero, List.set_cons_succ, Option.map_some, Option.map_none, Bool.not_true, Bool.not_false, if_true, Bool.false_eq_true, if_false, Nat.reduceAdd, Nat.reduceSub, Nat.reduceEqDiff, Bool.and_true, Bool.true_and, Bool.and_self, ite_true, ite_false, Nat.reduceLeDiff, reduceIte, reduceCtorEq, eq_self, decide_true, decide_false, not_true_eq_false, not_false_eq_true, Bool.false_and, Bool.and_false, Bool.or_false, Bool.false_or, Bool.true_or, Bool.or_true, h1, h2] at hr
    have e2 : (((pre ++ [x]).length : Nat) : Int) - 1 = (x : Int) := by simp; omega
    exact ⟨_, .inl hr.symm, some (.int x), by rw [e2]⟩)
  simp only [kb_ok, kb_ex, kb_no, ret_k, lif_s, lif_n, dView_k, vView_k, dFlat_k, vFlat_int, vFlat_bl, vFlat_str, vFlat_non, dVar_k, kVar_k, dPk_k, kPk_k, dMv_k, kMv_k, dFrz_k, kFrz_k, dBin_k, vBin1_k, vBin2_k, dTest_k, vTest_k, dChain_k, vCh1_k, vCh2_k, vCh3_t, vCh3_f, dNot_k, vNot_k, dAnd_k, vAnd_t, vAnd_f, dOr_k, vOr_t, vOr_f, dAndV_k, vAndV_t, vAndV_f, dOrV_k, vOrV_t, vOrV_f, dNotV_k, vNotV_k, dIf_k, vIf_t, vIf_f, dCons_k, vCons1_k, vCons2_k, dTup_k, vTup_k, dLst_k, vLst_k, dCall_k, vCall_k, kc_rt, kc_ex, dItL_k, vItL_lst, vItL_sc, dItT_k, vItT_k, dRng1_k, vRng1_k, dRng2_k, vRng2_k, dCB_k, vCB_k, dIsi_k, vIsi_k, dListE_k, vListE_k, dListS_k, kLS_lst, dLRng1_k, vLRng1_k, dNeg_k, vNeg_k, dIxS_k, kIxS_k, vIxS_k, kIx2_lst, kIx2_tup, kIx2_sc, kIx3_k, dNx_k, dSeq_k, ks_nx, ks_rt, ks_bk, ks_ct, ks_ex, dDrop_k, kDrop_ok, kDrop_ex, dRet_k, kRet_ok, kRet_ex, dIfS_k, kIfS_t, kIfS_f, kIfS_ex, dSet_k, kSet_ok, kSet_ex, dAsg_k, kAsg_ok, kAsg_ex, kh_k, dAppend_k, kAp_k, kAp1_ok, kAp1_ex, kAp2_k, dAug_k, kAug_k, kAug1_ok, dSetItem_k, kSI_ok, kSI_ex, kSI1_k, kSI2_ok, kSI3_k, kSI4_k, dAugItem_k, kAI_k, kAI1_ok, kAI2_k, kAI3_k, kAI4_ok, kAI5_k, kAI6_k, dFor_k, kFor_ok, dComp_k, vComp_k, kCo_k, comp_nil, comp_cons, kc1_k, kc2_t, kc2_f, kc3_k, run_k, kRun_nx, kRun_rt, kRun_ex, hName_k, hNil_k, hCons_k, kH_k, hTup_k, gLt_int, gGt_int, gLe_int, gGe_int, gAdd_int, gMinus_int, gMul_int, gMod_int, gDiv_int, gIx_lst, gIx_tup, gIx_sc, gLen_lst, gLen_tup, gLen_sc, gAll_lst, gAny_lst, gSum_lst, isi_int_int, isi_int_bl, isi_bool_int, isi_bool_bl, isi_list_lst, isi_tuple_tup, isi_str_str, un_int, un_bl, un_str, un_non, un_sc, un_lst, un_tup, uns_nil, uns_cons, pl_int, pl_bl, pl_str, pl_non, pl_sc, pl_lst, pl_tup, pls_nil, pls_cons, ow_int, ow_bl, ow_str, ow_non, ow_lst, ow_tup, ows_nil, ows_cons, wipe_nil, wipe_cons, ints_nil, ints_cons, gBest_lst, gBest_tup, kBest_k, dKeep_k, vKeep_k, dCat_k, vCat1_k, vCat2_k, catD_k, dSorted_k, vSorted_k, sortD_k, dClear_k, kClr_k, dInsert_k, kIn_k, kIn1_ok, kIn2_ok, kIn3_k, tg_int, tg_bl, tg_str, tg_non, tg_tup, tgs_nil, tgs_cons, dRevT_k, vRevT_k, revTD_k, dRevL_k, vRevL_k, revLD_k, dTupOf_k, vTupOf_k, tupD_k, dCatM_k, vCatM1_k, vCatM2_k, catM_k, dTryB_k, kTry_nx, kTry_rt, kTry_ex, kTry2_k, isi_tuple_non, isi_tuple_lst, isi_int_lst, isi_int_str, isi_int_non, bls_nil, bls_cons, bnd_k, bigL0, bigL1, bigL2, bigL3, bigP0, bigP1, List.length_cons, List.length_nil, List.replicate, List.map_cons, List.map_nil, List.cons_append, List.nil_append, List.append_nil, List.getElem?_cons_zero, List.getElem?_cons_succ, List.set_cons_zero, List.set_cons_succ, Option.map_some, Option.map_none, Bool.not_true, Bool.not_false, if_true, Bool.false_eq_true, if_false, Nat.reduceAdd, Nat.reduceSub, Nat.reduceEqDiff, Bool.and_true, Bool.true_and, Bool.and_self, ite_true, ite_false, Nat.reduceLeDiff, reduceIte, reduceCtorEq, eq_self, decide_true, decide_false, not_true_eq_false, not_false_eq_true, Bool.false_and, Bool.and_false, Bool.or_false, Bool.false_or, Bool.true_or, Bool.or_true]
/-! ### rows -/
def ins (gs : List Gm) (p : Nat) : List Nat → List Nat
  | [] => [p]
  | q :: r => if decide ((q, p) ∈ gs) = true then q :: ins gs p r else p :: q :: r
/-- how many at the front beat p -/
def ahead (gs : List Gm) (p : Nat) : List Nat → Nat
  | [] => 0
  | q :: r => if decide ((q, p) ∈ gs) = true then ahead gs p r + 1 else 0
theorem ahead_le (gs : List Gm) (p : Nat) : ∀ r, ahead gs p r ≤ r.length
  | [] => Nat.le_refl _
  | q :: r => by
    unfold ahead
    split
    · simp only [List.length_cons]
      exact Nat.succ_le_succ (ahead_le gs p r)
    · exact Nat.zero_le _
theorem ins_eq (gs : List Gm) (p : Nat) : ∀ r, ins gs p r = r.take (ahead gs p r) ++ [p] ++ r.drop (ahead gs p r)
  | [] => rfl
  | q :: r => by
    unfold ins ahead
    split
    · rw [ins_eq gs p r]
      simp
    · simp
theorem ahead_in (gs : List Gm) (p : Nat) : ∀ (r : List Nat) (k : Nat) (h : k < r.length), k < ahead gs p r → (r[k], p) ∈ gs
  | q :: r, k, h, hk => by
    unfold ahead at hk
    split at hk
    · rename_i hc
      cases k with
      | zero => simpa using hc
      | succ k =>
        simp only [List.getElem_cons_succ]
        exact ahead_in gs p r k _ (by omega)
    · omega
theorem ahead_out (gs : List Gm) (p : Nat) : ∀ (r : List Nat) (h : ahead gs p r < r.length), (r[ahead gs p r], p) ∉ gs
  | [], h => by simp at h
  | q :: r, h => by
    by_cases hc : (q, p) ∈ gs
    · have e : ahead gs p (q :: r) = ahead gs p r + 1 := by rw [ahead, if_pos (by simpa using hc)]
      simp only [e, List.getElem_cons_succ]
      exact ahead_out gs p r (by rw [e] at h; simpa using h)
    · have e : ahead gs p (q :: r) = 0 := by rw [ahead, if_neg (by simpa using hc)]
      simp only [e, List.getElem_cons_zero]
      exact hc
def rowIn (gs : List Gm) (sm : List Nat) : List Nat := sm.foldl (fun r p => ins gs p r) []
theorem ins_len (gs : List Gm) (p : Nat) (r : List Nat) : (ins gs p r).length = r.length + 1 := by
  rw [ins_eq]
  have := ahead_le gs p r
  simp
  omega
theorem ins_perm (gs : List Gm) (p : Nat) : ∀ r, (ins gs p r).Perm (p :: r)
  | [] => .refl _
  | q :: r => by
    unfold ins
    split
    · exact ((ins_perm gs p r).cons q).trans (List.Perm.swap p q r)
    · exact .refl _
theorem foldl_perm (gs : List Gm) : ∀ (sm r : List Nat), (sm.foldl (fun r p => ins gs p r) r).Perm (sm ++ r)
  | [], r => .refl _
  | p :: sm, r => by
    refine (foldl_perm gs sm (ins gs p r)).trans ?_
    refine ((ins_perm gs p r).append_left sm).trans ?_
    exact List.perm_middle
theorem rowIn_perm (gs : List Gm) (sm : List Nat) : (rowIn gs sm).Perm sm := by
  have := foldl_perm gs sm []
  simpa [rowIn] using this
/-- each one beats the next -/
def Path (gs : List Gm) : List Nat → Prop
  | [] => True
  | [_] => True
  | a :: b :: r => (a, b) ∈ gs ∧ Path gs (b :: r)
theorem ins_path {n : Nat} {gs : List Gm} (t : Tour n gs) (p : Nat) (hp : p < n) : ∀ r : List Nat, (∀ q ∈ r, q < n ∧ q ≠ p) → Path gs r → Path gs (ins gs p r)
  | [], _, _ => trivial
  | [q], hr, _ => by
    unfold ins
    split
    · rename_i h
      exact ⟨by simpa using h, trivial⟩
    · rename_i h
      obtain ⟨h1, h2⟩ := hr q (by simp)
      exact ⟨(t.tot q p h1 hp h2).resolve_left (by simpa using h), trivial⟩
  | q :: q2 :: r, hr, hP => by
    obtain ⟨h1, h2⟩ := hr q (by simp)
    have ih := ins_path t p hp (q2 :: r) (fun x hx => hr x (by simp at hx ⊢; exact .inr hx)) hP.2
    unfold ins
    split
    · rename_i h
      unfold ins at ih ⊢
      split
      · rename_i h3
        rw [if_pos h3] at ih
        exact ⟨hP.1, ih⟩
      · rename_i h3
        rw [if_neg h3] at ih
        exact ⟨by simpa using h, ih⟩
    · rename_i h
      exact ⟨(t.tot q p h1 hp h2).resolve_left (by simpa using h), hP⟩
theorem rowIn_path {n : Nat} {gs : List Gm} (t : Tour n gs) : ∀ (sm r : List Nat), (sm ++ r).Nodup → (∀ x ∈ sm ++ r, x < n) → Path gs r → Path gs (sm.foldl (fun r p => ins gs p r) r)
  | [], r, _, _, h => h
  | p :: sm, r, nd, hn, h => by
    rw [List.cons_append, List.nodup_cons] at nd
    have pp := ins_perm gs p r
    have mp : (sm ++ ins gs p r).Perm (p :: (sm ++ r)) := ((pp.append_left sm)).trans List.perm_middle
    refine rowIn_path t sm (ins gs p r) (mp.nodup_iff.mpr (List.nodup_cons.mpr nd)) (fun x hx => hn x (by
      have := mp.mem_iff.mp hx
      simpa using this)) ?_
    refine ins_path t p (hn p (by simp)) r (fun q hq => ⟨hn q (by simp [hq]), fun e => nd.1 (by simp [← e, hq])⟩) h
theorem path_get {gs : List Gm} : ∀ {r : List Nat}, Path gs r → ∀ (k : Nat) (h : k + 1 < r.length), (r[k], r[k + 1]) ∈ gs
  | [], _, k, h => by simp at h
  | [_], _, k, h => by simp at h
  | a :: b :: r, hP, 0, _ => hP.1
  | a :: b :: r, hP, k + 1, h => path_get (r := b :: r) hP.2 k (by simpa using h)
theorem nats_get {r : List Nat} {k : Nat} (h : k < r.length) : (nats r)[k]? = some (.int (r[k] : Nat)) := by simp [nats, List.getElem?_eq_getElem h]
theorem nats_take (r : List Nat) (k : Nat) : (nats r).take k = nats (r.take k) := by simp [nats, List.map_take]
theorem nats_drop (r : List Nat) (k : Nat) : (nats r).drop k = nats (r.drop k) := by simp [nats, List.map_drop]
theorem nats_one (p : Nat) : [D.int (p : Int)] = nats [p] := rfl
theorem nats_app (a b : List Nat) : nats a ++ nats b = nats (a ++ b) := by simp [nats]
/-- a loop that counts up to m -/
theorem whl_count {c : Dn Bool} {b : Sn} (S : Nat → Rho) (m : Nat) (hc : ∀ k, k < m → c (S k) = some (.ok true (S k))) (hb : ∀ k, k < m → b (S k) = some (.nx (S (k + 1)))) (he : c (S m) = some (.ok false (S m))) : ∀ (j k fuel : Nat), k + j = m → j < fuel → whl c b fuel (S k) = some (.nx (S m))
  | 0, k, fuel + 1, e, _ => by
    have : k = m := by omega
    subst this
    rw [whl, he]
  | j + 1, k, fuel + 1, e, h => by
    rw [whl, hc k (by omega)]
    simp only [hb k (by omega)]
    exact whl_count S m hc hb he j (k + 1) fuel (by omega) (by omega)
theorem row_in_eq (gs : List Gm) (o o2 : Bool) (sm : List Nat) (hs : sm.length ≤ 50) : fd_row_in [.lst o (encs gs), .lst o2 (nats sm)] = some (.rt (.lst true (nats (rowIn gs sm)))) := by
  unfold fd_row_in dn_row_in
  simp only [kb_ok, kb_ex, kb_no, ret_k, lif_s, lif_n, dView_k, vView_k, dFlat_k, vFlat_int, vFlat_bl, vFlat_str, vFlat_non, dVar_k, kVar_k, dPk_k, kPk_k, dMv_k, kMv_k, dFrz_k, kFrz_k, dBin_k, vBin1_k, vBin2_k, dTest_k, vTest_k, dChain_k, vCh1_k, vCh2_k, vCh3_t, vCh3_f, dNot_k, vNot_k, dAnd_k, vAnd_t, vAnd_f, dOr_k, vOr_t, vOr_f, dAndV_k, vAndV_t, vAndV_f, dOrV_k, vOrV_t, vOrV_f, dNotV_k, vNotV_k, dIf_k, vIf_t, vIf_f, dCons_k, vCons1_k, vCons2_k, dTup_k, vTup_k, dLst_k, vLst_k, dCall_k, vCall_k, kc_rt, kc_ex, dItL_k, vItL_lst, vItL_sc, dItT_k, vItT_k, dRng1_k, vRng1_k, dRng2_k, vRng2_k, dCB_k, vCB_k, dIsi_k, vIsi_k, dListE_k, vListE_k, dListS_k, kLS_lst, dLRng1_k, vLRng1_k, dNeg_k, vNeg_k, dIxS_k, kIxS_k, vIxS_k, kIx2_lst, kIx2_tup, kIx2_sc, kIx3_k, dNx_k, dSeq_k, ks_nx, ks_rt, ks_bk, ks_ct, ks_ex, dDrop_k, kDrop_ok, kDrop_ex, dRet_k, kRet_ok, kRet_ex, dIfS_k, kIfS_t, kIfS_f, kIfS_ex, dSet_k, kSet_ok, kSet_ex, dAsg_k, kAsg_ok, kAsg_ex, kh_k, dAppend_k, kAp_k, kAp1_ok, kAp1_ex, kAp2_k, dAug_k, kAug_k, kAug1_ok, dSetItem_k, kSI_ok, kSI_ex, kSI1_k, kSI2_ok, kSI3_k, kSI4_k, dAugItem_k, kAI_k, kAI1_ok, kAI2_k, kAI3_k, kAI4_ok, kAI5_k, kAI6_k, dFor_k, kFor_ok, dComp_k, vComp_k, kCo_k, comp_nil, comp_cons, kc1_k, kc2_t, kc2_f, kc3_k, run_k, kRun_nx, kRun_rt, kRun_ex, hName_k, hNil_k, hCons_k, kH_k, hTup_k, gLt_int, gGt_int, gLe_int, gGe_int, gAdd_int, gMinus_int, gMul_int, gMod_int, gDiv_int, gIx_lst, gIx_tup, gIx_sc, gLen_lst, gLen_tup, gLen_sc, gAll_lst, gAny_lst, gSum_lst, isi_int_int, isi_int_bl, isi_bool_int, isi_bool_bl, isi_list_lst, isi_tuple_tup, isi_str_str, un_int, un_bl, un_str, un_non, un_sc, un_lst, un_tup, uns_nil, uns_cons, pl_int, pl_bl, pl_str, pl_non, pl_sc, pl_lst, pl_tup, pls_nil, pls_cons, ow_int, ow_bl, ow_str, ow_non, ow_lst, ow_tup, ows_nil, ows_cons, wipe_nil, wipe_cons, ints_nil, ints_cons, gBest_lst, gBest_tup, kBest_k, dKeep_k, vKeep_k, dCat_k, vCat1_k, vCat2_k, catD_k, dSorted_k, vSorted_k, sortD_k, dClear_k, kClr_k, dInsert_k, kIn_k, kIn1_ok, kIn2_ok, kIn3_k, tg_int, tg_bl, tg_str, tg_non, tg_tup, tgs_nil, tgs_cons, dRevT_k, vRevT_k, revTD_k, dRevL_k, vRevL_k, revLD_k, dTupOf_k, vTupOf_k, tupD_k, dCatM_k, vCatM1_k, vCatM2_k, catM_k, dTryB_k, kTry_nx, kTry_rt, kTry_ex, kTry2_k, isi_tuple_non, isi_tuple_lst, isi_int_lst, isi_int_str, isi_int_non, bls_nil, bls_cons, bnd_k, bigL0, bigL1, bigL2, bigL3, bigP0, bigP1, List.length_cons, List.length_nil, List.replicate, List.map_cons, List.map_nil, List.cons_append, List.nil_append, List.append_nil, List.getElem?_cons_zero, List.getElem?_cons_succ, List.set_cons_zero, List.set_cons_succ, Option.map_some, Option.map_none, Bool.not_true, Bool.not_false, if_true, Bool.false_eq_true, if_false, Nat.reduceAdd, Nat.reduceSub, Nat.reduceEqDiff, Bool.and_true, Bool.true_and, Bool.and_self, ite_true, ite_false, Nat.reduceLeDiff, reduceIte, reduceCtorEq, eq_self, decide_true, decide_false, not_true_eq_false, not_false_eq_true, Bool.false_and, Bool.and_false, Bool.or_false, Bool.false_or, Bool.true_or, Bool.or_true, nats_un, nats_plain]
  generalize hL : loop _ _ _ _ = r
  obtain ⟨ρ', rfl, a, b, hlen, rfl⟩ := loop_inv_of hL (fun k : Nat => D.int k) sm (fun pre ρ => ∃ a b, (rowIn gs pre).length = pre.length ∧ ρ = [some (.lst o (encs gs)), some (.lst false (nats sm)), some (.lst true (nats (rowIn gs pre))), a, b]) rfl ⟨none, none, rfl, rfl⟩ (by
    rintro pre p post hx ρ ⟨a, b, hlen, rfl⟩
    have hpre : pre.length < 50 := by
      have := congrArg List.length hx
      simp at this
      omega
    have snoc : rowIn gs (pre ++ [p]) = ins gs p (rowIn gs pre) := by simp [rowIn, List.foldl_append]
    have al := ahead_le gs p (rowIn gs pre)
    refine ⟨_, rfl, fun r hr => ?_⟩
    simp only [kb_ok, kb_ex, kb_no, ret_k, lif_s, lif_n, dView_k, vView_k, dFlat_k, vFlat_int, vFlat_bl, vFlat_str, vFlat_non, dVar_k, kVar_k, dPk_k, kPk_k, dMv_k, kMv_k, dFrz_k, kFrz_k, dBin_k, vBin1_k, vBin2_k, dTest_k, vTest_k, dChain_k, vCh1_k, vCh2_k, vCh3_t, vCh3_f, dNot_k, vNot_k, dAnd_k, vAnd_t, vAnd_f, dOr_k, vOr_t, vOr_f, dAndV_k, vAndV_t, vAndV_f, dOrV_k, vOrV_t, vOrV_f, dNotV_k, vNotV_k, dIf_k, vIf_t, vIf_f, dCons_k, vCons1_k, vCons2_k, dTup_k, vTup_k, dLst_k, vLst_k, dCall_k, vCall_k, kc_rt, kc_ex, dItL_k, vItL_lst, vItL_sc, dItT_k, vItT_k, dRng1_k, vRng1_k, dRng2_k, vRng2_k, dCB_k, vCB_k, dIsi_k, vIsi_k, dListE_k, vListE_k, dListS_k, kLS_lst, dLRng1_k, vLRng1_k, dNeg_k, vNeg_k, dIxS_k, kIxS_k, vIxS_k, kIx2_lst, kIx2_tup, kIx2_sc, kIx3_k, dNx_k, dSeq_k, ks_nx, ks_rt, ks_bk, ks_ct, ks_ex, dDrop_k, kDrop_ok, kDrop_ex, dRet_k, kRet_ok, kRet_ex, dIfS_k, kIfS_t, kIfS_f, kIfS_ex, dSet_k, kSet_ok, kSet_ex, dAsg_k, kAsg_ok, kAsg_ex, kh_k, dAppend_k, kAp_k, kAp1_ok, kAp1_ex, kAp2_k, dAug_k, kAug_k, kAug1_ok, dSetItem_k, kSI_ok, kSI_ex, kSI1_k, kSI2_ok, kSI3_k, kSI4_k, dAugItem_k, kAI_k, kAI1_ok, kAI2_k, kAI3_k, kAI4_ok, kAI5_k, kAI6_k, dFor_k, kFor_ok, dComp_k, vComp_k, kCo_k, comp_nil, comp_cons, kc1_k, kc2_t, kc2_f, kc3_k, run_k, kRun_nx, kRun_rt, kRun_ex, hName_k, hNil_k, hCons_k, kH_k, hTup_k, gLt_int, gGt_int, gLe_int, gGe_int, gAdd_int, gMinus_int, gMul_int, gMod_int, gDiv_int, gIx_lst, gIx_tup, gIx_sc, gLen_lst, gLen_tup, gLen_sc, gAll_lst, gAny_lst, gSum_lst, isi_int_int, isi_int_bl, isi_bool_int, isi_bool_bl, isi_list_lst, isi_tuple_tup, isi_str_str, un_int, un_bl, un_str, un_non, un_sc, un_lst, un_tup, uns_nil, uns_cons, pl_int, pl_bl, pl_str, pl_non, pl_sc, pl_lst, pl_tup, pls_nil, pls_cons, ow_int, ow_bl, ow_str, ow_non, ow_lst, ow_tup, ows_nil, ows_cons, wipe_nil, wipe_cons, ints_nil, ints_cons, gBest_lst, gBest_tup, kBest_k, dKeep_k, vKeep_k, dCat_k, vCat1_k, vCat2_k, catD_k, dSorted_k, vSorted_k, sortD_k, dClear_k, kClr_k, dInsert_k, kIn_k, kIn1_ok, kIn2_ok, kIn3_k, tg_int, tg_bl, tg_str, tg_non, tg_tup, tgs_nil, tgs_cons, dRevT_k, vRevT_k, revTD_k, dRevL_k, vRevL_k, revLD_k, dTupOf_k, vTupOf_k, tupD_k, dCatM_k, vCatM1_k, vCatM2_k, catM_k, dTryB_k, kTry_nx, kTry_rt, kTry_ex, kTry2_k, isi_tuple_non, isi_tuple_lst, isi_int_lst, isi_int_str, isi_int_non, bls_nil, bls_cons, bnd_k, bigL0, bigL1, bigL2, bigL3, bigP0, bigP1, List.length_cons, List.length_nil, List.replicate, List.map_cons, List.map_nil, List.cons_append, List.nil_append, List.append_nil, List.getElem?_cons_zero, List.getElem?_cons_succ, List.set_cons_zero, List.set_cons_succ, Option.map_some, Option.map_none, Bool.not_true, Bool.not_false, if_true, Bool.false_eq_true, if_false, Nat.reduceAdd, Nat.reduceSub, Nat.reduceEqDiff, Bool.and_true, Bool.true_and, Bool.and_self, ite_true, ite_false, Nat.reduceLeDiff, reduceIte, reduceCtorEq, eq_self, decide_true, decide_false, not_true_eq_false, not_false_eq_true, Bool.false_and, Bool.and_false, Bool.or_false, Bool.false_or, Bool.true_or, Bool.or_true] at hr
    have W := whl_count (c := dAnd (dTest (dBin gLt (dPk 4) (dCB gLen (dCons (dPk 2) (ret []))))) (dTest (dBin gIn (dView (dTup (dCons (dIxS 2 (dPk 4)) (dCons (dVar 3) (ret []))))) (dPk 0)))) (b := dAug 4 (fun i j => i + j) (ret (.int 1)))
      (fun k => [some (.lst o (encs gs)), some (.lst false (nats sm)), some (.lst true (nats (rowIn gs pre))), some (.int p), some (.int (k : Nat))]) (ahead gs p (rowIn gs pre))
      (by
        intro k hk
        have hk2 : k < (rowIn gs pre).length := by omega
        have h1 : decide ((k : Int) < ((rowIn gs pre).length : Int)) = true := by simp; omega
        have h2 : decide (((rowIn gs pre)[k], p) ∈ gs) = true := by simpa using ahead_in gs p _ k hk2 hk
        simp only [kb_ok, kb_ex, kb_no, ret_k, lif_s, lif_n, dView_k, vView_k, dFlat_k, vFlat_int, vFlat_bl, vFlat_str, vFlat_non, dVar_k, kVar_k, dPk_k, kPk_k, dMv_k, kMv_k, dFrz_k, kFrz_k, dBin_k, vBin1_k, vBin2_k, dTest_k, vTest_k, dChain_k, vCh1_k, vCh2_k, vCh3_t, vCh3_f, dNot_k, vNot_k, dAnd_k, vAnd_t, vAnd_f, dOr_k, vOr_t, vOr_f, dAndV_k, vAndV_t, vAndV_f, dOrV_k, vOrV_t, vOrV_f, dNotV_k, vNotV_k, dIf_k, vIf_t, vIf_f, dCons_k, vCons1_k, vCons2_k, dTup_k, vTup_k, dLst_k, vLst_k, dCall_k, vCall_k, kc_rt, kc_ex, dItL_k, vItL_lst, vItL_sc, dItT_k, vItT_k, dRng1_k, vRng1_k, dRng2_k, vRng2_k, dCB_k, vCB_k, dIsi_k, vIsi_k, dListE_k, vListE_k, dListS_k, kLS_lst, dLRng1_k, vLRng1_k, dNeg_k, vNeg_k, dIxS_k, kIxS_k, vIxS_k, kIx2_lst, kIx2_tup, kIx2_sc, kIx3_k, dNx_k, dSeq_k, ks_nx, ks_rt, ks_bk, ks_ct, ks_ex, dDrop_k, kDrop_ok, kDrop_ex, dRet_k, kRet_ok, kRet_ex, dIfS_k, kIfS_t, kIfS_f, kIfS_ex, dSet_k, kSet_ok, kSet_ex, dAsg_k, kAsg_ok, kAsg_ex, kh_k, dAppend_k, kAp_k, kAp1_ok, kAp1_ex, kAp2_k, dAug_k, kAug_k, kAug1_ok, dSetItem_k, kSI_ok, kSI_ex, kSI1_k, kSI2_ok, kSI3_k, kSI4_k, dAugItem_k, kAI_k, kAI1_ok, kAI2_k, kAI3_k, kAI4_ok, kAI5_k, kAI6_k, dFor_k, kFor_ok, dComp_k, vComp_k, kCo_k, comp_nil, comp_cons, kc1_k, kc2_t, kc2_f, kc3_k, run_k, kRun_nx, kRun_rt, kRun_ex, hName_k, hNil_k, hCons_k, kH_k, hTup_k, gLt_int, gGt_int, gLe_int, gGe_int, gAdd_int, gMinus_int, gMul_int, gMod_int, gDiv_int, gIx_lst, gIx_tup, gIx_sc, gLen_lst, gLen_tup, gLen_sc, gAll_lst, gAny_lst, gSum_lst, isi_int_int, isi_int_bl, isi_bool_int, isi_bool_bl, isi_list_lst, isi_tuple_tup, isi_str_str, un_int, un_bl, un_str, un_non, un_sc, un_lst, un_tup, uns_nil, uns_cons, pl_int, pl_bl, pl_str, pl_non, pl_sc, pl_lst, pl_tup, pls_nil, pls_cons, ow_int, ow_bl, ow_str, ow_non, ow_lst, ow_tup, ows_nil, ows_cons, wipe_nil, wipe_cons, ints_nil, ints_cons, gBest_lst, gBest_tup, kBest_k, dKeep_k, vKeep_k, dCat_k, vCat1_k, vCat2_k, catD_k, dSorted_k, vSorted_k, sortD_k, dClear_k, kClr_k, dInsert_k, kIn_k, kIn1_ok, kIn2_ok, kIn3_k, tg_int, tg_bl, tg_str, tg_non, tg_tup, tgs_nil, tgs_cons, dRevT_k, vRevT_k, revTD_k, dRevL_k, vRevL_k, revLD_k, dTupOf_k, vTupOf_k, tupD_k, dCatM_k, vCatM1_k, vCatM2_k, catM_k, dTryB_k, kTry_nx, kTry_rt, kTry_ex, kTry2_k, isi_tuple_non, isi_tuple_lst, isi_int_lst, isi_int_str, isi_int_non, bls_nil, bls_cons, bnd_k, bigL0, bigL1, bigL2, bigL3, bigP0, bigP1, List.length_cons, List.length_nil, List.replicate, List.map_cons, List.map_nil, List.cons_append, List.nil_append, List.append_nil, List.getElem?_cons_zero, List.getElem?_cons_succ, List.set_cons_zero, List.set_cons_succ, Option.map_some, Option.map_none, Bool.not_true, Bool.not_false, if_true, Bool.false_eq_true, if_false, Nat.reduceAdd, Nat.reduceSub, Nat.reduceEqDiff, Bool.and_true, Bool.true_and, Bool.and_self, ite_true, ite_false, Nat.reduceLeDiff, reduceIte, reduceCtorEq, eq_self, decide_true, decide_false, not_true_eq_false, not_false_eq_true, Bool.false_and, Bool.and_false, Bool.or_false, Bool.false_or, Bool.true_or, Bool.or_true, nats_un, nats_len, h1, Sh.atI_nat, nats_get hk2, encs_un, gIn_encs, h2])
      (by
        intro k hk
        simp only [kb_ok, kb_ex, kb_no, ret_k, lif_s, lif_n, dView_k, vView_k, dFlat_k, vFlat_int, vFlat_bl, vFlat_str, vFlat_non, dVar_k, kVar_k, dPk_k, kPk_k, dMv_k, kMv_k, dFrz_k, kFrz_k, dBin_k, vBin1_k, vBin2_k, dTest_k, vTest_k, dChain_k, vCh1_k, vCh2_k, vCh3_t, vCh3_f, dNot_k, vNot_k, dAnd_k, vAnd_t, vAnd_f, dOr_k, vOr_t, vOr_f, dAndV_k, vAndV_t, vAndV_f, dOrV_k, vOrV_t, vOrV_f, dNotV_k, vNotV_k, dIf_k, vIf_t, vIf_f, dCons_k, vCons1_k, vCons2_k, dTup_k, vTup_k, dLst_k, vLst_k, dCall_k, vCall_k, kc_rt, kc_ex, dItL_k, vItL_lst, vItL_sc, dItT_k, vItT_k, dRng1_k, vRng1_k, dRng2_k, vRng2_k, dCB_k, vCB_k, dIsi_k, vIsi_k, dListE_k, vListE_k, dListS_k, kLS_lst, dLRng1_k, vLRng1_k, dNeg_k, vNeg_k, dIxS_k, kIxS_k, vIxS_k, kIx2_lst, kIx2_tup, kIx2_sc, kIx3_k, dNx_k, dSeq_k, ks_nx, ks_rt, ks_bk, ks_ct, ks_ex, dDrop_k, kDrop_ok, kDrop_ex, dRet_k, kRet_ok, kRet_ex, dIfS_k, kIfS_t, kIfS_f, kIfS_ex, dSet_k, kSet_ok, kSet_ex, dAsg_k, kAsg_ok, kAsg_ex, kh_k, dAppend_k, kAp_k, kAp1_ok, kAp1_ex, kAp2_k, dAug_k, kAug_k, kAug1_ok, dSetItem_k, kSI_ok, kSI_ex, kSI1_k, kSI2_ok, kSI3_k, kSI4_k, dAugItem_k, kAI_k, kAI1_ok, kAI2_k, kAI3_k, kAI4_ok, kAI5_k, kAI6_k, dFor_k, kFor_ok, dComp_k, vComp_k, kCo_k, comp_nil, comp_cons, kc1_k, kc2_t, kc2_f, kc3_k, run_k, kRun_nx, kRun_rt, kRun_ex, hName_k, hNil_k, hCons_k, kH_k, hTup_k, gLt_int, gGt_int, gLe_int, gGe_int, gAdd_int, gMinus_int, gMul_int, gMod_int, gDiv_int, gIx_lst, gIx_tup, gIx_sc, gLen_lst, gLen_tup, gLen_sc, gAll_lst, gAny_lst, gSum_lst, isi_int_int, isi_int_bl, isi_bool_int, isi_bool_bl, isi_list_lst, isi_tuple_tup, isi_str_str, un_int, un_bl, un_str, un_non, un_sc, un_lst, un_tup, uns_nil, uns_cons, pl_int, pl_bl, pl_str, pl_non, pl_sc, pl_lst, pl_tup, pls_nil, pls_cons, ow_int, ow_bl, ow_str, ow_non, ow_lst, ow_tup, ows_nil, ows_cons, wipe_nil, wipe_cons, ints_nil, ints_cons, gBest_lst, gBest_tup, kBest_k, dKeep_k, vKeep_k, dCat_k, vCat1_k, vCat2_k, catD_k, dSorted_k, vSorted_k, sortD_k, dClear_k, kClr_k, dInsert_k, kIn_k, kIn1_ok, kIn2_ok, kIn3_k, tg_int, tg_bl, tg_str, tg_non, tg_tup, tgs_nil, tgs_cons, dRevT_k, vRevT_k, revTD_k, dRevL_k, vRevL_k, revLD_k, dTupOf_k, vTupOf_k, tupD_k, dCatM_k, vCatM1_k, vCatM2_k, catM_k, dTryB_k, kTry_nx, kTry_rt, kTry_ex, kTry2_k, isi_tuple_non, isi_tuple_lst, isi_int_lst, isi_int_str, isi_int_non, bls_nil, bls_cons, bnd_k, bigL0, bigL1, bigL2, bigL3, bigP0, bigP1, List.length_cons, List.length_nil, List.replicate, List.map_cons, List.map_nil, List.cons_append, List.nil_append, List.append_nil, List.getElem?_cons_zero, List.getElem?_cons_succ, List.set_cons_zero, List.set_cons_succ, Option.map_some, Option.map_none, Bool.not_true, Bool.not_false, if_true, Bool.false_eq_true, if_false, Nat.reduceAdd, Nat.reduceSub, Nat.reduceEqDiff, Bool.and_true, Bool.true_and, Bool.and_self, ite_true, ite_false, Nat.reduceLeDiff, reduceIte, reduceCtorEq, eq_self, decide_true, decide_false, not_true_eq_false, not_false_eq_true, Bool.false_and, Bool.and_false, Bool.or_false, Bool.false_or, Bool.true_or, Bool.or_true]
        rfl)
      (by
        by_cases hc : ahead gs p (rowIn gs pre) < (rowIn gs pre).length
        · have h1 : decide (((ahead gs p (rowIn gs pre) : Nat) : Int) < ((rowIn gs pre).length : Int)) = true := by simp; omega
          have h2 : decide (((rowIn gs pre)[ahead gs p (rowIn gs pre)], p) ∈ gs) = false := by simpa using ahead_out gs p _ hc
          simp only [kb_ok, kb_ex, kb_no, ret_k, lif_s, lif_n, dView_k, vView_k, dFlat_k, vFlat_int, vFlat_bl, vFlat_str, vFlat_non, dVar_k, kVar_k, dPk_k, kPk_k, dMv_k, kMv_k, dFrz_k, kFrz_k, dBin_k, vBin1_k, vBin2_k, dTest_k, vTest_k, dChain_k, vCh1_k, vCh2_k, vCh3_t, vCh3_f, dNot_k, vNot_k, dAnd_k, vAnd_t, vAnd_f, dOr_k, vOr_t, vOr_f, dAndV_k, vAndV_t, vAndV_f, dOrV_k, vOrV_t, vOrV_f, dNotV_k, vNotV_k, dIf_k, vIf_t, vIf_f, dCons_k, vCons1_k, vCons2_k, dTup_k, vTup_k, dLst_k, vLst_k, dCall_k, vCall_k, kc_rt, kc_ex, dItL_k, vItL_lst, vItL_sc, dItT_k, vItT_k, dRng1_k, vRng1_k, dRng2_k, vRng2_k, dCB_k, vCB_k, dIsi_k, vIsi_k, dListE_k, vListE_k, dListS_k, kLS_lst, dLRng1_k, vLRng1_k, dNeg_k, vNeg_k, dIxS_k, kIxS_k, vIxS_k, kIx2_lst, kIx2_tup, kIx2_sc, kIx3_k, dNx_k, dSeq_k, ks_nx, ks_rt, ks_bk, ks_ct, ks_ex, dDrop_k, kDrop_ok, kDrop_ex, dRet_k, kRet_ok, kRet_ex, dIfS_k, kIfS_t, kIfS_f, kIfS_ex, dSet_k, kSet_ok, kSet_ex, dAsg_k, kAsg_ok, kAsg_ex, kh_k, dAppend_k, kAp_k, kAp1_ok, kAp1_ex, kAp2_k, dAug_k, kAug_k, kAug1_ok, dSetItem_k, kSI_ok, kSI_ex, kSI1_k, kSI2_ok, kSI3_k, kSI4_k, dAugItem_k, kAI_k, kAI1_ok, kAI2_k, kAI3_k, kAI4_ok, kAI5_k, kAI6_k, dFor_k, kFor_ok, dComp_k, vComp_k, kCo_k, comp_nil, comp_cons, kc1_k, kc2_t, kc2_f, kc3_k, run_k, kRun_nx, kRun_rt, kRun_ex, hName_k, hNil_k, hCons_k, kH_k, hTup_k, gLt_int, gGt_int, gLe_int, gGe_int, gAdd_int, gMinus_int, gMul_int, gMod_int, gDiv_int, gIx_lst, gIx_tup, gIx_sc, gLen_lst, gLen_tup, gLen_sc, gAll_lst, gAny_lst, gSum_lst, isi_int_int, isi_int_bl, isi_bool_int, isi_bool_bl, isi_list_lst, isi_tuple_tup, isi_str_str, un_int, un_bl, un_str, un_non, un_sc, un_lst, un_tup, uns_nil, uns_cons, pl_int, pl_bl, pl_str, pl_non, pl_sc, pl_lst, pl_tup, pls_nil, pls_cons, ow_int, ow_bl, ow_str, ow_non, ow_lst, ow_tup, ows_nil, ows_cons, wipe_nil, wipe_cons, ints_nil, ints_cons, gBest_lst, gBest_tup, kBest_k, dKeep_k, vKeep_k, dCat_k, vCat1_k, vCat2_k, catD_k, dSorted_k, vSorted_k, sortD_k, dClear_k, kClr_k, dInsert_k, kIn_k, kIn1_ok, kIn2_ok, kIn3_k, tg_int, tg_bl, tg_str, tg_non, tg_tup, tgs_nil, tgs_cons, dRevT_k, vRevT_k, revTD_k, dRevL_k, vRevL_k, revLD_k, dTupOf_k, vTupOf_k, tupD_k, dCatM_k, vCatM1_k, vCatM2_k, catM_k, dTryB_k, kTry_nx, kTry_rt, kTry_ex, kTry2_k, isi_tuple_non, isi_tuple_lst, isi_int_lst, isi_int_str, isi_int_non, bls_nil, bls_cons, bnd_k, bigL0, bigL1, bigL2, bigL3, bigP0, bigP1, List.length_cons, List.length_nil, List.replicate, List.map_cons, List.map_nil, List.cons_append, List.nil_append, List.append_nil, List.getElem?_cons_zero, List.getElem?_cons_succ, List.set_cons_zero, List.set_cons_succ, Option.map_some, Option.map_none, Bool.not_true, Bool.not_false, if_true, Bool.false_eq_true, if_false, Nat.reduceAdd, Nat.reduceSub, Nat.reduceEqDiff, Bool.and_true, Bool.true_and, Bool.and_self, ite_true, ite_false, Nat.reduceLeDiff, reduceIte, reduceCtorEq, eq_self, decide_true, decide_false, not_true_eq_false, not_false_eq_true, Bool.false_and, Bool.and_false, Bool.or_false, Bool.false_or, Bool.true_or, Bool.or_true, nats_un, nats_len, h1, Sh.atI_nat, nats_get hc, encs_un, gIn_encs, h2]
        · have h1 : decide (((ahead gs p (rowIn gs pre) : Nat) : Int) < ((rowIn gs pre).length : Int)) = false := by simp; omega
          simp only [kb_ok, kb_ex, kb_no, ret_k, lif_s, lif_n, dView_k, vView_k, dFlat_k, vFlat_int, vFlat_bl, vFlat_str, vFlat_non, dVar_k, kVar_k, dPk_k, kPk_k, dMv_k, kMv_k, dFrz_k, kFrz_k, dBin_k, vBin1_k, vBin2_k, dTest_k, vTest_k, dChain_k, vCh1_k, vCh2_k, vCh3_t, vCh3_f, dNot_k, vNot_k, dAnd_k, vAnd_t, vAnd_f, dOr_k, vOr_t, vOr_f, dAndV_k, vAndV_t, vAndV_f, dOrV_k, vOrV_t, vOrV_f, dNotV_k, vNotV_k, dIf_k, vIf_t, vIf_f, dCons_k, vCons1_k, vCons2_k, dTup_k, vTup_k, dLst_k, vLst_k, dCall_k, vCall_k, kc_rt, kc_ex, dItL_k, vItL_lst, vItL_sc, dItT_k, vItT_k, dRng1_k, vRng1_k, dRng2_k, vRng2_k, dCB_k, vCB_k, dIsi_k, vIsi_k, dListE_k, vListE_k, dListS_k, kLS_lst, dLRng1_k, vLRng1_k, dNeg_k, vNeg_k, dIxS_k, kIxS_k, vIxS_k, kIx2_lst, kIx2_tup, kIx2_sc, kIx3_k, dNx_k, dSeq_k, ks_nx, ks_rt, ks_bk, ks_ct, ks_ex, dDrop_k, kDrop_ok, kDrop_ex, dRet_k, kRet_ok, kRet_ex, dIfS_k, kIfS_t, kIfS_f, kIfS_ex, dSet_k, kSet_ok, kSet_ex, dAsg_k, kAsg_ok, kAsg_ex, kh_k, dAppend_k, kAp_k, kAp1_ok, kAp1_ex, kAp2_k, dAug_k, kAug_k, kAug1_ok, dSetItem_k, kSI_ok, kSI_ex, kSI1_k, kSI2_ok, kSI3_k, kSI4_k, dAugItem_k, kAI_k, kAI1_ok, kAI2_k, kAI3_k, kAI4_ok, kAI5_k, kAI6_k, dFor_k, kFor_ok, dComp_k, vComp_k, kCo_k, comp_nil, comp_cons, kc1_k, kc2_t, kc2_f, kc3_k, run_k, kRun_nx, kRun_rt, kRun_ex, hName_k, hNil_k, hCons_k, kH_k, hTup_k, gLt_int, gGt_int, gLe_int, gGe_int, gAdd_int, gMinus_int, gMul_int, gMod_int, gDiv_int, gIx_lst, gIx_tup, gIx_sc, gLen_lst, gLen_tup, gLen_sc, gAll_lst, gAny_lst, gSum_lst, isi_int_int, isi_int_bl, isi_bool_int, isi_bool_bl, isi_list_lst, isi_tuple_tup, isi_str_str, un_int, un_bl, un_str, un_non, un_sc, un_lst, un_tup, uns_nil, uns_cons, pl_int, pl_bl, pl_str, pl_non, pl_sc, pl_lst, pl_tup, pls_nil, pls_cons, ow_int, ow_bl, ow_str, ow_non, ow_lst, ow_tup, ows_nil, ows_cons, wipe_nil, wipe_cons, ints_nil, ints_cons, gBest_lst, gBest_tup, kBest_k, dKeep_k, vKeep_k, dCat_k, vCat1_k, vCat2_k, catD_k, dSorted_k, vSorted_k, sortD_k, dClear_k, kClr_k, dInsert_k, kIn_k, kIn1_ok, kIn2_ok, kIn3_k, tg_int, tg_bl, tg_str, tg_non, tg_tup, tgs_nil, tgs_cons, dRevT_k, vRevT_k, revTD_k, dRevL_k, vRevL_k, revLD_k, dTupOf_k, vTupOf_k, tupD_k, dCatM_k, vCatM1_k, vCatM2_k, catM_k, dTryB_k, kTry_nx, kTry_rt, kTry_ex, kTry2_k, isi_tuple_non, isi_tuple_lst, isi_int_lst, isi_int_str, isi_int_non, bls_nil, bls_cons, bnd_k, bigL0, bigL1, bigL2, bigL3, bigP0, bigP1, List.length_cons, List.length_nil, List.replicate, List.map_cons, List.map_nil, List.cons_append, List.nil_append, List.append_nil, List.getElem?_cons_zero, List.getElem?_cons_succ, List.set_cons_zero, List.set_cons_succ, Option.map_some, Option.map_none, Bool.not_true, Bool.not_false, if_true, Bool.false_eq_true, if_false, Nat.reduceAdd, Nat.reduceSub, Nat.reduceEqDiff, Bool.and_true, Bool.true_and, Bool.and_self, ite_true, ite_false, Nat.reduceLeDiff, reduceIte, reduceCtorEq, eq_self, decide_true, decide_false, not_true_eq_false, not_false_eq_true, Bool.false_and, Bool.and_false, Bool.or_false, Bool.false_or, Bool.true_or, Bool.or_true, nats_un, nats_len, h1])
      (ahead gs p (rowIn gs pre)) 0 100 (by omega) (by omega)
    rw [show ((0 : Nat) : Int) = 0 from rfl] at W
    rw [W] at hr
    have k1 : decide ((0 : Int) ≤ ((ahead gs p (rowIn gs pre) : Nat) : Int)) = true := by simp
    have k2 : decide (((ahead gs p (rowIn gs pre) : Nat) : Int) ≤ 16777216) = true := decide_eq_true (by omega)
    have k3 : decide ((rowIn gs pre).length < big) = true := decide_eq_true (by rw [hlen, big_val]; omega)
    simp only [kb_ok, kb_ex, kb_no, ret_k, lif_s, lif_n, dView_k, vView_k, dFlat_k, vFlat_int, vFlat_bl, vFlat_str, vFlat_non, dVar_k, kVar_k, dPk_k, kPk_k, dMv_k, kMv_k, dFrz_k, kFrz_k, dBin_k, vBin1_k, vBin2_k, dTest_k, vTest_k, dChain_k, vCh1_k, vCh2_k, vCh3_t, vCh3_f, dNot_k, vNot_k, dAnd_k, vAnd_t, vAnd_f, dOr_k, vOr_t, vOr_f, dAndV_k, vAndV_t, vAndV_f, dOrV_k, vOrV_t, vOrV_f, dNotV_k, vNotV_k, dIf_k, vIf_t, vIf_f, dCons_k, vCons1_k, vCons2_k, dTup_k, vTup_k, dLst_k, vLst_k, dCall_k, vCall_k, kc_rt, kc_ex, dItL_k, vItL_lst, vItL_sc, dItT_k, vItT_k, dRng1_k, vRng1_k, dRng2_k, vRng2_k, dCB_k, vCB_k, dIsi_k, vIsi_k, dListE_k, vListE_k, dListS_k, kLS_lst, dLRng1_k, vLRng1_k, dNeg_k, vNeg_k, dIxS_k, kIxS_k, vIxS_k, kIx2_lst, kIx2_tup, kIx2_sc, kIx3_k, dNx_k, dSeq_k, ks_nx, ks_rt, ks_bk, ks_ct, ks_ex, dDrop_k, kDrop_ok, kDrop_ex, dRet_k, kRet_ok, kRet_ex, dIfS_k, kIfS_t, kIfS_f, kIfS_ex, dSet_k, kSet_ok, kSet_ex, dAsg_k, kAsg_ok, kAsg_ex, kh_k, dAppend_k, kAp_k, kAp1_ok, kAp1_ex, kAp2_k, dAug_k, kAug_k, kAug1_ok, dSetItem_k, kSI_ok, kSI_ex, kSI1_k, kSI2_ok, kSI3_k, kSI4_k, dAugItem_k, kAI_k, kAI1_ok, kAI2_k, kAI3_k, kAI4_ok, kAI5_k, kAI6_k, dFor_k, kFor_ok, dComp_k, vComp_k, kCo_k, comp_nil, comp_cons, kc1_k, kc2_t, kc2_f, kc3_k, run_k, kRun_nx, kRun_rt, kRun_ex, hName_k, hNil_k, hCons_k, kH_k, hTup_k, gLt_int, gGt_int, gLe_int, gGe_int, gAdd_int, gMinus_int, gMul_int, gMod_int, gDiv_int, gIx_lst, gIx_tup, gIx_sc, gLen_lst, gLen_tup, gLen_sc, gAll_lst, gAny_lst, gSum_lst, isi_int_int, isi_int_bl, isi_bool_int, isi_bool_bl, isi_list_lst, isi_tuple_tup, isi_str_str, un_int, un_bl, un_str, un_non, un_sc, un_lst, un_tup, uns_nil, uns_cons, pl_int, pl_bl, pl_str, pl_non, pl_sc, pl_lst, pl_tup, pls_nil, pls_cons, ow_int, ow_bl, ow_str, ow_non, ow_lst, ow_tup, ows_nil, ows_cons, wipe_nil, wipe_cons, ints_nil, ints_cons, gBest_lst, gBest_tup, kBest_k, dKeep_k, vKeep_k, dCat_k, vCat1_k, vCat2_k, catD_k, dSorted_k, vSorted_k, sortD_k, dClear_k, kClr_k, dInsert_k, kIn_k, kIn1_ok, kIn2_ok, kIn3_k, tg_int, tg_bl, tg_str, tg_non, tg_tup, tgs_nil, tgs_cons, dRevT_k, vRevT_k, revTD_k, dRevL_k, vRevL_k, revLD_k, dTupOf_k, vTupOf_k, tupD_k, dCatM_k, vCatM1_k, vCatM2_k, catM_k, dTryB_k, kTry_nx, kTry_rt, kTry_ex, kTry2_k, isi_tuple_non, isi_tuple_lst, isi_int_lst, isi_int_str, isi_int_non, bls_nil, bls_cons, bnd_k, bigL0, bigL1, bigL2, bigL3, bigP0, bigP1, List.length_cons, List.length_nil, List.replicate, List.map_cons, List.map_nil, List.cons_append, List.nil_append, List.append_nil, List.getElem?_cons_zero, List.getElem?_cons_succ, List.set_cons_zero, List.set_cons_succ, Option.map_some, Option.map_none, Bool.not_true, Bool.not_false, if_true, Bool.false_eq_true, if_false, Nat.reduceAdd, Nat.reduceSub, Nat.reduceEqDiff, Bool.and_true, Bool.true_and, Bool.and_self, ite_true, ite_false, Nat.reduceLeDiff, reduceIte, reduceCtorEq, eq_self, decide_true, decide_false, not_true_eq_false, not_false_eq_true, Bool.false_and, Bool.and_false, Bool.or_false, Bool.false_or, Bool.true_or, Bool.or_true, k1, k2, nats_len, k3, nats_plain, Int.toNat_natCast, nats_take, nats_drop, nats_one, nats_app] at hr
    rw [← ins_eq] at hr
    refine ⟨_, .inl hr.symm, ?_⟩
    show ∃ a b, (rowIn gs (pre ++ [p])).length = (pre ++ [p]).length ∧ _ = _
    rw [snoc]
    exact ⟨_, _, by rw [ins_len, hlen]; simp, rfl⟩)
  simp only [kb_ok, kb_ex, kb_no, ret_k, lif_s, lif_n, dView_k, vView_k, dFlat_k, vFlat_int, vFlat_bl, vFlat_str, vFlat_non, dVar_k, kVar_k, dPk_k, kPk_k, dMv_k, kMv_k, dFrz_k, kFrz_k, dBin_k, vBin1_k, vBin2_k, dTest_k, vTest_k, dChain_k, vCh1_k, vCh2_k, vCh3_t, vCh3_f, dNot_k, vNot_k, dAnd_k, vAnd_t, vAnd_f, dOr_k, vOr_t, vOr_f, dAndV_k, vAndV_t, vAndV_f, dOrV_k, vOrV_t, vOrV_f, dNotV_k, vNotV_k, dIf_k, vIf_t, vIf_f, dCons_k, vCons1_k, vCons2_k, dTup_k, vTup_k, dLst_k, vLst_k, dCall_k, vCall_k, kc_rt, kc_ex, dItL_k, vItL_lst, vItL_sc, dItT_k, vItT_k, dRng1_k, vRng1_k, dRng2_k, vRng2_k, dCB_k, vCB_k, dIsi_k, vIsi_k, dListE_k, vListE_k, dListS_k, kLS_lst, dLRng1_k, vLRng1_k, dNeg_k, vNeg_k, dIxS_k, kIxS_k, vIxS_k, kIx2_lst, kIx2_tup, kIx2_sc, kIx3_k, dNx_k, dSeq_k, ks_nx, ks_rt, ks_bk, ks_ct, ks_ex, dDrop_k, kDrop_ok, kDrop_ex, dRet_k, kRet_ok, kRet_ex, dIfS_k, kIfS_t, kIfS_f, kIfS_ex, dSet_k, kSet_ok, kSet_ex, dAsg_k, kAsg_ok, kAsg_ex, kh_k, dAppend_k, kAp_k, kAp1_ok, kAp1_ex, kAp2_k, dAug_k, kAug_k, kAug1_ok, dSetItem_k, kSI_ok, kSI_ex, kSI1_k, kSI2_ok, kSI3_k, kSI4_k, dAugItem_k, kAI_k, kAI1_ok, kAI2_k, kAI3_k, kAI4_ok, kAI5_k, kAI6_k, dFor_k, kFor_ok, dComp_k, vComp_k, kCo_k, comp_nil, comp_cons, kc1_k, kc2_t, kc2_f, kc3_k, run_k, kRun_nx, kRun_rt, kRun_ex, hName_k, hNil_k, hCons_k, kH_k, hTup_k, gLt_int, gGt_int, gLe_int, gGe_int, gAdd_int, gMinus_int, gMul_int, gMod_int, gDiv_int, gIx_lst, gIx_tup, gIx_sc, gLen_lst, gLen_tup, gLen_sc, gAll_lst, gAny_lst, gSum_lst, isi_int_int, isi_int_bl, isi_bool_int, isi_bool_bl, isi_list_lst, isi_tuple_tup, isi_str_str, un_int, un_bl, un_str, un_non, un_sc, un_lst, un_tup, uns_nil, uns_cons, pl_int, pl_bl, pl_str, pl_non, pl_sc, pl_lst, pl_tup, pls_nil, pls_cons, ow_int, ow_bl, ow_str, ow_non, ow_lst, ow_tup, ows_nil, ows_cons, wipe_nil, wipe_cons, ints_nil, ints_cons, gBest_lst, gBest_tup, kBest_k, dKeep_k, vKeep_k, dCat_k, vCat1_k, vCat2_k, catD_k, dSorted_k, vSorted_k, sortD_k, dClear_k, kClr_k, dInsert_k, kIn_k, kIn1_ok, kIn2_ok, kIn3_k, tg_int, tg_bl, tg_str, tg_non, tg_tup, tgs_nil, tgs_cons, dRevT_k, vRevT_k, revTD_k, dRevL_k, vRevL_k, revLD_k, dTupOf_k, vTupOf_k, tupD_k, dCatM_k, vCatM1_k, vCatM2_k, catM_k, dTryB_k, kTry_nx, kTry_rt, kTry_ex, kTry2_k, isi_tuple_non, isi_tuple_lst, isi_int_lst, isi_int_str, isi_int_non, bls_nil, bls_cons, bnd_k, bigL0, bigL1, bigL2, bigL3, bigP0, bigP1, List.length_cons, List.length_nil, List.replicate, List.map_cons, List.map_nil, List.cons_append, List.nil_append, List.append_nil, List.getElem?_cons_zero, List.getElem?_cons_succ, List.set_cons_zero, List.set_cons_succ, Option.map_some, Option.map_none, Bool.not_true, Bool.not_false, if_true, Bool.false_eq_true, if_false, Nat.reduceAdd, Nat.reduceSub, Nat.reduceEqDiff, Bool.and_true, Bool.true_and, Bool.and_self, ite_true, ite_false, Nat.reduceLeDiff, reduceIte, reduceCtorEq, eq_self, decide_true, decide_false, not_true_eq_false, not_false_eq_true, Bool.false_and, Bool.and_false, Bool.or_false, Bool.false_or, Bool.true_or, Bool.or_true]
theorem row_through_eq (gs : List Gm) (o : Bool) (n : Nat) (h1 : 1 ≤ n) (hn : n ≤ 10) (hg : Gms n gs) (hs : Srt gs) (hl : gs.length ≤ 100000) (ha : (gs.length : Int) = (n : Int) * ((n : Int) - 1) / 2) : fd_row_through [.lst o (encs gs), .int n] = some (.rt (.lst true (nats (rowIn gs (List.range n))))) := by
  have k1 : decide ((0 : Int) ≤ (n : Int)) = true := by simp
  have k2 : decide ((n : Int) ≤ 16777216) = true := decide_eq_true (by omega)
  have R := fun o o2 => row_in_eq gs o o2 (List.range n) (by rw [List.length_range]; omega)
  unfold fd_row_through dn_row_through
  simp only [kb_ok, kb_ex, kb_no, ret_k, lif_s, lif_n, dView_k, vView_k, dFlat_k, vFlat_int, vFlat_bl, vFlat_str, vFlat_non, dVar_k, kVar_k, dPk_k, kPk_k, dMv_k, kMv_k, dFrz_k, kFrz_k, dBin_k, vBin1_k, vBin2_k, dTest_k, vTest_k, dChain_k, vCh1_k, vCh2_k, vCh3_t, vCh3_f, dNot_k, vNot_k, dAnd_k, vAnd_t, vAnd_f, dOr_k, vOr_t, vOr_f, dAndV_k, vAndV_t, vAndV_f, dOrV_k, vOrV_t, vOrV_f, dNotV_k, vNotV_k, dIf_k, vIf_t, vIf_f, dCons_k, vCons1_k, vCons2_k, dTup_k, vTup_k, dLst_k, vLst_k, dCall_k, vCall_k, kc_rt, kc_ex, dItL_k, vItL_lst, vItL_sc, dItT_k, vItT_k, dRng1_k, vRng1_k, dRng2_k, vRng2_k, dCB_k, vCB_k, dIsi_k, vIsi_k, dListE_k, vListE_k, dListS_k, kLS_lst, dLRng1_k, vLRng1_k, dNeg_k, vNeg_k, dIxS_k, kIxS_k, vIxS_k, kIx2_lst, kIx2_tup, kIx2_sc, kIx3_k, dNx_k, dSeq_k, ks_nx, ks_rt, ks_bk, ks_ct, ks_ex, dDrop_k, kDrop_ok, kDrop_ex, dRet_k, kRet_ok, kRet_ex, dIfS_k, kIfS_t, kIfS_f, kIfS_ex, dSet_k, kSet_ok, kSet_ex, dAsg_k, kAsg_ok, kAsg_ex, kh_k, dAppend_k, kAp_k, kAp1_ok, kAp1_ex, kAp2_k, dAug_k, kAug_k, kAug1_ok, dSetItem_k, kSI_ok, kSI_ex, kSI1_k, kSI2_ok, kSI3_k, kSI4_k, dAugItem_k, kAI_k, kAI1_ok, kAI2_k, kAI3_k, kAI4_ok, kAI5_k, kAI6_k, dFor_k, kFor_ok, dComp_k, vComp_k, kCo_k, comp_nil, comp_cons, kc1_k, kc2_t, kc2_f, kc3_k, run_k, kRun_nx, kRun_rt, kRun_ex, hName_k, hNil_k, hCons_k, kH_k, hTup_k, gLt_int, gGt_int, gLe_int, gGe_int, gAdd_int, gMinus_int, gMul_int, gMod_int, gDiv_int, gIx_lst, gIx_tup, gIx_sc, gLen_lst, gLen_tup, gLen_sc, gAll_lst, gAny_lst, gSum_lst, isi_int_int, isi_int_bl, isi_bool_int, isi_bool_bl, isi_list_lst, isi_tuple_tup, isi_str_str, un_int, un_bl, un_str, un_non, un_sc, un_lst, un_tup, uns_nil, uns_cons, pl_int, pl_bl, pl_str, pl_non, pl_sc, pl_lst, pl_tup, pls_nil, pls_cons, ow_int, ow_bl, ow_str, ow_non, ow_lst, ow_tup, ows_nil, ows_cons, wipe_nil, wipe_cons, ints_nil, ints_cons, gBest_lst, gBest_tup, kBest_k, dKeep_k, vKeep_k, dCat_k, vCat1_k, vCat2_k, catD_k, dSorted_k, vSorted_k, sortD_k, dClear_k, kClr_k, dInsert_k, kIn_k, kIn1_ok, kIn2_ok, kIn3_k, tg_int, tg_bl, tg_str, tg_non, tg_tup, tgs_nil, tgs_cons, dRevT_k, vRevT_k, revTD_k, dRevL_k, vRevL_k, revLD_k, dTupOf_k, vTupOf_k, tupD_k, dCatM_k, vCatM1_k, vCatM2_k, catM_k, dTryB_k, kTry_nx, kTry_rt, kTry_ex, kTry2_k, isi_tuple_non, isi_tuple_lst, isi_int_lst, isi_int_str, isi_int_non, bls_nil, bls_cons, bnd_k, bigL0, bigL1, bigL2, bigL3, bigP0, bigP1, List.length_cons, List.length_nil, List.replicate, List.map_cons, List.map_nil, List.cons_append, List.nil_append, List.append_nil, List.getElem?_cons_zero, List.getElem?_cons_succ, List.set_cons_zero, List.set_cons_succ, Option.map_some, Option.map_none, Bool.not_true, Bool.not_false, if_true, Bool.false_eq_true, if_false, Nat.reduceAdd, Nat.reduceSub, Nat.reduceEqDiff, Bool.and_true, Bool.true_and, Bool.and_self, ite_true, ite_false, Nat.reduceLeDiff, reduceIte, reduceCtorEq, eq_self, decide_true, decide_false, not_true_eq_false, not_false_eq_true, Bool.false_and, Bool.and_false, Bool.or_false, Bool.false_or, Bool.true_or, Bool.or_true, encs_un, check_round_ok gs _ n h1 hn hg hs hl ha, k1, k2, Int.toNat_natCast, rng_nats, nats_un, R, nats_own]
theorem intsOf_nats : ∀ r : List Nat, intsOf (nats r) = some (r.map fun k : Nat => (k : Int))
  | [] => rfl
  | x :: r => by
    have := intsOf_nats r
    simp only [nats, List.map] at this ⊢
    rw [ints_cons, this]
    rfl
theorem sort_row (o : Bool) (r : List Nat) (n : Nat) (h : r.Perm (List.range n)) : sortD (.lst o (nats r)) = some (.lst true (nats (List.range n))) := by
  rw [sortD_k, intsOf_nats]
  have e : sortI (r.map fun k : Nat => (k : Int)) = (List.range n).map fun k : Nat => (k : Int) := by
    refine srt_uniq ((sortI_perm _).trans (h.map _)) (sortI_srt _) ?_
    rw [List.pairwise_map]
    exact List.pairwise_lt_range.imp fun h => by omega
  rw [Option.map_some, e]
  simp [nats]
end Sh

set_option Elab.async false
set_option linter.all false
set_option maxRecDepth 100000
/-! The plain laws, part K: what a round is; rings turned. -/
namespace Sh
open L2 Ly
theorem gNe_enc (p : Gm) (i j : Nat) : gNe (enc p) (.tup [.int (i : Int), .int (j : Int)]) = some (.bl (!decide (p = (i, j)))) := by
  rw [gNe_k, enc_mk, enc_eqv, enc_fit, enc_fit]
  rfl
theorem pairs_at {n i j : Nat} {pre post pre2 post2 : List Nat} (h1 : List.range n = pre ++ i :: post) (h2 : (List.range (n - (i + 1))).map (fun k => i + 1 + k) = pre2 ++ j :: post2) : (pairs n)[(pre.flatMap (row n)).length + pre2.length]? = some (i, j) := by
  have e : row n i = (pre2 ++ j :: post2).map fun k => (i, k) := by
    rw [← h2, List.map_map]
    rfl
  have e2 : pairs n = pre.flatMap (row n) ++ (pre2.map (fun k => (i, k)) ++ ((i, j) :: (post2.map (fun k => (i, k)) ++ post.flatMap (row n)))) := by
    unfold pairs
    rw [h1, List.flatMap_append, List.flatMap_cons, e]
    simp
  rw [e2, List.getElem?_append_right (Nat.le_add_right _ _), Nat.add_sub_cancel_left, List.getElem?_append_right (by simp)]
  simp
theorem is_round_eq (w : Nat → Nat → Bool) (o : Bool) (n : Nat) (hn : n ≤ 10) : fd_l_is_round [.lst o (encs (round w n)), .int n] = some (.rt (.bl true)) := by
  have c := cMul_small (i := n) (j := (n : Int) - 1) (by omega) (by omega)
  have e : (((round w n).length : Int) == (n : Int) * ((n : Int) - 1) / 2) = true := by rw [round_all w hn]; simp
  have hb : b62 (n : Int) = true := b62_small (by omega)
  unfold fd_l_is_round dn_l_is_round
  simp only [kb_ok, kb_ex, kb_no, ret_k, lif_s, lif_n, dView_k, vView_k, dFlat_k, vFlat_int, vFlat_bl, vFlat_str, vFlat_non, dVar_k, kVar_k, dPk_k, kPk_k, dMv_k, kMv_k, dFrz_k, kFrz_k, dBin_k, vBin1_k, vBin2_k, dTest_k, vTest_k, dChain_k, vCh1_k, vCh2_k, vCh3_t, vCh3_f, dNot_k, vNot_k, dAnd_k, vAnd_t, vAnd_f, dOr_k, vOr_t, vOr_f, dAndV_k, vAndV_t, vAndV_f, dOrV_k, vOrV_t, vOrV_f, dNotV_k, vNotV_k, dIf_k, vIf_t, vIf_f, dCons_k, vCons1_k, vCons2_k, dTup_k, vTup_k, dLst_k, vLst_k, dCall_k, vCall_k, kc_rt, kc_ex, dItL_k, vItL_lst, vItL_sc, dItT_k, vItT_k, dRng1_k, vRng1_k, dRng2_k, vRng2_k, dCB_k, vCB_k, dIsi_k, vIsi_k, dListE_k, vListE_k, dListS_k, kLS_lst, dLRng1_k, vLRng1_k, dNeg_k, vNeg_k, dIxS_k, kIxS_k, vIxS_k, kIx2_lst, kIx2_tup, kIx2_sc, kIx3_k, dNx_k, dSeq_k, ks_nx, ks_rt, ks_bk, ks_ct, ks_ex, dDrop_k, kDrop_ok, kDrop_ex, dRet_k, kRet_ok, kRet_ex, dIfS_k, kIfS_t, kIfS_f, kIfS_ex, dSet_k, kSet_ok, kSet_ex, dAsg_k, kAsg_ok, kAsg_ex, kh_k, dAppend_k, kAp_k, kAp1_ok, kAp1_ex, kAp2_k, dAug_k, kAug_k, kAug1_ok, dSetItem_k, kSI_ok, kSI_ex, kSI1_k, kSI2_ok, kSI3_k, kSI4_k, dAugItem_k, kAI_k, kAI1_ok, kAI2_k, kAI3_k, kAI4_ok, kAI5_k, kAI6_k, dFor_k, kFor_ok, dComp_k, vComp_k, kCo_k, comp_nil, comp_cons, kc1_k, kc2_t, kc2_f, kc3_k, run_k, kRun_nx, kRun_rt, kRun_ex, hName_k, hNil_k, hCons_k, kH_k, hTup_k, gLt_int, gGt_int, gLe_int, gGe_int, gAdd_int, gMinus_int, gMul_int, gMod_int, gDiv_int, gIx_lst, gIx_tup, gIx_sc, gLen_lst, gLen_tup, gLen_sc, gAll_lst, gAny_lst, gSum_lst, isi_int_int, isi_int_bl, isi_bool_int, isi_bool_bl, isi_list_lst, isi_tuple_tup, isi_str_str, un_int, un_bl, un_str, un_non, un_sc, un_lst, un_tup, uns_nil, uns_cons, pl_int, pl_bl, pl_str, pl_non, pl_sc, pl_lst, pl_tup, pls_nil, pls_cons, ow_int, ow_bl, ow_str, ow_non, ow_lst, ow_tup, ows_nil, ows_cons, wipe_nil, wipe_cons, ints_nil, ints_cons, gBest_lst, gBest_tup, kBest_k, dKeep_k, vKeep_k, dCat_k, vCat1_k, vCat2_k, catD_k, dSorted_k, vSorted_k, sortD_k, dClear_k, kClr_k, dInsert_k, kIn_k, kIn1_ok, kIn2_ok, kIn3_k, tg_int, tg_bl, tg_str, tg_non, tg_tup, tgs_nil, tgs_cons, dRevT_k, vRevT_k, revTD_k, dRevL_k, vRevL_k, revLD_k, dTupOf_k, vTupOf_k, tupD_k, dCatM_k, vCatM1_k, vCatM2_k, catM_k, dTryB_k, kTry_nx, kTry_rt, kTry_ex, kTry2_k, isi_tuple_non, isi_tuple_lst, isi_int_lst, isi_int_str, isi_int_non, bls_nil, bls_cons, bnd_k, bigL0, bigL1, bigL2, bigL3, bigP0, bigP1, List.length_cons, List.length_nil, List.replicate, List.map_cons, List.map_nil, List.cons_append, List.nil_append, List.append_nil, List.getElem?_cons_zero, List.getElem?_cons_succ, List.set_cons_zero, List.set_cons_succ, Option.map_some, Option.map_none, Bool.not_true, Bool.not_false, if_true, Bool.false_eq_true, if_false, Nat.reduceAdd, Nat.reduceSub, Nat.reduceEqDiff, Bool.and_true, Bool.true_and, Bool.and_self, ite_true, ite_false, Nat.reduceLeDiff, reduceIte, reduceCtorEq, eq_self, decide_true, decide_false, not_true_eq_false, not_false_eq_true, Bool.false_and, Bool.and_false, Bool.or_false, Bool.false_or, Bool.true_or, Bool.or_true, gEq_k, gNe_k, fit_int, fit_bl, fit_non, fit_lst8, fit_tup8, fits_nil, fits_cons, eqv_ii, eqv_bb, eqv_tt, eqv_ll, eqvs_nil, eqvs_cons, encs_un, encs_len, c, p2, q2, e, hb, Int.toNat_natCast, rngD0]
  generalize hL : loop _ _ _ _ = r
  obtain ⟨ρ', rfl, a, b, d, rfl⟩ := loop_inv_of hL (fun k : Nat => D.int k) (List.range n) (fun pre ρ => ∃ a b d, ρ = [some (.lst o (encs (round w n))), some (.int n), some (.int ((pre.flatMap (row n)).length : Nat)), a, b, d]) rfl ⟨none, none, none, rfl⟩ (by
    rintro pre i post h1 ρ ⟨a, b, d, rfl⟩
    have hi : i < n := by
      have : i ∈ List.range n := by rw [h1]; simp
      simpa using this
    have hb2 : b62 ((i : Int) + 1) = true := b62_int (by omega) (by omega)
    refine ⟨_, rfl, fun r hr => ?_⟩
    simp only [kb_ok, kb_ex, kb_no, ret_k, lif_s, lif_n, dView_k, vView_k, dFlat_k, vFlat_int, vFlat_bl, vFlat_str, vFlat_non, dVar_k, kVar_k, dPk_k, kPk_k, dMv_k, kMv_k, dFrz_k, kFrz_k, dBin_k, vBin1_k, vBin2_k, dTest_k, vTest_k, dChain_k, vCh1_k, vCh2_k, vCh3_t, vCh3_f, dNot_k, vNot_k, dAnd_k, vAnd_t, vAnd_f, dOr_k, vOr_t, vOr_f, dAndV_k, vAndV_t, vAndV_f, dOrV_k, vOrV_t, vOrV_f, dNotV_k, vNotV_k, dIf_k, vIf_t, vIf_f, dCons_k, vCons1_k, vCons2_k, dTup_k, vTup_k, dLst_k, vLst_k, dCall_k, vCall_k, kc_rt, kc_ex, dItL_k, vItL_lst, vItL_sc, dItT_k, vItT_k, dRng1_k, vRng1_k, dRng2_k, vRng2_k, dCB_k, vCB_k, dIsi_k, vIsi_k, dListE_k, vListE_k, dListS_k, kLS_lst, dLRng1_k, vLRng1_k, dNeg_k, vNeg_k, dIxS_k, kIxS_k, vIxS_k, kIx2_lst, kIx2_tup, kIx2_sc, kIx3_k, dNx_k, dSeq_k, ks_nx, ks_rt, ks_bk, ks_ct, ks_ex, dDrop_k, kDrop_ok, kDrop_ex, dRet_k, kRet_ok, kRet_ex, dIfS_k, kIfS_t, kIfS_f, kIfS_ex, dSet_k, kSet_ok, kSet_ex, dAsg_k, kAsg_ok, kAsg_ex, kh_k, dAppend_k, kAp_k, kAp1_ok, kAp1_ex, kAp2_k, dAug_k, kAug_k, kAug1_ok, dSetItem_k, kSI_ok, kSI_ex, kSI1_k, kSI2_ok, kSI3_k, kSI4_k, dAugItem_k, kAI_k, kAI1_ok, kAI2_k, kAI3_k, kAI4_ok, kAI5_k, kAI6_k, dFor_k, kFor_ok, dComp_k, vComp_k, kCo_k, comp_nil, comp_cons, kc1_k, kc2_t, kc2_f, kc3_k, run_k, kRun_nx, kRun_rt, kRun_ex, hName_k, hNil_k, hCons_k, kH_k, hTup_k, gLt_int, gGt_int, gLe_int, gGe_int, gAdd_int, gMinus_int, gMul_int, gMod_int, gDiv_int, gIx_lst, gIx_tup, gIx_sc, gLen_lst, gLen_tup, gLen_sc, gAll_lst, gAny_lst, gSum_lst, isi_int_int, isi_int_bl, isi_bool_int, isi_bool_bl, isi_list_lst, isi_tuple_tup, isi_str_str, un_int, un_bl, un_str, un_non, un_sc, un_lst, un_tup, uns_nil, uns_cons, pl_int, pl_bl, pl_str, pl_non, pl_sc, pl_lst, pl_tup, pls_nil, pls_cons, ow_int, ow_bl, ow_str, ow_non, ow_lst, ow_tup, ows_nil, ows_cons, wipe_nil, wipe_cons, ints_nil, ints_cons, gBest_lst, gBest_tup, kBest_k, dKeep_k, vKeep_k, dCat_k, vCat1_k, vCat2_k, catD_k, dSorted_k, vSorted_k, sortD_k, dClear_k, kClr_k, dInsert_k, kIn_k, kIn1_ok, kIn2_ok, kIn3_k, tg_int, tg_bl, tg_str, tg_non, tg_tup, tgs_nil, tgs_cons, dRevT_k, vRevT_k, revTD_k, dRevL_k, vRevL_k, revLD_k, dTupOf_k, vTupOf_k, tupD_k, dCatM_k, vCatM1_k, vCatM2_k, catM_k, dTryB_k, kTry_nx, kTry_rt, kTry_ex, kTry2_k, isi_tuple_non, isi_tuple_lst, isi_int_lst, isi_int_str, isi_int_non, bls_nil, bls_cons, bnd_k, bigL0, bigL1, bigL2, bigL3, bigP0, bigP1, List.length_cons, List.length_nil, List.replicate, List.map_cons, List.map_nil, List.cons_append, List.nil_append, List.append_nil, List.getElem?_cons_zero, List.getElem?_cons_succ, List.set_cons_zero, List.set_cons_succ, Option.map_some, Option.map_none, Bool.not_true, Bool.not_false, if_true, Bool.false_eq_true, if_false, Nat.reduceAdd, Nat.reduceSub, Nat.reduceEqDiff, Bool.and_true, Bool.true_and, Bool.and_self, ite_true, ite_false, Nat.reduceLeDiff, reduceIte, reduceCtorEq, eq_self, decide_true, decide_false, not_true_eq_false, not_false_eq_true, Bool.false_and, Bool.and_false, Bool.or_false, Bool.false_or, Bool.true_or, Bool.or_true, hb, hb2, nat_sub_toNat, rngDN] at hr
    obtain ⟨ρ', rfl, b, d, rfl⟩ := loop_inv_of hr (fun k : Nat => D.int k) ((List.range (n - (i + 1))).map (fun k => i + 1 + k)) (fun pre2 ρ => ∃ b d, ρ = [some (.lst o (encs (round w n))), some (.int n), some (.int (((pre.flatMap (row n)).length + pre2.length : Nat) : Int)), some (.int i), b, d]) rfl ⟨b, d, rfl⟩ (by
      rintro pre2 j post2 h2 ρ ⟨b, d, rfl⟩
      have at_ : (encs (round w n))[(pre.flatMap (row n)).length + pre2.length]? = some (enc (side w (i, j))) := by
        unfold encs round
        rw [List.getElem?_map, List.getElem?_map, pairs_at h1 h2]
        rfl
      have e1 : ((((pre.flatMap (row n)).length + pre2.length : Nat) : Int) + 1) = (((pre.flatMap (row n)).length + (pre2 ++ [j]).length : Nat) : Int) := by simp; omega
      refine ⟨_, rfl, fun r hr => ?_⟩
      simp only [kb_ok, kb_ex, kb_no, ret_k, lif_s, lif_n, dView_k, vView_k, dFlat_k, vFlat_int, vFlat_bl, vFlat_str, vFlat_non, dVar_k, kVar_k, dPk_k, kPk_k, dMv_k, kMv_k, dFrz_k, kFrz_k, dBin_k, vBin1_k, vBin2_k, dTest_k, vTest_k, dChain_k, vCh1_k, vCh2_k, vCh3_t, vCh3_f, dNot_k, vNot_k, dAnd_k, vAnd_t, vAnd_f, dOr_k, vOr_t, vOr_f, dAndV_k, vAndV_t, vAndV_f, dOrV_k, vOrV_t, vOrV_f, dNotV_k, vNotV_k, dIf_k, vIf_t, vIf_f, dCons_k, vCons1_k, vCons2_k, dTup_k, vTup_k, dLst_k, vLst_k, dCall_k, vCall_k, kc_rt, kc_ex, dItL_k, vItL_lst, vItL_sc, dItT_k, vItT_k, dRng1_k, vRng1_k, dRng2_k, vRng2_k, dCB_k, vCB_k, dIsi_k, vIsi_k, dListE_k, vListE_k, dListS_k, kLS_lst, dLRng1_k, vLRng1_k, dNeg_k, vNeg_k, dIxS_k, kIxS_k, vIxS_k, kIx2_lst, kIx2_tup, kIx2_sc, kIx3_k, dNx_k, dSeq_k, ks_nx, ks_rt, ks_bk, ks_ct, ks_ex, dDrop_k, kDrop_ok, kDrop_ex, dRet_k, kRet_ok, kRet_ex, dIfS_k, kIfS_t, kIfS_f, kIfS_ex, dSet_k, kSet_ok, kSet_ex, dAsg_k, kAsg_ok, kAsg_ex, kh_k, dAppend_k, kAp_k, kAp1_ok, kAp1_ex, kAp2_k, dAug_k, kAug_k, kAug1_ok, dSetItem_k, kSI_ok, kSI_ex, kSI1_k, kSI2_ok, kSI3_k, kSI4_k, dAugItem_k, kAI_k, kAI1_ok, kAI2_k, kAI3_k, kAI4_ok, kAI5_k, kAI6_k, dFor_k, kFor_ok, dComp_k, vComp_k, kCo_k, comp_nil, comp_cons, kc1_k, kc2_t, kc2_f, kc3_k, run_k, kRun_nx, kRun_rt, kRun_ex, hName_k, hNil_k, hCons_k, kH_k, hTup_k, gLt_int, gGt_int, gLe_int, gGe_int, gAdd_int, gMinus_int, gMul_int, gMod_int, gDiv_int, gIx_lst, gIx_tup, gIx_sc, gLen_lst, gLen_tup, gLen_sc, gAll_lst, gAny_lst, gSum_lst, isi_int_int, isi_int_bl, isi_bool_int, isi_bool_bl, isi_list_lst, isi_tuple_tup, isi_str_str, un_int, un_bl, un_str, un_non, un_sc, un_lst, un_tup, uns_nil, uns_cons, pl_int, pl_bl, pl_str, pl_non, pl_sc, pl_lst, pl_tup, pls_nil, pls_cons, ow_int, ow_bl, ow_str, ow_non, ow_lst, ow_tup, ows_nil, ows_cons, wipe_nil, wipe_cons, ints_nil, ints_cons, gBest_lst, gBest_tup, kBest_k, dKeep_k, vKeep_k, dCat_k, vCat1_k, vCat2_k, catD_k, dSorted_k, vSorted_k, sortD_k, dClear_k, kClr_k, dInsert_k, kIn_k, kIn1_ok, kIn2_ok, kIn3_k, tg_int, tg_bl, tg_str, tg_non, tg_tup, tgs_nil, tgs_cons, dRevT_k, vRevT_k, revTD_k, dRevL_k, vRevL_k, revLD_k, dTupOf_k, vTupOf_k, tupD_k, dCatM_k, vCatM1_k, vCatM2_k, catM_k, dTryB_k, kTry_nx, kTry_rt, kTry_ex, kTry2_k, isi_tuple_non, isi_tuple_lst, isi_int_lst, isi_int_str, isi_int_non, bls_nil, bls_cons, bnd_k, bigL0, bigL1, bigL2, bigL3, bigP0, bigP1, List.length_cons, List.length_nil, List.replicate, List.map_cons, List.map_nil, List.cons_append, List.nil_append, List.append_nil, List.getElem?_cons_zero, List.getElem?_cons_succ, List.set_cons_zero, List.set_cons_succ, Option.map_some, Option.map_none, Bool.not_true, Bool.not_false, if_true, Bool.false_eq_true, if_false, Nat.reduceAdd, Nat.reduceSub, Nat.reduceEqDiff, Bool.and_true, Bool.true_and, Bool.and_self, ite_true, ite_false, Nat.reduceLeDiff, reduceIte, reduceCtorEq, eq_self, decide_true, decide_false, not_true_eq_false, not_false_eq_true, Bool.false_and, Bool.and_false, Bool.or_false, Bool.false_or, Bool.true_or, Bool.or_true, Sh.atI_nat, at_, enc_plain, enc_un, e1] at hr
      cases hw : w i j with
      | true =>
        have es : side w (i, j) = (i, j) := by unfold side; rw [if_pos hw]
        rw [es] at hr
        have g1 := gNe_enc (i, j) i j
        simp only [decide_true, Bool.not_true] at g1
        have it : isiD .tuple (enc (i, j)) = some true := rfl
        have x0 : gIx (enc (i, j)) (.int 0) = some (.int i) := rfl
        have x1 : gIx (enc (i, j)) (.int 1) = some (.int j) := rfl
        simp only [kb_ok, kb_ex, kb_no, ret_k, lif_s, lif_n, dView_k, vView_k, dFlat_k, vFlat_int, vFlat_bl, vFlat_str, vFlat_non, dVar_k, kVar_k, dPk_k, kPk_k, dMv_k, kMv_k, dFrz_k, kFrz_k, dBin_k, vBin1_k, vBin2_k, dTest_k, vTest_k, dChain_k, vCh1_k, vCh2_k, vCh3_t, vCh3_f, dNot_k, vNot_k, dAnd_k, vAnd_t, vAnd_f, dOr_k, vOr_t, vOr_f, dAndV_k, vAndV_t, vAndV_f, dOrV_k, vOrV_t, vOrV_f, dNotV_k, vNotV_k, dIf_k, vIf_t, vIf_f, dCons_k, vCons1_k, vCons2_k, dTup_k, vTup_k, dLst_k, vLst_k, dCall_k, vCall_k, kc_rt, kc_ex, dItL_k, vItL_lst, vItL_sc, dItT_k, vItT_k, dRng1_k, vRng1_k, dRng2_k, vRng2_k, dCB_k, vCB_k, dIsi_k, vIsi_k, dListE_k, vListE_k, dListS_k, kLS_lst, dLRng1_k, vLRng1_k, dNeg_k, vNeg_k, dIxS_k, kIxS_k, vIxS_k, kIx2_lst, kIx2_tup, kIx2_sc, kIx3_k, dNx_k, dSeq_k, ks_nx, ks_rt, ks_bk, ks_ct, ks_ex, dDrop_k, kDrop_ok, kDrop_ex, dRet_k, kRet_ok, kRet_ex, dIfS_k, kIfS_t, kIfS_f, kIfS_ex, dSet_k, kSet_ok, kSet_ex, dAsg_k, kAsg_ok, kAsg_ex, kh_k, dAppend_k, kAp_k, kAp1_ok, kAp1_ex, kAp2_k, dAug_k, kAug_k, kAug1_ok, dSetItem_k, kSI_ok, kSI_ex, kSI1_k, kSI2_ok, kSI3_k, kSI4_k, dAugItem_k, kAI_k, kAI1_ok, kAI2_k, kAI3_k, kAI4_ok, kAI5_k, kAI6_k, dFor_k, kFor_ok, dComp_k, vComp_k, kCo_k, comp_nil, comp_cons, kc1_k, kc2_t, kc2_f, kc3_k, run_k, kRun_nx, kRun_rt, kRun_ex, hName_k, hNil_k, hCons_k, kH_k, hTup_k, gLt_int, gGt_int, gLe_int, gGe_int, gAdd_int, gMinus_int, gMul_int, gMod_int, gDiv_int, gIx_lst, gIx_tup, gIx_sc, gLen_lst, gLen_tup, gLen_sc, gAll_lst, gAny_lst, gSum_lst, isi_int_int, isi_int_bl, isi_bool_int, isi_bool_bl, isi_list_lst, isi_tuple_tup, isi_str_str, un_int, un_bl, un_str, un_non, un_sc, un_lst, un_tup, uns_nil, uns_cons, pl_int, pl_bl, pl_str, pl_non, pl_sc, pl_lst, pl_tup, pls_nil, pls_cons, ow_int, ow_bl, ow_str, ow_non, ow_lst, ow_tup, ows_nil, ows_cons, wipe_nil, wipe_cons, ints_nil, ints_cons, gBest_lst, gBest_tup, kBest_k, dKeep_k, vKeep_k, dCat_k, vCat1_k, vCat2_k, catD_k, dSorted_k, vSorted_k, sortD_k, dClear_k, kClr_k, dInsert_k, kIn_k, kIn1_ok, kIn2_ok, kIn3_k, tg_int, tg_bl, tg_str, tg_non, tg_tup, tgs_nil, tgs_cons, dRevT_k, vRevT_k, revTD_k, dRevL_k, vRevL_k, revLD_k, dTupOf_k, vTupOf_k, tupD_k, dCatM_k, vCatM1_k, vCatM2_k, catM_k, dTryB_k, kTry_nx, kTry_rt, kTry_ex, kTry2_k, isi_tuple_non, isi_tuple_lst, isi_int_lst, isi_int_str, isi_int_non, bls_nil, bls_cons, bnd_k, bigL0, bigL1, bigL2, bigL3, bigP0, bigP1, List.length_cons, List.length_nil, List.replicate, List.map_cons, List.map_nil, List.cons_append, List.nil_append, List.append_nil, List.getElem?_cons_zero, List.getElem?_cons_succ, List.set_cons_zero, List.set_cons_succ, Option.map_some, Option.map_none, Bool.not_true, Bool.not_false, if_true, Bool.false_eq_true, if_false, Nat.reduceAdd, Nat.reduceSub, Nat.reduceEqDiff, Bool.and_true, Bool.true_and, Bool.and_self, ite_true, ite_false, Nat.reduceLeDiff, reduceIte, reduceCtorEq, eq_self, decide_true, decide_false, not_true_eq_false, not_false_eq_true, Bool.false_and, Bool.and_false, Bool.or_false, Bool.false_or, Bool.true_or, Bool.or_true, it, g1, x0, x1, enc_un] at hr
        exact ⟨_, .inl hr.symm, _, _, rfl⟩
      | false =>
        have es : side w (i, j) = (j, i) := by unfold side; rw [if_neg (by simp [hw])]
        rw [es] at hr
        have g1 := gNe_enc (j, i) i j
        have g2 := gNe_enc (j, i) j i
        simp only [decide_true, Bool.not_true] at g2
        have it : isiD .tuple (enc (j, i)) = some true := rfl
        have x0 : gIx (enc (j, i)) (.int 0) = some (.int j) := rfl
        have x1 : gIx (enc (j, i)) (.int 1) = some (.int i) := rfl
        cases hd : decide ((j, i) = (i, j)) <;> simp only [kb_ok, kb_ex, kb_no, ret_k, lif_s, lif_n, dView_k, vView_k, dFlat_k, vFlat_int, vFlat_bl, vFlat_str, vFlat_non, dVar_k, kVar_k, dPk_k, kPk_k, dMv_k, kMv_k, dFrz_k, kFrz_k, dBin_k, vBin1_k, vBin2_k, dTest_k, vTest_k, dChain_k, vCh1_k, vCh2_k, vCh3_t, vCh3_f, dNot_k, vNot_k, dAnd_k, vAnd_t, vAnd_f, dOr_k, vOr_t, vOr_f, dAndV_k, vAndV_t, vAndV_f, dOrV_k, vOrV_t, vOrV_f, dNotV_k, vNotV_k, dIf_k, vIf_t, vIf_f, dCons_k, vCons1_k, vCons2_k, dTup_k, vTup_k, dLst_k, vLst_k, dCall_k, vCall_k, kc_rt, kc_ex, dItL_k, vItL_lst, vItL_sc, dItT_k, vItT_k, dRng1_k, vRng1_k, dRng2_k, vRng2_k, dCB_k, vCB_k, dIsi_k, vIsi_k, dListE_k, vListE_k, dListS_k, kLS_lst, dLRng1_k, vLRng1_k, dNeg_k, vNeg_k, dIxS_k, kIxS_k, vIxS_k, kIx2_lst, kIx2_tup, kIx2_sc, kIx3_k, dNx_k, dSeq_k, ks_nx, ks_rt, ks_bk, ks_ct, ks_ex, dDrop_k, kDrop_ok, kDrop_ex, dRet_k, kRet_ok, kRet_ex, dIfS_k, kIfS_t, kIfS_f, kIfS_ex, dSet_k, kSet_ok, kSet_ex, dAsg_k, kAsg_ok, kAsg_ex, kh_k, dAppend_k, kAp_k, kAp1_ok, kAp1_ex, kAp2_k, dAug_k, kAug_k, kAug1_ok, dSetItem_k, kSI_ok, kSI_ex, kSI1_k, kSI2_ok, kSI3_k, kSI4_k, dAugItem_k, kAI_k, kAI1_ok, kAI2_k, kAI3_k, kAI4_ok, kAI5_k, kAI6_k, dFor_k, kFor_ok, dComp_k, vComp_k, kCo_k, comp_nil, comp_cons, kc1_k, kc2_t, kc2_f, kc3_k, run_k, kRun_nx, kRun_rt, kRun_ex, hName_k, hNil_k, hCons_k, kH_k, hTup_k, gLt_int, gGt_int, gLe_int, gGe_int, gAdd_int, gMinus_int, gMul_int, gMod_int, gDiv_int, gIx_lst, gIx_tup, gIx_sc, gLen_lst, gLen_tup, gLen_sc, gAll_lst, gAny_lst, gSum_lst, isi_int_int, isi_int_bl, isi_bool_int, isi_bool_bl, isi_list_lst, isi_tuple_tup, isi_str_str, un_int, un_bl, un_str, un_non, un_sc, un_lst, un_tup, uns_nil, uns_cons, pl_int, pl_bl, pl_str, pl_non, pl_sc, pl_lst, pl_tup, pls_nil, pls_cons, ow_int, ow_bl, ow_str, ow_non, ow_lst, ow_tup, ows_nil, ows_cons, wipe_nil, wipe_cons, ints_nil, ints_cons, gBest_lst, gBest_tup, kBest_k, dKeep_k, vKeep_k, dCat_k, vCat1_k, vCat2_k, catD_k, dSorted_k, vSorted_k, sortD_k, dClear_k, kClr_k, dInsert_k, kIn_k, kIn1_ok, kIn2_ok, kIn3_k, tg_int, tg_bl, tg_str, tg_non, tg_tup, tgs_nil, tgs_cons, dRevT_k, vRevT_k, revTD_k, dRevL_k, vRevL_k, revLD_k, dTupOf_k, vTupOf_k, tupD_k, dCatM_k, vCatM1_k, vCatM2_k, catM_k, dTryB_k, kTry_nx, kTry_rt, kTry_ex, kTry2_k, isi_tuple_non, isi_tuple_lst, isi_int_lst, isi_int_str, isi_int_non, bls_nil, bls_cons, bnd_k, bigL0, bigL1, bigL2, bigL3, bigP0, bigP1, List.length_cons, List.length_nil, List.replicate, List.map_cons, List.map_nil, List.cons_append, List.nil_append, List.append_nil, List.getElem?_cons_zero, List.getElem?_cons_succ, List.set_cons_zero, List.set_cons_succ, Option.map_some, Option.map_none, Bool.not_true, Bool.not_false, if_true, Bool.false_eq_true, if_false, Nat.reduceAdd, Nat.reduceSub, Nat.reduceEqDiff, Bool.and_true, Bool.true_and, Bool.and_self, ite_true, ite_false, Nat.reduceLeDiff, reduceIte, reduceCtorEq, eq_self, decide_true, decide_false, not_true_eq_false, not_false_eq_true, Bool.false_and, Bool.and_false, Bool.or_false, Bool.false_or, Bool.true_or, Bool.or_true, it, g1, g2, hd, x0, x1, enc_un] at hr <;> exact ⟨_, .inl hr.symm, _, _, rfl⟩)
    refine ⟨_, .inl rfl, some (.int i), b, d, ?_⟩
    have e3 : (((pre ++ [i]).flatMap (row n)).length : Nat) = (pre.flatMap (row n)).length + ((List.range (n - (i + 1))).map (fun k => i + 1 + k)).length := by
      rw [List.flatMap_append, List.length_append]
      simp [row]
    rw [e3])
  simp only [kb_ok, kb_ex, kb_no, ret_k, lif_s, lif_n, dView_k, vView_k, dFlat_k, vFlat_int, vFlat_bl, vFlat_str, vFlat_non, dVar_k, kVar_k, dPk_k, kPk_k, dMv_k, kMv_k, dFrz_k, kFrz_k, dBin_k, vBin1_k, vBin2_k, dTest_k, vTest_k, dChain_k, vCh1_k, vCh2_k, vCh3_t, vCh3_f, dNot_k, vNot_k, dAnd_k, vAnd_t, vAnd_f, dOr_k, vOr_t, vOr_f, dAndV_k, vAndV_t, vAndV_f, dOrV_k, vOrV_t, vOrV_f, dNotV_k, vNotV_k, dIf_k, vIf_t, vIf_f, dCons_k, vCons1_k, vCons2_k, dTup_k, vTup_k, dLst_k, vLst_k, dCall_k, vCall_k, kc_rt, kc_ex, dItL_k, vItL_lst, vItL_sc, dItT_k, vItT_k, dRng1_k, vRng1_k, dRng2_k, vRng2_k, dCB_k, vCB_k, dIsi_k, vIsi_k, dListE_k, vListE_k, dListS_k, kLS_lst, dLRng1_k, vLRng1_k, dNeg_k, vNeg_k, dIxS_k, kIxS_k, vIxS_k, kIx2_lst, kIx2_tup, kIx2_sc, kIx3_k, dNx_k, dSeq_k, ks_nx, ks_rt, ks_bk, ks_ct, ks_ex, dDrop_k, kDrop_ok, kDrop_ex, dRet_k, kRet_ok, kRet_ex, dIfS_k, kIfS_t, kIfS_f, kIfS_ex, dSet_k, kSet_ok, kSet_ex, dAsg_k, kAsg_ok, kAsg_ex, kh_k, dAppend_k, kAp_k, kAp1_ok, kAp1_ex, kAp2_k, dAug_k, kAug_k, kAug1_ok, dSetItem_k, kSI_ok, kSI_ex, kSI1_k, kSI2_ok, kSI3_k, kSI4_k, dAugItem_k, kAI_k, kAI1_ok, kAI2_k, kAI3_k, kAI4_ok, kAI5_k, kAI6_k, dFor_k, kFor_ok, dComp_k, vComp_k, kCo_k, comp_nil, comp_cons, kc1_k, kc2_t, kc2_f, kc3_k, run_k, kRun_nx, kRun_rt, kRun_ex, hName_k, hNil_k, hCons_k, kH_k, hTup_k, gLt_int, gGt_int, gLe_int, gGe_int, gAdd_int, gMinus_int, gMul_int, gMod_int, gDiv_int, gIx_lst, gIx_tup, gIx_sc, gLen_lst, gLen_tup, gLen_sc, gAll_lst, gAny_lst, gSum_lst, isi_int_int, isi_int_bl, isi_bool_int, isi_bool_bl, isi_list_lst, isi_tuple_tup, isi_str_str, un_int, un_bl, un_str, un_non, un_sc, un_lst, un_tup, uns_nil, uns_cons, pl_int, pl_bl, pl_str, pl_non, pl_sc, pl_lst, pl_tup, pls_nil, pls_cons, ow_int, ow_bl, ow_str, ow_non, ow_lst, ow_tup, ows_nil, ows_cons, wipe_nil, wipe_cons, ints_nil, ints_cons, gBest_lst, gBest_tup, kBest_k, dKeep_k, vKeep_k, dCat_k, vCat1_k, vCat2_k, catD_k, dSorted_k, vSorted_k, sortD_k, dClear_k, kClr_k, dInsert_k, kIn_k, kIn1_ok, kIn2_ok, kIn3_k, tg_int, tg_bl, tg_str, tg_non, tg_tup, tgs_nil, tgs_cons, dRevT_k, vRevT_k, revTD_k, dRevL_k, vRevL_k, revLD_k, dTupOf_k, vTupOf_k, tupD_k, dCatM_k, vCatM1_k, vCatM2_k, catM_k, dTryB_k, kTry_nx, kTry_rt, kTry_ex, kTry2_k, isi_tuple_non, isi_tuple_lst, isi_int_lst, isi_int_str, isi_int_non, bls_nil, bls_cons, bnd_k, bigL0, bigL1, bigL2, bigL3, bigP0, bigP1, List.length_cons, List.length_nil, List.replicate, List.map_cons, List.map_nil, List.cons_append, List.nil_append, List.append_nil, List.getElem?_cons_zero, List.getElem?_cons_succ, List.set_cons_zero, List.set_cons_succ, Option.map_some, Option.map_none, Bool.not_true, Bool.not_false, if_true, Bool.false_eq_true, if_false, Nat.reduceAdd, Nat.reduceSub, Nat.reduceEqDiff, Bool.and_true, Bool.true_and, Bool.and_self, ite_true, ite_false, Nat.reduceLeDiff, reduceIte, reduceCtorEq, eq_self, decide_true, decide_false, not_true_eq_false, not_false_eq_true, Bool.false_and, Bool.and_false, Bool.or_false, Bool.false_or, Bool.true_or, Bool.or_true]
/-! ### a ring turned -/
def swp (p : Gm) : Gm := (p.2, p.1)
def flip (R : List Gm) (p : Gm) : Gm := if p ∈ R then swp p else p
theorem round_flip (w : Nat → Nat → Bool) (n : Nat) (R : List Gm) : ∃ w', (round w n).map (flip R) = round w' n := by
  refine ⟨fun i j => decide (flip R (side w (i, j)) = (i, j)), ?_⟩
  unfold round
  rw [List.map_map]
  apply List.map_congr_left
  rintro ⟨i, j⟩ hp
  obtain ⟨h1, h2⟩ := mem_pairs.1 hp
  simp only at h1
  have key : ∀ q : Gm, q = (i, j) ∨ q = (j, i) → q = if decide (q = (i, j)) = true then ((i, j) : Gm) else (j, i) := by
    rintro q (rfl | rfl)
    · simp
    · have : ¬ ((j, i) : Gm) = (i, j) := by
        intro e
        have := congrArg Prod.fst e
        simp at this
        omega
      simp [this]
  show flip R (side w (i, j)) = if decide (flip R (side w (i, j)) = (i, j)) = true then (i, j) else (j, i)
  apply key
  unfold flip side swp
  cases hw : w i j
  · simp only [Bool.false_eq_true, if_false]
    split
    · exact .inl rfl
    · exact .inr rfl
  · simp only [if_true]
    split
    · exact .inr rfl
    · exact .inl rfl
theorem wins_flip {gs R : List Gm} (nd : gs.Nodup) (ndR : R.Nodup) (sub : ∀ p ∈ R, p ∈ gs) (i : Nat) (h : R.countP (fun p => p.2 == i) = R.countP (fun p => p.1 == i)) : wins (gs.map (flip R)) i = wins gs i := by
  have pm : (gs.filter fun p => decide (p ∈ R)).Perm R := by
    rw [List.perm_ext_iff_of_nodup (List.Nodup.sublist List.filter_sublist nd) ndR]
    intro p
    simp only [List.mem_filter, decide_eq_true_eq]
    exact ⟨fun h => h.2, fun h => ⟨sub p h, h⟩⟩
  have split : ∀ (f : Gm → Bool) (l : List Gm), l.countP f = (l.filter fun p => decide (p ∈ R)).countP f + (l.filter fun p => !decide (p ∈ R)).countP f := by
    intro f l
    induction l with
    | nil => rfl
    | cons x xs ih =>
      by_cases hx : x ∈ R <;> simp only [List.filter_cons, hx, decide_true, decide_false, Bool.not_true, Bool.not_false, if_true, Bool.false_eq_true, if_false, List.countP_cons, ih] <;> omega
  unfold wins
  rw [List.countP_map, split _ gs, split (fun p => p.1 == i) gs, pm.countP_eq, pm.countP_eq]
  have e1 : R.countP ((fun p : Gm => p.1 == i) ∘ flip R) = R.countP fun p => p.2 == i := by
    apply List.countP_congr
    intro p hp
    simp [flip, hp, swp]
  have e2 : (gs.filter fun p => !decide (p ∈ R)).countP ((fun p : Gm => p.1 == i) ∘ flip R) = (gs.filter fun p => !decide (p ∈ R)).countP fun p => p.1 == i := by
    apply List.countP_congr
    intro p hp
    have := (List.mem_filter.1 hp).2
    simp at this
    simp [flip, this]
  rw [e1, e2, h]
end Sh

set_option Elab.async false
set_option linter.all false
set_option maxRecDepth 100000
namespace Kx
open L2 Ly Sh
def tri (a b c : Nat) : D := .tup [.int (a : Int), .int (b : Int), .int (c : Int)]
def ringOf (a b c : Nat) : List Gm := [(a, b), (b, c), (c, a)]
theorem rev_enc (p : Gm) : revTD (enc p) = some (enc (swp p)) := by
  unfold enc swp
  rfl
structure Ok (n : Nat) (gs : List Gm) : Prop where
  n1 : 1 ≤ n
  nT : n ≤ 10
  g : Gms n gs
  s : Srt gs
  l : gs.length ≤ 100000
  a : (gs.length : Int) = (n : Int) * ((n : Int) - 1) / 2
theorem ring_encs (a b c : Nat) : [D.tup [.int (a : Int), .int (b : Int)], D.tup [.int (b : Int), .int (c : Int)], D.tup [.int (c : Int), .int (a : Int)]] = encs (ringOf a b c) := rfl
theorem win_lt {n a : Nat} (h : a < n) : fd_within [.int (a : Int), .int 0, .int ((n : Int) - 1)] = some (.rt (.bl true)) := by
  rw [within_int]
  have h1 : decide ((0 : Int) ≤ (a : Int)) = true := by simp
  have h2 : decide ((a : Int) ≤ (n : Int) - 1) = true := by simp; omega
  rw [h1, h2]
  rfl
theorem turned_eq {n : Nat} {gs : List Gm} (k : Ok n gs) (o : Bool) {a b c : Nat} (ha : a < n) (hb : b < n) (hc : c < n) :
    fd_turned [.lst o (encs gs), .int n, tri a b c] = if ((ringOf a b c).all fun p => decide (p ∈ gs)) = true then some (.rt (.lst true (encs (gs.map (flip (ringOf a b c)))))) else some (.ex "BadTurn") := by
  have hgs := k.l
  unfold fd_turned dn_turned tri
  have t3 : (((0 + 1 + 1 + 1 : Nat) : Int) == 3) = true := rfl
  have all3 : [true, true, true].all id = true := rfl
  have rl3 : ((encs (ringOf a b c)).length ≤ big) = True := by rw [encs_len, big_val]; simp [ringOf]
  simp only [kb_ok, kb_ex, kb_no, ret_k, lif_s, lif_n, dView_k, vView_k, dFlat_k, vFlat_int, vFlat_bl, vFlat_str, vFlat_non, dVar_k, kVar_k, dPk_k, kPk_k, dMv_k, kMv_k, dFrz_k, kFrz_k, dBin_k, vBin1_k, vBin2_k, dTest_k, vTest_k, dChain_k, vCh1_k, vCh2_k, vCh3_t, vCh3_f, dNot_k, vNot_k, dAnd_k, vAnd_t, vAnd_f, dOr_k, vOr_t, vOr_f, dAndV_k, vAndV_t, vAndV_f, dOrV_k, vOrV_t, vOrV_f, dNotV_k, vNotV_k, dIf_k, vIf_t, vIf_f, dCons_k, vCons1_k, vCons2_k, dTup_k, vTup_k, dLst_k, vLst_k, dCall_k, vCall_k, kc_rt, kc_ex, dItL_k, vItL_lst, vItL_sc, dItT_k, vItT_k, dRng1_k, vRng1_k, dRng2_k, vRng2_k, dCB_k, vCB_k, dIsi_k, vIsi_k, dListE_k, vListE_k, dListS_k, kLS_lst, dLRng1_k, vLRng1_k, dNeg_k, vNeg_k, dIxS_k, kIxS_k, vIxS_k, kIx2_lst, kIx2_tup, kIx2_sc, kIx3_k, dNx_k, dSeq_k, ks_nx, ks_rt, ks_bk, ks_ct, ks_ex, dDrop_k, kDrop_ok, kDrop_ex, dRet_k, kRet_ok, kRet_ex, dIfS_k, kIfS_t, kIfS_f, kIfS_ex, dSet_k, kSet_ok, kSet_ex, dAsg_k, kAsg_ok, kAsg_ex, kh_k, dAppend_k, kAp_k, kAp1_ok, kAp1_ex, kAp2_k, dAug_k, kAug_k, kAug1_ok, dSetItem_k, kSI_ok, kSI_ex, kSI1_k, kSI2_ok, kSI3_k, kSI4_k, dAugItem_k, kAI_k, kAI1_ok, kAI2_k, kAI3_k, kAI4_ok, kAI5_k, kAI6_k, dFor_k, kFor_ok, dComp_k, vComp_k, kCo_k, comp_nil, comp_cons, kc1_k, kc2_t, kc2_f, kc3_k, run_k, kRun_nx, kRun_rt, kRun_ex, hName_k, hNil_k, hCons_k, kH_k, hTup_k, gLt_int, gGt_int, gLe_int, gGe_int, gAdd_int, gMinus_int, gMul_int, gMod_int, gDiv_int, gIx_lst, gIx_tup, gIx_sc, gLen_lst, gLen_tup, gLen_sc, gAll_lst, gAny_lst, gSum_lst, isi_int_int, isi_int_bl, isi_bool_int, isi_bool_bl, isi_list_lst, isi_tuple_tup, isi_str_str, un_int, un_bl, un_str, un_non, un_sc, un_lst, un_tup, uns_nil, uns_cons, pl_int, pl_bl, pl_str, pl_non, pl_sc, pl_lst, pl_tup, pls_nil, pls_cons, ow_int, ow_bl, ow_str, ow_non, ow_lst, ow_tup, ows_nil, ows_cons, wipe_nil, wipe_cons, ints_nil, ints_cons, gBest_lst, gBest_tup, kBest_k, dKeep_k, vKeep_k, dCat_k, vCat1_k, vCat2_k, catD_k, dSorted_k, vSorted_k, sortD_k, dClear_k, kClr_k, dInsert_k, kIn_k, kIn1_ok, kIn2_ok, kIn3_k, tg_int, tg_bl, tg_str, tg_non, tg_tup, tgs_nil, tgs_cons, dRevT_k, vRevT_k, revTD_k, dRevL_k, vRevL_k, revLD_k, dTupOf_k, vTupOf_k, tupD_k, dCatM_k, vCatM1_k, vCatM2_k, catM_k, dTryB_k, kTry_nx, kTry_rt, kTry_ex, kTry2_k, isi_tuple_non, isi_tuple_lst, isi_int_lst, isi_int_str, isi_int_non, bls_nil, bls_cons, bnd_k, bigL0, bigL1, bigL2, bigL3, bigP0, bigP1, bigL4, bigL5, bigL6, bigL7, bigL8, bigL9, bigL10, bigL11, bigL12, bigP2, bigP3, bigP4, bigP5, bigP6, bigP7, bigP8, bigP9, bigP10, bigP11, bigP12, List.length_cons, List.length_nil, List.replicate, List.map_cons, List.map_nil, List.cons_append, List.nil_append, List.append_nil, List.getElem?_cons_zero, List.getElem?_cons_succ, List.set_cons_zero, List.set_cons_succ, Option.map_some, Option.map_none, Bool.not_true, Bool.not_false, if_true, Bool.false_eq_true, if_false, Nat.reduceAdd, Nat.reduceSub, Nat.reduceEqDiff, Bool.and_true, Bool.true_and, Bool.and_self, ite_true, ite_false, Nat.reduceLeDiff, reduceIte, reduceCtorEq, eq_self, decide_true, decide_false, not_true_eq_false, not_false_eq_true, Bool.false_and, Bool.and_false, Bool.or_false, Bool.false_or, Bool.true_or, Bool.or_true, gEq_k, gNe_k, fit_int, fit_bl, fit_non, fit_lst8, fit_tup8, fits_nil, fits_cons, eqv_ii, eqv_bb, eqv_tt, eqv_ll, eqvs_nil, eqvs_cons, encs_un, check_round_ok gs _ n k.n1 k.nT k.g k.s k.l k.a, t3, win_lt ha, win_lt hb, win_lt hc, all3, rl3, ring_encs, encs_plain]
  generalize hC2 : comp _ _ _ _ _ _ _ = r2
  have q2 := comp_map_of hC2 enc (fun p => D.bl (decide (p ∈ gs))) (ringOf a b c) rfl rfl (by rw [big_val]; exact (by decide : 3 ≤ 16777216)) (by
    intro p hp
    refine ⟨_, rfl, fun r hr => ?_⟩
    simp only [kb_ok, kb_ex, kb_no, ret_k, lif_s, lif_n, dView_k, vView_k, dFlat_k, vFlat_int, vFlat_bl, vFlat_str, vFlat_non, dVar_k, kVar_k, dPk_k, kPk_k, dMv_k, kMv_k, dFrz_k, kFrz_k, dBin_k, vBin1_k, vBin2_k, dTest_k, vTest_k, dChain_k, vCh1_k, vCh2_k, vCh3_t, vCh3_f, dNot_k, vNot_k, dAnd_k, vAnd_t, vAnd_f, dOr_k, vOr_t, vOr_f, dAndV_k, vAndV_t, vAndV_f, dOrV_k, vOrV_t, vOrV_f, dNotV_k, vNotV_k, dIf_k, vIf_t, vIf_f, dCons_k, vCons1_k, vCons2_k, dTup_k, vTup_k, dLst_k, vLst_k, dCall_k, vCall_k, kc_rt, kc_ex, dItL_k, vItL_lst, vItL_sc, dItT_k, vItT_k, dRng1_k, vRng1_k, dRng2_k, vRng2_k, dCB_k, vCB_k, dIsi_k, vIsi_k, dListE_k, vListE_k, dListS_k, kLS_lst, dLRng1_k, vLRng1_k, dNeg_k, vNeg_k, dIxS_k, kIxS_k, vIxS_k, kIx2_lst, kIx2_tup, kIx2_sc, kIx3_k, dNx_k, dSeq_k, ks_nx, ks_rt, ks_bk, ks_ct, ks_ex, dDrop_k, kDrop_ok, kDrop_ex, dRet_k, kRet_ok, kRet_ex, dIfS_k, kIfS_t, kIfS_f, kIfS_ex, dSet_k, kSet_ok, kSet_ex, dAsg_k, kAsg_ok, kAsg_ex, kh_k, dAppend_k, kAp_k, kAp1_ok, kAp1_ex, kAp2_k, dAug_k, kAug_k, kAug1_ok, dSetItem_k, kSI_ok, kSI_ex, kSI1_k, kSI2_ok, kSI3_k, kSI4_k, dAugItem_k, kAI_k, kAI1_ok, kAI2_k, kAI3_k, kAI4_ok, kAI5_k, kAI6_k, dFor_k, kFor_ok, dComp_k, vComp_k, kCo_k, comp_nil, comp_cons, kc1_k, kc2_t, kc2_f, kc3_k, run_k, kRun_nx, kRun_rt, kRun_ex, hName_k, hNil_k, hCons_k, kH_k, hTup_k, gLt_int, gGt_int, gLe_int, gGe_int, gAdd_int, gMinus_int, gMul_int, gMod_int, gDiv_int, gIx_lst, gIx_tup, gIx_sc, gLen_lst, gLen_tup, gLen_sc, gAll_lst, gAny_lst, gSum_lst, isi_int_int, isi_int_bl, isi_bool_int, isi_bool_bl, isi_list_lst, isi_tuple_tup, isi_str_str, un_int, un_bl, un_str, un_non, un_sc, un_lst, un_tup, uns_nil, uns_cons, pl_int, pl_bl, pl_str, pl_non, pl_sc, pl_lst, pl_tup, pls_nil, pls_cons, ow_int, ow_bl, ow_str, ow_non, ow_lst, ow_tup, ows_nil, ows_cons, wipe_nil, wipe_cons, ints_nil, ints_cons, gBest_lst, gBest_tup, kBest_k, dKeep_k, vKeep_k, dCat_k, vCat1_k, vCat2_k, catD_k, dSorted_k, vSorted_k, sortD_k, dClear_k, kClr_k, dInsert_k, kIn_k, kIn1_ok, kIn2_ok, kIn3_k, tg_int, tg_bl, tg_str, tg_non, tg_tup, tgs_nil, tgs_cons, dRevT_k, vRevT_k, revTD_k, dRevL_k, vRevL_k, revLD_k, dTupOf_k, vTupOf_k, tupD_k, dCatM_k, vCatM1_k, vCatM2_k, catM_k, dTryB_k, kTry_nx, kTry_rt, kTry_ex, kTry2_k, isi_tuple_non, isi_tuple_lst, isi_int_lst, isi_int_str, isi_int_non, bls_nil, bls_cons, bnd_k, bigL0, bigL1, bigL2, bigL3, bigP0, bigP1, bigL4, bigL5, bigL6, bigL7, bigL8, bigL9, bigL10, bigL11, bigL12, bigP2, bigP3, bigP4, bigP5, bigP6, bigP7, bigP8, bigP9, bigP10, bigP11, bigP12, List.length_cons, List.length_nil, List.replicate, List.map_cons, List.map_nil, List.cons_append, List.nil_append, List.append_nil, List.getElem?_cons_zero, List.getElem?_cons_succ, List.set_cons_zero, List.set_cons_succ, Option.map_some, Option.map_none, Bool.not_true, Bool.not_false, if_true, Bool.false_eq_true, if_false, Nat.reduceAdd, Nat.reduceSub, Nat.reduceEqDiff, Bool.and_true, Bool.true_and, Bool.and_self, ite_true, ite_false, Nat.reduceLeDiff, reduceIte, reduceCtorEq, eq_self, decide_true, decide_false, not_true_eq_false, not_false_eq_true, Bool.false_and, Bool.and_false, Bool.or_false, Bool.false_or, Bool.true_or, Bool.or_true, enc_un, encs_un, gIn_enc] at hr
    exact ⟨_, hr.symm, rfl⟩)
  rw [q2]
  have e4 : (List.map (fun p => decide (p ∈ gs)) (ringOf a b c)).all id = (ringOf a b c).all fun p => decide (p ∈ gs) := by
    simp [List.all_map, Function.comp_def]
  simp only [kb_ok, kb_ex, kb_no, ret_k, lif_s, lif_n, dView_k, vView_k, dFlat_k, vFlat_int, vFlat_bl, vFlat_str, vFlat_non, dVar_k, kVar_k, dPk_k, kPk_k, dMv_k, kMv_k, dFrz_k, kFrz_k, dBin_k, vBin1_k, vBin2_k, dTest_k, vTest_k, dChain_k, vCh1_k, vCh2_k, vCh3_t, vCh3_f, dNot_k, vNot_k, dAnd_k, vAnd_t, vAnd_f, dOr_k, vOr_t, vOr_f, dAndV_k, vAndV_t, vAndV_f, dOrV_k, vOrV_t, vOrV_f, dNotV_k, vNotV_k, dIf_k, vIf_t, vIf_f, dCons_k, vCons1_k, vCons2_k, dTup_k, vTup_k, dLst_k, vLst_k, dCall_k, vCall_k, kc_rt, kc_ex, dItL_k, vItL_lst, vItL_sc, dItT_k, vItT_k, dRng1_k, vRng1_k, dRng2_k, vRng2_k, dCB_k, vCB_k, dIsi_k, vIsi_k, dListE_k, vListE_k, dListS_k, kLS_lst, dLRng1_k, vLRng1_k, dNeg_k, vNeg_k, dIxS_k, kIxS_k, vIxS_k, kIx2_lst, kIx2_tup, kIx2_sc, kIx3_k, dNx_k, dSeq_k, ks_nx, ks_rt, ks_bk, ks_ct, ks_ex, dDrop_k, kDrop_ok, kDrop_ex, dRet_k, kRet_ok, kRet_ex, dIfS_k, kIfS_t, kIfS_f, kIfS_ex, dSet_k, kSet_ok, kSet_ex, dAsg_k, kAsg_ok, kAsg_ex, kh_k, dAppend_k, kAp_k, kAp1_ok, kAp1_ex, kAp2_k, dAug_k, kAug_k, kAug1_ok, dSetItem_k, kSI_ok, kSI_ex, kSI1_k, kSI2_ok, kSI3_k, kSI4_k, dAugItem_k, kAI_k, kAI1_ok, kAI2_k, kAI3_k, kAI4_ok, kAI5_k, kAI6_k, dFor_k, kFor_ok, dComp_k, vComp_k, kCo_k, comp_nil, comp_cons, kc1_k, kc2_t, kc2_f, kc3_k, run_k, kRun_nx, kRun_rt, kRun_ex, hName_k, hNil_k, hCons_k, kH_k, hTup_k, gLt_int, gGt_int, gLe_int, gGe_int, gAdd_int, gMinus_int, gMul_int, gMod_int, gDiv_int, gIx_lst, gIx_tup, gIx_sc, gLen_lst, gLen_tup, gLen_sc, gAll_lst, gAny_lst, gSum_lst, isi_int_int, isi_int_bl, isi_bool_int, isi_bool_bl, isi_list_lst, isi_tuple_tup, isi_str_str, un_int, un_bl, un_str, un_non, un_sc, un_lst, un_tup, uns_nil, uns_cons, pl_int, pl_bl, pl_str, pl_non, pl_sc, pl_lst, pl_tup, pls_nil, pls_cons, ow_int, ow_bl, ow_str, ow_non, ow_lst, ow_tup, ows_nil, ows_cons, wipe_nil, wipe_cons, ints_nil, ints_cons, gBest_lst, gBest_tup, kBest_k, dKeep_k, vKeep_k, dCat_k, vCat1_k, vCat2_k, catD_k, dSorted_k, vSorted_k, sortD_k, dClear_k, kClr_k, dInsert_k, kIn_k, kIn1_ok, kIn2_ok, kIn3_k, tg_int, tg_bl, tg_str, tg_non, tg_tup, tgs_nil, tgs_cons, dRevT_k, vRevT_k, revTD_k, dRevL_k, vRevL_k, revLD_k, dTupOf_k, vTupOf_k, tupD_k, dCatM_k, vCatM1_k, vCatM2_k, catM_k, dTryB_k, kTry_nx, kTry_rt, kTry_ex, kTry2_k, isi_tuple_non, isi_tuple_lst, isi_int_lst, isi_int_str, isi_int_non, bls_nil, bls_cons, bnd_k, bigL0, bigL1, bigL2, bigL3, bigP0, bigP1, bigL4, bigL5, bigL6, bigL7, bigL8, bigL9, bigL10, bigL11, bigL12, bigP2, bigP3, bigP4, bigP5, bigP6, bigP7, bigP8, bigP9, bigP10, bigP11, bigP12, List.length_cons, List.length_nil, List.replicate, List.map_cons, List.map_nil, List.cons_append, List.nil_append, List.append_nil, List.getElem?_cons_zero, List.getElem?_cons_succ, List.set_cons_zero, List.set_cons_succ, Option.map_some, Option.map_none, Bool.not_true, Bool.not_false, if_true, Bool.false_eq_true, if_false, Nat.reduceAdd, Nat.reduceSub, Nat.reduceEqDiff, Bool.and_true, Bool.true_and, Bool.and_self, ite_true, ite_false, Nat.reduceLeDiff, reduceIte, reduceCtorEq, eq_self, decide_true, decide_false, not_true_eq_false, not_false_eq_true, Bool.false_and, Bool.and_false, Bool.or_false, Bool.false_or, Bool.true_or, Bool.or_true, bls_un, blsOf_all, e4]
  cases e5 : (ringOf a b c).all fun p => decide (p ∈ gs) with
  | false =>
    simp only [kb_ok, kb_ex, kb_no, ret_k, lif_s, lif_n, dView_k, vView_k, dFlat_k, vFlat_int, vFlat_bl, vFlat_str, vFlat_non, dVar_k, kVar_k, dPk_k, kPk_k, dMv_k, kMv_k, dFrz_k, kFrz_k, dBin_k, vBin1_k, vBin2_k, dTest_k, vTest_k, dChain_k, vCh1_k, vCh2_k, vCh3_t, vCh3_f, dNot_k, vNot_k, dAnd_k, vAnd_t, vAnd_f, dOr_k, vOr_t, vOr_f, dAndV_k, vAndV_t, vAndV_f, dOrV_k, vOrV_t, vOrV_f, dNotV_k, vNotV_k, dIf_k, vIf_t, vIf_f, dCons_k, vCons1_k, vCons2_k, dTup_k, vTup_k, dLst_k, vLst_k, dCall_k, vCall_k, kc_rt, kc_ex, dItL_k, vItL_lst, vItL_sc, dItT_k, vItT_k, dRng1_k, vRng1_k, dRng2_k, vRng2_k, dCB_k, vCB_k, dIsi_k, vIsi_k, dListE_k, vListE_k, dListS_k, kLS_lst, dLRng1_k, vLRng1_k, dNeg_k, vNeg_k, dIxS_k, kIxS_k, vIxS_k, kIx2_lst, kIx2_tup, kIx2_sc, kIx3_k, dNx_k, dSeq_k, ks_nx, ks_rt, ks_bk, ks_ct, ks_ex, dDrop_k, kDrop_ok, kDrop_ex, dRet_k, kRet_ok, kRet_ex, dIfS_k, kIfS_t, kIfS_f, kIfS_ex, dSet_k, kSet_ok, kSet_ex, dAsg_k, kAsg_ok, kAsg_ex, kh_k, dAppend_k, kAp_k, kAp1_ok, kAp1_ex, kAp2_k, dAug_k, kAug_k, kAug1_ok, dSetItem_k, kSI_ok, kSI_ex, kSI1_k, kSI2_ok, kSI3_k, kSI4_k, dAugItem_k, kAI_k, kAI1_ok, kAI2_k, kAI3_k, kAI4_ok, kAI5_k, kAI6_k, dFor_k, kFor_ok, dComp_k, vComp_k, kCo_k, comp_nil, comp_cons, kc1_k, kc2_t, kc2_f, kc3_k, run_k, kRun_nx, kRun_rt, kRun_ex, hName_k, hNil_k, hCons_k, kH_k, hTup_k, gLt_int, gGt_int, gLe_int, gGe_int, gAdd_int, gMinus_int, gMul_int, gMod_int, gDiv_int, gIx_lst, gIx_tup, gIx_sc, gLen_lst, gLen_tup, gLen_sc, gAll_lst, gAny_lst, gSum_lst, isi_int_int, isi_int_bl, isi_bool_int, isi_bool_bl, isi_list_lst, isi_tuple_tup, isi_str_str, un_int, un_bl, un_str, un_non, un_sc, un_lst, un_tup, uns_nil, uns_cons, pl_int, pl_bl, pl_str, pl_non, pl_sc, pl_lst, pl_tup, pls_nil, pls_cons, ow_int, ow_bl, ow_str, ow_non, ow_lst, ow_tup, ows_nil, ows_cons, wipe_nil, wipe_cons, ints_nil, ints_cons, gBest_lst, gBest_tup, kBest_k, dKeep_k, vKeep_k, dCat_k, vCat1_k, vCat2_k, catD_k, dSorted_k, vSorted_k, sortD_k, dClear_k, kClr_k, dInsert_k, kIn_k, kIn1_ok, kIn2_ok, kIn3_k, tg_int, tg_bl, tg_str, tg_non, tg_tup, tgs_nil, tgs_cons, dRevT_k, vRevT_k, revTD_k, dRevL_k, vRevL_k, revLD_k, dTupOf_k, vTupOf_k, tupD_k, dCatM_k, vCatM1_k, vCatM2_k, catM_k, dTryB_k, kTry_nx, kTry_rt, kTry_ex, kTry2_k, isi_tuple_non, isi_tuple_lst, isi_int_lst, isi_int_str, isi_int_non, bls_nil, bls_cons, bnd_k, bigL0, bigL1, bigL2, bigL3, bigP0, bigP1, bigL4, bigL5, bigL6, bigL7, bigL8, bigL9, bigL10, bigL11, bigL12, bigP2, bigP3, bigP4, bigP5, bigP6, bigP7, bigP8, bigP9, bigP10, bigP11, bigP12, List.length_cons, List.length_nil, List.replicate, List.map_cons, List.map_nil, List.cons_append, List.nil_append, List.append_nil, List.getElem?_cons_zero, List.getElem?_cons_succ, List.set_cons_zero, List.set_cons_succ, Option.map_some, Option.map_none, Bool.not_true, Bool.not_false, if_true, Bool.false_eq_true, if_false, Nat.reduceAdd, Nat.reduceSub, Nat.reduceEqDiff, Bool.and_true, Bool.true_and, Bool.and_self, ite_true, ite_false, Nat.reduceLeDiff, reduceIte, reduceCtorEq, eq_self, decide_true, decide_false, not_true_eq_false, not_false_eq_true, Bool.false_and, Bool.and_false, Bool.or_false, Bool.false_or, Bool.true_or, Bool.or_true, e5]
  | true =>
    simp only [kb_ok, kb_ex, kb_no, ret_k, lif_s, lif_n, dView_k, vView_k, dFlat_k, vFlat_int, vFlat_bl, vFlat_str, vFlat_non, dVar_k, kVar_k, dPk_k, kPk_k, dMv_k, kMv_k, dFrz_k, kFrz_k, dBin_k, vBin1_k, vBin2_k, dTest_k, vTest_k, dChain_k, vCh1_k, vCh2_k, vCh3_t, vCh3_f, dNot_k, vNot_k, dAnd_k, vAnd_t, vAnd_f, dOr_k, vOr_t, vOr_f, dAndV_k, vAndV_t, vAndV_f, dOrV_k, vOrV_t, vOrV_f, dNotV_k, vNotV_k, dIf_k, vIf_t, vIf_f, dCons_k, vCons1_k, vCons2_k, dTup_k, vTup_k, dLst_k, vLst_k, dCall_k, vCall_k, kc_rt, kc_ex, dItL_k, vItL_lst, vItL_sc, dItT_k, vItT_k, dRng1_k, vRng1_k, dRng2_k, vRng2_k, dCB_k, vCB_k, dIsi_k, vIsi_k, dListE_k, vListE_k, dListS_k, kLS_lst, dLRng1_k, vLRng1_k, dNeg_k, vNeg_k, dIxS_k, kIxS_k, vIxS_k, kIx2_lst, kIx2_tup, kIx2_sc, kIx3_k, dNx_k, dSeq_k, ks_nx, ks_rt, ks_bk, ks_ct, ks_ex, dDrop_k, kDrop_ok, kDrop_ex, dRet_k, kRet_ok, kRet_ex, dIfS_k, kIfS_t, kIfS_f, kIfS_ex, dSet_k, kSet_ok, kSet_ex, dAsg_k, kAsg_ok, kAsg_ex, kh_k, dAppend_k, kAp_k, kAp1_ok, kAp1_ex, kAp2_k, dAug_k, kAug_k, kAug1_ok, dSetItem_k, kSI_ok, kSI_ex, kSI1_k, kSI2_ok, kSI3_k, kSI4_k, dAugItem_k, kAI_k, kAI1_ok, kAI2_k, kAI3_k, kAI4_ok, kAI5_k, kAI6_k, dFor_k, kFor_ok, dComp_k, vComp_k, kCo_k, comp_nil, comp_cons, kc1_k, kc2_t, kc2_f, kc3_k, run_k, kRun_nx, kRun_rt, kRun_ex, hName_k, hNil_k, hCons_k, kH_k, hTup_k, gLt_int, gGt_int, gLe_int, gGe_int, gAdd_int, gMinus_int, gMul_int, gMod_int, gDiv_int, gIx_lst, gIx_tup, gIx_sc, gLen_lst, gLen_tup, gLen_sc, gAll_lst, gAny_lst, gSum_lst, isi_int_int, isi_int_bl, isi_bool_int, isi_bool_bl, isi_list_lst, isi_tuple_tup, isi_str_str, un_int, un_bl, un_str, un_non, un_sc, un_lst, un_tup, uns_nil, uns_cons, pl_int, pl_bl, pl_str, pl_non, pl_sc, pl_lst, pl_tup, pls_nil, pls_cons, ow_int, ow_bl, ow_str, ow_non, ow_lst, ow_tup, ows_nil, ows_cons, wipe_nil, wipe_cons, ints_nil, ints_cons, gBest_lst, gBest_tup, kBest_k, dKeep_k, vKeep_k, dCat_k, vCat1_k, vCat2_k, catD_k, dSorted_k, vSorted_k, sortD_k, dClear_k, kClr_k, dInsert_k, kIn_k, kIn1_ok, kIn2_ok, kIn3_k, tg_int, tg_bl, tg_str, tg_non, tg_tup, tgs_nil, tgs_cons, dRevT_k, vRevT_k, revTD_k, dRevL_k, vRevL_k, revLD_k, dTupOf_k, vTupOf_k, tupD_k, dCatM_k, vCatM1_k, vCatM2_k, catM_k, dTryB_k, kTry_nx, kTry_rt, kTry_ex, kTry2_k, isi_tuple_non, isi_tuple_lst, isi_int_lst, isi_int_str, isi_int_non, bls_nil, bls_cons, bnd_k, bigL0, bigL1, bigL2, bigL3, bigP0, bigP1, bigL4, bigL5, bigL6, bigL7, bigL8, bigL9, bigL10, bigL11, bigL12, bigP2, bigP3, bigP4, bigP5, bigP6, bigP7, bigP8, bigP9, bigP10, bigP11, bigP12, List.length_cons, List.length_nil, List.replicate, List.map_cons, List.map_nil, List.cons_append, List.nil_append, List.append_nil, List.getElem?_cons_zero, List.getElem?_cons_succ, List.set_cons_zero, List.set_cons_succ, Option.map_some, Option.map_none, Bool.not_true, Bool.not_false, if_true, Bool.false_eq_true, if_false, Nat.reduceAdd, Nat.reduceSub, Nat.reduceEqDiff, Bool.and_true, Bool.true_and, Bool.and_self, ite_true, ite_false, Nat.reduceLeDiff, reduceIte, reduceCtorEq, eq_self, decide_true, decide_false, not_true_eq_false, not_false_eq_true, Bool.false_and, Bool.and_false, Bool.or_false, Bool.false_or, Bool.true_or, Bool.or_true, e5, encs_un, encs_plain]
    generalize hC3 : comp _ _ _ _ _ _ _ = r3
    have q3 := comp_map_of hC3 enc (fun p => enc (flip (ringOf a b c) p)) gs rfl rfl (by rw [big_val]; omega) (by
      intro p hp
      refine ⟨_, rfl, fun r hr => ?_⟩
      simp only [kb_ok, kb_ex, kb_no, ret_k, lif_s, lif_n, dView_k, vView_k, dFlat_k, vFlat_int, vFlat_bl, vFlat_str, vFlat_non, dVar_k, kVar_k, dPk_k, kPk_k, dMv_k, kMv_k, dFrz_k, kFrz_k, dBin_k, vBin1_k, vBin2_k, dTest_k, vTest_k, dChain_k, vCh1_k, vCh2_k, vCh3_t, vCh3_f, dNot_k, vNot_k, dAnd_k, vAnd_t, vAnd_f, dOr_k, vOr_t, vOr_f, dAndV_k, vAndV_t, vAndV_f, dOrV_k, vOrV_t, vOrV_f, dNotV_k, vNotV_k, dIf_k, vIf_t, vIf_f, dCons_k, vCons1_k, vCons2_k, dTup_k, vTup_k, dLst_k, vLst_k, dCall_k, vCall_k, kc_rt, kc_ex, dItL_k, vItL_lst, vItL_sc, dItT_k, vItT_k, dRng1_k, vRng1_k, dRng2_k, vRng2_k, dCB_k, vCB_k, dIsi_k, vIsi_k, dListE_k, vListE_k, dListS_k, kLS_lst, dLRng1_k, vLRng1_k, dNeg_k, vNeg_k, dIxS_k, kIxS_k, vIxS_k, kIx2_lst, kIx2_tup, kIx2_sc, kIx3_k, dNx_k, dSeq_k, ks_nx, ks_rt, ks_bk, ks_ct, ks_ex, dDrop_k, kDrop_ok, kDrop_ex, dRet_k, kRet_ok, kRet_ex, dIfS_k, kIfS_t, kIfS_f, kIfS_ex, dSet_k, kSet_ok, kSet_ex, dAsg_k, kAsg_ok, kAsg_ex, kh_k, dAppend_k, kAp_k, kAp1_ok, kAp1_ex, kAp2_k, dAug_k, kAug_k, kAug1_ok, dSetItem_k, kSI_ok, kSI_ex, kSI1_k, kSI2_ok, kSI3_k, kSI4_k, dAugItem_k, kAI_k, kAI1_ok, kAI2_k, kAI3_k, kAI4_ok, kAI5_k, kAI6_k, dFor_k, kFor_ok, dComp_k, vComp_k, kCo_k, comp_nil, comp_cons, kc1_k, kc2_t, kc2_f, kc3_k, run_k, kRun_nx, kRun_rt, kRun_ex, hName_k, hNil_k, hCons_k, kH_k, hTup_k, gLt_int, gGt_int, gLe_int, gGe_int, gAdd_int, gMinus_int, gMul_int, gMod_int, gDiv_int, gIx_lst, gIx_tup, gIx_sc, gLen_lst, gLen_tup, gLen_sc, gAll_lst, gAny_lst, gSum_lst, isi_int_int, isi_int_bl, isi_bool_int, isi_bool_bl, isi_list_lst, isi_tuple_tup, isi_str_str, un_int, un_bl, un_str, un_non, un_sc, un_lst, un_tup, uns_nil, uns_cons, pl_int, pl_bl, pl_str, pl_non, pl_sc, pl_lst, pl_tup, pls_nil, pls_cons, ow_int, ow_bl, ow_str, ow_non, ow_lst, ow_tup, ows_nil, ows_cons, wipe_nil, wipe_cons, ints_nil, ints_cons, gBest_lst, gBest_tup, kBest_k, dKeep_k, vKeep_k, dCat_k, vCat1_k, vCat2_k, catD_k, dSorted_k, vSorted_k, sortD_k, dClear_k, kClr_k, dInsert_k, kIn_k, kIn1_ok, kIn2_ok, kIn3_k, tg_int, tg_bl, tg_str, tg_non, tg_tup, tgs_nil, tgs_cons, dRevT_k, vRevT_k, revTD_k, dRevL_k, vRevL_k, revLD_k, dTupOf_k, vTupOf_k, tupD_k, dCatM_k, vCatM1_k, vCatM2_k, catM_k, dTryB_k, kTry_nx, kTry_rt, kTry_ex, kTry2_k, isi_tuple_non, isi_tuple_lst, isi_int_lst, isi_int_str, isi_int_non, bls_nil, bls_cons, bnd_k, bigL0, bigL1, bigL2, bigL3, bigP0, bigP1, bigL4, bigL5, bigL6, bigL7, bigL8, bigL9, bigL10, bigL11, bigL12, bigP2, bigP3, bigP4, bigP5, bigP6, bigP7, bigP8, bigP9, bigP10, bigP11, bigP12, List.length_cons, List.length_nil, List.replicate, List.map_cons, List.map_nil, List.cons_append, List.nil_append, List.append_nil, List.getElem?_cons_zero, List.getElem?_cons_succ, List.set_cons_zero, List.set_cons_succ, Option.map_some, Option.map_none, Bool.not_true, Bool.not_false, if_true, Bool.false_eq_true, if_false, Nat.reduceAdd, Nat.reduceSub, Nat.reduceEqDiff, Bool.and_true, Bool.true_and, Bool.and_self, ite_true, ite_false, Nat.reduceLeDiff, reduceIte, reduceCtorEq, eq_self, decide_true, decide_false, not_true_eq_false, not_false_eq_true, Bool.false_and, Bool.and_false, Bool.or_false, Bool.false_or, Bool.true_or, Bool.or_true, enc_un, encs_un, gIn_enc] at hr
      cases e6 : decide (p ∈ ringOf a b c) with
      | true =>
        have e7 : flip (ringOf a b c) p = swp p := if_pos (by simpa using e6)
        simp only [kb_ok, kb_ex, kb_no, ret_k, lif_s, lif_n, dView_k, vView_k, dFlat_k, vFlat_int, vFlat_bl, vFlat_str, vFlat_non, dVar_k, kVar_k, dPk_k, kPk_k, dMv_k, kMv_k, dFrz_k, kFrz_k, dBin_k, vBin1_k, vBin2_k, dTest_k, vTest_k, dChain_k, vCh1_k, vCh2_k, vCh3_t, vCh3_f, dNot_k, vNot_k, dAnd_k, vAnd_t, vAnd_f, dOr_k, vOr_t, vOr_f, dAndV_k, vAndV_t, vAndV_f, dOrV_k, vOrV_t, vOrV_f, dNotV_k, vNotV_k, dIf_k, vIf_t, vIf_f, dCons_k, vCons1_k, vCons2_k, dTup_k, vTup_k, dLst_k, vLst_k, dCall_k, vCall_k, kc_rt, kc_ex, dItL_k, vItL_lst, vItL_sc, dItT_k, vItT_k, dRng1_k, vRng1_k, dRng2_k, vRng2_k, dCB_k, vCB_k, dIsi_k, vIsi_k, dListE_k, vListE_k, dListS_k, kLS_lst, dLRng1_k, vLRng1_k, dNeg_k, vNeg_k, dIxS_k, kIxS_k, vIxS_k, kIx2_lst, kIx2_tup, kIx2_sc, kIx3_k, dNx_k, dSeq_k, ks_nx, ks_rt, ks_bk, ks_ct, ks_ex, dDrop_k, kDrop_ok, kDrop_ex, dRet_k, kRet_ok, kRet_ex, dIfS_k, kIfS_t, kIfS_f, kIfS_ex, dSet_k, kSet_ok, kSet_ex, dAsg_k, kAsg_ok, kAsg_ex, kh_k, dAppend_k, kAp_k, kAp1_ok, kAp1_ex, kAp2_k, dAug_k, kAug_k, kAug1_ok, dSetItem_k, kSI_ok, kSI_ex, kSI1_k, kSI2_ok, kSI3_k, kSI4_k, dAugItem_k, kAI_k, kAI1_ok, kAI2_k, kAI3_k, kAI4_ok, kAI5_k, kAI6_k, dFor_k, kFor_ok, dComp_k, vComp_k, kCo_k, comp_nil, comp_cons, kc1_k, kc2_t, kc2_f, kc3_k, run_k, kRun_nx, kRun_rt, kRun_ex, hName_k, hNil_k, hCons_k, kH_k, hTup_k, gLt_int, gGt_int, gLe_int, gGe_int, gAdd_int, gMinus_int, gMul_int, gMod_int, gDiv_int, gIx_lst, gIx_tup, gIx_sc, gLen_lst, gLen_tup, gLen_sc, gAll_lst, gAny_lst, gSum_lst, isi_int_int, isi_int_bl, isi_bool_int, isi_bool_bl, isi_list_lst, isi_tuple_tup, isi_str_str, un_int, un_bl, un_str, un_non, un_sc, un_lst, un_tup, uns_nil, uns_cons, pl_int, pl_bl, pl_str, pl_non, pl_sc, pl_lst, pl_tup, pls_nil, pls_cons, ow_int, ow_bl, ow_str, ow_non, ow_lst, ow_tup, ows_nil, ows_cons, wipe_nil, wipe_cons, ints_nil, ints_cons, gBest_lst, gBest_tup, kBest_k, dKeep_k, vKeep_k, dCat_k, vCat1_k, vCat2_k, catD_k, dSorted_k, vSorted_k, sortD_k, dClear_k, kClr_k, dInsert_k, kIn_k, kIn1_ok, kIn2_ok, kIn3_k, tg_int, tg_bl, tg_str, tg_non, tg_tup, tgs_nil, tgs_cons, dRevT_k, vRevT_k, revTD_k, dRevL_k, vRevL_k, revLD_k, dTupOf_k, vTupOf_k, tupD_k, dCatM_k, vCatM1_k, vCatM2_k, catM_k, dTryB_k, kTry_nx, kTry_rt, kTry_ex, kTry2_k, isi_tuple_non, isi_tuple_lst, isi_int_lst, isi_int_str, isi_int_non, bls_nil, bls_cons, bnd_k, bigL0, bigL1, bigL2, bigL3, bigP0, bigP1, bigL4, bigL5, bigL6, bigL7, bigL8, bigL9, bigL10, bigL11, bigL12, bigP2, bigP3, bigP4, bigP5, bigP6, bigP7, bigP8, bigP9, bigP10, bigP11, bigP12, List.length_cons, List.length_nil, List.replicate, List.map_cons, List.map_nil, List.cons_append, List.nil_append, List.append_nil, List.getElem?_cons_zero, List.getElem?_cons_succ, List.set_cons_zero, List.set_cons_succ, Option.map_some, Option.map_none, Bool.not_true, Bool.not_false, if_true, Bool.false_eq_true, if_false, Nat.reduceAdd, Nat.reduceSub, Nat.reduceEqDiff, Bool.and_true, Bool.true_and, Bool.and_self, ite_true, ite_false, Nat.reduceLeDiff, reduceIte, reduceCtorEq, eq_self, decide_true, decide_false, not_true_eq_false, not_false_eq_true, Bool.false_and, Bool.and_false, Bool.or_false, Bool.false_or, Bool.true_or, Bool.or_true, e6, enc_un, rev_enc] at hr
        rw [e7]
        exact ⟨_, hr.symm, rfl⟩
      | false =>
        have e7 : flip (ringOf a b c) p = p := if_neg (by simpa using e6)
        simp only [kb_ok, kb_ex, kb_no, ret_k, lif_s, lif_n, dView_k, vView_k, dFlat_k, vFlat_int, vFlat_bl, vFlat_str, vFlat_non, dVar_k, kVar_k, dPk_k, kPk_k, dMv_k, kMv_k, dFrz_k, kFrz_k, dBin_k, vBin1_k, vBin2_k, dTest_k, vTest_k, dChain_k, vCh1_k, vCh2_k, vCh3_t, vCh3_f, dNot_k, vNot_k, dAnd_k, vAnd_t, vAnd_f, dOr_k, vOr_t, vOr_f, dAndV_k, vAndV_t, vAndV_f, dOrV_k, vOrV_t, vOrV_f, dNotV_k, vNotV_k, dIf_k, vIf_t, vIf_f, dCons_k, vCons1_k, vCons2_k, dTup_k, vTup_k, dLst_k, vLst_k, dCall_k, vCall_k, kc_rt, kc_ex, dItL_k, vItL_lst, vItL_sc, dItT_k, vItT_k, dRng1_k, vRng1_k, dRng2_k, vRng2_k, dCB_k, vCB_k, dIsi_k, vIsi_k, dListE_k, vListE_k, dListS_k, kLS_lst, dLRng1_k, vLRng1_k, dNeg_k, vNeg_k, dIxS_k, kIxS_k, vIxS_k, kIx2_lst, kIx2_tup, kIx2_sc, kIx3_k, dNx_k, dSeq_k, ks_nx, ks_rt, ks_bk, ks_ct, ks_ex, dDrop_k, kDrop_ok, kDrop_ex, dRet_k, kRet_ok, kRet_ex, dIfS_k, kIfS_t, kIfS_f, kIfS_ex, dSet_k, kSet_ok, kSet_ex, dAsg_k, kAsg_ok, kAsg_ex, kh_k, dAppend_k, kAp_k, kAp1_ok, kAp1_ex, kAp2_k, dAug_k, kAug_k, kAug1_ok, dSetItem_k, kSI_ok, kSI_ex, kSI1_k, kSI2_ok, kSI3_k, kSI4_k, dAugItem_k, kAI_k, kAI1_ok, kAI2_k, kAI3_k, kAI4_ok, kAI5_k, kAI6_k, dFor_k, kFor_ok, dComp_k, vComp_k, kCo_k, comp_nil, comp_cons, kc1_k, kc2_t, kc2_f, kc3_k, run_k, kRun_nx, kRun_rt, kRun_ex, hName_k, hNil_k, hCons_k, kH_k, hTup_k, gLt_int, gGt_int, gLe_int, gGe_int, gAdd_int, gMinus_int, gMul_int, gMod_int, gDiv_int, gIx_lst, gIx_tup, gIx_sc, gLen_lst, gLen_tup, gLen_sc, gAll_lst, gAny_lst, gSum_lst, isi_int_int, isi_int_bl, isi_bool_int, isi_bool_bl, isi_list_lst, isi_tuple_tup, isi_str_str, un_int, un_bl, un_str, un_non, un_sc, un_lst, un_tup, uns_nil, uns_cons, pl_int, pl_bl, pl_str, pl_non, pl_sc, pl_lst, pl_tup, pls_nil, pls_cons, ow_int, ow_bl, ow_str, ow_non, ow_lst, ow_tup, ows_nil, ows_cons, wipe_nil, wipe_cons, ints_nil, ints_cons, gBest_lst, gBest_tup, kBest_k, dKeep_k, vKeep_k, dCat_k, vCat1_k, vCat2_k, catD_k, dSorted_k, vSorted_k, sortD_k, dClear_k, kClr_k, dInsert_k, kIn_k, kIn1_ok, kIn2_ok, kIn3_k, tg_int, tg_bl, tg_str, tg_non, tg_tup, tgs_nil, tgs_cons, dRevT_k, vRevT_k, revTD_k, dRevL_k, vRevL_k, revLD_k, dTupOf_k, vTupOf_k, tupD_k, dCatM_k, vCatM1_k, vCatM2_k, catM_k, dTryB_k, kTry_nx, kTry_rt, kTry_ex, kTry2_k, isi_tuple_non, isi_tuple_lst, isi_int_lst, isi_int_str, isi_int_non, bls_nil, bls_cons, bnd_k, bigL0, bigL1, bigL2, bigL3, bigP0, bigP1, bigL4, bigL5, bigL6, bigL7, bigL8, bigL9, bigL10, bigL11, bigL12, bigP2, bigP3, bigP4, bigP5, bigP6, bigP7, bigP8, bigP9, bigP10, bigP11, bigP12, List.length_cons, List.length_nil, List.replicate, List.map_cons, List.map_nil, List.cons_append, List.nil_append, List.append_nil, List.getElem?_cons_zero, List.getElem?_cons_succ, List.set_cons_zero, List.set_cons_succ, Option.map_some, Option.map_none, Bool.not_true, Bool.not_false, if_true, Bool.false_eq_true, if_false, Nat.reduceAdd, Nat.reduceSub, Nat.reduceEqDiff, Bool.and_true, Bool.true_and, Bool.and_self, ite_true, ite_false, Nat.reduceLeDiff, reduceIte, reduceCtorEq, eq_self, decide_true, decide_false, not_true_eq_false, not_false_eq_true, Bool.false_and, Bool.and_false, Bool.or_false, Bool.false_or, Bool.true_or, Bool.or_true, e6, enc_plain] at hr
        rw [e7]
        exact ⟨_, hr.symm, rfl⟩)
    rw [q3]
    simp only [kb_ok, kb_ex, kb_no, ret_k, lif_s, lif_n, dView_k, vView_k, dFlat_k, vFlat_int, vFlat_bl, vFlat_str, vFlat_non, dVar_k, kVar_k, dPk_k, kPk_k, dMv_k, kMv_k, dFrz_k, kFrz_k, dBin_k, vBin1_k, vBin2_k, dTest_k, vTest_k, dChain_k, vCh1_k, vCh2_k, vCh3_t, vCh3_f, dNot_k, vNot_k, dAnd_k, vAnd_t, vAnd_f, dOr_k, vOr_t, vOr_f, dAndV_k, vAndV_t, vAndV_f, dOrV_k, vOrV_t, vOrV_f, dNotV_k, vNotV_k, dIf_k, vIf_t, vIf_f, dCons_k, vCons1_k, vCons2_k, dTup_k, vTup_k, dLst_k, vLst_k, dCall_k, vCall_k, kc_rt, kc_ex, dItL_k, vItL_lst, vItL_sc, dItT_k, vItT_k, dRng1_k, vRng1_k, dRng2_k, vRng2_k, dCB_k, vCB_k, dIsi_k, vIsi_k, dListE_k, vListE_k, dListS_k, kLS_lst, dLRng1_k, vLRng1_k, dNeg_k, vNeg_k, dIxS_k, kIxS_k, vIxS_k, kIx2_lst, kIx2_tup, kIx2_sc, kIx3_k, dNx_k, dSeq_k, ks_nx, ks_rt, ks_bk, ks_ct, ks_ex, dDrop_k, kDrop_ok, kDrop_ex, dRet_k, kRet_ok, kRet_ex, dIfS_k, kIfS_t, kIfS_f, kIfS_ex, dSet_k, kSet_ok, kSet_ex, dAsg_k, kAsg_ok, kAsg_ex, kh_k, dAppend_k, kAp_k, kAp1_ok, kAp1_ex, kAp2_k, dAug_k, kAug_k, kAug1_ok, dSetItem_k, kSI_ok, kSI_ex, kSI1_k, kSI2_ok, kSI3_k, kSI4_k, dAugItem_k, kAI_k, kAI1_ok, kAI2_k, kAI3_k, kAI4_ok, kAI5_k, kAI6_k, dFor_k, kFor_ok, dComp_k, vComp_k, kCo_k, comp_nil, comp_cons, kc1_k, kc2_t, kc2_f, kc3_k, run_k, kRun_nx, kRun_rt, kRun_ex, hName_k, hNil_k, hCons_k, kH_k, hTup_k, gLt_int, gGt_int, gLe_int, gGe_int, gAdd_int, gMinus_int, gMul_int, gMod_int, gDiv_int, gIx_lst, gIx_tup, gIx_sc, gLen_lst, gLen_tup, gLen_sc, gAll_lst, gAny_lst, gSum_lst, isi_int_int, isi_int_bl, isi_bool_int, isi_bool_bl, isi_list_lst, isi_tuple_tup, isi_str_str, un_int, un_bl, un_str, un_non, un_sc, un_lst, un_tup, uns_nil, uns_cons, pl_int, pl_bl, pl_str, pl_non, pl_sc, pl_lst, pl_tup, pls_nil, pls_cons, ow_int, ow_bl, ow_str, ow_non, ow_lst, ow_tup, ows_nil, ows_cons, wipe_nil, wipe_cons, ints_nil, ints_cons, gBest_lst, gBest_tup, kBest_k, dKeep_k, vKeep_k, dCat_k, vCat1_k, vCat2_k, catD_k, dSorted_k, vSorted_k, sortD_k, dClear_k, kClr_k, dInsert_k, kIn_k, kIn1_ok, kIn2_ok, kIn3_k, tg_int, tg_bl, tg_str, tg_non, tg_tup, tgs_nil, tgs_cons, dRevT_k, vRevT_k, revTD_k, dRevL_k, vRevL_k, revLD_k, dTupOf_k, vTupOf_k, tupD_k, dCatM_k, vCatM1_k, vCatM2_k, catM_k, dTryB_k, kTry_nx, kTry_rt, kTry_ex, kTry2_k, isi_tuple_non, isi_tuple_lst, isi_int_lst, isi_int_str, isi_int_non, bls_nil, bls_cons, bnd_k, bigL0, bigL1, bigL2, bigL3, bigP0, bigP1, bigL4, bigL5, bigL6, bigL7, bigL8, bigL9, bigL10, bigL11, bigL12, bigP2, bigP3, bigP4, bigP5, bigP6, bigP7, bigP8, bigP9, bigP10, bigP11, bigP12, List.length_cons, List.length_nil, List.replicate, List.map_cons, List.map_nil, List.cons_append, List.nil_append, List.append_nil, List.getElem?_cons_zero, List.getElem?_cons_succ, List.set_cons_zero, List.set_cons_succ, Option.map_some, Option.map_none, Bool.not_true, Bool.not_false, if_true, Bool.false_eq_true, if_false, Nat.reduceAdd, Nat.reduceSub, Nat.reduceEqDiff, Bool.and_true, Bool.true_and, Bool.and_self, ite_true, ite_false, Nat.reduceLeDiff, reduceIte, reduceCtorEq, eq_self, decide_true, decide_false, not_true_eq_false, not_false_eq_true, Bool.false_and, Bool.and_false, Bool.or_false, Bool.false_or, Bool.true_or, Bool.or_true]
    simp [encs, Function.comp_def]
theorem refused_of {gs : List Gm} {n : Nat} {t : D} {o : Bool} (h : fd_turned [.lst false (encs gs), .int n, t.un] = some (.ex "BadTurn")) : fd_l_refused [.lst o (encs gs), .int n, t] = some (.rt (.bl true)) := by
  unfold fd_l_refused dn_l_refused
  simp only [kb_ok, kb_ex, kb_no, ret_k, lif_s, lif_n, dView_k, vView_k, dFlat_k, vFlat_int, vFlat_bl, vFlat_str, vFlat_non, dVar_k, kVar_k, dPk_k, kPk_k, dMv_k, kMv_k, dFrz_k, kFrz_k, dBin_k, vBin1_k, vBin2_k, dTest_k, vTest_k, dChain_k, vCh1_k, vCh2_k, vCh3_t, vCh3_f, dNot_k, vNot_k, dAnd_k, vAnd_t, vAnd_f, dOr_k, vOr_t, vOr_f, dAndV_k, vAndV_t, vAndV_f, dOrV_k, vOrV_t, vOrV_f, dNotV_k, vNotV_k, dIf_k, vIf_t, vIf_f, dCons_k, vCons1_k, vCons2_k, dTup_k, vTup_k, dLst_k, vLst_k, dCall_k, vCall_k, kc_rt, kc_ex, dItL_k, vItL_lst, vItL_sc, dItT_k, vItT_k, dRng1_k, vRng1_k, dRng2_k, vRng2_k, dCB_k, vCB_k, dIsi_k, vIsi_k, dListE_k, vListE_k, dListS_k, kLS_lst, dLRng1_k, vLRng1_k, dNeg_k, vNeg_k, dIxS_k, kIxS_k, vIxS_k, kIx2_lst, kIx2_tup, kIx2_sc, kIx3_k, dNx_k, dSeq_k, ks_nx, ks_rt, ks_bk, ks_ct, ks_ex, dDrop_k, kDrop_ok, kDrop_ex, dRet_k, kRet_ok, kRet_ex, dIfS_k, kIfS_t, kIfS_f, kIfS_ex, dSet_k, kSet_ok, kSet_ex, dAsg_k, kAsg_ok, kAsg_ex, kh_k, dAppend_k, kAp_k, kAp1_ok, kAp1_ex, kAp2_k, dAug_k, kAug_k, kAug1_ok, dSetItem_k, kSI_ok, kSI_ex, kSI1_k, kSI2_ok, kSI3_k, kSI4_k, dAugItem_k, kAI_k, kAI1_ok, kAI2_k, kAI3_k, kAI4_ok, kAI5_k, kAI6_k, dFor_k, kFor_ok, dComp_k, vComp_k, kCo_k, comp_nil, comp_cons, kc1_k, kc2_t, kc2_f, kc3_k, run_k, kRun_nx, kRun_rt, kRun_ex, hName_k, hNil_k, hCons_k, kH_k, hTup_k, gLt_int, gGt_int, gLe_int, gGe_int, gAdd_int, gMinus_int, gMul_int, gMod_int, gDiv_int, gIx_lst, gIx_tup, gIx_sc, gLen_lst, gLen_tup, gLen_sc, gAll_lst, gAny_lst, gSum_lst, isi_int_int, isi_int_bl, isi_bool_int, isi_bool_bl, isi_list_lst, isi_tuple_tup, isi_str_str, un_int, un_bl, un_str, un_non, un_sc, un_lst, un_tup, uns_nil, uns_cons, pl_int, pl_bl, pl_str, pl_non, pl_sc, pl_lst, pl_tup, pls_nil, pls_cons, ow_int, ow_bl, ow_str, ow_non, ow_lst, ow_tup, ows_nil, ows_cons, wipe_nil, wipe_cons, ints_nil, ints_cons, gBest_lst, gBest_tup, kBest_k, dKeep_k, vKeep_k, dCat_k, vCat1_k, vCat2_k, catD_k, dSorted_k, vSorted_k, sortD_k, dClear_k, kClr_k, dInsert_k, kIn_k, kIn1_ok, kIn2_ok, kIn3_k, tg_int, tg_bl, tg_str, tg_non, tg_tup, tgs_nil, tgs_cons, dRevT_k, vRevT_k, revTD_k, dRevL_k, vRevL_k, revLD_k, dTupOf_k, vTupOf_k, tupD_k, dCatM_k, vCatM1_k, vCatM2_k, catM_k, dTryB_k, kTry_nx, kTry_rt, kTry_ex, kTry2_k, isi_tuple_non, isi_tuple_lst, isi_int_lst, isi_int_str, isi_int_non, bls_nil, bls_cons, bnd_k, bigL0, bigL1, bigL2, bigL3, bigP0, bigP1, bigL4, bigL5, bigL6, bigL7, bigL8, bigL9, bigL10, bigL11, bigL12, bigP2, bigP3, bigP4, bigP5, bigP6, bigP7, bigP8, bigP9, bigP10, bigP11, bigP12, List.length_cons, List.length_nil, List.replicate, List.map_cons, List.map_nil, List.cons_append, List.nil_append, List.append_nil, List.getElem?_cons_zero, List.getElem?_cons_succ, List.set_cons_zero, List.set_cons_succ, Option.map_some, Option.map_none, Bool.not_true, Bool.not_false, if_true, Bool.false_eq_true, if_false, Nat.reduceAdd, Nat.reduceSub, Nat.reduceEqDiff, Bool.and_true, Bool.true_and, Bool.and_self, ite_true, ite_false, Nat.reduceLeDiff, reduceIte, reduceCtorEq, eq_self, decide_true, decide_false, not_true_eq_false, not_false_eq_true, Bool.false_and, Bool.and_false, Bool.or_false, Bool.false_or, Bool.true_or, Bool.or_true, encs_un, h]
  simp
  simp only [kb_ok, kb_ex, kb_no, ret_k, lif_s, lif_n, dView_k, vView_k, dFlat_k, vFlat_int, vFlat_bl, vFlat_str, vFlat_non, dVar_k, kVar_k, dPk_k, kPk_k, dMv_k, kMv_k, dFrz_k, kFrz_k, dBin_k, vBin1_k, vBin2_k, dTest_k, vTest_k, dChain_k, vCh1_k, vCh2_k, vCh3_t, vCh3_f, dNot_k, vNot_k, dAnd_k, vAnd_t, vAnd_f, dOr_k, vOr_t, vOr_f, dAndV_k, vAndV_t, vAndV_f, dOrV_k, vOrV_t, vOrV_f, dNotV_k, vNotV_k, dIf_k, vIf_t, vIf_f, dCons_k, vCons1_k, vCons2_k, dTup_k, vTup_k, dLst_k, vLst_k, dCall_k, vCall_k, kc_rt, kc_ex, dItL_k, vItL_lst, vItL_sc, dItT_k, vItT_k, dRng1_k, vRng1_k, dRng2_k, vRng2_k, dCB_k, vCB_k, dIsi_k, vIsi_k, dListE_k, vListE_k, dListS_k, kLS_lst, dLRng1_k, vLRng1_k, dNeg_k, vNeg_k, dIxS_k, kIxS_k, vIxS_k, kIx2_lst, kIx2_tup, kIx2_sc, kIx3_k, dNx_k, dSeq_k, ks_nx, ks_rt, ks_bk, ks_ct, ks_ex, dDrop_k, kDrop_ok, kDrop_ex, dRet_k, kRet_ok, kRet_ex, dIfS_k, kIfS_t, kIfS_f, kIfS_ex, dSet_k, kSet_ok, kSet_ex, dAsg_k, kAsg_ok, kAsg_ex, kh_k, dAppend_k, kAp_k, kAp1_ok, kAp1_ex, kAp2_k, dAug_k, kAug_k, kAug1_ok, dSetItem_k, kSI_ok, kSI_ex, kSI1_k, kSI2_ok, kSI3_k, kSI4_k, dAugItem_k, kAI_k, kAI1_ok, kAI2_k, kAI3_k, kAI4_ok, kAI5_k, kAI6_k, dFor_k, kFor_ok, dComp_k, vComp_k, kCo_k, comp_nil, comp_cons, kc1_k, kc2_t, kc2_f, kc3_k, run_k, kRun_nx, kRun_rt, kRun_ex, hName_k, hNil_k, hCons_k, kH_k, hTup_k, gLt_int, gGt_int, gLe_int, gGe_int, gAdd_int, gMinus_int, gMul_int, gMod_int, gDiv_int, gIx_lst, gIx_tup, gIx_sc, gLen_lst, gLen_tup, gLen_sc, gAll_lst, gAny_lst, gSum_lst, isi_int_int, isi_int_bl, isi_bool_int, isi_bool_bl, isi_list_lst, isi_tuple_tup, isi_str_str, un_int, un_bl, un_str, un_non, un_sc, un_lst, un_tup, uns_nil, uns_cons, pl_int, pl_bl, pl_str, pl_non, pl_sc, pl_lst, pl_tup, pls_nil, pls_cons, ow_int, ow_bl, ow_str, ow_non, ow_lst, ow_tup, ows_nil, ows_cons, wipe_nil, wipe_cons, ints_nil, ints_cons, gBest_lst, gBest_tup, kBest_k, dKeep_k, vKeep_k, dCat_k, vCat1_k, vCat2_k, catD_k, dSorted_k, vSorted_k, sortD_k, dClear_k, kClr_k, dInsert_k, kIn_k, kIn1_ok, kIn2_ok, kIn3_k, tg_int, tg_bl, tg_str, tg_non, tg_tup, tgs_nil, tgs_cons, dRevT_k, vRevT_k, revTD_k, dRevL_k, vRevL_k, revLD_k, dTupOf_k, vTupOf_k, tupD_k, dCatM_k, vCatM1_k, vCatM2_k, catM_k, dTryB_k, kTry_nx, kTry_rt, kTry_ex, kTry2_k, isi_tuple_non, isi_tuple_lst, isi_int_lst, isi_int_str, isi_int_non, bls_nil, bls_cons, bnd_k, bigL0, bigL1, bigL2, bigL3, bigP0, bigP1, bigL4, bigL5, bigL6, bigL7, bigL8, bigL9, bigL10, bigL11, bigL12, bigP2, bigP3, bigP4, bigP5, bigP6, bigP7, bigP8, bigP9, bigP10, bigP11, bigP12, List.length_cons, List.length_nil, List.replicate, List.map_cons, List.map_nil, List.cons_append, List.nil_append, List.append_nil, List.getElem?_cons_zero, List.getElem?_cons_succ, List.set_cons_zero, List.set_cons_succ, Option.map_some, Option.map_none, Bool.not_true, Bool.not_false, if_true, Bool.false_eq_true, if_false, Nat.reduceAdd, Nat.reduceSub, Nat.reduceEqDiff, Bool.and_true, Bool.true_and, Bool.and_self, ite_true, ite_false, Nat.reduceLeDiff, reduceIte, reduceCtorEq, eq_self, decide_true, decide_false, not_true_eq_false, not_false_eq_true, Bool.false_and, Bool.and_false, Bool.or_false, Bool.false_or, Bool.true_or, Bool.or_true]
abbrev Tr := Nat × Nat × Nat
def enc3 (t : Tr) : D := tri t.1 t.2.1 t.2.2
theorem enc3_plain (t : Tr) : (enc3 t).plain = true := rfl
theorem enc3_fit (t : Tr) : (enc3 t).fit 7 = true := rfl
theorem e3_fit : ∀ T : List Tr, fits 7 (T.map enc3) = true
  | [] => rfl
  | t :: T => by rw [List.map, fits_cons, enc3_fit, e3_fit T]; rfl
theorem enc3_un (t : Tr) : (enc3 t).un = enc3 t := rfl
theorem e3_un : ∀ T : List Tr, uns (T.map enc3) = T.map enc3
  | [] => rfl
  | t :: T => by rw [List.map, uns_cons, enc3_un, e3_un T]
theorem enc3_rev (t : Tr) : revTD (enc3 t) = some (enc3 (t.2.2, t.2.1, t.1)) := rfl
theorem snoc3 (T : List Tr) (a b c : Nat) : T.map enc3 ++ [D.tup [.int (a : Int), .int (b : Int), .int (c : Int)]] = (T ++ [(a, b, c)]).map enc3 := by
  rw [List.map_append]
  rfl
def Low (n : Nat) (T : List Tr) : Prop := ∀ t ∈ T, t.1 < n ∧ t.2.1 < n ∧ t.2.2 < n
theorem turn_by_eq {n : Nat} {gs : List Gm} (k : Ok n gs) (o : Bool) (cell : Int) : ∃ t : Tr, (t.1 < n ∧ t.2.1 < n ∧ t.2.2 < n) ∧ fd_l_turn_by [.lst o (encs gs), .int n, .int cell] = some (.rt (enc3 t)) := by
  have hb : b62 (n : Int) = true := b62_small (by have := k.nT; omega)
  have hb3 : b62 3 = true := by decide
  have hgs := k.l
  have hn := k.nT
  have hn1 := k.n1
  have p4 : (0 : Int) < 4 := by decide
  have q4 : (4 : Int) < 1073741824 := by decide
  have key : ∃ T : List Tr, Low n T ∧ T.length ≤ gs.length * n ∧ ∃ a b c : Option D, dFor (dItL (dFrz 0)) (hTup (hCons (hName 4) (hCons (hName 5) hNil))) (dFor (dRng1 (dCons (dPk 1) (ret []))) (hName 6) (dIfS (dAnd (dTest (dBin gIn (dView (dTup (dCons (dVar 5) (dCons (dVar 6) (ret []))))) (dPk 0))) (dTest (dBin gIn (dView (dTup (dCons (dVar 6) (dCons (dVar 4) (ret []))))) (dPk 0)))) (dAppend 3 (dTup (dCons (dVar 4) (dCons (dVar 5) (dCons (dVar 6) (ret [])))))) dNx))
      [some (.lst o (encs gs)), some (.int n), some (.int cell), some (.lst true []), none, none, none, none, none] = some (.nx [some (.lst false (encs gs)), some (.int n), some (.int cell), some (.lst true (T.map enc3)), a, b, c, none, none]) := by
    simp only [kb_ok, kb_ex, kb_no, ret_k, lif_s, lif_n, dView_k, vView_k, dFlat_k, vFlat_int, vFlat_bl, vFlat_str, vFlat_non, dVar_k, kVar_k, dPk_k, kPk_k, dMv_k, kMv_k, dFrz_k, kFrz_k, dBin_k, vBin1_k, vBin2_k, dTest_k, vTest_k, dChain_k, vCh1_k, vCh2_k, vCh3_t, vCh3_f, dNot_k, vNot_k, dAnd_k, vAnd_t, vAnd_f, dOr_k, vOr_t, vOr_f, dAndV_k, vAndV_t, vAndV_f, dOrV_k, vOrV_t, vOrV_f, dNotV_k, vNotV_k, dIf_k, vIf_t, vIf_f, dCons_k, vCons1_k, vCons2_k, dTup_k, vTup_k, dLst_k, vLst_k, dCall_k, vCall_k, kc_rt, kc_ex, dItL_k, vItL_lst, vItL_sc, dItT_k, vItT_k, dRng1_k, vRng1_k, dRng2_k, vRng2_k, dCB_k, vCB_k, dIsi_k, vIsi_k, dListE_k, vListE_k, dListS_k, kLS_lst, dLRng1_k, vLRng1_k, dNeg_k, vNeg_k, dIxS_k, kIxS_k, vIxS_k, kIx2_lst, kIx2_tup, kIx2_sc, kIx3_k, dNx_k, dSeq_k, ks_nx, ks_rt, ks_bk, ks_ct, ks_ex, dDrop_k, kDrop_ok, kDrop_ex, dRet_k, kRet_ok, kRet_ex, dIfS_k, kIfS_t, kIfS_f, kIfS_ex, dSet_k, kSet_ok, kSet_ex, dAsg_k, kAsg_ok, kAsg_ex, kh_k, dAppend_k, kAp_k, kAp1_ok, kAp1_ex, kAp2_k, dAug_k, kAug_k, kAug1_ok, dSetItem_k, kSI_ok, kSI_ex, kSI1_k, kSI2_ok, kSI3_k, kSI4_k, dAugItem_k, kAI_k, kAI1_ok, kAI2_k, kAI3_k, kAI4_ok, kAI5_k, kAI6_k, dFor_k, kFor_ok, dComp_k, vComp_k, kCo_k, comp_nil, comp_cons, kc1_k, kc2_t, kc2_f, kc3_k, run_k, kRun_nx, kRun_rt, kRun_ex, hName_k, hNil_k, hCons_k, kH_k, hTup_k, gLt_int, gGt_int, gLe_int, gGe_int, gAdd_int, gMinus_int, gMul_int, gMod_int, gDiv_int, gIx_lst, gIx_tup, gIx_sc, gLen_lst, gLen_tup, gLen_sc, gAll_lst, gAny_lst, gSum_lst, isi_int_int, isi_int_bl, isi_bool_int, isi_bool_bl, isi_list_lst, isi_tuple_tup, isi_str_str, un_int, un_bl, un_str, un_non, un_sc, un_lst, un_tup, uns_nil, uns_cons, pl_int, pl_bl, pl_str, pl_non, pl_sc, pl_lst, pl_tup, pls_nil, pls_cons, ow_int, ow_bl, ow_str, ow_non, ow_lst, ow_tup, ows_nil, ows_cons, wipe_nil, wipe_cons, ints_nil, ints_cons, gBest_lst, gBest_tup, kBest_k, dKeep_k, vKeep_k, dCat_k, vCat1_k, vCat2_k, catD_k, dSorted_k, vSorted_k, sortD_k, dClear_k, kClr_k, dInsert_k, kIn_k, kIn1_ok, kIn2_ok, kIn3_k, tg_int, tg_bl, tg_str, tg_non, tg_tup, tgs_nil, tgs_cons, dRevT_k, vRevT_k, revTD_k, dRevL_k, vRevL_k, revLD_k, dTupOf_k, vTupOf_k, tupD_k, dCatM_k, vCatM1_k, vCatM2_k, catM_k, dTryB_k, kTry_nx, kTry_rt, kTry_ex, kTry2_k, isi_tuple_non, isi_tuple_lst, isi_int_lst, isi_int_str, isi_int_non, bls_nil, bls_cons, bnd_k, bigL0, bigL1, bigL2, bigL3, bigP0, bigP1, bigL4, bigL5, bigL6, bigL7, bigL8, bigL9, bigL10, bigL11, bigL12, bigP2, bigP3, bigP4, bigP5, bigP6, bigP7, bigP8, bigP9, bigP10, bigP11, bigP12, List.length_cons, List.length_nil, List.replicate, List.map_cons, List.map_nil, List.cons_append, List.nil_append, List.append_nil, List.getElem?_cons_zero, List.getElem?_cons_succ, List.set_cons_zero, List.set_cons_succ, Option.map_some, Option.map_none, Bool.not_true, Bool.not_false, if_true, Bool.false_eq_true, if_false, Nat.reduceAdd, Nat.reduceSub, Nat.reduceEqDiff, Bool.and_true, Bool.true_and, Bool.and_self, ite_true, ite_false, Nat.reduceLeDiff, reduceIte, reduceCtorEq, eq_self, decide_true, decide_false, not_true_eq_false, not_false_eq_true, Bool.false_and, Bool.and_false, Bool.or_false, Bool.false_or, Bool.true_or, Bool.or_true, encs_un, encs_plain]
    generalize hL : loop _ _ _ _ = r
    obtain ⟨ρ', rfl, T, lT, hT, a, b, c, rfl⟩ := loop_inv_of hL enc gs (fun pre ρ => ∃ T : List Tr, Low n T ∧ T.length ≤ pre.length * n ∧ ∃ a b c : Option D, ρ = [some (.lst false (encs gs)), some (.int n), some (.int cell), some (.lst true (T.map enc3)), a, b, c, none, none]) rfl ⟨[], (show Low n [] from fun _ h => by cases h), Nat.zero_le _, none, none, none, rfl⟩ (by
      rintro pre p post hg ρ ⟨T, lT, hT, a, b, c, rfl⟩
      have hpre : pre.length < gs.length := by rw [hg]; simp
      obtain ⟨p1, p2⟩ := k.g.inn p (by rw [hg]; simp)
      refine ⟨_, rfl, fun r hr => ?_⟩
      simp only [kb_ok, kb_ex, kb_no, ret_k, lif_s, lif_n, dView_k, vView_k, dFlat_k, vFlat_int, vFlat_bl, vFlat_str, vFlat_non, dVar_k, kVar_k, dPk_k, kPk_k, dMv_k, kMv_k, dFrz_k, kFrz_k, dBin_k, vBin1_k, vBin2_k, dTest_k, vTest_k, dChain_k, vCh1_k, vCh2_k, vCh3_t, vCh3_f, dNot_k, vNot_k, dAnd_k, vAnd_t, vAnd_f, dOr_k, vOr_t, vOr_f, dAndV_k, vAndV_t, vAndV_f, dOrV_k, vOrV_t, vOrV_f, dNotV_k, vNotV_k, dIf_k, vIf_t, vIf_f, dCons_k, vCons1_k, vCons2_k, dTup_k, vTup_k, dLst_k, vLst_k, dCall_k, vCall_k, kc_rt, kc_ex, dItL_k, vItL_lst, vItL_sc, dItT_k, vItT_k, dRng1_k, vRng1_k, dRng2_k, vRng2_k, dCB_k, vCB_k, dIsi_k, vIsi_k, dListE_k, vListE_k, dListS_k, kLS_lst, dLRng1_k, vLRng1_k, dNeg_k, vNeg_k, dIxS_k, kIxS_k, vIxS_k, kIx2_lst, kIx2_tup, kIx2_sc, kIx3_k, dNx_k, dSeq_k, ks_nx, ks_rt, ks_bk, ks_ct, ks_ex, dDrop_k, kDrop_ok, kDrop_ex, dRet_k, kRet_ok, kRet_ex, dIfS_k, kIfS_t, kIfS_f, kIfS_ex, dSet_k, kSet_ok, kSet_ex, dAsg_k, kAsg_ok, kAsg_ex, kh_k, dAppend_k, kAp_k, kAp1_ok, kAp1_ex, kAp2_k, dAug_k, kAug_k, kAug1_ok, dSetItem_k, kSI_ok, kSI_ex, kSI1_k, kSI2_ok, kSI3_k, kSI4_k, dAugItem_k, kAI_k, kAI1_ok, kAI2_k, kAI3_k, kAI4_ok, kAI5_k, kAI6_k, dFor_k, kFor_ok, dComp_k, vComp_k, kCo_k, comp_nil, comp_cons, kc1_k, kc2_t, kc2_f, kc3_k, run_k, kRun_nx, kRun_rt, kRun_ex, hName_k, hNil_k, hCons_k, kH_k, hTup_k, gLt_int, gGt_int, gLe_int, gGe_int, gAdd_int, gMinus_int, gMul_int, gMod_int, gDiv_int, gIx_lst, gIx_tup, gIx_sc, gLen_lst, gLen_tup, gLen_sc, gAll_lst, gAny_lst, gSum_lst, isi_int_int, isi_int_bl, isi_bool_int, isi_bool_bl, isi_list_lst, isi_tuple_tup, isi_str_str, un_int, un_bl, un_str, un_non, un_sc, un_lst, un_tup, uns_nil, uns_cons, pl_int, pl_bl, pl_str, pl_non, pl_sc, pl_lst, pl_tup, pls_nil, pls_cons, ow_int, ow_bl, ow_str, ow_non, ow_lst, ow_tup, ows_nil, ows_cons, wipe_nil, wipe_cons, ints_nil, ints_cons, gBest_lst, gBest_tup, kBest_k, dKeep_k, vKeep_k, dCat_k, vCat1_k, vCat2_k, catD_k, dSorted_k, vSorted_k, sortD_k, dClear_k, kClr_k, dInsert_k, kIn_k, kIn1_ok, kIn2_ok, kIn3_k, tg_int, tg_bl, tg_str, tg_non, tg_tup, tgs_nil, tgs_cons, dRevT_k, vRevT_k, revTD_k, dRevL_k, vRevL_k, revLD_k, dTupOf_k, vTupOf_k, tupD_k, dCatM_k, vCatM1_k, vCatM2_k, catM_k, dTryB_k, kTry_nx, kTry_rt, kTry_ex, kTry2_k, isi_tuple_non, isi_tuple_lst, isi_int_lst, isi_int_str, isi_int_non, bls_nil, bls_cons, bnd_k, bigL0, bigL1, bigL2, bigL3, bigP0, bigP1, bigL4, bigL5, bigL6, bigL7, bigL8, bigL9, bigL10, bigL11, bigL12, bigP2, bigP3, bigP4, bigP5, bigP6, bigP7, bigP8, bigP9, bigP10, bigP11, bigP12, List.length_cons, List.length_nil, List.replicate, List.map_cons, List.map_nil, List.cons_append, List.nil_append, List.append_nil, List.getElem?_cons_zero, List.getElem?_cons_succ, List.set_cons_zero, List.set_cons_succ, Option.map_some, Option.map_none, Bool.not_true, Bool.not_false, if_true, Bool.false_eq_true, if_false, Nat.reduceAdd, Nat.reduceSub, Nat.reduceEqDiff, Bool.and_true, Bool.true_and, Bool.and_self, ite_true, ite_false, Nat.reduceLeDiff, reduceIte, reduceCtorEq, eq_self, decide_true, decide_false, not_true_eq_false, not_false_eq_true, Bool.false_and, Bool.and_false, Bool.or_false, Bool.false_or, Bool.true_or, Bool.or_true, hb, Int.toNat_natCast, rngD0] at hr
      obtain ⟨ρ', rfl, T', lT', hT', c', rfl⟩ := loop_inv_of hr (fun k : Nat => D.int k) (List.range n) (fun pre2 ρ => ∃ T : List Tr, Low n T ∧ T.length ≤ pre.length * n + pre2.length ∧ ∃ c : Option D, ρ = [some (.lst false (encs gs)), some (.int n), some (.int cell), some (.lst true (T.map enc3)), some (.int p.1), some (.int p.2), c, none, none]) rfl ⟨T, lT, by simpa using hT, c, rfl⟩ (by
        rintro pre2 x post2 hx ρ ⟨T, lT, hT, c, rfl⟩
        have hxn : x < n := by
          have : x ∈ List.range n := by rw [hx]; simp
          simpa using this
        have hp2 : pre2.length < n := by
          have := congrArg List.length hx
          simp at this
          omega
        have bnd : pre.length * n ≤ 100000 * 10 := Nat.mul_le_mul (by omega) hn
        have hz : (T.map enc3).length < big := by rw [List.length_map, big_val]; omega
        refine ⟨_, rfl, fun r hr => ?_⟩
        simp only [kb_ok, kb_ex, kb_no, ret_k, lif_s, lif_n, dView_k, vView_k, dFlat_k, vFlat_int, vFlat_bl, vFlat_str, vFlat_non, dVar_k, kVar_k, dPk_k, kPk_k, dMv_k, kMv_k, dFrz_k, kFrz_k, dBin_k, vBin1_k, vBin2_k, dTest_k, vTest_k, dChain_k, vCh1_k, vCh2_k, vCh3_t, vCh3_f, dNot_k, vNot_k, dAnd_k, vAnd_t, vAnd_f, dOr_k, vOr_t, vOr_f, dAndV_k, vAndV_t, vAndV_f, dOrV_k, vOrV_t, vOrV_f, dNotV_k, vNotV_k, dIf_k, vIf_t, vIf_f, dCons_k, vCons1_k, vCons2_k, dTup_k, vTup_k, dLst_k, vLst_k, dCall_k, vCall_k, kc_rt, kc_ex, dItL_k, vItL_lst, vItL_sc, dItT_k, vItT_k, dRng1_k, vRng1_k, dRng2_k, vRng2_k, dCB_k, vCB_k, dIsi_k, vIsi_k, dListE_k, vListE_k, dListS_k, kLS_lst, dLRng1_k, vLRng1_k, dNeg_k, vNeg_k, dIxS_k, kIxS_k, vIxS_k, kIx2_lst, kIx2_tup, kIx2_sc, kIx3_k, dNx_k, dSeq_k, ks_nx, ks_rt, ks_bk, ks_ct, ks_ex, dDrop_k, kDrop_ok, kDrop_ex, dRet_k, kRet_ok, kRet_ex, dIfS_k, kIfS_t, kIfS_f, kIfS_ex, dSet_k, kSet_ok, kSet_ex, dAsg_k, kAsg_ok, kAsg_ex, kh_k, dAppend_k, kAp_k, kAp1_ok, kAp1_ex, kAp2_k, dAug_k, kAug_k, kAug1_ok, dSetItem_k, kSI_ok, kSI_ex, kSI1_k, kSI2_ok, kSI3_k, kSI4_k, dAugItem_k, kAI_k, kAI1_ok, kAI2_k, kAI3_k, kAI4_ok, kAI5_k, kAI6_k, dFor_k, kFor_ok, dComp_k, vComp_k, kCo_k, comp_nil, comp_cons, kc1_k, kc2_t, kc2_f, kc3_k, run_k, kRun_nx, kRun_rt, kRun_ex, hName_k, hNil_k, hCons_k, kH_k, hTup_k, gLt_int, gGt_int, gLe_int, gGe_int, gAdd_int, gMinus_int, gMul_int, gMod_int, gDiv_int, gIx_lst, gIx_tup, gIx_sc, gLen_lst, gLen_tup, gLen_sc, gAll_lst, gAny_lst, gSum_lst, isi_int_int, isi_int_bl, isi_bool_int, isi_bool_bl, isi_list_lst, isi_tuple_tup, isi_str_str, un_int, un_bl, un_str, un_non, un_sc, un_lst, un_tup, uns_nil, uns_cons, pl_int, pl_bl, pl_str, pl_non, pl_sc, pl_lst, pl_tup, pls_nil, pls_cons, ow_int, ow_bl, ow_str, ow_non, ow_lst, ow_tup, ows_nil, ows_cons, wipe_nil, wipe_cons, ints_nil, ints_cons, gBest_lst, gBest_tup, kBest_k, dKeep_k, vKeep_k, dCat_k, vCat1_k, vCat2_k, catD_k, dSorted_k, vSorted_k, sortD_k, dClear_k, kClr_k, dInsert_k, kIn_k, kIn1_ok, kIn2_ok, kIn3_k, tg_int, tg_bl, tg_str, tg_non, tg_tup, tgs_nil, tgs_cons, dRevT_k, vRevT_k, revTD_k, dRevL_k, vRevL_k, revLD_k, dTupOf_k, vTupOf_k, tupD_k, dCatM_k, vCatM1_k, vCatM2_k, catM_k, dTryB_k, kTry_nx, kTry_rt, kTry_ex, kTry2_k, isi_tuple_non, isi_tuple_lst, isi_int_lst, isi_int_str, isi_int_non, bls_nil, bls_cons, bnd_k, bigL0, bigL1, bigL2, bigL3, bigP0, bigP1, bigL4, bigL5, bigL6, bigL7, bigL8, bigL9, bigL10, bigL11, bigL12, bigP2, bigP3, bigP4, bigP5, bigP6, bigP7, bigP8, bigP9, bigP10, bigP11, bigP12, List.length_cons, List.length_nil, List.replicate, List.map_cons, List.map_nil, List.cons_append, List.nil_append, List.append_nil, List.getElem?_cons_zero, List.getElem?_cons_succ, List.set_cons_zero, List.set_cons_succ, Option.map_some, Option.map_none, Bool.not_true, Bool.not_false, if_true, Bool.false_eq_true, if_false, Nat.reduceAdd, Nat.reduceSub, Nat.reduceEqDiff, Bool.and_true, Bool.true_and, Bool.and_self, ite_true, ite_false, Nat.reduceLeDiff, reduceIte, reduceCtorEq, eq_self, decide_true, decide_false, not_true_eq_false, not_false_eq_true, Bool.false_and, Bool.and_false, Bool.or_false, Bool.false_or, Bool.true_or, Bool.or_true, encs_un, gIn_encs] at hr
        cases e1 : decide ((p.2, x) ∈ gs) with
        | false =>
          simp only [kb_ok, kb_ex, kb_no, ret_k, lif_s, lif_n, dView_k, vView_k, dFlat_k, vFlat_int, vFlat_bl, vFlat_str, vFlat_non, dVar_k, kVar_k, dPk_k, kPk_k, dMv_k, kMv_k, dFrz_k, kFrz_k, dBin_k, vBin1_k, vBin2_k, dTest_k, vTest_k, dChain_k, vCh1_k, vCh2_k, vCh3_t, vCh3_f, dNot_k, vNot_k, dAnd_k, vAnd_t, vAnd_f, dOr_k, vOr_t, vOr_f, dAndV_k, vAndV_t, vAndV_f, dOrV_k, vOrV_t, vOrV_f, dNotV_k, vNotV_k, dIf_k, vIf_t, vIf_f, dCons_k, vCons1_k, vCons2_k, dTup_k, vTup_k, dLst_k, vLst_k, dCall_k, vCall_k, kc_rt, kc_ex, dItL_k, vItL_lst, vItL_sc, dItT_k, vItT_k, dRng1_k, vRng1_k, dRng2_k, vRng2_k, dCB_k, vCB_k, dIsi_k, vIsi_k, dListE_k, vListE_k, dListS_k, kLS_lst, dLRng1_k, vLRng1_k, dNeg_k, vNeg_k, dIxS_k, kIxS_k, vIxS_k, kIx2_lst, kIx2_tup, kIx2_sc, kIx3_k, dNx_k, dSeq_k, ks_nx, ks_rt, ks_bk, ks_ct, ks_ex, dDrop_k, kDrop_ok, kDrop_ex, dRet_k, kRet_ok, kRet_ex, dIfS_k, kIfS_t, kIfS_f, kIfS_ex, dSet_k, kSet_ok, kSet_ex, dAsg_k, kAsg_ok, kAsg_ex, kh_k, dAppend_k, kAp_k, kAp1_ok, kAp1_ex, kAp2_k, dAug_k, kAug_k, kAug1_ok, dSetItem_k, kSI_ok, kSI_ex, kSI1_k, kSI2_ok, kSI3_k, kSI4_k, dAugItem_k, kAI_k, kAI1_ok, kAI2_k, kAI3_k, kAI4_ok, kAI5_k, kAI6_k, dFor_k, kFor_ok, dComp_k, vComp_k, kCo_k, comp_nil, comp_cons, kc1_k, kc2_t, kc2_f, kc3_k, run_k, kRun_nx, kRun_rt, kRun_ex, hName_k, hNil_k, hCons_k, kH_k, hTup_k, gLt_int, gGt_int, gLe_int, gGe_int, gAdd_int, gMinus_int, gMul_int, gMod_int, gDiv_int, gIx_lst, gIx_tup, gIx_sc, gLen_lst, gLen_tup, gLen_sc, gAll_lst, gAny_lst, gSum_lst, isi_int_int, isi_int_bl, isi_bool_int, isi_bool_bl, isi_list_lst, isi_tuple_tup, isi_str_str, un_int, un_bl, un_str, un_non, un_sc, un_lst, un_tup, uns_nil, uns_cons, pl_int, pl_bl, pl_str, pl_non, pl_sc, pl_lst, pl_tup, pls_nil, pls_cons, ow_int, ow_bl, ow_str, ow_non, ow_lst, ow_tup, ows_nil, ows_cons, wipe_nil, wipe_cons, ints_nil, ints_cons, gBest_lst, gBest_tup, kBest_k, dKeep_k, vKeep_k, dCat_k, vCat1_k, vCat2_k, catD_k, dSorted_k, vSorted_k, sortD_k, dClear_k, kClr_k, dInsert_k, kIn_k, kIn1_ok, kIn2_ok, kIn3_k, tg_int, tg_bl, tg_str, tg_non, tg_tup, tgs_nil, tgs_cons, dRevT_k, vRevT_k, revTD_k, dRevL_k, vRevL_k, revLD_k, dTupOf_k, vTupOf_k, tupD_k, dCatM_k, vCatM1_k, vCatM2_k, catM_k, dTryB_k, kTry_nx, kTry_rt, kTry_ex, kTry2_k, isi_tuple_non, isi_tuple_lst, isi_int_lst, isi_int_str, isi_int_non, bls_nil, bls_cons, bnd_k, bigL0, bigL1, bigL2, bigL3, bigP0, bigP1, bigL4, bigL5, bigL6, bigL7, bigL8, bigL9, bigL10, bigL11, bigL12, bigP2, bigP3, bigP4, bigP5, bigP6, bigP7, bigP8, bigP9, bigP10, bigP11, bigP12, List.length_cons, List.length_nil, List.replicate, List.map_cons, List.map_nil, List.cons_append, List.nil_append, List.append_nil, List.getElem?_cons_zero, List.getElem?_cons_succ, List.set_cons_zero, List.set_cons_succ, Option.map_some, Option.map_none, Bool.not_true, Bool.not_false, if_true, Bool.false_eq_true, if_false, Nat.reduceAdd, Nat.reduceSub, Nat.reduceEqDiff, Bool.and_true, Bool.true_and, Bool.and_self, ite_true, ite_false, Nat.reduceLeDiff, reduceIte, reduceCtorEq, eq_self, decide_true, decide_false, not_true_eq_false, not_false_eq_true, Bool.false_and, Bool.and_false, Bool.or_false, Bool.false_or, Bool.true_or, Bool.or_true, e1] at hr
          exact ⟨_, .inl hr.symm, T, lT, by rw [List.length_append]; simp; omega, _, rfl⟩
        | true =>
          simp only [kb_ok, kb_ex, kb_no, ret_k, lif_s, lif_n, dView_k, vView_k, dFlat_k, vFlat_int, vFlat_bl, vFlat_str, vFlat_non, dVar_k, kVar_k, dPk_k, kPk_k, dMv_k, kMv_k, dFrz_k, kFrz_k, dBin_k, vBin1_k, vBin2_k, dTest_k, vTest_k, dChain_k, vCh1_k, vCh2_k, vCh3_t, vCh3_f, dNot_k, vNot_k, dAnd_k, vAnd_t, vAnd_f, dOr_k, vOr_t, vOr_f, dAndV_k, vAndV_t, vAndV_f, dOrV_k, vOrV_t, vOrV_f, dNotV_k, vNotV_k, dIf_k, vIf_t, vIf_f, dCons_k, vCons1_k, vCons2_k, dTup_k, vTup_k, dLst_k, vLst_k, dCall_k, vCall_k, kc_rt, kc_ex, dItL_k, vItL_lst, vItL_sc, dItT_k, vItT_k, dRng1_k, vRng1_k, dRng2_k, vRng2_k, dCB_k, vCB_k, dIsi_k, vIsi_k, dListE_k, vListE_k, dListS_k, kLS_lst, dLRng1_k, vLRng1_k, dNeg_k, vNeg_k, dIxS_k, kIxS_k, vIxS_k, kIx2_lst, kIx2_tup, kIx2_sc, kIx3_k, dNx_k, dSeq_k, ks_nx, ks_rt, ks_bk, ks_ct, ks_ex, dDrop_k, kDrop_ok, kDrop_ex, dRet_k, kRet_ok, kRet_ex, dIfS_k, kIfS_t, kIfS_f, kIfS_ex, dSet_k, kSet_ok, kSet_ex, dAsg_k, kAsg_ok, kAsg_ex, kh_k, dAppend_k, kAp_k, kAp1_ok, kAp1_ex, kAp2_k, dAug_k, kAug_k, kAug1_ok, dSetItem_k, kSI_ok, kSI_ex, kSI1_k, kSI2_ok, kSI3_k, kSI4_k, dAugItem_k, kAI_k, kAI1_ok, kAI2_k, kAI3_k, kAI4_ok, kAI5_k, kAI6_k, dFor_k, kFor_ok, dComp_k, vComp_k, kCo_k, comp_nil, comp_cons, kc1_k, kc2_t, kc2_f, kc3_k, run_k, kRun_nx, kRun_rt, kRun_ex, hName_k, hNil_k, hCons_k, kH_k, hTup_k, gLt_int, gGt_int, gLe_int, gGe_int, gAdd_int, gMinus_int, gMul_int, gMod_int, gDiv_int, gIx_lst, gIx_tup, gIx_sc, gLen_lst, gLen_tup, gLen_sc, gAll_lst, gAny_lst, gSum_lst, isi_int_int, isi_int_bl, isi_bool_int, isi_bool_bl, isi_list_lst, isi_tuple_tup, isi_str_str, un_int, un_bl, un_str, un_non, un_sc, un_lst, un_tup, uns_nil, uns_cons, pl_int, pl_bl, pl_str, pl_non, pl_sc, pl_lst, pl_tup, pls_nil, pls_cons, ow_int, ow_bl, ow_str, ow_non, ow_lst, ow_tup, ows_nil, ows_cons, wipe_nil, wipe_cons, ints_nil, ints_cons, gBest_lst, gBest_tup, kBest_k, dKeep_k, vKeep_k, dCat_k, vCat1_k, vCat2_k, catD_k, dSorted_k, vSorted_k, sortD_k, dClear_k, kClr_k, dInsert_k, kIn_k, kIn1_ok, kIn2_ok, kIn3_k, tg_int, tg_bl, tg_str, tg_non, tg_tup, tgs_nil, tgs_cons, dRevT_k, vRevT_k, revTD_k, dRevL_k, vRevL_k, revLD_k, dTupOf_k, vTupOf_k, tupD_k, dCatM_k, vCatM1_k, vCatM2_k, catM_k, dTryB_k, kTry_nx, kTry_rt, kTry_ex, kTry2_k, isi_tuple_non, isi_tuple_lst, isi_int_lst, isi_int_str, isi_int_non, bls_nil, bls_cons, bnd_k, bigL0, bigL1, bigL2, bigL3, bigP0, bigP1, bigL4, bigL5, bigL6, bigL7, bigL8, bigL9, bigL10, bigL11, bigL12, bigP2, bigP3, bigP4, bigP5, bigP6, bigP7, bigP8, bigP9, bigP10, bigP11, bigP12, List.length_cons, List.length_nil, List.replicate, List.map_cons, List.map_nil, List.cons_append, List.nil_append, List.append_nil, List.getElem?_cons_zero, List.getElem?_cons_succ, List.set_cons_zero, List.set_cons_succ, Option.map_some, Option.map_none, Bool.not_true, Bool.not_false, if_true, Bool.false_eq_true, if_false, Nat.reduceAdd, Nat.reduceSub, Nat.reduceEqDiff, Bool.and_true, Bool.true_and, Bool.and_self, ite_true, ite_false, Nat.reduceLeDiff, reduceIte, reduceCtorEq, eq_self, decide_true, decide_false, not_true_eq_false, not_false_eq_true, Bool.false_and, Bool.and_false, Bool.or_false, Bool.false_or, Bool.true_or, Bool.or_true, e1, encs_un, gIn_encs] at hr
          cases e2 : decide ((x, p.1) ∈ gs) with
          | false =>
            simp only [kb_ok, kb_ex, kb_no, ret_k, lif_s, lif_n, dView_k, vView_k, dFlat_k, vFlat_int, vFlat_bl, vFlat_str, vFlat_non, dVar_k, kVar_k, dPk_k, kPk_k, dMv_k, kMv_k, dFrz_k, kFrz_k, dBin_k, vBin1_k, vBin2_k, dTest_k, vTest_k, dChain_k, vCh1_k, vCh2_k, vCh3_t, vCh3_f, dNot_k, vNot_k, dAnd_k, vAnd_t, vAnd_f, dOr_k, vOr_t, vOr_f, dAndV_k, vAndV_t, vAndV_f, dOrV_k, vOrV_t, vOrV_f, dNotV_k, vNotV_k, dIf_k, vIf_t, vIf_f, dCons_k, vCons1_k, vCons2_k, dTup_k, vTup_k, dLst_k, vLst_k, dCall_k, vCall_k, kc_rt, kc_ex, dItL_k, vItL_lst, vItL_sc, dItT_k, vItT_k, dRng1_k, vRng1_k, dRng2_k, vRng2_k, dCB_k, vCB_k, dIsi_k, vIsi_k, dListE_k, vListE_k, dListS_k, kLS_lst, dLRng1_k, vLRng1_k, dNeg_k, vNeg_k, dIxS_k, kIxS_k, vIxS_k, kIx2_lst, kIx2_tup, kIx2_sc, kIx3_k, dNx_k, dSeq_k, ks_nx, ks_rt, ks_bk, ks_ct, ks_ex, dDrop_k, kDrop_ok, kDrop_ex, dRet_k, kRet_ok, kRet_ex, dIfS_k, kIfS_t, kIfS_f, kIfS_ex, dSet_k, kSet_ok, kSet_ex, dAsg_k, kAsg_ok, kAsg_ex, kh_k, dAppend_k, kAp_k, kAp1_ok, kAp1_ex, kAp2_k, dAug_k, kAug_k, kAug1_ok, dSetItem_k, kSI_ok, kSI_ex, kSI1_k, kSI2_ok, kSI3_k, kSI4_k, dAugItem_k, kAI_k, kAI1_ok, kAI2_k, kAI3_k, kAI4_ok, kAI5_k, kAI6_k, dFor_k, kFor_ok, dComp_k, vComp_k, kCo_k, comp_nil, comp_cons, kc1_k, kc2_t, kc2_f, kc3_k, run_k, kRun_nx, kRun_rt, kRun_ex, hName_k, hNil_k, hCons_k, kH_k, hTup_k, gLt_int, gGt_int, gLe_int, gGe_int, gAdd_int, gMinus_int, gMul_int, gMod_int, gDiv_int, gIx_lst, gIx_tup, gIx_sc, gLen_lst, gLen_tup, gLen_sc, gAll_lst, gAny_lst, gSum_lst, isi_int_int, isi_int_bl, isi_bool_int, isi_bool_bl, isi_list_lst, isi_tuple_tup, isi_str_str, un_int, un_bl, un_str, un_non, un_sc, un_lst, un_tup, uns_nil, uns_cons, pl_int, pl_bl, pl_str, pl_non, pl_sc, pl_lst, pl_tup, pls_nil, pls_cons, ow_int, ow_bl, ow_str, ow_non, ow_lst, ow_tup, ows_nil, ows_cons, wipe_nil, wipe_cons, ints_nil, ints_cons, gBest_lst, gBest_tup, kBest_k, dKeep_k, vKeep_k, dCat_k, vCat1_k, vCat2_k, catD_k, dSorted_k, vSorted_k, sortD_k, dClear_k, kClr_k, dInsert_k, kIn_k, kIn1_ok, kIn2_ok, kIn3_k, tg_int, tg_bl, tg_str, tg_non, tg_tup, tgs_nil, tgs_cons, dRevT_k, vRevT_k, revTD_k, dRevL_k, vRevL_k, revLD_k, dTupOf_k, vTupOf_k, tupD_k, dCatM_k, vCatM1_k, vCatM2_k, catM_k, dTryB_k, kTry_nx, kTry_rt, kTry_ex, kTry2_k, isi_tuple_non, isi_tuple_lst, isi_int_lst, isi_int_str, isi_int_non, bls_nil, bls_cons, bnd_k, bigL0, bigL1, bigL2, bigL3, bigP0, bigP1, bigL4, bigL5, bigL6, bigL7, bigL8, bigL9, bigL10, bigL11, bigL12, bigP2, bigP3, bigP4, bigP5, bigP6, bigP7, bigP8, bigP9, bigP10, bigP11, bigP12, List.length_cons, List.length_nil, List.replicate, List.map_cons, List.map_nil, List.cons_append, List.nil_append, List.append_nil, List.getElem?_cons_zero, List.getElem?_cons_succ, List.set_cons_zero, List.set_cons_succ, Option.map_some, Option.map_none, Bool.not_true, Bool.not_false, if_true, Bool.false_eq_true, if_false, Nat.reduceAdd, Nat.reduceSub, Nat.reduceEqDiff, Bool.and_true, Bool.true_and, Bool.and_self, ite_true, ite_false, Nat.reduceLeDiff, reduceIte, reduceCtorEq, eq_self, decide_true, decide_false, not_true_eq_false, not_false_eq_true, Bool.false_and, Bool.and_false, Bool.or_false, Bool.false_or, Bool.true_or, Bool.or_true, e2] at hr
            exact ⟨_, .inl hr.symm, T, lT, by rw [List.length_append]; simp; omega, _, rfl⟩
          | true =>
            simp only [kb_ok, kb_ex, kb_no, ret_k, lif_s, lif_n, dView_k, vView_k, dFlat_k, vFlat_int, vFlat_bl, vFlat_str, vFlat_non, dVar_k, kVar_k, dPk_k, kPk_k, dMv_k, kMv_k, dFrz_k, kFrz_k, dBin_k, vBin1_k, vBin2_k, dTest_k, vTest_k, dChain_k, vCh1_k, vCh2_k, vCh3_t, vCh3_f, dNot_k, vNot_k, dAnd_k, vAnd_t, vAnd_f, dOr_k, vOr_t, vOr_f, dAndV_k, vAndV_t, vAndV_f, dOrV_k, vOrV_t, vOrV_f, dNotV_k, vNotV_k, dIf_k, vIf_t, vIf_f, dCons_k, vCons1_k, vCons2_k, dTup_k, vTup_k, dLst_k, vLst_k, dCall_k, vCall_k, kc_rt, kc_ex, dItL_k, vItL_lst, vItL_sc, dItT_k, vItT_k, dRng1_k, vRng1_k, dRng2_k, vRng2_k, dCB_k, vCB_k, dIsi_k, vIsi_k, dListE_k, vListE_k, dListS_k, kLS_lst, dLRng1_k, vLRng1_k, dNeg_k, vNeg_k, dIxS_k, kIxS_k, vIxS_k, kIx2_lst, kIx2_tup, kIx2_sc, kIx3_k, dNx_k, dSeq_k, ks_nx, ks_rt, ks_bk, ks_ct, ks_ex, dDrop_k, kDrop_ok, kDrop_ex, dRet_k, kRet_ok, kRet_ex, dIfS_k, kIfS_t, kIfS_f, kIfS_ex, dSet_k, kSet_ok, kSet_ex, dAsg_k, kAsg_ok, kAsg_ex, kh_k, dAppend_k, kAp_k, kAp1_ok, kAp1_ex, kAp2_k, dAug_k, kAug_k, kAug1_ok, dSetItem_k, kSI_ok, kSI_ex, kSI1_k, kSI2_ok, kSI3_k, kSI4_k, dAugItem_k, kAI_k, kAI1_ok, kAI2_k, kAI3_k, kAI4_ok, kAI5_k, kAI6_k, dFor_k, kFor_ok, dComp_k, vComp_k, kCo_k, comp_nil, comp_cons, kc1_k, kc2_t, kc2_f, kc3_k, run_k, kRun_nx, kRun_rt, kRun_ex, hName_k, hNil_k, hCons_k, kH_k, hTup_k, gLt_int, gGt_int, gLe_int, gGe_int, gAdd_int, gMinus_int, gMul_int, gMod_int, gDiv_int, gIx_lst, gIx_tup, gIx_sc, gLen_lst, gLen_tup, gLen_sc, gAll_lst, gAny_lst, gSum_lst, isi_int_int, isi_int_bl, isi_bool_int, isi_bool_bl, isi_list_lst, isi_tuple_tup, isi_str_str, un_int, un_bl, un_str, un_non, un_sc, un_lst, un_tup, uns_nil, uns_cons, pl_int, pl_bl, pl_str, pl_non, pl_sc, pl_lst, pl_tup, pls_nil, pls_cons, ow_int, ow_bl, ow_str, ow_non, ow_lst, ow_tup, ows_nil, ows_cons, wipe_nil, wipe_cons, ints_nil, ints_cons, gBest_lst, gBest_tup, kBest_k, dKeep_k, vKeep_k, dCat_k, vCat1_k, vCat2_k, catD_k, dSorted_k, vSorted_k, sortD_k, dClear_k, kClr_k, dInsert_k, kIn_k, kIn1_ok, kIn2_ok, kIn3_k, tg_int, tg_bl, tg_str, tg_non, tg_tup, tgs_nil, tgs_cons, dRevT_k, vRevT_k, revTD_k, dRevL_k, vRevL_k, revLD_k, dTupOf_k, vTupOf_k, tupD_k, dCatM_k, vCatM1_k, vCatM2_k, catM_k, dTryB_k, kTry_nx, kTry_rt, kTry_ex, kTry2_k, isi_tuple_non, isi_tuple_lst, isi_int_lst, isi_int_str, isi_int_non, bls_nil, bls_cons, bnd_k, bigL0, bigL1, bigL2, bigL3, bigP0, bigP1, bigL4, bigL5, bigL6, bigL7, bigL8, bigL9, bigL10, bigL11, bigL12, bigP2, bigP3, bigP4, bigP5, bigP6, bigP7, bigP8, bigP9, bigP10, bigP11, bigP12, List.length_cons, List.length_nil, List.replicate, List.map_cons, List.map_nil, List.cons_append, List.nil_append, List.append_nil, List.getElem?_cons_zero, List.getElem?_cons_succ, List.set_cons_zero, List.set_cons_succ, Option.map_some, Option.map_none, Bool.not_true, Bool.not_false, if_true, Bool.false_eq_true, if_false, Nat.reduceAdd, Nat.reduceSub, Nat.reduceEqDiff, Bool.and_true, Bool.true_and, Bool.and_self, ite_true, ite_false, Nat.reduceLeDiff, reduceIte, reduceCtorEq, eq_self, decide_true, decide_false, not_true_eq_false, not_false_eq_true, Bool.false_and, Bool.and_false, Bool.or_false, Bool.false_or, Bool.true_or, Bool.or_true, e2, hz, snoc3] at hr
            refine ⟨_, .inl hr.symm, T ++ [(p.1, p.2, x)], ?_, by simp; omega, _, rfl⟩
            intro t ht
            rcases List.mem_append.1 ht with h | h
            · exact lT t h
            · rw [List.mem_singleton] at h
              subst h
              exact ⟨p1, p2, hxn⟩)
      refine ⟨_, .inl rfl, T', lT', ?_, _, _, _, rfl⟩
      rw [List.length_range] at hT'
      rw [List.length_append, List.length_singleton, Nat.add_mul, Nat.one_mul]
      exact hT')
    exact ⟨T, lT, hT, a, b, c, rfl⟩
  obtain ⟨T, lT, hT, a, b, c, hF⟩ := key
  have md : ∀ x : Int, ∃ m : Nat, m < n ∧ x % (n : Int) = (m : Int) := fun x => by
    have h1 := Int.emod_nonneg x (b := (n : Int)) (by omega)
    have h2 := Int.emod_lt_of_pos x (b := (n : Int)) (by omega)
    exact ⟨(x % (n : Int)).toNat, by omega, by omega⟩
  have pn : decide ((0 : Int) < (n : Int)) = true := by simp; omega
  unfold fd_l_turn_by dn_l_turn_by
  have drawn : ∀ ρ1 : Rho, ρ1 = [some (.lst false (encs gs)), some (.int n), some (.int cell), some (.lst true (T.map enc3)), a, b, c, none, none] → ∃ t : Tr, (t.1 < n ∧ t.2.1 < n ∧ t.2.2 < n) ∧ kRun (dRet (dTupOf (dView (dComp [8] (dRng1 (dCons (ret (.int 3)) (ret []))) (hName 8) (ret true) (dFlat (dBin gMod (dView (dCall Sh.fd_l_mixed (dCons (dPk 2) (dCons (dPk 8) (ret []))))) (dPk 1)))))) ρ1) = some (.rt (enc3 t)) := by
    rintro ρ1 rfl
    obtain ⟨m0, l0, h0⟩ := md (mix cell 0)
    obtain ⟨m1, l1, h1⟩ := md (mix cell 1)
    obtain ⟨m2, l2, h2⟩ := md (mix cell 2)
    refine ⟨(m0, m1, m2), ⟨l0, l1, l2⟩, ?_⟩
    have r3 : rngD 0 (Int.toNat 3) = [.int 0, .int 1, .int 2] := rfl
    simp only [kb_ok, kb_ex, kb_no, ret_k, lif_s, lif_n, dView_k, vView_k, dFlat_k, vFlat_int, vFlat_bl, vFlat_str, vFlat_non, dVar_k, kVar_k, dPk_k, kPk_k, dMv_k, kMv_k, dFrz_k, kFrz_k, dBin_k, vBin1_k, vBin2_k, dTest_k, vTest_k, dChain_k, vCh1_k, vCh2_k, vCh3_t, vCh3_f, dNot_k, vNot_k, dAnd_k, vAnd_t, vAnd_f, dOr_k, vOr_t, vOr_f, dAndV_k, vAndV_t, vAndV_f, dOrV_k, vOrV_t, vOrV_f, dNotV_k, vNotV_k, dIf_k, vIf_t, vIf_f, dCons_k, vCons1_k, vCons2_k, dTup_k, vTup_k, dLst_k, vLst_k, dCall_k, vCall_k, kc_rt, kc_ex, dItL_k, vItL_lst, vItL_sc, dItT_k, vItT_k, dRng1_k, vRng1_k, dRng2_k, vRng2_k, dCB_k, vCB_k, dIsi_k, vIsi_k, dListE_k, vListE_k, dListS_k, kLS_lst, dLRng1_k, vLRng1_k, dNeg_k, vNeg_k, dIxS_k, kIxS_k, vIxS_k, kIx2_lst, kIx2_tup, kIx2_sc, kIx3_k, dNx_k, dSeq_k, ks_nx, ks_rt, ks_bk, ks_ct, ks_ex, dDrop_k, kDrop_ok, kDrop_ex, dRet_k, kRet_ok, kRet_ex, dIfS_k, kIfS_t, kIfS_f, kIfS_ex, dSet_k, kSet_ok, kSet_ex, dAsg_k, kAsg_ok, kAsg_ex, kh_k, dAppend_k, kAp_k, kAp1_ok, kAp1_ex, kAp2_k, dAug_k, kAug_k, kAug1_ok, dSetItem_k, kSI_ok, kSI_ex, kSI1_k, kSI2_ok, kSI3_k, kSI4_k, dAugItem_k, kAI_k, kAI1_ok, kAI2_k, kAI3_k, kAI4_ok, kAI5_k, kAI6_k, dFor_k, kFor_ok, dComp_k, vComp_k, kCo_k, comp_nil, comp_cons, kc1_k, kc2_t, kc2_f, kc3_k, run_k, kRun_nx, kRun_rt, kRun_ex, hName_k, hNil_k, hCons_k, kH_k, hTup_k, gLt_int, gGt_int, gLe_int, gGe_int, gAdd_int, gMinus_int, gMul_int, gMod_int, gDiv_int, gIx_lst, gIx_tup, gIx_sc, gLen_lst, gLen_tup, gLen_sc, gAll_lst, gAny_lst, gSum_lst, isi_int_int, isi_int_bl, isi_bool_int, isi_bool_bl, isi_list_lst, isi_tuple_tup, isi_str_str, un_int, un_bl, un_str, un_non, un_sc, un_lst, un_tup, uns_nil, uns_cons, pl_int, pl_bl, pl_str, pl_non, pl_sc, pl_lst, pl_tup, pls_nil, pls_cons, ow_int, ow_bl, ow_str, ow_non, ow_lst, ow_tup, ows_nil, ows_cons, wipe_nil, wipe_cons, ints_nil, ints_cons, gBest_lst, gBest_tup, kBest_k, dKeep_k, vKeep_k, dCat_k, vCat1_k, vCat2_k, catD_k, dSorted_k, vSorted_k, sortD_k, dClear_k, kClr_k, dInsert_k, kIn_k, kIn1_ok, kIn2_ok, kIn3_k, tg_int, tg_bl, tg_str, tg_non, tg_tup, tgs_nil, tgs_cons, dRevT_k, vRevT_k, revTD_k, dRevL_k, vRevL_k, revLD_k, dTupOf_k, vTupOf_k, tupD_k, dCatM_k, vCatM1_k, vCatM2_k, catM_k, dTryB_k, kTry_nx, kTry_rt, kTry_ex, kTry2_k, isi_tuple_non, isi_tuple_lst, isi_int_lst, isi_int_str, isi_int_non, bls_nil, bls_cons, bnd_k, bigL0, bigL1, bigL2, bigL3, bigP0, bigP1, bigL4, bigL5, bigL6, bigL7, bigL8, bigL9, bigL10, bigL11, bigL12, bigP2, bigP3, bigP4, bigP5, bigP6, bigP7, bigP8, bigP9, bigP10, bigP11, bigP12, List.length_cons, List.length_nil, List.replicate, List.map_cons, List.map_nil, List.cons_append, List.nil_append, List.append_nil, List.getElem?_cons_zero, List.getElem?_cons_succ, List.set_cons_zero, List.set_cons_succ, Option.map_some, Option.map_none, Bool.not_true, Bool.not_false, if_true, Bool.false_eq_true, if_false, Nat.reduceAdd, Nat.reduceSub, Nat.reduceEqDiff, Bool.and_true, Bool.true_and, Bool.and_self, ite_true, ite_false, Nat.reduceLeDiff, reduceIte, reduceCtorEq, eq_self, decide_true, decide_false, not_true_eq_false, not_false_eq_true, Bool.false_and, Bool.and_false, Bool.or_false, Bool.false_or, Bool.true_or, Bool.or_true, hb3, r3, mixed_eq, pn, h0, h1, h2]
    rfl
  obtain ⟨td, ltd, hd⟩ := drawn _ rfl
  simp only [run_k, List.length_cons, List.length_nil, Nat.reduceAdd, Nat.reduceSub, if_true, List.map_cons, List.map_nil, List.replicate, List.cons_append, List.nil_append, dSeq_k, dSet_k, dLst_k, ret_k, kb_ok, vLst_k, bigL0, kSet_ok, ks_nx, List.set_cons_zero, List.set_cons_succ, hF]
  cases T with
  | nil =>
    refine ⟨td, ltd, ?_⟩
    simp only [dIfS_k, dAnd_k, dTest_k, dBin_k, dPk_k, kPk_k, List.getElem?_cons_zero, List.getElem?_cons_succ, List.map_nil, un_lst, uns_nil, kb_ok, vBin1_k, vBin2_k, dView_k, dLst_k, ret_k, vLst_k, List.length_nil, bigL0, if_true, vView_k, gNe_k, fit_lst8, fits_nil, Bool.and_self, eqv_ll, eqvs_nil, Bool.not_true, lif_s, vTest_k, vAnd_f, kIfS_f, dNx_k, ks_nx]
    exact hd
  | cons t0 T0 =>
    by_cases h4 : decide (0 < cell % 4) = true
    · obtain ⟨m, lm, hm⟩ : ∃ m : Nat, m < (t0 :: T0).length ∧ (cell / 4) % (((t0 :: T0).length : Nat) : Int) = (m : Int) := by
        have pl : (0 : Int) < (((t0 :: T0).length : Nat) : Int) := by rw [List.length_cons]; omega
        have h1 := Int.emod_nonneg (cell / 4) (b := (((t0 :: T0).length : Nat) : Int)) (by omega)
        have h2 := Int.emod_lt_of_pos (cell / 4) pl
        exact ⟨((cell / 4) % (((t0 :: T0).length : Nat) : Int)).toNat, by omega, by omega⟩
      have fe := e3_fit (t0 :: T0)
      have ue := e3_un (t0 :: T0)
      have ne : eqvs ((t0 :: T0).map enc3) [] = false := rfl
      have pl : decide ((0 : Int) < (((t0 :: T0).length : Nat) : Int)) = true := decide_eq_true (by rw [List.length_cons]; omega)
      have at_ : ((t0 :: T0).map enc3)[m]? = some (enc3 (t0 :: T0)[m]) := by rw [List.getElem?_map, List.getElem?_eq_getElem lm]; rfl
      have lt := lT (t0 :: T0)[m] (List.getElem_mem lm)
      have ll : ((t0 :: T0).map enc3).length = (t0 :: T0).length := List.length_map _
      generalize (t0 :: T0)[m] = t at at_ lt
      generalize hX : (t0 :: T0).map enc3 = X at fe ue ne at_ ll
      generalize (t0 :: T0).length = len at pl hm ll
      cases h1 : (cell % 4 == 1) with
      | true =>
        refine ⟨(t.2.2, t.2.1, t.1), ⟨lt.2.2, lt.2.1, lt.1⟩, ?_⟩
        simp only [kb_ok, kb_ex, kb_no, ret_k, lif_s, lif_n, dView_k, vView_k, dFlat_k, vFlat_int, vFlat_bl, vFlat_str, vFlat_non, dVar_k, kVar_k, dPk_k, kPk_k, dMv_k, kMv_k, dFrz_k, kFrz_k, dBin_k, vBin1_k, vBin2_k, dTest_k, vTest_k, dChain_k, vCh1_k, vCh2_k, vCh3_t, vCh3_f, dNot_k, vNot_k, dAnd_k, vAnd_t, vAnd_f, dOr_k, vOr_t, vOr_f, dAndV_k, vAndV_t, vAndV_f, dOrV_k, vOrV_t, vOrV_f, dNotV_k, vNotV_k, dIf_k, vIf_t, vIf_f, dCons_k, vCons1_k, vCons2_k, dTup_k, vTup_k, dLst_k, vLst_k, dCall_k, vCall_k, kc_rt, kc_ex, dItL_k, vItL_lst, vItL_sc, dItT_k, vItT_k, dRng1_k, vRng1_k, dRng2_k, vRng2_k, dCB_k, vCB_k, dIsi_k, vIsi_k, dListE_k, vListE_k, dListS_k, kLS_lst, dLRng1_k, vLRng1_k, dNeg_k, vNeg_k, dIxS_k, kIxS_k, vIxS_k, kIx2_lst, kIx2_tup, kIx2_sc, kIx3_k, dNx_k, dSeq_k, ks_nx, ks_rt, ks_bk, ks_ct, ks_ex, dDrop_k, kDrop_ok, kDrop_ex, dRet_k, kRet_ok, kRet_ex, dIfS_k, kIfS_t, kIfS_f, kIfS_ex, dSet_k, kSet_ok, kSet_ex, dAsg_k, kAsg_ok, kAsg_ex, kh_k, dAppend_k, kAp_k, kAp1_ok, kAp1_ex, kAp2_k, dAug_k, kAug_k, kAug1_ok, dSetItem_k, kSI_ok, kSI_ex, kSI1_k, kSI2_ok, kSI3_k, kSI4_k, dAugItem_k, kAI_k, kAI1_ok, kAI2_k, kAI3_k, kAI4_ok, kAI5_k, kAI6_k, dFor_k, kFor_ok, dComp_k, vComp_k, kCo_k, comp_nil, comp_cons, kc1_k, kc2_t, kc2_f, kc3_k, run_k, kRun_nx, kRun_rt, kRun_ex, hName_k, hNil_k, hCons_k, kH_k, hTup_k, gLt_int, gGt_int, gLe_int, gGe_int, gAdd_int, gMinus_int, gMul_int, gMod_int, gDiv_int, gIx_lst, gIx_tup, gIx_sc, gLen_lst, gLen_tup, gLen_sc, gAll_lst, gAny_lst, gSum_lst, isi_int_int, isi_int_bl, isi_bool_int, isi_bool_bl, isi_list_lst, isi_tuple_tup, isi_str_str, un_int, un_bl, un_str, un_non, un_sc, un_lst, un_tup, uns_nil, uns_cons, pl_int, pl_bl, pl_str, pl_non, pl_sc, pl_lst, pl_tup, pls_nil, pls_cons, ow_int, ow_bl, ow_str, ow_non, ow_lst, ow_tup, ows_nil, ows_cons, wipe_nil, wipe_cons, ints_nil, ints_cons, gBest_lst, gBest_tup, kBest_k, dKeep_k, vKeep_k, dCat_k, vCat1_k, vCat2_k, catD_k, dSorted_k, vSorted_k, sortD_k, dClear_k, kClr_k, dInsert_k, kIn_k, kIn1_ok, kIn2_ok, kIn3_k, tg_int, tg_bl, tg_str, tg_non, tg_tup, tgs_nil, tgs_cons, dRevT_k, vRevT_k, revTD_k, dRevL_k, vRevL_k, revLD_k, dTupOf_k, vTupOf_k, tupD_k, dCatM_k, vCatM1_k, vCatM2_k, catM_k, dTryB_k, kTry_nx, kTry_rt, kTry_ex, kTry2_k, isi_tuple_non, isi_tuple_lst, isi_int_lst, isi_int_str, isi_int_non, bls_nil, bls_cons, bnd_k, bigL0, bigL1, bigL2, bigL3, bigP0, bigP1, bigL4, bigL5, bigL6, bigL7, bigL8, bigL9, bigL10, bigL11, bigL12, bigP2, bigP3, bigP4, bigP5, bigP6, bigP7, bigP8, bigP9, bigP10, bigP11, bigP12, List.length_cons, List.length_nil, List.replicate, List.map_cons, List.map_nil, List.cons_append, List.nil_append, List.append_nil, List.getElem?_cons_zero, List.getElem?_cons_succ, List.set_cons_zero, List.set_cons_succ, Option.map_some, Option.map_none, Bool.not_true, Bool.not_false, if_true, Bool.false_eq_true, if_false, Nat.reduceAdd, Nat.reduceSub, Nat.reduceEqDiff, Bool.and_true, Bool.true_and, Bool.and_self, ite_true, ite_false, Nat.reduceLeDiff, reduceIte, reduceCtorEq, eq_self, decide_true, decide_false, not_true_eq_false, not_false_eq_true, Bool.false_and, Bool.and_false, Bool.or_false, Bool.false_or, Bool.true_or, Bool.or_true, gNe_k, fit_lst8, fits_nil, fe, ue, ne, eqv_ll, p4, q4, h4, ll, pl, hm, Sh.atI_nat, at_, enc3_plain, enc3_un, gEq_k, fit_int, eqv_ii, h1, enc3_rev]
      | false =>
        refine ⟨t, lt, ?_⟩
        simp only [kb_ok, kb_ex, kb_no, ret_k, lif_s, lif_n, dView_k, vView_k, dFlat_k, vFlat_int, vFlat_bl, vFlat_str, vFlat_non, dVar_k, kVar_k, dPk_k, kPk_k, dMv_k, kMv_k, dFrz_k, kFrz_k, dBin_k, vBin1_k, vBin2_k, dTest_k, vTest_k, dChain_k, vCh1_k, vCh2_k, vCh3_t, vCh3_f, dNot_k, vNot_k, dAnd_k, vAnd_t, vAnd_f, dOr_k, vOr_t, vOr_f, dAndV_k, vAndV_t, vAndV_f, dOrV_k, vOrV_t, vOrV_f, dNotV_k, vNotV_k, dIf_k, vIf_t, vIf_f, dCons_k, vCons1_k, vCons2_k, dTup_k, vTup_k, dLst_k, vLst_k, dCall_k, vCall_k, kc_rt, kc_ex, dItL_k, vItL_lst, vItL_sc, dItT_k, vItT_k, dRng1_k, vRng1_k, dRng2_k, vRng2_k, dCB_k, vCB_k, dIsi_k, vIsi_k, dListE_k, vListE_k, dListS_k, kLS_lst, dLRng1_k, vLRng1_k, dNeg_k, vNeg_k, dIxS_k, kIxS_k, vIxS_k, kIx2_lst, kIx2_tup, kIx2_sc, kIx3_k, dNx_k, dSeq_k, ks_nx, ks_rt, ks_bk, ks_ct, ks_ex, dDrop_k, kDrop_ok, kDrop_ex, dRet_k, kRet_ok, kRet_ex, dIfS_k, kIfS_t, kIfS_f, kIfS_ex, dSet_k, kSet_ok, kSet_ex, dAsg_k, kAsg_ok, kAsg_ex, kh_k, dAppend_k, kAp_k, kAp1_ok, kAp1_ex, kAp2_k, dAug_k, kAug_k, kAug1_ok, dSetItem_k, kSI_ok, kSI_ex, kSI1_k, kSI2_ok, kSI3_k, kSI4_k, dAugItem_k, kAI_k, kAI1_ok, kAI2_k, kAI3_k, kAI4_ok, kAI5_k, kAI6_k, dFor_k, kFor_ok, dComp_k, vComp_k, kCo_k, comp_nil, comp_cons, kc1_k, kc2_t, kc2_f, kc3_k, run_k, kRun_nx, kRun_rt, kRun_ex, hName_k, hNil_k, hCons_k, kH_k, hTup_k, gLt_int, gGt_int, gLe_int, gGe_int, gAdd_int, gMinus_int, gMul_int, gMod_int, gDiv_int, gIx_lst, gIx_tup, gIx_sc, gLen_lst, gLen_tup, gLen_sc, gAll_lst, gAny_lst, gSum_lst, isi_int_int, isi_int_bl, isi_bool_int, isi_bool_bl, isi_list_lst, isi_tuple_tup, isi_str_str, un_int, un_bl, un_str, un_non, un_sc, un_lst, un_tup, uns_nil, uns_cons, pl_int, pl_bl, pl_str, pl_non, pl_sc, pl_lst, pl_tup, pls_nil, pls_cons, ow_int, ow_bl, ow_str, ow_non, ow_lst, ow_tup, ows_nil, ows_cons, wipe_nil, wipe_cons, ints_nil, ints_cons, gBest_lst, gBest_tup, kBest_k, dKeep_k, vKeep_k, dCat_k, vCat1_k, vCat2_k, catD_k, dSorted_k, vSorted_k, sortD_k, dClear_k, kClr_k, dInsert_k, kIn_k, kIn1_ok, kIn2_ok, kIn3_k, tg_int, tg_bl, tg_str, tg_non, tg_tup, tgs_nil, tgs_cons, dRevT_k, vRevT_k, revTD_k, dRevL_k, vRevL_k, revLD_k, dTupOf_k, vTupOf_k, tupD_k, dCatM_k, vCatM1_k, vCatM2_k, catM_k, dTryB_k, kTry_nx, kTry_rt, kTry_ex, kTry2_k, isi_tuple_non, isi_tuple_lst, isi_int_lst, isi_int_str, isi_int_non, bls_nil, bls_cons, bnd_k, bigL0, bigL1, bigL2, bigL3, bigP0, bigP1, bigL4, bigL5, bigL6, bigL7, bigL8, bigL9, bigL10, bigL11, bigL12, bigP2, bigP3, bigP4, bigP5, bigP6, bigP7, bigP8, bigP9, bigP10, bigP11, bigP12, List.length_cons, List.length_nil, List.replicate, List.map_cons, List.map_nil, List.cons_append, List.nil_append, List.append_nil, List.getElem?_cons_zero, List.getElem?_cons_succ, List.set_cons_zero, List.set_cons_succ, Option.map_some, Option.map_none, Bool.not_true, Bool.not_false, if_true, Bool.false_eq_true, if_false, Nat.reduceAdd, Nat.reduceSub, Nat.reduceEqDiff, Bool.and_true, Bool.true_and, Bool.and_self, ite_true, ite_false, Nat.reduceLeDiff, reduceIte, reduceCtorEq, eq_self, decide_true, decide_false, not_true_eq_false, not_false_eq_true, Bool.false_and, Bool.and_false, Bool.or_false, Bool.false_or, Bool.true_or, Bool.or_true, gNe_k, fit_lst8, fits_nil, fe, ue, ne, eqv_ll, p4, q4, h4, ll, pl, hm, Sh.atI_nat, at_, enc3_plain, enc3_un, gEq_k, fit_int, eqv_ii, h1]
    · have h4 : decide (0 < cell % 4) = false := by simpa using h4
      refine ⟨td, ltd, ?_⟩
      have fe := e3_fit (t0 :: T0)
      have ue := e3_un (t0 :: T0)
      have ne : eqvs ((t0 :: T0).map enc3) [] = false := rfl
      simp only [dIfS_k, dAnd_k, dTest_k, dBin_k, dPk_k, kPk_k, List.getElem?_cons_zero, List.getElem?_cons_succ, un_lst, ue, uns_nil, kb_ok, vBin1_k, vBin2_k, dView_k, dLst_k, ret_k, vLst_k, List.length_nil, bigL0, if_true, vView_k, gNe_k, fit_lst8, fits_nil, fe, Bool.and_self, eqv_ll, ne, Bool.not_false, lif_s, vTest_k, vAnd_t, un_int, gMod_int, p4, decide_true, gGt_int, h4, kIfS_f, dNx_k, ks_nx]
      exact hd
theorem within_lst (o : Bool) (xs : List D) (a b : Int) : fd_within [.lst o xs, .int a, .int b] = some (.rt (.bl false)) := by
  unfold fd_within dn_within
  simp only [kb_ok, kb_ex, kb_no, ret_k, lif_s, lif_n, dView_k, vView_k, dFlat_k, vFlat_int, vFlat_bl, vFlat_str, vFlat_non, dVar_k, kVar_k, dPk_k, kPk_k, dMv_k, kMv_k, dFrz_k, kFrz_k, dBin_k, vBin1_k, vBin2_k, dTest_k, vTest_k, dChain_k, vCh1_k, vCh2_k, vCh3_t, vCh3_f, dNot_k, vNot_k, dAnd_k, vAnd_t, vAnd_f, dOr_k, vOr_t, vOr_f, dAndV_k, vAndV_t, vAndV_f, dOrV_k, vOrV_t, vOrV_f, dNotV_k, vNotV_k, dIf_k, vIf_t, vIf_f, dCons_k, vCons1_k, vCons2_k, dTup_k, vTup_k, dLst_k, vLst_k, dCall_k, vCall_k, kc_rt, kc_ex, dItL_k, vItL_lst, vItL_sc, dItT_k, vItT_k, dRng1_k, vRng1_k, dRng2_k, vRng2_k, dCB_k, vCB_k, dIsi_k, vIsi_k, dListE_k, vListE_k, dListS_k, kLS_lst, dLRng1_k, vLRng1_k, dNeg_k, vNeg_k, dIxS_k, kIxS_k, vIxS_k, kIx2_lst, kIx2_tup, kIx2_sc, kIx3_k, dNx_k, dSeq_k, ks_nx, ks_rt, ks_bk, ks_ct, ks_ex, dDrop_k, kDrop_ok, kDrop_ex, dRet_k, kRet_ok, kRet_ex, dIfS_k, kIfS_t, kIfS_f, kIfS_ex, dSet_k, kSet_ok, kSet_ex, dAsg_k, kAsg_ok, kAsg_ex, kh_k, dAppend_k, kAp_k, kAp1_ok, kAp1_ex, kAp2_k, dAug_k, kAug_k, kAug1_ok, dSetItem_k, kSI_ok, kSI_ex, kSI1_k, kSI2_ok, kSI3_k, kSI4_k, dAugItem_k, kAI_k, kAI1_ok, kAI2_k, kAI3_k, kAI4_ok, kAI5_k, kAI6_k, dFor_k, kFor_ok, dComp_k, vComp_k, kCo_k, comp_nil, comp_cons, kc1_k, kc2_t, kc2_f, kc3_k, run_k, kRun_nx, kRun_rt, kRun_ex, hName_k, hNil_k, hCons_k, kH_k, hTup_k, gLt_int, gGt_int, gLe_int, gGe_int, gAdd_int, gMinus_int, gMul_int, gMod_int, gDiv_int, gIx_lst, gIx_tup, gIx_sc, gLen_lst, gLen_tup, gLen_sc, gAll_lst, gAny_lst, gSum_lst, isi_int_int, isi_int_bl, isi_bool_int, isi_bool_bl, isi_list_lst, isi_tuple_tup, isi_str_str, un_int, un_bl, un_str, un_non, un_sc, un_lst, un_tup, uns_nil, uns_cons, pl_int, pl_bl, pl_str, pl_non, pl_sc, pl_lst, pl_tup, pls_nil, pls_cons, ow_int, ow_bl, ow_str, ow_non, ow_lst, ow_tup, ows_nil, ows_cons, wipe_nil, wipe_cons, ints_nil, ints_cons, gBest_lst, gBest_tup, kBest_k, dKeep_k, vKeep_k, dCat_k, vCat1_k, vCat2_k, catD_k, dSorted_k, vSorted_k, sortD_k, dClear_k, kClr_k, dInsert_k, kIn_k, kIn1_ok, kIn2_ok, kIn3_k, tg_int, tg_bl, tg_str, tg_non, tg_tup, tgs_nil, tgs_cons, dRevT_k, vRevT_k, revTD_k, dRevL_k, vRevL_k, revLD_k, dTupOf_k, vTupOf_k, tupD_k, dCatM_k, vCatM1_k, vCatM2_k, catM_k, dTryB_k, kTry_nx, kTry_rt, kTry_ex, kTry2_k, isi_tuple_non, isi_tuple_lst, isi_int_lst, isi_int_str, isi_int_non, bls_nil, bls_cons, bnd_k, bigL0, bigL1, bigL2, bigL3, bigP0, bigP1, bigL4, bigL5, bigL6, bigL7, bigL8, bigL9, bigL10, bigL11, bigL12, bigP2, bigP3, bigP4, bigP5, bigP6, bigP7, bigP8, bigP9, bigP10, bigP11, bigP12, List.length_cons, List.length_nil, List.replicate, List.map_cons, List.map_nil, List.cons_append, List.nil_append, List.append_nil, List.getElem?_cons_zero, List.getElem?_cons_succ, List.set_cons_zero, List.set_cons_succ, Option.map_some, Option.map_none, Bool.not_true, Bool.not_false, if_true, Bool.false_eq_true, if_false, Nat.reduceAdd, Nat.reduceSub, Nat.reduceEqDiff, Bool.and_true, Bool.true_and, Bool.and_self, ite_true, ite_false, Nat.reduceLeDiff, reduceIte, reduceCtorEq, eq_self, decide_true, decide_false, not_true_eq_false, not_false_eq_true, Bool.false_and, Bool.and_false, Bool.or_false, Bool.false_or, Bool.true_or, Bool.or_true]
theorem within_bl (k : Bool) (a b : Int) : fd_within [.bl k, .int a, .int b] = some (.rt (.bl false)) := by
  unfold fd_within dn_within
  simp only [kb_ok, kb_ex, kb_no, ret_k, lif_s, lif_n, dView_k, vView_k, dFlat_k, vFlat_int, vFlat_bl, vFlat_str, vFlat_non, dVar_k, kVar_k, dPk_k, kPk_k, dMv_k, kMv_k, dFrz_k, kFrz_k, dBin_k, vBin1_k, vBin2_k, dTest_k, vTest_k, dChain_k, vCh1_k, vCh2_k, vCh3_t, vCh3_f, dNot_k, vNot_k, dAnd_k, vAnd_t, vAnd_f, dOr_k, vOr_t, vOr_f, dAndV_k, vAndV_t, vAndV_f, dOrV_k, vOrV_t, vOrV_f, dNotV_k, vNotV_k, dIf_k, vIf_t, vIf_f, dCons_k, vCons1_k, vCons2_k, dTup_k, vTup_k, dLst_k, vLst_k, dCall_k, vCall_k, kc_rt, kc_ex, dItL_k, vItL_lst, vItL_sc, dItT_k, vItT_k, dRng1_k, vRng1_k, dRng2_k, vRng2_k, dCB_k, vCB_k, dIsi_k, vIsi_k, dListE_k, vListE_k, dListS_k, kLS_lst, dLRng1_k, vLRng1_k, dNeg_k, vNeg_k, dIxS_k, kIxS_k, vIxS_k, kIx2_lst, kIx2_tup, kIx2_sc, kIx3_k, dNx_k, dSeq_k, ks_nx, ks_rt, ks_bk, ks_ct, ks_ex, dDrop_k, kDrop_ok, kDrop_ex, dRet_k, kRet_ok, kRet_ex, dIfS_k, kIfS_t, kIfS_f, kIfS_ex, dSet_k, kSet_ok, kSet_ex, dAsg_k, kAsg_ok, kAsg_ex, kh_k, dAppend_k, kAp_k, kAp1_ok, kAp1_ex, kAp2_k, dAug_k, kAug_k, kAug1_ok, dSetItem_k, kSI_ok, kSI_ex, kSI1_k, kSI2_ok, kSI3_k, kSI4_k, dAugItem_k, kAI_k, kAI1_ok, kAI2_k, kAI3_k, kAI4_ok, kAI5_k, kAI6_k, dFor_k, kFor_ok, dComp_k, vComp_k, kCo_k, comp_nil, comp_cons, kc1_k, kc2_t, kc2_f, kc3_k, run_k, kRun_nx, kRun_rt, kRun_ex, hName_k, hNil_k, hCons_k, kH_k, hTup_k, gLt_int, gGt_int, gLe_int, gGe_int, gAdd_int, gMinus_int, gMul_int, gMod_int, gDiv_int, gIx_lst, gIx_tup, gIx_sc, gLen_lst, gLen_tup, gLen_sc, gAll_lst, gAny_lst, gSum_lst, isi_int_int, isi_int_bl, isi_bool_int, isi_bool_bl, isi_list_lst, isi_tuple_tup, isi_str_str, un_int, un_bl, un_str, un_non, un_sc, un_lst, un_tup, uns_nil, uns_cons, pl_int, pl_bl, pl_str, pl_non, pl_sc, pl_lst, pl_tup, pls_nil, pls_cons, ow_int, ow_bl, ow_str, ow_non, ow_lst, ow_tup, ows_nil, ows_cons, wipe_nil, wipe_cons, ints_nil, ints_cons, gBest_lst, gBest_tup, kBest_k, dKeep_k, vKeep_k, dCat_k, vCat1_k, vCat2_k, catD_k, dSorted_k, vSorted_k, sortD_k, dClear_k, kClr_k, dInsert_k, kIn_k, kIn1_ok, kIn2_ok, kIn3_k, tg_int, tg_bl, tg_str, tg_non, tg_tup, tgs_nil, tgs_cons, dRevT_k, vRevT_k, revTD_k, dRevL_k, vRevL_k, revLD_k, dTupOf_k, vTupOf_k, tupD_k, dCatM_k, vCatM1_k, vCatM2_k, catM_k, dTryB_k, kTry_nx, kTry_rt, kTry_ex, kTry2_k, isi_tuple_non, isi_tuple_lst, isi_int_lst, isi_int_str, isi_int_non, bls_nil, bls_cons, bnd_k, bigL0, bigL1, bigL2, bigL3, bigP0, bigP1, bigL4, bigL5, bigL6, bigL7, bigL8, bigL9, bigL10, bigL11, bigL12, bigP2, bigP3, bigP4, bigP5, bigP6, bigP7, bigP8, bigP9, bigP10, bigP11, bigP12, List.length_cons, List.length_nil, List.replicate, List.map_cons, List.map_nil, List.cons_append, List.nil_append, List.append_nil, List.getElem?_cons_zero, List.getElem?_cons_succ, List.set_cons_zero, List.set_cons_succ, Option.map_some, Option.map_none, Bool.not_true, Bool.not_false, if_true, Bool.false_eq_true, if_false, Nat.reduceAdd, Nat.reduceSub, Nat.reduceEqDiff, Bool.and_true, Bool.true_and, Bool.and_self, ite_true, ite_false, Nat.reduceLeDiff, reduceIte, reduceCtorEq, eq_self, decide_true, decide_false, not_true_eq_false, not_false_eq_true, Bool.false_and, Bool.and_false, Bool.or_false, Bool.false_or, Bool.true_or, Bool.or_true]
theorem within_str (s : PySem.Str) (a b : Int) : fd_within [.str s, .int a, .int b] = some (.rt (.bl false)) := by
  unfold fd_within dn_within
  simp only [kb_ok, kb_ex, kb_no, ret_k, lif_s, lif_n, dView_k, vView_k, dFlat_k, vFlat_int, vFlat_bl, vFlat_str, vFlat_non, dVar_k, kVar_k, dPk_k, kPk_k, dMv_k, kMv_k, dFrz_k, kFrz_k, dBin_k, vBin1_k, vBin2_k, dTest_k, vTest_k, dChain_k, vCh1_k, vCh2_k, vCh3_t, vCh3_f, dNot_k, vNot_k, dAnd_k, vAnd_t, vAnd_f, dOr_k, vOr_t, vOr_f, dAndV_k, vAndV_t, vAndV_f, dOrV_k, vOrV_t, vOrV_f, dNotV_k, vNotV_k, dIf_k, vIf_t, vIf_f, dCons_k, vCons1_k, vCons2_k, dTup_k, vTup_k, dLst_k, vLst_k, dCall_k, vCall_k, kc_rt, kc_ex, dItL_k, vItL_lst, vItL_sc, dItT_k, vItT_k, dRng1_k, vRng1_k, dRng2_k, vRng2_k, dCB_k, vCB_k, dIsi_k, vIsi_k, dListE_k, vListE_k, dListS_k, kLS_lst, dLRng1_k, vLRng1_k, dNeg_k, vNeg_k, dIxS_k, kIxS_k, vIxS_k, kIx2_lst, kIx2_tup, kIx2_sc, kIx3_k, dNx_k, dSeq_k, ks_nx, ks_rt, ks_bk, ks_ct, ks_ex, dDrop_k, kDrop_ok, kDrop_ex, dRet_k, kRet_ok, kRet_ex, dIfS_k, kIfS_t, kIfS_f, kIfS_ex, dSet_k, kSet_ok, kSet_ex, dAsg_k, kAsg_ok, kAsg_ex, kh_k, dAppend_k, kAp_k, kAp1_ok, kAp1_ex, kAp2_k, dAug_k, kAug_k, kAug1_ok, dSetItem_k, kSI_ok, kSI_ex, kSI1_k, kSI2_ok, kSI3_k, kSI4_k, dAugItem_k, kAI_k, kAI1_ok, kAI2_k, kAI3_k, kAI4_ok, kAI5_k, kAI6_k, dFor_k, kFor_ok, dComp_k, vComp_k, kCo_k, comp_nil, comp_cons, kc1_k, kc2_t, kc2_f, kc3_k, run_k, kRun_nx, kRun_rt, kRun_ex, hName_k, hNil_k, hCons_k, kH_k, hTup_k, gLt_int, gGt_int, gLe_int, gGe_int, gAdd_int, gMinus_int, gMul_int, gMod_int, gDiv_int, gIx_lst, gIx_tup, gIx_sc, gLen_lst, gLen_tup, gLen_sc, gAll_lst, gAny_lst, gSum_lst, isi_int_int, isi_int_bl, isi_bool_int, isi_bool_bl, isi_list_lst, isi_tuple_tup, isi_str_str, un_int, un_bl, un_str, un_non, un_sc, un_lst, un_tup, uns_nil, uns_cons, pl_int, pl_bl, pl_str, pl_non, pl_sc, pl_lst, pl_tup, pls_nil, pls_cons, ow_int, ow_bl, ow_str, ow_non, ow_lst, ow_tup, ows_nil, ows_cons, wipe_nil, wipe_cons, ints_nil, ints_cons, gBest_lst, gBest_tup, kBest_k, dKeep_k, vKeep_k, dCat_k, vCat1_k, vCat2_k, catD_k, dSorted_k, vSorted_k, sortD_k, dClear_k, kClr_k, dInsert_k, kIn_k, kIn1_ok, kIn2_ok, kIn3_k, tg_int, tg_bl, tg_str, tg_non, tg_tup, tgs_nil, tgs_cons, dRevT_k, vRevT_k, revTD_k, dRevL_k, vRevL_k, revLD_k, dTupOf_k, vTupOf_k, tupD_k, dCatM_k, vCatM1_k, vCatM2_k, catM_k, dTryB_k, kTry_nx, kTry_rt, kTry_ex, kTry2_k, isi_tuple_non, isi_tuple_lst, isi_int_lst, isi_int_str, isi_int_non, bls_nil, bls_cons, bnd_k, bigL0, bigL1, bigL2, bigL3, bigP0, bigP1, bigL4, bigL5, bigL6, bigL7, bigL8, bigL9, bigL10, bigL11, bigL12, bigP2, bigP3, bigP4, bigP5, bigP6, bigP7, bigP8, bigP9, bigP10, bigP11, bigP12, List.length_cons, List.length_nil, List.replicate, List.map_cons, List.map_nil, List.cons_append, List.nil_append, List.append_nil, List.getElem?_cons_zero, List.getElem?_cons_succ, List.set_cons_zero, List.set_cons_succ, Option.map_some, Option.map_none, Bool.not_true, Bool.not_false, if_true, Bool.false_eq_true, if_false, Nat.reduceAdd, Nat.reduceSub, Nat.reduceEqDiff, Bool.and_true, Bool.true_and, Bool.and_self, ite_true, ite_false, Nat.reduceLeDiff, reduceIte, reduceCtorEq, eq_self, decide_true, decide_false, not_true_eq_false, not_false_eq_true, Bool.false_and, Bool.and_false, Bool.or_false, Bool.false_or, Bool.true_or, Bool.or_true]
theorem all_ff (x y : Bool) : [false, x, y].all id = false := rfl
theorem all_f3 (x y : Bool) : [x, y, false].all id = false := by cases x <;> cases y <;> rfl
section
variable {n : Nat} {gs : List Gm}
theorem bad1 (k : Ok n gs) (o : Bool) : fd_l_refused [.lst o (encs gs), .int n, .tup [.lst false [.int 0], .int 1, .int 2]] = some (.rt (.bl true)) := by
  have t3 : (((0 + 1 + 1 + 1 : Nat) : Int) == 3) = true := rfl
  refine refused_of ?_
  unfold fd_turned dn_turned
  simp only [kb_ok, kb_ex, kb_no, ret_k, lif_s, lif_n, dView_k, vView_k, dFlat_k, vFlat_int, vFlat_bl, vFlat_str, vFlat_non, dVar_k, kVar_k, dPk_k, kPk_k, dMv_k, kMv_k, dFrz_k, kFrz_k, dBin_k, vBin1_k, vBin2_k, dTest_k, vTest_k, dChain_k, vCh1_k, vCh2_k, vCh3_t, vCh3_f, dNot_k, vNot_k, dAnd_k, vAnd_t, vAnd_f, dOr_k, vOr_t, vOr_f, dAndV_k, vAndV_t, vAndV_f, dOrV_k, vOrV_t, vOrV_f, dNotV_k, vNotV_k, dIf_k, vIf_t, vIf_f, dCons_k, vCons1_k, vCons2_k, dTup_k, vTup_k, dLst_k, vLst_k, dCall_k, vCall_k, kc_rt, kc_ex, dItL_k, vItL_lst, vItL_sc, dItT_k, vItT_k, dRng1_k, vRng1_k, dRng2_k, vRng2_k, dCB_k, vCB_k, dIsi_k, vIsi_k, dListE_k, vListE_k, dListS_k, kLS_lst, dLRng1_k, vLRng1_k, dNeg_k, vNeg_k, dIxS_k, kIxS_k, vIxS_k, kIx2_lst, kIx2_tup, kIx2_sc, kIx3_k, dNx_k, dSeq_k, ks_nx, ks_rt, ks_bk, ks_ct, ks_ex, dDrop_k, kDrop_ok, kDrop_ex, dRet_k, kRet_ok, kRet_ex, dIfS_k, kIfS_t, kIfS_f, kIfS_ex, dSet_k, kSet_ok, kSet_ex, dAsg_k, kAsg_ok, kAsg_ex, kh_k, dAppend_k, kAp_k, kAp1_ok, kAp1_ex, kAp2_k, dAug_k, kAug_k, kAug1_ok, dSetItem_k, kSI_ok, kSI_ex, kSI1_k, kSI2_ok, kSI3_k, kSI4_k, dAugItem_k, kAI_k, kAI1_ok, kAI2_k, kAI3_k, kAI4_ok, kAI5_k, kAI6_k, dFor_k, kFor_ok, dComp_k, vComp_k, kCo_k, comp_nil, comp_cons, kc1_k, kc2_t, kc2_f, kc3_k, run_k, kRun_nx, kRun_rt, kRun_ex, hName_k, hNil_k, hCons_k, kH_k, hTup_k, gLt_int, gGt_int, gLe_int, gGe_int, gAdd_int, gMinus_int, gMul_int, gMod_int, gDiv_int, gIx_lst, gIx_tup, gIx_sc, gLen_lst, gLen_tup, gLen_sc, gAll_lst, gAny_lst, gSum_lst, isi_int_int, isi_int_bl, isi_bool_int, isi_bool_bl, isi_list_lst, isi_tuple_tup, isi_str_str, un_int, un_bl, un_str, un_non, un_sc, un_lst, un_tup, uns_nil, uns_cons, pl_int, pl_bl, pl_str, pl_non, pl_sc, pl_lst, pl_tup, pls_nil, pls_cons, ow_int, ow_bl, ow_str, ow_non, ow_lst, ow_tup, ows_nil, ows_cons, wipe_nil, wipe_cons, ints_nil, ints_cons, gBest_lst, gBest_tup, kBest_k, dKeep_k, vKeep_k, dCat_k, vCat1_k, vCat2_k, catD_k, dSorted_k, vSorted_k, sortD_k, dClear_k, kClr_k, dInsert_k, kIn_k, kIn1_ok, kIn2_ok, kIn3_k, tg_int, tg_bl, tg_str, tg_non, tg_tup, tgs_nil, tgs_cons, dRevT_k, vRevT_k, revTD_k, dRevL_k, vRevL_k, revLD_k, dTupOf_k, vTupOf_k, tupD_k, dCatM_k, vCatM1_k, vCatM2_k, catM_k, dTryB_k, kTry_nx, kTry_rt, kTry_ex, kTry2_k, isi_tuple_non, isi_tuple_lst, isi_int_lst, isi_int_str, isi_int_non, bls_nil, bls_cons, bnd_k, bigL0, bigL1, bigL2, bigL3, bigP0, bigP1, bigL4, bigL5, bigL6, bigL7, bigL8, bigL9, bigL10, bigL11, bigL12, bigP2, bigP3, bigP4, bigP5, bigP6, bigP7, bigP8, bigP9, bigP10, bigP11, bigP12, List.length_cons, List.length_nil, List.replicate, List.map_cons, List.map_nil, List.cons_append, List.nil_append, List.append_nil, List.getElem?_cons_zero, List.getElem?_cons_succ, List.set_cons_zero, List.set_cons_succ, Option.map_some, Option.map_none, Bool.not_true, Bool.not_false, if_true, Bool.false_eq_true, if_false, Nat.reduceAdd, Nat.reduceSub, Nat.reduceEqDiff, Bool.and_true, Bool.true_and, Bool.and_self, ite_true, ite_false, Nat.reduceLeDiff, reduceIte, reduceCtorEq, eq_self, decide_true, decide_false, not_true_eq_false, not_false_eq_true, Bool.false_and, Bool.and_false, Bool.or_false, Bool.false_or, Bool.true_or, Bool.or_true, gEq_k, gNe_k, fit_int, fit_bl, fit_non, fit_lst8, fit_tup8, fits_nil, fits_cons, eqv_ii, eqv_bb, eqv_tt, eqv_ll, eqvs_nil, eqvs_cons, encs_un, check_round_ok gs _ n k.n1 k.nT k.g k.s k.l k.a, t3, within_lst, within_int, all_ff]
theorem bad2 (k : Ok n gs) (o : Bool) : fd_l_refused [.lst o (encs gs), .int n, .non] = some (.rt (.bl true)) := by
  refine refused_of ?_
  unfold fd_turned dn_turned
  simp only [kb_ok, kb_ex, kb_no, ret_k, lif_s, lif_n, dView_k, vView_k, dFlat_k, vFlat_int, vFlat_bl, vFlat_str, vFlat_non, dVar_k, kVar_k, dPk_k, kPk_k, dMv_k, kMv_k, dFrz_k, kFrz_k, dBin_k, vBin1_k, vBin2_k, dTest_k, vTest_k, dChain_k, vCh1_k, vCh2_k, vCh3_t, vCh3_f, dNot_k, vNot_k, dAnd_k, vAnd_t, vAnd_f, dOr_k, vOr_t, vOr_f, dAndV_k, vAndV_t, vAndV_f, dOrV_k, vOrV_t, vOrV_f, dNotV_k, vNotV_k, dIf_k, vIf_t, vIf_f, dCons_k, vCons1_k, vCons2_k, dTup_k, vTup_k, dLst_k, vLst_k, dCall_k, vCall_k, kc_rt, kc_ex, dItL_k, vItL_lst, vItL_sc, dItT_k, vItT_k, dRng1_k, vRng1_k, dRng2_k, vRng2_k, dCB_k, vCB_k, dIsi_k, vIsi_k, dListE_k, vListE_k, dListS_k, kLS_lst, dLRng1_k, vLRng1_k, dNeg_k, vNeg_k, dIxS_k, kIxS_k, vIxS_k, kIx2_lst, kIx2_tup, kIx2_sc, kIx3_k, dNx_k, dSeq_k, ks_nx, ks_rt, ks_bk, ks_ct, ks_ex, dDrop_k, kDrop_ok, kDrop_ex, dRet_k, kRet_ok, kRet_ex, dIfS_k, kIfS_t, kIfS_f, kIfS_ex, dSet_k, kSet_ok, kSet_ex, dAsg_k, kAsg_ok, kAsg_ex, kh_k, dAppend_k, kAp_k, kAp1_ok, kAp1_ex, kAp2_k, dAug_k, kAug_k, kAug1_ok, dSetItem_k, kSI_ok, kSI_ex, kSI1_k, kSI2_ok, kSI3_k, kSI4_k, dAugItem_k, kAI_k, kAI1_ok, kAI2_k, kAI3_k, kAI4_ok, kAI5_k, kAI6_k, dFor_k, kFor_ok, dComp_k, vComp_k, kCo_k, comp_nil, comp_cons, kc1_k, kc2_t, kc2_f, kc3_k, run_k, kRun_nx, kRun_rt, kRun_ex, hName_k, hNil_k, hCons_k, kH_k, hTup_k, gLt_int, gGt_int, gLe_int, gGe_int, gAdd_int, gMinus_int, gMul_int, gMod_int, gDiv_int, gIx_lst, gIx_tup, gIx_sc, gLen_lst, gLen_tup, gLen_sc, gAll_lst, gAny_lst, gSum_lst, isi_int_int, isi_int_bl, isi_bool_int, isi_bool_bl, isi_list_lst, isi_tuple_tup, isi_str_str, un_int, un_bl, un_str, un_non, un_sc, un_lst, un_tup, uns_nil, uns_cons, pl_int, pl_bl, pl_str, pl_non, pl_sc, pl_lst, pl_tup, pls_nil, pls_cons, ow_int, ow_bl, ow_str, ow_non, ow_lst, ow_tup, ows_nil, ows_cons, wipe_nil, wipe_cons, ints_nil, ints_cons, gBest_lst, gBest_tup, kBest_k, dKeep_k, vKeep_k, dCat_k, vCat1_k, vCat2_k, catD_k, dSorted_k, vSorted_k, sortD_k, dClear_k, kClr_k, dInsert_k, kIn_k, kIn1_ok, kIn2_ok, kIn3_k, tg_int, tg_bl, tg_str, tg_non, tg_tup, tgs_nil, tgs_cons, dRevT_k, vRevT_k, revTD_k, dRevL_k, vRevL_k, revLD_k, dTupOf_k, vTupOf_k, tupD_k, dCatM_k, vCatM1_k, vCatM2_k, catM_k, dTryB_k, kTry_nx, kTry_rt, kTry_ex, kTry2_k, isi_tuple_non, isi_tuple_lst, isi_int_lst, isi_int_str, isi_int_non, bls_nil, bls_cons, bnd_k, bigL0, bigL1, bigL2, bigL3, bigP0, bigP1, bigL4, bigL5, bigL6, bigL7, bigL8, bigL9, bigL10, bigL11, bigL12, bigP2, bigP3, bigP4, bigP5, bigP6, bigP7, bigP8, bigP9, bigP10, bigP11, bigP12, List.length_cons, List.length_nil, List.replicate, List.map_cons, List.map_nil, List.cons_append, List.nil_append, List.append_nil, List.getElem?_cons_zero, List.getElem?_cons_succ, List.set_cons_zero, List.set_cons_succ, Option.map_some, Option.map_none, Bool.not_true, Bool.not_false, if_true, Bool.false_eq_true, if_false, Nat.reduceAdd, Nat.reduceSub, Nat.reduceEqDiff, Bool.and_true, Bool.true_and, Bool.and_self, ite_true, ite_false, Nat.reduceLeDiff, reduceIte, reduceCtorEq, eq_self, decide_true, decide_false, not_true_eq_false, not_false_eq_true, Bool.false_and, Bool.and_false, Bool.or_false, Bool.false_or, Bool.true_or, Bool.or_true, gEq_k, gNe_k, fit_int, fit_bl, fit_non, fit_lst8, fit_tup8, fits_nil, fits_cons, eqv_ii, eqv_bb, eqv_tt, eqv_ll, eqvs_nil, eqvs_cons, encs_un, check_round_ok gs _ n k.n1 k.nT k.g k.s k.l k.a]
theorem bad3 (k : Ok n gs) (o : Bool) : fd_l_refused [.lst o (encs gs), .int n, .tup [.int 0, .int 1]] = some (.rt (.bl true)) := by
  have t3 : (((0 + 1 + 1 : Nat) : Int) == 3) = false := rfl
  refine refused_of ?_
  unfold fd_turned dn_turned
  simp only [kb_ok, kb_ex, kb_no, ret_k, lif_s, lif_n, dView_k, vView_k, dFlat_k, vFlat_int, vFlat_bl, vFlat_str, vFlat_non, dVar_k, kVar_k, dPk_k, kPk_k, dMv_k, kMv_k, dFrz_k, kFrz_k, dBin_k, vBin1_k, vBin2_k, dTest_k, vTest_k, dChain_k, vCh1_k, vCh2_k, vCh3_t, vCh3_f, dNot_k, vNot_k, dAnd_k, vAnd_t, vAnd_f, dOr_k, vOr_t, vOr_f, dAndV_k, vAndV_t, vAndV_f, dOrV_k, vOrV_t, vOrV_f, dNotV_k, vNotV_k, dIf_k, vIf_t, vIf_f, dCons_k, vCons1_k, vCons2_k, dTup_k, vTup_k, dLst_k, vLst_k, dCall_k, vCall_k, kc_rt, kc_ex, dItL_k, vItL_lst, vItL_sc, dItT_k, vItT_k, dRng1_k, vRng1_k, dRng2_k, vRng2_k, dCB_k, vCB_k, dIsi_k, vIsi_k, dListE_k, vListE_k, dListS_k, kLS_lst, dLRng1_k, vLRng1_k, dNeg_k, vNeg_k, dIxS_k, kIxS_k, vIxS_k, kIx2_lst, kIx2_tup, kIx2_sc, kIx3_k, dNx_k, dSeq_k, ks_nx, ks_rt, ks_bk, ks_ct, ks_ex, dDrop_k, kDrop_ok, kDrop_ex, dRet_k, kRet_ok, kRet_ex, dIfS_k, kIfS_t, kIfS_f, kIfS_ex, dSet_k, kSet_ok, kSet_ex, dAsg_k, kAsg_ok, kAsg_ex, kh_k, dAppend_k, kAp_k, kAp1_ok, kAp1_ex, kAp2_k, dAug_k, kAug_k, kAug1_ok, dSetItem_k, kSI_ok, kSI_ex, kSI1_k, kSI2_ok, kSI3_k, kSI4_k, dAugItem_k, kAI_k, kAI1_ok, kAI2_k, kAI3_k, kAI4_ok, kAI5_k, kAI6_k, dFor_k, kFor_ok, dComp_k, vComp_k, kCo_k, comp_nil, comp_cons, kc1_k, kc2_t, kc2_f, kc3_k, run_k, kRun_nx, kRun_rt, kRun_ex, hName_k, hNil_k, hCons_k, kH_k, hTup_k, gLt_int, gGt_int, gLe_int, gGe_int, gAdd_int, gMinus_int, gMul_int, gMod_int, gDiv_int, gIx_lst, gIx_tup, gIx_sc, gLen_lst, gLen_tup, gLen_sc, gAll_lst, gAny_lst, gSum_lst, isi_int_int, isi_int_bl, isi_bool_int, isi_bool_bl, isi_list_lst, isi_tuple_tup, isi_str_str, un_int, un_bl, un_str, un_non, un_sc, un_lst, un_tup, uns_nil, uns_cons, pl_int, pl_bl, pl_str, pl_non, pl_sc, pl_lst, pl_tup, pls_nil, pls_cons, ow_int, ow_bl, ow_str, ow_non, ow_lst, ow_tup, ows_nil, ows_cons, wipe_nil, wipe_cons, ints_nil, ints_cons, gBest_lst, gBest_tup, kBest_k, dKeep_k, vKeep_k, dCat_k, vCat1_k, vCat2_k, catD_k, dSorted_k, vSorted_k, sortD_k, dClear_k, kClr_k, dInsert_k, kIn_k, kIn1_ok, kIn2_ok, kIn3_k, tg_int, tg_bl, tg_str, tg_non, tg_tup, tgs_nil, tgs_cons, dRevT_k, vRevT_k, revTD_k, dRevL_k, vRevL_k, revLD_k, dTupOf_k, vTupOf_k, tupD_k, dCatM_k, vCatM1_k, vCatM2_k, catM_k, dTryB_k, kTry_nx, kTry_rt, kTry_ex, kTry2_k, isi_tuple_non, isi_tuple_lst, isi_int_lst, isi_int_str, isi_int_non, bls_nil, bls_cons, bnd_k, bigL0, bigL1, bigL2, bigL3, bigP0, bigP1, bigL4, bigL5, bigL6, bigL7, bigL8, bigL9, bigL10, bigL11, bigL12, bigP2, bigP3, bigP4, bigP5, bigP6, bigP7, bigP8, bigP9, bigP10, bigP11, bigP12, List.length_cons, List.length_nil, List.replicate, List.map_cons, List.map_nil, List.cons_append, List.nil_append, List.append_nil, List.getElem?_cons_zero, List.getElem?_cons_succ, List.set_cons_zero, List.set_cons_succ, Option.map_some, Option.map_none, Bool.not_true, Bool.not_false, if_true, Bool.false_eq_true, if_false, Nat.reduceAdd, Nat.reduceSub, Nat.reduceEqDiff, Bool.and_true, Bool.true_and, Bool.and_self, ite_true, ite_false, Nat.reduceLeDiff, reduceIte, reduceCtorEq, eq_self, decide_true, decide_false, not_true_eq_false, not_false_eq_true, Bool.false_and, Bool.and_false, Bool.or_false, Bool.false_or, Bool.true_or, Bool.or_true, gEq_k, gNe_k, fit_int, fit_bl, fit_non, fit_lst8, fit_tup8, fits_nil, fits_cons, eqv_ii, eqv_bb, eqv_tt, eqv_ll, eqvs_nil, eqvs_cons, encs_un, check_round_ok gs _ n k.n1 k.nT k.g k.s k.l k.a, t3]
theorem bad4 (k : Ok n gs) (o : Bool) : fd_l_refused [.lst o (encs gs), .int n, .lst false [.int 0, .int 1, .int 2]] = some (.rt (.bl true)) := by
  refine refused_of ?_
  unfold fd_turned dn_turned
  simp only [kb_ok, kb_ex, kb_no, ret_k, lif_s, lif_n, dView_k, vView_k, dFlat_k, vFlat_int, vFlat_bl, vFlat_str, vFlat_non, dVar_k, kVar_k, dPk_k, kPk_k, dMv_k, kMv_k, dFrz_k, kFrz_k, dBin_k, vBin1_k, vBin2_k, dTest_k, vTest_k, dChain_k, vCh1_k, vCh2_k, vCh3_t, vCh3_f, dNot_k, vNot_k, dAnd_k, vAnd_t, vAnd_f, dOr_k, vOr_t, vOr_f, dAndV_k, vAndV_t, vAndV_f, dOrV_k, vOrV_t, vOrV_f, dNotV_k, vNotV_k, dIf_k, vIf_t, vIf_f, dCons_k, vCons1_k, vCons2_k, dTup_k, vTup_k, dLst_k, vLst_k, dCall_k, vCall_k, kc_rt, kc_ex, dItL_k, vItL_lst, vItL_sc, dItT_k, vItT_k, dRng1_k, vRng1_k, dRng2_k, vRng2_k, dCB_k, vCB_k, dIsi_k, vIsi_k, dListE_k, vListE_k, dListS_k, kLS_lst, dLRng1_k, vLRng1_k, dNeg_k, vNeg_k, dIxS_k, kIxS_k, vIxS_k, kIx2_lst, kIx2_tup, kIx2_sc, kIx3_k, dNx_k, dSeq_k, ks_nx, ks_rt, ks_bk, ks_ct, ks_ex, dDrop_k, kDrop_ok, kDrop_ex, dRet_k, kRet_ok, kRet_ex, dIfS_k, kIfS_t, kIfS_f, kIfS_ex, dSet_k, kSet_ok, kSet_ex, dAsg_k, kAsg_ok, kAsg_ex, kh_k, dAppend_k, kAp_k, kAp1_ok, kAp1_ex, kAp2_k, dAug_k, kAug_k, kAug1_ok, dSetItem_k, kSI_ok, kSI_ex, kSI1_k, kSI2_ok, kSI3_k, kSI4_k, dAugItem_k, kAI_k, kAI1_ok, kAI2_k, kAI3_k, kAI4_ok, kAI5_k, kAI6_k, dFor_k, kFor_ok, dComp_k, vComp_k, kCo_k, comp_nil, comp_cons, kc1_k, kc2_t, kc2_f, kc3_k, run_k, kRun_nx, kRun_rt, kRun_ex, hName_k, hNil_k, hCons_k, kH_k, hTup_k, gLt_int, gGt_int, gLe_int, gGe_int, gAdd_int, gMinus_int, gMul_int, gMod_int, gDiv_int, gIx_lst, gIx_tup, gIx_sc, gLen_lst, gLen_tup, gLen_sc, gAll_lst, gAny_lst, gSum_lst, isi_int_int, isi_int_bl, isi_bool_int, isi_bool_bl, isi_list_lst, isi_tuple_tup, isi_str_str, un_int, un_bl, un_str, un_non, un_sc, un_lst, un_tup, uns_nil, uns_cons, pl_int, pl_bl, pl_str, pl_non, pl_sc, pl_lst, pl_tup, pls_nil, pls_cons, ow_int, ow_bl, ow_str, ow_non, ow_lst, ow_tup, ows_nil, ows_cons, wipe_nil, wipe_cons, ints_nil, ints_cons, gBest_lst, gBest_tup, kBest_k, dKeep_k, vKeep_k, dCat_k, vCat1_k, vCat2_k, catD_k, dSorted_k, vSorted_k, sortD_k, dClear_k, kClr_k, dInsert_k, kIn_k, kIn1_ok, kIn2_ok, kIn3_k, tg_int, tg_bl, tg_str, tg_non, tg_tup, tgs_nil, tgs_cons, dRevT_k, vRevT_k, revTD_k, dRevL_k, vRevL_k, revLD_k, dTupOf_k, vTupOf_k, tupD_k, dCatM_k, vCatM1_k, vCatM2_k, catM_k, dTryB_k, kTry_nx, kTry_rt, kTry_ex, kTry2_k, isi_tuple_non, isi_tuple_lst, isi_int_lst, isi_int_str, isi_int_non, bls_nil, bls_cons, bnd_k, bigL0, bigL1, bigL2, bigL3, bigP0, bigP1, bigL4, bigL5, bigL6, bigL7, bigL8, bigL9, bigL10, bigL11, bigL12, bigP2, bigP3, bigP4, bigP5, bigP6, bigP7, bigP8, bigP9, bigP10, bigP11, bigP12, List.length_cons, List.length_nil, List.replicate, List.map_cons, List.map_nil, List.cons_append, List.nil_append, List.append_nil, List.getElem?_cons_zero, List.getElem?_cons_succ, List.set_cons_zero, List.set_cons_succ, Option.map_some, Option.map_none, Bool.not_true, Bool.not_false, if_true, Bool.false_eq_true, if_false, Nat.reduceAdd, Nat.reduceSub, Nat.reduceEqDiff, Bool.and_true, Bool.true_and, Bool.and_self, ite_true, ite_false, Nat.reduceLeDiff, reduceIte, reduceCtorEq, eq_self, decide_true, decide_false, not_true_eq_false, not_false_eq_true, Bool.false_and, Bool.and_false, Bool.or_false, Bool.false_or, Bool.true_or, Bool.or_true, gEq_k, gNe_k, fit_int, fit_bl, fit_non, fit_lst8, fit_tup8, fits_nil, fits_cons, eqv_ii, eqv_bb, eqv_tt, eqv_ll, eqvs_nil, eqvs_cons, encs_un, check_round_ok gs _ n k.n1 k.nT k.g k.s k.l k.a]
theorem bad5 (k : Ok n gs) (o : Bool) : fd_l_refused [.lst o (encs gs), .int n, .tup [.int 0, .int 1, .int n]] = some (.rt (.bl true)) := by
  have t3 : (((0 + 1 + 1 + 1 : Nat) : Int) == 3) = true := rfl
  have f : decide ((n : Int) ≤ (n : Int) - 1) = false := by simp; omega
  refine refused_of ?_
  unfold fd_turned dn_turned
  simp only [kb_ok, kb_ex, kb_no, ret_k, lif_s, lif_n, dView_k, vView_k, dFlat_k, vFlat_int, vFlat_bl, vFlat_str, vFlat_non, dVar_k, kVar_k, dPk_k, kPk_k, dMv_k, kMv_k, dFrz_k, kFrz_k, dBin_k, vBin1_k, vBin2_k, dTest_k, vTest_k, dChain_k, vCh1_k, vCh2_k, vCh3_t, vCh3_f, dNot_k, vNot_k, dAnd_k, vAnd_t, vAnd_f, dOr_k, vOr_t, vOr_f, dAndV_k, vAndV_t, vAndV_f, dOrV_k, vOrV_t, vOrV_f, dNotV_k, vNotV_k, dIf_k, vIf_t, vIf_f, dCons_k, vCons1_k, vCons2_k, dTup_k, vTup_k, dLst_k, vLst_k, dCall_k, vCall_k, kc_rt, kc_ex, dItL_k, vItL_lst, vItL_sc, dItT_k, vItT_k, dRng1_k, vRng1_k, dRng2_k, vRng2_k, dCB_k, vCB_k, dIsi_k, vIsi_k, dListE_k, vListE_k, dListS_k, kLS_lst, dLRng1_k, vLRng1_k, dNeg_k, vNeg_k, dIxS_k, kIxS_k, vIxS_k, kIx2_lst, kIx2_tup, kIx2_sc, kIx3_k, dNx_k, dSeq_k, ks_nx, ks_rt, ks_bk, ks_ct, ks_ex, dDrop_k, kDrop_ok, kDrop_ex, dRet_k, kRet_ok, kRet_ex, dIfS_k, kIfS_t, kIfS_f, kIfS_ex, dSet_k, kSet_ok, kSet_ex, dAsg_k, kAsg_ok, kAsg_ex, kh_k, dAppend_k, kAp_k, kAp1_ok, kAp1_ex, kAp2_k, dAug_k, kAug_k, kAug1_ok, dSetItem_k, kSI_ok, kSI_ex, kSI1_k, kSI2_ok, kSI3_k, kSI4_k, dAugItem_k, kAI_k, kAI1_ok, kAI2_k, kAI3_k, kAI4_ok, kAI5_k, kAI6_k, dFor_k, kFor_ok, dComp_k, vComp_k, kCo_k, comp_nil, comp_cons, kc1_k, kc2_t, kc2_f, kc3_k, run_k, kRun_nx, kRun_rt, kRun_ex, hName_k, hNil_k, hCons_k, kH_k, hTup_k, gLt_int, gGt_int, gLe_int, gGe_int, gAdd_int, gMinus_int, gMul_int, gMod_int, gDiv_int, gIx_lst, gIx_tup, gIx_sc, gLen_lst, gLen_tup, gLen_sc, gAll_lst, gAny_lst, gSum_lst, isi_int_int, isi_int_bl, isi_bool_int, isi_bool_bl, isi_list_lst, isi_tuple_tup, isi_str_str, un_int, un_bl, un_str, un_non, un_sc, un_lst, un_tup, uns_nil, uns_cons, pl_int, pl_bl, pl_str, pl_non, pl_sc, pl_lst, pl_tup, pls_nil, pls_cons, ow_int, ow_bl, ow_str, ow_non, ow_lst, ow_tup, ows_nil, ows_cons, wipe_nil, wipe_cons, ints_nil, ints_cons, gBest_lst, gBest_tup, kBest_k, dKeep_k, vKeep_k, dCat_k, vCat1_k, vCat2_k, catD_k, dSorted_k, vSorted_k, sortD_k, dClear_k, kClr_k, dInsert_k, kIn_k, kIn1_ok, kIn2_ok, kIn3_k, tg_int, tg_bl, tg_str, tg_non, tg_tup, tgs_nil, tgs_cons, dRevT_k, vRevT_k, revTD_k, dRevL_k, vRevL_k, revLD_k, dTupOf_k, vTupOf_k, tupD_k, dCatM_k, vCatM1_k, vCatM2_k, catM_k, dTryB_k, kTry_nx, kTry_rt, kTry_ex, kTry2_k, isi_tuple_non, isi_tuple_lst, isi_int_lst, isi_int_str, isi_int_non, bls_nil, bls_cons, bnd_k, bigL0, bigL1, bigL2, bigL3, bigP0, bigP1, bigL4, bigL5, bigL6, bigL7, bigL8, bigL9, bigL10, bigL11, bigL12, bigP2, bigP3, bigP4, bigP5, bigP6, bigP7, bigP8, bigP9, bigP10, bigP11, bigP12, List.length_cons, List.length_nil, List.replicate, List.map_cons, List.map_nil, List.cons_append, List.nil_append, List.append_nil, List.getElem?_cons_zero, List.getElem?_cons_succ, List.set_cons_zero, List.set_cons_succ, Option.map_some, Option.map_none, Bool.not_true, Bool.not_false, if_true, Bool.false_eq_true, if_false, Nat.reduceAdd, Nat.reduceSub, Nat.reduceEqDiff, Bool.and_true, Bool.true_and, Bool.and_self, ite_true, ite_false, Nat.reduceLeDiff, reduceIte, reduceCtorEq, eq_self, decide_true, decide_false, not_true_eq_false, not_false_eq_true, Bool.false_and, Bool.and_false, Bool.or_false, Bool.false_or, Bool.true_or, Bool.or_true, gEq_k, gNe_k, fit_int, fit_bl, fit_non, fit_lst8, fit_tup8, fits_nil, fits_cons, eqv_ii, eqv_bb, eqv_tt, eqv_ll, eqvs_nil, eqvs_cons, encs_un, check_round_ok gs _ n k.n1 k.nT k.g k.s k.l k.a, t3, within_int, f, all_f3]
theorem bad6 (k : Ok n gs) (o : Bool) : fd_l_refused [.lst o (encs gs), .int n, .tup [.int (-1), .int 0, .int 1]] = some (.rt (.bl true)) := by
  have t3 : (((0 + 1 + 1 + 1 : Nat) : Int) == 3) = true := rfl
  have f : decide ((0 : Int) ≤ -1) = false := rfl
  refine refused_of ?_
  unfold fd_turned dn_turned
  simp only [kb_ok, kb_ex, kb_no, ret_k, lif_s, lif_n, dView_k, vView_k, dFlat_k, vFlat_int, vFlat_bl, vFlat_str, vFlat_non, dVar_k, kVar_k, dPk_k, kPk_k, dMv_k, kMv_k, dFrz_k, kFrz_k, dBin_k, vBin1_k, vBin2_k, dTest_k, vTest_k, dChain_k, vCh1_k, vCh2_k, vCh3_t, vCh3_f, dNot_k, vNot_k, dAnd_k, vAnd_t, vAnd_f, dOr_k, vOr_t, vOr_f, dAndV_k, vAndV_t, vAndV_f, dOrV_k, vOrV_t, vOrV_f, dNotV_k, vNotV_k, dIf_k, vIf_t, vIf_f, dCons_k, vCons1_k, vCons2_k, dTup_k, vTup_k, dLst_k, vLst_k, dCall_k, vCall_k, kc_rt, kc_ex, dItL_k, vItL_lst, vItL_sc, dItT_k, vItT_k, dRng1_k, vRng1_k, dRng2_k, vRng2_k, dCB_k, vCB_k, dIsi_k, vIsi_k, dListE_k, vListE_k, dListS_k, kLS_lst, dLRng1_k, vLRng1_k, dNeg_k, vNeg_k, dIxS_k, kIxS_k, vIxS_k, kIx2_lst, kIx2_tup, kIx2_sc, kIx3_k, dNx_k, dSeq_k, ks_nx, ks_rt, ks_bk, ks_ct, ks_ex, dDrop_k, kDrop_ok, kDrop_ex, dRet_k, kRet_ok, kRet_ex, dIfS_k, kIfS_t, kIfS_f, kIfS_ex, dSet_k, kSet_ok, kSet_ex, dAsg_k, kAsg_ok, kAsg_ex, kh_k, dAppend_k, kAp_k, kAp1_ok, kAp1_ex, kAp2_k, dAug_k, kAug_k, kAug1_ok, dSetItem_k, kSI_ok, kSI_ex, kSI1_k, kSI2_ok, kSI3_k, kSI4_k, dAugItem_k, kAI_k, kAI1_ok, kAI2_k, kAI3_k, kAI4_ok, kAI5_k, kAI6_k, dFor_k, kFor_ok, dComp_k, vComp_k, kCo_k, comp_nil, comp_cons, kc1_k, kc2_t, kc2_f, kc3_k, run_k, kRun_nx, kRun_rt, kRun_ex, hName_k, hNil_k, hCons_k, kH_k, hTup_k, gLt_int, gGt_int, gLe_int, gGe_int, gAdd_int, gMinus_int, gMul_int, gMod_int, gDiv_int, gIx_lst, gIx_tup, gIx_sc, gLen_lst, gLen_tup, gLen_sc, gAll_lst, gAny_lst, gSum_lst, isi_int_int, isi_int_bl, isi_bool_int, isi_bool_bl, isi_list_lst, isi_tuple_tup, isi_str_str, un_int, un_bl, un_str, un_non, un_sc, un_lst, un_tup, uns_nil, uns_cons, pl_int, pl_bl, pl_str, pl_non, pl_sc, pl_lst, pl_tup, pls_nil, pls_cons, ow_int, ow_bl, ow_str, ow_non, ow_lst, ow_tup, ows_nil, ows_cons, wipe_nil, wipe_cons, ints_nil, ints_cons, gBest_lst, gBest_tup, kBest_k, dKeep_k, vKeep_k, dCat_k, vCat1_k, vCat2_k, catD_k, dSorted_k, vSorted_k, sortD_k, dClear_k, kClr_k, dInsert_k, kIn_k, kIn1_ok, kIn2_ok, kIn3_k, tg_int, tg_bl, tg_str, tg_non, tg_tup, tgs_nil, tgs_cons, dRevT_k, vRevT_k, revTD_k, dRevL_k, vRevL_k, revLD_k, dTupOf_k, vTupOf_k, tupD_k, dCatM_k, vCatM1_k, vCatM2_k, catM_k, dTryB_k, kTry_nx, kTry_rt, kTry_ex, kTry2_k, isi_tuple_non, isi_tuple_lst, isi_int_lst, isi_int_str, isi_int_non, bls_nil, bls_cons, bnd_k, bigL0, bigL1, bigL2, bigL3, bigP0, bigP1, bigL4, bigL5, bigL6, bigL7, bigL8, bigL9, bigL10, bigL11, bigL12, bigP2, bigP3, bigP4, bigP5, bigP6, bigP7, bigP8, bigP9, bigP10, bigP11, bigP12, List.length_cons, List.length_nil, List.replicate, List.map_cons, List.map_nil, List.cons_append, List.nil_append, List.append_nil, List.getElem?_cons_zero, List.getElem?_cons_succ, List.set_cons_zero, List.set_cons_succ, Option.map_some, Option.map_none, Bool.not_true, Bool.not_false, if_true, Bool.false_eq_true, if_false, Nat.reduceAdd, Nat.reduceSub, Nat.reduceEqDiff, Bool.and_true, Bool.true_and, Bool.and_self, ite_true, ite_false, Nat.reduceLeDiff, reduceIte, reduceCtorEq, eq_self, decide_true, decide_false, not_true_eq_false, not_false_eq_true, Bool.false_and, Bool.and_false, Bool.or_false, Bool.false_or, Bool.true_or, Bool.or_true, gEq_k, gNe_k, fit_int, fit_bl, fit_non, fit_lst8, fit_tup8, fits_nil, fits_cons, eqv_ii, eqv_bb, eqv_tt, eqv_ll, eqvs_nil, eqvs_cons, encs_un, check_round_ok gs _ n k.n1 k.nT k.g k.s k.l k.a, t3, within_int, f, all_ff]
theorem bad7 (k : Ok n gs) (o : Bool) : fd_l_refused [.lst o (encs gs), .int n, .tup [.bl true, .int 0, .int 1]] = some (.rt (.bl true)) := by
  have t3 : (((0 + 1 + 1 + 1 : Nat) : Int) == 3) = true := rfl
  refine refused_of ?_
  unfold fd_turned dn_turned
  simp only [kb_ok, kb_ex, kb_no, ret_k, lif_s, lif_n, dView_k, vView_k, dFlat_k, vFlat_int, vFlat_bl, vFlat_str, vFlat_non, dVar_k, kVar_k, dPk_k, kPk_k, dMv_k, kMv_k, dFrz_k, kFrz_k, dBin_k, vBin1_k, vBin2_k, dTest_k, vTest_k, dChain_k, vCh1_k, vCh2_k, vCh3_t, vCh3_f, dNot_k, vNot_k, dAnd_k, vAnd_t, vAnd_f, dOr_k, vOr_t, vOr_f, dAndV_k, vAndV_t, vAndV_f, dOrV_k, vOrV_t, vOrV_f, dNotV_k, vNotV_k, dIf_k, vIf_t, vIf_f, dCons_k, vCons1_k, vCons2_k, dTup_k, vTup_k, dLst_k, vLst_k, dCall_k, vCall_k, kc_rt, kc_ex, dItL_k, vItL_lst, vItL_sc, dItT_k, vItT_k, dRng1_k, vRng1_k, dRng2_k, vRng2_k, dCB_k, vCB_k, dIsi_k, vIsi_k, dListE_k, vListE_k, dListS_k, kLS_lst, dLRng1_k, vLRng1_k, dNeg_k, vNeg_k, dIxS_k, kIxS_k, vIxS_k, kIx2_lst, kIx2_tup, kIx2_sc, kIx3_k, dNx_k, dSeq_k, ks_nx, ks_rt, ks_bk, ks_ct, ks_ex, dDrop_k, kDrop_ok, kDrop_ex, dRet_k, kRet_ok, kRet_ex, dIfS_k, kIfS_t, kIfS_f, kIfS_ex, dSet_k, kSet_ok, kSet_ex, dAsg_k, kAsg_ok, kAsg_ex, kh_k, dAppend_k, kAp_k, kAp1_ok, kAp1_ex, kAp2_k, dAug_k, kAug_k, kAug1_ok, dSetItem_k, kSI_ok, kSI_ex, kSI1_k, kSI2_ok, kSI3_k, kSI4_k, dAugItem_k, kAI_k, kAI1_ok, kAI2_k, kAI3_k, kAI4_ok, kAI5_k, kAI6_k, dFor_k, kFor_ok, dComp_k, vComp_k, kCo_k, comp_nil, comp_cons, kc1_k, kc2_t, kc2_f, kc3_k, run_k, kRun_nx, kRun_rt, kRun_ex, hName_k, hNil_k, hCons_k, kH_k, hTup_k, gLt_int, gGt_int, gLe_int, gGe_int, gAdd_int, gMinus_int, gMul_int, gMod_int, gDiv_int, gIx_lst, gIx_tup, gIx_sc, gLen_lst, gLen_tup, gLen_sc, gAll_lst, gAny_lst, gSum_lst, isi_int_int, isi_int_bl, isi_bool_int, isi_bool_bl, isi_list_lst, isi_tuple_tup, isi_str_str, un_int, un_bl, un_str, un_non, un_sc, un_lst, un_tup, uns_nil, uns_cons, pl_int, pl_bl, pl_str, pl_non, pl_sc, pl_lst, pl_tup, pls_nil, pls_cons, ow_int, ow_bl, ow_str, ow_non, ow_lst, ow_tup, ows_nil, ows_cons, wipe_nil, wipe_cons, ints_nil, ints_cons, gBest_lst, gBest_tup, kBest_k, dKeep_k, vKeep_k, dCat_k, vCat1_k, vCat2_k, catD_k, dSorted_k, vSorted_k, sortD_k, dClear_k, kClr_k, dInsert_k, kIn_k, kIn1_ok, kIn2_ok, kIn3_k, tg_int, tg_bl, tg_str, tg_non, tg_tup, tgs_nil, tgs_cons, dRevT_k, vRevT_k, revTD_k, dRevL_k, vRevL_k, revLD_k, dTupOf_k, vTupOf_k, tupD_k, dCatM_k, vCatM1_k, vCatM2_k, catM_k, dTryB_k, kTry_nx, kTry_rt, kTry_ex, kTry2_k, isi_tuple_non, isi_tuple_lst, isi_int_lst, isi_int_str, isi_int_non, bls_nil, bls_cons, bnd_k, bigL0, bigL1, bigL2, bigL3, bigP0, bigP1, bigL4, bigL5, bigL6, bigL7, bigL8, bigL9, bigL10, bigL11, bigL12, bigP2, bigP3, bigP4, bigP5, bigP6, bigP7, bigP8, bigP9, bigP10, bigP11, bigP12, List.length_cons, List.length_nil, List.replicate, List.map_cons, List.map_nil, List.cons_append, List.nil_append, List.append_nil, List.getElem?_cons_zero, List.getElem?_cons_succ, List.set_cons_zero, List.set_cons_succ, Option.map_some, Option.map_none, Bool.not_true, Bool.not_false, if_true, Bool.false_eq_true, if_false, Nat.reduceAdd, Nat.reduceSub, Nat.reduceEqDiff, Bool.and_true, Bool.true_and, Bool.and_self, ite_true, ite_false, Nat.reduceLeDiff, reduceIte, reduceCtorEq, eq_self, decide_true, decide_false, not_true_eq_false, not_false_eq_true, Bool.false_and, Bool.and_false, Bool.or_false, Bool.false_or, Bool.true_or, Bool.or_true, gEq_k, gNe_k, fit_int, fit_bl, fit_non, fit_lst8, fit_tup8, fits_nil, fits_cons, eqv_ii, eqv_bb, eqv_tt, eqv_ll, eqvs_nil, eqvs_cons, encs_un, check_round_ok gs _ n k.n1 k.nT k.g k.s k.l k.a, t3, within_bl, within_int, all_ff]
theorem bad8 (k : Ok n gs) (o : Bool) : fd_l_refused [.lst o (encs gs), .int n, .tup [.str "0", .str "1", .str "2"]] = some (.rt (.bl true)) := by
  have t3 : (((0 + 1 + 1 + 1 : Nat) : Int) == 3) = true := rfl
  refine refused_of ?_
  unfold fd_turned dn_turned
  simp only [kb_ok, kb_ex, kb_no, ret_k, lif_s, lif_n, dView_k, vView_k, dFlat_k, vFlat_int, vFlat_bl, vFlat_str, vFlat_non, dVar_k, kVar_k, dPk_k, kPk_k, dMv_k, kMv_k, dFrz_k, kFrz_k, dBin_k, vBin1_k, vBin2_k, dTest_k, vTest_k, dChain_k, vCh1_k, vCh2_k, vCh3_t, vCh3_f, dNot_k, vNot_k, dAnd_k, vAnd_t, vAnd_f, dOr_k, vOr_t, vOr_f, dAndV_k, vAndV_t, vAndV_f, dOrV_k, vOrV_t, vOrV_f, dNotV_k, vNotV_k, dIf_k, vIf_t, vIf_f, dCons_k, vCons1_k, vCons2_k, dTup_k, vTup_k, dLst_k, vLst_k, dCall_k, vCall_k, kc_rt, kc_ex, dItL_k, vItL_lst, vItL_sc, dItT_k, vItT_k, dRng1_k, vRng1_k, dRng2_k, vRng2_k, dCB_k, vCB_k, dIsi_k, vIsi_k, dListE_k, vListE_k, dListS_k, kLS_lst, dLRng1_k, vLRng1_k, dNeg_k, vNeg_k, dIxS_k, kIxS_k, vIxS_k, kIx2_lst, kIx2_tup, kIx2_sc, kIx3_k, dNx_k, dSeq_k, ks_nx, ks_rt, ks_bk, ks_ct, ks_ex, dDrop_k, kDrop_ok, kDrop_ex, dRet_k, kRet_ok, kRet_ex, dIfS_k, kIfS_t, kIfS_f, kIfS_ex, dSet_k, kSet_ok, kSet_ex, dAsg_k, kAsg_ok, kAsg_ex, kh_k, dAppend_k, kAp_k, kAp1_ok, kAp1_ex, kAp2_k, dAug_k, kAug_k, kAug1_ok, dSetItem_k, kSI_ok, kSI_ex, kSI1_k, kSI2_ok, kSI3_k, kSI4_k, dAugItem_k, kAI_k, kAI1_ok, kAI2_k, kAI3_k, kAI4_ok, kAI5_k, kAI6_k, dFor_k, kFor_ok, dComp_k, vComp_k, kCo_k, comp_nil, comp_cons, kc1_k, kc2_t, kc2_f, kc3_k, run_k, kRun_nx, kRun_rt, kRun_ex, hName_k, hNil_k, hCons_k, kH_k, hTup_k, gLt_int, gGt_int, gLe_int, gGe_int, gAdd_int, gMinus_int, gMul_int, gMod_int, gDiv_int, gIx_lst, gIx_tup, gIx_sc, gLen_lst, gLen_tup, gLen_sc, gAll_lst, gAny_lst, gSum_lst, isi_int_int, isi_int_bl, isi_bool_int, isi_bool_bl, isi_list_lst, isi_tuple_tup, isi_str_str, un_int, un_bl, un_str, un_non, un_sc, un_lst, un_tup, uns_nil, uns_cons, pl_int, pl_bl, pl_str, pl_non, pl_sc, pl_lst, pl_tup, pls_nil, pls_cons, ow_int, ow_bl, ow_str, ow_non, ow_lst, ow_tup, ows_nil, ows_cons, wipe_nil, wipe_cons, ints_nil, ints_cons, gBest_lst, gBest_tup, kBest_k, dKeep_k, vKeep_k, dCat_k, vCat1_k, vCat2_k, catD_k, dSorted_k, vSorted_k, sortD_k, dClear_k, kClr_k, dInsert_k, kIn_k, kIn1_ok, kIn2_ok, kIn3_k, tg_int, tg_bl, tg_str, tg_non, tg_tup, tgs_nil, tgs_cons, dRevT_k, vRevT_k, revTD_k, dRevL_k, vRevL_k, revLD_k, dTupOf_k, vTupOf_k, tupD_k, dCatM_k, vCatM1_k, vCatM2_k, catM_k, dTryB_k, kTry_nx, kTry_rt, kTry_ex, kTry2_k, isi_tuple_non, isi_tuple_lst, isi_int_lst, isi_int_str, isi_int_non, bls_nil, bls_cons, bnd_k, bigL0, bigL1, bigL2, bigL3, bigP0, bigP1, bigL4, bigL5, bigL6, bigL7, bigL8, bigL9, bigL10, bigL11, bigL12, bigP2, bigP3, bigP4, bigP5, bigP6, bigP7, bigP8, bigP9, bigP10, bigP11, bigP12, List.length_cons, List.length_nil, List.replicate, List.map_cons, List.map_nil, List.cons_append, List.nil_append, List.append_nil, List.getElem?_cons_zero, List.getElem?_cons_succ, List.set_cons_zero, List.set_cons_succ, Option.map_some, Option.map_none, Bool.not_true, Bool.not_false, if_true, Bool.false_eq_true, if_false, Nat.reduceAdd, Nat.reduceSub, Nat.reduceEqDiff, Bool.and_true, Bool.true_and, Bool.and_self, ite_true, ite_false, Nat.reduceLeDiff, reduceIte, reduceCtorEq, eq_self, decide_true, decide_false, not_true_eq_false, not_false_eq_true, Bool.false_and, Bool.and_false, Bool.or_false, Bool.false_or, Bool.true_or, Bool.or_true, gEq_k, gNe_k, fit_int, fit_bl, fit_non, fit_lst8, fit_tup8, fits_nil, fits_cons, eqv_ii, eqv_bb, eqv_tt, eqv_ll, eqvs_nil, eqvs_cons, encs_un, check_round_ok gs _ n k.n1 k.nT k.g k.s k.l k.a, t3, within_str, within_int, all_ff]
theorem bad9 (k : Ok n gs) (o : Bool) : fd_l_refused [.lst o (encs gs), .int n, .tup [.int 0, .int 1, .int 2, .int 0]] = some (.rt (.bl true)) := by
  have t3 : (((0 + 1 + 1 + 1 + 1 : Nat) : Int) == 3) = false := rfl
  refine refused_of ?_
  unfold fd_turned dn_turned
  simp only [kb_ok, kb_ex, kb_no, ret_k, lif_s, lif_n, dView_k, vView_k, dFlat_k, vFlat_int, vFlat_bl, vFlat_str, vFlat_non, dVar_k, kVar_k, dPk_k, kPk_k, dMv_k, kMv_k, dFrz_k, kFrz_k, dBin_k, vBin1_k, vBin2_k, dTest_k, vTest_k, dChain_k, vCh1_k, vCh2_k, vCh3_t, vCh3_f, dNot_k, vNot_k, dAnd_k, vAnd_t, vAnd_f, dOr_k, vOr_t, vOr_f, dAndV_k, vAndV_t, vAndV_f, dOrV_k, vOrV_t, vOrV_f, dNotV_k, vNotV_k, dIf_k, vIf_t, vIf_f, dCons_k, vCons1_k, vCons2_k, dTup_k, vTup_k, dLst_k, vLst_k, dCall_k, vCall_k, kc_rt, kc_ex, dItL_k, vItL_lst, vItL_sc, dItT_k, vItT_k, dRng1_k, vRng1_k, dRng2_k, vRng2_k, dCB_k, vCB_k, dIsi_k, vIsi_k, dListE_k, vListE_k, dListS_k, kLS_lst, dLRng1_k, vLRng1_k, dNeg_k, vNeg_k, dIxS_k, kIxS_k, vIxS_k, kIx2_lst, kIx2_tup, kIx2_sc, kIx3_k, dNx_k, dSeq_k, ks_nx, ks_rt, ks_bk, ks_ct, ks_ex, dDrop_k, kDrop_ok, kDrop_ex, dRet_k, kRet_ok, kRet_ex, dIfS_k, kIfS_t, kIfS_f, kIfS_ex, dSet_k, kSet_ok, kSet_ex, dAsg_k, kAsg_ok, kAsg_ex, kh_k, dAppend_k, kAp_k, kAp1_ok, kAp1_ex, kAp2_k, dAug_k, kAug_k, kAug1_ok, dSetItem_k, kSI_ok, kSI_ex, kSI1_k, kSI2_ok, kSI3_k, kSI4_k, dAugItem_k, kAI_k, kAI1_ok, kAI2_k, kAI3_k, kAI4_ok, kAI5_k, kAI6_k, dFor_k, kFor_ok, dComp_k, vComp_k, kCo_k, comp_nil, comp_cons, kc1_k, kc2_t, kc2_f, kc3_k, run_k, kRun_nx, kRun_rt, kRun_ex, hName_k, hNil_k, hCons_k, kH_k, hTup_k, gLt_int, gGt_int, gLe_int, gGe_int, gAdd_int, gMinus_int, gMul_int, gMod_int, gDiv_int, gIx_lst, gIx_tup, gIx_sc, gLen_lst, gLen_tup, gLen_sc, gAll_lst, gAny_lst, gSum_lst, isi_int_int, isi_int_bl, isi_bool_int, isi_bool_bl, isi_list_lst, isi_tuple_tup, isi_str_str, un_int, un_bl, un_str, un_non, un_sc, un_lst, un_tup, uns_nil, uns_cons, pl_int, pl_bl, pl_str, pl_non, pl_sc, pl_lst, pl_tup, pls_nil, pls_cons, ow_int, ow_bl, ow_str, ow_non, ow_lst, ow_tup, ows_nil, ows_cons, wipe_nil, wipe_cons, ints_nil, ints_cons, gBest_lst, gBest_tup, kBest_k, dKeep_k, vKeep_k, dCat_k, vCat1_k, vCat2_k, catD_k, dSorted_k, vSorted_k, sortD_k, dClear_k, kClr_k, dInsert_k, kIn_k, kIn1_ok, kIn2_ok, kIn3_k, tg_int, tg_bl, tg_str, tg_non, tg_tup, tgs_nil, tgs_cons, dRevT_k, vRevT_k, revTD_k, dRevL_k, vRevL_k, revLD_k, dTupOf_k, vTupOf_k, tupD_k, dCatM_k, vCatM1_k, vCatM2_k, catM_k, dTryB_k, kTry_nx, kTry_rt, kTry_ex, kTry2_k, isi_tuple_non, isi_tuple_lst, isi_int_lst, isi_int_str, isi_int_non, bls_nil, bls_cons, bnd_k, bigL0, bigL1, bigL2, bigL3, bigP0, bigP1, bigL4, bigL5, bigL6, bigL7, bigL8, bigL9, bigL10, bigL11, bigL12, bigP2, bigP3, bigP4, bigP5, bigP6, bigP7, bigP8, bigP9, bigP10, bigP11, bigP12, List.length_cons, List.length_nil, List.replicate, List.map_cons, List.map_nil, List.cons_append, List.nil_append, List.append_nil, List.getElem?_cons_zero, List.getElem?_cons_succ, List.set_cons_zero, List.set_cons_succ, Option.map_some, Option.map_none, Bool.not_true, Bool.not_false, if_true, Bool.false_eq_true, if_false, Nat.reduceAdd, Nat.reduceSub, Nat.reduceEqDiff, Bool.and_true, Bool.true_and, Bool.and_self, ite_true, ite_false, Nat.reduceLeDiff, reduceIte, reduceCtorEq, eq_self, decide_true, decide_false, not_true_eq_false, not_false_eq_true, Bool.false_and, Bool.and_false, Bool.or_false, Bool.false_or, Bool.true_or, Bool.or_true, gEq_k, gNe_k, fit_int, fit_bl, fit_non, fit_lst8, fit_tup8, fits_nil, fits_cons, eqv_ii, eqv_bb, eqv_tt, eqv_ll, eqvs_nil, eqvs_cons, encs_un, check_round_ok gs _ n k.n1 k.nT k.g k.s k.l k.a, t3]
end
def num8 (c : Int) : Nat := (1 + c % 8).toNat
theorem num8_eq (c : Int) : 1 + c % 8 = (num8 c : Int) := by
  have := Int.emod_nonneg c (b := 8) (by decide)
  unfold num8; omega
theorem num8_ge (c : Int) : 1 ≤ num8 c := by
  have := Int.emod_nonneg c (b := 8) (by decide)
  unfold num8; omega
theorem num8_le (c : Int) : num8 c ≤ 10 := by
  have := Int.emod_lt_of_pos c (b := 8) (by decide)
  unfold num8; omega
theorem winsL_congr {gs hs : List Gm} (n : Nat) (h : ∀ i, wins gs i = wins hs i) : winsL gs n = winsL hs n := by
  unfold winsL
  exact List.map_congr_left fun i _ => by rw [h i]
theorem ring_wins {n : Nat} {gs : List Gm} (t : Tour n gs) {a b c : Nat} (h : (ringOf a b c).all (fun p => decide (p ∈ gs)) = true) (i : Nat) : wins (gs.map (flip (ringOf a b c))) i = wins gs i := by
  have hm : ∀ p ∈ ringOf a b c, p ∈ gs := fun p hp => by simpa using List.all_eq_true.1 h p hp
  have ab : a ≠ b := fun e => by
    subst e
    have := hm (a, a) (by simp [ringOf])
    exact t.asym _ _ this this
  have bc : b ≠ c := fun e => by
    subst e
    have := hm (b, b) (by simp [ringOf])
    exact t.asym _ _ this this
  have ca : c ≠ a := fun e => by
    subst e
    have := hm (c, c) (by simp [ringOf])
    exact t.asym _ _ this this
  refine wins_flip t.nd ?_ hm i ?_
  · simp [ringOf, ab, bc, ca, Ne.symm ca]
  · simp only [ringOf, List.countP_cons, List.countP_nil]
    omega
theorem law_true : ∀ ns : List Int, ns.length ≤ 63 → fd_law [.sc ns] = some (.rt (.bl true)) := by
  intro ns _
  have hn := num8_eq (cell ns 0)
  have n1 := num8_ge (cell ns 0)
  have n10 := num8_le (cell ns 0)
  generalize hN : num8 (cell ns 0) = n at hn n1 n10
  have hR := round_by (cell ns 1) n n10
  generalize hW : fw (cell ns 1) n = w at hR
  have hl := round_len w n10
  have gR := Gms.round w n
  have k : Ok n (round w n) := ⟨n1, n10, gR, Srt.round w n, by omega, round_all w n10⟩
  have t := tour_round w n
  have fl := fun R => round_flip w n R
  generalize round w n = gs at hR hl gR k t fl
  have p8 : (0 : Int) < 8 := by decide
  have b4 : b62 4 = true := by decide
  have r4 : rngD 0 (Int.toNat 4) = [0, 1, 2, 3].map fun k : Nat => D.int (k : Int) := rfl
  have c5 : ∀ x, cMul 5 x = true := fun x => by simp [cMul]
  unfold fd_law dn_law
  simp only [kb_ok, kb_ex, kb_no, ret_k, lif_s, lif_n, dView_k, vView_k, dFlat_k, vFlat_int, vFlat_bl, vFlat_str, vFlat_non, dVar_k, kVar_k, dPk_k, kPk_k, dMv_k, kMv_k, dFrz_k, kFrz_k, dBin_k, vBin1_k, vBin2_k, dTest_k, vTest_k, dChain_k, vCh1_k, vCh2_k, vCh3_t, vCh3_f, dNot_k, vNot_k, dAnd_k, vAnd_t, vAnd_f, dOr_k, vOr_t, vOr_f, dAndV_k, vAndV_t, vAndV_f, dOrV_k, vOrV_t, vOrV_f, dNotV_k, vNotV_k, dIf_k, vIf_t, vIf_f, dCons_k, vCons1_k, vCons2_k, dTup_k, vTup_k, dLst_k, vLst_k, dCall_k, vCall_k, kc_rt, kc_ex, dItL_k, vItL_lst, vItL_sc, dItT_k, vItT_k, dRng1_k, vRng1_k, dRng2_k, vRng2_k, dCB_k, vCB_k, dIsi_k, vIsi_k, dListE_k, vListE_k, dListS_k, kLS_lst, dLRng1_k, vLRng1_k, dNeg_k, vNeg_k, dIxS_k, kIxS_k, vIxS_k, kIx2_lst, kIx2_tup, kIx2_sc, kIx3_k, dNx_k, dSeq_k, ks_nx, ks_rt, ks_bk, ks_ct, ks_ex, dDrop_k, kDrop_ok, kDrop_ex, dRet_k, kRet_ok, kRet_ex, dIfS_k, kIfS_t, kIfS_f, kIfS_ex, dSet_k, kSet_ok, kSet_ex, dAsg_k, kAsg_ok, kAsg_ex, kh_k, dAppend_k, kAp_k, kAp1_ok, kAp1_ex, kAp2_k, dAug_k, kAug_k, kAug1_ok, dSetItem_k, kSI_ok, kSI_ex, kSI1_k, kSI2_ok, kSI3_k, kSI4_k, dAugItem_k, kAI_k, kAI1_ok, kAI2_k, kAI3_k, kAI4_ok, kAI5_k, kAI6_k, dFor_k, kFor_ok, dComp_k, vComp_k, kCo_k, comp_nil, comp_cons, kc1_k, kc2_t, kc2_f, kc3_k, run_k, kRun_nx, kRun_rt, kRun_ex, hName_k, hNil_k, hCons_k, kH_k, hTup_k, gLt_int, gGt_int, gLe_int, gGe_int, gAdd_int, gMinus_int, gMul_int, gMod_int, gDiv_int, gIx_lst, gIx_tup, gIx_sc, gLen_lst, gLen_tup, gLen_sc, gAll_lst, gAny_lst, gSum_lst, isi_int_int, isi_int_bl, isi_bool_int, isi_bool_bl, isi_list_lst, isi_tuple_tup, isi_str_str, un_int, un_bl, un_str, un_non, un_sc, un_lst, un_tup, uns_nil, uns_cons, pl_int, pl_bl, pl_str, pl_non, pl_sc, pl_lst, pl_tup, pls_nil, pls_cons, ow_int, ow_bl, ow_str, ow_non, ow_lst, ow_tup, ows_nil, ows_cons, wipe_nil, wipe_cons, ints_nil, ints_cons, gBest_lst, gBest_tup, kBest_k, dKeep_k, vKeep_k, dCat_k, vCat1_k, vCat2_k, catD_k, dSorted_k, vSorted_k, sortD_k, dClear_k, kClr_k, dInsert_k, kIn_k, kIn1_ok, kIn2_ok, kIn3_k, tg_int, tg_bl, tg_str, tg_non, tg_tup, tgs_nil, tgs_cons, dRevT_k, vRevT_k, revTD_k, dRevL_k, vRevL_k, revLD_k, dTupOf_k, vTupOf_k, tupD_k, dCatM_k, vCatM1_k, vCatM2_k, catM_k, dTryB_k, kTry_nx, kTry_rt, kTry_ex, kTry2_k, isi_tuple_non, isi_tuple_lst, isi_int_lst, isi_int_str, isi_int_non, bls_nil, bls_cons, bnd_k, bigL0, bigL1, bigL2, bigL3, bigP0, bigP1, bigL4, bigL5, bigL6, bigL7, bigL8, bigL9, bigL10, bigL11, bigL12, bigP2, bigP3, bigP4, bigP5, bigP6, bigP7, bigP8, bigP9, bigP10, bigP11, bigP12, List.length_cons, List.length_nil, List.replicate, List.map_cons, List.map_nil, List.cons_append, List.nil_append, List.append_nil, List.getElem?_cons_zero, List.getElem?_cons_succ, List.set_cons_zero, List.set_cons_succ, Option.map_some, Option.map_none, Bool.not_true, Bool.not_false, if_true, Bool.false_eq_true, if_false, Nat.reduceAdd, Nat.reduceSub, Nat.reduceEqDiff, Bool.and_true, Bool.true_and, Bool.and_self, ite_true, ite_false, Nat.reduceLeDiff, reduceIte, reduceCtorEq, eq_self, decide_true, decide_false, not_true_eq_false, not_false_eq_true, Bool.false_and, Bool.and_false, Bool.or_false, Bool.false_or, Bool.true_or, Bool.or_true, cell0, cell1, p8, hn, hR, encs_own, encs_un, encs_plain, b4, r4]
  generalize hL : loop _ _ _ _ = r
  obtain ⟨ρ', rfl, o2, x4, x6, x7, x8, x9, rfl⟩ := loop_gen_of hL (fun k : Nat => D.int (k : Int)) (fun _ _ => ()) (fun _ ρ => ∃ o2 x4 x6 x7 x8 x9, ρ = [some (.sc ns), some (.int n), some (.lst o2 (encs gs)), some (.lst true (encs gs)), x4, none, x6, x7, x8, x9, none, none]) [0, 1, 2, 3] () rfl ⟨_, _, _, _, _, _, rfl⟩ (by
    rintro m hm _ ρ ⟨o2, x4, x6, x7, x8, x9, rfl⟩
    refine ⟨_, rfl, fun r hr => ?_⟩
    obtain ⟨⟨a, b, c⟩, ⟨la, lb, lc⟩, hT⟩ := turn_by_eq k false (cell ns 2 + 5 * (m : Int))
    have hT : fd_l_turn_by [.lst false (encs gs), .int n, .int (cell ns 2 + 5 * (m : Int))] = some (.rt (.tup [.int (a : Int), .int (b : Int), .int (c : Int)])) := hT
    have rl3 : ((encs (ringOf a b c)).length ≤ big) = True := by rw [encs_len, big_val]; simp [ringOf]
    have a2 : ∀ xs : List D, ∀ x y z : D, xs = [x, y, z] → atI xs 2 = some z := fun xs x y z h => by subst h; rfl
    have a2' := a2 [.int (a : Int), .int (b : Int), .int (c : Int)] _ _ _ rfl
    have tE := turned_eq k false la lb lc
    unfold tri at tE
    simp only [kb_ok, kb_ex, kb_no, ret_k, lif_s, lif_n, dView_k, vView_k, dFlat_k, vFlat_int, vFlat_bl, vFlat_str, vFlat_non, dVar_k, kVar_k, dPk_k, kPk_k, dMv_k, kMv_k, dFrz_k, kFrz_k, dBin_k, vBin1_k, vBin2_k, dTest_k, vTest_k, dChain_k, vCh1_k, vCh2_k, vCh3_t, vCh3_f, dNot_k, vNot_k, dAnd_k, vAnd_t, vAnd_f, dOr_k, vOr_t, vOr_f, dAndV_k, vAndV_t, vAndV_f, dOrV_k, vOrV_t, vOrV_f, dNotV_k, vNotV_k, dIf_k, vIf_t, vIf_f, dCons_k, vCons1_k, vCons2_k, dTup_k, vTup_k, dLst_k, vLst_k, dCall_k, vCall_k, kc_rt, kc_ex, dItL_k, vItL_lst, vItL_sc, dItT_k, vItT_k, dRng1_k, vRng1_k, dRng2_k, vRng2_k, dCB_k, vCB_k, dIsi_k, vIsi_k, dListE_k, vListE_k, dListS_k, kLS_lst, dLRng1_k, vLRng1_k, dNeg_k, vNeg_k, dIxS_k, kIxS_k, vIxS_k, kIx2_lst, kIx2_tup, kIx2_sc, kIx3_k, dNx_k, dSeq_k, ks_nx, ks_rt, ks_bk, ks_ct, ks_ex, dDrop_k, kDrop_ok, kDrop_ex, dRet_k, kRet_ok, kRet_ex, dIfS_k, kIfS_t, kIfS_f, kIfS_ex, dSet_k, kSet_ok, kSet_ex, dAsg_k, kAsg_ok, kAsg_ex, kh_k, dAppend_k, kAp_k, kAp1_ok, kAp1_ex, kAp2_k, dAug_k, kAug_k, kAug1_ok, dSetItem_k, kSI_ok, kSI_ex, kSI1_k, kSI2_ok, kSI3_k, kSI4_k, dAugItem_k, kAI_k, kAI1_ok, kAI2_k, kAI3_k, kAI4_ok, kAI5_k, kAI6_k, dFor_k, kFor_ok, dComp_k, vComp_k, kCo_k, comp_nil, comp_cons, kc1_k, kc2_t, kc2_f, kc3_k, run_k, kRun_nx, kRun_rt, kRun_ex, hName_k, hNil_k, hCons_k, kH_k, hTup_k, gLt_int, gGt_int, gLe_int, gGe_int, gAdd_int, gMinus_int, gMul_int, gMod_int, gDiv_int, gIx_lst, gIx_tup, gIx_sc, gLen_lst, gLen_tup, gLen_sc, gAll_lst, gAny_lst, gSum_lst, isi_int_int, isi_int_bl, isi_bool_int, isi_bool_bl, isi_list_lst, isi_tuple_tup, isi_str_str, un_int, un_bl, un_str, un_non, un_sc, un_lst, un_tup, uns_nil, uns_cons, pl_int, pl_bl, pl_str, pl_non, pl_sc, pl_lst, pl_tup, pls_nil, pls_cons, ow_int, ow_bl, ow_str, ow_non, ow_lst, ow_tup, ows_nil, ows_cons, wipe_nil, wipe_cons, ints_nil, ints_cons, gBest_lst, gBest_tup, kBest_k, dKeep_k, vKeep_k, dCat_k, vCat1_k, vCat2_k, catD_k, dSorted_k, vSorted_k, sortD_k, dClear_k, kClr_k, dInsert_k, kIn_k, kIn1_ok, kIn2_ok, kIn3_k, tg_int, tg_bl, tg_str, tg_non, tg_tup, tgs_nil, tgs_cons, dRevT_k, vRevT_k, revTD_k, dRevL_k, vRevL_k, revLD_k, dTupOf_k, vTupOf_k, tupD_k, dCatM_k, vCatM1_k, vCatM2_k, catM_k, dTryB_k, kTry_nx, kTry_rt, kTry_ex, kTry2_k, isi_tuple_non, isi_tuple_lst, isi_int_lst, isi_int_str, isi_int_non, bls_nil, bls_cons, bnd_k, bigL0, bigL1, bigL2, bigL3, bigP0, bigP1, bigL4, bigL5, bigL6, bigL7, bigL8, bigL9, bigL10, bigL11, bigL12, bigP2, bigP3, bigP4, bigP5, bigP6, bigP7, bigP8, bigP9, bigP10, bigP11, bigP12, List.length_cons, List.length_nil, List.replicate, List.map_cons, List.map_nil, List.cons_append, List.nil_append, List.append_nil, List.getElem?_cons_zero, List.getElem?_cons_succ, List.set_cons_zero, List.set_cons_succ, Option.map_some, Option.map_none, Bool.not_true, Bool.not_false, if_true, Bool.false_eq_true, if_false, Nat.reduceAdd, Nat.reduceSub, Nat.reduceEqDiff, Bool.and_true, Bool.true_and, Bool.and_self, ite_true, ite_false, Nat.reduceLeDiff, reduceIte, reduceCtorEq, eq_self, decide_true, decide_false, not_true_eq_false, not_false_eq_true, Bool.false_and, Bool.and_false, Bool.or_false, Bool.false_or, Bool.true_or, Bool.or_true, cell2, c5, encs_un, hT, atI_zero, atI_one, a2', ring_encs, rl3, encs_plain] at hr
    generalize hC : comp _ _ _ _ _ _ _ = r1 at hr
    have q1 := comp_map_of hC enc (fun p => D.bl (decide (p ∈ gs))) (ringOf a b c) rfl rfl (by rw [big_val]; exact (by decide : 3 ≤ 16777216)) (by
      intro p hp
      refine ⟨_, rfl, fun r hr => ?_⟩
      simp only [kb_ok, kb_ex, kb_no, ret_k, lif_s, lif_n, dView_k, vView_k, dFlat_k, vFlat_int, vFlat_bl, vFlat_str, vFlat_non, dVar_k, kVar_k, dPk_k, kPk_k, dMv_k, kMv_k, dFrz_k, kFrz_k, dBin_k, vBin1_k, vBin2_k, dTest_k, vTest_k, dChain_k, vCh1_k, vCh2_k, vCh3_t, vCh3_f, dNot_k, vNot_k, dAnd_k, vAnd_t, vAnd_f, dOr_k, vOr_t, vOr_f, dAndV_k, vAndV_t, vAndV_f, dOrV_k, vOrV_t, vOrV_f, dNotV_k, vNotV_k, dIf_k, vIf_t, vIf_f, dCons_k, vCons1_k, vCons2_k, dTup_k, vTup_k, dLst_k, vLst_k, dCall_k, vCall_k, kc_rt, kc_ex, dItL_k, vItL_lst, vItL_sc, dItT_k, vItT_k, dRng1_k, vRng1_k, dRng2_k, vRng2_k, dCB_k, vCB_k, dIsi_k, vIsi_k, dListE_k, vListE_k, dListS_k, kLS_lst, dLRng1_k, vLRng1_k, dNeg_k, vNeg_k, dIxS_k, kIxS_k, vIxS_k, kIx2_lst, kIx2_tup, kIx2_sc, kIx3_k, dNx_k, dSeq_k, ks_nx, ks_rt, ks_bk, ks_ct, ks_ex, dDrop_k, kDrop_ok, kDrop_ex, dRet_k, kRet_ok, kRet_ex, dIfS_k, kIfS_t, kIfS_f, kIfS_ex, dSet_k, kSet_ok, kSet_ex, dAsg_k, kAsg_ok, kAsg_ex, kh_k, dAppend_k, kAp_k, kAp1_ok, kAp1_ex, kAp2_k, dAug_k, kAug_k, kAug1_ok, dSetItem_k, kSI_ok, kSI_ex, kSI1_k, kSI2_ok, kSI3_k, kSI4_k, dAugItem_k, kAI_k, kAI1_ok, kAI2_k, kAI3_k, kAI4_ok, kAI5_k, kAI6_k, dFor_k, kFor_ok, dComp_k, vComp_k, kCo_k, comp_nil, comp_cons, kc1_k, kc2_t, kc2_f, kc3_k, run_k, kRun_nx, kRun_rt, kRun_ex, hName_k, hNil_k, hCons_k, kH_k, hTup_k, gLt_int, gGt_int, gLe_int, gGe_int, gAdd_int, gMinus_int, gMul_int, gMod_int, gDiv_int, gIx_lst, gIx_tup, gIx_sc, gLen_lst, gLen_tup, gLen_sc, gAll_lst, gAny_lst, gSum_lst, isi_int_int, isi_int_bl, isi_bool_int, isi_bool_bl, isi_list_lst, isi_tuple_tup, isi_str_str, un_int, un_bl, un_str, un_non, un_sc, un_lst, un_tup, uns_nil, uns_cons, pl_int, pl_bl, pl_str, pl_non, pl_sc, pl_lst, pl_tup, pls_nil, pls_cons, ow_int, ow_bl, ow_str, ow_non, ow_lst, ow_tup, ows_nil, ows_cons, wipe_nil, wipe_cons, ints_nil, ints_cons, gBest_lst, gBest_tup, kBest_k, dKeep_k, vKeep_k, dCat_k, vCat1_k, vCat2_k, catD_k, dSorted_k, vSorted_k, sortD_k, dClear_k, kClr_k, dInsert_k, kIn_k, kIn1_ok, kIn2_ok, kIn3_k, tg_int, tg_bl, tg_str, tg_non, tg_tup, tgs_nil, tgs_cons, dRevT_k, vRevT_k, revTD_k, dRevL_k, vRevL_k, revLD_k, dTupOf_k, vTupOf_k, tupD_k, dCatM_k, vCatM1_k, vCatM2_k, catM_k, dTryB_k, kTry_nx, kTry_rt, kTry_ex, kTry2_k, isi_tuple_non, isi_tuple_lst, isi_int_lst, isi_int_str, isi_int_non, bls_nil, bls_cons, bnd_k, bigL0, bigL1, bigL2, bigL3, bigP0, bigP1, bigL4, bigL5, bigL6, bigL7, bigL8, bigL9, bigL10, bigL11, bigL12, bigP2, bigP3, bigP4, bigP5, bigP6, bigP7, bigP8, bigP9, bigP10, bigP11, bigP12, List.length_cons, List.length_nil, List.replicate, List.map_cons, List.map_nil, List.cons_append, List.nil_append, List.append_nil, List.getElem?_cons_zero, List.getElem?_cons_succ, List.set_cons_zero, List.set_cons_succ, Option.map_some, Option.map_none, Bool.not_true, Bool.not_false, if_true, Bool.false_eq_true, if_false, Nat.reduceAdd, Nat.reduceSub, Nat.reduceEqDiff, Bool.and_true, Bool.true_and, Bool.and_self, ite_true, ite_false, Nat.reduceLeDiff, reduceIte, reduceCtorEq, eq_self, decide_true, decide_false, not_true_eq_false, not_false_eq_true, Bool.false_and, Bool.and_false, Bool.or_false, Bool.false_or, Bool.true_or, Bool.or_true, enc_un, encs_un, gIn_enc] at hr
      exact ⟨_, hr.symm, rfl⟩)
    subst q1
    have e4 : (List.map (fun p => decide (p ∈ gs)) (ringOf a b c)).all id = (ringOf a b c).all fun p => decide (p ∈ gs) := by
      simp [List.all_map, Function.comp_def]
    simp only [kb_ok, kb_ex, kb_no, ret_k, lif_s, lif_n, dView_k, vView_k, dFlat_k, vFlat_int, vFlat_bl, vFlat_str, vFlat_non, dVar_k, kVar_k, dPk_k, kPk_k, dMv_k, kMv_k, dFrz_k, kFrz_k, dBin_k, vBin1_k, vBin2_k, dTest_k, vTest_k, dChain_k, vCh1_k, vCh2_k, vCh3_t, vCh3_f, dNot_k, vNot_k, dAnd_k, vAnd_t, vAnd_f, dOr_k, vOr_t, vOr_f, dAndV_k, vAndV_t, vAndV_f, dOrV_k, vOrV_t, vOrV_f, dNotV_k, vNotV_k, dIf_k, vIf_t, vIf_f, dCons_k, vCons1_k, vCons2_k, dTup_k, vTup_k, dLst_k, vLst_k, dCall_k, vCall_k, kc_rt, kc_ex, dItL_k, vItL_lst, vItL_sc, dItT_k, vItT_k, dRng1_k, vRng1_k, dRng2_k, vRng2_k, dCB_k, vCB_k, dIsi_k, vIsi_k, dListE_k, vListE_k, dListS_k, kLS_lst, dLRng1_k, vLRng1_k, dNeg_k, vNeg_k, dIxS_k, kIxS_k, vIxS_k, kIx2_lst, kIx2_tup, kIx2_sc, kIx3_k, dNx_k, dSeq_k, ks_nx, ks_rt, ks_bk, ks_ct, ks_ex, dDrop_k, kDrop_ok, kDrop_ex, dRet_k, kRet_ok, kRet_ex, dIfS_k, kIfS_t, kIfS_f, kIfS_ex, dSet_k, kSet_ok, kSet_ex, dAsg_k, kAsg_ok, kAsg_ex, kh_k, dAppend_k, kAp_k, kAp1_ok, kAp1_ex, kAp2_k, dAug_k, kAug_k, kAug1_ok, dSetItem_k, kSI_ok, kSI_ex, kSI1_k, kSI2_ok, kSI3_k, kSI4_k, dAugItem_k, kAI_k, kAI1_ok, kAI2_k, kAI3_k, kAI4_ok, kAI5_k, kAI6_k, dFor_k, kFor_ok, dComp_k, vComp_k, kCo_k, comp_nil, comp_cons, kc1_k, kc2_t, kc2_f, kc3_k, run_k, kRun_nx, kRun_rt, kRun_ex, hName_k, hNil_k, hCons_k, kH_k, hTup_k, gLt_int, gGt_int, gLe_int, gGe_int, gAdd_int, gMinus_int, gMul_int, gMod_int, gDiv_int, gIx_lst, gIx_tup, gIx_sc, gLen_lst, gLen_tup, gLen_sc, gAll_lst, gAny_lst, gSum_lst, isi_int_int, isi_int_bl, isi_bool_int, isi_bool_bl, isi_list_lst, isi_tuple_tup, isi_str_str, un_int, un_bl, un_str, un_non, un_sc, un_lst, un_tup, uns_nil, uns_cons, pl_int, pl_bl, pl_str, pl_non, pl_sc, pl_lst, pl_tup, pls_nil, pls_cons, ow_int, ow_bl, ow_str, ow_non, ow_lst, ow_tup, ows_nil, ows_cons, wipe_nil, wipe_cons, ints_nil, ints_cons, gBest_lst, gBest_tup, kBest_k, dKeep_k, vKeep_k, dCat_k, vCat1_k, vCat2_k, catD_k, dSorted_k, vSorted_k, sortD_k, dClear_k, kClr_k, dInsert_k, kIn_k, kIn1_ok, kIn2_ok, kIn3_k, tg_int, tg_bl, tg_str, tg_non, tg_tup, tgs_nil, tgs_cons, dRevT_k, vRevT_k, revTD_k, dRevL_k, vRevL_k, revLD_k, dTupOf_k, vTupOf_k, tupD_k, dCatM_k, vCatM1_k, vCatM2_k, catM_k, dTryB_k, kTry_nx, kTry_rt, kTry_ex, kTry2_k, isi_tuple_non, isi_tuple_lst, isi_int_lst, isi_int_str, isi_int_non, bls_nil, bls_cons, bnd_k, bigL0, bigL1, bigL2, bigL3, bigP0, bigP1, bigL4, bigL5, bigL6, bigL7, bigL8, bigL9, bigL10, bigL11, bigL12, bigP2, bigP3, bigP4, bigP5, bigP6, bigP7, bigP8, bigP9, bigP10, bigP11, bigP12, List.length_cons, List.length_nil, List.replicate, List.map_cons, List.map_nil, List.cons_append, List.nil_append, List.append_nil, List.getElem?_cons_zero, List.getElem?_cons_succ, List.set_cons_zero, List.set_cons_succ, Option.map_some, Option.map_none, Bool.not_true, Bool.not_false, if_true, Bool.false_eq_true, if_false, Nat.reduceAdd, Nat.reduceSub, Nat.reduceEqDiff, Bool.and_true, Bool.true_and, Bool.and_self, ite_true, ite_false, Nat.reduceLeDiff, reduceIte, reduceCtorEq, eq_self, decide_true, decide_false, not_true_eq_false, not_false_eq_true, Bool.false_and, Bool.and_false, Bool.or_false, Bool.false_or, Bool.true_or, Bool.or_true, bls_un, blsOf_all, e4] at hr
    cases e5 : (ringOf a b c).all fun p => decide (p ∈ gs) with
    | false =>
      rw [e5] at tE
      have rf : fd_l_refused [.lst false (encs gs), .int n, .tup [.int (a : Int), .int (b : Int), .int (c : Int)]] = some (.rt (.bl true)) := refused_of (by rw [if_neg Bool.false_ne_true] at tE; exact tE)
      simp only [kb_ok, kb_ex, kb_no, ret_k, lif_s, lif_n, dView_k, vView_k, dFlat_k, vFlat_int, vFlat_bl, vFlat_str, vFlat_non, dVar_k, kVar_k, dPk_k, kPk_k, dMv_k, kMv_k, dFrz_k, kFrz_k, dBin_k, vBin1_k, vBin2_k, dTest_k, vTest_k, dChain_k, vCh1_k, vCh2_k, vCh3_t, vCh3_f, dNot_k, vNot_k, dAnd_k, vAnd_t, vAnd_f, dOr_k, vOr_t, vOr_f, dAndV_k, vAndV_t, vAndV_f, dOrV_k, vOrV_t, vOrV_f, dNotV_k, vNotV_k, dIf_k, vIf_t, vIf_f, dCons_k, vCons1_k, vCons2_k, dTup_k, vTup_k, dLst_k, vLst_k, dCall_k, vCall_k, kc_rt, kc_ex, dItL_k, vItL_lst, vItL_sc, dItT_k, vItT_k, dRng1_k, vRng1_k, dRng2_k, vRng2_k, dCB_k, vCB_k, dIsi_k, vIsi_k, dListE_k, vListE_k, dListS_k, kLS_lst, dLRng1_k, vLRng1_k, dNeg_k, vNeg_k, dIxS_k, kIxS_k, vIxS_k, kIx2_lst, kIx2_tup, kIx2_sc, kIx3_k, dNx_k, dSeq_k, ks_nx, ks_rt, ks_bk, ks_ct, ks_ex, dDrop_k, kDrop_ok, kDrop_ex, dRet_k, kRet_ok, kRet_ex, dIfS_k, kIfS_t, kIfS_f, kIfS_ex, dSet_k, kSet_ok, kSet_ex, dAsg_k, kAsg_ok, kAsg_ex, kh_k, dAppend_k, kAp_k, kAp1_ok, kAp1_ex, kAp2_k, dAug_k, kAug_k, kAug1_ok, dSetItem_k, kSI_ok, kSI_ex, kSI1_k, kSI2_ok, kSI3_k, kSI4_k, dAugItem_k, kAI_k, kAI1_ok, kAI2_k, kAI3_k, kAI4_ok, kAI5_k, kAI6_k, dFor_k, kFor_ok, dComp_k, vComp_k, kCo_k, comp_nil, comp_cons, kc1_k, kc2_t, kc2_f, kc3_k, run_k, kRun_nx, kRun_rt, kRun_ex, hName_k, hNil_k, hCons_k, kH_k, hTup_k, gLt_int, gGt_int, gLe_int, gGe_int, gAdd_int, gMinus_int, gMul_int, gMod_int, gDiv_int, gIx_lst, gIx_tup, gIx_sc, gLen_lst, gLen_tup, gLen_sc, gAll_lst, gAny_lst, gSum_lst, isi_int_int, isi_int_bl, isi_bool_int, isi_bool_bl, isi_list_lst, isi_tuple_tup, isi_str_str, un_int, un_bl, un_str, un_non, un_sc, un_lst, un_tup, uns_nil, uns_cons, pl_int, pl_bl, pl_str, pl_non, pl_sc, pl_lst, pl_tup, pls_nil, pls_cons, ow_int, ow_bl, ow_str, ow_non, ow_lst, ow_tup, ows_nil, ows_cons, wipe_nil, wipe_cons, ints_nil, ints_cons, gBest_lst, gBest_tup, kBest_k, dKeep_k, vKeep_k, dCat_k, vCat1_k, vCat2_k, catD_k, dSorted_k, vSorted_k, sortD_k, dClear_k, kClr_k, dInsert_k, kIn_k, kIn1_ok, kIn2_ok, kIn3_k, tg_int, tg_bl, tg_str, tg_non, tg_tup, tgs_nil, tgs_cons, dRevT_k, vRevT_k, revTD_k, dRevL_k, vRevL_k, revLD_k, dTupOf_k, vTupOf_k, tupD_k, dCatM_k, vCatM1_k, vCatM2_k, catM_k, dTryB_k, kTry_nx, kTry_rt, kTry_ex, kTry2_k, isi_tuple_non, isi_tuple_lst, isi_int_lst, isi_int_str, isi_int_non, bls_nil, bls_cons, bnd_k, bigL0, bigL1, bigL2, bigL3, bigP0, bigP1, bigL4, bigL5, bigL6, bigL7, bigL8, bigL9, bigL10, bigL11, bigL12, bigP2, bigP3, bigP4, bigP5, bigP6, bigP7, bigP8, bigP9, bigP10, bigP11, bigP12, List.length_cons, List.length_nil, List.replicate, List.map_cons, List.map_nil, List.cons_append, List.nil_append, List.append_nil, List.getElem?_cons_zero, List.getElem?_cons_succ, List.set_cons_zero, List.set_cons_succ, Option.map_some, Option.map_none, Bool.not_true, Bool.not_false, if_true, Bool.false_eq_true, if_false, Nat.reduceAdd, Nat.reduceSub, Nat.reduceEqDiff, Bool.and_true, Bool.true_and, Bool.and_self, ite_true, ite_false, Nat.reduceLeDiff, reduceIte, reduceCtorEq, eq_self, decide_true, decide_false, not_true_eq_false, not_false_eq_true, Bool.false_and, Bool.and_false, Bool.or_false, Bool.false_or, Bool.true_or, Bool.or_true, gEq_k, gNe_k, fit_int, fit_bl, fit_non, fit_lst8, fit_tup8, fits_nil, fits_cons, eqv_ii, eqv_bb, eqv_tt, eqv_ll, eqvs_nil, eqvs_cons, e5, encs_un, rf, encs_fit, encs_refl] at hr
      exact ⟨_, .inl hr.symm, _, _, _, _, _, _, rfl⟩
    | true =>
      rw [e5, if_pos rfl] at tE
      obtain ⟨w', hw'⟩ := fl (ringOf a b c)
      have rw_ := ring_wins t e5
      simp only [kb_ok, kb_ex, kb_no, ret_k, lif_s, lif_n, dView_k, vView_k, dFlat_k, vFlat_int, vFlat_bl, vFlat_str, vFlat_non, dVar_k, kVar_k, dPk_k, kPk_k, dMv_k, kMv_k, dFrz_k, kFrz_k, dBin_k, vBin1_k, vBin2_k, dTest_k, vTest_k, dChain_k, vCh1_k, vCh2_k, vCh3_t, vCh3_f, dNot_k, vNot_k, dAnd_k, vAnd_t, vAnd_f, dOr_k, vOr_t, vOr_f, dAndV_k, vAndV_t, vAndV_f, dOrV_k, vOrV_t, vOrV_f, dNotV_k, vNotV_k, dIf_k, vIf_t, vIf_f, dCons_k, vCons1_k, vCons2_k, dTup_k, vTup_k, dLst_k, vLst_k, dCall_k, vCall_k, kc_rt, kc_ex, dItL_k, vItL_lst, vItL_sc, dItT_k, vItT_k, dRng1_k, vRng1_k, dRng2_k, vRng2_k, dCB_k, vCB_k, dIsi_k, vIsi_k, dListE_k, vListE_k, dListS_k, kLS_lst, dLRng1_k, vLRng1_k, dNeg_k, vNeg_k, dIxS_k, kIxS_k, vIxS_k, kIx2_lst, kIx2_tup, kIx2_sc, kIx3_k, dNx_k, dSeq_k, ks_nx, ks_rt, ks_bk, ks_ct, ks_ex, dDrop_k, kDrop_ok, kDrop_ex, dRet_k, kRet_ok, kRet_ex, dIfS_k, kIfS_t, kIfS_f, kIfS_ex, dSet_k, kSet_ok, kSet_ex, dAsg_k, kAsg_ok, kAsg_ex, kh_k, dAppend_k, kAp_k, kAp1_ok, kAp1_ex, kAp2_k, dAug_k, kAug_k, kAug1_ok, dSetItem_k, kSI_ok, kSI_ex, kSI1_k, kSI2_ok, kSI3_k, kSI4_k, dAugItem_k, kAI_k, kAI1_ok, kAI2_k, kAI3_k, kAI4_ok, kAI5_k, kAI6_k, dFor_k, kFor_ok, dComp_k, vComp_k, kCo_k, comp_nil, comp_cons, kc1_k, kc2_t, kc2_f, kc3_k, run_k, kRun_nx, kRun_rt, kRun_ex, hName_k, hNil_k, hCons_k, kH_k, hTup_k, gLt_int, gGt_int, gLe_int, gGe_int, gAdd_int, gMinus_int, gMul_int, gMod_int, gDiv_int, gIx_lst, gIx_tup, gIx_sc, gLen_lst, gLen_tup, gLen_sc, gAll_lst, gAny_lst, gSum_lst, isi_int_int, isi_int_bl, isi_bool_int, isi_bool_bl, isi_list_lst, isi_tuple_tup, isi_str_str, un_int, un_bl, un_str, un_non, un_sc, un_lst, un_tup, uns_nil, uns_cons, pl_int, pl_bl, pl_str, pl_non, pl_sc, pl_lst, pl_tup, pls_nil, pls_cons, ow_int, ow_bl, ow_str, ow_non, ow_lst, ow_tup, ows_nil, ows_cons, wipe_nil, wipe_cons, ints_nil, ints_cons, gBest_lst, gBest_tup, kBest_k, dKeep_k, vKeep_k, dCat_k, vCat1_k, vCat2_k, catD_k, dSorted_k, vSorted_k, sortD_k, dClear_k, kClr_k, dInsert_k, kIn_k, kIn1_ok, kIn2_ok, kIn3_k, tg_int, tg_bl, tg_str, tg_non, tg_tup, tgs_nil, tgs_cons, dRevT_k, vRevT_k, revTD_k, dRevL_k, vRevL_k, revLD_k, dTupOf_k, vTupOf_k, tupD_k, dCatM_k, vCatM1_k, vCatM2_k, catM_k, dTryB_k, kTry_nx, kTry_rt, kTry_ex, kTry2_k, isi_tuple_non, isi_tuple_lst, isi_int_lst, isi_int_str, isi_int_non, bls_nil, bls_cons, bnd_k, bigL0, bigL1, bigL2, bigL3, bigP0, bigP1, bigL4, bigL5, bigL6, bigL7, bigL8, bigL9, bigL10, bigL11, bigL12, bigP2, bigP3, bigP4, bigP5, bigP6, bigP7, bigP8, bigP9, bigP10, bigP11, bigP12, List.length_cons, List.length_nil, List.replicate, List.map_cons, List.map_nil, List.cons_append, List.nil_append, List.append_nil, List.getElem?_cons_zero, List.getElem?_cons_succ, List.set_cons_zero, List.set_cons_succ, Option.map_some, Option.map_none, Bool.not_true, Bool.not_false, if_true, Bool.false_eq_true, if_false, Nat.reduceAdd, Nat.reduceSub, Nat.reduceEqDiff, Bool.and_true, Bool.true_and, Bool.and_self, ite_true, ite_false, Nat.reduceLeDiff, reduceIte, reduceCtorEq, eq_self, decide_true, decide_false, not_true_eq_false, not_false_eq_true, Bool.false_and, Bool.and_false, Bool.or_false, Bool.false_or, Bool.true_or, Bool.or_true, e5, encs_un, encs_plain] at hr
      generalize hC3 : comp _ _ _ _ _ _ _ = r3 at hr
      have q3 := comp_map_of hC3 enc (fun p => enc (flip (ringOf a b c) p)) gs rfl rfl (by rw [big_val]; omega) (by
        intro p hp
        refine ⟨_, rfl, fun r hr => ?_⟩
        simp only [kb_ok, kb_ex, kb_no, ret_k, lif_s, lif_n, dView_k, vView_k, dFlat_k, vFlat_int, vFlat_bl, vFlat_str, vFlat_non, dVar_k, kVar_k, dPk_k, kPk_k, dMv_k, kMv_k, dFrz_k, kFrz_k, dBin_k, vBin1_k, vBin2_k, dTest_k, vTest_k, dChain_k, vCh1_k, vCh2_k, vCh3_t, vCh3_f, dNot_k, vNot_k, dAnd_k, vAnd_t, vAnd_f, dOr_k, vOr_t, vOr_f, dAndV_k, vAndV_t, vAndV_f, dOrV_k, vOrV_t, vOrV_f, dNotV_k, vNotV_k, dIf_k, vIf_t, vIf_f, dCons_k, vCons1_k, vCons2_k, dTup_k, vTup_k, dLst_k, vLst_k, dCall_k, vCall_k, kc_rt, kc_ex, dItL_k, vItL_lst, vItL_sc, dItT_k, vItT_k, dRng1_k, vRng1_k, dRng2_k, vRng2_k, dCB_k, vCB_k, dIsi_k, vIsi_k, dListE_k, vListE_k, dListS_k, kLS_lst, dLRng1_k, vLRng1_k, dNeg_k, vNeg_k, dIxS_k, kIxS_k, vIxS_k, kIx2_lst, kIx2_tup, kIx2_sc, kIx3_k, dNx_k, dSeq_k, ks_nx, ks_rt, ks_bk, ks_ct, ks_ex, dDrop_k, kDrop_ok, kDrop_ex, dRet_k, kRet_ok, kRet_ex, dIfS_k, kIfS_t, kIfS_f, kIfS_ex, dSet_k, kSet_ok, kSet_ex, dAsg_k, kAsg_ok, kAsg_ex, kh_k, dAppend_k, kAp_k, kAp1_ok, kAp1_ex, kAp2_k, dAug_k, kAug_k, kAug1_ok, dSetItem_k, kSI_ok, kSI_ex, kSI1_k, kSI2_ok, kSI3_k, kSI4_k, dAugItem_k, kAI_k, kAI1_ok, kAI2_k, kAI3_k, kAI4_ok, kAI5_k, kAI6_k, dFor_k, kFor_ok, dComp_k, vComp_k, kCo_k, comp_nil, comp_cons, kc1_k, kc2_t, kc2_f, kc3_k, run_k, kRun_nx, kRun_rt, kRun_ex, hName_k, hNil_k, hCons_k, kH_k, hTup_k, gLt_int, gGt_int, gLe_int, gGe_int, gAdd_int, gMinus_int, gMul_int, gMod_int, gDiv_int, gIx_lst, gIx_tup, gIx_sc, gLen_lst, gLen_tup, gLen_sc, gAll_lst, gAny_lst, gSum_lst, isi_int_int, isi_int_bl, isi_bool_int, isi_bool_bl, isi_list_lst, isi_tuple_tup, isi_str_str, un_int, un_bl, un_str, un_non, un_sc, un_lst, un_tup, uns_nil, uns_cons, pl_int, pl_bl, pl_str, pl_non, pl_sc, pl_lst, pl_tup, pls_nil, pls_cons, ow_int, ow_bl, ow_str, ow_non, ow_lst, ow_tup, ows_nil, ows_cons, wipe_nil, wipe_cons, ints_nil, ints_cons, gBest_lst, gBest_tup, kBest_k, dKeep_k, vKeep_k, dCat_k, vCat1_k, vCat2_k, catD_k, dSorted_k, vSorted_k, sortD_k, dClear_k, kClr_k, dInsert_k, kIn_k, kIn1_ok, kIn2_ok, kIn3_k, tg_int, tg_bl, tg_str, tg_non, tg_tup, tgs_nil, tgs_cons, dRevT_k, vRevT_k, revTD_k, dRevL_k, vRevL_k, revLD_k, dTupOf_k, vTupOf_k, tupD_k, dCatM_k, vCatM1_k, vCatM2_k, catM_k, dTryB_k, kTry_nx, kTry_rt, kTry_ex, kTry2_k, isi_tuple_non, isi_tuple_lst, isi_int_lst, isi_int_str, isi_int_non, bls_nil, bls_cons, bnd_k, bigL0, bigL1, bigL2, bigL3, bigP0, bigP1, bigL4, bigL5, bigL6, bigL7, bigL8, bigL9, bigL10, bigL11, bigL12, bigP2, bigP3, bigP4, bigP5, bigP6, bigP7, bigP8, bigP9, bigP10, bigP11, bigP12, List.length_cons, List.length_nil, List.replicate, List.map_cons, List.map_nil, List.cons_append, List.nil_append, List.append_nil, List.getElem?_cons_zero, List.getElem?_cons_succ, List.set_cons_zero, List.set_cons_succ, Option.map_some, Option.map_none, Bool.not_true, Bool.not_false, if_true, Bool.false_eq_true, if_false, Nat.reduceAdd, Nat.reduceSub, Nat.reduceEqDiff, Bool.and_true, Bool.true_and, Bool.and_self, ite_true, ite_false, Nat.reduceLeDiff, reduceIte, reduceCtorEq, eq_self, decide_true, decide_false, not_true_eq_false, not_false_eq_true, Bool.false_and, Bool.and_false, Bool.or_false, Bool.false_or, Bool.true_or, Bool.or_true, enc_un, encs_un, gIn_enc] at hr
        cases e6 : decide (p ∈ ringOf a b c) with
        | true =>
          have e7 : flip (ringOf a b c) p = swp p := if_pos (by simpa using e6)
          simp only [kb_ok, kb_ex, kb_no, ret_k, lif_s, lif_n, dView_k, vView_k, dFlat_k, vFlat_int, vFlat_bl, vFlat_str, vFlat_non, dVar_k, kVar_k, dPk_k, kPk_k, dMv_k, kMv_k, dFrz_k, kFrz_k, dBin_k, vBin1_k, vBin2_k, dTest_k, vTest_k, dChain_k, vCh1_k, vCh2_k, vCh3_t, vCh3_f, dNot_k, vNot_k, dAnd_k, vAnd_t, vAnd_f, dOr_k, vOr_t, vOr_f, dAndV_k, vAndV_t, vAndV_f, dOrV_k, vOrV_t, vOrV_f, dNotV_k, vNotV_k, dIf_k, vIf_t, vIf_f, dCons_k, vCons1_k, vCons2_k, dTup_k, vTup_k, dLst_k, vLst_k, dCall_k, vCall_k, kc_rt, kc_ex, dItL_k, vItL_lst, vItL_sc, dItT_k, vItT_k, dRng1_k, vRng1_k, dRng2_k, vRng2_k, dCB_k, vCB_k, dIsi_k, vIsi_k, dListE_k, vListE_k, dListS_k, kLS_lst, dLRng1_k, vLRng1_k, dNeg_k, vNeg_k, dIxS_k, kIxS_k, vIxS_k, kIx2_lst, kIx2_tup, kIx2_sc, kIx3_k, dNx_k, dSeq_k, ks_nx, ks_rt, ks_bk, ks_ct, ks_ex, dDrop_k, kDrop_ok, kDrop_ex, dRet_k, kRet_ok, kRet_ex, dIfS_k, kIfS_t, kIfS_f, kIfS_ex, dSet_k, kSet_ok, kSet_ex, dAsg_k, kAsg_ok, kAsg_ex, kh_k, dAppend_k, kAp_k, kAp1_ok, kAp1_ex, kAp2_k, dAug_k, kAug_k, kAug1_ok, dSetItem_k, kSI_ok, kSI_ex, kSI1_k, kSI2_ok, kSI3_k, kSI4_k, dAugItem_k, kAI_k, kAI1_ok, kAI2_k, kAI3_k, kAI4_ok, kAI5_k, kAI6_k, dFor_k, kFor_ok, dComp_k, vComp_k, kCo_k, comp_nil, comp_cons, kc1_k, kc2_t, kc2_f, kc3_k, run_k, kRun_nx, kRun_rt, kRun_ex, hName_k, hNil_k, hCons_k, kH_k, hTup_k, gLt_int, gGt_int, gLe_int, gGe_int, gAdd_int, gMinus_int, gMul_int, gMod_int, gDiv_int, gIx_lst, gIx_tup, gIx_sc, gLen_lst, gLen_tup, gLen_sc, gAll_lst, gAny_lst, gSum_lst, isi_int_int, isi_int_bl, isi_bool_int, isi_bool_bl, isi_list_lst, isi_tuple_tup, isi_str_str, un_int, un_bl, un_str, un_non, un_sc, un_lst, un_tup, uns_nil, uns_cons, pl_int, pl_bl, pl_str, pl_non, pl_sc, pl_lst, pl_tup, pls_nil, pls_cons, ow_int, ow_bl, ow_str, ow_non, ow_lst, ow_tup, ows_nil, ows_cons, wipe_nil, wipe_cons, ints_nil, ints_cons, gBest_lst, gBest_tup, kBest_k, dKeep_k, vKeep_k, dCat_k, vCat1_k, vCat2_k, catD_k, dSorted_k, vSorted_k, sortD_k, dClear_k, kClr_k, dInsert_k, kIn_k, kIn1_ok, kIn2_ok, kIn3_k, tg_int, tg_bl, tg_str, tg_non, tg_tup, tgs_nil, tgs_cons, dRevT_k, vRevT_k, revTD_k, dRevL_k, vRevL_k, revLD_k, dTupOf_k, vTupOf_k, tupD_k, dCatM_k, vCatM1_k, vCatM2_k, catM_k, dTryB_k, kTry_nx, kTry_rt, kTry_ex, kTry2_k, isi_tuple_non, isi_tuple_lst, isi_int_lst, isi_int_str, isi_int_non, bls_nil, bls_cons, bnd_k, bigL0, bigL1, bigL2, bigL3, bigP0, bigP1, bigL4, bigL5, bigL6, bigL7, bigL8, bigL9, bigL10, bigL11, bigL12, bigP2, bigP3, bigP4, bigP5, bigP6, bigP7, bigP8, bigP9, bigP10, bigP11, bigP12, List.length_cons, List.length_nil, List.replicate, List.map_cons, List.map_nil, List.cons_append, List.nil_append, List.append_nil, List.getElem?_cons_zero, List.getElem?_cons_succ, List.set_cons_zero, List.set_cons_succ, Option.map_some, Option.map_none, Bool.not_true, Bool.not_false, if_true, Bool.false_eq_true, if_false, Nat.reduceAdd, Nat.reduceSub, Nat.reduceEqDiff, Bool.and_true, Bool.true_and, Bool.and_self, ite_true, ite_false, Nat.reduceLeDiff, reduceIte, reduceCtorEq, eq_self, decide_true, decide_false, not_true_eq_false, not_false_eq_true, Bool.false_and, Bool.and_false, Bool.or_false, Bool.false_or, Bool.true_or, Bool.or_true, e6, enc_un, rev_enc] at hr
          rw [e7]
          exact ⟨_, hr.symm, rfl⟩
        | false =>
          have e7 : flip (ringOf a b c) p = p := if_neg (by simpa using e6)
          simp only [kb_ok, kb_ex, kb_no, ret_k, lif_s, lif_n, dView_k, vView_k, dFlat_k, vFlat_int, vFlat_bl, vFlat_str, vFlat_non, dVar_k, kVar_k, dPk_k, kPk_k, dMv_k, kMv_k, dFrz_k, kFrz_k, dBin_k, vBin1_k, vBin2_k, dTest_k, vTest_k, dChain_k, vCh1_k, vCh2_k, vCh3_t, vCh3_f, dNot_k, vNot_k, dAnd_k, vAnd_t, vAnd_f, dOr_k, vOr_t, vOr_f, dAndV_k, vAndV_t, vAndV_f, dOrV_k, vOrV_t, vOrV_f, dNotV_k, vNotV_k, dIf_k, vIf_t, vIf_f, dCons_k, vCons1_k, vCons2_k, dTup_k, vTup_k, dLst_k, vLst_k, dCall_k, vCall_k, kc_rt, kc_ex, dItL_k, vItL_lst, vItL_sc, dItT_k, vItT_k, dRng1_k, vRng1_k, dRng2_k, vRng2_k, dCB_k, vCB_k, dIsi_k, vIsi_k, dListE_k, vListE_k, dListS_k, kLS_lst, dLRng1_k, vLRng1_k, dNeg_k, vNeg_k, dIxS_k, kIxS_k, vIxS_k, kIx2_lst, kIx2_tup, kIx2_sc, kIx3_k, dNx_k, dSeq_k, ks_nx, ks_rt, ks_bk, ks_ct, ks_ex, dDrop_k, kDrop_ok, kDrop_ex, dRet_k, kRet_ok, kRet_ex, dIfS_k, kIfS_t, kIfS_f, kIfS_ex, dSet_k, kSet_ok, kSet_ex, dAsg_k, kAsg_ok, kAsg_ex, kh_k, dAppend_k, kAp_k, kAp1_ok, kAp1_ex, kAp2_k, dAug_k, kAug_k, kAug1_ok, dSetItem_k, kSI_ok, kSI_ex, kSI1_k, kSI2_ok, kSI3_k, kSI4_k, dAugItem_k, kAI_k, kAI1_ok, kAI2_k, kAI3_k, kAI4_ok, kAI5_k, kAI6_k, dFor_k, kFor_ok, dComp_k, vComp_k, kCo_k, comp_nil, comp_cons, kc1_k, kc2_t, kc2_f, kc3_k, run_k, kRun_nx, kRun_rt, kRun_ex, hName_k, hNil_k, hCons_k, kH_k, hTup_k, gLt_int, gGt_int, gLe_int, gGe_int, gAdd_int, gMinus_int, gMul_int, gMod_int, gDiv_int, gIx_lst, gIx_tup, gIx_sc, gLen_lst, gLen_tup, gLen_sc, gAll_lst, gAny_lst, gSum_lst, isi_int_int, isi_int_bl, isi_bool_int, isi_bool_bl, isi_list_lst, isi_tuple_tup, isi_str_str, un_int, un_bl, un_str, un_non, un_sc, un_lst, un_tup, uns_nil, uns_cons, pl_int, pl_bl, pl_str, pl_non, pl_sc, pl_lst, pl_tup, pls_nil, pls_cons, ow_int, ow_bl, ow_str, ow_non, ow_lst, ow_tup, ows_nil, ows_cons, wipe_nil, wipe_cons, ints_nil, ints_cons, gBest_lst, gBest_tup, kBest_k, dKeep_k, vKeep_k, dCat_k, vCat1_k, vCat2_k, catD_k, dSorted_k, vSorted_k, sortD_k, dClear_k, kClr_k, dInsert_k, kIn_k, kIn1_ok, kIn2_ok, kIn3_k, tg_int, tg_bl, tg_str, tg_non, tg_tup, tgs_nil, tgs_cons, dRevT_k, vRevT_k, revTD_k, dRevL_k, vRevL_k, revLD_k, dTupOf_k, vTupOf_k, tupD_k, dCatM_k, vCatM1_k, vCatM2_k, catM_k, dTryB_k, kTry_nx, kTry_rt, kTry_ex, kTry2_k, isi_tuple_non, isi_tuple_lst, isi_int_lst, isi_int_str, isi_int_non, bls_nil, bls_cons, bnd_k, bigL0, bigL1, bigL2, bigL3, bigP0, bigP1, bigL4, bigL5, bigL6, bigL7, bigL8, bigL9, bigL10, bigL11, bigL12, bigP2, bigP3, bigP4, bigP5, bigP6, bigP7, bigP8, bigP9, bigP10, bigP11, bigP12, List.length_cons, List.length_nil, List.replicate, List.map_cons, List.map_nil, List.cons_append, List.nil_append, List.append_nil, List.getElem?_cons_zero, List.getElem?_cons_succ, List.set_cons_zero, List.set_cons_succ, Option.map_some, Option.map_none, Bool.not_true, Bool.not_false, if_true, Bool.false_eq_true, if_false, Nat.reduceAdd, Nat.reduceSub, Nat.reduceEqDiff, Bool.and_true, Bool.true_and, Bool.and_self, ite_true, ite_false, Nat.reduceLeDiff, reduceIte, reduceCtorEq, eq_self, decide_true, decide_false, not_true_eq_false, not_false_eq_true, Bool.false_and, Bool.and_false, Bool.or_false, Bool.false_or, Bool.true_or, Bool.or_true, e6, enc_plain] at hr
          rw [e7]
          exact ⟨_, hr.symm, rfl⟩)
      subst q3
      have e8 : List.map (fun p => enc (flip (ringOf a b c) p)) gs = encs (gs.map (flip (ringOf a b c))) := by simp [encs, Function.comp_def]
      rw [e8] at hr
      rw [hw'] at hr tE rw_
      have iR := is_round_eq w' false n n10
      have vD := l_wins_eq (round w' n) false n n10 (Gms.round w' n).inn
      have vG := l_wins_eq gs false n n10 gR.inn
      have eW : winsL (round w' n) n = winsL gs n := winsL_congr n rw_
      rw [eW] at vD
      simp only [kb_ok, kb_ex, kb_no, ret_k, lif_s, lif_n, dView_k, vView_k, dFlat_k, vFlat_int, vFlat_bl, vFlat_str, vFlat_non, dVar_k, kVar_k, dPk_k, kPk_k, dMv_k, kMv_k, dFrz_k, kFrz_k, dBin_k, vBin1_k, vBin2_k, dTest_k, vTest_k, dChain_k, vCh1_k, vCh2_k, vCh3_t, vCh3_f, dNot_k, vNot_k, dAnd_k, vAnd_t, vAnd_f, dOr_k, vOr_t, vOr_f, dAndV_k, vAndV_t, vAndV_f, dOrV_k, vOrV_t, vOrV_f, dNotV_k, vNotV_k, dIf_k, vIf_t, vIf_f, dCons_k, vCons1_k, vCons2_k, dTup_k, vTup_k, dLst_k, vLst_k, dCall_k, vCall_k, kc_rt, kc_ex, dItL_k, vItL_lst, vItL_sc, dItT_k, vItT_k, dRng1_k, vRng1_k, dRng2_k, vRng2_k, dCB_k, vCB_k, dIsi_k, vIsi_k, dListE_k, vListE_k, dListS_k, kLS_lst, dLRng1_k, vLRng1_k, dNeg_k, vNeg_k, dIxS_k, kIxS_k, vIxS_k, kIx2_lst, kIx2_tup, kIx2_sc, kIx3_k, dNx_k, dSeq_k, ks_nx, ks_rt, ks_bk, ks_ct, ks_ex, dDrop_k, kDrop_ok, kDrop_ex, dRet_k, kRet_ok, kRet_ex, dIfS_k, kIfS_t, kIfS_f, kIfS_ex, dSet_k, kSet_ok, kSet_ex, dAsg_k, kAsg_ok, kAsg_ex, kh_k, dAppend_k, kAp_k, kAp1_ok, kAp1_ex, kAp2_k, dAug_k, kAug_k, kAug1_ok, dSetItem_k, kSI_ok, kSI_ex, kSI1_k, kSI2_ok, kSI3_k, kSI4_k, dAugItem_k, kAI_k, kAI1_ok, kAI2_k, kAI3_k, kAI4_ok, kAI5_k, kAI6_k, dFor_k, kFor_ok, dComp_k, vComp_k, kCo_k, comp_nil, comp_cons, kc1_k, kc2_t, kc2_f, kc3_k, run_k, kRun_nx, kRun_rt, kRun_ex, hName_k, hNil_k, hCons_k, kH_k, hTup_k, gLt_int, gGt_int, gLe_int, gGe_int, gAdd_int, gMinus_int, gMul_int, gMod_int, gDiv_int, gIx_lst, gIx_tup, gIx_sc, gLen_lst, gLen_tup, gLen_sc, gAll_lst, gAny_lst, gSum_lst, isi_int_int, isi_int_bl, isi_bool_int, isi_bool_bl, isi_list_lst, isi_tuple_tup, isi_str_str, un_int, un_bl, un_str, un_non, un_sc, un_lst, un_tup, uns_nil, uns_cons, pl_int, pl_bl, pl_str, pl_non, pl_sc, pl_lst, pl_tup, pls_nil, pls_cons, ow_int, ow_bl, ow_str, ow_non, ow_lst, ow_tup, ows_nil, ows_cons, wipe_nil, wipe_cons, ints_nil, ints_cons, gBest_lst, gBest_tup, kBest_k, dKeep_k, vKeep_k, dCat_k, vCat1_k, vCat2_k, catD_k, dSorted_k, vSorted_k, sortD_k, dClear_k, kClr_k, dInsert_k, kIn_k, kIn1_ok, kIn2_ok, kIn3_k, tg_int, tg_bl, tg_str, tg_non, tg_tup, tgs_nil, tgs_cons, dRevT_k, vRevT_k, revTD_k, dRevL_k, vRevL_k, revLD_k, dTupOf_k, vTupOf_k, tupD_k, dCatM_k, vCatM1_k, vCatM2_k, catM_k, dTryB_k, kTry_nx, kTry_rt, kTry_ex, kTry2_k, isi_tuple_non, isi_tuple_lst, isi_int_lst, isi_int_str, isi_int_non, bls_nil, bls_cons, bnd_k, bigL0, bigL1, bigL2, bigL3, bigP0, bigP1, bigL4, bigL5, bigL6, bigL7, bigL8, bigL9, bigL10, bigL11, bigL12, bigP2, bigP3, bigP4, bigP5, bigP6, bigP7, bigP8, bigP9, bigP10, bigP11, bigP12, List.length_cons, List.length_nil, List.replicate, List.map_cons, List.map_nil, List.cons_append, List.nil_append, List.append_nil, List.getElem?_cons_zero, List.getElem?_cons_succ, List.set_cons_zero, List.set_cons_succ, Option.map_some, Option.map_none, Bool.not_true, Bool.not_false, if_true, Bool.false_eq_true, if_false, Nat.reduceAdd, Nat.reduceSub, Nat.reduceEqDiff, Bool.and_true, Bool.true_and, Bool.and_self, ite_true, ite_false, Nat.reduceLeDiff, reduceIte, reduceCtorEq, eq_self, decide_true, decide_false, not_true_eq_false, not_false_eq_true, Bool.false_and, Bool.and_false, Bool.or_false, Bool.false_or, Bool.true_or, Bool.or_true, gEq_k, gNe_k, fit_int, fit_bl, fit_non, fit_lst8, fit_tup8, fits_nil, fits_cons, eqv_ii, eqv_bb, eqv_tt, eqv_ll, eqvs_nil, eqvs_cons, encs_un, encs_own, tE, iR, encs_fit, encs_refl, vD, vG, winsL_own, winsL_un, winsL_fit, winsL_eqv, encs_plain] at hr
      exact ⟨_, .inl hr.symm, _, _, _, _, _, _, rfl⟩)
  have alls : [true, true, true, true, true, true, true, true, true].all id = true := rfl
  simp only [kb_ok, kb_ex, kb_no, ret_k, lif_s, lif_n, dView_k, vView_k, dFlat_k, vFlat_int, vFlat_bl, vFlat_str, vFlat_non, dVar_k, kVar_k, dPk_k, kPk_k, dMv_k, kMv_k, dFrz_k, kFrz_k, dBin_k, vBin1_k, vBin2_k, dTest_k, vTest_k, dChain_k, vCh1_k, vCh2_k, vCh3_t, vCh3_f, dNot_k, vNot_k, dAnd_k, vAnd_t, vAnd_f, dOr_k, vOr_t, vOr_f, dAndV_k, vAndV_t, vAndV_f, dOrV_k, vOrV_t, vOrV_f, dNotV_k, vNotV_k, dIf_k, vIf_t, vIf_f, dCons_k, vCons1_k, vCons2_k, dTup_k, vTup_k, dLst_k, vLst_k, dCall_k, vCall_k, kc_rt, kc_ex, dItL_k, vItL_lst, vItL_sc, dItT_k, vItT_k, dRng1_k, vRng1_k, dRng2_k, vRng2_k, dCB_k, vCB_k, dIsi_k, vIsi_k, dListE_k, vListE_k, dListS_k, kLS_lst, dLRng1_k, vLRng1_k, dNeg_k, vNeg_k, dIxS_k, kIxS_k, vIxS_k, kIx2_lst, kIx2_tup, kIx2_sc, kIx3_k, dNx_k, dSeq_k, ks_nx, ks_rt, ks_bk, ks_ct, ks_ex, dDrop_k, kDrop_ok, kDrop_ex, dRet_k, kRet_ok, kRet_ex, dIfS_k, kIfS_t, kIfS_f, kIfS_ex, dSet_k, kSet_ok, kSet_ex, dAsg_k, kAsg_ok, kAsg_ex, kh_k, dAppend_k, kAp_k, kAp1_ok, kAp1_ex, kAp2_k, dAug_k, kAug_k, kAug1_ok, dSetItem_k, kSI_ok, kSI_ex, kSI1_k, kSI2_ok, kSI3_k, kSI4_k, dAugItem_k, kAI_k, kAI1_ok, kAI2_k, kAI3_k, kAI4_ok, kAI5_k, kAI6_k, dFor_k, kFor_ok, dComp_k, vComp_k, kCo_k, comp_nil, comp_cons, kc1_k, kc2_t, kc2_f, kc3_k, run_k, kRun_nx, kRun_rt, kRun_ex, hName_k, hNil_k, hCons_k, kH_k, hTup_k, gLt_int, gGt_int, gLe_int, gGe_int, gAdd_int, gMinus_int, gMul_int, gMod_int, gDiv_int, gIx_lst, gIx_tup, gIx_sc, gLen_lst, gLen_tup, gLen_sc, gAll_lst, gAny_lst, gSum_lst, isi_int_int, isi_int_bl, isi_bool_int, isi_bool_bl, isi_list_lst, isi_tuple_tup, isi_str_str, un_int, un_bl, un_str, un_non, un_sc, un_lst, un_tup, uns_nil, uns_cons, pl_int, pl_bl, pl_str, pl_non, pl_sc, pl_lst, pl_tup, pls_nil, pls_cons, ow_int, ow_bl, ow_str, ow_non, ow_lst, ow_tup, ows_nil, ows_cons, wipe_nil, wipe_cons, ints_nil, ints_cons, gBest_lst, gBest_tup, kBest_k, dKeep_k, vKeep_k, dCat_k, vCat1_k, vCat2_k, catD_k, dSorted_k, vSorted_k, sortD_k, dClear_k, kClr_k, dInsert_k, kIn_k, kIn1_ok, kIn2_ok, kIn3_k, tg_int, tg_bl, tg_str, tg_non, tg_tup, tgs_nil, tgs_cons, dRevT_k, vRevT_k, revTD_k, dRevL_k, vRevL_k, revLD_k, dTupOf_k, vTupOf_k, tupD_k, dCatM_k, vCatM1_k, vCatM2_k, catM_k, dTryB_k, kTry_nx, kTry_rt, kTry_ex, kTry2_k, isi_tuple_non, isi_tuple_lst, isi_int_lst, isi_int_str, isi_int_non, bls_nil, bls_cons, bnd_k, bigL0, bigL1, bigL2, bigL3, bigP0, bigP1, bigL4, bigL5, bigL6, bigL7, bigL8, bigL9, bigL10, bigL11, bigL12, bigP2, bigP3, bigP4, bigP5, bigP6, bigP7, bigP8, bigP9, bigP10, bigP11, bigP12, List.length_cons, List.length_nil, List.replicate, List.map_cons, List.map_nil, List.cons_append, List.nil_append, List.append_nil, List.getElem?_cons_zero, List.getElem?_cons_succ, List.set_cons_zero, List.set_cons_succ, Option.map_some, Option.map_none, Bool.not_true, Bool.not_false, if_true, Bool.false_eq_true, if_false, Nat.reduceAdd, Nat.reduceSub, Nat.reduceEqDiff, Bool.and_true, Bool.true_and, Bool.and_self, ite_true, ite_false, Nat.reduceLeDiff, reduceIte, reduceCtorEq, eq_self, decide_true, decide_false, not_true_eq_false, not_false_eq_true, Bool.false_and, Bool.and_false, Bool.or_false, Bool.false_or, Bool.true_or, Bool.or_true, encs_un, bad1 k, bad2 k, bad3 k, bad4 k, bad5 k, bad6 k, bad7 k, bad8 k, bad9 k, alls]
end Kx

open PySem PySem.W PyProof.Rows in
set_option maxRecDepth 100000 in
set_option maxHeartbeats 0 in
theorem PySem.Challenge.cw_playedall_k04_turned_holds : PySem.Challenge.rw_playedall_k04_turned.Holds := by
  w_on; o_law; k_head; (case hw => w_witness2)
  k_fill
  refine Kx.walk (l := PySem.Challenge.rw_playedall_k04_turned) rfl rfl (fun w h Y => PySem.W.kIn_of Y) ?F
  case F =>
    intro w mg fa h KX G hmg
    refine' Kx.all_mk Kx.law_true KX G hmg ?zValueError ?zall ?zbool ?zint ?zisinstance ?zlen ?zlist ?zmax ?zmin ?zrange ?ztuple ?cMOST ?gBadRound ?xBadRound ?kBadRound ?bBadRound ?tBadRound ?gBadTurn ?xBadTurn ?kBadTurn ?bBadTurn ?tBadTurn ?gRoundError ?gBadPlayer ?gBadText ?gBadWins ?gUnlike ?uBadTurnhg ?uBadTurnhk ?uBadTurnhs ?uBadTurnhd ?uBadTurnha ?uBadTurnhn ?uBadTurnht ?uBadTurnhm ?rBadTurn_RoundError_BadTurnb ?rBadTurn_RoundError_BadTurnv ?rBadTurn_RoundError_BadTurns ?rBadTurn_RoundError_BadTurndRoundError ?rBadTurn_RoundError_BadTurntRoundError ?rBadTurn_RoundError_BadTurnuRoundError ?rBadTurn_RoundError_BadTurndBadTurn ?rBadTurn_RoundError_BadTurntBadTurn ?rBadTurn_RoundError_BadTurnuBadTurn ?rBadTurn_RoundError_BadTurndBadPlayer ?rBadTurn_RoundError_BadTurntBadPlayer ?rBadTurn_RoundError_BadTurnuBadPlayer ?rBadTurn_RoundError_BadTurndBadRound ?rBadTurn_RoundError_BadTurntBadRound ?rBadTurn_RoundError_BadTurnuBadRound ?rBadTurn_RoundError_BadTurndBadText ?rBadTurn_RoundError_BadTurntBadText ?rBadTurn_RoundError_BadTurnuBadText ?rBadTurn_RoundError_BadTurndBadWins ?rBadTurn_RoundError_BadTurntBadWins ?rBadTurn_RoundError_BadTurnuBadWins ?rBadTurn_RoundError_BadTurndUnlike ?rBadTurn_RoundError_BadTurntUnlike ?rBadTurn_RoundError_BadTurnuUnlike ?a0 ?l0 ?p0 ?k0 ?a1 ?l1 ?p1 ?k1 ?a2 ?l2 ?p2 ?k2 ?a3 ?l3 ?p3 ?k3 ?a4 ?l4 ?p4 ?k4 ?a5 ?l5 ?p5 ?k5 ?a6 ?l6 ?p6 ?k6 ?a7 ?l7 ?p7 ?k7 ?a8 ?l8 ?p8 ?k8 ?a9 ?l9 ?p9 ?k9 ?a10 ?l10 ?p10 ?k10 ?a11 ?l11 ?p11 ?k11 ?a12 ?l12 ?p12 ?k12 ?a13 ?l13 ?p13 ?k13 ?a14 ?l14 ?p14 ?k14
    (case zValueError => k_is)
    (case zall => k_is)
    (case zbool => k_is)
    (case zint => k_is)
    (case zisinstance => k_is)
    (case zlen => k_is)
    (case zlist => k_is)
    (case zmax => k_is)
    (case zmin => k_is)
    (case zrange => k_is)
    (case ztuple => k_is)
    (case cMOST => k_is)
    (case gBadRound => k_is)
    (case xBadRound => k_exc)
    (case kBadRound => k_is)
    (case bBadRound => k_is)
    (case tBadRound => k_is)
    (case gBadTurn => k_is)
    (case xBadTurn => k_exc)
    (case kBadTurn => k_is)
    (case bBadTurn => k_is)
    (case tBadTurn => k_is)
    (case gRoundError => k_is)
    (case gBadPlayer => k_is)
    (case gBadText => k_is)
    (case gBadWins => k_is)
    (case gUnlike => k_is)
    (case uBadTurnhg => k_is)
    (case uBadTurnhk => k_is)
    (case uBadTurnhs => k_is)
    (case uBadTurnhd => k_is)
    (case uBadTurnha => k_is)
    (case uBadTurnhn => k_is)
    (case uBadTurnht => k_is)
    (case uBadTurnhm => k_is)
    (case rBadTurn_RoundError_BadTurnb => k_is)
    (case rBadTurn_RoundError_BadTurnv => k_is)
    (case rBadTurn_RoundError_BadTurns => k_is)
    (case rBadTurn_RoundError_BadTurndRoundError => k_is)
    (case rBadTurn_RoundError_BadTurntRoundError => k_is)
    (case rBadTurn_RoundError_BadTurnuRoundError => k_is)
    (case rBadTurn_RoundError_BadTurndBadTurn => k_is)
    (case rBadTurn_RoundError_BadTurntBadTurn => k_is)
    (case rBadTurn_RoundError_BadTurnuBadTurn => k_is)
    (case rBadTurn_RoundError_BadTurndBadPlayer => k_is)
    (case rBadTurn_RoundError_BadTurntBadPlayer => k_is)
    (case rBadTurn_RoundError_BadTurnuBadPlayer => k_is)
    (case rBadTurn_RoundError_BadTurndBadRound => k_is)
    (case rBadTurn_RoundError_BadTurntBadRound => k_is)
    (case rBadTurn_RoundError_BadTurnuBadRound => k_is)
    (case rBadTurn_RoundError_BadTurndBadText => k_is)
    (case rBadTurn_RoundError_BadTurntBadText => k_is)
    (case rBadTurn_RoundError_BadTurnuBadText => k_is)
    (case rBadTurn_RoundError_BadTurndBadWins => k_is)
    (case rBadTurn_RoundError_BadTurntBadWins => k_is)
    (case rBadTurn_RoundError_BadTurnuBadWins => k_is)
    (case rBadTurn_RoundError_BadTurndUnlike => k_is)
    (case rBadTurn_RoundError_BadTurntUnlike => k_is)
    (case rBadTurn_RoundError_BadTurnuUnlike => k_is)
    (case a0 => k_is)
    (case l0 => k_is)
    (case p0 => k_is)
    (case k0 => k_is)
    (case a1 => k_is)
    (case l1 => k_is)
    (case p1 => k_is)
    (case k1 => k_is)
    (case a2 => k_is)
    (case l2 => k_is)
    (case p2 => k_is)
    (case k2 => k_is)
    (case a3 => k_is)
    (case l3 => k_is)
    (case p3 => k_is)
    (case k3 => k_is)
    (case a4 => k_is)
    (case l4 => k_is)
    (case p4 => k_is)
    (case k4 => k_is)
    (case a5 => k_is)
    (case l5 => k_is)
    (case p5 => k_is)
    (case k5 => k_is)
    (case a6 => k_is)
    (case l6 => k_is)
    (case p6 => k_is)
    (case k6 => k_is)
    (case a7 => k_is)
    (case l7 => k_is)
    (case p7 => k_is)
    (case k7 => k_is)
    (case a8 => k_is)
    (case l8 => k_is)
    (case p8 => k_is)
    (case k8 => k_is)
    (case a9 => k_is)
    (case l9 => k_is)
    (case p9 => k_is)
    (case k9 => k_is)
    (case a10 => k_is)
    (case l10 => k_is)
    (case p10 => k_is)
    (case k10 => k_is)
    (case a11 => k_is)
    (case l11 => k_is)
    (case p11 => k_is)
    (case k11 => k_is)
    (case a12 => k_is)
    (case l12 => k_is)
    (case p12 => k_is)
    (case k12 => k_is)
    (case a13 => k_is)
    (case l13 => k_is)
    (case p13 => k_is)
    (case k13 => k_is)
    (case a14 => k_is)
    (case l14 => k_is)
    (case p14 => k_is)
    (case k14 => k_is)
