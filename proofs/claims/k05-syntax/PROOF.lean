import PyProof.Rows.All
import Wide.All
import OpenK.AllK
import Wide.FinOn
import HandS.ForMost
import HandS.Lambda
import HandS.TupAny
import HandS.Deep
import HandS.Wide
import HandS.Flow
import HandS.Style
import HandS.IsInst
import HandS.Codes
import HandS.WordsDict
import HandS.Small
import HandS.More
import KE.SortData
import HandS.Conv
import HandS.DeepEq
import KE.KDictDisplayH
import HandS.Ends
import HandS.Zip
import KE.GoesMore
import KE.GoesEnum
import HandS.DictComp
import HandS.WrittenGet
import HandS.Nested
import HandS.EndTab
import KE.KNestM
import KE.DataCmp
import PyProof.TupleOfSeq
import PySem.Challenge.RW_wherewritten_k05_syntax_and_scopes
set_option Elab.async false
set_option linter.all false
set_option maxRecDepth 100000
set_option maxHeartbeats 4000000
namespace Y
open PySem PySem.Spec L2

/-- data that nobody changes any more -/
inductive D where
  | non | bl (b : Bool) | int (i : Int) | str (x : Str) | tup (ds : List D) | lst (ds : List D) | raw (v : V) | fnv (f c : Addr) (q : Str) (vs : List V) (ds : List D)
/-- a label: a slot of the body, a temporary, a slot whose object is walked now, another's -/
inductive Lb where
  | s (i : Nat) | t (j : Nat) | h (i : Nat) | x | k (q : Str)
  deriving DecidableEq
abbrev Own := Addr → Option Lb
/-- what a slot holds: data, or an object that it alone owns; sq: a list that is only read -/
inductive M where
  | im (d : D) | ls (ds : List D) | sq (ds : List D) | rd (ds : List D) | dk (kvs : List (Key × D)) | dt (kvs : List (List Key × D))
inductive Sl where
  | no | lo (m : M) | pa (m : M) | hd (p : Bool) (v : V) (m : M)
inductive R where
  | im (d : D) | tm (m : M) | sl (i : Nat)

def Tp (_K : PySem.W.Frag) (o : Own) (H : Hp) (a : Addr) (xs : List V) : Prop := o a = none ∧ H a = some (.tup xs)
def Lq (K : PySem.W.Frag) (o : Own) (H : Hp) (a : Addr) (xs : List V) : Prop :=
  ((o a = none ∨ o a = some .x) ∧ Rd H a (.lst xs)) ∨
    ∃ (u : Obj) (its : Array Value) (n : Nat), K.lookup a = some u ∧ u.cls = .type "list" ∧ u.dict = none ∧ u.data = .seq its n ∧ its.size ≤ sizeLine ∧ Vals xs its.toList
mutual
inductive Dat (K : PySem.W.Frag) (o : Own) (H : Hp) : V → D → Prop
  | non : Dat K o H .non .non
  | bl (b : Bool) : Dat K o H (.bl b) (.bl b)
  | int (i : Int) : Dat K o H (.int i) (.int i)
  | str (x : Str) : Dat K o H (.str x) (.str x)
  | raw (v : V) : Dat K o H v (.raw v)
  | fnv {f c : Addr} {q : Str} {vs : List V} {ds : List D} : o c = none → H c = some (LamX.CodeO c q) → Dats K o H vs ds → Dat K o H (.ref f) (.fnv f c q vs ds)
  | tup {a : Addr} {xs : List V} {ds : List D} : Tp K o H a xs → Dats K o H xs ds → Dat K o H (.ref a) (.tup ds)
  | lst {a : Addr} {xs : List V} {ds : List D} : o a = none → H a = some (.lst xs) → Dats K o H xs ds → Dat K o H (.ref a) (.lst ds)
inductive Dats (K : PySem.W.Frag) (o : Own) (H : Hp) : List V → List D → Prop
  | nil : Dats K o H [] []
  | cons {v : V} {vs : List V} {d : D} {ds : List D} : Dat K o H v d → Dats K o H vs ds → Dats K o H (v :: vs) (d :: ds)
end
abbrev Kvs {κ : Type} (K : PySem.W.Frag) (o : Own) (H : Hp) : List (κ × V) → List (κ × D) → Prop := Paired fun (p : κ × V) (q : κ × D) => p.1 = q.1 ∧ Dat K o H p.2 q.2

def IsM (K : PySem.W.Frag) (o : Own) (H : Hp) (l : Lb) (v : V) : M → Prop
  | .im d => Dat K o H v d
  | .ls ds => ∃ a xs, v = .ref a ∧ o a = some l ∧ H a = some (.lst xs) ∧ Dats K o H xs ds
  | .sq ds => ∃ a xs, v = .ref a ∧ Lq K o H a xs ∧ Dats K o H xs ds
  | .rd ds => ∃ a xs, v = .ref a ∧ o a = some l ∧ H a = some (.lst xs) ∧ Dats K o H xs ds
  | .dk kvs => ∃ a ks, v = .ref a ∧ o a = some l ∧ H a = some (.dK ks) ∧ Kvs K o H ks kvs
  | .dt kvs => ∃ a ks, v = .ref a ∧ o a = some l ∧ H a = some (.dT ks) ∧ Kvs K o H ks kvs
def Vw (K : PySem.W.Frag) (o : Own) (H : Hp) (v : V) (m : M) : Prop := ∃ l, IsM K o H l v m
def M.own : M → Bool
  | .ls _ => true | .dk _ => true | .dt _ => true | .rd _ => true | _ => false
def M.res : M → R
  | .im d => .im d
  | m => .tm m
def Sl.m? : Sl → Option M
  | .no => none | .lo m => some m | .pa m => some m
  | .hd _ _ (.ls ds) => some (.rd ds)
  | .hd _ _ _ => none

def Mt : Option HO → Prop
  | some (.tbl _) => True
  | some (.lst _) => True
  | some (.dK _) => True
  | some (.dT _) => True
  | _ => False
/-- at P: a table of code objects, each of the name q (k: the table is the body's to grow; x: another's) -/
def Tab (o : Own) (H : Hp) (P : Addr) (q : Str) : Prop := ∃ ps : Array Value, o P = some (.k q) ∧ H P = some (.tbl ps) ∧ TriplesOk ps.toList ∧
  ∀ (pos : Pos) (cv : Value), codeAmong pos ps.toList = some cv → ∃ c, cv = .ref c ∧ o c = none ∧ H c = some (LamX.CodeO c q)
/-- what is not labelled stays; what is another's stays; a table stays one -/
structure Le (o : Own) (H : Hp) (o' : Own) (H' : Hp) : Prop where
  keep : ∀ b u, o b = none → H b = some u → o' b = none ∧ H' b = some u
  ext : ∀ b, o b = some .x → o' b = some .x ∧ H' b = H b
  tbs : ∀ P q, Tab o H P q → Tab o' H' P q
theorem Le.mk' {o o' : Own} {H H' : Hp} (k : ∀ b u, o b = none → H b = some u → o' b = none ∧ H' b = some u) (e : ∀ b, o b = some .x → o' b = some .x ∧ H' b = H b) (t : ∀ b q, o b = some (.k q) → o' b = some (.k q) ∧ H' b = H b) : Le o H o' H' := by
  refine ⟨k, e, fun P q ⟨ps, hl, hP, ok, all⟩ => ?_⟩
  have at_ : o' P = some (.k q) ∧ H' P = H P := t P q hl
  refine ⟨ps, at_.1, at_.2.trans hP, ok, fun pos cv hc => ?_⟩
  obtain ⟨c, e1, e2, e3⟩ := all pos cv hc
  exact ⟨c, e1, (k c _ e2 e3).1, (k c _ e2 e3).2⟩
theorem Le.refl {o : Own} {H : Hp} : Le o H o H := ⟨fun _ _ a b => ⟨a, b⟩, fun _ a => ⟨a, rfl⟩, fun _ _ a => a⟩
theorem Le.trans {o o1 o2 : Own} {H H1 H2 : Hp} (a : Le o H o1 H1) (b : Le o1 H1 o2 H2) : Le o H o2 H2 :=
  ⟨fun c u e f => let ⟨e1, f1⟩ := a.keep c u e f; b.keep c u e1 f1, fun c e => let ⟨e1, f1⟩ := a.ext c e; let ⟨e2, f2⟩ := b.ext c e1; ⟨e2, f2.trans f1⟩, fun P q t => b.tbs P q (a.tbs P q t)⟩
section
variable {K : PySem.W.Frag} {o o' : Own} {H H' : Hp} {l l' : Lb} {v : V}
theorem Tp.mono (L : Le o H o' H') {a : Addr} {xs : List V} (h : Tp K o H a xs) : Tp K o' H' a xs := L.keep _ _ h.1 h.2
theorem Lq.mono (L : Le o H o' H') {a : Addr} {xs : List V} (h : Lq K o H a xs) : Lq K o' H' a xs := by
  rcases h with ⟨e | e, h⟩ | h
  · rcases h with h | ⟨u, h⟩
    · exact .inl ⟨.inl (L.keep _ _ e h).1, .inl (L.keep _ _ e h).2⟩
    · exact .inl ⟨.inl (L.keep _ _ e h).1, .inr ⟨u, (L.keep _ _ e h).2⟩⟩
  · obtain ⟨e1, e2⟩ := L.ext _ e
    refine .inl ⟨.inr e1, ?_⟩
    unfold Rd at h ⊢
    rw [e2]; exact h
  · exact .inr h
theorem Tp.sq {a : Addr} {xs : List V} (h : Tp K o H a xs) : SqT K H a xs := SqT.of h.2
theorem Lq.sq {a : Addr} {xs : List V} (h : Lq K o H a xs) : SqL K H a xs := by
  rcases h with ⟨_, h⟩ | h
  · exact .inl h
  · exact .inr h
mutual
theorem Dat.mono (L : Le o H o' H') : ∀ {v : V} {d : D}, Dat K o H v d → Dat K o' H' v d
  | _, _, .non => .non
  | _, _, .bl b => .bl b
  | _, _, .int b => .int b
  | _, _, .str b => .str b
  | _, _, .raw b => .raw b
  | _, _, .fnv a b r => .fnv (L.keep _ _ a b).1 (L.keep _ _ a b).2 (Dats.mono L r)
  | _, _, .tup h r => .tup (h.mono L) (Dats.mono L r)
  | _, _, .lst e h r => .lst (L.keep _ _ e h).1 (L.keep _ _ e h).2 (Dats.mono L r)
theorem Dats.mono (L : Le o H o' H') : ∀ {v : List V} {d : List D}, Dats K o H v d → Dats K o' H' v d
  | _, _, .nil => .nil
  | _, _, .cons a r => .cons (Dat.mono L a) (Dats.mono L r)
end
theorem Kvs.mono {κ : Type} (L : Le o H o' H') {ks : List (κ × V)} {kvs : List (κ × D)} (h : Kvs K o H ks kvs) : Kvs K o' H' ks kvs :=
  Paired.mapP h fun _ _ z => ⟨z.1, z.2.mono L⟩
theorem IsM.mono (L : Le o H o' H') (h : ∀ a, o a = some l → o' a = some l' ∧ H' a = H a) : ∀ {m : M}, IsM K o H l v m → IsM K o' H' l' v m
  | .im _, q => Dat.mono L q
  | .ls _, ⟨a, xs, e, f, g, q⟩ => ⟨a, xs, e, (h a f).1, (h a f).2.trans g, q.mono L⟩
  | .sq _, ⟨a, xs, e, f, q⟩ => ⟨a, xs, e, f.mono L, q.mono L⟩
  | .rd _, ⟨a, xs, e, f, g, q⟩ => ⟨a, xs, e, (h a f).1, (h a f).2.trans g, q.mono L⟩
  | .dk _, ⟨a, xs, e, f, g, q⟩ => ⟨a, xs, e, (h a f).1, (h a f).2.trans g, Kvs.mono L q⟩
  | .dt _, ⟨a, xs, e, f, g, q⟩ => ⟨a, xs, e, (h a f).1, (h a f).2.trans g, Kvs.mono L q⟩
theorem Dats.length : ∀ {v : List V} {d : List D}, Dats K o H v d → v.length = d.length
  | _, _, .nil => rfl
  | _, _, .cons _ r => congrArg (· + 1) r.length
theorem Dats.append : ∀ {v w : List V} {d e : List D}, Dats K o H v d → Dats K o H w e → Dats K o H (v ++ w) (d ++ e)
  | _, _, _, _, .nil, s => s
  | _, _, _, _, .cons a r, s => .cons a (r.append s)
theorem Dats.get : ∀ {v : List V} {d : List D} {i : Nat} {x : D}, Dats K o H v d → d[i]? = some x → ∃ u, v[i]? = some u ∧ Dat K o H u x
  | _, _, 0, _, .cons a _, rfl => ⟨_, rfl, a⟩
  | _, _, _ + 1, _, .cons _ r, e => r.get e
theorem Dats.getV : ∀ {v : List V} {d : List D} {i : Nat} {u : V}, Dats K o H v d → v[i]? = some u → ∃ x, d[i]? = some x ∧ Dat K o H u x
  | _, _, 0, _, .cons a _, rfl => ⟨_, rfl, a⟩
  | _, _, _ + 1, _, .cons _ r, e => r.getV e
theorem Dats.take : ∀ {v : List V} {d : List D} (n : Nat), Dats K o H v d → Dats K o H (v.take n) (d.take n)
  | _, _, 0, _ => .nil
  | _, _, _ + 1, .nil => .nil
  | _, _, n + 1, .cons a r => .cons a (r.take n)
theorem Dats.drop : ∀ {v : List V} {d : List D} (n : Nat), Dats K o H v d → Dats K o H (v.drop n) (d.drop n)
  | _, _, 0, r => r
  | _, _, _ + 1, .nil => .nil
  | _, _, n + 1, .cons _ r => r.drop n
theorem Dats.set {u : V} {x : D} (q : Dat K o H u x) : ∀ {v : List V} {d : List D} (i : Nat), Dats K o H v d → Dats K o H (v.set i u) (d.set i x)
  | _, _, _, .nil => .nil
  | _, _, 0, .cons _ r => .cons q r
  | _, _, i + 1, .cons a r => .cons a (r.set q i)
theorem Dats.reverse {v : List V} {d : List D} (h : Dats K o H v d) : Dats K o H v.reverse d.reverse := by
  induction v generalizing d with
  | nil => cases h; exact .nil
  | cons x r ih =>
    cases h with
    | cons a t => rw [List.reverse_cons, List.reverse_cons]; exact (ih t).append (.cons a .nil)
theorem Dats.dropLast {v : List V} {d : List D} (h : Dats K o H v d) : Dats K o H v.dropLast d.dropLast := by
  rw [List.dropLast_eq_take, List.dropLast_eq_take, h.length]; exact h.take _
theorem Dats.ints : ∀ {v : List V} {ns : List Int}, Dats K o H v (ns.map D.int) → v = ns.map V.int
  | _, [], h => by cases h; rfl
  | _, n :: ns, h => by
    cases h with
    | cons a r => cases a; rw [Dats.ints r]; rfl
theorem Dats.of_ints : ∀ (ns : List Int), Dats K o H (ns.map V.int) (ns.map D.int)
  | [] => .nil
  | n :: ns => .cons (.int n) (Dats.of_ints ns)
theorem Dats.bls : ∀ {v : List V} {ns : List Bool}, Dats K o H v (ns.map D.bl) → v = ns.map V.bl
  | _, [], h => by cases h; rfl
  | _, n :: ns, h => by
    cases h with
    | cons a r => cases a; rw [Dats.bls r]; rfl
end

/-! ### the state of a body -/
structure Cc where
  o0 : Own
  H0 : Hp
  pv : List V
def SlOk (K : PySem.W.Frag) (c : Cc) (o : Own) (σ : St) (H : Hp) (i : Nat) : Sl → Prop
  | .no => True
  | .lo m => ∃ v, σ[i]? = some (some v) ∧ IsM K o H (.s i) v m
  | .pa m => ∃ v, σ[i]? = some (some v) ∧ c.pv[i]? = some v ∧ IsM K o H (.s i) v m
  | .hd p v m => σ[i]? = some (some v) ∧ (p = true → c.pv[i]? = some v) ∧ IsM K o H (.h i) v m
abbrev Env := List Sl
structure Rep (K : PySem.W.Frag) (c : Cc) (o : Own) (σ : St) (H : Hp) (ρ : Env) (τ : List (V × M)) : Prop where
  sl : ∀ i s, ρ[i]? = some s → SlOk K c o σ H i s
  tm : ∀ j v m, τ[j]? = some (v, m) → IsM K o H (.t j) v m ∧ m.own = true
  mu : ∀ a l, o a = some l → Mt (H a)
  le : Le c.o0 c.H0 o H
  ln : ρ.length = σ.length
def vw (ρ : Env) : R → Option M
  | .im d => some (.im d)
  | .tm m => some m
  | .sl i => match ρ[i]? with
    | some s => s.m?
    | none => none
def RelR (K : PySem.W.Frag) (o : Own) (H : Hp) (σ : St) (v : V) (r : R) (τ τ' : List (V × M)) : Prop :=
  match r with
  | .im d => τ' = τ ∧ Dat K o H v d
  | .tm m => τ' = τ ++ [(v, m)]
  | .sl i => τ' = τ ∧ σ[i]? = some (some v)

section
variable {K : PySem.W.Frag} {c : Cc} {o o' : Own} {σ : St} {H H' : Hp} {ρ : Env} {τ τ' τ0 τ1 : List (V × M)} {v : V} {r : R} {m : M}
theorem SlOk.mono (L : Le o H o' H') {i : Nat} (h : ∀ a, o a = some (.s i) → o' a = some (.s i) ∧ H' a = H a) (hh : ∀ a, o a = some (.h i) → o' a = some (.h i) ∧ H' a = H a) : ∀ {s : Sl}, SlOk K c o σ H i s → SlOk K c o' σ H' i s
  | .no, _ => trivial
  | .lo _, ⟨v, e, q⟩ => ⟨v, e, q.mono L h⟩
  | .pa _, ⟨v, e, f, q⟩ => ⟨v, e, f, q.mono L h⟩
  | .hd _ _ _, ⟨e, f, q⟩ => ⟨e, f, q.mono L hh⟩
theorem SlOk.of {i : Nat} {s : Sl} (h : SlOk K c o σ H i s) (e : s.m? = some m) : ∃ v, σ[i]? = some (some v) ∧ Vw K o H v m := by
  cases s with
  | no => cases e
  | lo z => cases e; obtain ⟨v, a, q⟩ := h; exact ⟨v, a, _, q⟩
  | pa z => cases e; obtain ⟨v, a, _, q⟩ := h; exact ⟨v, a, _, q⟩
  | hd p v z =>
    obtain ⟨a, _, q⟩ := h
    cases z with
    | ls ds => cases e; exact ⟨v, a, _, q⟩
    | _ => cases e
theorem Rep.vw_ok (R0 : Rep K c o σ H ρ τ) (h : RelR K o H σ v r τ0 τ1) (p : τ1 <+: τ) (e : vw ρ r = some m) : Vw K o H v m := by
  cases r with
  | im d => cases e; exact ⟨.x, h.2⟩
  | tm z =>
    cases e
    have q : τ1 = τ0 ++ [(v, m)] := h
    subst q
    obtain ⟨t, rfl⟩ := p
    exact ⟨_, (R0.tm τ0.length v m (by simp)).1⟩
  | sl i =>
    obtain ⟨_, hs⟩ := h
    unfold vw at e
    cases q : ρ[i]? with
    | none => simp only [q] at e; cases e
    | some s =>
      simp only [q] at e
      obtain ⟨w, hw, z⟩ := (R0.sl i s q).of e
      rw [hs] at hw; cases hw
      exact z
theorem RelR.mono (L : Le o H o' H') (h : RelR K o H σ v r τ τ') : RelR K o' H' σ v r τ τ' := by
  cases r with
  | im d => exact ⟨h.1, h.2.mono L⟩
  | tm z => exact h
  | sl i => exact h
theorem RelR.pre (h : RelR K o H σ v r τ τ') : τ <+: τ' := by
  cases r with
  | im d => rw [h.1]; exact List.prefix_rfl
  | tm z =>
    have q : τ' = τ ++ [(v, z)] := h
    rw [q]; exact List.prefix_append _ _
  | sl i => rw [h.1]; exact List.prefix_rfl
/-- only objects are added -/
def Grow (H H' : Hp) : Prop := ∀ b u, H b = some u → H' b = some u
theorem Grow.refl : Grow H H := fun _ _ h => h
theorem Grow.new {p : Addr} {u : HO} (h : H p = none) : Grow H (upd H p u) := fun b w e => by rw [upd_ne (ne_of_none e h)]; exact e
theorem mut_some (h : Mt (H v1)) : ∃ u, H v1 = some u := by
  cases e : H v1 with
  | none => rw [e] at h; exact h.elim
  | some u => exact ⟨u, rfl⟩
theorem Grow.le (g : Grow H H') (mu : ∀ a l, o a = some l → Mt (H a)) : Le o H o H' :=
  have at_ : ∀ b l, o b = some l → H' b = H b := fun b l e => by obtain ⟨u, q⟩ := mut_some (mu b l e); rw [q]; exact g b u q
  .mk' (fun b u e f => ⟨e, g b u f⟩) (fun b e => ⟨e, at_ b _ e⟩) fun b _ e => ⟨e, at_ b _ e⟩
theorem Grow.mu (g : Grow H H') (mu : ∀ a l, o a = some l → Mt (H a)) : ∀ a l, o a = some l → Mt (H' a) := fun a l e => by
  obtain ⟨u, q⟩ := mut_some (mu a l e)
  have := mu a l e
  rw [g a u q, ← q]; exact this
theorem Grow.at (g : Grow H H') (mu : ∀ a l, o a = some l → Mt (H a)) : ∀ a l, o a = some l → H' a = H a := fun a l e => by
  obtain ⟨u, q⟩ := mut_some (mu a l e)
  rw [g a u q, q]
theorem Rep.grow (R0 : Rep K c o σ H ρ τ) (g : Grow H H') : Rep K c o σ H' ρ τ :=
  ⟨fun i s e => (R0.sl i s e).mono (g.le R0.mu) (fun a q => ⟨q, g.at R0.mu a _ q⟩) fun a q => ⟨q, g.at R0.mu a _ q⟩, fun j v m e => ⟨(R0.tm j v m e).1.mono (g.le R0.mu) fun a q => ⟨q, g.at R0.mu a _ q⟩, (R0.tm j v m e).2⟩, g.mu R0.mu,
    R0.le.trans (g.le R0.mu), R0.ln⟩
theorem Rep.fresh (R0 : Rep K c o σ H ρ τ) {p : Addr} (h : H p = none) : o p = none := by
  cases e : o p with
  | none => rfl
  | some l => have := R0.mu p l e; rw [h] at this; exact this.elim
/-- the temporaries from n on are let go: their objects are data now -/
def dropT (n : Nat) (o : Own) : Own := fun a => match o a with
  | some (.t j) => if j < n then some (.t j) else none
  | l => l
theorem dropT_le (n : Nat) : Le o H (dropT n o) H :=
  .mk' (fun b u e f => ⟨by unfold dropT; rw [e], f⟩) (fun b e => ⟨by unfold dropT; rw [e], rfl⟩) fun b _ e => ⟨(by unfold dropT; rw [e]), rfl⟩
theorem dropT_s {n i : Nat} {a : Addr} (h : o a = some (.s i)) : dropT n o a = some (.s i) := by unfold dropT; rw [h]
theorem dropT_h {n i : Nat} {a : Addr} (h : o a = some (.h i)) : dropT n o a = some (.h i) := by unfold dropT; rw [h]
theorem dropT_t {n j : Nat} {a : Addr} (h : o a = some (.t j)) (k : j < n) : dropT n o a = some (.t j) := by unfold dropT; rw [h]; simp [k]
theorem dropT_some {n : Nat} {a : Addr} {l : Lb} (h : dropT n o a = some l) : o a = some l := by
  unfold dropT at h
  split at h
  · rename_i j e
    split at h
    · rw [e]; exact h
    · cases h
  · exact h
theorem Rep.drop (R0 : Rep K c o σ H ρ τ) (p : τ0 <+: τ) : Rep K c (dropT τ0.length o) σ H ρ τ0 := by
  obtain ⟨t, rfl⟩ := p
  refine ⟨fun i s e => (R0.sl i s e).mono (dropT_le _) (fun a q => ⟨dropT_s q, rfl⟩) fun a q => ⟨dropT_h q, rfl⟩, fun j v m e => ?_, fun a l e => R0.mu a l (dropT_some e), R0.le.trans (dropT_le _), R0.ln⟩
  have hj : j < τ0.length := (List.getElem?_eq_some_iff.mp e).1
  have q := R0.tm j v m (by rw [List.getElem?_append_left hj]; exact e)
  exact ⟨q.1.mono (dropT_le _) fun a z => ⟨dropT_t z hj, rfl⟩, q.2⟩
/-- one more temporary -/
theorem Rep.push (R0 : Rep K c o σ H ρ τ) {p : Addr} {u : HO} (hp : H p = none) (hu : Mt (some u)) (hm : m.own = true)
    (h : IsM K (fun b => if b = p then some (.t τ.length) else o b) (upd H p u) (.t τ.length) (.ref p) m) :
    Rep K c (fun b => if b = p then some (.t τ.length) else o b) σ (upd H p u) ρ (τ ++ [(.ref p, m)]) ∧ Le o H (fun b => if b = p then some (.t τ.length) else o b) (upd H p u) := by
  have ne : ∀ b w, H b = some w → b ≠ p := fun b w e => ne_of_none e hp
  have neo : ∀ b l, o b = some l → b ≠ p := fun b l e => by obtain ⟨w, q⟩ := mut_some (R0.mu b l e); exact ne b w q
  have L : Le o H (fun b => if b = p then some (.t τ.length) else o b) (upd H p u) :=
    .mk' (fun b w e f => ⟨by show (if b = p then _ else o b) = none; rw [if_neg (ne b w f)]; exact e, by rw [upd_ne (ne b w f)]; exact f⟩)
     (fun b e => ⟨by show (if b = p then _ else o b) = _; rw [if_neg (neo b _ e)]; exact e, upd_ne (neo b _ e)⟩)
     fun b _ e => ⟨(by show (if b = p then _ else o b) = _; rw [if_neg (neo b _ e)]; exact e), upd_ne (neo b _ e)⟩
  have kp : ∀ l a, o a = some l → (if a = p then some (.t τ.length) else o a) = some l ∧ upd H p u a = H a := fun l a e => ⟨by rw [if_neg (neo a _ e)]; exact e, upd_ne (neo a _ e)⟩
  refine ⟨⟨fun i s e => (R0.sl i s e).mono L (kp _) (kp _), fun j v m' e => ?_, fun a l e => ?_, R0.le.trans L, R0.ln⟩, L⟩
  · by_cases hj : j < τ.length
    · rw [List.getElem?_append_left hj] at e
      exact ⟨(R0.tm j v m' e).1.mono L (kp _), (R0.tm j v m' e).2⟩
    · rw [List.getElem?_append_right (by omega)] at e
      have hz : j - τ.length = 0 := by
        cases q : j - τ.length with
        | zero => rfl
        | succ n => rw [q] at e; simp at e
      rw [hz] at e
      have e2 : j = τ.length := by omega
      subst e2
      simp at e
      obtain ⟨rfl, rfl⟩ := e
      exact ⟨h, hm⟩
  · by_cases q : a = p
    · subst q; rw [upd_same]; exact hu
    · have e : (if a = p then some (.t τ.length) else o a) = some l := e
      rw [if_neg q] at e
      rw [upd_ne q]
      exact R0.mu a l e
/-- a result: data, or a new object -/
def NewM (K : PySem.W.Frag) (o : Own) (H H' : Hp) (v : V) : M → Prop
  | .im d => Dat K o H' v d
  | .ls ds => ∃ p xs, v = .ref p ∧ H p = none ∧ H' = upd H p (.lst xs) ∧ Dats K o H xs ds
  | .dk kvs => ∃ p ks, v = .ref p ∧ H p = none ∧ H' = upd H p (.dK ks) ∧ Kvs K o H ks kvs
  | .dt kvs => ∃ p ks, v = .ref p ∧ H p = none ∧ H' = upd H p (.dT ks) ∧ Kvs K o H ks kvs
  | .sq _ => False
  | .rd _ => False
/-- behind an operation that only makes: temporaries of the operands are let go -/
theorem Rep.made (R0 : Rep K c o σ H ρ τ) (p : τ0 <+: τ) (g : Grow H H') (h : NewM K o H H' v m) :
    ∃ o' τ', Le o H o' H' ∧ Rep K c o' σ H' ρ τ' ∧ RelR K o' H' σ v m.res τ0 τ' := by
  have R1 := R0.drop p
  have L1 : Le o H (dropT τ0.length o) H := dropT_le _
  cases m with
  | im d =>
    have h : Dat K o H' v d := h
    refine ⟨dropT τ0.length o, τ0, L1.trans (g.le R1.mu), R1.grow g, rfl, h.mono (dropT_le _)⟩
  | sq ds => exact h.elim
  | rd ds => exact h.elim
  | ls ds =>
    obtain ⟨a, xs, rfl, ha, rfl, q⟩ := h
    have ne : ∀ b w, H b = some w → b ≠ a := fun b w e => ne_of_none e ha
    have neo : ∀ b l, dropT τ0.length o b = some l → b ≠ a := fun b l e => by obtain ⟨w, q⟩ := mut_some (R1.mu b l e); exact ne b w q
    have L : Le (dropT τ0.length o) H (fun b => if b = a then some (.t τ0.length) else dropT τ0.length o b) (upd H a (.lst xs)) :=
      .mk' (fun b w e f => ⟨by show (if b = a then _ else _) = none; rw [if_neg (ne b w f)]; exact e, by rw [upd_ne (ne b w f)]; exact f⟩)
       (fun b e => ⟨by show (if b = a then _ else _) = _; rw [if_neg (neo b _ e)]; exact e, upd_ne (neo b _ e)⟩)
       fun b _ e => ⟨(by show (if b = a then _ else _) = _; rw [if_neg (neo b _ e)]; exact e), upd_ne (neo b _ e)⟩
    obtain ⟨R2, _⟩ := R1.push (m := .ls ds) (u := .lst xs) ha trivial rfl ⟨a, xs, rfl, by simp, upd_same, (q.mono L1).mono L⟩
    exact ⟨_, _, L1.trans L, R2, rfl⟩
  | dk kvs =>
    obtain ⟨a, xs, rfl, ha, rfl, q⟩ := h
    have ne : ∀ b w, H b = some w → b ≠ a := fun b w e => ne_of_none e ha
    have neo : ∀ b l, dropT τ0.length o b = some l → b ≠ a := fun b l e => by obtain ⟨w, q⟩ := mut_some (R1.mu b l e); exact ne b w q
    have L : Le (dropT τ0.length o) H (fun b => if b = a then some (.t τ0.length) else dropT τ0.length o b) (upd H a (.dK xs)) :=
      .mk' (fun b w e f => ⟨by show (if b = a then _ else _) = none; rw [if_neg (ne b w f)]; exact e, by rw [upd_ne (ne b w f)]; exact f⟩)
       (fun b e => ⟨by show (if b = a then _ else _) = _; rw [if_neg (neo b _ e)]; exact e, upd_ne (neo b _ e)⟩)
       fun b _ e => ⟨(by show (if b = a then _ else _) = _; rw [if_neg (neo b _ e)]; exact e), upd_ne (neo b _ e)⟩
    obtain ⟨R2, _⟩ := R1.push (m := .dk kvs) (u := .dK xs) ha trivial rfl ⟨a, xs, rfl, by simp, upd_same, Kvs.mono L (Kvs.mono L1 q)⟩
    exact ⟨_, _, L1.trans L, R2, rfl⟩
  | dt kvs =>
    obtain ⟨a, xs, rfl, ha, rfl, q⟩ := h
    have ne : ∀ b w, H b = some w → b ≠ a := fun b w e => ne_of_none e ha
    have neo : ∀ b l, dropT τ0.length o b = some l → b ≠ a := fun b l e => by obtain ⟨w, q⟩ := mut_some (R1.mu b l e); exact ne b w q
    have L : Le (dropT τ0.length o) H (fun b => if b = a then some (.t τ0.length) else dropT τ0.length o b) (upd H a (.dT xs)) :=
      .mk' (fun b w e f => ⟨by show (if b = a then _ else _) = none; rw [if_neg (ne b w f)]; exact e, by rw [upd_ne (ne b w f)]; exact f⟩)
       (fun b e => ⟨by show (if b = a then _ else _) = _; rw [if_neg (neo b _ e)]; exact e, upd_ne (neo b _ e)⟩)
       fun b _ e => ⟨(by show (if b = a then _ else _) = _; rw [if_neg (neo b _ e)]; exact e), upd_ne (neo b _ e)⟩
    obtain ⟨R2, _⟩ := R1.push (m := .dt kvs) (u := .dT xs) ha trivial rfl ⟨a, xs, rfl, by simp, upd_same, Kvs.mono L (Kvs.mono L1 q)⟩
    exact ⟨_, _, L1.trans L, R2, rfl⟩
end
end Y
namespace Y
open PySem PySem.Spec L2

/-! ### data as the library's -/
mutual
def D.py : D → PyData
  | .non => .none
  | .bl b => .bool b
  | .int i => .int i
  | .str x => .str x
  | .tup ds => .tuple (D.pys ds)
  | .lst ds => .list (D.pys ds)
  | .raw _ => .dict []
  | .fnv _ _ _ _ _ => .dict []
def D.pys : List D → List PyData
  | [] => []
  | d :: ds => d.py :: D.pys ds
end
mutual
def D.ok : Nat → D → Bool
  | _, .non => true
  | _, .bl _ => true
  | _, .int _ => true
  | _, .str x => PyData.strOk x
  | 0, .tup _ => false
  | n + 1, .tup ds => D.oks n ds
  | 0, .lst _ => false
  | n + 1, .lst ds => D.oks n ds
  | _, .raw _ => false
  | _, .fnv _ _ _ _ _ => false
def D.oks : Nat → List D → Bool
  | _, [] => true
  | n, d :: ds => D.ok n d && D.oks n ds
end
theorem D.pys_map : ∀ ds : List D, D.pys ds = ds.map D.py
  | [] => rfl
  | d :: ds => by simp only [D.pys, List.map_cons]; rw [D.pys_map ds]
theorem D.oks_all (n : Nat) : ∀ ds : List D, D.oks n ds = ds.all (D.ok n)
  | [] => rfl
  | d :: ds => by simp only [D.oks, List.all_cons]; rw [D.oks_all n ds]
mutual
theorem D.ok_lay : ∀ (n : Nat) (d : D), D.ok n d = true → d.py.canLay0 = true ∧ d.py.depth ≤ n
  | n, .non, _ => by simp [D.py, PyData.canLay0, PyData.depth]
  | n, .bl _, _ => by simp [D.py, PyData.canLay0, PyData.depth]
  | n, .int _, _ => by simp [D.py, PyData.canLay0, PyData.depth]
  | n, .str x, h => by
    have h : PyData.strOk x = true := by simpa [D.ok] using h
    simp [D.py, PyData.canLay0, PyData.depth, h]
  | 0, .tup _, h => by simp [D.ok] at h
  | n + 1, .tup ds, h => by
    have h : D.oks n ds = true := by simpa [D.ok] using h
    have q := D.oks_lay n ds h
    simp only [D.py, PyData.canLay0, PyData.depth]
    exact ⟨q.1, by omega⟩
  | 0, .lst _, h => by simp [D.ok] at h
  | n + 1, .lst ds, h => by
    have h : D.oks n ds = true := by simpa [D.ok] using h
    have q := D.oks_lay n ds h
    simp only [D.py, PyData.canLay0, PyData.depth]
    exact ⟨q.1, by omega⟩
  | n, .raw _, h => by simp [D.ok] at h
  | n, .fnv _ _ _ _ _, h => by simp [D.ok] at h
theorem D.oks_lay : ∀ (n : Nat) (ds : List D), D.oks n ds = true → PyData.canLayAll0 (D.pys ds) = true ∧ PyData.depthAll (D.pys ds) ≤ n
  | n, [], _ => by simp [D.pys, PyData.canLayAll0, PyData.depthAll]
  | n, d :: ds, h => by
    simp only [D.oks, Bool.and_eq_true] at h
    have a := D.ok_lay n d h.1
    have b := D.oks_lay n ds h.2
    simp only [D.pys, PyData.canLayAll0, PyData.depthAll, Bool.and_eq_true]
    exact ⟨⟨a.1, b.1⟩, by omega⟩
end
theorem D.ok_shaped {d : D} (h : D.ok 64 d = true) : SeqAt.shaped d.py = true := by
  have q := D.ok_lay 64 d h
  unfold SeqAt.shaped
  rw [q.1, decide_eq_true q.2]; rfl
def D.eqv (d e : D) : Bool := PyData.eqv d.py e.py

section
variable {K : PySem.W.Frag} {o o' : Own} {H H' : Hp} {l l' : Lb} {v : V}
mutual
theorem Dat.dp : ∀ {n : Nat} {v : V} {d : D}, Dat K o H v d → D.ok n d = true → Dp K H v d.py
  | _, _, _, .non, _ => by simp only [D.py]; exact .non
  | _, _, _, .bl b, _ => by simp only [D.py]; exact .bl b
  | _, _, _, .int b, _ => by simp only [D.py]; exact .int b
  | _, _, _, .str b, _ => by simp only [D.py]; exact .str b
  | _, _, _, .raw b, h => by simp [D.ok] at h
  | _, _, _, .fnv _ _ _, h => by simp [D.ok] at h
  | 0, _, _, .tup _ _, h => by simp [D.ok] at h
  | n + 1, _, _, .tup h r, q => by
    simp only [D.py]
    exact .tup h.sq (Dats.dp r (by simpa [D.ok] using q))
  | 0, _, _, .lst _ _ _, h => by simp [D.ok] at h
  | n + 1, _, _, .lst e h r, q => by
    simp only [D.py]
    exact .lst (SqL.of h) (Dats.dp r (by simpa [D.ok] using q))
theorem Dats.dp : ∀ {n : Nat} {v : List V} {d : List D}, Dats K o H v d → D.oks n d = true → DpAll K H v (D.pys d)
  | _, _, _, .nil, _ => by simp only [D.pys]; exact .nil
  | n, _, _, .cons a r, h => by
    simp only [D.oks, Bool.and_eq_true] at h
    simp only [D.pys]
    exact .cons (Dat.dp a h.1) (Dats.dp r h.2)
end
def M.dat? : M → Option D
  | .im d => some d
  | .ls ds => some (.lst ds)
  | .sq ds => some (.lst ds)
  | .rd ds => some (.lst ds)
  | _ => none
theorem Vw.dp {m : M} {d : D} (h : Vw K o H v m) (e : m.dat? = some d) (k : D.ok 64 d = true) : Dp K H v d.py := by
  obtain ⟨l, h⟩ := h
  cases m with
  | im x => cases e; exact Dat.dp h k
  | ls ds =>
    cases e
    obtain ⟨a, xs, rfl, _, g, q⟩ := h
    simp only [D.py]
    exact .lst (SqL.of g) (Dats.dp (n := 63) q (by simpa [D.ok] using k))
  | sq ds =>
    cases e
    obtain ⟨a, xs, rfl, g, q⟩ := h
    simp only [D.py]
    exact .lst g.sq (Dats.dp (n := 63) q (by simpa [D.ok] using k))
  | rd ds =>
    cases e
    obtain ⟨a, xs, rfl, _, g, q⟩ := h
    simp only [D.py]
    exact .lst (SqL.of g) (Dats.dp (n := 63) q (by simpa [D.ok] using k))
  | dk _ => cases e
  | dt _ => cases e
/-- a list, by its items -/
def M.lst? : M → Option (List D)
  | .ls ds => some ds
  | .rd ds => some ds
  | .im (.lst ds) => some ds
  | _ => none
theorem Vw.lst {m : M} {ds : List D} (h : Vw K o H v m) (e : m.lst? = some ds) : ∃ a xs, v = .ref a ∧ H a = some (.lst xs) ∧ Dats K o H xs ds := by
  obtain ⟨l, h⟩ := h
  cases m with
  | im x =>
    cases x with
    | lst es => cases e; cases (show Dat K o H v (.lst ds) from h) with | lst e h' r => exact ⟨_, _, rfl, h', r⟩
    | _ => cases e
  | ls es => cases e; obtain ⟨a, xs, rfl, _, g, q⟩ := h; exact ⟨a, xs, rfl, g, q⟩
  | rd es => cases e; obtain ⟨a, xs, rfl, _, g, q⟩ := h; exact ⟨a, xs, rfl, g, q⟩
  | _ => cases e
/-- .. that is only read -/
def M.lq? : M → Option (List D)
  | .ls ds => some ds
  | .sq ds => some ds
  | .rd ds => some ds
  | .im (.lst ds) => some ds
  | _ => none
theorem Vw.lq {m : M} {ds : List D} (h : Vw K o H v m) (e : m.lq? = some ds) : ∃ a xs, v = .ref a ∧ SqL K H a xs ∧ Dats K o H xs ds := by
  cases m with
  | im x =>
    obtain ⟨a, xs, e1, e2, e3⟩ := Vw.lst (m := .im x) (ds := ds) h (by cases x <;> first | exact e | cases e)
    exact ⟨a, xs, e1, SqL.of e2, e3⟩
  | ls es => cases e; obtain ⟨l, a, xs, rfl, _, g, q⟩ := h; exact ⟨a, xs, rfl, SqL.of g, q⟩
  | sq es => cases e; obtain ⟨l, a, xs, rfl, g, q⟩ := h; exact ⟨a, xs, rfl, g.sq, q⟩
  | rd es => cases e; obtain ⟨l, a, xs, rfl, _, g, q⟩ := h; exact ⟨a, xs, rfl, SqL.of g, q⟩
  | _ => cases e
theorem Vw.tup {ds : List D} (h : Vw K o H v (.im (.tup ds))) : ∃ a xs, v = .ref a ∧ Tp K o H a xs ∧ Dats K o H xs ds := by
  obtain ⟨l, h⟩ := h
  cases (show Dat K o H v (.tup ds) from h) with
  | tup a r => exact ⟨_, _, rfl, a, r⟩
theorem Vw.int {i : Int} (h : Vw K o H v (.im (.int i))) : v = .int i := by
  obtain ⟨l, h⟩ := h; cases (show Dat K o H v (.int i) from h); rfl
theorem Vw.bl {i : Bool} (h : Vw K o H v (.im (.bl i))) : v = .bl i := by
  obtain ⟨l, h⟩ := h; cases (show Dat K o H v (.bl i) from h); rfl
theorem Vw.str {i : Str} (h : Vw K o H v (.im (.str i))) : v = .str i := by
  obtain ⟨l, h⟩ := h; cases (show Dat K o H v (.str i) from h); rfl
theorem Vw.non (h : Vw K o H v (.im .non)) : v = .non := by
  obtain ⟨l, h⟩ := h; cases (show Dat K o H v .non from h); rfl
theorem Vw.mono (L : Le o H o' H') (h : ∀ a l, o a = some l → o' a = some l ∧ H' a = H a) {m : M} (q : Vw K o H v m) : Vw K o' H' v m :=
  let ⟨l, z⟩ := q; ⟨l, z.mono L fun a e => h a l e⟩
end

/-! ### the judgements over data -/
abbrev TX := Env → (R → Env → Prop) → Prop
abbrev TQ := Env → (Bool → Env → Prop) → Prop
abbrev TL := Env → (List R → Env → Prop) → Prop
def TEo (K : PySem.W.Frag) (c : Cc) (t : TX) : TE := fun σ H k => ∃ o ρ τ Q, Rep K c o σ H ρ τ ∧ t ρ Q ∧
  ∀ v H' o' r ρ' τ', Le o H o' H' → Rep K c o' σ H' ρ' τ' → RelR K o' H' σ v r τ τ' → Q r ρ' → k v H'
def TTo (K : PySem.W.Frag) (c : Cc) (t : TQ) : TT := fun σ H k => ∃ o ρ τ Q, Rep K c o σ H ρ τ ∧ t ρ Q ∧
  ∀ b H' o' ρ', Le o H o' H' → Rep K c o' σ H' ρ' τ → Q b ρ' → k b H'
inductive RelRs (K : PySem.W.Frag) (o : Own) (H : Hp) (σ : St) : List V → List R → List (V × M) → List (V × M) → Prop
  | nil {τ} : RelRs K o H σ [] [] τ τ
  | cons {v vs r rs τ τ1 τ'} : RelR K o H σ v r τ τ1 → RelRs K o H σ vs rs τ1 τ' → RelRs K o H σ (v :: vs) (r :: rs) τ τ'
def TAo (K : PySem.W.Frag) (c : Cc) (t : TL) : TA := fun σ H k => ∃ o ρ τ Q, Rep K c o σ H ρ τ ∧ t ρ Q ∧
  ∀ vs H' o' rs ρ' τ', Le o H o' H' → Rep K c o' σ H' ρ' τ' → RelRs K o' H' σ vs rs τ τ' → Q rs ρ' → k vs H'
def DE (X : Cx) (c : Cc) (e : Expr) (t : TX) : Prop := PE X e (TEo X.K c t)
def DT (X : Cx) (c : Cc) (e : Expr) (t : TQ) : Prop := PT X e (TTo X.K c t)
def DW (X : Cx) (c : Cc) (e : Expr) (t : TQ) : Prop := PW X e (TTo X.K c t)
def DA (X : Cx) (c : Cc) (es : List Expr) (t : TL) : Prop := PA X es (TAo X.K c t)
theorem peImp {X : Cx} {e : Expr} {t t' : TE} (h : PE X e t) (f : ∀ σ H k, t' σ H k → t σ H k) : PE X e t' := ⟨fun pins s σ H Q I q => h.run pins s σ H Q I (f _ _ _ q)⟩
theorem ptImp {X : Cx} {e : Expr} {t t' : TT} (h : PT X e t) (f : ∀ σ H k, t' σ H k → t σ H k) : PT X e t' := ⟨fun pins s σ H Q I q => h.run pins s σ H Q I (f _ _ _ q)⟩
theorem pwImp {X : Cx} {e : Expr} {t t' : TT} (h : PW X e t) (f : ∀ σ H k, t' σ H k → t σ H k) : PW X e t' := ⟨fun wh pins s σ H Q I q => h.run wh pins s σ H Q I (f _ _ _ q)⟩
theorem paImp {X : Cx} {e : List Expr} {t t' : TA} (h : PA X e t) (f : ∀ σ H k, t' σ H k → t σ H k) : PA X e t' := ⟨fun pos pins s σ H Q I q => h.run pos pins s σ H Q I (f _ _ _ q)⟩

section
variable {K : PySem.W.Frag} {c : Cc} {o o' : Own} {σ : St} {H H' : Hp} {ρ : Env} {τ τ' τ0 τ1 : List (V × M)}
theorem RelRs.mono (L : Le o H o' H') : ∀ {vs rs τ τ'}, RelRs K o H σ vs rs τ τ' → RelRs K o' H' σ vs rs τ τ'
  | _, _, _, _, .nil => .nil
  | _, _, _, _, .cons a r => .cons (a.mono L) (RelRs.mono L r)
theorem RelRs.pre : ∀ {vs rs τ τ'}, RelRs K o H σ vs rs τ τ' → τ <+: τ'
  | _, _, _, _, .nil => List.prefix_rfl
  | _, _, _, _, .cons a r => a.pre.trans r.pre
theorem RelRs.length : ∀ {vs rs τ τ'}, RelRs K o H σ vs rs τ τ' → vs.length = rs.length
  | _, _, _, _, .nil => rfl
  | _, _, _, _, .cons _ r => congrArg (· + 1) r.length
end

/-! ### names and constants -/
section
variable {X : Cx} {c : Cc} {e a b : Expr} {es : List Expr} {pos : Pos} {t ta tb : TX}
def tIm (d : D) : TX := fun ρ Q => Q (.im d) ρ
def tNm (i : Nat) : TX := fun ρ Q => match ρ[i]? with
  | some s => match s.m? with
    | some (.im d) => Q (.im d) ρ
    | some _ => Q (.sl i) ρ
    | none => False
  | none => False
theorem de_var (i : Nat) {x : Str} (hN : X.N[i]? = some x := by rfl) (hv : Vis X.env.scope x := by first | exact Or.inl rfl | exact Or.inr (Or.inl rfl) | exact Or.inr (Or.inr rfl)) (hd : (x == ("__debug__" : Str)) = false := by decide)
    (hcd : (x == ("__classdict__" : Str)) = false := by decide) : DE X c (.Name x pos) (tNm i) := by
  refine peImp (pe_var (i := i) hN hv hd hcd) fun σ H k h => ?_
  obtain ⟨o, ρ, τ, Q, R0, h, q⟩ := h
  unfold tNm at h
  split at h
  · rename_i s hs
    split at h
    · rename_i d hm
      obtain ⟨v, e, _, z⟩ := (R0.sl i s hs).of hm
      exact ⟨v, e, q v H o (.im d) ρ τ .refl R0 ⟨rfl, z⟩ h⟩
    · rename_i m _ hm
      obtain ⟨v, e, z⟩ := (R0.sl i s hs).of hm
      exact ⟨v, e, q v H o (.sl i) ρ τ .refl R0 ⟨rfl, e⟩ h⟩
    · exact h.elim
  · exact h.elim
theorem de_c {d : D} {v : V} (h : PE X e (tC v)) (hd : ∀ o H, Dat X.K o H v d) : DE X c e (tIm d) := peImp h fun σ H k ⟨o, ρ, τ, Q, R0, h, q⟩ => q v H o (.im d) ρ τ .refl R0 ⟨rfl, hd o H⟩ h
theorem de_int {i j pos} : DE X c (.Constant (.int i) j pos) (tIm (.int i)) := de_c pe_int fun _ _ => .int i
theorem de_bl {i j pos} : DE X c (.Constant (.bool i) j pos) (tIm (.bl i)) := de_c pe_bl fun _ _ => .bl i
theorem de_non {j pos} : DE X c (.Constant .none j pos) (tIm .non) := de_c pe_non fun _ _ => .non
theorem de_str {i j pos} : DE X c (.Constant (.str i) j pos) (tIm (.str i)) := de_c pe_str fun _ _ => .str i
/-- a global name: an int, a text, a def, a class -/
theorem de_glob {x : Str} {v : V} {u : Value} {d : D} (hg : Gl X x) (hm : X.mg x = some u) (r : RelV v u) (hd : ∀ o H, Dat X.K o H v d) (hdb : (x == ("__debug__" : Str)) = false := by decide) : DE X c (.Name x pos) (tIm d) :=
  de_c (pe_glob hg hm r hdb) hd
theorem de_bltn {x : Str} {v : V} {u : Value} (hg : Gl X x) (hm : X.mg x = none) (hv : bootBuiltins x = some u) (r : RelV v u) (hn : x ≠ "__name__" := by decide) (hdb : (x == ("__debug__" : Str)) = false := by decide) : DE X c (.Name x pos) (tIm (.raw v)) :=
  de_c (pe_bltn hg hm hv r hn hdb) fun _ _ => .raw v

/-! ### operations on two values -/
abbrev G2 := M → M → (M → Prop) → Prop
def rOp (K : PySem.W.Frag) (g : G2) : R2 := fun x y H k => ∃ o m1 m2 G, (∀ a l, o a = some l → Mt (H a)) ∧ Vw K o H x m1 ∧ Vw K o H y m2 ∧ g m1 m2 G ∧ ∀ v H' m, Grow H H' → NewM K o H H' v m → G m → k v H'
def w2 (ρ : Env) (r1 r2 : R) (f : M → M → Prop) : Prop := match vw ρ r1, vw ρ r2 with
  | some m1, some m2 => f m1 m2
  | _, _ => False
def tBin (g : G2) (ta tb : TX) : TX := fun ρ Q => ta ρ fun r1 ρ1 => tb ρ1 fun r2 ρ2 => w2 ρ2 r1 r2 fun m1 m2 => g m1 m2 fun m => Q m.res ρ2
theorem tBin_of {K : PySem.W.Frag} {g : G2} {σ : St} {H : Hp} {k : VK} (h : TEo K c (tBin g ta tb) σ H k) : tOp (rOp K g) (TEo K c ta) (TEo K c tb) σ H k := by
  obtain ⟨o, ρ, τ, Q, R0, h, q⟩ := h
  refine ⟨o, ρ, τ, _, R0, h, fun v1 H1 o1 r1 ρ1 τ1 L1 R1 z1 h1 => ?_⟩
  refine ⟨o1, ρ1, τ1, _, R1, h1, fun v2 H2 o2 r2 ρ2 τ2 L2 R2 z2 h2 => ?_⟩
  unfold w2 at h2
  split at h2
  · rename_i m1 m2 e1 e2
    have y1 := R2.vw_ok (z1.mono L2) z2.pre e1
    have y2 := R2.vw_ok z2 List.prefix_rfl e2
    refine ⟨o2, m1, m2, _, R2.mu, y1, y2, h2, fun v H' m g1 nm hm => ?_⟩
    obtain ⟨o', τ', L, R', z⟩ := R2.made (z1.pre.trans z2.pre) g1 nm
    exact q v H' o' _ ρ2 τ' (L1.trans (L2.trans L)) R' z hm
  · exact h2.elim
def OpG (X : Cx) (f : Value → Value → Sem Value) (g : G2) : Prop := OpR X f (rOp X.K g)
theorem opG {f : Value → Value → Sem Value} {g : G2} {r : R2} (h : OpR X f r) (i : ∀ x y H k, rOp X.K g x y H k → r x y H k) : OpG X f g := fun pins s σ H x y v u Q I rx ry q => h pins s σ H x y v u Q I rx ry (i _ _ _ _ q)
theorem de_op {op : Operator} {g : G2} (ho : OpG X (binaryOp op) g) (ha : DE X c a ta) (hb : DE X c b tb) : DE X c (.BinOp a op b pos) (tBin g ta tb) :=
  peImp (pe_op ho ha hb) fun _ _ _ h => tBin_of h
theorem de_cmp {op : CmpOp} {g : G2} (ho : OpG X (compareOp op) g) (ha : DE X c a ta) (hb : DE X c b tb) (hm : behindInMarks op b = false := by first | exact nomark _ | rfl) : DE X c (.Compare a [op] [b] pos) (tBin g ta tb) :=
  peImp (pe_cmpR ho ha hb hm) fun _ _ _ h => tBin_of h
/-- a value that is a bool, as a test -/
def tTst (t : TX) : TQ := fun ρ Q => t ρ fun r ρ1 => match r with
  | .im (.bl b) => Q b ρ1
  | _ => False
theorem tTst_of {K : PySem.W.Frag} {σ : St} {H : Hp} {k : Bool → Hp → Prop} (h : TTo K c (tTst t) σ H k) : tTest (TEo K c t) σ H k := by
  obtain ⟨o, ρ, τ, Q, R0, h, q⟩ := h
  refine ⟨o, ρ, τ, _, R0, h, fun v1 H1 o1 r1 ρ1 τ1 L1 R1 z1 h1 => ?_⟩
  split at h1
  · rename_i b
    obtain ⟨rfl, z⟩ := z1
    cases z
    exact ⟨b, rfl, q b H1 o1 ρ1 L1 R1 h1⟩
  · exact h1.elim
theorem dt_cmp {op : CmpOp} {g : G2} (ho : OpG X (compareOp op) g) (ha : DE X c a ta) (hb : DE X c b tb) (hm : behindInMarks op b = false := by first | exact nomark _ | rfl) : DT X c (.Compare a [op] [b] pos) (tTst (tBin g ta tb)) :=
  ptImp (pt_cmpR ho ha hb hm) fun σ H k h => by
    obtain ⟨o, ρ, τ, Q, R0, h, q⟩ := h
    refine tBin_of ⟨o, ρ, τ, _, R0, h, fun v1 H1 o1 r1 ρ1 τ1 L1 R1 z1 h1 => ?_⟩
    split at h1
    · rename_i b
      obtain ⟨rfl, z⟩ := z1
      cases z
      exact ⟨b, rfl, q b H1 o1 ρ1 L1 R1 h1⟩
    · exact h1.elim
theorem dt_val (h : DE X c e t) (he : ∀ whole, isTrue e X.env whole = (do let v ← whole; standAt e.pos; holding [v] (truthy v)) := by intro _; rfl) : DT X c e (tTst t) := ptImp (pt_val h he) fun _ _ _ h => tTst_of h

/-! ### truth -/
def M.tru : M → Option Bool
  | .im .non => some false
  | .im (.bl b) => some b
  | .im (.int i) => some (i != 0)
  | .im (.tup ds) => some (!ds.isEmpty)
  | .im (.lst ds) => some (!ds.isEmpty)
  | .ls ds => some (!ds.isEmpty)
  | .sq ds => some (!ds.isEmpty)
  | .rd ds => some (!ds.isEmpty)
  | .dk kvs => some (!kvs.isEmpty)
  | _ => none
theorem Dats.empty {K : PySem.W.Frag} {o : Own} {H : Hp} {xs : List V} {ds : List D} (h : Dats K o H xs ds) : ds.isEmpty = xs.isEmpty := by cases h <;> rfl
theorem Vw.tru {K : PySem.W.Frag} {o : Own} {H : Hp} {v : V} {m : M} {b : Bool} (h : Vw K o H v m) (e : m.tru = some b) : TruV K v H b := by
  cases m with
  | im d =>
    cases d with
    | non => cases e; rw [h.non]; rfl
    | bl b => cases e; rw [h.bl]; rfl
    | int b => cases e; rw [h.int]; rfl
    | str b => cases e
    | raw b => cases e
    | fnv _ _ _ _ _ => cases e
    | tup ds => cases e; obtain ⟨a, xs, rfl, g, q⟩ := h.tup; exact .inr (.inl ⟨xs, g.sq, by rw [q.empty]⟩)
    | lst ds => cases e; obtain ⟨a, xs, rfl, g, q⟩ := h.lst rfl; exact .inl ⟨xs, SqL.of g, by rw [q.empty]⟩
  | ls ds => cases e; obtain ⟨a, xs, rfl, g, q⟩ := h.lq rfl; exact .inl ⟨xs, g, by rw [q.empty]⟩
  | sq ds => cases e; obtain ⟨a, xs, rfl, g, q⟩ := h.lq rfl; exact .inl ⟨xs, g, by rw [q.empty]⟩
  | rd ds => cases e; obtain ⟨a, xs, rfl, g, q⟩ := h.lq rfl; exact .inl ⟨xs, g, by rw [q.empty]⟩
  | dk kvs => cases e; obtain ⟨l, a, ks, rfl, _, g, q⟩ := h; exact .inr (.inr ⟨ks, g, by cases q <;> rfl⟩)
  | dt kvs => cases e
def tTru (t : TX) : TQ := fun ρ Q => t ρ fun r ρ1 => match vw ρ1 r with
  | some m => match m.tru with
    | some b => Q b ρ1
    | none => False
  | none => False
theorem dt_tru (h : DE X c e t) (he : ∀ whole, isTrue e X.env whole = (do let v ← whole; standAt e.pos; holding [v] (truthy v)) := by intro _; rfl) : DT X c e (tTru t) :=
  ptImp (pt_truth h he) fun σ H k h => by
    obtain ⟨o, ρ, τ, Q, R0, h, q⟩ := h
    refine ⟨o, ρ, τ, _, R0, h, fun v1 H1 o1 r1 ρ1 τ1 L1 R1 z1 h1 => ?_⟩
    split at h1
    · rename_i m hm
      split at h1
      · rename_i b hb
        have R2 := R1.drop z1.pre
        exact ⟨b, Vw.tru (R1.vw_ok z1 List.prefix_rfl hm) hb, q b H1 _ ρ1 (L1.trans (dropT_le _)) R2 h1⟩
      · exact h1.elim
    · exact h1.elim

/-! ### and, or, not, if else -/
variable {tq tr : TQ} {rest : List Expr} {tc : TX}
def tAndQ (t u : TQ) : TQ := fun ρ Q => t ρ fun b ρ1 => if b = true then u ρ1 Q else Q false ρ1
def tOrQ (t u : TQ) : TQ := fun ρ Q => t ρ fun b ρ1 => if b = true then Q true ρ1 else u ρ1 Q
def tNotQ (t : TQ) : TQ := fun ρ Q => t ρ fun b ρ1 => Q (!b) ρ1
theorem dw_pt (h : DW X c e tq) : DT X c e tq := PW.pt h
theorem dw_and1 (h : DT X c a tq) : DW X c (.BoolOp .And [a] pos) tq := pw_and1 h
theorem dw_or1 (h : DT X c a tq) : DW X c (.BoolOp .Or [a] pos) tq := pw_or1 h
theorem dw_and (h : DT X c a tq) (h2 : DW X c (.BoolOp .And (b :: rest) pos) tr) : DW X c (.BoolOp .And (a :: b :: rest) pos) (tAndQ tq tr) :=
  pwImp (pw_and h h2) fun σ H k h => by
    obtain ⟨o, ρ, τ, Q, R0, h, q⟩ := h
    refine ⟨o, ρ, τ, _, R0, h, fun b1 H1 o1 ρ1 L1 R1 h1 => ?_⟩
    cases b1 with
    | true => exact ⟨o1, ρ1, τ, _, R1, h1, fun b2 H2 o2 ρ2 L2 R2 h2 => q b2 H2 o2 ρ2 (L1.trans L2) R2 h2⟩
    | false => exact q false H1 o1 ρ1 L1 R1 h1
theorem dw_or (h : DT X c a tq) (h2 : DW X c (.BoolOp .Or (b :: rest) pos) tr) : DW X c (.BoolOp .Or (a :: b :: rest) pos) (tOrQ tq tr) :=
  pwImp (pw_or h h2) fun σ H k h => by
    obtain ⟨o, ρ, τ, Q, R0, h, q⟩ := h
    refine ⟨o, ρ, τ, _, R0, h, fun b1 H1 o1 ρ1 L1 R1 h1 => ?_⟩
    cases b1 with
    | false => exact ⟨o1, ρ1, τ, _, R1, h1, fun b2 H2 o2 ρ2 L2 R2 h2 => q b2 H2 o2 ρ2 (L1.trans L2) R2 h2⟩
    | true => exact q true H1 o1 ρ1 L1 R1 h1
theorem dt_not (h : DT X c a tq) : DT X c (.UnaryOp .Not a pos) (tNotQ tq) :=
  ptImp (pt_not h) fun σ H k h => by
    obtain ⟨o, ρ, τ, Q, R0, h, q⟩ := h
    exact ⟨o, ρ, τ, _, R0, h, fun b1 H1 o1 ρ1 L1 R1 h1 => q _ H1 o1 ρ1 L1 R1 h1⟩
/-- as values: bools but the last -/
def tAndX (t u : TX) : TX := fun ρ Q => tTst t ρ fun b ρ1 => if b = true then u ρ1 Q else Q (.im (.bl false)) ρ1
def tOrX (t u : TX) : TX := fun ρ Q => tTst t ρ fun b ρ1 => if b = true then Q (.im (.bl true)) ρ1 else u ρ1 Q
def tNotX (t : TX) : TX := fun ρ Q => tTst t ρ fun b ρ1 => Q (.im (.bl (!b))) ρ1
theorem de_one {op : BoolOp} (h : DE X c a t) : DE X c (.BoolOp op [a] pos) t := pe_one h
theorem de_and (h : DE X c a t) (h2 : DE X c (.BoolOp .And (b :: rest) pos) tc) : DE X c (.BoolOp .And (a :: b :: rest) pos) (tAndX t tc) :=
  peImp (pe_and h h2) fun σ H k h => by
    obtain ⟨o, ρ, τ, Q, R0, h, q⟩ := h
    refine ⟨o, ρ, τ, _, R0, h, fun v1 H1 o1 r1 ρ1 τ1 L1 R1 z1 h1 => ?_⟩
    split at h1
    · rename_i b1
      obtain ⟨rfl, z⟩ := z1
      cases z
      refine ⟨b1, rfl, ?_⟩
      cases b1 with
      | true => exact ⟨o1, ρ1, _, _, R1, h1, fun v2 H2 o2 r2 ρ2 τ2 L2 R2 z2 h2 => q v2 H2 o2 r2 ρ2 τ2 (L1.trans L2) R2 z2 h2⟩
      | false => exact q _ H1 o1 (.im (.bl false)) ρ1 _ L1 R1 ⟨rfl, .bl false⟩ h1
    · exact h1.elim
theorem de_or (h : DE X c a t) (h2 : DE X c (.BoolOp .Or (b :: rest) pos) tc) : DE X c (.BoolOp .Or (a :: b :: rest) pos) (tOrX t tc) :=
  peImp (pe_or h h2) fun σ H k h => by
    obtain ⟨o, ρ, τ, Q, R0, h, q⟩ := h
    refine ⟨o, ρ, τ, _, R0, h, fun v1 H1 o1 r1 ρ1 τ1 L1 R1 z1 h1 => ?_⟩
    split at h1
    · rename_i b1
      obtain ⟨rfl, z⟩ := z1
      cases z
      refine ⟨b1, rfl, ?_⟩
      cases b1 with
      | false => exact ⟨o1, ρ1, _, _, R1, h1, fun v2 H2 o2 r2 ρ2 τ2 L2 R2 z2 h2 => q v2 H2 o2 r2 ρ2 τ2 (L1.trans L2) R2 z2 h2⟩
      | true => exact q _ H1 o1 (.im (.bl true)) ρ1 _ L1 R1 ⟨rfl, .bl true⟩ h1
    · exact h1.elim
theorem de_not (h : DE X c a t) : DE X c (.UnaryOp .Not a pos) (tNotX t) :=
  peImp (pe_not h) fun σ H k h => by
    obtain ⟨o, ρ, τ, Q, R0, h, q⟩ := h
    refine ⟨o, ρ, τ, _, R0, h, fun v1 H1 o1 r1 ρ1 τ1 L1 R1 z1 h1 => ?_⟩
    split at h1
    · rename_i b1
      obtain ⟨rfl, z⟩ := z1
      cases z
      exact ⟨b1, rfl, q _ H1 o1 (.im (.bl (!b1))) ρ1 _ L1 R1 ⟨rfl, .bl _⟩ h1⟩
    · exact h1.elim
def tIfX (q : TQ) (t u : TX) : TX := fun ρ Q => q ρ fun b ρ1 => if b = true then t ρ1 Q else u ρ1 Q
theorem de_if (hq : DT X c e tq) (ha : DE X c a ta) (hb : DE X c b tb) : DE X c (.IfExp e a b pos) (tIfX tq ta tb) :=
  peImp (pe_ifExp hq ha hb) fun σ H k h => by
    obtain ⟨o, ρ, τ, Q, R0, h, q⟩ := h
    refine ⟨o, ρ, τ, _, R0, h, fun b1 H1 o1 ρ1 L1 R1 h1 => ?_⟩
    cases b1 with
    | true => exact ⟨o1, ρ1, τ, _, R1, h1, fun v2 H2 o2 r2 ρ2 τ2 L2 R2 z2 h2 => q v2 H2 o2 r2 ρ2 τ2 (L1.trans L2) R2 z2 h2⟩
    | false => exact ⟨o1, ρ1, τ, _, R1, h1, fun v2 H2 o2 r2 ρ2 τ2 L2 R2 z2 h2 => q v2 H2 o2 r2 ρ2 τ2 (L1.trans L2) R2 z2 h2⟩

/-! ### argument lists -/
def lNil : TL := fun ρ Q => Q [] ρ
def lCons (t : TX) (u : TL) : TL := fun ρ Q => t ρ fun r ρ1 => u ρ1 fun rs ρ2 => Q (r :: rs) ρ2
theorem da_nil : DA X c [] lNil := paImp pa_nil fun σ H k ⟨o, ρ, τ, Q, R0, h, q⟩ => q [] H o [] ρ τ .refl R0 .nil h
theorem da_cons {u : TL} (ha : DE X c e t) (hr : DA X c es u) (hs : starEach (e :: es) X.env = (false, eval e X.env) :: starEach es X.env := by rfl) : DA X c (e :: es) (lCons t u) :=
  paImp (pa_cons ha hr hs) fun σ H k ⟨o, ρ, τ, Q, R0, h, q⟩ =>
    ⟨o, ρ, τ, _, R0, h, fun v1 H1 o1 r1 ρ1 τ1 L1 R1 z1 h1 => ⟨o1, ρ1, τ1, _, R1, h1, fun vs H2 o2 rs ρ2 τ2 L2 R2 z2 h2 => q _ H2 o2 _ ρ2 τ2 (L1.trans L2) R2 (.cons (z1.mono L2) z2) h2⟩⟩
end
end Y
namespace Y
open PySem PySem.Spec L2

section
variable {K : PySem.W.Frag} {c : Cc} {o o' : Own} {σ : St} {H H' : Hp} {ρ : Env} {τ τ' τ0 τ1 : List (V × M)} {X : Cx}
theorem own_none (mu : ∀ a l, o a = some l → Mt (H a)) {p : Addr} (h : H p = none) : o p = none := by
  cases e : o p with
  | none => rfl
  | some l => have := mu p l e; rw [h] at this; exact this.elim
theorem newTup (mu : ∀ a l, o a = some l → Mt (H a)) {p : Addr} {xs : List V} {ds : List D} (h : H p = none) (d : Dats K o H xs ds) : Dat K o (upd H p (.tup xs)) (.ref p) (.tup ds) :=
  .tup ⟨own_none mu h, upd_same⟩ (d.mono ((Grow.new h).le mu))

theorem qim {k : VK} {G : M → Prop} (q : ∀ v H' m, Grow H H' → NewM K o H H' v m → G m → k v H') {v : V} {d : D} (a : Dat K o H v d) (b : G (.im d)) : k v H := q v H (.im d) .refl a b
/-! ### + -/
def gAdd : G2 := fun m n G => match m, n with
  | .im (.int i), .im (.int j) => G (.im (.int (i + j)))
  | .im (.str x), .im (.str y) => x.length + y.length ≤ sizeLine ∧ G (.im (.str (x ++ y)))
  | .im (.tup a), .im (.tup b) => a.length + b.length ≤ sizeLine ∧ G (.im (.tup (a ++ b)))
  | m, n => match m.lst?, n.lst? with
    | some a, some b => a.length + b.length ≤ sizeLine ∧ G (.ls (a ++ b))
    | _, _ => False
theorem add_ok : OpG X (binaryOp .Add) gAdd := by
  refine opG ((op_add.or op_add_str).or (op_catA.or op_cat)) fun x y H k h => ?_
  obtain ⟨o, m1, m2, G, mu, v1, v2, h, q⟩ := h
  unfold gAdd at h
  split at h
  · rename_i i j
    exact .inl (.inl ⟨i, j, v1.int, v2.int, qim q (.int _) h⟩)
  · rename_i i j
    exact .inl (.inr ⟨i, j, v1.str, v2.str, h.1, qim q (.str _) h.2⟩)
  · rename_i as bs
    obtain ⟨a, xs, rfl, ta, da⟩ := v1.tup
    obtain ⟨b, ys, rfl, tb, db⟩ := v2.tup
    refine .inr (.inl ⟨a, b, xs, ys, rfl, rfl, ta.sq, tb.sq, by rw [da.length, db.length]; exact h.1, fun e => ?_, fun e1 e2 => ?_, fun _ _ p hp => ?_⟩)
    · subst e; cases da
      exact q (.ref b) H (.im (.tup bs)) .refl (.tup tb db) h.2
    · subst e2; cases db
      refine q (.ref a) H (.im (.tup as)) .refl (.tup ta da) (by have := h.2; rwa [List.append_nil] at this)
    · exact q (.ref p) _ (.im (.tup (as ++ bs))) (.new hp) (newTup mu hp (da.append db)) h.2
  · split at h
    · rename_i as bs e1 e2
      obtain ⟨a, xs, rfl, ta, da⟩ := v1.lst e1
      obtain ⟨b, ys, rfl, tb, db⟩ := v2.lst e2
      refine .inr (.inr ⟨a, b, xs, ys, rfl, rfl, ta, tb, by rw [da.length, db.length]; exact h.1, fun p hp => ?_⟩)
      exact q (.ref p) _ (.ls (as ++ bs)) (.new hp) ⟨p, _, rfl, hp, rfl, da.append db⟩ h.2
    · exact h.elim
/-! ### other arithmetic -/
def gII (C : Int → Int → Prop) (f : Int → Int → D) : G2 := fun m n G => match m, n with
  | .im (.int i), .im (.int j) => C i j ∧ G (.im (f i j))
  | _, _ => False
def gI0 (f : Int → Int → D) : G2 := fun m n G => match m, n with
  | .im (.int i), .im (.int j) => G (.im (f i j))
  | _, _ => False
theorem opII {f : Value → Value → Sem Value} {C : Int → Int → Prop} {g : Int → Int → Int} (h : OpR X f (rI C fun i j => .int (g i j))) : OpG X f (gII C fun i j => .int (g i j)) := by
  refine opG h fun x y H k h => ?_
  obtain ⟨o, m1, m2, G, mu, v1, v2, h, q⟩ := h
  unfold gII at h
  split at h
  · rename_i i j
    exact ⟨i, j, v1.int, v2.int, h.1, qim q (.int _) h.2⟩
  · exact h.elim
theorem opI0' {f : Value → Value → Sem Value} {g : Int → Int → Int} (h : OpR X f (rI0 fun i j => .int (g i j))) : OpG X f (gI0 fun i j => .int (g i j)) := by
  refine opG h fun x y H k h => ?_
  obtain ⟨o, m1, m2, G, mu, v1, v2, h, q⟩ := h
  unfold gI0 at h
  split at h
  · rename_i i j
    exact ⟨i, j, v1.int, v2.int, qim q (.int _) h⟩
  · exact h.elim
theorem opIB {f : Value → Value → Sem Value} {g : Int → Int → Bool} (h : OpR X f (rI0 fun i j => .bl (g i j))) : OpG X f (gI0 fun i j => .bl (g i j)) := by
  refine opG h fun x y H k h => ?_
  obtain ⟨o, m1, m2, G, mu, v1, v2, h, q⟩ := h
  unfold gI0 at h
  split at h
  · rename_i i j
    exact ⟨i, j, v1.int, v2.int, qim q (.bl _) h⟩
  · exact h.elim
def gSub : G2 := gI0 fun i j => .int (i - j)
def gMul : G2 := gII CMulW fun i j => .int (i * j)
def gDiv : G2 := gII CDivW fun i j => .int (i / j)
def gMod : G2 := gII (fun _ j => 0 < j) fun i j => .int (i % j)
def gPow : G2 := gII CPow fun i j => .int (i ^ j.toNat)
def gLt : G2 := gI0 fun i j => .bl (decide (i < j))
def gLe : G2 := gI0 fun i j => .bl (decide (i ≤ j))
def gGt : G2 := gI0 fun i j => .bl (decide (j < i))
def gGe : G2 := gI0 fun i j => .bl (decide (j ≤ i))
theorem sub_ok : OpG X (binaryOp .Sub) gSub := opI0' op_sub
theorem mul_ok : OpG X (binaryOp .Mult) gMul := opII op_mulW
theorem div_ok : OpG X (binaryOp .FloorDiv) gDiv := opII op_fdivW
theorem mod_ok : OpG X (binaryOp .Mod) gMod := opII op_mod
theorem pow_ok : OpG X (binaryOp .Pow) gPow := opII op_pow
theorem lt_ok : OpG X (compareOp .Lt) gLt := opIB op_lt
theorem le_ok : OpG X (compareOp .LtE) gLe := opIB op_le
theorem gt_ok : OpG X (compareOp .Gt) gGt := opIB op_gt
theorem ge_ok : OpG X (compareOp .GtE) gGe := opIB op_ge

/-! ### == and != -/
def gEqs (neg : Bool) : G2 := fun m n G => match m, n with
  | .im (.int i), .im (.int j) => G (.im (.bl (neg ^^ decide (i = j))))
  | .im (.str i), .im (.str j) => G (.im (.bl (neg ^^ decide (i = j))))
  | m, n => match m.dat?, n.dat? with
    | some d, some e => D.ok 64 d = true ∧ D.ok 64 e = true ∧ G (.im (.bl (neg ^^ D.eqv d e)))
    | _, _ => False
theorem eq_ok (hu : X.A.units + 64 < cLine) : OpG X (compareOp .Eq) (gEqs false) := by
  refine opG (op_eq.or (op_eqD hu)) fun x y H k h => ?_
  obtain ⟨o, m1, m2, G, mu, v1, v2, h, q⟩ := h
  unfold gEqs at h
  split at h
  · rename_i i j
    refine .inl ?_
    rw [v1.int, v2.int]
    refine ⟨rfl, ?_⟩
    rw [show decide (V.int i = V.int j) = decide (i = j) by rw [dec_int]; exact Bool.beq_eq_decide_eq _ _]
    exact qim q (.bl _) (by simpa using h)
  · rename_i i j
    refine .inl ?_
    rw [v1.str, v2.str]
    refine ⟨rfl, ?_⟩
    rw [show decide (V.str i = V.str j) = decide (i = j) by rw [dec_str]; exact Bool.beq_eq_decide_eq _ _]
    exact qim q (.bl _) (by simpa using h)
  · split at h
    · rename_i d e e1 e2
      refine .inr ⟨d.py, e.py, v1.dp e1 h.1, v2.dp e2 h.2.1, D.ok_shaped h.1, D.ok_shaped h.2.1, ?_⟩
      exact qim q (.bl _) (by have := h.2.2; rwa [Bool.false_xor] at this)
    · exact h.elim
theorem ne_ok (hu : X.A.units + 64 < cLine) : OpG X (compareOp .NotEq) (gEqs true) := by
  refine opG (op_ne.or (op_neD hu)) fun x y H k h => ?_
  obtain ⟨o, m1, m2, G, mu, v1, v2, h, q⟩ := h
  unfold gEqs at h
  split at h
  · rename_i i j
    refine .inl ?_
    rw [v1.int, v2.int]
    refine ⟨rfl, ?_⟩
    rw [show decide (V.int i = V.int j) = decide (i = j) by rw [dec_int]; exact Bool.beq_eq_decide_eq _ _]
    exact qim q (.bl _) (by simpa using h)
  · rename_i i j
    refine .inl ?_
    rw [v1.str, v2.str]
    refine ⟨rfl, ?_⟩
    rw [show decide (V.str i = V.str j) = decide (i = j) by rw [dec_str]; exact Bool.beq_eq_decide_eq _ _]
    exact qim q (.bl _) (by simpa using h)
  · split at h
    · rename_i d e e1 e2
      refine .inr ⟨d.py, e.py, v1.dp e1 h.1, v2.dp e2 h.2.1, D.ok_shaped h.1, D.ok_shaped h.2.1, ?_⟩
      exact qim q (.bl _) (by have := h.2.2; rwa [Bool.true_xor] at this)
    · exact h.elim

/-! ### is None, is True -/
def M.isNon : M → Option Bool
  | .im .non => some true
  | .im (.raw _) => none
  | .im (.fnv _ _ _ _ _) => none
  | _ => some false
theorem Vw.isNon {v : V} {m : M} {b : Bool} (h : Vw K o H v m) (e : m.isNon = some b) : decide (v = .non) = b := by
  cases m with
  | im d =>
    cases d with
    | non => cases e; rw [h.non]; rfl
    | bl z => cases e; rw [h.bl]; rfl
    | int z => cases e; rw [h.int]; rfl
    | str z => cases e; rw [h.str]; rfl
    | raw _ => cases e
    | fnv _ _ _ _ _ => cases e
    | tup ds => cases e; obtain ⟨a, xs, rfl, _⟩ := h.tup; rfl
    | lst ds => cases e; obtain ⟨a, xs, rfl, _⟩ := h.lst rfl; rfl
  | ls ds => cases e; obtain ⟨a, xs, rfl, _⟩ := h.lq rfl; rfl
  | sq ds => cases e; obtain ⟨a, xs, rfl, _⟩ := h.lq rfl; rfl
  | rd ds => cases e; obtain ⟨a, xs, rfl, _⟩ := h.lq rfl; rfl
  | dk kvs => cases e; obtain ⟨l, a, ks, rfl, _⟩ := h; rfl
  | dt kvs => cases e; obtain ⟨l, a, ks, rfl, _⟩ := h; rfl
def gIs (neg : Bool) : G2 := fun m n G => match m, n with
  | .im (.bl i), .im (.bl j) => G (.im (.bl (neg ^^ decide (i = j))))
  | m, .im .non => match m.isNon with
    | some b => G (.im (.bl (neg ^^ b)))
    | none => False
  | _, _ => False
theorem is_ok : OpG X (compareOp .Is) (gIs false) := by
  refine opG (op_isN.or op_isBl) fun x y H k h => ?_
  obtain ⟨o, m1, m2, G, mu, v1, v2, h, q⟩ := h
  unfold gIs at h
  split at h
  · rename_i i j
    exact .inr ⟨i, j, v1.bl, v2.bl, qim q (.bl _) (by rwa [Bool.false_xor] at h)⟩
  · split at h
    · rename_i b e
      refine .inl ⟨v2.non, ?_⟩
      rw [v1.isNon e]
      exact qim q (.bl _) (by rwa [Bool.false_xor] at h)
    · exact h.elim
  · exact h.elim
theorem isnot_ok : OpG X (compareOp .IsNot) (gIs true) := by
  refine opG (op_notN.or op_notBl) fun x y H k h => ?_
  obtain ⟨o, m1, m2, G, mu, v1, v2, h, q⟩ := h
  unfold gIs at h
  split at h
  · rename_i i j
    exact .inr ⟨i, j, v1.bl, v2.bl, qim q (.bl _) (by rwa [Bool.true_xor] at h)⟩
  · split at h
    · rename_i b e
      refine .inl ⟨v2.non, ?_⟩
      rw [v1.isNon e]
      exact qim q (.bl _) (by rwa [Bool.true_xor] at h)
    · exact h.elim
  · exact h.elim

/-! ### dicts: keys -/
def D.key? : D → Option Key
  | .int i => some (.inl i)
  | .str x => some (.inr x)
  | _ => none
def D.keys? : List D → Option (List Key)
  | [] => some []
  | d :: ds => match d.key?, D.keys? ds with
    | some k, some ks => some (k :: ks)
    | _, _ => none
theorem Dat.key {v : V} {d : D} {k : Key} (h : Dat K o H v d) (e : d.key? = some k) : v = kV k := by
  cases d with
  | int i => cases e; cases h; rfl
  | str i => cases e; cases h; rfl
  | _ => cases e
theorem Dats.keys : ∀ {vs : List V} {ds : List D} {ks : List Key}, Dats K o H vs ds → D.keys? ds = some ks → vs = ks.map kV
  | _, _, _, .nil, e => by simp [D.keys?] at e; subst e; rfl
  | _, _, _, .cons a r, e => by
    unfold D.keys? at e
    split at e
    · rename_i k ks e1 e2
      cases e
      rw [a.key e1, Dats.keys r e2]; rfl
    · cases e
section
variable {κ : Type} [DecidableEq κ]
def getK (kvs : List (κ × D)) (k : κ) : Option D := (kvs.find? fun kv => decide (kv.1 = k)).map (·.2)
def putD (kvs : List (κ × D)) (k : κ) (d : D) : List (κ × D) := if (kvs.any fun kv => decide (kv.1 = k)) = true then kvs.map (fun kv => if kv.1 = k then (kv.1, d) else kv) else kvs ++ [(k, d)]
def RelD (K : PySem.W.Frag) (o : Own) (H : Hp) : Option V → Option D → Prop
  | some v, some d => Dat K o H v d
  | none, none => True
  | _, _ => False
theorem Kvs.val {ks : List (κ × V)} {kvs : List (κ × D)} (h : Kvs K o H ks kvs) (k : κ) : RelD K o H (valV ks k) (getK kvs k) := by
  unfold Kvs at h
  induction h with
  | nil => exact trivial
  | @cons p q ps qs a t ih =>
    by_cases e : p.1 = k
    · have e2 : q.1 = k := a.1 ▸ e
      simp only [valV, getK, List.find?_cons, e, e2, decide_true, Option.map_some]
      exact a.2
    · have e2 : ¬ q.1 = k := a.1 ▸ e
      simp only [valV, getK, List.find?_cons, e, e2, decide_false] at ih ⊢
      exact ih
theorem Kvs.any {ks : List (κ × V)} {kvs : List (κ × D)} (h : Kvs K o H ks kvs) (k : κ) : (ks.any fun kv => decide (kv.1 = k)) = kvs.any fun kv => decide (kv.1 = k) := by
  unfold Kvs at h
  induction h with
  | nil => rfl
  | @cons p q ps qs a t ih => rw [List.any_cons, List.any_cons, ih, a.1]
theorem Kvs.append {ks ls : List (κ × V)} {kvs lvs : List (κ × D)} (h : Kvs K o H ks kvs) (g : Kvs K o H ls lvs) : Kvs K o H (ks ++ ls) (kvs ++ lvs) := by
  unfold Kvs at h
  induction h with
  | nil => exact g
  | cons a t ih => exact .cons a ih
theorem Kvs.put {ks : List (κ × V)} {kvs : List (κ × D)} (h : Kvs K o H ks kvs) (k : κ) {v : V} {d : D} (r : Dat K o H v d) : Kvs K o H (putK ks k v) (putD kvs k d) := by
  unfold putK putD
  rw [h.any k]
  split
  · rename_i hh
    clear hh
    unfold Kvs at h
    induction h with
    | nil => exact .nil
    | @cons p q ps qs a t ih =>
      refine .cons ?_ ih
      show (if p.1 = k then (p.1, v) else p).1 = (if q.1 = k then (q.1, d) else q).1 ∧ Dat K o H (if p.1 = k then (p.1, v) else p).2 (if q.1 = k then (q.1, d) else q).2
      rw [← a.1]
      by_cases e : p.1 = k
      · rw [if_pos e, if_pos e]; exact ⟨rfl, r⟩
      · rw [if_neg e, if_neg e]; exact a
  · exact h.append (.cons ⟨rfl, r⟩ .nil)
theorem Kvs.length {ks : List (κ × V)} {kvs : List (κ × D)} (h : Kvs K o H ks kvs) : ks.length = kvs.length := Paired.length h
end
/-- a dict at a key: what it holds -/
def dGet (m : M) (d : D) : Option (Option D) := match m, d with
  | .dk kvs, d => match d.key? with
    | some k => some (getK kvs k)
    | none => none
  | .dt kvs, .tup ds => match D.keys? ds with
    | some k => some (getK kvs k)
    | none => none
  | _, _ => none
theorem dGet_ok {x y : V} {m : M} {d : D} {r : Option D} (h : Vw K o H x m) (g : Dat K o H y d) (e : dGet m d = some r) : ∃ a w, x = .ref a ∧ DGet H a y w ∧ RelD K o H w r := by
  unfold dGet at e
  split at e
  · rename_i kvs
    split at e
    · rename_i k ek
      cases e
      obtain ⟨l, a, ks, rfl, _, ha, q⟩ := h
      rw [g.key ek]
      exact ⟨a, _, rfl, DGet.k ha, q.val k⟩
    · cases e
  · rename_i kvs ds
    split at e
    · rename_i k ek
      cases e
      obtain ⟨l, a, ks, rfl, _, ha, q⟩ := h
      cases g with
      | tup t r =>
        have z := r.keys ek
        subst z
        exact ⟨a, _, rfl, DGet.t ha t.2, q.val k⟩
    · cases e
  · cases e
end

/-! ### in -/
def gIns (neg : Bool) : G2 := fun m n G => match n with
  | .dk kvs => match m with
    | .im d => match dGet (.dk kvs) d with
      | some r => G (.im (.bl (neg ^^ r.isSome)))
      | none => False
    | _ => False
  | .dt kvs => match m with
    | .im d => match dGet (.dt kvs) d with
      | some r => G (.im (.bl (neg ^^ r.isSome)))
      | none => False
    | _ => False
  | .im (.str x) => match m with
    | .im (.str y) => G (.im (.bl (neg ^^ !(Builtin.Str.occurrences x y 0 x.length 1).isEmpty)))
    | _ => False
  | .im (.tup ds) => match m with
    | .im d => D.ok 64 d = true ∧ D.oks 63 ds = true ∧ G (.im (.bl (neg ^^ ds.any fun z => z.eqv d)))
    | _ => False
  | n => match n.lq? with
    | some ds => match m with
      | .im d => D.ok 64 d = true ∧ D.oks 63 ds = true ∧ G (.im (.bl (neg ^^ ds.any fun z => z.eqv d)))
      | _ => False
    | none => False
section
variable {X : Cx}
def rInT (K : PySem.W.Frag) (neg : Bool) : R2 := fun x y H Q => ∃ d ds, Dp K H x d ∧ Dp K H y (.tuple ds) ∧ SeqAt.shaped d = true ∧ SeqAt.shaped (.tuple ds) = true ∧ Q (.bl (neg ^^ ds.any fun z => PyData.eqv z d)) H
theorem op_inT (hu : X.A.units + 65 < cLine) : OpR X (compareOp .In) (rInT X.K false) := fun _ _ _ H _ _ _ _ _ I rx ry ⟨d, ds, hd, he, sd, se, q⟩ =>
  let ⟨_, e1⟩ := Dp.reads I (.tuple ds) _ _ he ry
  let ⟨_, e2⟩ := Dp.reads I d _ _ hd rx
  SeqAt.in_tuple_reads e1 e2 (SeqAt.canLay_of_shaped se) (SeqAt.canLay_of_shaped sd) (PyProof.Rows.room_in_shaped sd hu) ⟨.bl _, H, I, rfl, by rwa [Bool.false_xor] at q⟩
theorem op_notInT (hu : X.A.units + 65 < cLine) : OpR X (compareOp .NotIn) (rInT X.K true) := fun _ _ _ H _ _ _ _ _ I rx ry ⟨d, ds, hd, he, sd, se, q⟩ =>
  let ⟨_, e1⟩ := Dp.reads I (.tuple ds) _ _ he ry
  let ⟨_, e2⟩ := Dp.reads I d _ _ hd rx
  SeqAt.notIn_tuple_reads e1 e2 (SeqAt.canLay_of_shaped se) (SeqAt.canLay_of_shaped sd) (PyProof.Rows.room_in_shaped sd hu) ⟨.bl _, H, I, rfl, by rwa [Bool.true_xor] at q⟩
def rDin (neg : Bool) : R2 := fun y x H Q => ∃ a w, x = .ref a ∧ DGet H a y w ∧ Q (.bl (neg ^^ w.isSome)) H
theorem op_din (hu : X.A.units + 1 < cLine) : OpR X (compareOp .In) (rDin false) := by
  rintro pins s σ H x _ v _ Q I rx ry ⟨a, w, rfl, g, q⟩
  obtain rfl := ry
  exact d_in hu I g rx fun s3 I3 => ⟨.bl w.isSome, H, I3, rfl, by rwa [Bool.false_xor] at q⟩
theorem op_dnotin (hu : X.A.units + 1 < cLine) : OpR X (compareOp .NotIn) (rDin true) := by
  rintro pins s σ H x _ v _ Q I rx ry ⟨a, w, rfl, g, q⟩
  obtain rfl := ry
  exact d_notIn hu I g rx fun s3 I3 => ⟨.bl (!w.isSome), H, I3, rfl, by rwa [Bool.true_xor] at q⟩
theorem any_eqv {d : D} : ∀ ds : List D, ((D.pys ds).any fun z => PyData.eqv z d.py) = ds.any fun z => z.eqv d
  | [] => rfl
  | e :: ds => by simp only [D.pys, List.any_cons, D.eqv]; rw [any_eqv ds]; rfl
theorem RelD.some_eq {K : PySem.W.Frag} {o : Own} {H : Hp} {w : Option V} {r : Option D} (h : RelD K o H w r) : w.isSome = r.isSome := by
  cases w <;> cases r <;> first | rfl | exact h.elim
theorem ins_ok {neg : Bool} {op : CmpOp} (h1 : OpR X (compareOp op) (rDin neg)) (h2 : OpR X (compareOp op) (fun x y H Q => ∃ i j, x = .str i ∧ y = .str j ∧ Q (.bl (neg ^^ !(Builtin.Str.occurrences j i 0 j.length 1).isEmpty)) H))
    (h3 : OpR X (compareOp op) (rInT X.K neg)) (h4 : OpR X (compareOp op) (fun x y H Q => ∃ d ds, Dp X.K H x d ∧ Dp X.K H y (.list ds) ∧ SeqAt.shaped d = true ∧ SeqAt.shaped (.list ds) = true ∧ Q (.bl (neg ^^ ds.any fun z => PyData.eqv z d)) H)) :
    OpG X (compareOp op) (gIns neg) := by
  refine opG ((h1.or h2).or (h3.or h4)) fun x y H k h => ?_
  obtain ⟨o, m1, m2, G, mu, v1, v2, h, q⟩ := h
  unfold gIns at h
  split at h
  · split at h
    · split at h
      · rename_i r e
        obtain ⟨l, g⟩ := v1
        obtain ⟨a, w, rfl, z, rd⟩ := dGet_ok v2 g e
        refine .inl (.inl ⟨a, w, rfl, z, ?_⟩)
        rw [rd.some_eq]
        exact qim q (.bl _) h
      · exact h.elim
    · exact h.elim
  · split at h
    · split at h
      · rename_i r e
        obtain ⟨l, g⟩ := v1
        obtain ⟨a, w, rfl, z, rd⟩ := dGet_ok v2 g e
        refine .inl (.inl ⟨a, w, rfl, z, ?_⟩)
        rw [rd.some_eq]
        exact qim q (.bl _) h
      · exact h.elim
    · exact h.elim
  · split at h
    · rename_i x' y'
      exact .inl (.inr ⟨_, _, v1.str, v2.str, qim q (.bl _) h⟩)
    · exact h.elim
  · rename_i ds
    split at h
    · rename_i d
      obtain ⟨h1, h2, h⟩ := h
      have e2 : D.ok 64 (.tup ds) = true := by simp only [D.ok]; exact h2
      have p2 := v2.dp (d := .tup ds) rfl e2
      simp only [D.py] at p2
      refine .inr (.inl ⟨d.py, D.pys ds, v1.dp rfl h1, p2, D.ok_shaped h1, by have := D.ok_shaped e2; simpa only [D.py] using this, ?_⟩)
      rw [any_eqv]
      exact qim q (.bl _) h
    · exact h.elim
  · split at h
    · rename_i ds e
      split at h
      · rename_i d
        obtain ⟨h1, h2, h⟩ := h
        have e2 : D.ok 64 (.lst ds) = true := by simp only [D.ok]; exact h2
        obtain ⟨a, xs, rfl, g, r⟩ := v2.lq e
        have p2 : Dp X.K H (.ref a) (D.lst ds).py := by simp only [D.py]; exact .lst g (r.dp h2)
        simp only [D.py] at p2
        refine .inr (.inr ⟨d.py, D.pys ds, v1.dp rfl h1, p2, D.ok_shaped h1, by have := D.ok_shaped e2; simpa only [D.py] using this, ?_⟩)
        rw [any_eqv]
        exact qim q (.bl _) h
      · exact h.elim
    · exact h.elim
theorem in_ok (hu : X.A.units + 65 < cLine) : OpG X (compareOp .In) (gIns false) := by
  refine ins_ok (op_din (by omega)) ?_ (op_inT hu) ?_
  · intro pins s σ H x y v u Q I rx ry ⟨i, j, a, b, q⟩
    exact op_in_str pins s σ H x y v u Q I rx ry ⟨i, j, a, b, by rwa [Bool.false_xor] at q⟩
  · intro pins s σ H x y v u Q I rx ry ⟨i, j, a, b, c, d, q⟩
    exact op_inD hu pins s σ H x y v u Q I rx ry ⟨i, j, a, b, c, d, by rwa [Bool.false_xor] at q⟩
theorem notin_ok (hu : X.A.units + 65 < cLine) : OpG X (compareOp .NotIn) (gIns true) := by
  refine ins_ok (op_dnotin (by omega)) ?_ (op_notInT hu) ?_
  · intro pins s σ H x y v u Q I rx ry ⟨i, j, a, b, q⟩
    exact op_notIn_str pins s σ H x y v u Q I rx ry ⟨i, j, a, b, by rwa [Bool.true_xor] at q⟩
  · intro pins s σ H x y v u Q I rx ry ⟨i, j, a, b, c, d, q⟩
    exact op_notInD hu pins s σ H x y v u Q I rx ry ⟨i, j, a, b, c, d, by rwa [Bool.true_xor] at q⟩
end
end Y
namespace Y
open PySem PySem.Spec L2

section
variable {K : PySem.W.Frag} {c : Cc} {o o' : Own} {σ : St} {H H' : Hp} {ρ ρ' : Env} {τ τ' τ0 τ1 : List (V × M)} {X : Cx} {e a b : Expr} {es : List Expr} {pos : Pos} {t ta tb : TX}
/-! ### what is put into a tuple or a list becomes data -/
def froz : Env → List R → Option (List D × Env)
  | ρ, [] => some ([], ρ)
  | ρ, .im d :: rs => match froz ρ rs with
    | some (ds, ρ') => some (d :: ds, ρ')
    | none => none
  | ρ, .tm (.ls es) :: rs => match froz ρ rs with
    | some (ds, ρ') => some (.lst es :: ds, ρ')
    | none => none
  | ρ, .sl i :: rs => match ρ[i]? with
    | some s => match s.m? with
      | some (.ls es) => match froz (ρ.set i .no) rs with
        | some (ds, ρ') => some (.lst es :: ds, ρ')
        | none => none
      | _ => none
    | none => none
  | _, _ => none
/-- an item once the temporaries are let go -/
def ElR (K : PySem.W.Frag) (o : Own) (H : Hp) (σ : St) (v : V) : R → Prop
  | .im d => Dat K o H v d
  | .tm (.ls es) => Dat K o H v (.lst es)
  | .tm _ => True
  | .sl i => σ[i]? = some (some v)
theorem ElR.mono (L : Le o H o' H') {v : V} : ∀ {r : R}, ElR K o H σ v r → ElR K o' H' σ v r
  | .im _, h => Dat.mono L h
  | .tm (.ls _), h => Dat.mono L h
  | .tm (.im _), _ => trivial
  | .tm (.sq _), _ => trivial
  | .tm (.rd _), _ => trivial
  | .tm (.dk _), _ => trivial
  | .tm (.dt _), _ => trivial
  | .sl _, h => h
theorem RelRs.els {ρ0 : Env} {base : Nat} : ∀ {vs rs τ τ1}, RelRs K o H σ vs rs τ τ1 → base ≤ τ.length → (∀ j v m, τ1[j]? = some (v, m) → IsM K o H (.t j) v m) → Paired (ElR K (dropT base o) H σ) vs rs
  | _, _, _, _, .nil, _, _ => .nil
  | _, _, _, _, .cons (v := v) (r := r) (τ := τ) (τ1 := τ1) a t, hb, h => by
    have hb2 : base ≤ τ1.length := Nat.le_trans hb a.pre.length_le
    refine .cons ?_ (RelRs.els (ρ0 := ρ0) t hb2 h)
    cases r with
    | im d => exact a.2.mono (dropT_le _)
    | sl i => exact a.2
    | tm m =>
      have e : τ1 = τ ++ [(v, m)] := a
      obtain ⟨w, hw⟩ := t.pre
      have q : IsM K o H (.t τ.length) v m := h τ.length v m (by rw [← hw, e]; simp)
      cases m with
      | ls ds =>
        obtain ⟨ad, xs, rfl, ho, hH, dd⟩ := q
        refine Dat.lst ?_ hH (dd.mono (dropT_le _))
        unfold dropT
        rw [ho]
        show (if τ.length < base then _ else none) = none
        rw [if_neg (by omega)]
      | im _ => trivial
      | sq _ => trivial
      | rd _ => trivial
      | dk _ => trivial
      | dt _ => trivial
theorem SlOk.ofS {i : Nat} {s : Sl} {es : List D} (h : SlOk K c o σ H i s) (e : s.m? = some (.ls es)) : ∃ v, σ[i]? = some (some v) ∧ IsM K o H (.s i) v (.ls es) := by
  cases s with
  | no => cases e
  | lo z => cases e; obtain ⟨v, a, q⟩ := h; exact ⟨v, a, q⟩
  | pa z => cases e; obtain ⟨v, a, _, q⟩ := h; exact ⟨v, a, q⟩
  | hd p v z =>
    cases z with
    | ls ds => cases e
    | _ => cases e
/-- a slot's object is let go -/
def unS (i : Nat) (o : Own) : Own := fun a => if o a = some (.s i) then none else o a
theorem unS_le (i : Nat) : Le o H (unS i o) H := Le.mk' (fun b u e f => ⟨by unfold unS; rw [e]; simp, f⟩) (fun b e => ⟨by unfold unS; rw [e]; simp, rfl⟩) fun b _ e => ⟨(by unfold unS; rw [e]; simp), rfl⟩
theorem Rep.unslot (R0 : Rep K c o σ H ρ τ) (i : Nat) : Rep K c (unS i o) σ H (ρ.set i .no) τ := by
  refine ⟨fun j s e => ?_, fun j v m e => ⟨(R0.tm j v m e).1.mono (unS_le i) fun a q => ⟨by unfold unS; rw [q]; simp, rfl⟩, (R0.tm j v m e).2⟩, fun a l e => ?_, R0.le.trans (unS_le i), by rw [List.length_set]; exact R0.ln⟩
  · by_cases hj : i = j
    · subst hj
      by_cases hl : i < ρ.length
      · rw [List.getElem?_set_self hl] at e; cases e; exact trivial
      · rw [List.getElem?_eq_none (by simpa using hl)] at e; cases e
    · rw [List.getElem?_set_ne hj] at e
      refine (R0.sl j s e).mono (unS_le i) (fun a q => ⟨?_, rfl⟩) fun a q => ⟨by unfold unS; rw [q]; simp, rfl⟩
      unfold unS; rw [q]
      rw [if_neg (by intro z; injection z with z; injection z with z; exact hj z.symm)]
  · unfold unS at e
    split at e
    · cases e
    · exact R0.mu a l e
theorem froz_ok : ∀ {vs : List V} {rs : List R} {o : Own} {ρ ρ' : Env} {ds : List D}, Rep K c o σ H ρ τ → Paired (ElR K o H σ) vs rs → froz ρ rs = some (ds, ρ') →
    ∃ o', Le o H o' H ∧ Rep K c o' σ H ρ' τ ∧ Dats K o' H vs ds
  | _, _, o, ρ, _, _, R0, .nil, e => by simp [froz] at e; obtain ⟨rfl, rfl⟩ := e; exact ⟨o, .refl, R0, .nil⟩
  | _, r :: rs, o, ρ, _, _, R0, .cons a t, e => by
    unfold froz at e
    split at e
    · rename_i hh; cases hh
    · rename_i ρ0 d rs' hh
      cases hh
      split at e
      · rename_i ds' ρ1 e1
        cases e
        obtain ⟨o', L, R1, dd⟩ := froz_ok R0 t e1
        exact ⟨o', L, R1, .cons (Dat.mono L a) dd⟩
      · cases e
    · rename_i ρ0 es' rs' hh
      cases hh
      split at e
      · rename_i ds' ρ1 e1
        cases e
        obtain ⟨o', L, R1, dd⟩ := froz_ok R0 t e1
        exact ⟨o', L, R1, .cons (Dat.mono L (show Dat K o H _ (.lst es') from a)) dd⟩
      · cases e
    · rename_i ρ0 i rs' hh
      cases hh
      split at e
      · rename_i s hs
        split at e
        · rename_i es' hm
          split at e
          · rename_i ds' ρ1 e1
            cases e
            obtain ⟨v, hv, z⟩ := (R0.sl i s hs).ofS hm
            have hv2 : σ[i]? = some (some _) := a
            rw [hv2] at hv; cases hv
            have R1 := R0.unslot i
            have L1 : Le o H (unS i o) H := unS_le i
            obtain ⟨o', L, R2, dd⟩ := froz_ok R1 (Paired.mapP t fun _ _ q => q.mono L1) e1
            obtain ⟨ad, xs, rfl, ho, hH, dz⟩ := z
            refine ⟨o', L1.trans L, R2, .cons ?_ dd⟩
            refine Dat.mono L (.lst ?_ hH (dz.mono L1))
            unfold unS
            rw [ho]; simp
          · cases e
        · cases e
      · cases e
    · cases e
def tFrz (ta : TL) (f : List D → Env → Prop) : Env → Prop := fun ρ => ta ρ fun rs ρ1 => match froz ρ1 rs with
  | some (ds, ρ2) => f ds ρ2
  | none => False
def tTp (ta : TL) : TX := fun ρ Q => tFrz ta (fun ds ρ2 => ds.length ≤ sizeLine ∧ Q (.im (.tup ds)) ρ2) ρ
def tLs (ta : TL) : TX := fun ρ Q => tFrz ta (fun ds ρ2 => ds.length ≤ sizeLine ∧ Q (.tm (.ls ds)) ρ2) ρ
theorem tFrz_of {ta : TL} {f : List D → Env → Prop} {k : List V → Hp → Prop} (R0 : Rep K c o σ H ρ τ) (h : tFrz ta f ρ)
    (q : ∀ vs H' o' ds ρ', Le o H o' H' → Rep K c o' σ H' ρ' τ → Dats K o' H' vs ds → f ds ρ' → k vs H') : TAo K c ta σ H k := by
  refine ⟨o, ρ, τ, _, R0, h, fun vs H1 o1 rs ρ1 τ1 L1 R1 z1 h1 => ?_⟩
  split at h1
  · rename_i ds ρ2 e
    have R2 := R1.drop z1.pre
    have els := z1.els (ρ0 := ρ1) (base := τ.length) (Nat.le_refl _) (fun j v m e => (R1.tm j v m e).1)
    obtain ⟨o', L, R3, dd⟩ := froz_ok R2 els e
    exact q vs H1 o' ds ρ2 (L1.trans ((dropT_le _).trans L)) R3 dd h1
  · exact h1.elim
theorem de_tup {x1} {ta : TL} (h : DA X c es ta) : DE X c (.Tuple es x1 pos) (tTp ta) := peImp (pe_tup h) fun σ H k h => by
  obtain ⟨o, ρ, τ, Q, R0, h, q⟩ := h
  refine tFrz_of R0 h fun vs H1 o1 ds ρ1 L1 R1 dd h1 => ?_
  refine ⟨by rw [dd.length]; exact h1.1, fun p hp => ?_⟩
  exact q _ _ o1 (.im (.tup ds)) ρ1 τ (L1.trans ((Grow.new hp).le R1.mu)) (R1.grow (.new hp)) ⟨rfl, newTup R1.mu hp dd⟩ h1.2
theorem de_lst {ta : TL} (h : DA X c es ta) : DE X c (.List es pos) (tLs ta) := peImp (pe_lst h) fun σ H k h => by
  obtain ⟨o, ρ, τ, Q, R0, h, q⟩ := h
  refine tFrz_of R0 h fun vs H1 o1 ds ρ1 L1 R1 dd h1 => ?_
  refine ⟨by rw [dd.length]; exact h1.1, fun p hp => ?_⟩
  obtain ⟨o', τ', L, R', z⟩ := R1.made (m := .ls ds) List.prefix_rfl (.new hp) ⟨p, vs, rfl, hp, rfl, dd⟩
  exact q _ _ o' _ ρ1 τ' (L1.trans L) R' z h1.2

/-! ### subscripts -/
def atD {α : Type} (xs : List α) (i : Int) : Option α := atI xs i
theorem atI_D {vs : List V} {ds : List D} {i : Int} {d : D} (h : Dats K o H vs ds) (e : atI ds i = some d) : ∃ v, atI vs i = some v ∧ Dat K o H v d := by
  unfold atI at e ⊢
  rw [h.length]
  cases q : ixN ds.length i with
  | none => rw [q] at e; cases e
  | some j => rw [q] at e; exact h.get e
def gIx : G2 := fun m n G => match m, n with
  | .dk kvs, .im d => match dGet (.dk kvs) d with
    | some (some r) => G (.im r)
    | _ => False
  | .dt kvs, .im d => match dGet (.dt kvs) d with
    | some (some r) => G (.im r)
    | _ => False
  | .im (.tup ds), .im (.int i) => match atI ds i with
    | some d => G (.im d)
    | none => False
  | .im (.str x), .im (.int i) => x.length ≤ sizeLine ∧ match atI x.cps.toList i with
    | some ch => G (.im (.str ⟨#[ch]⟩))
    | none => False
  | m, .im (.int i) => match m.lq? with
    | some ds => match atI ds i with
      | some d => G (.im d)
      | none => False
    | none => False
  | _, _ => False
def rDgt : R2 := fun x y H Q => ∃ a v, x = .ref a ∧ DGet H a y (some v) ∧ Q v H
theorem ix_dict (hu : X.A.units + 1 < cLine) : IxR X rDgt := by
  rintro value slice pins s σ H _ y _ u Q I rx ry ⟨a, w, rfl, g, q⟩ hs
  obtain rfl := rx
  exact PyProof.Rows.tail_any (dict_typeIs I g) PySem.F.slot_dict_getitem.lookup (d_getItem hu I g ry fun w' s3 I3 rw' => ⟨w, H, I3, rw', q⟩) hs
theorem RelD.get {w : Option V} {d : D} (h : RelD K o H w (some d)) : ∃ v, w = some v ∧ Dat K o H v d := by
  cases w with
  | none => exact h.elim
  | some v => exact ⟨v, rfl, h⟩
theorem ix_ok (hu : X.A.units + 1 < cLine) : IxR X (rOp X.K gIx) := by
  have B := (ix_dict hu).or (ix_list.or (ix_tup.or ix_str))
  refine fun value slice pins s σ H x y v u Q I rx ry h hs => B value slice pins s σ H x y v u Q I rx ry ?_ hs
  obtain ⟨o, m1, m2, G, mu, v1, v2, h, q⟩ := h
  unfold gIx at h
  split at h
  · split at h
    · rename_i r e
      obtain ⟨l, g⟩ := v2
      obtain ⟨a, w, rfl, z, rd⟩ := dGet_ok v1 g e
      obtain ⟨w', rfl, dw⟩ := rd.get
      exact .inl ⟨a, w', rfl, z, qim q dw h⟩
    · exact h.elim
  · split at h
    · rename_i r e
      obtain ⟨l, g⟩ := v2
      obtain ⟨a, w, rfl, z, rd⟩ := dGet_ok v1 g e
      obtain ⟨w', rfl, dw⟩ := rd.get
      exact .inl ⟨a, w', rfl, z, qim q dw h⟩
    · exact h.elim
  · split at h
    · rename_i d e
      obtain ⟨a, xs, rfl, ht, dd⟩ := v1.tup
      obtain ⟨w, ew, dw⟩ := atI_D dd e
      exact .inr (.inr (.inl ⟨a, xs, _, w, rfl, v2.int, ht.sq, ew, qim q dw h⟩))
    · exact h.elim
  · obtain ⟨h0, h⟩ := h
    split at h
    · rename_i d e
      exact .inr (.inr (.inr ⟨_, _, _, v1.str, v2.int, h0, e, qim q (.str _) h⟩))
    · exact h.elim
  · split at h
    · rename_i ds el
      split at h
      · rename_i d e
        obtain ⟨a, xs, rfl, ht, dd⟩ := v1.lq el
        obtain ⟨w, ew, dw⟩ := atI_D dd e
        exact .inr (.inl ⟨a, xs, _, w, rfl, v2.int, ht, ew, qim q dw h⟩)
      · exact h.elim
    · exact h.elim
  · exact h.elim
theorem de_ix (hu : X.A.units + 1 < cLine) (ha : DE X c a ta) (hb : DE X c b tb) (hs : PlainIx b := by intro _ _; rfl) : DE X c (.Subscript a b pos) (tBin gIx ta tb) :=
  peImp (pe_ix (ix_ok hu) ha hb hs) fun _ _ _ h => tBin_of h

/-! ### slices -/
abbrev TP' := Env → (Option Int → Env → Prop) → Prop
def TOo (K : PySem.W.Frag) (c : Cc) (t : TP') : TO := fun σ H k => ∃ o ρ τ Q, Rep K c o σ H ρ τ ∧ t ρ Q ∧ ∀ i H' o' ρ', Le o H o' H' → Rep K c o' σ H' ρ' τ → Q i ρ' → k i H'
def DO (X : Cx) (c : Cc) (e : Option Expr) (t : TP') : Prop := PO X e (TOo X.K c t)
theorem poImp {e : Option Expr} {t t' : TO} (h : PO X e t) (f : ∀ σ H k, t' σ H k → t σ H k) : PO X e t' := ⟨fun pins s σ H Q I q => h.run pins s σ H Q I (f _ _ _ q)⟩
def pNo : TP' := fun ρ Q => Q none ρ
def pSo (t : TX) : TP' := fun ρ Q => t ρ fun r ρ1 => match r with
  | .im (.int i) => Q (some i) ρ1
  | _ => False
theorem do_no : DO X c none pNo := poImp po_none fun σ H k ⟨o, ρ, τ, Q, R0, h, q⟩ => q none H o ρ .refl R0 h
theorem do_so (h : DE X c e t) : DO X c (some e) (pSo t) := poImp (po_some h) fun σ H k h => by
  obtain ⟨o, ρ, τ, Q, R0, h, q⟩ := h
  refine ⟨o, ρ, τ, _, R0, h, fun v1 H1 o1 r1 ρ1 τ1 L1 R1 z1 h1 => ?_⟩
  split at h1
  · obtain ⟨rfl, z⟩ := z1
    cases z
    exact ⟨_, rfl, q _ H1 o1 ρ1 L1 R1 h1⟩
  · exact h1.elim
def cutD {α : Type} (xs : List α) (lo hi : Option Int) : List α := (xs.drop (HT.sIx xs.length 0 lo)).take (HT.sIx xs.length xs.length hi - HT.sIx xs.length 0 lo)
theorem Dats.cut {vs : List V} {ds : List D} (h : Dats K o H vs ds) (lo hi : Option Int) : Dats K o H (cutV vs lo hi) (cutD ds lo hi) := by
  unfold cutV cutD
  rw [h.length]
  exact (h.drop _).take _
abbrev G3 := M → Option Int → Option Int → (M → Prop) → Prop
def gSl : G3 := fun m lo hi G => match m with
  | .im (.tup ds) => G (.im (.tup (cutD ds lo hi)))
  | .im (.str x) => x.length ≤ sizeLine ∧ G (.im (.str (Txt.slice x lo hi)))
  | m => match m.lq? with
    | some ds => G (.ls (cutD ds lo hi))
    | none => False
def rSlO (K : PySem.W.Frag) (g : G3) : V → Option Int → Option Int → Hp → VK → Prop := fun x lo hi H k => ∃ o m G, (∀ a l, o a = some l → Mt (H a)) ∧ Vw K o H x m ∧ g m lo hi G ∧ ∀ v H' m', Grow H H' → NewM K o H H' v m' → G m' → k v H'
theorem cut_whole {α : Type} {xs : List α} {lo hi : Option Int} (h : HT.sIx xs.length 0 lo = 0 ∧ HT.sIx xs.length xs.length hi = xs.length) : cutD xs lo hi = xs := by
  unfold cutD
  rw [h.1, h.2]
  simp
theorem sl_ok : SlR X (rSlO X.K gSl) := by
  have B := (sl_tupA (X := X)).or (sl_list.or C8.sl_txt)
  intro pins s σ H x v vl vu lo hi sl Q I rx hs pl pu h
  refine B pins s σ H x v vl vu lo hi sl Q I rx hs pl pu ?_
  obtain ⟨o, m, G, mu, v1, h, q⟩ := h
  unfold gSl at h
  split at h
  · rename_i ds
    obtain ⟨a, xs, rfl, ht, dd⟩ := v1.tup
    refine .inl ⟨a, xs, rfl, ht.sq, fun w => ?_, fun _ p hp => ?_⟩
    · refine qim q (d := .tup ds) (.tup ht dd) ?_
      rw [dd.length] at w
      rwa [cut_whole w] at h
    · exact q _ _ (.im (.tup (cutD ds lo hi))) (.new hp) (newTup mu hp (dd.cut lo hi)) h
  · exact .inr (.inr ⟨_, v1.str, h.1, qim q (.str _) h.2⟩)
  · split at h
    · rename_i ds e
      obtain ⟨a, xs, rfl, ht, dd⟩ := v1.lq e
      exact .inr (.inl ⟨a, xs, rfl, ht, fun p hp => q _ _ (.ls (cutD ds lo hi)) (.new hp) ⟨p, _, rfl, hp, rfl, dd.cut lo hi⟩ h⟩)
    · exact h.elim
def tSlc (t : TX) (tl th : TP') : TX := fun ρ Q => t ρ fun r ρ1 => tl ρ1 fun lo ρ2 => th ρ2 fun hi ρ3 => match vw ρ3 r with
  | some m => gSl m lo hi fun m' => Q m'.res ρ3
  | none => False
theorem de_slice {lo hi : Option Expr} {tl th : TP'} {p2 : Pos} (h : DE X c e t) (hl : DO X c lo tl) (hh : DO X c hi th) : DE X c (.Subscript e (.Slice lo hi none p2) pos) (tSlc t tl th) :=
  peImp (pe_slice sl_ok h hl hh) fun σ H k h => by
    obtain ⟨o, ρ, τ, Q, R0, h, q⟩ := h
    refine ⟨o, ρ, τ, _, R0, h, fun v1 H1 o1 r1 ρ1 τ1 L1 R1 z1 h1 => ?_⟩
    refine ⟨o1, ρ1, τ1, _, R1, h1, fun i H2 o2 ρ2 L2 R2 h2 => ?_⟩
    refine ⟨o2, ρ2, τ1, _, R2, h2, fun j H3 o3 ρ3 L3 R3 h3 => ?_⟩
    split at h3
    · rename_i m e
      have y1 := R3.vw_ok (z1.mono (L2.trans L3)) List.prefix_rfl e
      refine ⟨o3, m, _, R3.mu, y1, h3, fun v H' m' g nm hm => ?_⟩
      obtain ⟨o', τ', L, R', z⟩ := R3.made z1.pre g nm
      exact q v H' o' _ ρ3 τ' (L1.trans (L2.trans (L3.trans L))) R' z hm
    · exact h3.elim

/-! ### calls of built-ins -/
def vws (ρ : Env) : List R → Option (List M)
  | [] => some []
  | r :: rs => match vw ρ r, vws ρ rs with
    | some m, some ms => some (m :: ms)
    | _, _ => none
theorem RelRs.vws (R0 : Rep K c o σ H ρ τ) : ∀ {vs rs τ0 τ1 ms}, RelRs K o H σ vs rs τ0 τ1 → τ1 <+: τ → Y.vws ρ rs = some ms → Paired (Vw K o H) vs ms
  | _, _, _, _, _, .nil, _, e => by simp [Y.vws] at e; subst e; exact .nil
  | _, _, _, _, _, .cons a t, p, e => by
    unfold Y.vws at e
    split at e
    · rename_i m ms e1 e2
      cases e
      exact .cons (R0.vw_ok a (t.pre.trans p) e1) (RelRs.vws R0 t p e2)
    · cases e
abbrev GC := List M → (M → Prop) → Prop
def rCl (K : PySem.W.Frag) (g : GC) : List V → Hp → VK → Prop := fun vs H k => ∃ o ms G, (∀ a l, o a = some l → Mt (H a)) ∧ Paired (Vw K o H) vs ms ∧ g ms G ∧ ∀ v H' m, Grow H H' → NewM K o H H' v m → G m → k v H'
def tCl (g : GC) (ta : TL) : TX := fun ρ Q => ta ρ fun rs ρ1 => match vws ρ1 rs with
  | some ms => g ms fun m => Q m.res ρ1
  | none => False
def CallG (X : Cx) (f : Value) (g : GC) : Prop := CallR X f (rCl X.K g)
theorem callG {f : Value} {g : GC} {r : List V → Hp → VK → Prop} (h : CallR X f r) (i : ∀ vs H k, rCl X.K g vs H k → r vs H k) : CallG X f g := fun pins s σ H xs us Q I rs q => h pins s σ H xs us Q I rs (i _ _ _ q)
theorem tCl_of {g : GC} {ta : TL} {k : VK} (h : TEo K c (tCl g ta) σ H k) : tCB (rCl K g) (TAo K c ta) σ H k := by
  obtain ⟨o, ρ, τ, Q, R0, h, q⟩ := h
  refine ⟨o, ρ, τ, _, R0, h, fun vs H1 o1 rs ρ1 τ1 L1 R1 z1 h1 => ?_⟩
  split at h1
  · rename_i ms e
    refine ⟨o1, ms, _, R1.mu, RelRs.vws R1 z1 List.prefix_rfl e, h1, fun v H' m g nm hm => ?_⟩
    obtain ⟨o', τ', L, R', z⟩ := R1.made z1.pre g nm
    exact q v H' o' _ ρ1 τ' (L1.trans L) R' z hm
  · exact h1.elim
section
variable {x : Str} {p : Pos} {id T : String} {g : GC} {tl : TL}
theorem de_callB (hc : CallG X (.builtin id) g) (hg : Gl X x) (hm : X.mg x = none) (hv : bootBuiltins x = some (.builtin id)) (ha : DA X c (e :: es) tl) (hn : x ≠ "__name__" := by decide) (hdb : (x == ("__debug__" : Str)) = false := by decide)
    (he : starEach (e :: es) X.env = (false, eval e X.env) :: starEach es X.env := by rfl) (hpl : (backTo pos (starEach es X.env)).any (·.1) = false := by rfl) : DE X c (.Call (.Name x p) (e :: es) [] pos) (tCl g tl) :=
  peImp (pe_callB hc hg hm hv ha hn hdb he hpl) fun _ _ _ h => tCl_of h
theorem de_callT (hc : CallG X (.type T) g) (hg : Gl X x) (hm : X.mg x = none) (hv : bootBuiltins x = some (.type T)) (ha : DA X c (e :: es) tl) (hn : x ≠ "__name__" := by decide) (hdb : (x == ("__debug__" : Str)) = false := by decide)
    (he : starEach (e :: es) X.env = (false, eval e X.env) :: starEach es X.env := by rfl) (hpl : (backTo pos (starEach es X.env)).any (·.1) = false := by rfl) : DE X c (.Call (.Name x p) (e :: es) [] pos) (tCl g tl) :=
  peImp (pe_callTy hc hg hm hv ha hn hdb he hpl) fun _ _ _ h => tCl_of h
end
theorem pv1 {vs : List V} {m : M} (h : Paired (Vw K o H) vs [m]) : ∃ v, vs = [v] ∧ Vw K o H v m := by
  cases h with | cons a t => cases t; exact ⟨_, rfl, a⟩
theorem pv2 {vs : List V} {m n : M} (h : Paired (Vw K o H) vs [m, n]) : ∃ v w, vs = [v, w] ∧ Vw K o H v m ∧ Vw K o H w n := by
  cases h with | cons a t => cases t with | cons b t => cases t; exact ⟨_, _, rfl, a, b⟩

/-- len -/
def gLen : GC := fun ms G => match ms with
  | [.im (.tup ds)] => G (.im (.int ds.length))
  | [.im (.str x)] => x.length ≤ sizeLine ∧ G (.im (.int x.length))
  | [.dk kvs] => G (.im (.int kvs.length))
  | [m] => match m.lq? with
    | some ds => G (.im (.int ds.length))
    | none => False
  | _ => False
theorem len_ok : CallG X (.builtin "len") gLen := by
  refine callG (call_len_seq.or (call_len_str.or call_lenD)) fun vs H k h => ?_
  obtain ⟨o, ms, G, mu, v1, h, q⟩ := h
  unfold gLen at h
  split at h
  · obtain ⟨v, rfl, w1⟩ := pv1 v1
    obtain ⟨a, xs, rfl, ht, dd⟩ := w1.tup
    exact .inl ⟨a, xs, rfl, .inr ht.sq, qim q (.int _) (by rw [dd.length]; exact h)⟩
  · obtain ⟨v, rfl, w1⟩ := pv1 v1
    exact .inr (.inl ⟨_, by rw [w1.str], h.1, qim q (.int _) h.2⟩)
  · obtain ⟨v, rfl, w1⟩ := pv1 v1
    obtain ⟨l, a, ks, rfl, _, ha, kv⟩ := w1
    exact .inr (.inr ⟨a, ks, rfl, ha, qim q (.int _) (by rw [kv.length]; exact h)⟩)
  · obtain ⟨v, rfl, w1⟩ := pv1 v1
    split at h
    · rename_i ds e
      obtain ⟨a, xs, rfl, ht, dd⟩ := w1.lq e
      exact .inl ⟨a, xs, rfl, .inl ht, qim q (.int _) (by rw [dd.length]; exact h)⟩
    · exact h.elim
  · exact h.elim
/-- int(n), abs(n) -/
def gInt : GC := fun ms G => match ms with
  | [.im (.int i)] => G (.im (.int i))
  | [.im (.bl b)] => G (.im (.int (if b then 1 else 0)))
  | _ => False
theorem int_ok : CallG X (.type "int") gInt := by
  refine callG call_int1 fun vs H k h => ?_
  obtain ⟨o, ms, G, mu, v1, h, q⟩ := h
  unfold gInt at h
  split at h
  · obtain ⟨v, rfl, w1⟩ := pv1 v1
    exact .inl ⟨_, by rw [w1.int], qim q (.int _) h⟩
  · obtain ⟨v, rfl, w1⟩ := pv1 v1
    exact .inr ⟨_, by rw [w1.bl], qim q (.int _) h⟩
  · exact h.elim
def gAbs : GC := fun ms G => match ms with
  | [.im (.int i)] => G (.im (.int (if i < 0 then -i else i)))
  | _ => False
theorem abs_ok : CallG X (.builtin "abs") gAbs := by
  refine callG call_abs fun vs H k h => ?_
  obtain ⟨o, ms, G, mu, v1, h, q⟩ := h
  unfold gAbs at h
  split at h
  · obtain ⟨v, rfl, w1⟩ := pv1 v1
    exact ⟨_, by rw [w1.int], qim q (.int _) h⟩
  · exact h.elim
/-- list(x), tuple(x) -/
def M.sq? : M → Option (List D)
  | .im (.tup ds) => some ds
  | m => m.lq?
def gList : GC := fun ms G => match ms with
  | [m] => match m.sq? with
    | some ds => G (.ls ds)
    | none => False
  | _ => False
theorem Vw.sq {v : V} {m : M} {ds : List D} (h : Vw K o H v m) (e : m.sq? = some ds) : ∃ a xs, v = .ref a ∧ (SqL K H a xs ∨ SqT K H a xs) ∧ Dats K o H xs ds := by
  unfold M.sq? at e
  split at e
  · cases e
    obtain ⟨a, xs, rfl, ht, dd⟩ := h.tup
    exact ⟨a, xs, rfl, .inr ht.sq, dd⟩
  · obtain ⟨a, xs, rfl, ht, dd⟩ := h.lq e
    exact ⟨a, xs, rfl, .inl ht, dd⟩
theorem list_ok : CallG X (.type "list") gList := by
  refine callG call_list_of fun vs H k h => ?_
  obtain ⟨o, ms, G, mu, v1, h, q⟩ := h
  unfold gList at h
  split at h
  · obtain ⟨v, rfl, w1⟩ := pv1 v1
    split at h
    · rename_i ds e
      obtain ⟨a, xs, rfl, ht, dd⟩ := w1.sq e
      exact ⟨a, xs, rfl, ht, fun l hl => q _ _ (.ls ds) (.new hl) ⟨l, xs, rfl, hl, rfl, dd⟩ h⟩
    · exact h.elim
  · exact h.elim
def gTuple : GC := fun ms G => match ms with
  | [m] => match m.sq? with
    | some ds => G (.im (.tup ds))
    | none => False
  | _ => False
theorem tuple_ok : CallG X (.type "tuple") gTuple := by
  refine callG call_tuple_of fun vs H k h => ?_
  obtain ⟨o, ms, G, mu, v1, h, q⟩ := h
  unfold gTuple at h
  split at h
  · obtain ⟨v, rfl, w1⟩ := pv1 v1
    split at h
    · rename_i ds e
      unfold M.sq? at e
      split at e
      · cases e
        obtain ⟨a, xs, rfl, ht, dd⟩ := w1.tup
        exact ⟨a, xs, rfl, .inr ⟨ht.sq, qim q (.tup ht dd) h⟩⟩
      · obtain ⟨a, xs, rfl, ht, dd⟩ := w1.lq e
        exact ⟨a, xs, rfl, .inl ⟨ht, fun l hl => q _ _ (.im (.tup ds)) (.new hl) (newTup mu hl dd) h⟩⟩
    · exact h.elim
  · exact h.elim
/-- all, any -/
def D.bls? : List D → Option (List Bool)
  | [] => some []
  | .bl b :: ds => (D.bls? ds).map (b :: ·)
  | _ => none
theorem D.bls_eq : ∀ {ds : List D} {bs : List Bool}, D.bls? ds = some bs → ds = bs.map D.bl
  | [], _, e => by cases e; rfl
  | d :: ds, bs, e => by
    unfold D.bls? at e
    split at e
    · rename_i hh; cases hh
    · rename_i b ds' hh
      cases hh
      cases q : D.bls? ds with
      | none => rw [q] at e; cases e
      | some cs => rw [q] at e; cases e; rw [D.bls_eq q]; rfl
    · cases e
theorem D.bls_map : ∀ bs : List Bool, D.bls? (bs.map D.bl) = some bs
  | [] => rfl
  | b :: bs => by simp only [List.map_cons, D.bls?]; rw [D.bls_map bs]; rfl
def gAll (f : List Bool → Bool) : GC := fun ms G => match ms with
  | [m] => match m.lq? with
    | some ds => match D.bls? ds with
      | some bs => G (.im (.bl (f bs)))
      | none => False
    | none => False
  | _ => False
theorem all_ok (hc : X.calm = true) : CallG X (.builtin "all") (gAll fun bs => bs.all id) := by
  refine callG (cr_all hc) fun vs H k h => ?_
  obtain ⟨o, ms, G, mu, v1, h, q⟩ := h
  unfold gAll at h
  split at h
  · obtain ⟨v, rfl, w1⟩ := pv1 v1
    split at h
    · rename_i ds e
      split at h
      · rename_i bs eb
        obtain ⟨a, xs, rfl, ht, dd⟩ := w1.lq e
        have e2 := D.bls_eq eb
        subst e2
        have e3 := dd.bls
        subst e3
        exact ⟨a, bs, rfl, ht, qim q (.bl _) h⟩
      · exact h.elim
    · exact h.elim
  · exact h.elim
theorem any_ok (hc : X.calm = true) : CallG X (.builtin "any") (gAll fun bs => bs.any id) := by
  refine callG (cr_any hc) fun vs H k h => ?_
  obtain ⟨o, ms, G, mu, v1, h, q⟩ := h
  unfold gAll at h
  split at h
  · obtain ⟨v, rfl, w1⟩ := pv1 v1
    split at h
    · rename_i ds e
      split at h
      · rename_i bs eb
        obtain ⟨a, xs, rfl, ht, dd⟩ := w1.lq e
        have e2 := D.bls_eq eb
        subst e2
        have e3 := dd.bls
        subst e3
        exact ⟨a, bs, rfl, ht, qim q (.bl _) h⟩
      · exact h.elim
    · exact h.elim
  · exact h.elim
/-- isinstance(x, T), T a built-in class -/
def tyNames : List String := ["NoneType", "bool", "int", "str", "tuple", "list", "dict"]
def isiT (a b : String) : Bool := a == b || (a == "bool" && b == "int")
theorem isi_kit : ∀ a ∈ tyNames, ∀ b ∈ ["bool", "int", "str", "tuple", "list", "dict"], kitB a b = some (isiT a b) := by decide +kernel
def M.ty : M → Option String
  | .im .non => some "NoneType"
  | .im (.bl _) => some "bool"
  | .im (.int _) => some "int"
  | .im (.str _) => some "str"
  | .im (.tup _) => some "tuple"
  | .im (.lst _) => some "list"
  | .ls _ => some "list"
  | .rd _ => some "list"
  | .dk _ => some "dict"
  | .dt _ => some "dict"
  | _ => none
theorem Vw.ty {v : V} {m : M} {n : String} (h : Vw K o H v m) (e : m.ty = some n) : TyX K H v (.type n) ∧ n ∈ tyNames := by
  cases m with
  | im d =>
    cases d with
    | non => cases e; rw [h.non]; exact ⟨.base .non, by decide⟩
    | bl z => cases e; rw [h.bl]; exact ⟨.base (.bl _), by decide⟩
    | int z => cases e; rw [h.int]; exact ⟨.base (.int _), by decide⟩
    | str z => cases e; rw [h.str]; exact ⟨.base (.str _), by decide⟩
    | raw _ => cases e
    | fnv _ _ _ _ _ => cases e
    | tup ds => cases e; obtain ⟨a, xs, rfl, ht, _⟩ := h.tup; exact ⟨.base (.tup ht.2), by decide⟩
    | lst ds => cases e; obtain ⟨a, xs, rfl, ht, _⟩ := h.lst rfl; exact ⟨.base (.lst ht), by decide⟩
  | ls ds => cases e; obtain ⟨a, xs, rfl, ht, _⟩ := h.lst rfl; exact ⟨.base (.lst ht), by decide⟩
  | sq ds => cases e
  | rd ds => cases e; obtain ⟨a, xs, rfl, ht, _⟩ := h.lst rfl; exact ⟨.base (.lst ht), by decide⟩
  | dk kvs => cases e; obtain ⟨l, a, ks, rfl, _, ha, _⟩ := h; exact ⟨.base (.dK ha), by decide⟩
  | dt kvs => cases e; obtain ⟨l, a, ks, rfl, _, ha, _⟩ := h; exact ⟨.base (.dT ha), by decide⟩
def gIsi : GC := fun ms G => match ms with
  | [m, .im (.raw (.ty n))] => match m.ty with
    | some a => n ∈ ["bool", "int", "str", "tuple", "list", "dict"] ∧ G (.im (.bl (isiT a n)))
    | none => False
  | _ => False
theorem isi_ok : CallG X (.builtin "isinstance") gIsi := by
  refine callG call_isi fun vs H k h => ?_
  obtain ⟨o, ms, G, mu, v1, h, q⟩ := h
  unfold gIsi at h
  split at h
  · obtain ⟨v, w, rfl, w1, w2⟩ := pv2 v1
    split at h
    · rename_i a e
      obtain ⟨t1, t2⟩ := w1.ty e
      obtain ⟨l, w2⟩ := w2
      cases (show Dat X.K o H w (.raw _) from w2)
      exact ⟨v, _, _, _, _, rfl, .ty _, t1, isi_kit a t2 _ h.1, qim q (.bl _) h.2⟩
    · exact h.elim
  · exact h.elim
end
end Y
namespace Y
open PySem PySem.Spec L2

/-! ### statements -/
structure EndP where
  nx : Env → Prop
  rt : M → Env → Prop
  bk : Env → Prop := fun _ => False
  ct : Env → Prop := fun _ => False
abbrev TSX := EndP → Env → Prop
/-- the way on: from a state that is wanted to what the statement is to reach -/
def Way (K : PySem.W.Frag) (c : Cc) (o : Own) (H : Hp) (f : Env → Prop) (g : St → Hp → Prop) : Prop :=
  ∀ σ' H' o' ρ', Le o H o' H' → Rep K c o' σ' H' ρ' [] → f ρ' → g σ' H'
def WayR (K : PySem.W.Frag) (c : Cc) (o : Own) (H : Hp) (f : M → Env → Prop) (g : VK) : Prop :=
  ∀ v σ' H' o' ρ' m, Le o H o' H' → Rep K c o' σ' H' ρ' [] → IsM K o' H' (.t 0) v m → f m ρ' → g v H'
structure Ways (K : PySem.W.Frag) (c : Cc) (o : Own) (H : Hp) (P : EndP) (D : Ends) : Prop where
  nx : Way K c o H P.nx D.nx
  rt : WayR K c o H P.rt D.rt
  bk : Way K c o H P.bk D.bk
  ct : Way K c o H P.ct D.ct
def TSo (K : PySem.W.Frag) (c : Cc) (t : TSX) : TS := fun D σ H => ∃ o ρ P, Rep K c o σ H ρ [] ∧ t P ρ ∧ Ways K c o H P D
def DS (X : Cx) (c : Cc) (st : Stmt) (t : TSX) : Prop := PS X st (TSo X.K c t)
def DSs (X : Cx) (c : Cc) (st : List Stmt) (t : TSX) : Prop := PSs X st (TSo X.K c t)
theorem psImp {X : Cx} {st : Stmt} {t t' : TS} (h : PS X st t) (f : ∀ D σ H, t' D σ H → t D σ H) : PS X st t' := ⟨fun pins s σ H D I q => h.run pins s σ H D I (f _ _ _ q)⟩
theorem pssImp {X : Cx} {st : List Stmt} {t t' : TS} (h : PSs X st t) (f : ∀ D σ H, t' D σ H → t D σ H) : PSs X st t' := ⟨fun pins s σ H D I q => h.run pins s σ H D I (f _ _ _ q)⟩

section
variable {K : PySem.W.Frag} {c : Cc} {o o' : Own} {σ σ' : St} {H H' : Hp} {ρ ρ' : Env} {τ τ' τ0 τ1 : List (V × M)} {X : Cx} {e a b : Expr} {es : List Expr} {pos : Pos} {t u : TX} {P : EndP} {D : Ends}
theorem Way.le {f : Env → Prop} {g : St → Hp → Prop} (w : Way K c o H f g) (L : Le o H o' H') : Way K c o' H' f g := fun σ2 H2 o2 ρ2 L2 R q => w σ2 H2 o2 ρ2 (L.trans L2) R q
theorem WayR.le {f : M → Env → Prop} {g : VK} (w : WayR K c o H f g) (L : Le o H o' H') : WayR K c o' H' f g := fun v σ2 H2 o2 ρ2 m L2 R i q => w v σ2 H2 o2 ρ2 m (L.trans L2) R i q
theorem Ways.le (w : Ways K c o H P D) (L : Le o H o' H') : Ways K c o' H' P D := ⟨w.nx.le L, w.rt.le L, w.bk.le L, w.ct.le L⟩
theorem Rep.forget (R0 : Rep K c o σ H ρ τ) : Rep K c o σ H ρ [] := ⟨R0.sl, fun j v m e => by simp at e, R0.mu, R0.le, R0.ln⟩

def sNil : TSX := fun P ρ => P.nx ρ
def sSeq (t u : TSX) : TSX := fun P ρ => t { P with nx := u P } ρ
theorem ds_nil : DSs X c [] sNil := pssImp pss_nil fun D σ H ⟨o, ρ, P, R0, h, w⟩ => w.nx σ H o ρ .refl R0 h
theorem ds_cons {s : Stmt} {ss : List Stmt} {t u : TSX} (h1 : DS X c s t) (h2 : DSs X c ss u) : DSs X c (s :: ss) (sSeq t u) :=
  pssImp (pss_cons h1 h2) fun D σ H ⟨o, ρ, P, R0, h, w⟩ =>
    ⟨o, ρ, _, R0, h, ⟨fun σ' H' o' ρ' L R q => ⟨o', ρ', P, R, q, w.le L⟩, w.rt, w.bk, w.ct⟩⟩
theorem ds_one {s : Stmt} {t : TSX} (h1 : DS X c s t) : DSs X c [s] t := pss_one h1
def sBk : TSX := fun P ρ => P.bk ρ
def sCt : TSX := fun P ρ => P.ct ρ
theorem ds_pass : DS X c (.Pass pos) sNil := psImp ps_pass fun D σ H ⟨o, ρ, P, R0, h, w⟩ => w.nx σ H o ρ .refl R0 h
theorem ds_break : DS X c (.Break pos) sBk := psImp ps_break fun D σ H ⟨o, ρ, P, R0, h, w⟩ => w.bk σ H o ρ .refl R0 h
theorem ds_continue : DS X c (.Continue pos) sCt := psImp ps_continue fun D σ H ⟨o, ρ, P, R0, h, w⟩ => w.ct σ H o ρ .refl R0 h
def sDrop (t : TX) : TSX := fun P ρ => t ρ fun _ ρ1 => P.nx ρ1
theorem ds_expr (h : DE X c e t) (hs : swapsWith e none pos.line X.env = pure false := by rfl) : DS X c (.Expr e pos) (sDrop t) :=
  psImp (ps_expr h hs) fun D σ H ⟨o, ρ, P, R0, h, w⟩ => ⟨o, ρ, [], _, R0, h, fun v H' o' r ρ' τ' L R z q => w.nx σ H' o' ρ' L R.forget q⟩
def sIf (q : TQ) (t u : TSX) : TSX := fun P ρ => q ρ fun b ρ1 => if b = true then t P ρ1 else u P ρ1
theorem ds_if {cond : Expr} {as bs : List Stmt} {q : TQ} {t u : TSX} (hc : DT X c cond q) (ha : DSs X c as t) (hb : DSs X c bs u) : DS X c (.If cond as bs pos) (sIf q t u) :=
  psImp (ps_if hc ha hb) fun D σ H ⟨o, ρ, P, R0, h, w⟩ => ⟨o, ρ, [], _, R0, h, fun b H' o' ρ' L R q => by
    cases b with
    | true => exact ⟨o', ρ', P, R, q, w.le L⟩
    | false => exact ⟨o', ρ', P, R, q, w.le L⟩⟩

/-! ### labels changed -/
def relL (l l' : Lb) (o : Own) : Own := fun a => if o a = some l then some l' else o a
theorem relL_le {l l' : Lb} (h : l ≠ .x) (hk : ∀ q, l ≠ .k q := by intro q z; cases z) : Le o H (relL l l' o) H :=
  .mk' (fun b u e f => ⟨by unfold relL; rw [e]; simp, f⟩) (fun b e => ⟨by unfold relL; rw [e, if_neg (by intro z; cases z; exact h rfl)], rfl⟩) fun b q e => ⟨(by unfold relL; rw [e, if_neg (by intro z; cases z; exact hk q rfl)]), rfl⟩
theorem relL_other {l l' k : Lb} (h : k ≠ l) {a : Addr} (e : o a = some k) : relL l l' o a = some k := by
  unfold relL; rw [e, if_neg (by intro z; cases z; exact h rfl)]
theorem relL_same {l l' : Lb} {a : Addr} (e : o a = some l) : relL l l' o a = some l' := by unfold relL; rw [if_pos e]
theorem relL_mu {l l' : Lb} (mu : ∀ a l, o a = some l → Mt (H a)) : ∀ a k, relL l l' o a = some k → Mt (H a) := fun a k e => by
  unfold relL at e
  split at e
  · rename_i q; exact mu a _ q
  · exact mu a _ e
/-- a slot's object goes to another label; the slot is empty -/
theorem Rep.move (R0 : Rep K c o σ H ρ τ) (i : Nat) (l' : Lb) : Rep K c (relL (.s i) l' o) σ H (ρ.set i .no) τ := by
  have L : Le o H (relL (.s i) l' o) H := relL_le (by intro z; cases z)
  refine ⟨fun j s e => ?_, fun j v m e => ⟨(R0.tm j v m e).1.mono L fun a q => ⟨relL_other (by intro z; cases z) q, rfl⟩, (R0.tm j v m e).2⟩, relL_mu R0.mu, R0.le.trans L, by rw [List.length_set]; exact R0.ln⟩
  by_cases hj : i = j
  · subst hj
    by_cases hl : i < ρ.length
    · rw [List.getElem?_set_self hl] at e; cases e; exact trivial
    · rw [List.getElem?_eq_none (by simpa using hl)] at e; cases e
  · rw [List.getElem?_set_ne hj] at e
    exact (R0.sl j s e).mono L (fun a q => ⟨relL_other (by intro z; injection z with z; exact hj z.symm) q, rfl⟩) fun a q => ⟨relL_other (by intro z; cases z) q, rfl⟩
/-- the last temporary's object goes to a label of a slot -/
theorem Rep.takeT (R0 : Rep K c o σ H ρ (τ ++ [(v, m)])) (l' : Lb) : Rep K c (relL (.t τ.length) l' o) σ H ρ τ ∧ IsM K (relL (.t τ.length) l' o) H l' v m := by
  have L : Le o H (relL (.t τ.length) l' o) H := relL_le (by intro z; cases z)
  refine ⟨⟨fun j s e => (R0.sl j s e).mono L (fun a q => ⟨relL_other (by intro z; cases z) q, rfl⟩) fun a q => ⟨relL_other (by intro z; cases z) q, rfl⟩, fun j w m' e => ?_, relL_mu R0.mu, R0.le.trans L, R0.ln⟩, ?_⟩
  · have hj : j < τ.length := (List.getElem?_eq_some_iff.mp e).1
    have q := R0.tm j w m' (by rw [List.getElem?_append_left hj]; exact e)
    exact ⟨q.1.mono L fun a z => ⟨relL_other (by intro w; injection w with w; omega) z, rfl⟩, q.2⟩
  · exact (R0.tm τ.length v m (by simp)).1.mono L fun a z => ⟨relL_same z, rfl⟩
/-- a slot is set -/
theorem Rep.set (R0 : Rep K c o σ H ρ τ) {i : Nat} {v : V} {s : Sl} (h : SlOk K c o (σ.set i (some v)) H i s ∨ ¬ i < ρ.length) : Rep K c o (σ.set i (some v)) H (ρ.set i s) τ := by
  refine ⟨fun j s' e => ?_, R0.tm, R0.mu, R0.le, by rw [List.length_set, List.length_set]; exact R0.ln⟩
  by_cases hj : i = j
  · subst hj
    rcases h with h | h
    · by_cases hl : i < ρ.length
      · rw [List.getElem?_set_self hl] at e; cases e; exact h
      · rw [List.getElem?_eq_none (by simpa using hl)] at e; cases e
    · rw [List.getElem?_eq_none (by simpa using h)] at e; cases e
  · rw [List.getElem?_set_ne hj] at e
    have q := R0.sl j s' e
    have es : (σ.set i (some v))[j]? = σ[j]? := List.getElem?_set_ne hj
    cases s' with
    | no => exact trivial
    | lo m => obtain ⟨w, e1, z⟩ := q; exact ⟨w, by rw [es]; exact e1, z⟩
    | pa m => obtain ⟨w, e1, e2, z⟩ := q; exact ⟨w, by rw [es]; exact e1, e2, z⟩
    | hd p w m => obtain ⟨e1, e2, z⟩ := q; exact ⟨by rw [es]; exact e1, e2, z⟩
theorem set_at {i : Nat} {v w : V} (h : σ[i]? = some (some w)) : (σ.set i (some v))[i]? = some (some v) := by
  have hl : i < σ.length := (List.getElem?_eq_some_iff.mp h).1
  rw [List.getElem?_set_self hl]
/-- a slot that holds something stands within the frame's slots -/
theorem Rep.asg (R0 : Rep K c o σ H ρ τ) {i : Nat} {v : V} {m : M} (h : IsM K o H (.s i) v m) : Rep K c o (σ.set i (some v)) H (ρ.set i (.lo m)) τ := by
  refine R0.set ?_
  by_cases q : i < ρ.length
  · exact .inl ⟨v, by rw [List.getElem?_set_self (by rw [← R0.ln]; exact q)], h⟩
  · exact .inr q
/-- a name is given a value: data; a new object; another name's object, which that name loses -/
def asg (i : Nat) (r : R) (ρ : Env) (k : Env → Prop) : Prop := match r with
  | .im d => k (ρ.set i (.lo (.im d)))
  | .tm m => k (ρ.set i (.lo m))
  | .sl j => match ρ[j]? with
    | some (.lo (.sq ds)) => k (ρ.set i (.lo (.sq ds)))
    | some (.pa (.sq ds)) => k (ρ.set i (.lo (.sq ds)))
    | some (.lo m) => k ((ρ.set j .no).set i (.lo m))
    | some (.pa m) => k ((ρ.set j .no).set i (.lo m))
    | _ => False
theorem asg_ok (R0 : Rep K c o σ H ρ τ') {i : Nat} {v : V} {r : R} {f : Env → Prop} (z : RelR K o H σ v r τ τ') (h : asg i r ρ f) (q : ∀ o' ρ', Le o H o' H → Rep K c o' (σ.set i (some v)) H ρ' τ → f ρ' → D.nx (σ.set i (some v)) H) : D.nx (σ.set i (some v)) H := by
  unfold asg at h
  split at h
  · obtain ⟨rfl, z⟩ := z
    exact q o _ .refl (R0.asg (m := .im _) z) h
  · have z : τ' = τ ++ [(v, _)] := z
    subst z
    obtain ⟨R1, i1⟩ := R0.takeT (.s i)
    exact q _ _ (relL_le (by intro z; cases z)) (R1.asg i1) h
  · rename_i j
    obtain ⟨rfl, z⟩ := z
    split at h
    · rename_i ds e
      obtain ⟨w, e1, q1⟩ := R0.sl _ _ e
      rw [z] at e1; cases e1
      exact q o _ .refl (R0.asg (m := .sq ds) q1) h
    · rename_i ds e
      obtain ⟨w, e1, e2, q1⟩ := R0.sl _ _ e
      rw [z] at e1; cases e1
      exact q o _ .refl (R0.asg (m := .sq ds) q1) h
    · rename_i m _ e
      obtain ⟨w, e1, q1⟩ := R0.sl _ _ e
      rw [z] at e1; cases e1
      refine q _ _ (relL_le (l := .s j) (l' := .s i) (by intro z; cases z)) ((R0.move j (.s i)).asg (m := m) (q1.mono (relL_le (by intro z; cases z)) fun a y => ⟨relL_same y, rfl⟩)) h
    · rename_i m _ e
      obtain ⟨w, e1, e2, q1⟩ := R0.sl _ _ e
      rw [z] at e1; cases e1
      refine q _ _ (relL_le (l := .s j) (l' := .s i) (by intro z; cases z)) ((R0.move j (.s i)).asg (m := m) (q1.mono (relL_le (by intro z; cases z)) fun a y => ⟨relL_same y, rfl⟩)) h
    · exact h.elim
def sAsg (i : Nat) (t : TX) : TSX := fun P ρ => t ρ fun r ρ1 => asg i r ρ1 P.nx
theorem sAsg_of {i : Nat} {t : TX} (h : TSo K c (sAsg i t) D σ H) : tAsg (TEo K c t) (gName i) D σ H := by
  obtain ⟨o, ρ, P, R0, h, w⟩ := h
  refine ⟨o, ρ, [], _, R0, h, fun v H1 o1 r1 ρ1 τ1 L1 R1 z1 h1 => ?_⟩
  exact asg_ok R1 z1 h1 fun o' ρ' L R q => w.nx _ _ o' ρ' (L1.trans L) R q
theorem ds_set {i : Nat} {x : Str} {pos' : Pos} (hN : X.N.Nodup) (h : DE X c e t) (hi : X.N[i]? = some x := by rfl) (hx : Loc X.env.scope x := by first | exact Or.inl rfl | exact Or.inr rfl) (hs : swapsWith e (some (.Name x pos')) pos.line X.env = pure false := by rfl)
    (hf : X.fn x = true ∨ X.env.scope.names.lookup x = some .local := by first | exact .inl rfl | exact .inr rfl | assumption) : DS X c (.Assign [.Name x pos'] e pos) (sAsg i t) :=
  psImp (ps_set hN hi hx h hs hf) fun _ _ _ h => sAsg_of h
def sRet (t : TX) : TSX := fun P ρ => t ρ fun r ρ1 => match r with
  | .im d => P.rt (.im d) ρ1
  | .tm m => P.rt m ρ1
  | .sl j => match ρ1[j]? with
    | some (.lo m) => P.rt m (ρ1.set j .no)
    | some (.pa m) => P.rt m (ρ1.set j .no)
    | _ => False
theorem ds_ret (h : DE X c e t) : DS X c (.Return (some e) pos) (sRet t) := psImp (ps_ret h) fun D σ H h => by
  obtain ⟨o, ρ, P, R0, h, w⟩ := h
  refine ⟨o, ρ, [], _, R0, h, fun v H1 o1 r1 ρ1 τ1 L1 R1 z1 h1 => ?_⟩
  split at h1
  · obtain ⟨rfl, z⟩ := z1
    exact w.rt v σ H1 o1 ρ1 (.im _) L1 R1 z h1
  · rename_i m
    have z : τ1 = [] ++ [(v, m)] := z1
    subst z
    exact w.rt v σ H1 o1 ρ1 m L1 R1.forget (R1.tm 0 v m rfl).1 h1
  · rename_i j
    obtain ⟨rfl, z⟩ := z1
    split at h1
    · rename_i m e
      obtain ⟨w', e1, q1⟩ := R1.sl _ _ e
      rw [z] at e1; cases e1
      exact w.rt v σ H1 _ _ m (L1.trans (relL_le (l := .s j) (l' := .t 0) (by intro z; cases z))) (R1.move j (.t 0)) (q1.mono (relL_le (by intro z; cases z)) fun a y => ⟨relL_same y, rfl⟩) h1
    · rename_i m e
      obtain ⟨w', e1, e2, q1⟩ := R1.sl _ _ e
      rw [z] at e1; cases e1
      exact w.rt v σ H1 _ _ m (L1.trans (relL_le (l := .s j) (l' := .t 0) (by intro z; cases z))) (R1.move j (.t 0)) (q1.mono (relL_le (by intro z; cases z)) fun a y => ⟨relL_same y, rfl⟩) h1
    · exact h1.elim
def sRetN : TSX := fun P ρ => P.rt (.im .non) ρ
theorem ds_retN : DS X c (.Return none pos) sRetN := psImp ps_retN fun D σ H ⟨o, ρ, P, R0, h, w⟩ => w.rt .non σ H o ρ (.im .non) .refl R0 .non h
end
end Y
namespace Y
open PySem PySem.Spec L2

section
variable {K : PySem.W.Frag} {c : Cc} {o o' : Own} {σ σ' : St} {H H' : Hp} {ρ ρ' : Env} {τ τ' τ0 τ1 : List (V × M)} {X : Cx} {e a b : Expr} {es : List Expr} {pos : Pos} {t u : TX} {P : EndP} {D' : Ends}
/-! ### a slot's object is changed -/
def Sl.up : Sl → M → Sl
  | .pa _, m => .pa m
  | _, m => .lo m
/-- what a slot owns -/
def Sl.m! : Sl → Option M
  | .lo m => some m
  | .pa m => some m
  | _ => none
theorem SlOk.of! {i : Nat} {s : Sl} {m : M} (h : SlOk K c o σ H i s) (e : s.m! = some m) : ∃ v, σ[i]? = some (some v) ∧ IsM K o H (.s i) v m := by
  cases s with
  | no => cases e
  | lo z => cases e; exact h
  | pa z => cases e; obtain ⟨v, a, _, q⟩ := h; exact ⟨v, a, q⟩
  | hd p v z => cases e
theorem Rep.mut1 (R0 : Rep K c o σ H ρ τ) {i : Nat} {s : Sl} {m0 m : M} {a : Addr} {u : HO} (e : ρ[i]? = some s) (hs : s.m! = some m0) (hv : σ[i]? = some (some (.ref a))) (ho : o a = some (.s i)) (hu : Mt (some u))
    (h : IsM K o (upd H a u) (.s i) (.ref a) m) : Rep K c o σ (upd H a u) (ρ.set i (s.up m)) τ ∧ Le o H o (upd H a u) := by
  have ne : ∀ b l, o b = some l → l ≠ .s i → b ≠ a := fun b l q z w => by subst w; rw [ho] at q; cases q; exact z rfl
  have L : Le o H o (upd H a u) := Le.mk' (fun b w q f => ⟨q, by rw [upd_ne (fun z => by subst z; rw [ho] at q; cases q)]; exact f⟩) (fun b q => ⟨q, upd_ne (ne b _ q (by intro z; cases z))⟩) fun b _ q => ⟨q, upd_ne (ne b _ q (by intro z; cases z))⟩
  have kp : ∀ l, l ≠ .s i → ∀ b, o b = some l → o b = some l ∧ upd H a u b = H b := fun l z b q => ⟨q, upd_ne (ne b l q z)⟩
  refine ⟨⟨fun j s' q => ?_, fun j v m' q => ⟨(R0.tm j v m' q).1.mono L (kp _ (by intro z; cases z)), (R0.tm j v m' q).2⟩, fun b l q => ?_, R0.le.trans L, by rw [List.length_set]; exact R0.ln⟩, L⟩
  · by_cases hj : i = j
    · subst hj
      have hl : i < ρ.length := (List.getElem?_eq_some_iff.mp e).1
      rw [List.getElem?_set_self hl] at q; cases q
      have k := R0.sl i s e
      cases s with
      | no => cases hs
      | lo z => exact ⟨_, hv, h⟩
      | pa z => obtain ⟨v, a1, a2, _⟩ := k; rw [hv] at a1; cases a1; exact ⟨_, hv, a2, h⟩
      | hd p v z => cases hs
    · rw [List.getElem?_set_ne hj] at q
      exact (R0.sl j s' q).mono L (kp _ (by intro z; injection z with z; exact hj z.symm)) (kp _ (by intro z; cases z))
  · by_cases z : b = a
    · subst z; rw [upd_same]; exact hu
    · rw [upd_ne z]; exact R0.mu b l q

/-! ### methods of a list that change it -/
abbrev GM := List D → List D → (D → List D → Prop) → Prop
def rMt (K : PySem.W.Frag) (g : GM) : V → List V → Hp → VK → Prop := fun x vs H Q => ∃ l xs ds es o G, x = .ref l ∧ H l = some (.lst xs) ∧ Dats K o H xs ds ∧ Dats K o H vs es ∧ g ds es G ∧
  ∀ y d xs' ds', Dat K o H y d → Dats K o H xs' ds' → G d ds' → Q y (upd H l (.lst xs'))
def MtG (X : Cx) (id : String) (g : GM) : Prop := MtR X id (rMt X.K g)
theorem mtG {id : String} {g : GM} {r : V → List V → Hp → VK → Prop} (h : MtR X id r) (i : ∀ x vs H k, rMt X.K g x vs H k → r x vs H k) : MtG X id g := fun pins s σ H x xs v us Q I rx rs q => h pins s σ H x xs v us Q I rx rs (i _ _ _ _ q)
def gApp : GM := fun ds es G => match es with
  | [d] => ds.length < sizeLine ∧ G .non (ds ++ [d])
  | _ => False
theorem app_ok : MtG X "list.append" gApp := by
  refine mtG mt_append fun x vs H k h => ?_
  obtain ⟨l, xs, ds, es, o, G, rfl, hl, d1, d2, h, q⟩ := h
  unfold gApp at h
  split at h
  · cases d2 with | cons a t => cases t; exact ⟨l, xs, _, rfl, rfl, hl, by rw [d1.length]; exact h.1, q _ _ _ _ .non (d1.append (.cons a .nil)) h.2⟩
  · exact h.elim
def gExt : GM := fun ds es G => match es with
  | [.lst zs] => ds.length + zs.length ≤ sizeLine ∧ G .non (ds ++ zs)
  | _ => False
theorem ext_ok : MtG X "list.extend" gExt := by
  refine mtG mt_extend fun x vs H k h => ?_
  obtain ⟨l, xs, ds, es, o, G, rfl, hl, d1, d2, h, q⟩ := h
  unfold gExt at h
  split at h
  · cases d2 with
    | cons a t =>
      cases t
      cases a with
      | lst a1 a2 a3 => exact ⟨l, _, xs, _, rfl, rfl, hl, a2, by rw [d1.length, a3.length]; exact h.1, q _ _ _ _ .non (d1.append a3) h.2⟩
  · exact h.elim
def gPop : GM := fun ds es G => match es with
  | [] => match ds.getLast? with
    | some d => G d ds.dropLast
    | none => False
  | _ => False
theorem pop_ok : MtG X "list.pop" gPop := by
  refine mtG mt_pop fun x vs H k h => ?_
  obtain ⟨l, xs, ds, es, o, G, rfl, hl, d1, d2, h, q⟩ := h
  unfold gPop at h
  split at h
  · cases d2
    split at h
    · rename_i d e
      rw [List.getLast?_eq_getElem?] at e
      obtain ⟨w, e2, dw⟩ := d1.get e
      rw [← d1.length] at e2
      exact ⟨l, xs, w, rfl, rfl, hl, e2, q _ _ _ _ dw d1.dropLast h⟩
    · exact h.elim
  · exact h.elim
def gRev : GM := fun ds es G => match es with
  | [] => G .non ds.reverse
  | _ => False
theorem rev_ok : MtG X "list.reverse" gRev := by
  refine mtG mt_reverse fun x vs H k h => ?_
  obtain ⟨l, xs, ds, es, o, G, rfl, hl, d1, d2, h, q⟩ := h
  unfold gRev at h
  split at h
  · cases d2; exact ⟨l, xs, rfl, rfl, hl, q _ _ _ _ .non d1.reverse h⟩
  · exact h.elim
/-- x.m(..) of a name's own list -/
def tMt (g : GM) (i : Nat) (ta : TL) : TX := fun ρ Q => (match ρ[i]? with
  | some s => match s.m! with
    | some (.ls _) => True
    | _ => False
  | none => False) ∧ tFrz ta (fun ds ρ1 => match ρ1[i]? with
    | some s => match s.m! with
      | some (.ls xs) => g xs ds fun d xs' => Q (.im d) (ρ1.set i (s.up (.ls xs')))
      | _ => False
    | none => False) ρ
theorem tMt_of {g : GM} {i : Nat} {ta : TL} {k : VK} (h : TEo K c (tMt g i ta) σ H k) : tBM K "list" (rMt K g) (tVar i) (TAo K c ta) σ H k := by
  obtain ⟨o, ρ, τ, Q, R0, ⟨h0, h⟩, q⟩ := h
  split at h0
  · rename_i s e
    split at h0
    · rename_i xs em
      obtain ⟨v, hv, ⟨a, ys, rfl, ho, hH, dd⟩⟩ := (R0.sl i s e).of! em
      refine ⟨_, hv, .inl ⟨rfl, ys, SqL.of hH⟩, ?_⟩
      refine tFrz_of R0 h fun vs H1 o1 ds ρ1 L1 R1 d1 h1 => ?_
      split at h1
      · rename_i s' e'
        split at h1
        · rename_i zs em'
          obtain ⟨v', hv', ⟨a', ys', rfl, ho', hH', dd'⟩⟩ := (R1.sl i s' e').of! em'
          rw [hv] at hv'; cases hv'
          refine ⟨a, ys', zs, ds, o1, _, rfl, hH', dd', d1, h1, fun y d xs' ds' dy dxs hG => ?_⟩
          have L : Le o1 H1 o1 (upd H1 a (.lst xs')) := (R1.mut1 (m := .rd []) (u := .lst []) e' em' hv ho' trivial ⟨a, [], rfl, ho', upd_same, .nil⟩).2 |> fun _ => by
            exact .mk' (fun b w q f => ⟨q, by rw [upd_ne (fun z => by subst z; rw [ho'] at q; cases q)]; exact f⟩) (fun b q => ⟨q, upd_ne (fun z => by subst z; rw [ho'] at q; cases q)⟩) fun b _ q => ⟨q, upd_ne (fun z => by subst z; rw [ho'] at q; cases q)⟩
          obtain ⟨R2, L2⟩ := R1.mut1 (m := .ls ds') (u := .lst xs') e' em' hv ho' trivial ⟨a, xs', rfl, ho', upd_same, dxs.mono L⟩
          exact q y _ o1 (.im d) _ τ (L1.trans L2) R2 ⟨rfl, dy.mono L2⟩ hG
        · exact h1.elim
      · exact h1.elim
    · exact h0.elim
  · exact h0.elim
section
variable {name : Str} {x : Str} {px apos cpos : Pos} {id : String} {g : GM} {ta : TL}
theorem de_mt (i : Nat) (pa : PySem.PlainAttrs "list") (slot : PySem.Slot "list" name id) (hty : typeOf (.builtin id) = pure (.type "method_descriptor")) (hm : MtG X id g) (ha : DA X c (e :: es) ta)
    (hN : X.N[i]? = some x := by rfl) (hv : Vis X.env.scope x := by first | exact Or.inl rfl | exact Or.inr (Or.inl rfl) | exact Or.inr (Or.inr rfl))
    (hbase : attributeBase (.Name x px) name X.env (eval (.Name x px) X.env) = eval (.Name x px) X.env := by rfl)
    (hfew : ((backTo cpos (starEach (e :: es) X.env)).all (fun x => !x.1) && (backToKw cpos (keywordEach [] X.env)).all (fun x => x.1.isSome)
      && decide ((e :: es).length + ([] : List Keyword).length + (if ([] : List Keyword).isEmpty then 0 else 1) < 30)) = true := by rfl)
    (hline : (apos.endLine == cpos.line) = true := by rfl) (hs : starEach (e :: es) X.env = (false, eval e X.env) :: starEach es X.env := by rfl) (hplain : (backTo cpos (starEach es X.env)).any (·.1) = false := by rfl)
    (hd : (x == ("__debug__" : Str)) = false := by decide) (hcd : (x == ("__classdict__" : Str)) = false := by decide) :
    DE X c (.Call (.Attribute (.Name x px) name apos) (e :: es) [] cpos) (tMt g i ta) :=
  peImp (pe_bm pa slot hty hm (pe_var (i := i) hN hv hd hcd) ha hbase hfew hline hs hplain) fun _ _ _ h => tMt_of h
theorem de_mt0 (i : Nat) (pa : PySem.PlainAttrs "list") (slot : PySem.Slot "list" name id) (hty : typeOf (.builtin id) = pure (.type "method_descriptor")) (hm : MtG X id g)
    (hN : X.N[i]? = some x := by rfl) (hv : Vis X.env.scope x := by first | exact Or.inl rfl | exact Or.inr (Or.inl rfl) | exact Or.inr (Or.inr rfl))
    (hbase : attributeBase (.Name x px) name X.env (eval (.Name x px) X.env) = eval (.Name x px) X.env := by rfl) (hline : (apos.endLine == cpos.line) = true := by rfl)
    (hd : (x == ("__debug__" : Str)) = false := by decide) (hcd : (x == ("__classdict__" : Str)) = false := by decide) :
    DE X c (.Call (.Attribute (.Name x px) name apos) [] [] cpos) (tMt g i lNil) :=
  peImp (pe_bm0 pa slot hty hm (pe_var (i := i) hN hv hd hcd) hbase hline) fun σ H k h => by
    obtain ⟨v, hv, ty, q⟩ := tMt_of h
    refine ⟨v, hv, ty, ?_⟩
    obtain ⟨o, ρ, τ, Q, R0, h, q⟩ := q
    exact q [] H o [] ρ τ .refl R0 .nil h
end

/-! ### x[k] = v of a name's own list or dict -/
def setM (m : M) (k v : D) (G : M → Prop) : Prop := match m, k with
  | .ls ds, .int i => match ixN ds.length i with
    | some j => G (.ls (ds.set j v))
    | none => False
  | .dk kvs, k => match k.key? with
    | some k => kvs.length < sizeLine ∧ G (.dk (putD kvs k v))
    | none => False
  | .dt kvs, .tup ks => match D.keys? ks with
    | some k => kvs.length < sizeLine ∧ G (.dt (putD kvs k v))
    | none => False
  | _, _ => False
theorem PSet.or {t t' : TSet} (h : PSet X t) (h' : PSet X t') : PSet X (fun o i v H Q => t o i v H Q ∨ t' o i v H Q) := by
  intro pins s σ H o i v ov iv u Q I ro ri rv q
  rcases q with q | q
  · exact h pins s σ H o i v ov iv u Q I ro ri rv q
  · exact h' pins s σ H o i v ov iv u Q I ro ri rv q
theorem le_mut {a : Addr} {i : Nat} {w : HO} (ho : o a = some (.s i)) : Le o H o (upd H a w) :=
  Le.mk' (fun b w q f => ⟨q, by rw [upd_ne (fun z => by subst z; rw [ho] at q; cases q)]; exact f⟩) (fun b q => ⟨q, upd_ne (fun z => by subst z; rw [ho] at q; cases q)⟩) fun b _ q => ⟨q, upd_ne (fun z => by subst z; rw [ho] at q; cases q)⟩
theorem setM_ok (R0 : Rep K c o σ H ρ τ) {i : Nat} {s : Sl} {m : M} {v vk vx : V} {dk dx : D} {G : M → Prop} {Q : Hp → Prop} (e : ρ[i]? = some s) (em : s.m! = some m) (hv : σ[i]? = some (some v)) (d1 : Dat K o H vk dk) (d2 : Dat K o H vx dx) (h : setM m dk dx G)
    (q : ∀ H' m', Rep K c o σ H' (ρ.set i (s.up m')) τ → Le o H o H' → G m' → Q H') : rSetL v vk vx H Q ∨ rSetD v vk vx H Q := by
  obtain ⟨v', hv', z⟩ := (R0.sl i s e).of! em
  rw [hv] at hv'; cases hv'
  unfold setM at h
  split at h
  · rename_i ds j
    split at h
    · rename_i n en
      obtain ⟨a, xs, rfl, ho, hH, dd⟩ := z
      cases d1
      refine .inl ⟨a, xs, j, n, rfl, rfl, hH, by rw [dd.length]; exact en, ?_⟩
      obtain ⟨R1, L1⟩ := R0.mut1 (m := .ls (ds.set n dx)) (u := .lst (xs.set n vx)) e em hv ho trivial ⟨a, _, rfl, ho, upd_same, (dd.set d2 n).mono (le_mut ho)⟩
      exact q _ _ R1 L1 h
    · exact h.elim
  · rename_i kvs
    split at h
    · rename_i ky ek
      obtain ⟨a, ks, rfl, ho, hH, dd⟩ := z
      have ek' := d1.key ek
      subst ek'
      refine .inr ⟨a, _, rfl, DPut.k hH (by rw [dd.length]; exact h.1), ?_⟩
      obtain ⟨R1, L1⟩ := R0.mut1 (m := .dk (putD kvs ky dx)) (u := .dK (putK ks ky vx)) e em hv ho trivial ⟨a, _, rfl, ho, upd_same, Kvs.mono (le_mut ho) (dd.put ky d2)⟩
      exact q _ _ R1 L1 h.2
    · exact h.elim
  · rename_i kvs ks'
    split at h
    · rename_i ky ek
      obtain ⟨a, ks, rfl, ho, hH, dd⟩ := z
      cases d1 with
      | tup t r =>
        have ek' := r.keys ek
        subst ek'
        refine .inr ⟨a, _, rfl, DPut.t hH t.2 (by rw [dd.length]; exact h.1), ?_⟩
        obtain ⟨R1, L1⟩ := R0.mut1 (m := .dt (putD kvs ky dx)) (u := .dT (putK ks ky vx)) e em hv ho trivial ⟨a, _, rfl, ho, upd_same, Kvs.mono (le_mut ho) (dd.put ky d2)⟩
        exact q _ _ R1 L1 h.2
    · exact h.elim
  · exact h.elim
def hasM (ρ : Env) (i : Nat) : Prop := match ρ[i]? with
  | some s => match s.m! with
    | some _ => True
    | none => False
  | none => False
theorem hasM_at {ρ : Env} {i : Nat} (R0 : Rep K c o σ H ρ τ) (h : hasM ρ i) : ∃ y, σ[i]? = some (some y) := by
  unfold hasM at h
  split at h
  · rename_i s e
    split at h
    · rename_i m em
      obtain ⟨v, hv, _⟩ := (R0.sl i s e).of! em
      exact ⟨v, hv⟩
    · exact h.elim
  · exact h.elim
def sSetI (i : Nat) (tk tv : TX) : TSX := fun P ρ => tFrz (lCons tv lNil) (fun ds ρ1 => match ds with
  | [d] => hasM ρ1 i ∧ tk ρ1 fun rk ρ2 => match rk with
    | .im k => match ρ2[i]? with
      | some s => match s.m! with
        | some m => setM m k d fun m' => P.nx (ρ2.set i (s.up m'))
        | none => False
      | none => False
    | _ => False
  | _ => False) ρ
theorem frz1 {f : List D → Env → Prop} {t : TX} {k : VK} (R0 : Rep K c o σ H ρ τ) (h : tFrz (lCons t lNil) f ρ)
    (q : ∀ v H' o' d ρ', Le o H o' H' → Rep K c o' σ H' ρ' τ → Dat K o' H' v d → f [d] ρ' → k v H') : TEo K c t σ H k := by
  refine ⟨o, ρ, τ, _, R0, h, fun v H1 o1 r ρ1 τ1 L1 R1 z1 h1 => ?_⟩
  have h1 : match froz ρ1 [r] with
    | some (ds, ρ2) => f ds ρ2
    | none => False := h1
  split at h1
  · rename_i ds ρ2 e
    have R2 := R1.drop z1.pre
    have els := (RelRs.cons z1 .nil).els (ρ0 := ρ1) (base := τ.length) (Nat.le_refl _) (fun j v m e => (R1.tm j v m e).1)
    obtain ⟨o', L, R3, dd⟩ := froz_ok R2 els e
    cases dd with
    | cons a t => cases t; exact q v H1 o' _ ρ2 (L1.trans ((dropT_le _).trans L)) R3 a h1
  · exact h1.elim
theorem ds_setI (i : Nat) {x : Str} {px ppos : Pos} {tk tv : TX} (hu : X.A.units + 1 < cLine) (hv : DE X c e tv) (hk : DE X c a tk) (hN : X.N[i]? = some x := by rfl) (hvis : Vis X.env.scope x := by first | exact Or.inl rfl | exact Or.inr (Or.inl rfl) | exact Or.inr (Or.inr rfl))
    (hs : swapsWithSole [.Subscript (.Name x px) a ppos] e pos.line X.env = pure false := by rfl) (hw : swappedStores [.Subscript (.Name x px) a ppos] e X.env = pure none := by rfl)
    (h1 : (assignEach [.Subscript (.Name x px) a ppos] X.env).map (·.2) = [assign (.Subscript (.Name x px) a ppos) X.env] := by rfl)
    (hsub : ∀ v, assign (.Subscript (.Name x px) a ppos) X.env v = (do
      let ov ← holding [v] (eval (.Name x px) X.env)
      let iv ← holding [v, ov] (eval a X.env)
      standAt ppos
      holding [v, ov, iv] (setItem ov iv v)
      release [v, ov, iv] []) := by intro _; rfl)
    (hd : (x == ("__debug__" : Str)) = false := by decide) (hcd : (x == ("__classdict__" : Str)) = false := by decide) : DS X c (.Assign [.Subscript (.Name x px) a ppos] e pos) (sSetI i tk tv) :=
  psImp (ps_asg hv (pg_sub (pe_var (i := i) hN hvis hd hcd) hk (PSet.or set_list (set_dict hu)) hsub) hs hw h1) fun D σ H h => by
    obtain ⟨o, ρ, P, R0, h, w⟩ := h
    refine frz1 R0 h fun v H1 o1 d ρ1 L1 R1 d1 h1 => ?_
    obtain ⟨h0, h1⟩ := (show hasM ρ1 i ∧ tk ρ1 fun rk ρ2 => match rk with
      | .im k => match ρ2[i]? with
        | some s => match s.m! with
          | some m => setM m k d fun m' => P.nx (ρ2.set i (s.up m'))
          | none => False
        | none => False
      | _ => False from h1)
    obtain ⟨y, hy⟩ := hasM_at R1 h0
    refine ⟨y, hy, o1, ρ1, [], _, R1, h1, fun v2 H2 o2 r2 ρ2 τ2 L2 R2 z2 h2 => ?_⟩
    split at h2
    · obtain ⟨rfl, z2⟩ := z2
      split at h2
      · rename_i s es
        split at h2
        · rename_i m em
          exact setM_ok (Q := fun H3 => D.nx σ H3) R2 es em hy z2 (d1.mono L2) h2 fun H3 m' R3 L3 hG => w.nx _ _ _ _ (L1.trans (L2.trans L3)) R3 hG
        · exact h2.elim
      · exact h2.elim
    · exact h2.elim
end
end Y
namespace Y
open PySem PySem.Spec L2

section
variable {K : PySem.W.Frag} {c : Cc} {o o' : Own} {σ σ' : St} {H H' : Hp} {ρ ρ' : Env} {τ τ' τ0 τ1 : List (V × M)} {X : Cx} {e a b : Expr} {es : List Expr} {pos : Pos} {t u : TX} {P : EndP} {D' : Ends}
/-! ### targets -/
inductive Bd where
  | one (i : Nat) | many (is : List Nat)
def gNms : List Nat → TGs
  | [] => gNil
  | i :: is => gCons (gName i) (gNms is)
def Bd.tg (K : PySem.W.Frag) : Bd → TG
  | .one i => gName i
  | .many is => gTup K is.length (gNms is)
def Bd.slots : Bd → List Nat
  | .one i => [i]
  | .many is => is
def setAll (ρ : Env) : List Nat → List D → Env
  | i :: is, d :: ds => setAll (ρ.set i (.lo (.im d))) is ds
  | _, _ => ρ
def bnd (b : Bd) (d : D) (ρ : Env) (k : Env → Prop) : Prop := match b with
  | .one i => k (ρ.set i (.lo (.im d)))
  | .many is => match d with
    | .tup ds => ds.length = is.length ∧ k (setAll ρ is ds)
    | _ => False
theorem wipe_at {i : Nat} : ∀ {vs : List Nat}, i ∈ vs → i < σ.length → (wipe σ vs)[i]? = some none
  | v :: vs, h, l => by
    unfold wipe
    by_cases e : v = i
    · subst e; rw [List.getElem?_set_self (by rw [wipe_length]; exact l)]
    · rw [List.getElem?_set_ne e]
      rcases List.mem_cons.mp h with h | h
      · exact absurd h.symm e
      · exact wipe_at h l
theorem wipe_set {i : Nat} {x : Option V} {vs : List Nat} (h : i ∈ vs) : wipe (σ.set i x) vs = wipe σ vs := by
  apply List.ext_getElem?
  intro j
  by_cases hj : j ∈ vs
  · by_cases hl : j < σ.length
    · rw [wipe_at hj hl, wipe_at hj (by rw [List.length_set]; exact hl)]
    · rw [List.getElem?_eq_none (by rw [wipe_length, List.length_set]; omega), List.getElem?_eq_none (by rw [wipe_length]; omega)]
  · rw [wipe_out hj, wipe_out hj, List.getElem?_set_ne (fun e => hj (by rw [← e]; exact h))]
theorem setAll_ok : ∀ {is : List Nat} {ds : List D} {vs : List V} {σ : St} {ρ : Env}, Rep K c o σ H ρ τ → Dats K o H vs ds → ds.length = is.length → {f : Env → Prop} → f (setAll ρ is ds) → {k : St → Hp → Prop} →
    (∀ σ' ρ', Rep K c o σ' H ρ' τ → (∀ ws, (∀ i ∈ is, i ∈ ws) → wipe σ' ws = wipe σ ws) → f ρ' → k σ' H) → gNms is vs σ H k
  | [], [], _, σ, ρ, R0, .nil, _, f, h, k, q => ⟨rfl, q σ ρ R0 (fun _ _ => rfl) h⟩
  | i :: is, d :: ds, _, σ, ρ, R0, .cons (v := v) (vs := vs) a r, hl, f, h, k, q => by
    refine ⟨v, vs, rfl, ?_⟩
    show gNms is vs (σ.set i (some v)) H k
    refine setAll_ok (R0.asg (i := i) (m := .im d) a) r (Nat.succ.inj hl) h fun σ' ρ' R w hf => q σ' ρ' R (fun ws hw => ?_) hf
    rw [w ws (fun j hj => hw j (List.mem_cons_of_mem _ hj)), wipe_set (hw i List.mem_cons_self)]
theorem bnd_ok {bd : Bd} {v : V} {d : D} {f : Env → Prop} {k : St → Hp → Prop} (R0 : Rep K c o σ H ρ τ) (hd : Dat K o H v d) (h : bnd bd d ρ f)
    (q : ∀ σ' ρ', Rep K c o σ' H ρ' τ → (∀ ws, (∀ i ∈ bd.slots, i ∈ ws) → wipe σ' ws = wipe σ ws) → f ρ' → k σ' H) : bd.tg K v σ H k := by
  cases bd with
  | one i => exact q _ _ (R0.asg (m := .im d) hd) (fun ws hw => wipe_set (hw i (by simp [Bd.slots]))) h
  | many is =>
    unfold bnd at h
    simp only at h
    split at h
    · cases hd with
      | tup t r =>
        refine ⟨_, _, rfl, t.sq, by rw [r.length]; exact h.1, ?_⟩
        exact setAll_ok R0 r h.1 h.2 q
    · exact h.elim

/-! ### what is walked -/
inductive Src where
  | fx (ds : List D) | sl (i : Nat) (es ds : List D) | hs (i : Nat) (p : Bool) (v : V) (es ds : List D)
/-- the iterator yields what stands in ds, wherever C holds -/
def Runs (K : PySem.W.Frag) (J : It) (ds : List D) (C : Own → Hp → Prop) : Prop := ∀ o H, C o H → (∀ a l, o a = some l → Mt (H a)) →
  (∀ (i : Nat) d, ds[i]? = some d → J.go i H ∧ ∀ x H', J.yld i H x H' → Grow H H' ∧ Dat K o H' x d) ∧ J.stop ds.length H
def SrcOk (K : PySem.W.Frag) (J : It) (o : Own) (H : Hp) (σ : St) : Src → Prop
  | .fx ds => Runs K J ds fun o' H' => Le o H o' H'
  | .sl i es ds => ∃ v, σ[i]? = some (some v) ∧ Runs K J ds fun o' H' => ∃ l, IsM K o' H' l v (.ls es)
  | .hs i p v es ds => Runs K J ds fun o' H' => ∃ l, IsM K o' H' l v (.ls es)
abbrev TSrc := Env → (Src → Env → Prop) → Prop
def TIo (K : PySem.W.Frag) (c : Cc) (ti : TSrc) : TI := fun σ H R => ∃ o ρ τ Q, Rep K c o σ H ρ τ ∧ ti ρ Q ∧ ∀ J H' o' ρ' s, Le o H o' H' → Rep K c o' σ H' ρ' τ → SrcOk K J o' H' σ s → Q s ρ' → R J H'
def DI (X : Cx) (c : Cc) (tg iter : Expr) (ti : TSrc) : Prop := PI X tg iter (TIo X.K c ti)
theorem piImp {tg iter : Expr} {wi wi' : TI} (h : PI X tg iter wi) (f : ∀ σ H R, wi' σ H R → wi σ H R) : PI X tg iter wi' := ⟨fun pins s σ H R I q => h.run pins s σ H R I (f _ _ _ q)⟩
theorem PI.or {tg iter : Expr} {wi wi' : TI} (h : PI X tg iter wi) (h' : PI X tg iter wi') : PI X tg iter (fun σ H R => wi σ H R ∨ wi' σ H R) := ⟨fun pins s σ H R I q => by
  rcases q with q | q
  · exact h.run pins s σ H R I q
  · exact h'.run pins s σ H R I q⟩
theorem runs_list {ad : Addr} {ds : List D} {C : Own → Hp → Prop} (h : ∀ o H, C o H → ∃ xs, SqL K H ad xs ∧ Dats K o H xs ds) : Runs K (Itl K ad) ds C := fun o H hc mu => by
  obtain ⟨xs, h1, h2⟩ := h o H hc
  refine ⟨fun i d e => ?_, ⟨xs, h1, by rw [h2.length]; exact Nat.le_refl _⟩⟩
  obtain ⟨v, ev, dv⟩ := h2.get e
  refine ⟨⟨xs, v, h1, ev⟩, fun x H' y => ?_⟩
  obtain ⟨rfl, y⟩ := y
  have := y xs h1
  rw [ev] at this; cases this
  exact ⟨.refl, dv⟩
theorem runs_tup {ad : Addr} {xs : List V} {ds : List D} {C : Own → Hp → Prop} (h : ∀ o H, C o H → SqT K H ad xs ∧ Dats K o H xs ds) : Runs K (Itt K ad) ds C := fun o H hc mu => by
  obtain ⟨h1, h2⟩ := h o H hc
  refine ⟨fun i d e => ?_, ⟨xs, h1, by rw [h2.length]; exact Nat.le_refl _⟩⟩
  obtain ⟨v, ev, dv⟩ := h2.get e
  refine ⟨⟨xs, v, h1, ev⟩, fun x H' y => ?_⟩
  obtain ⟨rfl, y⟩ := y
  have := y xs h1
  rw [ev] at this; cases this
  exact ⟨.refl, dv⟩
/-- for .. in x: x data, a new list, a name's own list (which stays while it is walked), a list that is only read -/
def srcOf (r : R) (ρ : Env) (k : Src → Env → Prop) : Prop := match r with
  | .im (.tup ds) => k (.fx ds) ρ
  | .im (.lst ds) => k (.fx ds) ρ
  | .tm (.ls ds) => k (.fx ds) ρ
  | .sl i => match ρ[i]? with
    | some (.lo (.ls ds)) => k (.sl i ds ds) ρ
    | some (.pa (.ls ds)) => k (.sl i ds ds) ρ
    | some (.lo (.sq ds)) => k (.fx ds) ρ
    | some (.pa (.sq ds)) => k (.fx ds) ρ
    | some (.hd p v (.ls ds)) => k (.hs i p v ds ds) ρ
    | _ => False
  | .im (.str z) => k (.fx (z.cps.toList.map fun n => D.str ⟨#[n]⟩)) ρ
  | _ => False
def iAny (K : PySem.W.Frag) (tl : TE) : TI := fun σ H R => tl σ H fun x H1 => (∃ ad xs, x = .ref ad ∧ SqL K H1 ad xs ∧ R (Itl K ad) H1) ∨ (∃ ad xs, x = .ref ad ∧ SqT K H1 ad xs ∧ R (Itt K ad) H1) ∨ ∃ z, x = .str z ∧ R (Its z) H1
theorem pi_any {tg l : Expr} {tl : TE} (hl : PE X l tl) : PI X tg l (iAny X.K tl) := by
  constructor
  intro pins s σ H R I h
  refine thn (hl.run pins s σ H _ I h) ?_
  rintro v s1 ⟨x, H1, I1, r1, q⟩
  rcases q with ⟨ad, xs, rfl, hq, q⟩ | ⟨ad, xs, rfl, hq, q⟩ | ⟨z, rfl, q⟩
  · cases r1
    obtain ⟨its, rv, p, hz⟩ := I1.list hq
    exact wpAny_pyIter_list p.isList (pi_one (tk := s1.toks) I1 _ (turn_list ad _) ⟨_, Heap.get?_push_size _ rfl, rfl, rfl⟩ q)
  · cases r1
    obtain ⟨its, rv, p, hz⟩ := I1.tuple hq
    exact wpAny_pyIter_tuple (show s1.heap.IsTuple ad its.toArray from p) (pi_one (tk := s1.toks) I1 _ (turn_tuple ad _) ⟨_, Heap.get?_push_size _ rfl, rfl, rfl⟩ q)
  · obtain ⟨t, rfl⟩ := r1
    cases ha : z.cps.all (· < 128)
    · exact PySem.wpAny_pyIter_wide ha (pi_one (tk := s1.toks) I1 _ (turn_str _ z t "str_iterator" (.inr rfl)) ⟨_, Heap.get?_push_size _ rfl, rfl, rfl⟩ q)
    · exact PySem.wpAny_pyIter_ascii ha (pi_one (tk := s1.toks) I1 _ (turn_str _ z t "str_ascii_iterator" (.inl rfl)) ⟨_, Heap.get?_push_size _ rfl, rfl, rfl⟩ q)
def iSeq (t : TX) : TSrc := fun ρ k => t ρ fun r ρ1 => srcOf r ρ1 k
theorem runs_str {z : Str} {C : Own → Hp → Prop} : Runs K (Its z) (z.cps.toList.map fun n => D.str ⟨#[n]⟩) C := fun o H _ mu => by
  refine ⟨fun i d e => ?_, by show z.cps.size ≤ _; simp⟩
  rw [List.getElem?_map] at e
  cases q : z.cps.toList[i]? with
  | none => rw [q] at e; cases e
  | some n =>
    rw [q] at e; cases e
    have q2 : z.cps[i]? = some n := by simpa using q
    refine ⟨(Array.getElem?_eq_some_iff.mp q2).1, fun x H' y => ?_⟩
    obtain ⟨rfl, n', e', rfl⟩ := y
    rw [q2] at e'; cases e'
    exact ⟨.refl, .str _⟩
theorem src_ok {v : V} {r : R} {ti : Src → Env → Prop} {R' : It → Hp → Prop} (R1 : Rep K c o σ H ρ τ') (z : RelR K o H σ v r τ τ') (h : srcOf r ρ ti)
    (q : ∀ J o' s, Le o H o' H → Rep K c o' σ H ρ τ → SrcOk K J o' H σ s → ti s ρ → R' J H) :
    (∃ ad xs, v = .ref ad ∧ SqL K H ad xs ∧ R' (Itl K ad) H) ∨ (∃ ad xs, v = .ref ad ∧ SqT K H ad xs ∧ R' (Itt K ad) H) ∨ ∃ z, v = .str z ∧ R' (Its z) H := by
  unfold srcOf at h
  split at h
  · obtain ⟨rfl, z⟩ := z
    cases z with
    | tup t d => exact .inr (.inl ⟨_, _, rfl, t.sq, q _ o (.fx _) .refl R1 (runs_tup fun o' H' L => ⟨(t.mono L).sq, d.mono L⟩) h⟩)
  · obtain ⟨rfl, z⟩ := z
    cases z with
    | lst a b d => exact .inl ⟨_, _, rfl, SqL.of b, q _ o (.fx _) .refl R1 (runs_list fun o' H' L => ⟨_, SqL.of (L.keep _ _ a b).2, d.mono L⟩) h⟩
  · have z : τ' = τ ++ [(v, _)] := z
    subst z
    obtain ⟨a, xs, rfl, ho, hH, d⟩ := (R1.tm τ.length _ _ (by rw [List.getElem?_append_right (Nat.le_refl _), Nat.sub_self]; rfl)).1
    have R2 := R1.drop (List.prefix_append τ _)
    have e : dropT τ.length o a = none := by unfold dropT; rw [ho]; show (if τ.length < τ.length then _ else none) = none; rw [if_neg (Nat.lt_irrefl _)]
    exact .inl ⟨_, _, rfl, SqL.of hH, q _ _ (.fx _) (dropT_le _) R2 (runs_list fun o' H' L => ⟨_, SqL.of (L.keep _ _ e hH).2, (d.mono (dropT_le τ.length)).mono L⟩) h⟩
  · obtain ⟨rfl, z⟩ := z
    split at h
    · rename_i ds e
      obtain ⟨w, e1, a, xs, rfl, ho, hH, d⟩ := R1.sl _ _ e
      rw [z] at e1; cases e1
      refine .inl ⟨_, _, rfl, SqL.of hH, q _ o (.sl _ ds ds) .refl R1 ⟨_, z, runs_list fun o' H' ⟨l, b, ys, e2, h1, h2, h3⟩ => ?_⟩ h⟩
      cases e2; exact ⟨ys, SqL.of h2, h3⟩
    · rename_i ds e
      obtain ⟨w, e1, _, a, xs, rfl, ho, hH, d⟩ := R1.sl _ _ e
      rw [z] at e1; cases e1
      refine .inl ⟨_, _, rfl, SqL.of hH, q _ o (.sl _ ds ds) .refl R1 ⟨_, z, runs_list fun o' H' ⟨l, b, ys, e2, h1, h2, h3⟩ => ?_⟩ h⟩
      cases e2; exact ⟨ys, SqL.of h2, h3⟩
    · rename_i ds e
      obtain ⟨w, e1, a, xs, rfl, hl, d⟩ := R1.sl _ _ e
      rw [z] at e1; cases e1
      exact .inl ⟨_, _, rfl, hl.sq, q _ o (.fx _) .refl R1 (runs_list fun o' H' L => ⟨_, (hl.mono L).sq, d.mono L⟩) h⟩
    · rename_i ds e
      obtain ⟨w, e1, _, a, xs, rfl, hl, d⟩ := R1.sl _ _ e
      rw [z] at e1; cases e1
      exact .inl ⟨_, _, rfl, hl.sq, q _ o (.fx _) .refl R1 (runs_list fun o' H' L => ⟨_, (hl.mono L).sq, d.mono L⟩) h⟩
    · rename_i p v0 ds e
      obtain ⟨e1, _, a, xs, rfl, ho, hH, d⟩ := R1.sl _ _ e
      rw [z] at e1; cases e1
      refine .inl ⟨_, _, rfl, SqL.of hH, q _ o (.hs _ p _ ds ds) .refl R1 (runs_list fun o' H' ⟨l, b, ys, e2, h1, h2, h3⟩ => ?_) h⟩
      cases e2; exact ⟨ys, SqL.of h2, h3⟩
    · exact h.elim
  · obtain ⟨rfl, z⟩ := z
    cases z
    exact .inr (.inr ⟨_, rfl, q _ o (.fx _) .refl R1 runs_str h⟩)
  · exact h.elim
theorem di_seq {tg : Expr} (h : DE X c e t) : DI X c tg e (iSeq t) := piImp (pi_any h) fun σ H R hh => by
  obtain ⟨o, ρ, τ, Q, R0, hh, q⟩ := hh
  exact ⟨o, ρ, τ, _, R0, hh, fun v1 H1 o1 r1 ρ1 τ1 L1 R1 z1 h1 => src_ok R1 z1 h1 fun J o' s L R' ok hs => q J H1 o' ρ1 s (L1.trans L) R' ok hs⟩

/-! ### range -/
def gRng (lo : Int) (n : Nat) : List D := (List.range n).map fun (i : Nat) => D.int (lo + (i : Int))
theorem runs_rng {lo : Int} {n : Nat} {C : Own → Hp → Prop} : Runs K (Itr lo n) (gRng lo n) C := fun o H _ mu => by
  refine ⟨fun i d e => ?_, by show n ≤ _; simp [gRng]⟩
  unfold gRng at e
  rw [List.getElem?_map] at e
  by_cases hi : i < n
  · rw [List.getElem?_range hi] at e
    cases e
    refine ⟨hi, fun x H' y => ?_⟩
    obtain ⟨rfl, rfl⟩ := y
    exact ⟨.refl, .int _⟩
  · rw [List.getElem?_eq_none (by simpa using hi)] at e; cases e
def iRg1 (ta : TL) : TSrc := fun ρ k => ta ρ fun rs ρ1 => match rs with
  | [.im (.int j)] => j < 2 ^ 62 ∧ -(2 ^ 62) ≤ j ∧ k (.fx (gRng 0 j.toNat)) ρ1
  | _ => False
def iRg2 (ta : TL) : TSrc := fun ρ k => ta ρ fun rs ρ1 => match rs with
  | [.im (.int i), .im (.int j)] => (-(2 ^ 62) ≤ i ∧ i < 2 ^ 62 ∧ -(2 ^ 62) ≤ j ∧ j < 2 ^ 62) ∧ k (.fx (gRng i (j - i).toNat)) ρ1
  | _ => False
section
variable {tg : Expr} {p : Pos} {tl : TL}
theorem di_rng1 (hg : Gl X "range") (hm : X.mg "range" = none) (ha : DA X c [a] tl) (hs : starEach [a] X.env = [(false, eval a X.env)] := by rfl) : DI X c tg (.Call (.Name "range" p) [a] [] pos) (iRg1 tl) :=
  piImp (pi_range1 hg hm ha hs) fun σ H R hh => by
    obtain ⟨o, ρ, τ, Q, R0, hh, q⟩ := hh
    refine ⟨o, ρ, τ, _, R0, hh, fun vs H1 o1 rs ρ1 τ1 L1 R1 z1 h1 => ?_⟩
    split at h1
    · cases z1 with
      | cons z t =>
        cases t
        obtain ⟨rfl, z⟩ := z
        cases z
        exact ⟨_, rfl, h1.2.1, h1.1, q _ H1 o1 ρ1 (.fx _) L1 R1 runs_rng h1.2.2⟩
    · exact h1.elim
theorem di_rng2 (hg : Gl X "range") (hm : X.mg "range" = none) (ha : DA X c [a, b] tl) (hs : starEach [a, b] X.env = [(false, eval a X.env), (false, eval b X.env)] := by rfl) (hs2 : starEach [b] X.env = [(false, eval b X.env)] := by rfl) :
    DI X c tg (.Call (.Name "range" p) [a, b] [] pos) (iRg2 tl) :=
  piImp (pi_range2 hg hm ha hs hs2) fun σ H R hh => by
    obtain ⟨o, ρ, τ, Q, R0, hh, q⟩ := hh
    refine ⟨o, ρ, τ, _, R0, hh, fun vs H1 o1 rs ρ1 τ1 L1 R1 z1 h1 => ?_⟩
    split at h1
    · cases z1 with
      | cons z t =>
        cases t with
        | cons z2 t2 =>
          cases t2
          obtain ⟨rfl, z⟩ := z
          obtain ⟨rfl, z2⟩ := z2
          cases z
          cases z2
          exact ⟨_, _, rfl, h1.1, q _ H1 o1 ρ1 (.fx _) L1 R1 runs_rng h1.2⟩
    · exact h1.elim
end
end
end Y
namespace Y
open PySem PySem.Spec L2

section
variable {K : PySem.W.Frag} {c : Cc} {o o' : Own} {σ σ' : St} {H H' : Hp} {ρ ρ' : Env} {τ τ' τ0 τ1 : List (V × M)} {X : Cx} {e a b : Expr} {es : List Expr} {pos : Pos} {t u : TX} {P : EndP} {D' : Ends}
/-! ### for -/
/-- the turns over ds; gd: what holds between two turns -/
def loopS (b : Bd) (t : TSX) (gd : Env → Prop) (P : EndP) : List D → Env → Prop
  | [], ρ => gd ρ ∧ P.nx ρ
  | d :: ds, ρ => gd ρ ∧ bnd b d ρ fun ρ1 => t { P with nx := loopS b t gd P ds, ct := loopS b t gd P ds, bk := P.nx } ρ1
theorem loop_ok {J : It} {ds : List D} {bd : Bd} {t : TSX} {gd : Env → Prop} {C : Own → Hp → Prop} {o1 : Own} {H1 : Hp} (hr : Runs K J ds C) (hc : ∀ o' σ' H' ρ', Le o1 H1 o' H' → Rep K c o' σ' H' ρ' [] → gd ρ' → C o' H')
    (R0 : Rep K c o1 σ H1 ρ []) (w : Ways K c o1 H1 P D') (h : loopS bd t gd P ds ρ) :
    ∃ W : Nat → Nat → St → Hp → Prop, (∃ m, W 0 m σ H1) ∧ ∀ i m σ H, W i m σ H →
      (J.stop i H ∧ D'.nx σ H) ∨ (J.go i H ∧ ∃ N : St → Hp → Prop, (∀ σ' H', N σ' H' → ∃ m', m' < m ∧ W (i + 1) m' σ' H') ∧ ∀ x H', J.yld i H x H' → bd.tg K x σ H' fun σ2 H2 => TSo K c t { D' with nx := N, ct := N, bk := D'.nx } σ2 H2) := by
  refine ⟨fun i m σ H => m = ds.length - i ∧ i ≤ ds.length ∧ ∃ o ρ, Le o1 H1 o H ∧ Rep K c o σ H ρ [] ∧ loopS bd t gd P (ds.drop i) ρ, ⟨ds.length, by simp, Nat.zero_le _, o1, ρ, .refl, R0, by simpa using h⟩, ?_⟩
  rintro i m σ H ⟨rfl, hi, o, ρ, L, R, h⟩
  by_cases hlt : i < ds.length
  · have e : ds.drop i = ds[i] :: ds.drop (i + 1) := List.drop_eq_getElem_cons hlt
    rw [e] at h
    obtain ⟨hg, h⟩ := h
    obtain ⟨go, yl⟩ := (hr o H (hc o σ H ρ L R hg) R.mu).1 i ds[i] (by simp [hlt])
    refine .inr ⟨go, fun σ' H' => ∃ o' ρ', Le o1 H1 o' H' ∧ Rep K c o' σ' H' ρ' [] ∧ loopS bd t gd P (ds.drop (i + 1)) ρ', fun σ' H' ⟨o', ρ', L', R', h'⟩ => ⟨ds.length - (i + 1), by omega, rfl, hlt, o', ρ', L', R', h'⟩, fun x H' y => ?_⟩
    obtain ⟨g, dx⟩ := yl x H' y
    refine bnd_ok (R.grow g) dx h fun σ' ρ' R' _ hf => ?_
    have L2 : Le o1 H1 o H' := L.trans (g.le R.mu)
    refine ⟨o, ρ', _, R', hf, ⟨fun σ2 H2 o2 ρ2 L3 R3 q => ⟨o2, ρ2, L2.trans L3, R3, q⟩, w.rt.le L2, ?_, fun σ2 H2 o2 ρ2 L3 R3 q => ⟨o2, ρ2, L2.trans L3, R3, q⟩⟩⟩
    exact w.nx.le L2
  · have e : i = ds.length := by omega
    subst e
    rw [List.drop_length] at h
    exact .inl ⟨(hr o H (hc o σ H ρ L R h.1) R.mu).2, w.nx σ H o ρ L R h.2⟩
def Sl.isP : Sl → Bool
  | .pa _ => true
  | _ => false
/-- the slot's object is walked: it is read, not changed -/
theorem Rep.hide (R0 : Rep K c o σ H ρ τ) {i : Nat} {s : Sl} {m : M} (e : ρ[i]? = some s) (em : s.m! = some m) : ∃ v, σ[i]? = some (some v) ∧ Rep K c (relL (.s i) (.h i) o) σ H (ρ.set i (.hd s.isP v m)) τ := by
  have L : Le o H (relL (.s i) (.h i) o) H := relL_le (by intro z; cases z)
  have k := R0.sl i s e
  have R1 := R0.move i (.h i)
  have go : ∀ (p : Bool) (v : V), σ[i]? = some (some v) → (p = true → c.pv[i]? = some v) → IsM K o H (.s i) v m → Rep K c (relL (.s i) (.h i) o) σ H (ρ.set i (.hd p v m)) τ := fun p v hv hp q => by
    refine ⟨fun j s' z => ?_, R1.tm, R1.mu, R1.le, by rw [List.length_set]; exact R0.ln⟩
    by_cases hj : i = j
    · subst hj
      rw [List.getElem?_set_self (List.getElem?_eq_some_iff.mp e).1] at z; cases z
      exact ⟨hv, hp, q.mono L fun a y => ⟨relL_same y, rfl⟩⟩
    · rw [List.getElem?_set_ne hj] at z
      exact R1.sl j s' (by rw [List.getElem?_set_ne hj]; exact z)
  cases s with
  | no => cases em
  | lo z => cases em; obtain ⟨v, hv, q⟩ := k; exact ⟨v, hv, go false v hv (fun z => by cases z) q⟩
  | pa z => cases em; obtain ⟨v, hv, hp, q⟩ := k; exact ⟨v, hv, go true v hv (fun _ => hp) q⟩
  | hd p v z => cases em
/-- .. no more -/
theorem Rep.unhide (R0 : Rep K c o σ H ρ τ) {i : Nat} {p : Bool} {v : V} {m : M} (e : ρ[i]? = some (.hd p v m)) : Rep K c (relL (.h i) (.s i) o) σ H (ρ.set i (if p then .pa m else .lo m)) τ ∧ Le o H (relL (.h i) (.s i) o) H := by
  have L : Le o H (relL (.h i) (.s i) o) H := relL_le (by intro z; cases z)
  obtain ⟨hv, hp, q⟩ := R0.sl i _ e
  refine ⟨⟨fun j s' z => ?_, fun j w m' z => ⟨(R0.tm j w m' z).1.mono L fun a q => ⟨relL_other (by intro z; cases z) q, rfl⟩, (R0.tm j w m' z).2⟩, relL_mu R0.mu, R0.le.trans L, by rw [List.length_set]; exact R0.ln⟩, L⟩
  by_cases hj : i = j
  · subst hj
    rw [List.getElem?_set_self (List.getElem?_eq_some_iff.mp e).1] at z; cases z
    have q' : IsM K (relL (.h i) (.s i) o) H (.s i) v m := q.mono L fun a y => ⟨relL_same y, rfl⟩
    cases p with
    | true => exact ⟨v, hv, hp rfl, q'⟩
    | false => exact ⟨v, hv, q'⟩
  · rw [List.getElem?_set_ne hj] at z
    exact (R0.sl j s' z).mono L (fun a q => ⟨relL_other (by intro z; cases z) q, rfl⟩) fun a q => ⟨relL_other (by intro z; injection z with z; exact hj z.symm) q, rfl⟩
def backS (i : Nat) (s : Sl) (v : V) (m : M) (f : Env → Prop) : Env → Prop := fun ρ => ρ[i]? = some (.hd s.isP v m) ∧ f (ρ.set i s)
def sFor (ti : TSrc) (b : Bd) (t : TSX) : TSX := fun P ρ => ti ρ fun src ρ1 => match src with
  | .fx ds => loopS b t (fun _ => True) P ds ρ1
  | .sl i es ds => match ρ1[i]? with
    | some s => match s.m! with
      | some m => m = .ls es ∧ ∀ v, loopS b t (fun ρ => ρ[i]? = some (.hd s.isP v m)) { P with nx := backS i s v m P.nx } ds (ρ1.set i (.hd s.isP v m))
      | none => False
    | none => False
  | .hs i p v es ds => loopS b t (fun ρ => ρ[i]? = some (.hd p v (.ls es))) P ds ρ1
theorem ds_for {tg iter : Expr} {body : List Stmt} {ti : TSrc} {bd : Bd} {t : TSX} (hp : PassesOwn (model X.prog X.w) X.A X.env X.xe) (hc : X.calm = true) (hi : DI X c tg iter ti) (hg : PG X tg (bd.tg X.K)) (hb : DSs X c body t)
    (hs : ∀ x, foldedSetIterable iter X.env x = pure x := by intro _; rfl) : DS X c (.For tg iter body [] pos) (sFor ti bd t) :=
  psImp (ps_for hp hc hi hg hb hs) fun D σ H h => by
    obtain ⟨o, ρ, P, R0, h, w⟩ := h
    refine ⟨o, ρ, [], _, R0, h, fun J H1 o1 ρ1 src L1 R1 ok h1 => ?_⟩
    cases src with
    | fx ds =>
      exact loop_ok (C := fun o' H' => Le o1 H1 o' H') ok (fun o' σ' H' ρ' L R _ => L) R1 (w.le L1) h1
    | sl i es ds =>
      obtain ⟨v0, hv0, ok⟩ := ok
      have h1 : (match ρ1[i]? with
        | some s => match s.m! with
          | some m => m = .ls es ∧ ∀ v, loopS bd t (fun ρ => ρ[i]? = some (.hd s.isP v m)) { P with nx := backS i s v m P.nx } ds (ρ1.set i (.hd s.isP v m))
          | none => False
        | none => False) := h1
      split at h1
      · rename_i s e
        split at h1
        · rename_i m em
          obtain ⟨rfl, h1⟩ := h1
          obtain ⟨v, hv, R2⟩ := R1.hide e em
          rw [hv0] at hv; cases hv
          have L2 : Le o1 H1 (relL (.s i) (.h i) o1) H1 := relL_le (by intro z; cases z)
          refine loop_ok (P := { P with nx := backS i s v0 (.ls es) P.nx }) (C := fun o' H' => ∃ l, IsM X.K o' H' l v0 (.ls es)) ok (fun o' σ' H' ρ' L R g => ?_) R2 ⟨fun σ' H' o' ρ' L R q => ?_, (w.le (L1.trans L2)).rt, (w.le (L1.trans L2)).bk, (w.le (L1.trans L2)).ct⟩ (h1 v0)
          · obtain ⟨_, _, q⟩ := R.sl i _ g
            exact ⟨_, q⟩
          · obtain ⟨q1, q2⟩ := q
            obtain ⟨R3, L3⟩ := R.unhide q1
            refine w.nx σ' H' _ _ (L1.trans (L2.trans (L.trans L3))) R3 ?_
            cases s with
            | pa z => cases em; exact q2
            | lo z => cases em; exact q2
            | no => cases em
            | hd _ _ _ => cases em
        · exact h1.elim
      · exact h1.elim
    | hs i p v es ds =>
      refine loop_ok (C := fun o' H' => ∃ l, IsM X.K o' H' l v (.ls es)) ok (fun o' σ' H' ρ' L R g => ?_) R1 (w.le L1) h1
      obtain ⟨_, _, q⟩ := R.sl i _ g
      exact ⟨_, q⟩

/-! ### while -/
def whileS (q : TQ) (t : TSX) (P : EndP) : Nat → Env → Prop
  | 0, _ => False
  | n + 1, ρ => q ρ fun b ρ1 => if b = true then t { P with nx := whileS q t P n, ct := whileS q t P n, bk := P.nx } ρ1 else P.nx ρ1
def sWhile (q : TQ) (t : TSX) : TSX := fun P ρ => ∃ n, whileS q t P n ρ
theorem ds_while {cond : Expr} {body : List Stmt} {q : TQ} {t : TSX} (hp : PassesOwn (model X.prog X.w) X.A X.env X.xe) (hc : DT X c cond q) (hb : DSs X c body t) : DS X c (.While cond body [] pos) (sWhile q t) :=
  psImp (ps_while hp hc hb) fun D σ H h => by
    obtain ⟨o, ρ, P, R0, ⟨n, h⟩, w⟩ := h
    refine ⟨fun m σ' H' => ∃ o' ρ', Le o H o' H' ∧ Rep X.K c o' σ' H' ρ' [] ∧ whileS q t P m ρ', ⟨n, o, ρ, .refl, R0, h⟩, fun m σ' H' ⟨o', ρ', L, R, h⟩ => ?_⟩
    cases m with
    | zero => exact h.elim
    | succ m =>
      refine ⟨o', ρ', [], _, R, h, fun b H2 o2 ρ2 L2 R2 h2 => ?_⟩
      cases b with
      | false => exact w.nx σ' H2 o2 ρ2 (L.trans L2) R2 h2
      | true =>
        refine ⟨fun σ3 H3 => ∃ o3 ρ3, Le o H o3 H3 ∧ Rep X.K c o3 σ3 H3 ρ3 [] ∧ whileS q t P m ρ3, fun σ3 H3 h3 => ⟨m, Nat.lt_succ_self _, h3⟩, ?_⟩
        have L3 := L.trans L2
        exact ⟨o2, ρ2, _, R2, h2, ⟨fun σ3 H3 o3 ρ3 L4 R4 q => ⟨o3, ρ3, L3.trans L4, R4, q⟩, w.rt.le L3, w.nx.le L3, fun σ3 H3 o3 ρ3 L4 R4 q => ⟨o3, ρ3, L3.trans L4, R4, q⟩⟩⟩

/-! ### a, b = e -/
def sUnp (b : Bd) (t : TX) : TSX := fun P ρ => t ρ fun r ρ1 => match r with
  | .im d => bnd b d ρ1 P.nx
  | _ => False
theorem ds_unp {tg : Expr} {bd : Bd} (h : DE X c e t) (hg : PG X tg (bd.tg X.K)) (hs : swapsWithSole [tg] e pos.line X.env = pure false := by rfl) (hw : swappedStores [tg] e X.env = pure none := by rfl)
    (h1 : (assignEach [tg] X.env).map (·.2) = [assign tg X.env] := by rfl) : DS X c (.Assign [tg] e pos) (sUnp bd t) :=
  psImp (ps_asg h hg hs hw h1) fun D σ H h => by
    obtain ⟨o, ρ, P, R0, h, w⟩ := h
    refine ⟨o, ρ, [], _, R0, h, fun v H1 o1 r1 ρ1 τ1 L1 R1 z1 h1 => ?_⟩
    split at h1
    · obtain ⟨rfl, z⟩ := z1
      exact bnd_ok R1 z h1 fun σ' ρ' R _ hf => w.nx σ' H1 o1 ρ' L1 R hf
    · exact h1.elim
end
end Y
namespace Y
open PySem PySem.Spec L2

section
variable {K : PySem.W.Frag} {c : Cc} {o o' : Own} {σ σ' : St} {H H' : Hp} {ρ ρ' : Env} {τ τ' τ0 τ1 : List (V × M)} {X : Cx} {e a b : Expr} {es : List Expr} {pos : Pos} {t u : TX} {P : EndP} {D' : Ends}
/-! ### comprehensions -/
def wipeE (ρ : Env) : List Nat → Env
  | [] => ρ
  | v :: vs => (wipeE ρ vs).set v .no
def keepS : Option Sl → Sl
  | some (.lo (.im d)) => .lo (.im d)
  | some (.pa (.im d)) => .pa (.im d)
  | _ => .no
def restE (ρ0 ρ : Env) : List Nat → Env
  | [] => ρ
  | v :: vs => (restE ρ0 ρ vs).set v (keepS ρ0[v]?)
theorem wipe_idem {vs : List Nat} : wipe (wipe σ vs) vs = wipe σ vs := by
  apply List.ext_getElem?
  intro j
  by_cases hj : j ∈ vs
  · by_cases hl : j < σ.length
    · rw [wipe_at hj hl, wipe_at hj (by rw [wipe_length]; exact hl)]
    · rw [List.getElem?_eq_none (by rw [wipe_length, wipe_length]; omega), List.getElem?_eq_none (by rw [wipe_length]; omega)]
  · rw [wipe_out hj]
theorem wipeE_length : ∀ vs : List Nat, (wipeE ρ vs).length = ρ.length
  | [] => rfl
  | v :: vs => by unfold wipeE; rw [List.length_set, wipeE_length vs]
theorem wipeE_at {i : Nat} {s : Sl} : ∀ {vs : List Nat}, (wipeE ρ vs)[i]? = some s → s = .no ∨ (i ∉ vs ∧ ρ[i]? = some s)
  | [], h => .inr ⟨by simp, h⟩
  | v :: vs, h => by
    unfold wipeE at h
    by_cases hi : v = i
    · subst hi
      by_cases hv : v < (wipeE ρ vs).length
      · rw [List.getElem?_set_self hv] at h; cases h; exact .inl rfl
      · rw [List.getElem?_eq_none (by simpa using hv)] at h; cases h
    · rw [List.getElem?_set_ne hi] at h
      rcases wipeE_at h with q | ⟨q1, q2⟩
      · exact .inl q
      · exact .inr ⟨by simp only [List.mem_cons, not_or]; exact ⟨fun z => hi z.symm, q1⟩, q2⟩
theorem SlOk.st {i : Nat} (h : σ'[i]? = σ[i]?) : ∀ {s : Sl}, SlOk K c o σ H i s → SlOk K c o σ' H i s
  | .no, _ => trivial
  | .lo _, ⟨v, e, q⟩ => ⟨v, h.trans e, q⟩
  | .pa _, ⟨v, e, f, q⟩ => ⟨v, h.trans e, f, q⟩
  | .hd _ _ _, ⟨e, f, q⟩ => ⟨h.trans e, f, q⟩
theorem Rep.wipe (R0 : Rep K c o σ H ρ τ) (vs : List Nat) : Rep K c o (L2.wipe σ vs) H (wipeE ρ vs) τ :=
  ⟨fun i s e => by
    rcases wipeE_at e with rfl | ⟨hi, e⟩
    · exact trivial
    · exact (R0.sl i s e).st (wipe_out hi), R0.tm, R0.mu, R0.le, by rw [wipeE_length, wipe_length]; exact R0.ln⟩
theorem SlOk.unwipe {vs : List Nat} {i : Nat} : ∀ {s : Sl}, SlOk K c o (L2.wipe σ vs) H i s → SlOk K c o σ H i s
  | .no, _ => trivial
  | .lo _, ⟨v, e, q⟩ => ⟨v, (wipe_some e).1, q⟩
  | .pa _, ⟨v, e, f, q⟩ => ⟨v, (wipe_some e).1, f, q⟩
  | .hd _ _ _, ⟨e, f, q⟩ => ⟨(wipe_some e).1, f, q⟩
theorem Rep.setS (R0 : Rep K c o σ H ρ τ) {i : Nat} {s : Sl} (h : SlOk K c o σ H i s) : Rep K c o σ H (ρ.set i s) τ := by
  refine ⟨fun j s' z => ?_, R0.tm, R0.mu, R0.le, by rw [List.length_set]; exact R0.ln⟩
  by_cases hj : i = j
  · subst hj
    by_cases hl : i < ρ.length
    · rw [List.getElem?_set_self hl] at z; cases z; exact h
    · rw [List.getElem?_eq_none (by simpa using hl)] at z; cases z
  · rw [List.getElem?_set_ne hj] at z
    exact R0.sl j s' z
theorem keepS_ok {ρ0 : Env} {o0 : Own} {H0 : Hp} {τ2 : List (V × M)} (R0 : Rep K c o0 σ H0 ρ0 τ2) (L : Le o0 H0 o H) (v : Nat) : SlOk K c o σ H v (keepS ρ0[v]?) := by
  unfold keepS
  split
  · rename_i d e
    obtain ⟨w, e1, q⟩ := R0.sl v _ e
    exact ⟨w, e1, Dat.mono L q⟩
  · rename_i d e
    obtain ⟨w, e1, e2, q⟩ := R0.sl v _ e
    exact ⟨w, e1, e2, Dat.mono L q⟩
  · exact trivial
theorem Rep.rest {ρ0 : Env} {o0 : Own} {H0 : Hp} {τ2 : List (V × M)} (R0 : Rep K c o0 σ H0 ρ0 τ2) (L : Le o0 H0 o H) {vs : List Nat} (R : Rep K c o (L2.wipe σ vs) H ρ τ) : Rep K c o σ H (restE ρ0 ρ vs) τ := by
  have R1 : Rep K c o σ H ρ τ := ⟨fun i s e => (R.sl i s e).unwipe, R.tm, R.mu, R.le, by rw [R.ln, wipe_length]⟩
  clear R
  have all : ∀ ws : List Nat, Rep K c o σ H (restE ρ0 ρ ws) τ := by
    intro ws
    induction ws with
    | nil => exact R1
    | cons v ws ih => exact ih.setS (keepS_ok R0 L v)
  exact all vs
theorem rest_out {ρ0 : Env} {i : Nat} : ∀ {vs : List Nat}, i ∉ vs → (restE ρ0 ρ vs)[i]? = ρ[i]?
  | [], _ => rfl
  | v :: vs, h => by
    unfold restE
    rw [List.getElem?_set_ne (fun z => h (by rw [z]; exact List.mem_cons_self)), rest_out fun z => h (List.mem_cons_of_mem _ z)]
/-- the last temporary is changed -/
theorem Rep.setT {a : Addr} {m m' : M} {u : HO} (R0 : Rep K c o σ H ρ (τ ++ [(.ref a, m)])) (ho : o a = some (.t τ.length)) (hu : Mt (some u)) (hm : m'.own = true) (h : IsM K o (upd H a u) (.t τ.length) (.ref a) m') :
    Rep K c o σ (upd H a u) ρ (τ ++ [(.ref a, m')]) ∧ Le o H o (upd H a u) := by
  have ne : ∀ b l, o b = some l → l ≠ .t τ.length → b ≠ a := fun b l q z w => by subst w; rw [ho] at q; cases q; exact z rfl
  have L : Le o H o (upd H a u) := Le.mk' (fun b w q f => ⟨q, by rw [upd_ne (fun z => by subst z; rw [ho] at q; cases q)]; exact f⟩) (fun b q => ⟨q, upd_ne (ne b _ q (by intro z; cases z))⟩) fun b _ q => ⟨q, upd_ne (ne b _ q (by intro z; cases z))⟩
  have kp : ∀ l, l ≠ .t τ.length → ∀ b, o b = some l → o b = some l ∧ upd H a u b = H b := fun l z b q => ⟨q, upd_ne (ne b l q z)⟩
  refine ⟨⟨fun j s' q => (R0.sl j s' q).mono L (kp _ (by intro z; cases z)) (kp _ (by intro z; cases z)), fun j v m2 q => ?_, fun b l q => ?_, R0.le.trans L, R0.ln⟩, L⟩
  · by_cases hj : j < τ.length
    · rw [List.getElem?_append_left hj] at q
      have k := R0.tm j v m2 (by rw [List.getElem?_append_left hj]; exact q)
      exact ⟨k.1.mono L (kp _ (by intro z; injection z with z; omega)), k.2⟩
    · rw [List.getElem?_append_right (by omega)] at q
      have e0 : j - τ.length = 0 := by
        cases e : j - τ.length with
        | zero => rfl
        | succ n => rw [e] at q; simp at q
      rw [e0] at q
      have e2 : j = τ.length := by omega
      subst e2
      simp at q
      obtain ⟨rfl, rfl⟩ := q
      exact ⟨h, hm⟩
  · by_cases z : b = a
    · subst z; rw [upd_same]; exact hu
    · rw [upd_ne z]; exact R0.mu b l q
def compL (b : Bd) (tq : TQ) (te : TX) (vs : List Nat) (gd : Env → Prop) (k : List D → Env → Prop) : List D → List D → Env → Prop
  | [], acc, ρ => gd ρ ∧ k acc ρ
  | d :: ds, acc, ρ => gd ρ ∧ bnd b d ρ fun ρ1 => tq ρ1 fun ok ρ2 =>
    if ok = true then tFrz (lCons te lNil) (fun xs ρ3 => match xs with
      | [x] => acc.length < sizeLine ∧ compL b tq te vs gd k ds (acc ++ [x]) (wipeE ρ3 vs)
      | _ => False) ρ2
    else compL b tq te vs gd k ds acc (wipeE ρ2 vs)
theorem comp_ok {J : It} {ds : List D} {bd : Bd} {tq : TQ} {te : TX} {vs : List Nat} {gd : Env → Prop} {k : List D → Env → Prop} {C : Own → Hp → Prop} {o1 : Own} {H1 : Hp} {Qd : Hp → Prop} {L : Addr} {acc0 : List D} (hr : Runs K J ds C) (hvs : ∀ i ∈ bd.slots, i ∈ vs)
    (hc : ∀ o' H' ρ' τ', Le o1 H1 o' H' → Rep K c o' (L2.wipe σ vs) H' ρ' τ' → gd ρ' → C o' H') (R0 : Rep K c o1 (L2.wipe σ vs) H1 ρ (τ ++ [(.ref L, .ls acc0)]))
    (h : compL bd tq te vs gd k ds acc0 ρ)
    (q : ∀ o' H' ρ' acc, Le o1 H1 o' H' → Rep K c o' (L2.wipe σ vs) H' ρ' (τ ++ [(.ref L, .ls acc)]) → gd ρ' → k acc ρ' → Qd H') :
    ∃ W : Nat → Nat → Hp → Prop, (∃ m, W 0 m H1) ∧ ∀ i m H, W i m H →
      (J.stop i H ∧ Qd H) ∨ (J.go i H ∧ ∃ Nx : Hp → Prop, (∀ H', Nx H' → ∃ m', m' < m ∧ W (i + 1) m' H') ∧ ∀ x H', J.yld i H x H' → bd.tg K x (L2.wipe σ vs) H' fun σ2 H2 => L2.wipe σ2 vs = L2.wipe σ vs ∧
        TTo K c tq σ2 H2 fun b H3 => if b = true then TEo K c te σ2 H3 fun y H4 => ∃ acc, H4 L = some (.lst acc) ∧ acc.length < sizeLine ∧ Nx (upd H4 L (.lst (acc ++ [y]))) else Nx H3) := by
  refine ⟨fun i m H => m = ds.length - i ∧ i ≤ ds.length ∧ ∃ o ρ acc, Le o1 H1 o H ∧ Rep K c o (L2.wipe σ vs) H ρ (τ ++ [(.ref L, .ls acc)]) ∧ compL bd tq te vs gd k (ds.drop i) acc ρ,
    ⟨ds.length, by simp, Nat.zero_le _, o1, ρ, acc0, .refl, R0, by simpa using h⟩, ?_⟩
  rintro i m H ⟨rfl, hi, o, ρ, acc, Lo, R, h⟩
  by_cases hlt : i < ds.length
  · have e : ds.drop i = ds[i] :: ds.drop (i + 1) := List.drop_eq_getElem_cons hlt
    rw [e] at h
    obtain ⟨hg, h⟩ := h
    obtain ⟨go, yl⟩ := (hr o H (hc o H ρ _ Lo R hg) R.mu).1 i ds[i] (by simp [hlt])
    refine .inr ⟨go, fun H' => ∃ o' ρ' acc', Le o1 H1 o' H' ∧ Rep K c o' (L2.wipe σ vs) H' ρ' (τ ++ [(.ref L, .ls acc')]) ∧ compL bd tq te vs gd k (ds.drop (i + 1)) acc' ρ',
      fun H' ⟨o', ρ', acc', L', R', h'⟩ => ⟨ds.length - (i + 1), by omega, rfl, hlt, o', ρ', acc', L', R', h'⟩, fun x H' y => ?_⟩
    obtain ⟨g, dx⟩ := yl x H' y
    refine bnd_ok (R.grow g) dx h fun σ' ρ' R' hw hf => ?_
    have hw' : L2.wipe σ' vs = L2.wipe σ vs := by rw [hw vs hvs, wipe_idem]
    have L2' : Le o1 H1 o H' := Lo.trans (g.le R.mu)
    refine ⟨hw', o, ρ', _, _, R', hf, fun b H3 o3 ρ3 L3 R3 h3 => ?_⟩
    cases b with
    | false =>
      have R4 := R3.wipe vs
      rw [hw'] at R4
      exact ⟨o3, _, acc, L2'.trans L3, R4, h3⟩
    | true =>
      rw [if_pos rfl]
      refine frz1 R3 h3 fun y H4 o4 d ρ4 L4 R4 dy h4 => ?_
      obtain ⟨h5, h4⟩ := (show acc.length < sizeLine ∧ compL bd tq te vs gd k (ds.drop (i + 1)) (acc ++ [d]) (wipeE ρ4 vs) from h4)
      obtain ⟨⟨ad, xs, e1, e2, e3, e4⟩, _⟩ := R4.tm τ.length (.ref L) (.ls acc) (by simp)
      cases e1
      have Lm : Le o4 H4 o4 (upd H4 L (.lst (xs ++ [y]))) :=
        .mk' (fun b w qq f => ⟨qq, by rw [upd_ne (fun z => by subst z; rw [e2] at qq; cases qq)]; exact f⟩) (fun b qq => ⟨qq, upd_ne (fun z => by subst z; rw [e2] at qq; cases qq)⟩) fun b _ qq => ⟨qq, upd_ne (fun z => by subst z; rw [e2] at qq; cases qq)⟩
      obtain ⟨R5, L5⟩ := R4.setT (m' := .ls (acc ++ [d])) (u := .lst (xs ++ [y])) e2 trivial rfl ⟨L, _, rfl, e2, upd_same, (e4.append (.cons dy .nil)).mono Lm⟩
      have R6 := R5.wipe vs
      rw [hw'] at R6
      exact ⟨xs, e3, by rw [e4.length]; exact h5, o4, _, _, L2'.trans (L3.trans (L4.trans L5)), R6, h4⟩
  · have e : i = ds.length := by omega
    subst e
    rw [List.drop_length] at h
    exact .inl ⟨(hr o H (hc o H ρ _ Lo R h.1) R.mu).2, q o H ρ acc Lo R h.1 h.2⟩
def tLcX (ti : TSrc) (b : Bd) (tq : TQ) (te : TX) (vs : List Nat) : TX := fun ρ Q => ti ρ fun src ρ1 => match src with
  | .fx ds => compL b tq te vs (fun _ => True) (fun acc ρ' => Q (.tm (.ls acc)) (restE ρ1 ρ' vs)) ds [] (wipeE ρ1 vs)
  | .sl i es ds => match ρ1[i]? with
    | some s => match s.m! with
      | some m => m = .ls es ∧ ∀ v, compL b tq te vs (fun ρ => ρ[i]? = some (.hd s.isP v m)) (fun acc ρ' => Q (.tm (.ls acc)) ((restE ρ1 ρ' vs).set i s)) ds [] (wipeE (ρ1.set i (.hd s.isP v m)) vs)
      | none => False
    | none => False
  | .hs i p v es ds => compL b tq te vs (fun ρ => ρ[i]? = some (.hd p v (.ls es))) (fun acc ρ' => Q (.tm (.ls acc)) (restE ρ1 ρ' vs)) ds [] (wipeE ρ1 vs)
theorem up_back {s : Sl} {m : M} (h : s.m! = some m) : (if s.isP then Sl.pa m else .lo m) = s := by
  cases s with
  | no => cases h
  | lo z => cases h; rfl
  | pa z => cases h; rfl
  | hd p v z => cases h
theorem lc_of {ti : TSrc} {bd : Bd} {tq : TQ} {te : TX} {vs : List Nat} {k : VK} (hvs : ∀ i ∈ bd.slots, i ∈ vs) (h : TEo K c (tLcX ti bd tq te vs) σ H k) : tLc (TIo K c ti) (bd.tg K) (TTo K c tq) (TEo K c te) vs σ H k := by
  obtain ⟨o, ρ, τ, Q, R0, h, q⟩ := h
  refine ⟨o, ρ, τ, _, R0, h, fun J H1 o1 ρ1 src L1 R1 ok h1 => ?_⟩
  intro L hL
  have push : ∀ {o2 : Own} {ρ2 : Env}, Rep K c o2 σ H1 ρ2 τ → Rep K c (fun b => if b = L then some (.t τ.length) else o2 b) σ (upd H1 L (.lst [])) ρ2 (τ ++ [(.ref L, .ls [])]) ∧ Le o2 H1 (fun b => if b = L then some (.t τ.length) else o2 b) (upd H1 L (.lst [])) := fun {o2 ρ2} R2 =>
    R2.push (m := .ls []) (u := .lst []) hL trivial rfl ⟨L, [], rfl, by simp, upd_same, .nil⟩
  cases src with
  | fx ds =>
    obtain ⟨R2, L2'⟩ := push R1
    refine comp_ok (C := fun o' H' => Le o1 H1 o' H') ok hvs (fun o' H' ρ' τ' L' R' _ => L2'.trans L') (R2.wipe vs) h1 fun o' H' ρ' acc L' R' _ hk => ?_
    exact q _ H' o' (.tm (.ls acc)) _ _ (L1.trans (L2'.trans L')) (Rep.rest R1 (L2'.trans L') R') rfl hk
  | sl i es ds =>
    obtain ⟨v0, hv0, ok⟩ := ok
    have h1 : (match ρ1[i]? with
      | some s => match s.m! with
        | some m => m = .ls es ∧ ∀ v, compL bd tq te vs (fun ρ => ρ[i]? = some (.hd s.isP v m)) (fun acc ρ' => Q (.tm (.ls acc)) ((restE ρ1 ρ' vs).set i s)) ds [] (wipeE (ρ1.set i (.hd s.isP v m)) vs)
        | none => False
      | none => False) := h1
    split at h1
    · rename_i s e
      split at h1
      · rename_i m em
        obtain ⟨rfl, h1⟩ := h1
        obtain ⟨v, hv, R2⟩ := R1.hide e em
        rw [hv0] at hv; cases hv
        have L2' : Le o1 H1 (relL (.s i) (.h i) o1) H1 := relL_le (by intro z; cases z)
        obtain ⟨R3, L3⟩ := push R2
        refine comp_ok (C := fun o' H' => ∃ l, IsM K o' H' l v0 (.ls es)) ok hvs (fun o' H' ρ' τ' L' R' g => ?_) (R3.wipe vs) (h1 v0) fun o' H' ρ' acc L' R' g hk => ?_
        · obtain ⟨_, _, q⟩ := R'.sl i _ g
          exact ⟨_, q⟩
        · obtain ⟨hw, _, _⟩ := R'.sl i _ g
          have hi := (wipe_some hw).2
          have R4 := Rep.rest R1 (L2'.trans (L3.trans L')) R'
          obtain ⟨R5, L5⟩ := R4.unhide (i := i) (p := s.isP) (v := v0) (m := .ls es) (by rw [rest_out hi]; exact g)
          rw [up_back em] at R5
          exact q _ H' _ (.tm (.ls acc)) _ _ (L1.trans (L2'.trans (L3.trans (L'.trans L5)))) R5 rfl hk
      · exact h1.elim
    · exact h1.elim
  | hs i p v es ds =>
    obtain ⟨R2, L2'⟩ := push R1
    refine comp_ok (C := fun o' H' => ∃ l, IsM K o' H' l v (.ls es)) ok hvs (fun o' H' ρ' τ' L' R' g => ?_) (R2.wipe vs) h1 fun o' H' ρ' acc L' R' _ hk => ?_
    · obtain ⟨_, _, q⟩ := R'.sl i _ g
      exact ⟨_, q⟩
    · exact q _ H' o' (.tm (.ls acc)) _ _ (L1.trans (L2'.trans L')) (Rep.rest R1 (L2'.trans L') R') rfl hk
def DQs (X : Cx) (c : Cc) (ifs : List Expr) (t : TQ) : Prop := PTs X ifs (TTo X.K c t)
def qYes : TQ := fun ρ Q => Q true ρ
theorem ptsImp {ifs : List Expr} {t t' : TT} (h : PTs X ifs t) (f : ∀ σ H k, t' σ H k → t σ H k) : PTs X ifs t' := ⟨fun pins s σ H Q I q => h.run pins s σ H Q I (f _ _ _ q)⟩
theorem dq_nil : DQs X c [] qYes := ptsImp pts_nil fun σ H k ⟨o, ρ, τ, Q, R0, h, q⟩ => q true H o ρ .refl R0 h
theorem dq_one {cond : Expr} {tq : TQ} (h : DT X c cond tq) : DQs X c [cond] tq := pts_one h
section
variable {elt tg iter : Expr} {ifs : List Expr} {scope : Scope} {own : List (Str × Nat)} {ti : TSrc} {bd : Bd} {tq : TQ} {te : TX}
theorem de_lc (hc : X.calm = true) (hN : X.N.Nodup) (hi : DI X c tg iter ti) (ok : blkC X.N X.env.scope scope own = true)
    (hg : ∀ (s : Shared) (H : Hp) (C : Addr) (cl : List (Str × Addr)) (fp : List Addr), PG (X.blk s H scope (compEnvC scope cl C X.env) fp) tg (bd.tg X.K))
    (ht : ∀ (s : Shared) (H : Hp) (C : Addr) (cl : List (Str × Addr)) (fp : List Addr), DQs (X.blk s H scope (compEnvC scope cl C X.env) fp) c ifs tq)
    (he : ∀ (s : Shared) (H : Hp) (C : Addr) (cl : List (Str × Addr)) (fp : List Addr), DE (X.blk s H scope (compEnvC scope cl C X.env) fp) c elt te)
    (hvs : ∀ i ∈ bd.slots, i ∈ own.map (·.2) := by decide) (hs : ∀ x, foldedSetIterable iter X.env x = pure x := by intro _; rfl) : DE X c (.ListComp elt [⟨tg, iter, ifs, 0⟩] scope pos) (tLcX ti bd tq te (own.map (·.2))) :=
  peImp (pe_lc (tt := TTo X.K c tq) (te := TEo X.K c te) hc hN hi (blkOk_by ok) hg ht he hs) fun σ H k h => lc_of hvs h
theorem ds_setLc {i : Nat} {y : Str} {py spos : Pos} (hc : X.calm = true) (hN : X.N.Nodup) (hsw : swapsWith (.ListComp elt [⟨tg, iter, ifs, 0⟩] scope pos) (some (.Name y py)) spos.line X.env = pure true) (hi : DI X c tg iter ti) (ok : blkC X.N X.env.scope scope own = true)
    (hg : ∀ (s : Shared) (H : Hp) (C : Addr) (cl : List (Str × Addr)) (fp : List Addr), PG (X.blk s H scope (compEnvC scope cl C X.env) fp) tg (bd.tg X.K))
    (ht : ∀ (s : Shared) (H : Hp) (C : Addr) (cl : List (Str × Addr)) (fp : List Addr), DQs (X.blk s H scope (compEnvC scope cl C X.env) fp) c ifs tq)
    (he : ∀ (s : Shared) (H : Hp) (C : Addr) (cl : List (Str × Addr)) (fp : List Addr), DE (X.blk s H scope (compEnvC scope cl C X.env) fp) c elt te)
    (hy : X.N[i]? = some y := by rfl) (hyl : X.env.scope.names.lookup y = some .local := by rfl) (hvs : ∀ i ∈ bd.slots, i ∈ own.map (·.2) := by decide) (hs : ∀ x, foldedSetIterable iter X.env x = pure x := by intro _; rfl) :
    DS X c (.Assign [.Name y py] (.ListComp elt [⟨tg, iter, ifs, 0⟩] scope pos) spos) (sAsg i (tLcX ti bd tq te (own.map (·.2)))) :=
  psImp (ps_setLc (tt := TTo X.K c tq) (te := TEo X.K c te) hc hN hy hyl hsw hi (blkOk_by ok) hg ht he hs) fun D σ H h => lc_of hvs (sAsg_of h)
end
end
end Y
namespace Y
open PySem PySem.Spec L2

/-! ### calls of the text's own defs -/
def Keep (o : Own) (H : Hp) (o' : Own) (H' : Hp) : Prop := ∀ b u, o b = none → H b = some u → o' b = none ∧ H' b = some u
section
variable {K : PySem.W.Frag} {o o' : Own} {H H' : Hp} {l l' : Lb} {v : V}
mutual
theorem Dat.monoK (L : Keep o H o' H') : ∀ {v : V} {d : D}, Dat K o H v d → Dat K o' H' v d
  | _, _, .non => .non
  | _, _, .bl b => .bl b
  | _, _, .int b => .int b
  | _, _, .str b => .str b
  | _, _, .raw b => .raw b
  | _, _, .fnv a b r => .fnv (L _ _ a b).1 (L _ _ a b).2 (Dats.monoK L r)
  | _, _, .tup h r => .tup (L _ _ h.1 h.2) (Dats.monoK L r)
  | _, _, .lst e h r => .lst (L _ _ e h).1 (L _ _ e h).2 (Dats.monoK L r)
theorem Dats.monoK (L : Keep o H o' H') : ∀ {v : List V} {d : List D}, Dats K o H v d → Dats K o' H' v d
  | _, _, .nil => .nil
  | _, _, .cons a r => .cons (Dat.monoK L a) (Dats.monoK L r)
end
theorem Kvs.monoK {κ : Type} (L : Keep o H o' H') {ks : List (κ × V)} {kvs : List (κ × D)} (h : Kvs K o H ks kvs) : Kvs K o' H' ks kvs :=
  Paired.mapP h fun _ _ z => ⟨z.1, z.2.monoK L⟩
/-- data, or an object that is owned -/
def M.fit : M → Bool
  | .im _ => true
  | m => m.own
theorem IsM.monoK (L : Keep o H o' H') (h : ∀ a, o a = some l → o' a = some l' ∧ H' a = H a) : ∀ {m : M}, m.fit = true → IsM K o H l v m → IsM K o' H' l' v m
  | .im _, _, q => Dat.monoK L q
  | .ls _, _, ⟨a, xs, e, f, g, q⟩ => ⟨a, xs, e, (h a f).1, (h a f).2.trans g, q.monoK L⟩
  | .rd _, _, ⟨a, xs, e, f, g, q⟩ => ⟨a, xs, e, (h a f).1, (h a f).2.trans g, q.monoK L⟩
  | .dk _, _, ⟨a, xs, e, f, g, q⟩ => ⟨a, xs, e, (h a f).1, (h a f).2.trans g, Kvs.monoK L q⟩
  | .dt _, _, ⟨a, xs, e, f, g, q⟩ => ⟨a, xs, e, (h a f).1, (h a f).2.trans g, Kvs.monoK L q⟩
end

/-- what a def promises: its parameters' data and objects; what it hands back, and what its parameters' objects are then -/
abbrev TF := List M → (M → List (Option M) → Prop) → Prop
structure ArgsOk (K : PySem.W.Frag) (o : Own) (H : Hp) (vs : List V) (ms : List M) : Prop where
  len : vs.length = ms.length
  at_ : ∀ (i : Nat) v m, vs[i]? = some v → ms[i]? = some m → IsM K o H (.s i) v m
  mu : ∀ a l, o a = some l → Mt (H a)
def FinOk (K : PySem.W.Frag) (o : Own) (H : Hp) (vs : List V) (fin : List (Option M)) : Prop := ∀ (i : Nat) v m, vs[i]? = some v → fin[i]? = some (some m) → IsM K o H (.s i) v m
def spD (K : PySem.W.Frag) (F : TF) (n : Nat) : Sp := fun vs H Q _ => ∃ o ms G, vs.length = n ∧ ArgsOk K o H vs ms ∧ F ms G ∧
  ∀ v H' o' m fin, Le o H o' H' → (∀ a l, o' a = some l → Mt (H' a)) → IsM K o' H' (.t 0) v m → FinOk K o' H' vs fin → G m fin → Q v H'

/-! ### at a call -/
def argS : Option Sl → Option M
  | some (.lo m) => some m
  | some (.pa m) => some m
  | some (.hd _ _ (.ls ds)) => some (.sq ds)
  | _ => none
def argM (ρ : Env) : R → Option M
  | .im d => some (.im d)
  | .tm m => some m
  | .sl i => argS ρ[i]?
def argMs (ρ : Env) : List R → Option (List M)
  | [] => some []
  | r :: rs => match argM ρ r, argMs ρ rs with
    | some m, some ms => some (m :: ms)
    | _, _ => none
def slots : List R → List Nat
  | [] => []
  | .sl i :: rs => i :: slots rs
  | _ :: rs => slots rs
def putS (f : Option M) : Option Sl → Option Sl
  | some (.lo m) => if m.own = true then some (match f with
      | some m' => if m'.fit = true then .lo m' else .no
      | none => .no) else none
  | some (.pa m) => if m.own = true then some (match f with
      | some m' => if m'.fit = true then .pa m' else .no
      | none => .no) else none
  | _ => none
def stepB (i : Nat) (f : Option M) (ρ : Env) : Env := match putS f ρ[i]? with
  | some s => ρ.set i s
  | none => ρ
def putB : List R → List (Option M) → Env → Env
  | .sl i :: rs, fs, ρ => putB rs fs.tail (stepB i fs.head?.join ρ)
  | _ :: rs, fs, ρ => putB rs fs.tail ρ
  | [], _, ρ => ρ
def tCall (F : TF) (n : Nat) (ta : TL) : TX := fun ρ Q => ta ρ fun rs ρ1 => match argMs ρ1 rs with
  | some ms => rs.length = n ∧ (slots rs).Nodup ∧ F ms fun m fin => m.fit = true ∧ Q m.res (putB rs fin ρ1)
  | none => False
/-- which argument an object is: its label tells -/
def labIx : List R → Nat → Nat → Lb → Option Nat
  | [], _, _, _ => none
  | .sl i :: rs, n, k, l => if l = .s i then some k else labIx rs n (k + 1) l
  | .tm _ :: rs, n, k, l => if l = .t n then some k else labIx rs (n + 1) (k + 1) l
  | .im _ :: rs, n, k, l => labIx rs n (k + 1) l
def ownC (rs : List R) (n : Nat) (o : Own) : Own := fun a => match o a with
  | none => none
  | some (.k q) => some (.k q)
  | some l => match labIx rs n 0 l with
    | some k => some (.s k)
    | none => some .x
def ownB (rs : List R) (n : Nat) (o o' : Own) : Own := fun a => match o' a with
  | none => none
  | some .x => o a
  | some (.k q) => some (.k q)
  | some (.s k) => match rs[k]? with
    | some (.sl i) => some (.s i)
    | _ => none
  | some (.t 0) => some (.t n)
  | _ => none
theorem labIx_ge : ∀ {rs : List R} {n k : Nat} {l : Lb} {j : Nat}, labIx rs n k l = some j → k ≤ j
  | .sl i :: rs, n, k, l, j, h => by
    unfold labIx at h
    split at h
    · cases h; exact Nat.le_refl _
    · exact Nat.le_of_succ_le (labIx_ge h)
  | .tm _ :: rs, n, k, l, j, h => by
    unfold labIx at h
    split at h
    · cases h; exact Nat.le_refl _
    · exact Nat.le_of_succ_le (labIx_ge h)
  | .im _ :: rs, n, k, l, j, h => by
    unfold labIx at h
    exact Nat.le_of_succ_le (labIx_ge h)
theorem labIx_s {i : Nat} : ∀ {rs : List R} {n k : Nat}, i ∉ slots rs → labIx rs n k (.s i) = none
  | [], _, _, _ => rfl
  | .sl j :: rs, n, k, h => by
    have h1 : i ≠ j := fun e => h (by rw [e]; exact List.mem_cons_self)
    have h2 : i ∉ slots rs := fun m => h (List.mem_cons_of_mem _ m)
    unfold labIx
    rw [if_neg (by intro z; injection z with z; exact h1 z), labIx_s h2]
  | .tm _ :: rs, n, k, h => by unfold labIx; rw [if_neg (by intro z; cases z)]; exact labIx_s h
  | .im _ :: rs, n, k, h => by unfold labIx; exact labIx_s h
theorem labIx_lt {j : Nat} : ∀ {rs : List R} {n k : Nat}, j < n → labIx rs n k (.t j) = none
  | [], _, _, _ => rfl
  | .sl _ :: rs, n, k, h => by unfold labIx; rw [if_neg (by intro z; cases z)]; exact labIx_lt h
  | .tm _ :: rs, n, k, h => by unfold labIx; rw [if_neg (by intro z; injection z with z; omega)]; exact labIx_lt (by omega)
  | .im _ :: rs, n, k, h => by unfold labIx; exact labIx_lt h
theorem labIx_h {i : Nat} : ∀ {rs : List R} {n k : Nat}, labIx rs n k (.h i) = none
  | [], _, _ => rfl
  | .sl _ :: rs, n, k => by unfold labIx; rw [if_neg (by intro z; cases z)]; exact labIx_h
  | .tm _ :: rs, n, k => by unfold labIx; rw [if_neg (by intro z; cases z)]; exact labIx_h
  | .im _ :: rs, n, k => by unfold labIx; exact labIx_h
theorem labIx_x : ∀ {rs : List R} {n k : Nat}, labIx rs n k .x = none
  | [], _, _ => rfl
  | .sl _ :: rs, n, k => by unfold labIx; rw [if_neg (by intro z; cases z)]; exact labIx_x
  | .tm _ :: rs, n, k => by unfold labIx; rw [if_neg (by intro z; cases z)]; exact labIx_x
  | .im _ :: rs, n, k => by unfold labIx; exact labIx_x
theorem labIx_k {q : Str} : ∀ {rs : List R} {n k : Nat}, labIx rs n k (.k q) = none
  | [], _, _ => rfl
  | .sl _ :: rs, n, k => by unfold labIx; rw [if_neg (by intro z; cases z)]; exact labIx_k
  | .tm _ :: rs, n, k => by unfold labIx; rw [if_neg (by intro z; cases z)]; exact labIx_k
  | .im _ :: rs, n, k => by unfold labIx; exact labIx_k
theorem mem_slots {i : Nat} : ∀ {rs : List R}, R.sl i ∈ rs → i ∈ slots rs
  | [], h => by cases h
  | .sl j :: rs, h => by
    rcases List.mem_cons.mp h with e | h
    · cases e; exact List.mem_cons_self
    · exact List.mem_cons_of_mem _ (mem_slots h)
  | .tm m :: rs, h => by
    rcases List.mem_cons.mp h with e | h
    · cases e
    · exact mem_slots (rs := rs) h
  | .im d :: rs, h => by
    rcases List.mem_cons.mp h with e | h
    · cases e
    · exact mem_slots (rs := rs) h
section
variable {K : PySem.W.Frag} {c : Cc} {o o' : Own} {σ σ' : St} {H H' : Hp} {ρ ρ' : Env} {τ τ' τ0 τ1 : List (V × M)} {X : Cx} {e a b : Expr} {es : List Expr} {pos : Pos} {t u : TX} {P : EndP} {D' : Ends}
theorem ownC_le {rs : List R} {n : Nat} : Le o H (ownC rs n o) H :=
  .mk' (fun b u e f => ⟨by unfold ownC; rw [e], f⟩) (fun b e => ⟨by unfold ownC; rw [e]; simp only [labIx_x], rfl⟩) fun b _ e => ⟨by unfold ownC; rw [e], rfl⟩
/-- the arguments, as the callee sees them -/
theorem args_ok {rsA : List R} {n : Nat} (R0 : Rep K c o σ H ρ τ) : ∀ {vs : List V} {rs : List R} {ms : List M} {τ0 τ1 : List (V × M)} {k : Nat}, RelRs K o H σ vs rs τ0 τ1 → τ1 <+: τ → argMs ρ rs = some ms → (slots rs).Nodup →
    (∀ l, labIx rs τ0.length k l ≠ none → labIx rsA n 0 l = labIx rs τ0.length k l) → ∀ (j : Nat) v m, vs[j]? = some v → ms[j]? = some m → IsM K (ownC rsA n o) H (.s (k + j)) v m
  | _, _, ms, _, _, k, .nil, _, e, _, _ => fun j v m e1 e2 => by simp at e1
  | _, _, ms, τ0, τ1, k, .cons (v := v0) (vs := vs) (r := r) (rs := rs) (τ1 := τ2) z zs, p, e, nd, A => fun j v m e1 e2 => by
    unfold argMs at e
    split at e
    · rename_i m0 ms0 em ems
      cases e
      have L : Le o H (ownC rsA n o) H := ownC_le
      cases j with
      | zero =>
        simp at e1 e2
        subst e1 e2
        rw [Nat.add_zero]
        cases r with
        | im d => cases em; exact Dat.mono L z.2
        | tm m1 =>
          cases em
          have e3 : τ2 = τ0 ++ [(v0, m0)] := z
          obtain ⟨w, hw⟩ := zs.pre.trans p
          have q : IsM K o H (.t τ0.length) v0 m0 := (R0.tm τ0.length v0 m0 (by rw [← hw, e3]; simp)).1
          refine q.mono L fun a ho => ⟨?_, rfl⟩
          have f : labIx (.tm m0 :: rs) τ0.length k (.t τ0.length) = some k := by unfold labIx; rw [if_pos rfl]
          have g := A (.t τ0.length) (by rw [f]; intro z; cases z)
          unfold ownC; rw [ho]; simp only [g, f]
        | sl i =>
          obtain ⟨_, hs⟩ := z
          have f : labIx (.sl i :: rs) τ0.length k (.s i) = some k := by unfold labIx; rw [if_pos rfl]
          have g := A (.s i) (by rw [f]; intro z; cases z)
          have em : argS ρ[i]? = some m0 := em
          unfold argS at em
          split at em
          · rename_i m1 es
            cases em
            obtain ⟨w, e3, q⟩ := R0.sl i _ es
            rw [hs] at e3; cases e3
            exact q.mono L fun a ho => ⟨by unfold ownC; rw [ho]; simp only [g, f], rfl⟩
          · rename_i m1 es
            cases em
            obtain ⟨w, e3, _, q⟩ := R0.sl i _ es
            rw [hs] at e3; cases e3
            exact q.mono L fun a ho => ⟨by unfold ownC; rw [ho]; simp only [g, f], rfl⟩
          · rename_i p1 w1 ds es
            cases em
            obtain ⟨e3, _, ad, xs, rfl, q1, q2, q3⟩ := R0.sl i _ es
            rw [hs] at e3; cases e3
            refine ⟨ad, xs, rfl, .inl ⟨.inr ?_, .inl q2⟩, q3.mono L⟩
            unfold ownC; rw [q1]; simp only [labIx_h]
          · cases em
      | succ j =>
        have e1' : vs[j]? = some v := by simpa using e1
        have e2' : ms0[j]? = some m := by simpa using e2
        have nd' : (slots rs).Nodup := by
          cases r with
          | im d => exact nd
          | tm m1 => exact nd
          | sl i => exact (List.nodup_cons.mp nd).2
        have A' : ∀ l, labIx rs τ2.length (k + 1) l ≠ none → labIx rsA n 0 l = labIx rs τ2.length (k + 1) l := fun l hl => by
          cases r with
          | im d =>
            have e3 : τ2 = τ0 := z.1
            subst e3
            have f : labIx (.im d :: rs) τ2.length k l = labIx rs τ2.length (k + 1) l := rfl
            rw [← f] at hl ⊢
            exact A l hl
          | tm m1 =>
            have e3 : τ2 = τ0 ++ [(v0, m1)] := z
            have e4 : τ2.length = τ0.length + 1 := by rw [e3]; simp
            rw [e4] at hl ⊢
            have ne : l ≠ .t τ0.length := fun z => by subst z; exact hl (labIx_lt (Nat.lt_succ_self _))
            have f : labIx (.tm m1 :: rs) τ0.length k l = labIx rs (τ0.length + 1) (k + 1) l := by
              conv => lhs; unfold labIx
              rw [if_neg ne]
            rw [← f] at hl ⊢
            exact A l hl
          | sl i =>
            have e3 : τ2 = τ0 := z.1
            subst e3
            have ne : l ≠ .s i := fun z => by subst z; exact hl (labIx_s (List.nodup_cons.mp nd).1)
            have f : labIx (.sl i :: rs) τ2.length k l = labIx rs τ2.length (k + 1) l := by
              conv => lhs; unfold labIx
              rw [if_neg ne]
            rw [← f] at hl ⊢
            exact A l hl
        have q := args_ok R0 (k := k + 1) zs p ems nd' A' j v m e1' e2'
        have e5 : k + 1 + j = k + (j + 1) := by omega
        rw [e5] at q
        exact q
    · cases e
theorem argMs_length : ∀ {rs : List R} {ms : List M}, argMs ρ rs = some ms → ms.length = rs.length
  | [], _, e => by simp [argMs] at e; subst e; rfl
  | r :: rs, _, e => by
    unfold argMs at e
    split at e
    · rename_i m ms _ e2
      cases e
      rw [List.length_cons, List.length_cons, argMs_length e2]
    · cases e
theorem ownC_mu {rs : List R} {n : Nat} (mu : ∀ a l, o a = some l → Mt (H a)) : ∀ a l, ownC rs n o a = some l → Mt (H a) := fun a l e => by
  unfold ownC at e
  split at e
  · cases e
  · rename_i h; exact mu a _ h
  · rename_i l' _ h; exact mu a _ h
/-- behind the call -/
theorem ownB_mu {rs : List R} {n : Nat} (mu : ∀ a l, o' a = some l → Mt (H' a)) : ∀ a l, ownB rs n o o' a = some l → Mt (H' a) := fun a l e => by
  unfold ownB at e
  split at e
  · cases e
  · rename_i h; exact mu a _ h
  · rename_i h; exact mu a _ h
  · rename_i k h; exact mu a _ h
  · rename_i h; exact mu a _ h
  · cases e
theorem ownB_le {rs : List R} {n : Nat} (L : Le (ownC rs n o) H o' H') : Le o H (ownB rs n o o') H' :=
  ⟨fun b u e f => by
    obtain ⟨e1, f1⟩ := L.keep b u (by unfold ownC; rw [e]) f
    exact ⟨by unfold ownB; rw [e1], f1⟩,
   fun b e => by
    obtain ⟨e1, f1⟩ := L.ext b (by unfold ownC; rw [e]; simp only [labIx_x])
    exact ⟨by unfold ownB; rw [e1]; exact e, f1⟩,
   fun P q t => by
    obtain ⟨ps, e, h, ok, all⟩ := L.tbs P q (ownC_le.tbs P q t)
    refine ⟨ps, by unfold ownB; rw [e], h, ok, fun pos cv hc => ?_⟩
    obtain ⟨c, e1, e2, e3⟩ := all pos cv hc
    exact ⟨c, e1, by unfold ownB; rw [e2], e3⟩⟩
theorem ownB_keep {rs : List R} {n : Nat} : Keep o' H' (ownB rs n o o') H' := fun b u e f => ⟨by unfold ownB; rw [e], f⟩
theorem ownB_other {rs : List R} {n : Nat} (L : Le (ownC rs n o) H o' H') {l : Lb} (h : labIx rs n 0 l = none) {a : Addr} (e : o a = some l) (hk : ∀ q, l ≠ .k q := by intro q z; cases z) : ownB rs n o o' a = some l ∧ H' a = H a := by
  obtain ⟨e1, f1⟩ := L.ext a (by unfold ownC; rw [e]; cases l <;> first | exact absurd rfl (hk _) | simp only [h])
  exact ⟨by unfold ownB; rw [e1]; exact e, f1⟩
theorem back_ok {rsA : List R} {n : Nat} {oc : Own} (R0 : Rep K c o σ H ρ τ) (L : Le (ownC rsA n o) H oc H') : ∀ {vs : List V} {rs : List R} {fs : List (Option M)} {τ0 τ1 : List (V × M)} {k : Nat} {ρc : Env}, RelRs K o H σ vs rs τ0 τ1 → (slots rs).Nodup →
    (∀ j r, rs[j]? = some r → rsA[k + j]? = some r) → (∀ (j : Nat) v m, vs[j]? = some v → fs[j]? = some (some m) → IsM K oc H' (.s (k + j)) v m) → ρc.length = ρ.length →
    (∀ j, (j ∈ slots rs → ρc[j]? = ρ[j]?) ∧ (j ∉ slots rs → ∀ s, ρc[j]? = some s → SlOk K c (ownB rsA n o oc) σ H' j s)) →
    (putB rs fs ρc).length = ρ.length ∧ ∀ j s, (putB rs fs ρc)[j]? = some s → SlOk K c (ownB rsA n o oc) σ H' j s
  | _, _, fs, _, _, k, ρc, .nil, nd, hr, hf, hl, hP => ⟨hl, fun j s q => (hP j).2 (by simp [slots]) s q⟩
  | _, _, fs, τ0, τ1, k, ρc, .cons (v := v0) (vs := vs) (r := r) (rs := rs) (τ1 := τ2) z zs, nd, hr, hf, hl, hP => by
    have hf' : ∀ (j : Nat) v m, vs[j]? = some v → fs.tail[j]? = some (some m) → IsM K oc H' (.s (k + 1 + j)) v m := fun j v m e1 e2 => by
      cases fs with
      | nil => simp at e2
      | cons f fs' =>
        have := hf (j + 1) v m (by simpa using e1) (by simpa using e2)
        rw [show k + 1 + j = k + (j + 1) by omega]; exact this
    have tl : ∀ {ρ2 : Env}, (slots rs).Nodup → ρ2.length = ρ.length →
        (∀ j, (j ∈ slots rs → ρ2[j]? = ρ[j]?) ∧ (j ∉ slots rs → ∀ s, ρ2[j]? = some s → SlOk K c (ownB rsA n o oc) σ H' j s)) → (putB rs fs.tail ρ2).length = ρ.length ∧ ∀ j s, (putB rs fs.tail ρ2)[j]? = some s → SlOk K c (ownB rsA n o oc) σ H' j s :=
      fun {ρ2} nd2 h2 h3 => back_ok R0 L (k := k + 1) zs nd2 (fun j r' e => by have := hr (j + 1) r' (by simpa using e); rw [show k + 1 + j = k + (j + 1) by omega]; exact this) hf' h2 h3
    cases r with
    | im d => exact tl nd hl hP
    | tm m1 => exact tl nd hl hP
    | sl i =>
      obtain ⟨_, hs⟩ := z
      have ndi := List.nodup_cons.mp nd
      have hi : ρc[i]? = ρ[i]? := (hP i).1 List.mem_cons_self
      have hrk : rsA[k]? = some (.sl i) := hr 0 _ rfl
      have LB : Le o H (ownB rsA n o oc) H' := ownB_le L
      have hq : ∀ m, fs.head?.join = some m → IsM K oc H' (.s k) v0 m := fun m e => by
        cases fs with
        | nil => cases e
        | cons f fs' => exact hf 0 v0 m rfl (by simpa using e)
      have fin1 : ∀ m', fs.head?.join = some m' → m'.fit = true → IsM K (ownB rsA n o oc) H' (.s i) v0 m' := fun m' ef hfit =>
        (hq m' ef).monoK ownB_keep (fun a q => ⟨by unfold ownB; rw [q]; simp only [hrk], rfl⟩) hfit
      have nown : ∀ m, ¬ m.own = true → IsM K o H (.s i) v0 m → IsM K (ownB rsA n o oc) H' (.s i) v0 m := fun m hm q => by
        cases m with
        | im d => exact Dat.mono LB q
        | sq ds => obtain ⟨ad, xs, e1, e2, e3⟩ := q; exact ⟨ad, xs, e1, e2.mono LB, e3.mono LB⟩
        | ls ds => exact absurd rfl hm
        | rd ds => exact absurd rfl hm
        | dk ds => exact absurd rfl hm
        | dt ds => exact absurd rfl hm
      refine tl ndi.2 ?_ fun j => ⟨fun hj => ?_, fun hj s e => ?_⟩
      · unfold stepB
        split
        · rw [List.length_set]; exact hl
        · exact hl
      · have ne : i ≠ j := fun z => by subst z; exact ndi.1 hj
        have q := (hP j).1 (List.mem_cons_of_mem _ hj)
        unfold stepB
        split
        · rw [List.getElem?_set_ne ne]; exact q
        · exact q
      · by_cases ne : i = j
        · subst ne
          unfold stepB at e
          rw [hi] at e
          cases es : ρ[i]? with
          | none =>
            rw [es] at e
            simp only [putS] at e
            rw [hi, es] at e; cases e
          | some s0 =>
            have k0 := R0.sl i s0 es
            have hlt : i < ρc.length := by rw [hl]; exact (List.getElem?_eq_some_iff.mp es).1
            rw [es] at e
            cases s0 with
            | no => simp only [putS] at e; rw [hi, es] at e; cases e; exact trivial
            | hd p w m =>
              simp only [putS] at e; rw [hi, es] at e; cases e
              obtain ⟨e1, e2, q⟩ := k0
              exact ⟨e1, e2, q.mono LB fun a q => ownB_other L labIx_h q⟩
            | lo m =>
              obtain ⟨w, e1, q⟩ := k0
              rw [hs] at e1; cases e1
              by_cases hm : m.own = true
              · simp only [putS, hm, if_true] at e
                rw [List.getElem?_set_self hlt] at e
                cases e
                split
                · rename_i m' ef
                  split
                  · rename_i hfit; exact ⟨v0, hs, fin1 m' ef hfit⟩
                  · exact trivial
                · exact trivial
              · simp only [putS, hm, Bool.false_eq_true, if_false] at e
                rw [hi, es] at e; cases e
                exact ⟨v0, hs, nown m hm q⟩
            | pa m =>
              obtain ⟨w, e1, e2, q⟩ := k0
              rw [hs] at e1; cases e1
              by_cases hm : m.own = true
              · simp only [putS, hm, if_true] at e
                rw [List.getElem?_set_self hlt] at e
                cases e
                split
                · rename_i m' ef
                  split
                  · rename_i hfit; exact ⟨v0, hs, e2, fin1 m' ef hfit⟩
                  · exact trivial
                · exact trivial
              · simp only [putS, hm, Bool.false_eq_true, if_false] at e
                rw [hi, es] at e; cases e
                exact ⟨v0, hs, e2, nown m hm q⟩
        · have q := (hP j).2 (by simp only [slots, List.mem_cons, not_or]; exact ⟨fun z => ne z.symm, hj⟩) s
          unfold stepB at e
          split at e
          · rw [List.getElem?_set_ne ne] at e; exact q e
          · exact q e
section
variable {F : TF} {n k : Nat} {f : Addr} {fd : FuncData} {ps : List Str} {x : Str} {p : Pos} {ta : TL}
theorem tCall_of {kk : VK} (h : TEo K c (tCall F n ta) σ H kk) : L2.tCall (spD K F n) [] E0 (TAo K c ta) σ H kk := by
  obtain ⟨o, ρ, τ, Q, R0, h, q⟩ := h
  refine ⟨o, ρ, τ, _, R0, h, fun vs H1 o1 rs ρ1 τ1 L1 R1 z1 h1 => ?_⟩
  show spD K F n (vs ++ []) H1 kk E0
  rw [List.append_nil]
  split at h1
  · rename_i ms em
    obtain ⟨hn, nd, hF⟩ := h1
    have A := args_ok (rsA := rs) (n := τ.length) R1 (k := 0) z1 List.prefix_rfl em nd (fun l _ => rfl)
    refine ⟨ownC rs τ.length o1, ms, _, z1.length.trans hn, ⟨by rw [argMs_length em, z1.length], fun i v m e1 e2 => by have := A i v m e1 e2; rwa [Nat.zero_add] at this, ownC_mu R1.mu⟩, hF, fun v H2 o2 m fin L2 mu2 im fo hG => ?_⟩
    obtain ⟨hfit, hG⟩ := hG
    have LB : Le o1 H1 (ownB rs τ.length o1 o2) H2 := ownB_le L2
    obtain ⟨b1, b2⟩ := back_ok (rsA := rs) (n := τ.length) (oc := o2) R1 L2 (k := 0) (fs := fin) (ρc := ρ1) z1 nd (fun j r e => by rw [Nat.zero_add]; exact e) (fun j v m e1 e2 => by rw [Nat.zero_add]; exact fo j v m e1 e2) rfl
      fun j => ⟨fun _ => rfl, fun hj s e => (R1.sl j s e).mono LB (fun a q => ownB_other L2 (labIx_s hj) q) fun a q => ownB_other L2 labIx_h q⟩
    obtain ⟨tt, htt⟩ := z1.pre
    have RB : Rep K c (ownB rs τ.length o1 o2) σ H2 (putB rs fin ρ1) τ := by
      refine ⟨b2, fun j w m' e => ?_, ownB_mu mu2, R1.le.trans LB, by rw [b1]; exact R1.ln⟩
      have hj : j < τ.length := (List.getElem?_eq_some_iff.mp e).1
      have q := R1.tm j w m' (by rw [← htt, List.getElem?_append_left hj]; exact e)
      exact ⟨q.1.mono LB fun a z => ownB_other L2 (labIx_lt hj) z, q.2⟩
    have io : IsM K (ownB rs τ.length o1 o2) H2 (.t τ.length) v m := im.monoK ownB_keep (fun a z => ⟨by unfold ownB; rw [z]; rfl, rfl⟩) hfit
    have own : m.own = true → m.res = .tm m → kk v H2 := fun e1 e2 => by
      rw [e2] at hG
      refine q v H2 _ (.tm m) _ (τ ++ [(v, m)]) (L1.trans LB) ⟨RB.sl, fun j w m' e => ?_, RB.mu, RB.le, RB.ln⟩ rfl hG
      by_cases hj : j < τ.length
      · rw [List.getElem?_append_left hj] at e; exact RB.tm j w m' e
      · rw [List.getElem?_append_right (by omega)] at e
        have e0 : j - τ.length = 0 := by
          cases y : j - τ.length with
          | zero => rfl
          | succ y' => rw [y] at e; simp at e
        rw [e0] at e
        have e3 : j = τ.length := by omega
        subst e3
        simp at e
        obtain ⟨rfl, rfl⟩ := e
        exact ⟨io, e1⟩
    cases m with
    | im d => exact q v H2 _ (.im d) _ τ (L1.trans LB) RB ⟨rfl, io⟩ hG
    | sq ds => cases hfit
    | ls ds => exact own rfl rfl
    | rd ds => exact own rfl rfl
    | dk ds => exact own rfl rfl
    | dt ds => exact own rfl rfl
  · exact h1.elim
theorem de_call (G : FnOk X.prog X.w X.K X.mg X.base CX0 k f fd ps (spD X.K F n)) (hr : Room k X.A) (hg : Gl X x) (hm : X.mg x = some (.ref f)) (hk : PySem.W.keepIn X.K (.ref f) = true) (hb : Binds X.K fd ps [])
    (ha : DA X c (e :: es) ta) (hdb : (x == ("__debug__" : Str)) = false := by decide) (he : starEach (e :: es) X.env = (false, eval e X.env) :: starEach es X.env := by rfl) (hpl : (backTo pos (starEach es X.env)).any (·.1) = false := by rfl) :
    DE X c (.Call (.Name x p) (e :: es) [] pos) (tCall F n ta) := peImp (pe_call G hr hg hm hk hb .nil pass0 ha hdb he hpl) fun σ H k h => tCall_of h
end

/-! ### a def, by its body -/
def Sl.fin : Sl → Option M
  | .pa m => some m
  | .hd true _ m => some m
  | _ => none
def fins (n : Nat) (ρ : Env) : List (Option M) := (ρ.take n).map Sl.fin
def envOf (N n : Nat) (ms : List M) : Env := ms.map Sl.pa ++ List.replicate (N - n) .no
def unH (o : Own) : Own := fun a => match o a with
  | some (.h i) => some (.s i)
  | l => l
theorem unH_le : Le o H (unH o) H := Le.mk' (fun b u e f => ⟨by unfold unH; rw [e], f⟩) (fun b e => ⟨by unfold unH; rw [e], rfl⟩) fun b _ e => ⟨(by unfold unH; rw [e]), rfl⟩
theorem rep_start {vs : List V} {ms : List M} {N : List Str} (h : ArgsOk K o H vs ms) : Rep K ⟨o, H, vs⟩ o (L2.start N vs) H (envOf N.length vs.length ms) [] := by
  refine ⟨fun i s e => ?_, fun j v m e => by simp at e, h.mu, .refl, by unfold envOf L2.start; simp [h.len]⟩
  unfold envOf at e
  by_cases hi : i < ms.length
  · rw [List.getElem?_append_left (by simpa using hi), List.getElem?_map, List.getElem?_eq_getElem hi] at e
    cases e
    have hv : i < vs.length := by rw [h.len]; exact hi
    refine ⟨vs[i], ?_, List.getElem?_eq_getElem hv, h.at_ i _ _ (List.getElem?_eq_getElem hv) (List.getElem?_eq_getElem hi)⟩
    unfold L2.start
    rw [List.getElem?_append_left (by simpa using hv), List.getElem?_map, List.getElem?_eq_getElem hv]; rfl
  · rw [List.getElem?_append_right (by simpa using hi), List.getElem?_replicate] at e
    split at e
    · cases e; exact trivial
    · cases e
theorem fins_ok {vs : List V} {oo : Own} {H0 : Hp} (R0 : Rep K ⟨oo, H0, vs⟩ o σ H ρ []) (n : Nat) : FinOk K (unH o) H vs (fins n ρ) := fun i v m e1 e2 => by
  unfold fins at e2
  rw [List.getElem?_map, List.getElem?_take] at e2
  split at e2
  · cases es : ρ[i]? with
    | none => rw [es] at e2; cases e2
    | some s =>
      rw [es] at e2
      have k := R0.sl i s es
      cases s with
      | no => cases e2
      | lo m => cases e2
      | pa m' =>
        cases e2
        obtain ⟨w, _, e3, q⟩ := k
        rw [e1] at e3; cases e3
        exact q.mono unH_le fun a z => ⟨by unfold unH; rw [z], rfl⟩
      | hd p w m' =>
        cases p with
        | false => cases e2
        | true =>
          cases e2
          obtain ⟨_, e3, q⟩ := k
          have e3 := e3 rfl
          rw [e1] at e3; cases e3
          exact q.mono unH_le fun a z => ⟨by unfold unH; rw [z], rfl⟩
  · cases e2
/-- what the body is to do -/
def Body (F : TF) (N n : Nat) (T : TSX) : Prop := ∀ ms G, ms.length = n → F ms G → T { nx := fun ρ => G (.im .non) (fins n ρ), rt := fun m ρ => G m (fins n ρ) } (envOf N n ms)
theorem fn_ok {Pg : Program} {w : World} {mg : Str → Option Value} {base : Heap} {x qual : Str} {st : Stmt} {f : Addr} {fd : FuncData} {N ps : List Str} {k : Nat} {F : TF} {T : TSX} (Fu : Fun K x qual st f fd) (S : FnScope N ps (defScope st)) (hB : Body F N.length ps.length T)
    (hbody : ∀ (cdv : Value) (A : Around) (outer : List PySem.Env) (s : Shared) (H : Hp) (E : XK) (c : Cc), Room k (A.deeper (PyProof.Rows.envOfC qual (defScope st) s.heap.objs.size f cdv)) → DSs (cxOf CX0 Pg w K mg base N qual (defScope st) f cdv A outer s H E).nox c (defBody st) T) :
    FnOk Pg w K mg base CX0 (k + 1) f fd ps (spD K F ps.length) := by
  refine Fu.ok S (fun vs H Q E h => h.choose_spec.choose_spec.choose_spec.1) fun cdv A outer s H vs Q E hr h => ?_
  obtain ⟨o, ms, G, hl, ha, hF, q⟩ := h
  refine ⟨_, hbody cdv A outer s H E ⟨o, H, vs⟩ hr, ?_⟩
  have R0 : Rep K ⟨o, H, vs⟩ o (L2.start N vs) H (envOf N.length ps.length ms) [] := by have := rep_start (N := N) ha; rw [hl] at this; exact this
  refine ⟨o, _, _, R0, hB ms G (by rw [← ha.len]; exact hl) hF, ⟨fun σ' H' o' ρ' L R hG => ?_, fun v σ' H' o' ρ' m L R im hG => ?_, fun _ _ _ _ _ _ z => z.elim, fun _ _ _ _ _ _ z => z.elim⟩⟩
  · exact q .non H' (unH o') (.im .non) _ (L.trans unH_le) (fun a l e => by unfold unH at e; split at e; exact R.mu a _ (by assumption); exact R.mu a _ e) .non (fins_ok R _) hG
  · exact q v H' (unH o') m _ (L.trans unH_le) (fun a l e => by unfold unH at e; split at e; exact R.mu a _ (by assumption); exact R.mu a _ e) (im.mono unH_le fun a z => ⟨by unfold unH; rw [z], rfl⟩) (fins_ok R _) hG
end
end Y
namespace Y
open PySem PySem.Spec L2

/-! ### a def where the top has put it -/
structure DefAt (K : PySem.W.Frag) (mg : Str → Option Value) (name : Str) (st : Stmt) (ps : List Str) where
  f : Addr
  fd : FuncData
  fu : Fun K name name st f fd
  mg : mg name = some (.ref f)
  bd : Binds K fd ps []
def FnD (Pg : Program) (w : World) (K : PySem.W.Frag) (mg : Str → Option Value) (base : Heap) {name : Str} {st : Stmt} {ps : List Str} (D : DefAt K mg name st ps) (k : Nat) (F : TF) : Prop := FnOk Pg w K mg base CX0 k D.f D.fd ps (spD K F ps.length)
theorem FnD.mono {Pg : Program} {w : World} {K : PySem.W.Frag} {mg : Str → Option Value} {base : Heap} {name : Str} {st : Stmt} {ps : List Str} {D : DefAt K mg name st ps} {j k : Nat} {F : TF} (h : FnD Pg w K mg base D j F) (l : j ≤ k) : FnD Pg w K mg base D k F := FnOk.mono h l
/-- a weaker promise -/
theorem FnD.imp {Pg : Program} {w : World} {K : PySem.W.Frag} {mg : Str → Option Value} {base : Heap} {name : Str} {st : Stmt} {ps : List Str} {D : DefAt K mg name st ps} {k : Nat} {F F' : TF} (h : FnD Pg w K mg base D k F) (i : ∀ ms G, F' ms G → F ms G) : FnD Pg w K mg base D k F' :=
  FnOk.imp h fun vs H Q E ⟨o, ms, G, a, b, c, d⟩ => ⟨o, ms, G, a, b, i ms G c, d⟩
theorem hu1 {k : Nat} {A : Around} (r : Room k A) : A.units + 1 < cLine := by have := r.un; omega
theorem hu64 {k : Nat} {A : Around} (r : Room k A) : A.units + 64 < cLine := by have := r.un; omega
theorem hu65 {k : Nat} {A : Around} (r : Room k A) : A.units + 65 < cLine := by have := r.un; omega
theorem hu80 {k : Nat} {A : Around} (r : Room k A) : A.units + 80 < cLine := by have := r.un; omega

section
variable {K : PySem.W.Frag} {c : Cc} {o o' : Own} {σ σ' : St} {H H' : Hp} {ρ ρ' : Env} {τ τ' τ0 τ1 : List (V × M)} {X : Cx} {e a b : Expr} {es : List Expr} {pos : Pos} {t u : TX} {P : EndP} {D' : Ends}
/-! ### dicts made -/
def tNewK : TX := fun ρ Q => Q (.tm (.dk [])) ρ
def tNewT : TX := fun ρ Q => Q (.tm (.dt [])) ρ
theorem de_newK : DE X c (.Dict [] [] pos) tNewK := peImp pe_dnewK fun σ H k ⟨o, ρ, τ, Q, R0, h, q⟩ => fun p hp => by
  obtain ⟨o', τ', L, R', z⟩ := R0.made (m := .dk []) List.prefix_rfl (.new hp) ⟨p, [], rfl, hp, rfl, .nil⟩
  exact q _ _ o' _ ρ τ' L R' z h
theorem de_newT : DE X c (.Dict [] [] pos) tNewT := peImp pe_dnewT fun σ H k ⟨o, ρ, τ, Q, R0, h, q⟩ => fun p hp => by
  obtain ⟨o', τ', L, R', z⟩ := R0.made (m := .dt []) List.prefix_rfl (.new hp) ⟨p, [], rfl, hp, rfl, .nil⟩
  exact q _ _ o' _ ρ τ' L R' z h
/-- -e -/
def tNeg (t : TX) : TX := fun ρ Q => t ρ fun r ρ1 => match r with
  | .im (.int i) => Q (.im (.int (-i))) ρ1
  | _ => False
theorem de_neg (h : DE X c e t) : DE X c (.UnaryOp .USub e pos) (tNeg t) := peImp (pe_un un_neg h) fun σ H k h => by
  obtain ⟨o, ρ, τ, Q, R0, h, q⟩ := h
  refine ⟨o, ρ, τ, _, R0, h, fun v1 H1 o1 r1 ρ1 τ1 L1 R1 z1 h1 => ?_⟩
  split at h1
  · obtain ⟨rfl, z⟩ := z1
    cases z
    exact ⟨_, rfl, q _ H1 o1 (.im _) ρ1 _ L1 R1 ⟨rfl, .int _⟩ h1⟩
  · exact h1.elim
/-- dict(d) of a dict with keys ints and texts -/
def gDict : GC := fun ms G => match ms with
  | [.dk kvs] => G (.dk kvs)
  | _ => False
theorem dict_ok : CallG X (.type "dict") gDict := by
  refine callG call_dictD fun vs H k h => ?_
  obtain ⟨o, ms, G, mu, v1, h, q⟩ := h
  unfold gDict at h
  split at h
  · obtain ⟨v, rfl, w1⟩ := pv1 v1
    obtain ⟨l, a, ks, rfl, _, ha, kv⟩ := w1
    exact ⟨a, ks, rfl, .inl ha, fun p hp => q _ _ (.dk _) (.new hp) ⟨p, ks, rfl, hp, rfl, kv⟩ h⟩
  · exact h.elim
/-! ### a, b = x, y -/
def sPar (i j : Nat) (ta : TL) : TSX := fun P ρ => tFrz ta (fun ds ρ1 => match ds with
  | [x, y] => P.nx ((ρ1.set i (.lo (.im x))).set j (.lo (.im y)))
  | _ => False) ρ
end
end Y
namespace Y
open PySem PySem.Spec L2

/-! ### sorted -/
noncomputable def sortD (ds : List D) : List D := ds.mergeSort (PySem.W.dataLe false D.py)
def CanSort (ds : List D) : Prop := PySem.W.AllAlike (ds.map D.py) ∧ PySem.W.Sortable (ds.map D.py) ∧ ∀ d ∈ ds, D.ok 64 d = true
def kD : Key → D
  | .inl i => .int i
  | .inr s => .str s
def gSorted : GC := fun ms G => match ms with
  | [.dt kvs] => CanSort (kvs.map fun p => .tup (p.1.map kD)) ∧ G (.ls (sortD (kvs.map fun p => .tup (p.1.map kD))))
  | [.dk kvs] => CanSort (kvs.map fun p => kD p.1) ∧ G (.ls (sortD (kvs.map fun p => kD p.1)))
  | [m] => match m.lq? with
    | some ds => CanSort ds ∧ G (.ls (sortD ds))
    | none => False
  | _ => False
section
variable {X : Cx} {pins : List (Addr × Obj)} {σ : St} {H H' : Hp} {s : Shared} {K : PySem.W.Frag} {o : Own}
theorem Dats.all_dp {xs : List V} {ds : List D} (h : Dats K o H xs ds) (k : ∀ d ∈ ds, D.ok 64 d = true) : ∀ p ∈ xs.zip ds, Dat K o H p.1 p.2 ∧ Dp K H p.1 p.2.py := by
  induction xs generalizing ds with
  | nil => intro p hp; simp at hp
  | cons x xs ih =>
    cases h with
    | cons a t =>
      intro p hp
      rcases List.mem_cons.mp hp with rfl | hp
      · exact ⟨a, a.dp (k _ List.mem_cons_self)⟩
      · exact ih t (fun d hd => k d (List.mem_cons_of_mem _ hd)) p hp
theorem Dats.of_zip : ∀ {zs : List (V × D)}, (∀ p ∈ zs, Dat K o H p.1 p.2) → Dats K o H (zs.map (·.1)) (zs.map (·.2))
  | [], _ => .nil
  | z :: zs, h => .cons (h z List.mem_cons_self) (Dats.of_zip fun p hp => h p (List.mem_cons_of_mem _ hp))
theorem each_zip {R : Value → V × D → Prop} : ∀ {xs : List V} {us : List Value} {ds : List D}, Vals xs us → xs.length = ds.length → (∀ p ∈ xs.zip ds, ∀ u, RelV p.1 u → R u p) → PySem.W.EachIs R us (xs.zip ds)
  | _, _, [], .nil, _, _ => .nil
  | _, _, d :: ds, .cons r t, hl, h => .cons (h _ (by simp) _ r) (each_zip t (by simpa using hl) fun p hp => h p (by simp [hp]))
theorem each_vals {R : Value → V × D → Prop} (f : ∀ u p, R u p → RelV p.1 u) : ∀ {us : List Value} {zs : List (V × D)}, PySem.W.EachIs R us zs → Vals (zs.map (·.1)) us
  | _, _, .nil => .nil
  | _, _, .cons r t => .cons (f _ _ r) (each_vals f t)
/-- what stands behind the sort -/
theorem sort_fin {xs : List V} {ds : List D} (hl : xs.length = ds.length) (out : List Value) (e : PySem.W.EachIs (fun u p => RelV p.1 u ∧ p ∈ xs.zip ds) out ((xs.zip ds).mergeSort (PySem.W.dataLe false fun p => p.2.py))) (dd : ∀ p ∈ xs.zip ds, Dat K o H p.1 p.2) :
    ∃ ys, Vals ys out ∧ ys.length = ds.length ∧ Dats K o H ys (sortD ds) := by
  refine ⟨_, each_vals (fun u p h => h.1) e, ?_, ?_⟩
  · rw [List.length_map, List.length_mergeSort, List.length_zip, hl, Nat.min_self]
  · have q : sortD ds = ((xs.zip ds).mergeSort (PySem.W.dataLe false fun p => p.2.py)).map (·.2) := by
      unfold sortD
      rw [PySem.W.sort_maps (r := PySem.W.dataLe false fun p : V × D => p.2.py) (s := PySem.W.dataLe false D.py) (f := fun p : V × D => p.2) (l := xs.zip ds) (fun _ _ _ _ => rfl)]
      congr 1
      exact (List.map_snd_zip (by omega)).symm
    rw [q]
    exact Dats.of_zip fun p hp => dd p (List.mem_mergeSort.mp hp)
theorem zip_py {xs : List V} {ds : List D} (hl : xs.length = ds.length) : (xs.zip ds).map (fun p => p.2.py) = ds.map D.py := by
  have e : (xs.zip ds).map (fun p => p.2.py) = ((xs.zip ds).map Prod.snd).map D.py := by rw [List.map_map]; rfl
  rw [e, List.map_snd_zip (by omega)]
theorem sorted_list (hu : X.A.units + 80 < cLine) : CallR X (.builtin "sorted") (fun vs H k => ∃ a xs ds o, vs = [.ref a] ∧ SqL X.K H a xs ∧ Dats X.K o H xs ds ∧ CanSort ds ∧
    ∀ p ys, H p = none → ys.length = ds.length → Dats X.K o H ys (sortD ds) → k (.ref p) (upd H p (.lst ys))) := by
  intro pins s σ H vs us Q I r h
  obtain ⟨a, xs, ds, o, rfl, hs, hd, ⟨c1, c2, c3⟩, q⟩ := h
  obtain ⟨its, rv, hl, hz⟩ := I.list hs
  rw [Vals.ref1 r]
  have dp := hd.all_dp c3
  have er : PySem.W.EachIs (fun v (b : V × D) => ∃ as, Reads s.heap v b.2.py as) its (xs.zip ds) := each_zip rv hd.length fun p hp u ru => (Dp.reads I _ _ _ (dp p hp).2 ru)
  have e : PySem.W.EachIs (fun u (p : V × D) => RelV p.1 u ∧ p ∈ xs.zip ds) its (xs.zip ds) := each_zip rv hd.length fun p hp u ru => ⟨ru, hp⟩
  have hlz : (xs.zip ds).length = ds.length := by rw [List.length_zip, hd.length, Nat.min_self]
  refine PySem.W.sorted_data (enc := fun p : V × D => p.2.py) hl.isList e er (by rw [zip_py hd.length]; exact c1) (by rw [zip_py hd.length]; exact c2) (by rw [hlz, ← hd.length]; exact hz) (fun b hb => ?_) fun out ho eo => ?_
  · have := (D.ok_lay 64 b.2 (c3 b.2 (List.of_mem_zip hb).2)).2
    omega
  · obtain ⟨ys, hv, hly, hdy⟩ := sort_fin hd.length out eo fun p hp => (dp p hp).1
    obtain ⟨ep, he'⟩ := PyProof.Rows.sortedAll_at s.heap its out.toArray
    refine ⟨.ref _, upd H (s.heap.objs.size + 1) (.lst ys), I.laid (t' := s.toks) (fun _ _ => PyProof.Rows.sortedAll_old) (Nat.le_succ _) ⟨by rw [hly, ← hd.length]; exact hz, out, ep, hv, he'⟩, rfl, q _ ys (I.hok.fresh (Nat.le_succ _)) hly hdy⟩
/-- sorted(d), by the keys that a walk over d gives -/
theorem sorted_src {T : String} {r d : Addr} {n : Nat} {P : Nat → Value → Prop} {OK : Heap → Prop} {xs : List V} {ds : List D} {Q : Value → Shared → Prop} {E : Value → Shared → Prop} (S : PySem.W.KdlSrc X.prog X.w T r d n P OK) (hc : X.calm = true) (hu : X.A.units + 80 < cLine) (I : Inv X pins σ H s) (hok : OK s.heap) (hn : n ≤ sizeLine) (hnd : ds.length = n) (hd : Dats X.K o H xs ds) (cs : CanSort ds)
    (hi : ∀ acc : Array Value, PySem.ItemsOf P acc n → Vals xs acc.toList)
    (q : ∀ p ys s', H p = none → ys.length = ds.length → Dats X.K o H ys (sortD ds) → Inv X pins σ (upd H p (.lst ys)) s' → Q (.ref p) s') :
    wpAny (model X.prog X.w) X.A (call (.builtin "sorted") [.ref r]) Q E s := by
  obtain ⟨c1, c2, c3⟩ := cs
  refine Calls.call_function_entry PyProof.Rows.kind_sorted PyProof.Rows.plain_sorted PyProof.Rows.entry_sorted (PyProof.Rows.args_sorted1 _) ?_
  unfold Builtin.«sorted»
  refine wpAny_bind (m := checkCount "sorted" 1 1 _) (wpAny_pure ?_)
  refine wpAny_bind (PySem.W.kdu_collect (A := X.A.in1) S (I.ok.hd hc) hok hn fun h' tk acc hk hacc => ?_)
  have rv := hi acc hacc
  have I1 : Inv X pins σ H { s with heap := h', toks := tk } := I.kept hk
  have dp := hd.all_dp c3
  have hlz : (xs.zip ds).length = ds.length := by rw [List.length_zip, hd.length, Nat.min_self]
  have hal : acc.toList.length = ds.length := by rw [← rv.length, hd.length]
  refine wpAny_bind (wpAny_newList ?_ (by rw [hal, hnd]; exact hn))
  have hoL : (h'.push (PyProof.Rows.seqObj "list" acc.toList.toArray 0)).get? h'.objs.size = some (PyProof.Rows.seqObj "list" acc.toList.toArray 0) := Heap.get?_push_size _ rfl
  show wpAny _ _ _ _ _ { s with heap := h'.push (PyProof.Rows.seqObj "list" acc.toList.toArray 0), toks := tk }
  have er : PySem.W.EachIs (fun v (b : V × D) => ∃ as, Reads (h'.push (PyProof.Rows.seqObj "list" acc.toList.toArray 0)) v b.2.py as ∧ h'.objs.size ∉ as) acc.toList (xs.zip ds) := each_zip rv hd.length fun p hp u ru => by
    obtain ⟨as, ra⟩ := Dp.reads I1 _ _ _ (dp p hp).2 ru
    refine ⟨as, PyProof.Rows.Reads.keeps (fun b u e => Heap.get?_push_of_some _ e) ra, fun hm => ?_⟩
    obtain ⟨u, hu⟩ := PyProof.On.reads_mem_get ra _ hm
    exact absurd (Heap.lt_size hu) (Nat.lt_irrefl _)
  have e : PySem.W.EachIs (fun u (p : V × D) => RelV p.1 u ∧ p ∈ xs.zip ds) acc.toList (xs.zip ds) := each_zip rv hd.length fun p hp u ru => ⟨ru, hp⟩
  refine wpAny_bind (wpAny_holding (PySem.W.list_sort_data (enc := fun p : V × D => p.2.py) (s := { s with heap := h'.push (PyProof.Rows.seqObj "list" acc.toList.toArray 0), toks := tk }) hoL e er (by rw [zip_py hd.length]; exact c1) (by rw [zip_py hd.length]; exact c2) (by rw [hlz, hnd]; exact hn) (fun b hb => ?_) fun out ho eo => ?_))
  · have := (D.ok_lay 64 b.2 (c3 b.2 (List.of_mem_zip hb).2)).2
    show X.A.in1.units + 1 + _ < _
    have h1 : X.A.in1.units = X.A.units + 1 := rfl
    omega
  · obtain ⟨ys, hv, hly, hdy⟩ := sort_fin hd.length out eo fun p hp => (dp p hp).1
    obtain ⟨e', he'⟩ := PyProof.Rows.sortedHeap_at (vs := acc.toList) (out := out.toArray) hoL
    refine wpAny_pure ⟨_, rfl, q h'.objs.size ys _ (I1.hok.fresh (Nat.le_refl _)) hly hdy (I1.laid (t' := tk) (fun b u e => ?_) (Nat.le_refl _)
      (show ObjOk X.prog X.w _ _ _ (.lst ys) from ⟨by rw [hly, hnd]; exact hn, out, e', hv, he'⟩))⟩
    have hb : b < h'.objs.size := Heap.lt_size e
    rw [PyProof.Rows.sortedHeap_old (Nat.ne_of_lt hb) (by show b < (h'.objs.push _).size; rw [Array.size_push]; exact Nat.lt_succ_of_lt hb)]
    exact Heap.get?_push_of_some _ e
/-- items that a walk has collected, told one by one -/
theorem items_of {P : Nat → Value → Prop} {xs : List V} {n : Nat} (hl : xs.length = n) (f : ∀ (k : Nat) (x : V) (u : Value), xs[k]? = some x → P k u → RelV x u) (acc : Array Value) (h : PySem.ItemsOf P acc n) : Vals xs acc.toList :=
  vals_of_at (by rw [hl, Array.length_toList]; exact h.1.symm) fun k x u hx hu => f k x u hx (h.2 k u (by simpa using hu))
theorem sorted_dk (hc : X.calm = true) (hu : X.A.units + 80 < cLine) : CallR X (.builtin "sorted") (fun vs H k => ∃ a kvs ds o, vs = [.ref a] ∧ H a = some (.dK kvs) ∧ Dats X.K o H (kvs.map fun p => kV p.1) ds ∧ CanSort ds ∧
    ∀ p ys, H p = none → ys.length = ds.length → Dats X.K o H ys (sortD ds) → k (.ref p) (upd H p (.lst ys))) := by
  rintro pins s σ H xs us Q I rel ⟨d, kvs, ds, o, rfl, hd, dats, cs, fin⟩
  obtain ⟨len, own, ent, pairs, obj⟩ := (show ObjOk X.prog X.w H s.heap d (.dK kvs) from I.hok d _ hd)
  obtain ⟨age, stands⟩ := obj.dictAt
  have same : kvs.length = ent.length := pairs.length
  rw [Vals.ref1 rel]
  refine sorted_src (PySem.W.kdl_dict (knd := mixKind X.prog X.w) (kvs := ent) (ep := age) own) hc hu I stands (same ▸ len) (by rw [← same, ← dats.length, List.length_map]) dats cs (items_of (by rw [List.length_map, same]) fun j x u hx hp => ?_) fun p ys s' hp hy dy I' => ⟨.ref p, _, I', rfl, fin p ys hp hy dy⟩
  obtain ⟨key, val, at_, is_⟩ := hp
  have kj : (kvs.map fun q => q.1)[j]? = some key := by
    rw [show (kvs.map fun q => q.1) = ent.map (·.1) from KV.keys pairs, List.getElem?_map, at_]
    rfl
  rw [List.getElem?_map] at hx kj
  obtain ⟨q, hq, rfl⟩ := Option.map_eq_some_iff.mp hx
  rw [hq] at kj
  have kj : q.1 = key := Option.some.inj kj
  rw [kj]
  exact keyIs_rel is_
theorem sorted_dt (hc : X.calm = true) (hu : X.A.units + 80 < cLine) : CallR X (.builtin "sorted") (fun vs H k => ∃ a kvs ds o, vs = [.ref a] ∧ H a = some (.dT kvs) ∧ (∀ bs, IsKeys H kvs bs → Dats X.K o H (bs.map V.ref) ds) ∧ CanSort ds ∧
    ∀ p ys, H p = none → ys.length = ds.length → Dats X.K o H ys (sortD ds) → k (.ref p) (upd H p (.lst ys))) := by
  rintro pins s σ H xs us Q I rel ⟨d, kvs, ds, o, rfl, hd, dats, cs, fin⟩
  obtain ⟨len, own, trip, pairs, ob, ents, age, at_, exact_, data, told, nod⟩ := (show ObjOk X.prog X.w H s.heap d (.dT kvs) from I.hok d _ hd)
  have dats := dats _ (isKeys_of pairs)
  have n1 : ents.size = trip.length := size_of_entries told
  have n2 : kvs.length = trip.length := pairs.length
  rw [Vals.ref1 rel]
  refine sorted_src (kdl_raw own exact_ data) hc hu I at_ (by rw [n1, ← n2]; exact len) (by rw [n1, ← dats.length, List.length_map, List.length_map]) dats cs (items_of (by rw [List.length_map, List.length_map, n1]) fun j x u hx hp => ?_) fun p ys s' hp hy dy I' => ⟨.ref p, _, I', rfl, fin p ys hp hy dy⟩
  obtain ⟨en, hen, rfl⟩ := hp
  rw [List.getElem?_map, List.getElem?_map] at hx
  have toldj := entry_at told j
  rw [hen] at toldj
  cases tj : trip[j]? with
  | none => rw [tj] at hx; simp at hx
  | some t =>
    rw [tj] at hx toldj
    have hx : some (V.ref t.2.1) = some x := hx
    cases hx
    have toldj : some en = some (entryOfKey (tupleKind (mixKind X.prog X.w)) t) := toldj
    cases toldj
    rfl
theorem dat_key {k : Key} : Dat K o H (kV k) (kD k) := by
  cases k with
  | inl i => exact .int i
  | inr s => exact .str s
theorem dats_key : ∀ {ks : List Key}, Dats K o H (ks.map kV) (ks.map kD)
  | [] => .nil
  | _ :: _ => .cons dat_key dats_key
theorem dats_keys {kvs : List (Key × V)} {kds : List (Key × D)} (h : Kvs K o H kvs kds) : Dats K o H (kvs.map fun p => kV p.1) (kds.map fun p => kD p.1) := by
  induction h with
  | nil => exact .nil
  | cons a t ih => refine .cons ?_ ih; show Dat K o H (kV _) (kD _); rw [a.1]; exact dat_key
theorem dats_tkeys (mu : ∀ a l, o a = some l → Mt (H a)) {kvs : List (List Key × V)} {kds : List (List Key × D)} (h : Kvs K o H kvs kds) : ∀ {bs : List Addr}, IsKeys H kvs bs → Dats K o H (bs.map V.ref) (kds.map fun p => .tup (p.1.map kD)) := by
  induction h with
  | nil => intro bs hb; cases hb; exact .nil
  | cons a t ih =>
    intro bs hb
    cases hb with
    | @cons _ b _ _ h1 h2 =>
      refine .cons (.tup (xs := _) ⟨?_, h1⟩ ?_) (ih h2)
      · cases e : o b with
        | none => rfl
        | some l => have := mu b l e; rw [h1] at this; exact this.elim
      · rw [a.1]; exact dats_key
theorem sorted_ok (hc : X.calm = true) (hu : X.A.units + 80 < cLine) : CallG X (.builtin "sorted") gSorted := by
  refine callG ((sorted_list hu).or ((sorted_dk hc hu).or (sorted_dt hc hu))) fun vs H k h => ?_
  obtain ⟨o, ms, G, mu, v1, h, q⟩ := h
  unfold gSorted at h
  split at h
  · obtain ⟨v, rfl, w1⟩ := pv1 v1
    obtain ⟨l, a, ks, rfl, _, ha, kv⟩ := w1
    exact .inr (.inr ⟨a, ks, _, o, rfl, ha, fun bs hb => dats_tkeys mu kv hb, h.1, fun p ys hp _ hd => q _ _ (.ls _) (.new hp) ⟨p, ys, rfl, hp, rfl, hd⟩ h.2⟩)
  · obtain ⟨v, rfl, w1⟩ := pv1 v1
    obtain ⟨l, a, ks, rfl, _, ha, kv⟩ := w1
    exact .inr (.inl ⟨a, ks, _, o, rfl, ha, dats_keys kv, h.1, fun p ys hp _ hd => q _ _ (.ls _) (.new hp) ⟨p, ys, rfl, hp, rfl, hd⟩ h.2⟩)
  · obtain ⟨v, rfl, w1⟩ := pv1 v1
    split at h
    · rename_i ds e
      obtain ⟨a, xs, rfl, ht, dd⟩ := w1.lq e
      exact .inl ⟨a, xs, ds, o, rfl, ht, dd, h.1, fun p ys hp _ hd => q _ _ (.ls _) (.new hp) ⟨p, ys, rfl, hp, rfl, hd⟩ h.2⟩
    · exact h.elim
  · exact h.elim
end
end Y
namespace Y
open PySem PySem.Spec L2

/-! ### == of dicts by what they hold -/
def eqKvs (ka kb : List (Key × D)) : Bool := ka.length == kb.length && ka.all fun p => match getK kb p.1 with
  | some e => D.eqv p.2 e
  | none => false
def gEqs2 (neg : Bool) : G2 := fun m n G => match m, n with
  | .dk ka, .dk kb => (∀ p ∈ ka, D.ok 62 p.2 = true) ∧ (∀ p ∈ kb, D.ok 62 p.2 = true) ∧ neg = false ∧ G (.im (.bl (eqKvs ka kb)))
  | m, n => gEqs neg m n G
section
variable {X : Cx} {pins : List (Addr × Obj)} {σ : St} {H H' : Hp} {s : Shared} {K : PySem.W.Frag} {o o' : Own} {c : Cc} {ρ ρ' : Env} {τ τ' τ0 τ1 : List (V × M)}
theorem dat_eqP (I : Inv X pins σ H s) {A : Around} (hu : A.units + 62 < cLine) {x y : V} {v u : Value} {d e : D} (hd : Dat X.K o H x d) (he : Dat X.K o H y e) (kd : D.ok 62 d = true) (ke : D.ok 62 e = true) (rx : RelV x v) (ry : RelV y u) : SeqAt.EqP X.prog X.w A s v u (D.eqv d e) := by
  obtain ⟨as, r1⟩ := Dp.reads I _ _ _ (hd.dp kd) rx
  obtain ⟨bs, r2⟩ := Dp.reads I _ _ _ (he.dp ke) ry
  have q1 := D.ok_lay 62 d kd
  have q2 := D.ok_lay 62 e ke
  exact (SeqAt.eqAt_reads _ _ A s _ _ _ _ r1 r2 q1.1 q2.1 (by have := Nat.min_le_left d.py.depth e.py.depth; omega)).eqP
theorem dat_hits (I : Inv X pins σ H s) {A : Around} (hu : A.units + 62 < cLine) {kb : List (Key × D)} {ls : List (Key × V)} {vb : List (Key × Value)} (hb : Kvs X.K o H ls kb) (kbok : ∀ p ∈ kb, D.ok 62 p.2 = true) (rb : KV ls vb) {ka : List (Key × D)} {ks : List (Key × V)} {va : List (Key × Value)}
    (ha : Kvs X.K o H ks ka) (kaok : ∀ p ∈ ka, D.ok 62 p.2 = true) (ra : KV ks va) : PySem.W.KeqHitsP X.prog X.w A s vb va (ka.all fun p => match getK kb p.1 with
      | some e => D.eqv p.2 e
      | none => false) := by
  induction ha generalizing va with
  | nil => cases ra; exact .nil
  | @cons p q ps qs h t ih =>
    cases ra with
    | @cons _ r _ rs h2 t2 =>
      have ihh := ih (fun p' hp => kaok p' (List.mem_cons_of_mem _ hp)) t2
      have e1 : r.1 = p.1 := h2.1.symm
      have rr : RelO (valV ls p.1) (valueAt vb p.1) := rb.val p.1
      have rd : RelD X.K o H (valV ls p.1) (getK kb p.1) := hb.val p.1
      rw [List.all_cons]
      rw [← h.1]
      obtain ⟨rk, rv⟩ := r
      have e1' : rk = p.1 := e1
      subst e1'
      cases hk : getK kb p.1 with
      | none =>
        rw [hk] at rd
        have hv : valV ls p.1 = none := by
          cases z : valV ls p.1 with
          | none => rfl
          | some u => rw [z] at rd; exact rd.elim
        rw [hv] at rr
        have hn : valueAt vb p.1 = none := by
          cases z : valueAt vb p.1 with
          | none => rfl
          | some u => rw [z] at rr; exact absurd rr (by intro q; first | exact q.elim | cases q)
        exact .miss hn
      | some e =>
        rw [hk] at rd
        cases z : valV ls p.1 with
        | none => rw [z] at rd; exact rd.elim
        | some u =>
          rw [z] at rd rr
          obtain ⟨y, hy, ry⟩ := rr.some_of
          have hm : D.ok 62 e = true := by
            unfold getK at hk
            obtain ⟨kv, hf, rfl⟩ := Option.map_eq_some_iff.mp hk
            exact kbok kv (List.mem_of_find?_eq_some hf)
          exact .hit hy (dat_eqP I hu h.2 rd (kaok q List.mem_cons_self) hm h2.2 ry) ihh
theorem op_eqK (hu : X.A.units + 64 < cLine) : OpR X (compareOp .Eq) (fun x y H Q => ∃ a b ks ls ka kb o, x = .ref a ∧ y = .ref b ∧ H a = some (.dK ks) ∧ H b = some (.dK ls) ∧ Kvs X.K o H ks ka ∧ Kvs X.K o H ls kb ∧ (∀ p ∈ ka, D.ok 62 p.2 = true) ∧ (∀ p ∈ kb, D.ok 62 p.2 = true) ∧
    Q (.bl (eqKvs ka kb)) H) := by
  rintro pins s σ H _ _ _ _ Q I rx ry ⟨a, b, ks, ls, ka, kb, o, rfl, rfl, ha, hb, k1, k2, o1, o2, q⟩
  obtain rfl := rx
  obtain rfl := ry
  have da0 := I.hok a _ ha
  have db0 := I.hok b _ hb
  obtain ⟨_, ya, va, ra, da⟩ := da0
  obtain ⟨_, yb, vb, rb, db⟩ := db0
  refine PySem.W.rcP_dicts (knd := mixKind X.prog X.w) ya yb da db (by omega) (fun _ => dat_hits I (A := X.A.in1) (by show X.A.units + 1 + 62 < cLine; omega) k2 o2 rb k1 o1 ra) _ _ ?_
  refine ⟨.bl _, H, I, ?_, q⟩
  show _ = Value.bool _
  unfold eqKvs
  rw [show va.length = ka.length by rw [← ra.length, k1.length], show vb.length = kb.length by rw [← rb.length, k2.length]]
theorem eq2_ok (hu : X.A.units + 64 < cLine) : OpG X (compareOp .Eq) (gEqs2 false) := by
  rintro pins s σ H x y v u Q I rx ry ⟨o, m1, m2, G, mu, v1, v2, h, q⟩
  unfold gEqs2 at h
  split at h
  · obtain ⟨l1, a, ks, rfl, _, ha, kv⟩ := v1
    obtain ⟨l2, b, ls, rfl, _, hb, lv⟩ := v2
    exact op_eqK hu pins s σ H _ _ v u Q I rx ry ⟨a, b, ks, ls, _, _, o, rfl, rfl, ha, hb, kv, lv, h.1, h.2.1, qim q (.bl _) h.2.2.2⟩
  · exact eq_ok hu pins s σ H x y v u Q I rx ry ⟨o, m1, m2, G, mu, v1, v2, h, q⟩

/-! ### displays -/
/-- a temporary's object is changed -/
theorem Rep.mutT {a : Addr} {m0 : M} (R0 : Rep K c o σ H ρ (τ ++ [(.ref a, m0)])) {m : M} {u : HO} (ho : o a = some (.t τ.length)) (hu : Mt (some u)) (hm : m.own = true)
    (h : IsM K o (upd H a u) (.t τ.length) (.ref a) m) : Rep K c o σ (upd H a u) ρ (τ ++ [(.ref a, m)]) ∧ Le o H o (upd H a u) := by
  have ne : ∀ b l, o b = some l → l ≠ .t τ.length → b ≠ a := fun b l q z w => by subst w; rw [ho] at q; cases q; exact z rfl
  have L : Le o H o (upd H a u) := Le.mk' (fun b w q f => ⟨q, by rw [upd_ne (fun z => by subst z; rw [ho] at q; cases q)]; exact f⟩) (fun b q => ⟨q, upd_ne (ne b _ q (by intro z; cases z))⟩) fun b _ q => ⟨q, upd_ne (ne b _ q (by intro z; cases z))⟩
  have kp : ∀ l, l ≠ .t τ.length → ∀ b, o b = some l → o b = some l ∧ upd H a u b = H b := fun l z b q => ⟨q, upd_ne (ne b l q z)⟩
  refine ⟨⟨fun j s' q => (R0.sl j s' q).mono L (kp _ (by intro z; cases z)) (kp _ (by intro z; cases z)), fun j v m' q => ?_, fun b l q => ?_, R0.le.trans L, R0.ln⟩, L⟩
  · by_cases hj : j < τ.length
    · rw [List.getElem?_append_left hj] at q
      have q' := R0.tm j v m' (by rw [List.getElem?_append_left hj]; exact q)
      exact ⟨q'.1.mono L (kp _ (by intro z; injection z with z; omega)), q'.2⟩
    · rw [List.getElem?_append_right (by omega)] at q
      have hz : j - τ.length = 0 := by
        cases w : j - τ.length with
        | zero => rfl
        | succ n => rw [w] at q; simp at q
      rw [hz] at q
      have e2 : j = τ.length := by omega
      subst e2
      simp at q
      obtain ⟨rfl, rfl⟩ := q
      exact ⟨h, hm⟩
  · by_cases z : b = a
    · subst z; rw [upd_same]; exact hu
    · rw [upd_ne z]; exact R0.mu b l q
def pairUp : List V → List (V × V)
  | x :: y :: r => (x, y) :: pairUp r
  | _ => []
structure DPs (X : Cx) (c : Cc) (pos : Pos) (keys : List (Option Expr)) (values : List Expr) (tl : TL) : Prop where
  ex : ∃ trs, PPs X pos keys values trs ∧ ∀ σ H Q, TAo X.K c tl σ H (fun vs H' => Q (pairUp vs) H') → tPairs trs σ H Q
theorem dps_nil {pos : Pos} : DPs X c pos [] [] lNil := ⟨[], pps_nil, fun σ H Q ⟨o, ρ, τ, Q', R0, h, q⟩ => q [] H o [] ρ τ .refl R0 .nil h⟩
theorem dps_cons {pos : Pos} {k v : Expr} {ks : List (Option Expr)} {vs : List Expr} {tk tv : TX} {tl : TL} (hk : DE X c k tk) (hv : DE X c v tv) (hr : DPs X c pos ks vs tl) : DPs X c pos (some k :: ks) (v :: vs) (lCons tk (lCons tv tl)) := by
  obtain ⟨trs, h1, h2⟩ := hr
  refine ⟨(TEo X.K c tk, TEo X.K c tv) :: trs, pps_cons hk hv h1, fun σ H Q ⟨o, ρ, τ, Q', R0, h, q⟩ => ?_⟩
  refine ⟨o, ρ, τ, _, R0, h, fun v1 H1 o1 r1 ρ1 τ1 L1 R1 z1 h1 => ⟨o1, ρ1, τ1, _, R1, h1, fun v2 H2 o2 r2 ρ2 τ2 L2 R2 z2 h2b => h2 _ _ _ ⟨o2, ρ2, τ2, _, R2, h2b, fun vs H3 o3 rs ρ3 τ3 L3 R3 z3 h3 => ?_⟩⟩⟩
  exact q (v1 :: v2 :: vs) H3 o3 _ ρ3 τ3 (L1.trans (L2.trans L3)) R3 (.cons (z1.mono (L2.trans L3)) (.cons (z2.mono L3) z3)) h3

def pairG {κ : Type} (f : D → Option κ) : List D → Option (List (κ × D))
  | [] => some []
  | k :: d :: r => match f k, pairG f r with
    | some k, some kvs => some ((k, d) :: kvs)
    | _, _ => none
  | _ => none
def D.tkey? : D → Option (List Key)
  | .tup ds => D.keys? ds
  | _ => none
def putAll {κ : Type} [DecidableEq κ] (kvs more : List (κ × D)) : List (κ × D) := more.foldl (fun acc kv => putD acc kv.1 kv.2) kvs
def tDspK (tl : TL) : TX := fun ρ Q => tFrz tl (fun ds ρ1 => match pairG D.key? ds with
  | some kvs => kvs.length ≤ 15 ∧ Q (.tm (.dk (putAll [] kvs))) ρ1
  | none => False) ρ
def tDspT (tl : TL) : TX := fun ρ Q => tFrz tl (fun ds ρ1 => match pairG D.tkey? ds with
  | some kvs => kvs.length ≤ 15 ∧ Q (.tm (.dt (putAll [] kvs))) ρ1
  | none => False) ρ
theorem frzN {f : List D → Env → Prop} {tl : TL} {k : List V → Hp → Prop} (R0 : Rep K c o σ H ρ τ) (h : tFrz tl f ρ)
    (q : ∀ vs H' o' ds ρ', Le o H o' H' → Rep K c o' σ H' ρ' τ → Dats K o' H' vs ds → f ds ρ' → k vs H') : TAo K c tl σ H k := by
  refine ⟨o, ρ, τ, _, R0, h, fun v H1 o1 r ρ1 τ1 L1 R1 z1 h1 => ?_⟩
  split at h1
  · rename_i ds ρ2 e
    have R2 := R1.drop z1.pre
    have els := z1.els (ρ0 := ρ1) (base := τ.length) (Nat.le_refl _) (fun j v m e => (R1.tm j v m e).1)
    obtain ⟨o', L, R3, dd⟩ := froz_ok R2 els e
    exact q v H1 o' _ ρ2 (L1.trans ((dropT_le _).trans L)) R3 dd h1
  · exact h1.elim
theorem Kvs.putAll {κ : Type} [DecidableEq κ] {ks ls : List (κ × V)} {kvs lvs : List (κ × D)} (h : Kvs K o H ks kvs) (g : Kvs K o H ls lvs) : Kvs K o H (ls.foldl (fun acc kv => putK acc kv.1 kv.2) ks) (Y.putAll kvs lvs) := by
  unfold Kvs at g
  induction g generalizing ks kvs with
  | nil => exact h
  | @cons p q ps qs a t ih =>
    have e : Kvs K o H (putK ks p.1 p.2) (putD kvs q.1 q.2) := by rw [← a.1]; exact h.put p.1 a.2
    exact ih e
theorem dspK_pairs : ∀ {vs : List V} {ds : List D} {kvs : List (Key × D)}, Dats K o H vs ds → pairG D.key? ds = some kvs → ∃ ks : List (Key × V), pairUp vs = ks.map (fun kv => (kV kv.1, kv.2)) ∧ Kvs K o H ks kvs ∧ ks.length = kvs.length
  | _, [], _, .nil, e => by simp [pairG] at e; subst e; exact ⟨[], rfl, .nil, rfl⟩
  | _, [_], _, .cons _ .nil, e => by simp [pairG] at e
  | _, k :: d :: r, _, .cons a (.cons b t), e => by
    unfold pairG at e
    split at e
    · rename_i k' kvs e1 e2
      cases e
      obtain ⟨ks, h1, h2, h3⟩ := dspK_pairs t e2
      refine ⟨(k', _) :: ks, ?_, .cons ⟨rfl, b⟩ h2, by simp [h3]⟩
      rw [a.key e1]
      simp only [pairUp, List.map_cons, h1]
    · cases e
theorem le_of_upd {p : Addr} {u w : HO} {o1 : Own} {H1 : Hp} (hp : H p = none) (mu : ∀ a l, o a = some l → Mt (H a)) (L : Le (fun b => if b = p then some (.t τ.length) else o b) (upd H p u) o1 H1) : Le o H o1 H1 := by
  have ne : ∀ b w, H b = some w → b ≠ p := fun b w e => ne_of_none e hp
  have neo : ∀ b l, o b = some l → b ≠ p := fun b l e => by obtain ⟨w, q⟩ := mut_some (mu b _ e); exact ne b w q
  have at_ : ∀ b l, o b = some l → (if b = p then some (Lb.t τ.length) else o b) = some l := fun b l e => by rw [if_neg (neo b l e)]; exact e
  exact Le.trans (.mk' (fun b w e f => ⟨by show (if b = p then _ else o b) = none; rw [if_neg (ne b w f)]; exact e, by rw [upd_ne (ne b w f)]; exact f⟩) (fun b e => ⟨at_ b _ e, upd_ne (neo b _ e)⟩) fun b _ e => ⟨(at_ b _ e), upd_ne (neo b _ e)⟩) L
section
variable {keys : List (Option Expr)} {values : List Expr} {pos : Pos} {tl : TL}
theorem de_dspK (h : DPs X c pos keys values tl) (hall : keys.all (·.isSome) = true := by rfl) (hl : keys.length = values.length := by rfl) (h0 : keys ≠ [] := by exact List.cons_ne_nil _ _) (h15 : keys.length ≤ 15 := by decide) : DE X c (.Dict keys values pos) (tDspK tl) := by
  obtain ⟨trs, h1, h2⟩ := h
  refine peImp (pe_disp h1 hall hl h0 h15) fun σ H k ⟨o, ρ, τ, Q, R0, h, q⟩ => fun p hp => ?_
  obtain ⟨R1, L1⟩ := R0.push (m := .dk []) (u := .dK []) hp trivial rfl ⟨p, [], rfl, by simp, upd_same, .nil⟩
  refine h2 _ _ _ (frzN R1 h fun vs H2 o2 ds ρ2 L2 R2 dd hf => ?_)
  split at hf
  · rename_i kvs e
    obtain ⟨ks, e1, kk, kl⟩ := dspK_pairs dd e
    obtain ⟨⟨a, xs, ea, ho, hH, hx⟩, _⟩ := R2.tm τ.length (.ref p) (.dk []) (by simp)
    cases ea
    cases hx
    refine ⟨hH, ks, e1, by rw [kl]; exact hf.1, ?_⟩
    have L3 : Le o2 H2 o2 (upd H2 p (.dK (mergeK [] ks))) := Le.mk' (fun b w q f => ⟨q, by rw [upd_ne (fun z => by subst z; rw [ho] at q; cases q)]; exact f⟩) (fun b q => ⟨q, upd_ne (fun z => by subst z; rw [ho] at q; cases q)⟩) fun b _ q => ⟨q, upd_ne (fun z => by subst z; rw [ho] at q; cases q)⟩
    obtain ⟨R3, L3⟩ := R2.mutT (m := .dk (putAll [] kvs)) (u := .dK (mergeK [] ks)) ho trivial rfl ⟨p, _, rfl, ho, upd_same, Kvs.mono L3 (Kvs.putAll .nil kk)⟩
    exact q _ _ o2 (.tm _) ρ2 _ (L1.trans (L2.trans L3)) R3 rfl hf.2
  · exact hf.elim

/-- {(..): v, ..}; the new dict stands empty while the pairs are made -/
def mergeT (kvs more : List (List Key × V)) : List (List Key × V) := more.foldl (fun acc kv => putK acc kv.1 kv.2) kvs
def tDispT (trs : List (TE × TE)) : TE := fun σ H Q => ∀ p, H p = none → tPairs trs σ (upd H p (.dT [])) fun ps H2 => H2 p = some (.dT []) ∧ ∃ kvs : List (List Key × V), Paired (fun (x : V × V) (y : List Key × V) => ∃ b, x = (V.ref b, y.2) ∧ H2 b = some (.tup (y.1.map kV))) ps kvs ∧ kvs.length ≤ 15 ∧
  Q (.ref p) (upd H2 p (.dT (mergeT [] kvs)))
theorem carriesT {P : Program} {w : World} {h : Heap} (ok : HOk P w H h) {ps : List (V × V)} {kvs : List (List Key × V)} (hp : Paired (fun (x : V × V) (y : List Key × V) => ∃ b, x = (V.ref b, y.2) ∧ H b = some (.tup (y.1.map kV))) ps kvs) : ∀ {ws : List (Value × Value)}, VV ps ws → ∃ rs, CarriesH (tupleKind (mixKind P w)) h ws rs ∧ KT H kvs rs := by
  induction hp with
  | nil => intro ws r; cases r; exact ⟨[], trivial, .nil⟩
  | @cons x y xs ys a t ih =>
    intro ws r
    cases r with
    | @cons _ w1 _ ws h1 h2 =>
      obtain ⟨rs, c1, c2⟩ := ih h2
      obtain ⟨b, rfl, hb⟩ := a
      obtain ⟨k1, k2⟩ := w1
      have e : k1 = Value.ref b := h1.1
      subst e
      exact ⟨(y.1, b, k2) :: rs, ⟨rfl, rfl, key_of ok hb, c1⟩, .cons ⟨rfl, hb, h1.2⟩ c2⟩
theorem KT.merge {kvs : List (List Key × V)} {xs : List (List Key × Addr × Value)} (r : KT H kvs xs) : ∀ {more : List (List Key × V)} {rs : List (List Key × Addr × Value)}, KT H more rs → KT H (mergeT kvs more) (storedAllH xs rs) := by
  intro more rs g
  induction g generalizing kvs xs with
  | nil => exact r
  | @cons p q ps qs a t ih =>
    have e : KT H (putK kvs p.1 p.2) (storedH xs q.1 q.2.1 q.2.2) := by rw [← a.1]; exact r.put p.1 a.2.1 a.2.2
    exact ih e
theorem length_mergeT (more : List (List Key × V)) : ∀ kvs : List (List Key × V), (mergeT kvs more).length ≤ kvs.length + more.length := by
  induction more with
  | nil => exact fun kvs => Nat.le_refl kvs.length
  | cons p r ih =>
    intro kvs
    refine Nat.le_trans (ih (putK kvs p.1 p.2)) ?_
    have := length_putK kvs p.1 p.2
    simp only [List.length_cons]; omega
/-- a dict with tuple keys is written anew -/
theorem dt_write {pins : List (Addr × Obj)} {σ : St} {s : Shared} {a : Addr} {k0 ks : List (List Key × V)} {rs : List (List Key × Addr × Value)} {h' : Heap} {tk : Tok} (I : Inv X pins σ H s) (e : H a = some (.dT k0))
    (hz : ks.length ≤ sizeLine) (rk : KT H ks rs) (hs : Heap.SameBut a s.heap h') (dd : h'.DictOfH (tupleKind (mixKind X.prog X.w)) a rs) : Inv X pins σ (upd H a (.dT ks)) { s with heap := h', toks := tk } := by
  have up : KT (upd H a (.dT ks)) ks rs := rk.keeps fun c ys z => (upd_ne fun w => by rw [w, e] at z; cases z).trans z
  obtain ⟨ob, es, ep, g1, g2, g3, g4, _, g5⟩ := dd
  exact d_write I (by rw [e]; trivial) hs ⟨ob, g1⟩ ⟨hz, (dt_of I.hok e).2.1, rs, up, ob, es, ep, g1, g2, g3, g4, g5⟩
theorem pe_dispT {trs : List (TE × TE)} (hu : X.A.units + 1 < cLine) (h : PPs X pos keys values trs) (hall : keys.all (·.isSome) = true) (hl : keys.length = values.length) (h0 : keys ≠ [])
    (h15 : keys.length ≤ 15) : PE X (.Dict keys values pos) (tDispT trs) := by
  constructor
  intro pins s σ H Q I q
  have I1 := I.laid (a := s.heap.objs.size) (o := .dT []) (h' := s.heap.push { cls := .type "dict", data := .dict #[] }) (t' := s.toks) (fun _ _ q => Heap.get?_push_of_some _ q) (Nat.le_refl _) (dt_empty s.heap I.big)
  have hpl := pairTrees_length keys values X.env pos hall hl
  have hne : pairTrees keys values X.env pos ≠ [] := fun he => h0 (List.length_eq_zero_iff.mp (by rw [← hpl, he]; rfl))
  rw [arm_eval_Dict, zip_pairTrees keys values X.env pos hall hl, dictDisplay_pairs _ hne (by omega)]
  refine wpAny_bind (wpAny_standAt (wpAny_bind (wpAny_subDictH (knd := tupleKind (mixKind X.prog X.w)) (by show X.A.units < cLine; omega) (by omega) (thn (h.run pins _ σ _ _ I1 (q _ (I.hok.fresh (Nat.le_refl _)))) ?_))))
  rintro ws s2 ⟨ps, H2, I2, rel, e, kvs, ep, lk, q2⟩
  obtain ⟨rs, cr, rk⟩ := carriesT I2.hok ep rel
  obtain ⟨_, _, _, r0, d0⟩ := dt_of I2.hok e
  cases r0
  refine ⟨rs, cr, d0, fun h' tk dd' hs => wpAny_pure ⟨.ref s.heap.objs.size, _, dt_write I2 e ?_ (KT.merge .nil rk) hs dd', rfl, q2⟩⟩
  have := length_mergeT kvs []
  rw [sizeLine_eq]; simp only [List.length_nil] at this; omega
theorem dspT_pairs : ∀ {vs : List V} {ds : List D} {kvs : List (List Key × D)}, Dats K o H vs ds → pairG D.tkey? ds = some kvs → ∃ ks : List (List Key × V), Paired (fun (x : V × V) (y : List Key × V) => ∃ b, x = (V.ref b, y.2) ∧ H b = some (.tup (y.1.map kV))) (pairUp vs) ks ∧ Kvs K o H ks kvs ∧ ks.length = kvs.length
  | _, [], _, .nil, e => by simp [pairG] at e; subst e; exact ⟨[], .nil, .nil, rfl⟩
  | _, [_], _, .cons _ .nil, e => by simp [pairG] at e
  | _, k :: d :: r, _, .cons a (.cons b t), e => by
    unfold pairG at e
    split at e
    · rename_i k' kvs e1 e2
      cases e
      obtain ⟨ks, h1, h2, h3⟩ := dspT_pairs t e2
      unfold D.tkey? at e1
      split at e1
      · cases a with
        | tup tt rr =>
          refine ⟨(k', _) :: ks, .cons ⟨_, rfl, ?_⟩ h1, .cons ⟨rfl, b⟩ h2, by simp [h3]⟩
          rw [← rr.keys e1]; exact tt.2
      · cases e1
    · cases e
theorem de_dspT (hu : X.A.units + 1 < cLine) (h : DPs X c pos keys values tl) (hall : keys.all (·.isSome) = true := by rfl) (hl : keys.length = values.length := by rfl) (h0 : keys ≠ [] := by exact List.cons_ne_nil _ _) (h15 : keys.length ≤ 15 := by decide) : DE X c (.Dict keys values pos) (tDspT tl) := by
  obtain ⟨trs, h1, h2⟩ := h
  refine peImp (pe_dispT hu h1 hall hl h0 h15) fun σ H k ⟨o, ρ, τ, Q, R0, h, q⟩ => fun p hp => ?_
  obtain ⟨R1, L1⟩ := R0.push (m := .dt []) (u := .dT []) hp trivial rfl ⟨p, [], rfl, by simp, upd_same, .nil⟩
  refine h2 _ _ _ (frzN R1 h fun vs H2 o2 ds ρ2 L2 R2 dd hf => ?_)
  split at hf
  · rename_i kvs e
    obtain ⟨ks, e1, kk, kl⟩ := dspT_pairs dd e
    obtain ⟨⟨a, xs, ea, ho, hH, hx⟩, _⟩ := R2.tm τ.length (.ref p) (.dt []) (by simp)
    cases ea
    cases hx
    refine ⟨hH, ks, e1, by rw [kl]; exact hf.1, ?_⟩
    have L3 : Le o2 H2 o2 (upd H2 p (.dT (mergeT [] ks))) := Le.mk' (fun b w q f => ⟨q, by rw [upd_ne (fun z => by subst z; rw [ho] at q; cases q)]; exact f⟩) (fun b q => ⟨q, upd_ne (fun z => by subst z; rw [ho] at q; cases q)⟩) fun b _ q => ⟨q, upd_ne (fun z => by subst z; rw [ho] at q; cases q)⟩
    obtain ⟨R3, L3⟩ := R2.mutT (m := .dt (putAll [] kvs)) (u := .dT (mergeT [] ks)) ho trivial rfl ⟨p, _, rfl, ho, upd_same, Kvs.mono L3 (Kvs.putAll .nil kk)⟩
    exact q _ _ o2 (.tm _) ρ2 _ (L1.trans (L2.trans L3)) R3 rfl hf.2
  · exact hf.elim
end
end
end Y
namespace Y
open PySem PySem.Spec L2
/-! ### the plain side: one statement at a time, what follows kept folded -/
theorem seq_step {t u : TSX} {P : EndP} {ρ : Env} (h : ∀ R, R = u P → t { P with nx := R } ρ) : sSeq t u P ρ := h _ rfl
theorem loop_step {b : Bd} {t : TSX} {gd : Env → Prop} {P : EndP} {d : D} {ds : List D} {ρ : Env} (g : gd ρ) (h : ∀ L, L = loopS b t gd P ds → bnd b d ρ fun ρ1 => t { P with nx := L, ct := L, bk := P.nx } ρ1) : loopS b t gd P (d :: ds) ρ := ⟨g, h _ rfl⟩
theorem while_step {q : TQ} {t : TSX} {P : EndP} {n : Nat} {ρ : Env} (h : ∀ L, L = whileS q t P n → q ρ fun b ρ1 => if b = true then t { P with nx := L, ct := L, bk := P.nx } ρ1 else P.nx ρ1) : whileS q t P (n + 1) ρ := h _ rfl
theorem comp_step {b : Bd} {tq : TQ} {te : TX} {vs : List Nat} {gd : Env → Prop} {k : List D → Env → Prop} {d : D} {ds acc : List D} {ρ : Env} (g : gd ρ) (h : ∀ L, L = compL b tq te vs gd k ds → bnd b d ρ fun ρ1 => tq ρ1 fun ok ρ2 =>
    if ok = true then tFrz (lCons te lNil) (fun xs ρ3 => match xs with
      | [x] => acc.length < sizeLine ∧ L (acc ++ [x]) (wipeE ρ3 vs)
      | _ => False) ρ2
    else L acc (wipeE ρ2 vs)) : compL b tq te vs gd k (d :: ds) acc ρ := ⟨g, h _ rfl⟩
/-! what a call leaves in a slot -/
theorem putS_lo_ls_ls {a : List D} {b : List D} : putS (some (.ls b)) (some (.lo (.ls a))) = some (.lo (.ls b)) := rfl
theorem putS_lo_ls_dk {a : List D} {b : List (Key × D)} : putS (some (.dk b)) (some (.lo (.ls a))) = some (.lo (.dk b)) := rfl
theorem putS_lo_ls_dt {a : List D} {b : List (List Key × D)} : putS (some (.dt b)) (some (.lo (.ls a))) = some (.lo (.dt b)) := rfl
theorem putS_lo_ls_no {a : List D} : putS none (some (.lo (.ls a))) = some .no := rfl
theorem putS_pa_ls_ls {a : List D} {b : List D} : putS (some (.ls b)) (some (.pa (.ls a))) = some (.pa (.ls b)) := rfl
theorem putS_pa_ls_dk {a : List D} {b : List (Key × D)} : putS (some (.dk b)) (some (.pa (.ls a))) = some (.pa (.dk b)) := rfl
theorem putS_pa_ls_dt {a : List D} {b : List (List Key × D)} : putS (some (.dt b)) (some (.pa (.ls a))) = some (.pa (.dt b)) := rfl
theorem putS_pa_ls_no {a : List D} : putS none (some (.pa (.ls a))) = some .no := rfl
theorem putS_lo_rd_ls {a : List D} {b : List D} : putS (some (.ls b)) (some (.lo (.rd a))) = some (.lo (.ls b)) := rfl
theorem putS_lo_rd_dk {a : List D} {b : List (Key × D)} : putS (some (.dk b)) (some (.lo (.rd a))) = some (.lo (.dk b)) := rfl
theorem putS_lo_rd_dt {a : List D} {b : List (List Key × D)} : putS (some (.dt b)) (some (.lo (.rd a))) = some (.lo (.dt b)) := rfl
theorem putS_lo_rd_no {a : List D} : putS none (some (.lo (.rd a))) = some .no := rfl
theorem putS_pa_rd_ls {a : List D} {b : List D} : putS (some (.ls b)) (some (.pa (.rd a))) = some (.pa (.ls b)) := rfl
theorem putS_pa_rd_dk {a : List D} {b : List (Key × D)} : putS (some (.dk b)) (some (.pa (.rd a))) = some (.pa (.dk b)) := rfl
theorem putS_pa_rd_dt {a : List D} {b : List (List Key × D)} : putS (some (.dt b)) (some (.pa (.rd a))) = some (.pa (.dt b)) := rfl
theorem putS_pa_rd_no {a : List D} : putS none (some (.pa (.rd a))) = some .no := rfl
theorem putS_lo_dk_ls {a : List (Key × D)} {b : List D} : putS (some (.ls b)) (some (.lo (.dk a))) = some (.lo (.ls b)) := rfl
theorem putS_lo_dk_dk {a : List (Key × D)} {b : List (Key × D)} : putS (some (.dk b)) (some (.lo (.dk a))) = some (.lo (.dk b)) := rfl
theorem putS_lo_dk_dt {a : List (Key × D)} {b : List (List Key × D)} : putS (some (.dt b)) (some (.lo (.dk a))) = some (.lo (.dt b)) := rfl
theorem putS_lo_dk_no {a : List (Key × D)} : putS none (some (.lo (.dk a))) = some .no := rfl
theorem putS_pa_dk_ls {a : List (Key × D)} {b : List D} : putS (some (.ls b)) (some (.pa (.dk a))) = some (.pa (.ls b)) := rfl
theorem putS_pa_dk_dk {a : List (Key × D)} {b : List (Key × D)} : putS (some (.dk b)) (some (.pa (.dk a))) = some (.pa (.dk b)) := rfl
theorem putS_pa_dk_dt {a : List (Key × D)} {b : List (List Key × D)} : putS (some (.dt b)) (some (.pa (.dk a))) = some (.pa (.dt b)) := rfl
theorem putS_pa_dk_no {a : List (Key × D)} : putS none (some (.pa (.dk a))) = some .no := rfl
theorem putS_lo_dt_ls {a : List (List Key × D)} {b : List D} : putS (some (.ls b)) (some (.lo (.dt a))) = some (.lo (.ls b)) := rfl
theorem putS_lo_dt_dk {a : List (List Key × D)} {b : List (Key × D)} : putS (some (.dk b)) (some (.lo (.dt a))) = some (.lo (.dk b)) := rfl
theorem putS_lo_dt_dt {a : List (List Key × D)} {b : List (List Key × D)} : putS (some (.dt b)) (some (.lo (.dt a))) = some (.lo (.dt b)) := rfl
theorem putS_lo_dt_no {a : List (List Key × D)} : putS none (some (.lo (.dt a))) = some .no := rfl
theorem putS_pa_dt_ls {a : List (List Key × D)} {b : List D} : putS (some (.ls b)) (some (.pa (.dt a))) = some (.pa (.ls b)) := rfl
theorem putS_pa_dt_dk {a : List (List Key × D)} {b : List (Key × D)} : putS (some (.dk b)) (some (.pa (.dt a))) = some (.pa (.dk b)) := rfl
theorem putS_pa_dt_dt {a : List (List Key × D)} {b : List (List Key × D)} : putS (some (.dt b)) (some (.pa (.dt a))) = some (.pa (.dt b)) := rfl
theorem putS_pa_dt_no {a : List (List Key × D)} : putS none (some (.pa (.dt a))) = some .no := rfl
theorem putS_lo_im {a : D} {f : Option M} : putS f (some (.lo (.im a))) = none := rfl
theorem putS_lo_sq {a : List D} {f : Option M} : putS f (some (.lo (.sq a))) = none := rfl
theorem putS_pa_im {a : D} {f : Option M} : putS f (some (.pa (.im a))) = none := rfl
theorem putS_pa_sq {a : List D} {f : Option M} : putS f (some (.pa (.sq a))) = none := rfl
theorem gRng_zero (lo : Int) : gRng lo 0 = [] := rfl
theorem gRng_succ (lo : Int) (n : Nat) : gRng lo (n + 1) = .int lo :: gRng (lo + 1) n := by
  unfold gRng
  rw [List.range_succ_eq_map, List.map_cons, List.map_map]
  congr 1
  · simp
  · apply List.map_congr_left; intro i _; simp; omega
/-- small factors -/
theorem log2_lt {i : Int} (k : Nat) (h1 : -(2 ^ k) < i) (h2 : i < 2 ^ k) (hk : 0 < k) : i.natAbs.log2 < k := by
  by_cases z : i.natAbs = 0
  · rw [z]; simpa using hk
  · rw [Nat.log2_lt z]
    have e : ((2 : Int) ^ k) = ((2 ^ k : Nat) : Int) := by norm_cast
    rw [e] at h1 h2
    omega
theorem cMul {i j : Int} (a : -(2 ^ 64) < i ∧ i < 2 ^ 64) (b : -(2 ^ 64) < j ∧ j < 2 ^ 64) : CMulW i j := by
  have h1 := log2_lt 64 a.1 a.2 (by decide)
  have h2 := log2_lt 64 b.1 b.2 (by decide)
  unfold CMulW; omega
theorem cDiv {i j : Int} (b : 0 < j ∧ j < 2 ^ 64) : CDivW i j := by
  have h2 := log2_lt (i := j) 64 (by omega) b.2 (by decide)
  exact ⟨b.1, by omega⟩
/-- an index that stands -/
theorem atI_ok {α : Type} {xs : List α} {i : Int} (h0 : 0 ≤ i) (h : i < xs.length) : ∃ x, atI xs i = some x ∧ xs[i.toNat]? = some x := by
  refine ⟨xs[i.toNat]'(by omega), ?_, List.getElem?_eq_getElem (by omega)⟩
  unfold atI ixN
  rw [if_pos h0, if_pos h]
  exact List.getElem?_eq_getElem (by omega)
theorem ixN_ok {n : Nat} {i : Int} (h0 : 0 ≤ i) (h : i < n) : ixN n i = some i.toNat := by unfold ixN; rw [if_pos h0, if_pos h]
theorem atI_map {α β : Type} (f : α → β) (xs : List α) (i : Int) : atI (xs.map f) i = (atI xs i).map f := by
  unfold atI
  rw [List.length_map]
  cases ixN xs.length i with
  | none => rfl
  | some j => exact List.getElem?_map

/-! ### comprehensions that leave the environment as it is -/
theorem comp_fix {α : Type} {b : Bd} {tq : TQ} {te : TX} {vs : List Nat} {gd : Env → Prop} {k : List D → Env → Prop} {ρ : Env} (g : α → D) (f : α → Option D) (hg : gd ρ) : ∀ (xs : List α) (acc : List D),
    (∀ x ∈ xs, ∀ (acc : List D) (L : List D → Env → Prop), acc.length < sizeLine → (match f x with
      | some y => L (acc ++ [y]) ρ
      | none => L acc ρ) → bnd b (g x) ρ fun ρ1 => tq ρ1 fun ok ρ2 => if ok = true then tFrz (lCons te lNil) (fun xs ρ3 => match xs with
        | [x] => acc.length < sizeLine ∧ L (acc ++ [x]) (wipeE ρ3 vs)
        | _ => False) ρ2 else L acc (wipeE ρ2 vs)) →
    acc.length + xs.length ≤ sizeLine → k (acc ++ xs.filterMap f) ρ → compL b tq te vs gd k (xs.map g) acc ρ := by
  intro xs
  induction xs with
  | nil => intro acc _ _ h; rw [List.filterMap_nil, List.append_nil] at h; exact ⟨hg, h⟩
  | cons x xs ih =>
    intro acc st hl h
    rw [List.length_cons] at hl
    refine ⟨hg, st x List.mem_cons_self acc _ (by omega) ?_⟩
    cases e : f x with
    | some y =>
      refine ih _ (fun z hz => st z (List.mem_cons_of_mem _ hz)) (by rw [List.length_append, List.length_singleton]; omega) ?_
      rw [List.filterMap_cons, e] at h
      rw [List.append_assoc]; exact h
    | none =>
      refine ih _ (fun z hz => st z (List.mem_cons_of_mem _ hz)) (by omega) ?_
      rw [List.filterMap_cons, e] at h
      exact h
end Y
namespace Y
open PySem PySem.Spec L2
/-! ### the law's def, called with a list of ints -/
theorem hsp_of {F : TF} (hF : ∀ (ns : List Int) (G : M → List (Option M) → Prop), ns.length ≤ 63 → (∀ fin, G (.im (.bl true)) fin) → F [.sq (ns.map D.int)] G) (K : PySem.W.Frag) (H : Hp) (a : Addr) (ns : List Int) (hl : ns.length ≤ 63) (_ : Only H) (hS : SqL K H a (ns.map V.int)) :
    spD K F 1 [.ref a] H (fun v _ => v = .bl true) fun _ _ _ => False := by
  refine ⟨fun _ => none, [.sq (ns.map D.int)], fun m _ => m = .im (.bl true), rfl, ⟨rfl, fun i v m e1 e2 => ?_, fun a l e => by cases e⟩, hF ns _ hl fun _ => rfl, fun v H' o' m fin _ _ i _ e => ?_⟩
  · cases i with
    | zero =>
      cases e1; cases e2
      refine ⟨a, ns.map V.int, rfl, ?_, Dats.of_ints ns⟩
      rcases hS with h | h
      · exact .inl ⟨.inl rfl, h⟩
      · exact .inr h
    | succ i => simp at e1
  · subst e
    cases (show Dat K o' H' v (.bl true) from i)
    rfl
theorem walkY {l : PySem.W.OpenLaw} {q : Program} {loose : List Str} {XP : (Str → Option Value) → Heap → Prop} {YP : World → Heap → Prop} {d : DefRec} {K : Params → PySem.W.Frag} {F : TF} (hn : l.most = some 63) (hdf : d.params.defaults = [])
    (hF : ∀ (ns : List Int) (G : M → List (Option M) → Prop), ns.length ≤ 63 → (∀ fin, G (.im (.bl true)) fin) → F [.sq (ns.map D.int)] G)
    (hY : ∀ (w : World) (h : Heap), YP w h → (K w.params).In h)
    (Fk : ∀ (w : World) (mg : Str → Option Value) (fa : Addr) (h : Heap), (K w.params).In h → h.Ns mainGlobals mg → mg d.name = some (.ref fa) →
      ∃ fd : FuncData, (∀ (s : Shared) (u : Value), BindsTo s fd ⟨[u], []⟩ [("script", u)]) ∧ ∀ base : Heap, (K w.params).In base → base.Ns mainGlobals mg → FnOk l.prog w (K w.params) mg base CX0 65 fa fd ["script"] (spD (K w.params) F 1)) :
    PySem.W.WalkO q loose XP YP l.row.toRowW d [] (fun f vs => PySem.call f vs) :=
  L2.walk_of (n := 63) (k := 65) (x := "script") (CX := fun _ => CX0) (sp := fun w => spD (K w.params) F 1) hn (by decide) hdf ⟨rfl, by decide, by decide⟩ hY Fk (fun w H a ns h1 h2 h3 => hsp_of hF (K w.params) H a ns h1 h2 h3) fun _ _ _ _ _ z => z
/-- a promise that nobody calls on -/
theorem fn_never {Pg : Program} {w : World} {K : PySem.W.Frag} {mg : Str → Option Value} {base : Heap} {name : Str} {st : Stmt} {ps : List Str} {Df : DefAt K mg name st ps} {k : Nat} {F : TF} (h : ∀ ms G, ¬ F ms G) : FnD Pg w K mg base Df k F :=
  ⟨fun vs H Q E ⟨o, ms, G, hl, _⟩ => hl, fun A outer s H args us vs Q E _ _ _ _ ⟨o, ms, G, _, _, hf, _⟩ => (h ms G hf).elim⟩
end Y
namespace Y
open PySem PySem.Spec L2
/-! ### enumerate(t), t anything that the library knows how to begin -/
set_option maxHeartbeats 2000000 in
theorem enum_newV {v : Value} {o : Obj} {H : Heap → Prop} (B : Begins v o H) :
    Meets (Builtin.«enumerate.__new__» ⟨[.type "enumerate", v], []⟩) (fun _ R s => H s.heap ∧
      R (.ok (.ret (.ref (s.heap.push o).objs.size))) { s with heap := (s.heap.push o).push { cls := .type "enumerate", data := .fields #[.none, .bool false, .ref s.heap.objs.size, rawInt 0, .none, .none] } }) := by
  refine .of_wp fun prog w A R st hyp => ?_
  obtain ⟨heap, gens, drawn, toks, os⟩ := st
  obtain ⟨pre, post⟩ := hyp
  have hsub := sub_enumerate
  have start : ∀ {A2 : Around} {X2 Q2 : Value → Shared → Prop}, Q2 (.ref heap.objs.size) ⟨heap.push o, gens, drawn, toks, os⟩ →
      wpAny (model prog w) A2 (pyIter v) Q2 X2 ⟨heap, gens, drawn, toks, os⟩ := fun {A2 X2 Q2} k => B.iter prog w A2 X2 _ Q2 pre k
  wp_walk
  apply wpAny_stack_any
  intro stack
  apply wpAny_pure
  split
  case h_1 c _ _ _ _ _ => cases hc : (c == Value.type "enumerate") <;> (wp_walk using start; exact ⟨_, rfl, post⟩)
  all_goals (wp_walk using start; exact ⟨_, rfl, post⟩)
theorem enum_callV {prog : Program} {w : World} {A : Around} {E Q : Value → Shared → Prop} {s : Shared} {v : Value} {o : Obj} {H : Heap → Prop} (B : Begins v o H) (pre : H s.heap)
    (k : ∀ h', IsEnum h' (s.heap.objs.size + 1) s.heap.objs.size 0 .none → h'.get? s.heap.objs.size = some o → h'.objs.size = s.heap.objs.size + 2 →
      (∀ b u, s.heap.get? b = some u → h'.get? b = some u) → Q (.ref (s.heap.objs.size + 1)) { s with heap := h' }) : wpAny (model prog w) A (call (.type "enumerate") [v]) Q E s := by
  have n1 : (s.heap.push o).objs.size = s.heap.objs.size + 1 := by rw [Heap.size_push]
  refine callType_new F.called_enumerate (by decide) (F.typeCall_enumerate_1 v) (F.newCall_enumerate_1 v) (fun ob => F.args_object_init_2 ob v) F.entry_enumerate_new (enum_newV B) ⟨pre, ?_⟩
  generalize hcell : ({ cls := .type "enumerate", data := .fields #[.none, .bool false, .ref s.heap.objs.size, rawInt 0, .none, .none] } : Obj) = cell
  have free : cell.isFreed = false := by rw [← hcell]; rfl
  have at1 : ((s.heap.push o).push cell).get? (s.heap.objs.size + 1) = some cell := by rw [← n1]; exact Heap.get?_push_size _ free
  have isE : IsEnum ((s.heap.push o).push cell) (s.heap.objs.size + 1) s.heap.objs.size 0 .none := by rw [← hcell] at at1 ⊢; exact at1
  show _ ∧ Q (.ref (s.heap.push o).objs.size) _
  rw [n1]
  exact ⟨⟨cell, at1, by rw [← hcell]⟩, k _ isE (Heap.get?_push_of_some _ (Heap.get?_push_size s.heap B.free)) (by rw [Heap.size_push, n1]) fun b u hb => Heap.get?_push_of_some _ (Heap.get?_push_of_some _ hb)⟩
/-- the tuple at a: each item in a new pair -/
def IteT (K : PySem.W.Frag) (a : Addr) : It where
  go := fun i H => ∃ (xs : List V) (x : V), SqT K H a xs ∧ xs[i]? = some x
  yld := fun i H v H' => ∃ T x, v = .ref T ∧ H T = none ∧ H' = upd H T (.tup [.int (i : Nat), x]) ∧ ∀ xs, SqT K H a xs → xs[i]? = some x
  stop := fun i H => ∃ xs : List V, SqT K H a xs ∧ xs.length = i
/-- how the two new objects stand at the i-th turn -/
def EnT (a e it : Addr) (i : Nat) (h : Heap) : Prop := (∃ old, IsEnum h e it ((i : Nat) : Int) old) ∧ h.IsTupleIter it a i ∧ e ≠ it ∧ a ≠ it ∧ a ≠ e
theorem EnT.keep {a e it : Addr} {i : Nat} {h h' : Heap} (z : EnT a e it i h) (k : ∀ b, b = e ∨ b = it → ∀ u, h.get? b = some u → h'.get? b = some u) : EnT a e it i h' := by
  obtain ⟨⟨old, z1⟩, z2, z3⟩ := z
  exact ⟨⟨old, k e (.inl rfl) _ z1⟩, z2.at fun u => k it (.inr rfl) u, z3⟩
theorem EnT.objs {a e it : Addr} {i : Nat} {h : Heap} (z : EnT a e it i h) : (∃ u, h.get? e = some u ∧ ∀ v, u.data ≠ .cell v) ∧ ∃ u, h.get? it = some u ∧ ∀ v, u.data ≠ .cell v := by
  obtain ⟨⟨old, z1⟩, ⟨u, z2, _, z4⟩, _⟩ := z
  refine ⟨⟨_, z1, fun v => by simp⟩, u, z2, fun v q => by rw [z4] at q; cases q⟩
theorem turn_enumT {P : Program} {w : World} {K : PySem.W.Frag} {elts : List Expr} {kk : Nat} {tpos : Pos} (a e it : Addr) : Turn P w K (.Tuple elts kk tpos) (IteT K a) [e, it] e (EnT a e it) := by
  refine ⟨by simp, fun i h z b hb => ?_, fun i h h' z k => z.keep fun b hb => k b (by simpa using hb), ?_, ?_, fun A i s Q E z q => z.1.elim fun old z1 => wpAny_pyIter_enum z1 q⟩
  · rcases List.mem_cons.mp hb with rfl | hb
    · exact z.objs.1
    · rw [List.mem_singleton.mp hb]; exact z.objs.2
  · rintro X rfl rfl rfl calm i pins s σ H E I own z ⟨xs, x, sq, at_⟩
    obtain ⟨⟨old, z1⟩, z2, ne, ai, ae⟩ := z
    obtain ⟨items, rel, tup, _⟩ := I.tuple sq
    obtain ⟨u, hu, ru⟩ := rel.get at_
    have ilt : i < items.toArray.size := by have := (List.getElem?_eq_some_iff.mp hu).1; simpa using this
    have W := WalksT.enumerateD (Draws.tuple (prog := X.prog) (w := X.w) (A := X.A.in1) (I.ok.hd calm) it a ai items.toArray) e ne (by simp [ne, ae.symm]) (by simp)
    refine W.item i s _ E ilt ⟨⟨old, z1⟩, z2, tup⟩ fun T vals h1 tk ⟨t, y, hy, hv⟩ hT isT mid kp1 => ?_
    have yu : y = u := by
      have : items[i]? = some y := by simpa using hy
      exact Option.some.inj (this.symm.trans hu)
    subst hv yu
    refine ⟨_, rfl, W.go elts kk tpos i T { s with heap := h1, toks := tk } _ E mid fun h2 st2 kp2 => ?_⟩
    have Tn : T ∉ [e, it] := W.apart i T h1 mid
    obtain ⟨ob, o1, o2, o3⟩ := isT
    have T2 : h2.IsTuple T #[.int i t, y] := ⟨ob, kp2 T ob Tn o1, o2, o3⟩
    have kp : ∀ b u, b ∉ [e, it] → s.heap.get? b = some u → h2.get? b = some u := fun b u hb q => kp2 b u hb (kp1 b u hb q)
    have made : ObjOk X.prog X.w (upd H T (.tup [.int (i : Nat), x])) h2 T (.tup [.int (i : Nat), x]) := ⟨by show 2 ≤ sizeLine; decide, _, .cons ⟨t, rfl⟩ (.cons ru .nil), T2⟩
    have I2 := I.turnedNew (t' := tk) (ch := [e, it]) (fun b u hb q => kp b u hb q) own hT made
    obtain ⟨⟨old2, e2⟩, i2, _⟩ := st2
    refine ⟨.ref T, _, I2, rfl, ⟨T, x, rfl, I.hok.fresh hT, rfl, fun ys hs => I.tuple_inj sq hs ▸ at_⟩, ⟨⟨old2, e2⟩, i2, ne, ai, ae⟩, fun b hb => ?_⟩
    have bT : b ≠ T := fun q => Tn (q ▸ hb)
    rw [upd_ne bT]
    exact (own b hb).1
  · rintro X rfl rfl rfl calm i pins s σ H E I own z ⟨xs, sq, rfl⟩
    obtain ⟨⟨old, z1⟩, z2, ne, ai, ae⟩ := z
    obtain ⟨items, rel, tup, _⟩ := I.tuple sq
    have W := WalksT.enumerateD (Draws.tuple (prog := X.prog) (w := X.w) (A := X.A.in1) (I.ok.hd calm) it a ai items.toArray) e ne (by simp [ne, ae.symm]) (by simp)
    have len : items.toArray.size = xs.length := by rw [List.size_toArray]; exact rel.length.symm
    rw [← len] at z1 z2
    exact W.done s _ E ⟨⟨old, z1⟩, z2, tup⟩ fun h1 tk kp => ⟨rfl, I.turnedL (t' := tk) (ch := [e, it]) (fun b u hb q => kp b u hb q) own⟩
def iEnA (K : PySem.W.Frag) (ta : TA) : TI := fun σ H R => ta σ H fun vs H1 => ∃ a xs, vs = [.ref a] ∧ ((SqL K H1 a xs ∧ R (Ite K a) H1) ∨ (SqT K H1 a xs ∧ R (IteT K a) H1))
theorem pi_enA {X : Cx} {e : Expr} {ta : TA} {p pos tpos : Pos} {elts : List Expr} {kk : Nat} (hg : Gl X "enumerate") (hm : X.mg "enumerate" = none) (ha : PA X [e] ta) (hs : starEach [e] X.env = [(false, eval e X.env)] := by rfl) :
    PI X (.Tuple elts kk tpos) (.Call (.Name "enumerate" p) [e] [] pos) (iEnA X.K ta) := by
  constructor
  intro pins s σ H R I h
  refine PyProof.Rows.Call_ (ld_blt I hg hm PyProof.Rows.boot_enumerate (PyProof.Rows.callWith_type1 (thn (ha.run pos pins s σ H _ I h) ?_) hs rfl))
  rintro us s1 ⟨vs, H1, I1, rel, a, xs, rfl, way⟩
  rw [Vals.ref1 rel]
  let n := s1.heap.objs.size
  have two : ∀ b ∈ [n + 1, n], FpOk X pins H1 b := by
    intro b hb
    have up : n ≤ b := by simp at hb; omega
    exact I1.fpOk up (I1.hok.fresh up)
  rcases way with ⟨sq, q⟩ | ⟨sq, q⟩
  · obtain ⟨items, _, flat, _⟩ := I1.list sq
    exact call_enumerate_list flat.isList fun h2 isE at_ _ kp => wpAny_pyIter_enum isE
      ⟨n + 1, [n + 1, n], _, _, H1, rfl, I1.kept (t' := s1.toks) kp, turn_enum a (n + 1) n, ⟨⟨_, isE⟩, at_, Nat.succ_ne_self n⟩, two, q⟩
  · obtain ⟨items, _, tup, _⟩ := I1.tuple sq
    have old : a < n := by obtain ⟨u, hu, _⟩ := id tup; exact Heap.lt_size hu
    exact enum_callV (begins_tuple a items.toArray) tup fun h2 isE at_ _ kp => wpAny_pyIter_enum isE
      ⟨n + 1, [n + 1, n], _, _, H1, rfl, I1.kept (t' := s1.toks) kp, turn_enumT a (n + 1) n, ⟨⟨_, isE⟩, ⟨_, at_, rfl, rfl⟩, Nat.succ_ne_self n, Nat.ne_of_lt old, Nat.ne_of_lt (Nat.lt_succ_of_lt old)⟩, two, q⟩
section
variable {K : PySem.W.Frag} {c : Cc} {o o' : Own} {σ σ' : St} {H H' : Hp} {ρ ρ' : Env} {τ τ' τ0 τ1 : List (V × M)} {X : Cx} {e a b : Expr} {es elts : List Expr} {pos p tpos : Pos} {t u : TX} {kk : Nat}
/-! ### enumerate, zip, over data that is fixed -/
def gEnm (lo : Int) : List D → List D
  | [] => []
  | d :: ds => .tup [.int lo, d] :: gEnm (lo + 1) ds
theorem gEnm_at : ∀ {ds : List D} {lo : Int} {i : Nat}, (gEnm lo ds)[i]? = (ds[i]?).map fun d => D.tup [.int (lo + (i : Int)), d]
  | [], lo, i => by simp [gEnm]
  | d :: ds, lo, 0 => by simp [gEnm]
  | d :: ds, lo, i + 1 => by
    rw [gEnm, List.getElem?_cons_succ, gEnm_at, List.getElem?_cons_succ]
    congr 1
    funext d
    have e : lo + 1 + (i : Int) = lo + ((i + 1 : Nat) : Int) := by omega
    rw [e]
theorem gEnm_length : ∀ {ds : List D} {lo : Int}, (gEnm lo ds).length = ds.length
  | [], _ => rfl
  | d :: ds, lo => by rw [gEnm, List.length_cons, gEnm_length, List.length_cons]
theorem new_tup {T : Addr} {x : V} {d : D} {i : Int} (mu : ∀ a l, o a = some l → Mt (H a)) (hT : H T = none) (h : Dat K o H x d) : Grow H (upd H T (.tup [.int i, x])) ∧ Dat K o (upd H T (.tup [.int i, x])) (.ref T) (.tup [.int i, d]) := by
  have g : Grow H (upd H T (.tup [.int i, x])) := .new hT
  have oT : o T = none := by
    cases e : o T with
    | none => rfl
    | some l => have := mu T l e; rw [hT] at this; exact this.elim
  exact ⟨g, .tup ⟨oT, upd_same⟩ (.cons (.int i) (.cons (h.mono (g.le mu)) .nil))⟩
theorem runs_enL {ad : Addr} {ds : List D} {C : Own → Hp → Prop} (h : ∀ o H, C o H → ∃ xs, SqL K H ad xs ∧ Dats K o H xs ds) : Runs K (Ite K ad) (gEnm 0 ds) C := fun o H hc mu => by
  obtain ⟨xs, h1, h2⟩ := h o H hc
  refine ⟨fun i d e => ?_, ⟨xs, h1, by rw [gEnm_length, h2.length]; exact Nat.le_refl _⟩⟩
  rw [gEnm_at] at e
  obtain ⟨d', e1, rfl⟩ := Option.map_eq_some_iff.mp e
  obtain ⟨v, ev, dv⟩ := h2.get e1
  refine ⟨⟨xs, v, h1, ev⟩, fun x H' y => ?_⟩
  obtain ⟨T, x', rfl, hT, rfl, hy⟩ := y
  have := hy xs h1
  rw [ev] at this; cases this
  rw [Int.zero_add]
  exact new_tup mu hT dv
theorem runs_enT {ad : Addr} {ds : List D} {C : Own → Hp → Prop} (h : ∀ o H, C o H → ∃ xs, SqT K H ad xs ∧ Dats K o H xs ds) : Runs K (IteT K ad) (gEnm 0 ds) C := fun o H hc mu => by
  obtain ⟨xs, h1, h2⟩ := h o H hc
  refine ⟨fun i d e => ?_, ⟨xs, h1, by rw [gEnm_length, h2.length]⟩⟩
  rw [gEnm_at] at e
  obtain ⟨d', e1, rfl⟩ := Option.map_eq_some_iff.mp e
  obtain ⟨v, ev, dv⟩ := h2.get e1
  refine ⟨⟨xs, v, h1, ev⟩, fun x H' y => ?_⟩
  obtain ⟨T, x', rfl, hT, rfl, hy⟩ := y
  have := hy xs h1
  rw [ev] at this; cases this
  rw [Int.zero_add]
  exact new_tup mu hT dv
/-- what enumerate walks: as srcOf -/
def enmOf (r : R) (ρ : Env) (k : Src → Env → Prop) : Prop := match r with
  | .im (.tup ds) => k (.fx (gEnm 0 ds)) ρ
  | .im (.lst ds) => k (.fx (gEnm 0 ds)) ρ
  | .tm (.ls ds) => k (.fx (gEnm 0 ds)) ρ
  | .sl i => match ρ[i]? with
    | some (.lo (.ls ds)) => k (.sl i ds (gEnm 0 ds)) ρ
    | some (.pa (.ls ds)) => k (.sl i ds (gEnm 0 ds)) ρ
    | some (.lo (.sq ds)) => k (.fx (gEnm 0 ds)) ρ
    | some (.pa (.sq ds)) => k (.fx (gEnm 0 ds)) ρ
    | some (.hd p v (.ls ds)) => k (.hs i p v ds (gEnm 0 ds)) ρ
    | _ => False
  | _ => False
def iEnm (ta : TL) : TSrc := fun ρ k => ta ρ fun rs ρ1 => match rs with
  | [r] => enmOf r ρ1 k
  | _ => False
theorem en_ok {v : V} {r : R} {ti : Src → Env → Prop} {R' : It → Hp → Prop} (R1 : Rep K c o σ H ρ τ') (z : RelR K o H σ v r τ τ') (h : enmOf r ρ ti)
    (q : ∀ J o' s, Le o H o' H → Rep K c o' σ H ρ τ → SrcOk K J o' H σ s → ti s ρ → R' J H) :
    ∃ ad xs, v = .ref ad ∧ ((SqL K H ad xs ∧ R' (Ite K ad) H) ∨ (SqT K H ad xs ∧ R' (IteT K ad) H)) := by
  unfold enmOf at h
  split at h
  · obtain ⟨rfl, z⟩ := z
    cases z with
    | tup t d => exact ⟨_, _, rfl, .inr ⟨t.sq, q _ o (.fx _) .refl R1 (runs_enT fun o' H' L => ⟨_, (t.mono L).sq, d.mono L⟩) h⟩⟩
  · obtain ⟨rfl, z⟩ := z
    cases z with
    | lst a b d => exact ⟨_, _, rfl, .inl ⟨SqL.of b, q _ o (.fx _) .refl R1 (runs_enL fun o' H' L => ⟨_, SqL.of (L.keep _ _ a b).2, d.mono L⟩) h⟩⟩
  · have z : τ' = τ ++ [(v, _)] := z
    subst z
    obtain ⟨a, xs, rfl, ho, hH, d⟩ := (R1.tm τ.length _ _ (by rw [List.getElem?_append_right (Nat.le_refl _), Nat.sub_self]; rfl)).1
    have R2 := R1.drop (List.prefix_append τ _)
    have e : dropT τ.length o a = none := by unfold dropT; rw [ho]; show (if τ.length < τ.length then _ else none) = none; rw [if_neg (Nat.lt_irrefl _)]
    exact ⟨_, _, rfl, .inl ⟨SqL.of hH, q _ _ (.fx _) (dropT_le _) R2 (runs_enL fun o' H' L => ⟨_, SqL.of (L.keep _ _ e hH).2, (d.mono (dropT_le τ.length)).mono L⟩) h⟩⟩
  · obtain ⟨rfl, z⟩ := z
    split at h
    · rename_i ds e
      obtain ⟨w, e1, a, xs, rfl, ho, hH, d⟩ := R1.sl _ _ e
      rw [z] at e1; cases e1
      refine ⟨_, _, rfl, .inl ⟨SqL.of hH, q _ o (.sl _ ds _) .refl R1 ⟨_, z, runs_enL fun o' H' ⟨l, b, ys, e2, h1, h2, h3⟩ => ?_⟩ h⟩⟩
      cases e2; exact ⟨ys, SqL.of h2, h3⟩
    · rename_i ds e
      obtain ⟨w, e1, _, a, xs, rfl, ho, hH, d⟩ := R1.sl _ _ e
      rw [z] at e1; cases e1
      refine ⟨_, _, rfl, .inl ⟨SqL.of hH, q _ o (.sl _ ds _) .refl R1 ⟨_, z, runs_enL fun o' H' ⟨l, b, ys, e2, h1, h2, h3⟩ => ?_⟩ h⟩⟩
      cases e2; exact ⟨ys, SqL.of h2, h3⟩
    · rename_i ds e
      obtain ⟨w, e1, a, xs, rfl, hl, d⟩ := R1.sl _ _ e
      rw [z] at e1; cases e1
      exact ⟨_, _, rfl, .inl ⟨hl.sq, q _ o (.fx _) .refl R1 (runs_enL fun o' H' L => ⟨_, (hl.mono L).sq, d.mono L⟩) h⟩⟩
    · rename_i ds e
      obtain ⟨w, e1, _, a, xs, rfl, hl, d⟩ := R1.sl _ _ e
      rw [z] at e1; cases e1
      exact ⟨_, _, rfl, .inl ⟨hl.sq, q _ o (.fx _) .refl R1 (runs_enL fun o' H' L => ⟨_, (hl.mono L).sq, d.mono L⟩) h⟩⟩
    · rename_i p v0 ds e
      obtain ⟨e1, _, a, xs, rfl, ho, hH, d⟩ := R1.sl _ _ e
      rw [z] at e1; cases e1
      refine ⟨_, _, rfl, .inl ⟨SqL.of hH, q _ o (.hs _ p _ ds _) .refl R1 (runs_enL fun o' H' ⟨l, b, ys, e2, h1, h2, h3⟩ => ?_) h⟩⟩
      cases e2; exact ⟨ys, SqL.of h2, h3⟩
    · exact h.elim
  · exact h.elim
theorem di_enm {ta : TL} (hg : Gl X "enumerate") (hm : X.mg "enumerate" = none) (ha : DA X c [e] ta) (hs : starEach [e] X.env = [(false, eval e X.env)] := by rfl) : DI X c (.Tuple elts kk tpos) (.Call (.Name "enumerate" p) [e] [] pos) (iEnm ta) :=
  piImp (pi_enA hg hm ha hs) fun σ H R hh => by
    obtain ⟨o, ρ, τ, Q, R0, hh, q⟩ := hh
    refine ⟨o, ρ, τ, _, R0, hh, fun vs H1 o1 rs ρ1 τ1 L1 R1 z1 h1 => ?_⟩
    split at h1
    · cases z1 with
      | cons z t =>
        cases t
        obtain ⟨ad, xs, e, w⟩ := en_ok (R' := fun J H => R J H) R1 z h1 fun J o' s L R' ok hs => q J H1 o' ρ1 s (L1.trans L) R' ok hs
        exact ⟨ad, xs, by rw [e], w⟩
    · exact h1.elim
/-! ### what nobody reaches -/
def sDead : TSX := fun _ _ => False
theorem ds_dead {st : Stmt} : DS X c st sDead := ⟨fun pins s σ H D I ⟨o, ρ, P, _, h, _⟩ => h.elim⟩
end
end Y
namespace Y
open PySem PySem.Spec L2
/-! ### data without booleans: == is sameness -/
mutual
def D.std : D → Bool
  | .non => true
  | .bl _ => false
  | .int _ => true
  | .str _ => true
  | .tup ds => D.stds ds
  | .lst ds => D.stds ds
  | .raw _ => false
  | .fnv _ _ _ _ _ => false
def D.stds : List D → Bool
  | [] => true
  | d :: ds => d.std && D.stds ds
end
theorem D.stds_all : ∀ ds : List D, D.stds ds = ds.all D.std
  | [] => rfl
  | d :: ds => by simp only [D.stds, List.all_cons]; rw [D.stds_all ds]
mutual
theorem eqv_std : ∀ d e : D, d.std = true → e.std = true → (D.eqv d e = true ↔ d = e)
  | .non, e, _, k => by cases e <;> simp_all [D.eqv, D.py, PyData.eqv, D.std]
  | .int i, e, _, k => by cases e <;> simp_all [D.eqv, D.py, PyData.eqv, D.std]
  | .str i, e, _, k => by cases e <;> simp_all [D.eqv, D.py, PyData.eqv, D.std]
  | .tup ds, .tup es, h, k => by
    have := eqvs_std ds es (by simpa [D.std] using h) (by simpa [D.std] using k)
    simpa [D.eqv, D.py, PyData.eqv] using this
  | .lst ds, .lst es, h, k => by
    have := eqvs_std ds es (by simpa [D.std] using h) (by simpa [D.std] using k)
    simpa [D.eqv, D.py, PyData.eqv] using this
  | .tup ds, .non, h, k => by simp [D.eqv, D.py, PyData.eqv]
  | .tup ds, .int _, h, k => by simp [D.eqv, D.py, PyData.eqv]
  | .tup ds, .str _, h, k => by simp [D.eqv, D.py, PyData.eqv]
  | .tup ds, .lst _, h, k => by simp [D.eqv, D.py, PyData.eqv]
  | .lst ds, .non, h, k => by simp [D.eqv, D.py, PyData.eqv]
  | .lst ds, .int _, h, k => by simp [D.eqv, D.py, PyData.eqv]
  | .lst ds, .str _, h, k => by simp [D.eqv, D.py, PyData.eqv]
  | .lst ds, .tup _, h, k => by simp [D.eqv, D.py, PyData.eqv]
  | .tup _, .bl _, _, k => by simp [D.std] at k
  | .tup _, .raw _, _, k => by simp [D.std] at k
  | .tup _, .fnv _ _ _ _ _, _, k => by simp [D.std] at k
  | .lst _, .bl _, _, k => by simp [D.std] at k
  | .lst _, .raw _, _, k => by simp [D.std] at k
  | .lst _, .fnv _ _ _ _ _, _, k => by simp [D.std] at k
  | .bl _, _, h, _ => by simp [D.std] at h
  | .raw _, _, h, _ => by simp [D.std] at h
  | .fnv _ _ _ _ _, _, h, _ => by simp [D.std] at h
theorem eqvs_std : ∀ ds es : List D, D.stds ds = true → D.stds es = true → (PyData.eqvAll (D.pys ds) (D.pys es) = true ↔ ds = es)
  | [], [], _, _ => by simp [D.pys, PyData.eqvAll]
  | [], _ :: _, _, _ => by simp [D.pys, PyData.eqvAll]
  | _ :: _, [], _, _ => by simp [D.pys, PyData.eqvAll]
  | d :: ds, e :: es, h, k => by
    simp only [D.stds, Bool.and_eq_true] at h k
    have h1 := eqv_std d e h.1 k.1
    have h2 := eqvs_std ds es h.2 k.2
    simp only [D.pys, PyData.eqvAll, Bool.and_eq_true, List.cons.injEq]
    exact ⟨fun z => ⟨h1.mp z.1, h2.mp z.2⟩, fun z => ⟨h1.mpr z.1, h2.mpr z.2⟩⟩
end
section
variable {α : Type} [DecidableEq α] {g : α → D}
/-- a way to write things as data: no booleans, nothing written alike -/
structure Code (g : α → D) : Prop where
  std : ∀ a, (g a).std = true
  inj : ∀ a b, g a = g b → a = b
theorem Code.eqv (h : Code g) (a b : α) : D.eqv (g a) (g b) = decide (a = b) := by
  have e := eqv_std (g a) (g b) (h.std a) (h.std b)
  by_cases z : a = b
  · subst z; rw [decide_eq_true rfl]; exact e.mpr rfl
  · rw [decide_eq_false z]
    cases q : D.eqv (g a) (g b) with
    | false => rfl
    | true => exact absurd (h.inj _ _ (e.mp q)) z
theorem Code.any (h : Code g) (xs : List α) (a : α) : ((xs.map g).any fun z => D.eqv z (g a)) = decide (a ∈ xs) := by
  induction xs with
  | nil => rfl
  | cons x xs ih =>
    rw [List.map_cons, List.any_cons, ih, h.eqv]
    by_cases e : x = a
    · subst e; simp
    · simp [e]
      exact fun z => absurd z.symm e
theorem Code.inj_map (h : Code g) : ∀ {xs ys : List α}, xs.map g = ys.map g → xs = ys
  | [], [], _ => rfl
  | [], _ :: _, e => by cases e
  | _ :: _, [], e => by cases e
  | x :: xs, y :: ys, e => by
    rw [List.map_cons, List.map_cons] at e
    injection e with e1 e2
    rw [h.inj _ _ e1, Code.inj_map h e2]
theorem Code.stds (h : Code g) (xs : List α) : D.stds (xs.map g) = true := by
  rw [D.stds_all, List.all_eq_true]
  intro d hd
  obtain ⟨a, _, rfl⟩ := List.mem_map.mp hd
  exact h.std a
end
/-! ### an index that is written out -/
section
variable {α : Type} {a b c d e f g : α} {l : List α}
theorem atI_c0 : atI (a :: l) 0 = some a := by obtain ⟨x, h, h2⟩ := atI_ok (xs := a :: l) (i := 0) (by omega) (by simp <;> omega); rw [h]; simpa using h2.symm
theorem atI_c1 : atI (a :: b :: l) 1 = some b := by obtain ⟨x, h, h2⟩ := atI_ok (xs := a :: b :: l) (i := 1) (by omega) (by simp <;> omega); rw [h]; simpa using h2.symm
theorem atI_c2 : atI (a :: b :: c :: l) 2 = some c := by obtain ⟨x, h, h2⟩ := atI_ok (xs := a :: b :: c :: l) (i := 2) (by omega) (by simp <;> omega); rw [h]; simpa using h2.symm
theorem atI_c3 : atI (a :: b :: c :: d :: l) 3 = some d := by obtain ⟨x, h, h2⟩ := atI_ok (xs := a :: b :: c :: d :: l) (i := 3) (by omega) (by simp <;> omega); rw [h]; simpa using h2.symm
theorem atI_c4 : atI (a :: b :: c :: d :: e :: l) 4 = some e := by obtain ⟨x, h, h2⟩ := atI_ok (xs := a :: b :: c :: d :: e :: l) (i := 4) (by omega) (by simp <;> omega); rw [h]; simpa using h2.symm
theorem atI_c5 : atI (a :: b :: c :: d :: e :: f :: l) 5 = some f := by obtain ⟨x, h, h2⟩ := atI_ok (xs := a :: b :: c :: d :: e :: f :: l) (i := 5) (by omega) (by simp <;> omega); rw [h]; simpa using h2.symm
end
end Y
namespace Y
open PySem PySem.Spec L2
section
variable {K : PySem.W.Frag} {c : Cc} {o o' : Own} {σ σ' : St} {H H' : Hp} {ρ ρ' : Env} {τ τ' τ0 τ1 : List (V × M)} {X : Cx} {e a b : Expr} {es elts : List Expr} {pos p tpos : Pos} {t u : TX} {kk : Nat}
/-! ### a, b = x, y: data or new objects -/
def R.m2 : R → Option M
  | .im d => some (.im d)
  | .tm m => some m
  | _ => none
def sPar2 (i j : Nat) (ta : TL) : TSX := fun P ρ => ta ρ fun rs ρ1 => match rs with
  | [r1, r2] => match r1.m2, r2.m2 with
    | some m1, some m2 => P.nx ((ρ1.set j (.lo m2)).set i (.lo m1))
    | _, _ => False
  | _ => False
/-- the last result goes to a slot -/
theorem take_last (R0 : Rep K c o σ H ρ τ') {v : V} {r : R} {m : M} {i : Nat} (z : RelR K o H σ v r τ τ') (e : r.m2 = some m) : ∃ o', Le o H o' H ∧ Rep K c o' (σ.set i (some v)) H (ρ.set i (.lo m)) τ := by
  cases r with
  | im d =>
    obtain ⟨rfl, z⟩ := z
    cases e
    exact ⟨o, .refl, R0.asg (m := .im d) z⟩
  | tm m' =>
    cases e
    have z : τ' = τ ++ [(v, m)] := z
    subst z
    obtain ⟨R1, i1⟩ := R0.takeT (.s i)
    exact ⟨_, relL_le (by intro z; cases z), R1.asg i1⟩
  | sl k => cases e
theorem RelR.set2 {v : V} {r : R} {m : M} {j : Nat} {w : Option V} (z : RelR K o H σ v r τ τ') (e : r.m2 = some m) : RelR K o H (σ.set j w) v r τ τ' := by
  cases r with
  | im d => exact z
  | tm m' => exact z
  | sl k => cases e
theorem ds_par {i j : Nat} {x y : Str} {ta : TL} {px py pt : Pos} {kt k2 pt2} (hc : X.calm = true) (hN : X.N.Nodup) (hij : i ≠ j) (ha : DA X c [a, b] ta) (hi : X.N[i]? = some x := by rfl) (hj : X.N[j]? = some y := by rfl)
    (hx : X.env.scope.names.lookup x = some .local := by rfl) (hy : X.env.scope.names.lookup y = some .local := by rfl)
    (hw : swappedStores [.Tuple [.Name x px, .Name y py] kt pt] (.Tuple [a, b] k2 pt2) X.env = pure (some [x, y]) := by rfl)
    (hs : swapsWithSole [.Tuple [.Name x px, .Name y py] kt pt] (.Tuple [a, b] k2 pt2) pos.line X.env = pure false := by rfl) :
    DS X c (.Assign [.Tuple [.Name x px, .Name y py] kt pt] (.Tuple [a, b] k2 pt2) pos) (sPar2 i j ta) :=
  psImp (ps_par hc hN hi hj hij hx hy ha hw hs) fun D σ H h => by
    obtain ⟨o, ρ, P, R0, h, w⟩ := h
    refine ⟨o, ρ, [], _, R0, h, fun vs H1 o1 rs ρ1 τ1 L1 R1 z1 h1 => ?_⟩
    split at h1
    · rename_i r1 r2
      split at h1
      · rename_i m1 m2 e1 e2
        cases z1 with
        | cons za t =>
          cases t with
          | cons zb t =>
            cases t
            obtain ⟨o2, L2, R2⟩ := take_last (i := j) R1 zb e2
            obtain ⟨o3, L3, R3⟩ := take_last (i := i) R2 ((za.mono L2).set2 e1) e1
            refine ⟨_, _, rfl, ?_⟩
            rw [List.set_comm _ _ hij]
            exact w.nx _ _ o3 _ (L1.trans (L2.trans L3)) R3 h1
      · exact h1.elim
    · exact h1.elim
/-! ### a op b op c -/
def tChn (g g' : G2) (ta tb tc : TX) : TX := fun ρ Q => ta ρ fun r1 ρ1 => tb ρ1 fun r2 ρ2 => w2 ρ2 r1 r2 fun m1 m2 => g m1 m2 fun m => match m with
  | .im (.bl k) => if k = true then tc ρ2 fun r3 ρ3 => w2 ρ3 r2 r3 fun m2' m3 => g' m2' m3 fun m' => Q m'.res ρ3 else Q (.im (.bl false)) ρ2
  | _ => False
theorem tChn_of {g g' : G2} {ta tb tc : TX} {k : VK} (h : TEo K c (tChn g g' ta tb tc) σ H k) : tChain (rOp K g) (rOp K g') (TEo K c ta) (TEo K c tb) (TEo K c tc) σ H k := by
  obtain ⟨o, ρ, τ, Q, R0, h, q⟩ := h
  refine ⟨o, ρ, τ, _, R0, h, fun v1 H1 o1 r1 ρ1 τ1 L1 R1 z1 h1 => ?_⟩
  refine ⟨o1, ρ1, τ1, _, R1, h1, fun v2 H2 o2 r2 ρ2 τ2 L2 R2 z2 h2 => ?_⟩
  unfold w2 at h2
  split at h2
  · rename_i m1 m2 e1 e2
    have y1 := R2.vw_ok (z1.mono L2) z2.pre e1
    have y2 := R2.vw_ok z2 List.prefix_rfl e2
    refine ⟨o2, m1, m2, _, R2.mu, y1, y2, h2, fun v H' m g1 nm hm => ?_⟩
    split at hm
    · rename_i kb
      cases (show Dat K o2 H' v (.bl kb) from nm)
      have Lg := g1.le R2.mu
      have R2' := R2.grow g1
      refine ⟨kb, rfl, ?_⟩
      cases kb with
      | false =>
        rw [if_neg (by decide)]
        rw [if_neg (by decide)] at hm
        have R3 := R2'.drop (z1.pre.trans z2.pre)
        exact q _ H' _ (.im (.bl false)) ρ2 τ (L1.trans (L2.trans (Lg.trans (dropT_le _)))) R3 ⟨rfl, .bl false⟩ hm
      | true =>
        rw [if_pos rfl]
        rw [if_pos rfl] at hm
        refine ⟨o2, ρ2, τ2, _, R2', hm, fun v3 H3 o3 r3 ρ3 τ3 L3 R3 z3 h3 => ?_⟩
        unfold w2 at h3
        split at h3
        · rename_i m2' m3 e2' e3
          have x1 := R3.vw_ok ((z2.mono Lg).mono L3) z3.pre e2'
          have x2 := R3.vw_ok z3 List.prefix_rfl e3
          refine ⟨o3, m2', m3, _, R3.mu, x1, x2, h3, fun v' H'' m' g2 nm2 hm2 => ?_⟩
          obtain ⟨o', τ', L, R', z⟩ := R3.made ((z1.pre.trans z2.pre).trans z3.pre) g2 nm2
          exact q v' H'' o' _ ρ3 τ' (L1.trans (L2.trans (Lg.trans (L3.trans L)))) R' z hm2
        · exact h3.elim
    · exact hm.elim
  · exact h2.elim
theorem de_chn {op op' : CmpOp} {g g' : G2} {ta tb tc : TX} {d : Expr} (ho : OpG X (compareOp op) g) (ho' : OpG X (compareOp op') g') (ha : DE X c a ta) (hb : DE X c b tb) (hd : DE X c d tc)
    (hm : lastMarks [op, op'] [b, d] = false := by with_unfolding_all rfl) : DE X c (.Compare a [op, op'] [b, d] pos) (tChn g g' ta tb tc) :=
  peImp (pe_chain ho ho' ha hb hd hm) fun _ _ _ h => tChn_of h
theorem dt_chn {op op' : CmpOp} {g g' : G2} {ta tb tc : TX} {d : Expr} (ho : OpG X (compareOp op) g) (ho' : OpG X (compareOp op') g') (ha : DE X c a ta) (hb : DE X c b tb) (hd : DE X c d tc)
    (hm : lastMarks [op, op'] [b, d] = false := by with_unfolding_all rfl) : DT X c (.Compare a [op, op'] [b, d] pos) (tTst (tChn g g' ta tb tc)) :=
  ptImp (pt_chain ho ho' ha hb hd hm) fun σ H k h => by
    obtain ⟨o, ρ, τ, Q, R0, h, q⟩ := h
    refine tChn_of ⟨o, ρ, τ, _, R0, h, fun v1 H1 o1 r1 ρ1 τ1 L1 R1 z1 h1 => ?_⟩
    split at h1
    · rename_i b
      obtain ⟨rfl, z⟩ := z1
      cases z
      exact ⟨b, rfl, q b H1 o1 ρ1 L1 R1 h1⟩
    · exact h1.elim
/-! ### d.get(k), d.get(k, x) -/
def M.isD : M → Bool
  | .dk _ => true
  | .dt _ => true
  | _ => false
def vwD (ρ : Env) (r : R) : Prop := match vw ρ r with
  | some m => m.isD = true
  | none => False
def getOr (m : M) (m2 : M) (x : D) (k : D → Prop) : Prop := match m2 with
  | .im d => match dGet m d with
    | some (some y) => k y
    | some none => k x
    | none => False
  | _ => False
def tGet1 (td ty : TX) : TX := fun ρ Q => td ρ fun r ρ1 => vwD ρ1 r ∧ ty ρ1 fun r2 ρ2 => w2 ρ2 r r2 fun m1 m2 => getOr m1 m2 .non fun y => Q (.im y) ρ2
def tGet2 (td ty tx : TX) : TX := fun ρ Q => td ρ fun r ρ1 => vwD ρ1 r ∧ ty ρ1 fun r2 ρ2 => tx ρ2 fun r3 ρ3 => match r3 with
  | .im x => w2 ρ3 r r2 fun m1 m2 => getOr m1 m2 x fun y => Q (.im y) ρ3
  | _ => False
theorem isD_of {v : V} {m : M} (h : Vw K o H v m) (e : m.isD = true) : ∃ a, v = .ref a ∧ IsD H a := by
  obtain ⟨l, h⟩ := h
  cases m with
  | dk kvs => obtain ⟨a, ks, rfl, _, ha, _⟩ := h; exact ⟨a, rfl, .inl ⟨ks, .inl ha⟩⟩
  | dt kvs => obtain ⟨a, ks, rfl, _, ha, _⟩ := h; exact ⟨a, rfl, .inr ⟨ks, .inl ha⟩⟩
  | _ => cases e
theorem de_get1 {td ty : TX} {apos cpos : Pos} (hu : X.A.units + 1 < cLine) (ho : DE X c a td) (he : DE X c b ty) (m : M1 X a "get" apos b cpos := by constructor <;> rfl) : DE X c (.Call (.Attribute a "get" apos) [b] [] cpos) (tGet1 td ty) :=
  peImp (pe_dget1 hu ho he m) fun σ H k h => by
    obtain ⟨o, ρ, τ, Q, R0, h, q⟩ := h
    refine ⟨o, ρ, τ, _, R0, h, fun v1 H1 o1 r1 ρ1 τ1 L1 R1 z1 h1 => ?_⟩
    obtain ⟨hd, h1⟩ := h1
    unfold vwD at hd
    split at hd
    · rename_i m0 e0
      obtain ⟨a, rfl, isd⟩ := isD_of (R1.vw_ok z1 List.prefix_rfl e0) hd
      refine ⟨a, rfl, isd, o1, ρ1, τ1, _, R1, h1, fun v2 H2 o2 r2 ρ2 τ2 L2 R2 z2 h2 => ?_⟩
      unfold w2 at h2
      split at h2
      · rename_i m1 m2 e1 e2
        have y1 := R2.vw_ok (z1.mono L2) z2.pre e1
        obtain ⟨l2, y2⟩ := R2.vw_ok z2 List.prefix_rfl e2
        unfold getOr at h2
        have R3 := R2.drop (z1.pre.trans z2.pre)
        split at h2
        · split at h2
          · rename_i y eg
            obtain ⟨a', w, ea, g, rd⟩ := dGet_ok y1 y2 eg
            cases ea
            cases w with
            | none => exact rd.elim
            | some w => exact ⟨_, g, q w H2 _ (.im y) ρ2 τ (L1.trans (L2.trans (dropT_le _))) R3 ⟨rfl, rd.mono (dropT_le _)⟩ h2⟩
          · rename_i eg
            obtain ⟨a', w, ea, g, rd⟩ := dGet_ok y1 y2 eg
            cases ea
            cases w with
            | some w => exact rd.elim
            | none => exact ⟨_, g, q .non H2 _ (.im .non) ρ2 τ (L1.trans (L2.trans (dropT_le _))) R3 ⟨rfl, .non⟩ h2⟩
          · exact h2.elim
        · exact h2.elim
      · exact h2.elim
    · exact hd.elim
theorem de_get2 {td ty tx : TX} {apos cpos : Pos} {f : Expr} (hu : X.A.units + 1 < cLine) (ho : DE X c a td) (he : DE X c b ty) (hf : DE X c f tx) (m : M2 X a "get" apos b f cpos := by constructor <;> rfl) : DE X c (.Call (.Attribute a "get" apos) [b, f] [] cpos) (tGet2 td ty tx) :=
  peImp (pe_dget2 hu ho he hf m) fun σ H k h => by
    obtain ⟨o, ρ, τ, Q, R0, h, q⟩ := h
    refine ⟨o, ρ, τ, _, R0, h, fun v1 H1 o1 r1 ρ1 τ1 L1 R1 z1 h1 => ?_⟩
    obtain ⟨hd, h1⟩ := h1
    unfold vwD at hd
    split at hd
    · rename_i m0 e0
      obtain ⟨a, rfl, isd⟩ := isD_of (R1.vw_ok z1 List.prefix_rfl e0) hd
      refine ⟨a, rfl, isd, o1, ρ1, τ1, _, R1, h1, fun v2 H2 o2 r2 ρ2 τ2 L2 R2 z2 h2 => ?_⟩
      refine ⟨o2, ρ2, τ2, _, R2, h2, fun v3 H3 o3 r3 ρ3 τ3 L3 R3 z3 h3 => ?_⟩
      split at h3
      · rename_i x
        obtain ⟨e3, dx⟩ := z3
        subst e3
        unfold w2 at h3
        split at h3
        · rename_i m1 m2 e1 e2
          have y1 := R3.vw_ok ((z1.mono L2).mono L3) z2.pre e1
          obtain ⟨l2, y2⟩ := R3.vw_ok (z2.mono L3) List.prefix_rfl e2
          unfold getOr at h3
          have R4 := R3.drop (z1.pre.trans z2.pre)
          split at h3
          · split at h3
            · rename_i y eg
              obtain ⟨a', w, ea, g, rd⟩ := dGet_ok y1 y2 eg
              cases ea
              cases w with
              | none => exact rd.elim
              | some w => exact ⟨_, g, q w H3 _ (.im y) ρ3 τ (L1.trans (L2.trans (L3.trans (dropT_le _)))) R4 ⟨rfl, rd.mono (dropT_le _)⟩ h3⟩
            · rename_i eg
              obtain ⟨a', w, ea, g, rd⟩ := dGet_ok y1 y2 eg
              cases ea
              cases w with
              | some w => exact rd.elim
              | none => exact ⟨_, g, q v3 H3 _ (.im x) ρ3 τ (L1.trans (L2.trans (L3.trans (dropT_le _)))) R4 ⟨rfl, dx.mono (dropT_le _)⟩ h3⟩
            · exact h3.elim
          · exact h3.elim
        · exact h3.elim
      · exact h3.elim
    · exact hd.elim
/-! ### [e for .. in .. if .. for .. in .. if ..] -/
theorem wipe_sub {vs vs1 : List Nat} (h : ∀ i ∈ vs1, i ∈ vs) : L2.wipe (L2.wipe σ vs1) vs = L2.wipe σ vs := by
  apply List.ext_getElem?
  intro j
  by_cases hj : j ∈ vs
  · by_cases hl : j < σ.length
    · rw [wipe_at hj (by rw [wipe_length]; exact hl), wipe_at hj hl]
    · rw [List.getElem?_eq_none (by rw [wipe_length, wipe_length]; omega), List.getElem?_eq_none (by rw [wipe_length]; omega)]
  · rw [wipe_out hj, wipe_out hj, wipe_out fun z => hj (h j z)]
def compL2 (b : Bd) (tq : TQ) (ti1 : TSrc) (b1 : Bd) (tq1 : TQ) (te : TX) (vs vs1 : List Nat) (gd : Env → Prop) (k : List D → Env → Prop) : List D → List D → Env → Prop
  | [], acc, ρ => gd ρ ∧ k acc ρ
  | d :: ds, acc, ρ => gd ρ ∧ bnd b d ρ fun ρ1 => tq ρ1 fun ok ρ2 => if ok = true then ti1 ρ2 fun src ρ3 => match src with
      | .fx ds1 => compL b1 tq1 te vs1 (fun _ => True) (fun acc' ρ4 => compL2 b tq ti1 b1 tq1 te vs vs1 gd k ds acc' (wipeE ρ4 vs)) ds1 acc (wipeE ρ3 vs1)
      | _ => False
    else compL2 b tq ti1 b1 tq1 te vs vs1 gd k ds acc (wipeE ρ2 vs)
def tLc2X (ti : TSrc) (b : Bd) (tq : TQ) (ti1 : TSrc) (b1 : Bd) (tq1 : TQ) (te : TX) (vs vs1 : List Nat) : TX := fun ρ Q => ti ρ fun src ρ1 => match src with
  | .fx ds => compL2 b tq ti1 b1 tq1 te vs vs1 (fun _ => True) (fun acc ρ' => Q (.tm (.ls acc)) (restE ρ1 ρ' vs)) ds [] (wipeE ρ1 vs)
  | _ => False
theorem comp2_ok {J : It} {ds : List D} {bd bd1 : Bd} {tq tq1 : TQ} {ti1 : TSrc} {te : TX} {vs vs1 : List Nat} {gd : Env → Prop} {k : List D → Env → Prop} {C : Own → Hp → Prop} {o1 : Own} {H1 : Hp} {Qd : Hp → Prop} {L : Addr} (hr : Runs K J ds C) (hvs : ∀ i ∈ bd.slots, i ∈ vs) (hvs1 : ∀ i ∈ bd1.slots, i ∈ vs1) (h12 : ∀ i ∈ vs1, i ∈ vs)
    (hc : ∀ o' H' ρ' τ', Le o1 H1 o' H' → Rep K c o' (L2.wipe σ vs) H' ρ' τ' → gd ρ' → C o' H') (R0 : Rep K c o1 (L2.wipe σ vs) H1 ρ (τ ++ [(.ref L, .ls [])]))
    (h : compL2 bd tq ti1 bd1 tq1 te vs vs1 gd k ds [] ρ)
    (q : ∀ o' H' ρ' acc, Le o1 H1 o' H' → Rep K c o' (L2.wipe σ vs) H' ρ' (τ ++ [(.ref L, .ls acc)]) → gd ρ' → k acc ρ' → Qd H') :
    ∃ W : Nat → Nat → Hp → Prop, (∃ m, W 0 m H1) ∧ ∀ i m H, W i m H →
      (J.stop i H ∧ Qd H) ∨ (J.go i H ∧ ∃ Nx : Hp → Prop, (∀ H', Nx H' → ∃ m', m' < m ∧ W (i + 1) m' H') ∧ ∀ x H', J.yld i H x H' → bd.tg K x (L2.wipe σ vs) H' fun σ2 H2 => L2.wipe σ2 vs = L2.wipe σ vs ∧
        TTo K c tq σ2 H2 fun b H3 => if b = true then TIo K c ti1 σ2 H3 fun J1 H4 => ∃ W1 : Nat → Nat → Hp → Prop, (∃ m, W1 0 m H4) ∧ ∀ j k H, W1 j k H →
          (J1.stop j H ∧ Nx H) ∨ (J1.go j H ∧ ∃ Nx1 : Hp → Prop, (∀ H', Nx1 H' → ∃ k', k' < k ∧ W1 (j + 1) k' H') ∧ ∀ x H', J1.yld j H x H' → bd1.tg K x (L2.wipe σ2 vs1) H' fun σ3 H5 => L2.wipe σ3 vs1 = L2.wipe σ2 vs1 ∧ TTo K c tq1 σ3 H5 fun b H6 =>
            if b = true then TEo K c te σ3 H6 fun y H7 => ∃ acc, H7 L = some (.lst acc) ∧ acc.length < sizeLine ∧ Nx1 (upd H7 L (.lst (acc ++ [y]))) else Nx1 H6)
        else Nx H3) := by
  refine ⟨fun i m H => m = ds.length - i ∧ i ≤ ds.length ∧ ∃ o ρ acc, Le o1 H1 o H ∧ Rep K c o (L2.wipe σ vs) H ρ (τ ++ [(.ref L, .ls acc)]) ∧ compL2 bd tq ti1 bd1 tq1 te vs vs1 gd k (ds.drop i) acc ρ,
    ⟨ds.length, by simp, Nat.zero_le _, o1, ρ, [], .refl, R0, by simpa using h⟩, ?_⟩
  rintro i m H ⟨rfl, hi, o, ρ, acc, Lo, R, h⟩
  by_cases hlt : i < ds.length
  · have e : ds.drop i = ds[i] :: ds.drop (i + 1) := List.drop_eq_getElem_cons hlt
    rw [e] at h
    obtain ⟨hg, h⟩ := h
    obtain ⟨go, yl⟩ := (hr o H (hc o H ρ _ Lo R hg) R.mu).1 i ds[i] (by simp [hlt])
    refine .inr ⟨go, fun H' => ∃ o' ρ' acc', Le o1 H1 o' H' ∧ Rep K c o' (L2.wipe σ vs) H' ρ' (τ ++ [(.ref L, .ls acc')]) ∧ compL2 bd tq ti1 bd1 tq1 te vs vs1 gd k (ds.drop (i + 1)) acc' ρ',
      fun H' ⟨o', ρ', acc', L', R', h'⟩ => ⟨ds.length - (i + 1), by omega, rfl, hlt, o', ρ', acc', L', R', h'⟩, fun x H' y => ?_⟩
    obtain ⟨g, dx⟩ := yl x H' y
    refine bnd_ok (R.grow g) dx h fun σ' ρ' R' hw hf => ?_
    have hw' : L2.wipe σ' vs = L2.wipe σ vs := by rw [hw vs hvs, wipe_idem]
    have L2' : Le o1 H1 o H' := Lo.trans (g.le R.mu)
    refine ⟨hw', o, ρ', _, _, R', hf, fun b H3 o3 ρ3 L3 R3 h3 => ?_⟩
    cases b with
    | false =>
      have R4 := R3.wipe vs
      rw [hw'] at R4
      exact ⟨o3, _, acc, L2'.trans L3, R4, h3⟩
    | true =>
      rw [if_pos rfl]
      refine ⟨o3, ρ3, _, _, R3, h3, fun J1 H4 o4 ρ4 src L4 R4 ok1 h4 => ?_⟩
      cases src with
      | fx ds1 =>
        refine comp_ok (C := fun o' H' => Le o4 H4 o' H') ok1 hvs1 (fun o' H' ρ' τ' L' R' _ => L') (R4.wipe vs1) h4 fun o' H' ρ' acc' L' R' _ hk => ?_
        have R6 := R'.wipe vs
        rw [wipe_sub h12, hw'] at R6
        exact ⟨o', _, acc', L2'.trans (L3.trans (L4.trans L')), R6, hk⟩
      | sl _ _ _ => exact h4.elim
      | hs _ _ _ _ _ => exact h4.elim
  · have e : i = ds.length := by omega
    subst e
    rw [List.drop_length] at h
    exact .inl ⟨(hr o H (hc o H ρ _ Lo R h.1) R.mu).2, q o H ρ acc Lo R h.1 h.2⟩
theorem lc2_of {ti ti1 : TSrc} {bd bd1 : Bd} {tq tq1 : TQ} {te : TX} {vs vs1 : List Nat} {k : VK} (hvs : ∀ i ∈ bd.slots, i ∈ vs) (hvs1 : ∀ i ∈ bd1.slots, i ∈ vs1) (h12 : ∀ i ∈ vs1, i ∈ vs) (h : TEo K c (tLc2X ti bd tq ti1 bd1 tq1 te vs vs1) σ H k) :
    tLc2 (TIo K c ti) (bd.tg K) (TTo K c tq) (TIo K c ti1) (bd1.tg K) (TTo K c tq1) (TEo K c te) vs vs1 σ H k := by
  obtain ⟨o, ρ, τ, Q, R0, h, q⟩ := h
  refine ⟨o, ρ, τ, _, R0, h, fun J H1 o1 ρ1 src L1 R1 ok h1 => ?_⟩
  intro L hL
  cases src with
  | fx ds =>
    obtain ⟨R2, L2'⟩ := R1.push (m := .ls []) (u := .lst []) hL trivial rfl ⟨L, [], rfl, by simp, upd_same, .nil⟩
    refine comp2_ok (C := fun o' H' => Le o1 H1 o' H') ok hvs hvs1 h12 (fun o' H' ρ' τ' L' R' _ => L2'.trans L') (R2.wipe vs) h1 fun o' H' ρ' acc L' R' _ hk => ?_
    exact q _ H' o' (.tm (.ls acc)) _ _ (L1.trans (L2'.trans L')) (Rep.rest R1 (L2'.trans L') R') rfl hk
  | sl _ _ _ => exact h1.elim
  | hs _ _ _ _ _ => exact h1.elim
section
variable {elt tg iter tg1 iter1 : Expr} {ifs ifs1 : List Expr} {scope : Scope} {own : List (Str × Nat)} {ti ti1 : TSrc} {bd bd1 : Bd} {tq tq1 : TQ} {te : TX}
theorem de_lc2 (vs1 : List Nat) (hc : X.calm = true) (hN : X.N.Nodup) (hi : DI X c tg iter ti) (ok : blkC X.N X.env.scope scope own = true)
    (hg : ∀ (s : Shared) (H : Hp) (C : Addr) (cl : List (Str × Addr)) (fp : List Addr), PG (X.blk s H scope (compEnvC scope cl C X.env) fp) tg (bd.tg X.K))
    (ht : ∀ (s : Shared) (H : Hp) (C : Addr) (cl : List (Str × Addr)) (fp : List Addr), DQs (X.blk s H scope (compEnvC scope cl C X.env) fp) c ifs tq)
    (hi1 : ∀ (s : Shared) (H : Hp) (C : Addr) (cl : List (Str × Addr)) (fp : List Addr), DI (X.blk s H scope (compEnvC scope cl C X.env) fp) c tg1 iter1 ti1)
    (hg1 : ∀ (s : Shared) (H : Hp) (C : Addr) (cl : List (Str × Addr)) (fp : List Addr), PG (X.blk s H scope (compEnvC scope cl C X.env) fp) tg1 (bd1.tg X.K))
    (ht1 : ∀ (s : Shared) (H : Hp) (C : Addr) (cl : List (Str × Addr)) (fp : List Addr), DQs (X.blk s H scope (compEnvC scope cl C X.env) fp) c ifs1 tq1)
    (he : ∀ (s : Shared) (H : Hp) (C : Addr) (cl : List (Str × Addr)) (fp : List Addr), DE (X.blk s H scope (compEnvC scope cl C X.env) fp) c elt te)
    (hvs : ∀ i ∈ bd.slots, i ∈ own.map (·.2) := by decide) (hvs1 : ∀ i ∈ bd1.slots, i ∈ vs1 := by decide) (h12 : ∀ i ∈ vs1, i ∈ own.map (·.2) := by decide) (hs : ∀ x, foldedSetIterable iter X.env x = pure x := by intro _; rfl) (hs1 : ∀ env x, foldedSetIterable iter1 env x = pure x := by intro _ _; rfl) :
    DE X c (.ListComp elt [⟨tg, iter, ifs, 0⟩, ⟨tg1, iter1, ifs1, 0⟩] scope pos) (tLc2X ti bd tq ti1 bd1 tq1 te (own.map (·.2)) vs1) :=
  peImp (pe_lc2 (wi1 := TIo X.K c ti1) (g1 := bd1.tg X.K) (tt := TTo X.K c tq) (tt1 := TTo X.K c tq1) (te := TEo X.K c te) hc hN hi (blkOk_by ok) h12 hg ht hi1 hg1 ht1 he hs hs1) fun σ H k h => lc2_of hvs hvs1 h12 h
theorem ds_setLc2 {i : Nat} {y : Str} {py spos : Pos} (vs1 : List Nat) (hc : X.calm = true) (hN : X.N.Nodup) (hsw : swapsWith (.ListComp elt [⟨tg, iter, ifs, 0⟩, ⟨tg1, iter1, ifs1, 0⟩] scope pos) (some (.Name y py)) spos.line X.env = pure true) (hi : DI X c tg iter ti) (ok : blkC X.N X.env.scope scope own = true)
    (hg : ∀ (s : Shared) (H : Hp) (C : Addr) (cl : List (Str × Addr)) (fp : List Addr), PG (X.blk s H scope (compEnvC scope cl C X.env) fp) tg (bd.tg X.K))
    (ht : ∀ (s : Shared) (H : Hp) (C : Addr) (cl : List (Str × Addr)) (fp : List Addr), DQs (X.blk s H scope (compEnvC scope cl C X.env) fp) c ifs tq)
    (hi1 : ∀ (s : Shared) (H : Hp) (C : Addr) (cl : List (Str × Addr)) (fp : List Addr), DI (X.blk s H scope (compEnvC scope cl C X.env) fp) c tg1 iter1 ti1)
    (hg1 : ∀ (s : Shared) (H : Hp) (C : Addr) (cl : List (Str × Addr)) (fp : List Addr), PG (X.blk s H scope (compEnvC scope cl C X.env) fp) tg1 (bd1.tg X.K))
    (ht1 : ∀ (s : Shared) (H : Hp) (C : Addr) (cl : List (Str × Addr)) (fp : List Addr), DQs (X.blk s H scope (compEnvC scope cl C X.env) fp) c ifs1 tq1)
    (he : ∀ (s : Shared) (H : Hp) (C : Addr) (cl : List (Str × Addr)) (fp : List Addr), DE (X.blk s H scope (compEnvC scope cl C X.env) fp) c elt te)
    (hy : X.N[i]? = some y := by rfl) (hyl : X.env.scope.names.lookup y = some .local := by rfl)
    (hvs : ∀ i ∈ bd.slots, i ∈ own.map (·.2) := by decide) (hvs1 : ∀ i ∈ bd1.slots, i ∈ vs1 := by decide) (h12 : ∀ i ∈ vs1, i ∈ own.map (·.2) := by decide) (hs : ∀ x, foldedSetIterable iter X.env x = pure x := by intro _; rfl) (hs1 : ∀ env x, foldedSetIterable iter1 env x = pure x := by intro _ _; rfl) :
    DS X c (.Assign [.Name y py] (.ListComp elt [⟨tg, iter, ifs, 0⟩, ⟨tg1, iter1, ifs1, 0⟩] scope pos) spos) (sAsg i (tLc2X ti bd tq ti1 bd1 tq1 te (own.map (·.2)) vs1)) :=
  psImp (ps_setLc2 (wi1 := TIo X.K c ti1) (g1 := bd1.tg X.K) (tt := TTo X.K c tq) (tt1 := TTo X.K c tq1) (te := TEo X.K c te) hc hN hy hyl hsw hi (blkOk_by ok) h12 hg ht hi1 hg1 ht1 he hs hs1) fun D σ H h => lc2_of hvs hvs1 h12 (sAsg_of h)
end
end
end Y
namespace Y
open PySem PySem.Spec L2
/-! ### {k: v for ..}: the new dict's keys ints and texts (tup = false), or tuples of them (tup = true) -/
def dcNew (tup : Bool) : HO := if tup = true then .dT [] else .dK []
def DcPut (tup : Bool) (D : Addr) (y z : V) (H : Hp) (Nx : Hp → Prop) : Prop :=
  if tup = true then ∃ kvs k b, y = .ref b ∧ H b = some (.tup (k.map kV)) ∧ H D = some (.dT kvs) ∧ kvs.length < sizeLine ∧ Nx (upd H D (.dT (putK kvs k z)))
  else ∃ kvs k, y = kV k ∧ H D = some (.dK kvs) ∧ kvs.length < sizeLine ∧ Nx (upd H D (.dK (putK kvs k z)))
theorem DcPut.run {X : Cx} {pins : List (Addr × Obj)} {σ : St} {H : Hp} {s : Shared} {tup : Bool} {D : Addr} {y z : V} {u r : Value} {Nx : Hp → Prop} {Q : Unit → Shared → Prop} {E : Value → Shared → Prop} (hu : X.A.units + 1 < cLine) (h : DcPut tup D y z H Nx)
    (I : Inv X pins σ H s) (ry : RelV y u) (rz : RelV z r) (q : ∀ s' H', Inv X pins σ H' s' → Nx H' → Q () s') : wpAny (model X.prog X.w) X.A (dictSet D u r) Q E s := by
  cases tup with
  | false =>
    obtain ⟨kvs, k, rfl, hD, hz, nx⟩ := h
    exact d_dictSet I hD hz ry rz fun s' I' => q s' _ I' nx
  | true =>
    obtain ⟨kvs, k, b, rfl, hb, hD, hz, nx⟩ := h
    cases (show u = Value.ref b from ry)
    obtain ⟨_, _, xs, rel, dd⟩ := dt_of I.hok hD
    have hx : xs.length ≤ sizeLine := by rw [← Paired.length rel]; omega
    have hl := length_putK kvs k z
    exact wpAny_dictSet_heap (hsz := hx) (by show X.A.units < cLine; omega) (key_of I.hok hb) dd fun h' d2 sb => q _ _ (dt_write I hD (by omega) (rel.put k hb rz) sb d2) nx
/-- what one turn of the loop asks -/
def DcTurn (tup : Bool) (J : It) (g : TG) (tt : TT) (tk tv : TE) (σ0 : St) (vs : List Nat) (D : Addr) (W : Nat → Nat → Hp → Prop) (Qd : Hp → Prop) : Prop := ∀ i m H, W i m H →
  (J.stop i H ∧ Qd H) ∨ (J.go i H ∧ ∃ Nx : Hp → Prop, (∀ H', Nx H' → ∃ m', m' < m ∧ W (i + 1) m' H') ∧ ∀ x H', J.yld i H x H' → g x σ0 H' fun σ2 H2 => wipe σ2 vs = σ0 ∧
    tt σ2 H2 fun b H3 => if b = true then tk σ2 H3 fun y H4 => tv σ2 H4 fun z H5 => DcPut tup D y z H5 Nx else Nx H3)
def tDcX (tup : Bool) (wi : TI) (g : TG) (tt : TT) (tk tv : TE) (vs : List Nat) : TE := fun σ H Q => wi σ H fun J H1 => ∀ D, H1 D = none →
  ∃ W : Nat → Nat → Hp → Prop, (∃ m, W 0 m (upd H1 D (dcNew tup))) ∧ DcTurn tup J g tt tk tv (wipe σ vs) vs D W (Q (.ref D))
section
variable {Z X : Cx} {pins : List (Addr × Obj)} {tup : Bool} {D it : Addr} {fp : List Addr} {tn : Nat → Heap → Prop} {J : It} {kx vx tg iter : Expr} {ifs : List Expr} {scope : Scope} {own : List (Str × Nat)} {pos : Pos} {wi : TI} {g : TG} {tt : TT} {tk tv : TE}
theorem dc_loop {R : Result → Shared → Prop} {σ0 : St} {vs : List Nat} {W : Nat → Nat → Hp → Prop} {Qd : Hp → Prop} (quiet : ∀ v s, ¬ Z.xe v s) (hu : Z.A.units + 1 < cLine) (calm : Z.calm = true) (T : Turn Z.prog Z.w Z.K tg J fp it tn)
    (mine : ∀ σ' H' s', Inv Z [] σ' H' s' → (∀ b ∈ fp, H' b = none) → ∀ b ∈ fp, FpOk Z [] H' b) (pg : PG Z tg g) (pt : PTs Z ifs tt) (pk : PE Z kx tk) (pv : PE Z vx tv) (turn : DcTurn tup J g tt tk tv σ0 vs D W Qd)
    (bye : ∀ s' H', Inv Z [] σ0 H' s' → Qd H' → R (.ok .next) s') {m : Nat} {s : Shared} {H : Hp} (I : Inv Z [] σ0 H s) (st : tn 0 s.heap) (nf : ∀ b ∈ fp, H b = none) (w0 : W 0 m H) :
    codeAny (model Z.prog Z.w) Z.A (.compLoop (.DictComp kx vx [⟨tg, iter, ifs, 0⟩] scope pos) 0 (.ref it) (.ref D) Z.env) R s := by
  let Stand : Nat → Shared → Prop := fun n s' => ∃ j H', Inv Z [] σ0 H' s' ∧ tn j s'.heap ∧ (∀ b ∈ fp, H' b = none) ∧ W j n H'
  have quiet' : ∀ {α : Type} {t : Sem α} {Q Q' : α → Shared → Prop} {E : Value → Shared → Prop} {s : Shared}, wpAny (model Z.prog Z.w) Z.A t Q Z.xe s → (∀ a s, Q a s → Q' a s) → wpAny (model Z.prog Z.w) Z.A t Q' E s :=
    fun a b => wpAny_mono a b fun v s z => (quiet v s z).elim
  refine compLoop_anyD Stand ?_ m ⟨0, H, I, st, nf, w0⟩
  rintro n sa ⟨j, Ha, Ia, sta, nfa, wa⟩
  have ours := mine _ _ _ Ia nfa
  rcases turn j n Ha wa with ⟨halt, goal⟩ | ⟨more, Nx, less, step⟩
  · refine thn (T.done Z rfl rfl rfl calm j [] sa _ Ha _ Ia ours sta halt) ?_
    rintro _ sb ⟨rfl, Ib⟩
    exact bye sb Ha Ib goal
  · refine thn (T.item Z rfl rfl rfl calm j [] sa _ Ha _ Ia ours sta more) ?_
    rintro _ sb ⟨u, rfl, next⟩
    refine thn next ?_
    rintro _ sc ⟨x, Hc, Ic, rx, yx, stc, nfc⟩
    have objs := T.obj _ _ stc
    refine quiet' (pg.run _ sc _ Hc x u _ (Ic.pinned (mine _ _ _ Ic nfc) objs) rx (step x Hc yx)) ?_
    rintro _ sd ⟨σd, Hd, Id, wd, kd⟩
    have back : ∀ {s' : Shared} {H' : Hp}, Inv Z ([] ++ pinsAt fp sc.heap) σd H' s' → Nx H' → ∃ m', m' < n ∧ Stand m' s' := by
      intro s' H' I' nx
      have kept : ∀ b ∈ fp, ∀ u, sc.heap.get? b = some u → s'.heap.get? b = some u ∧ H' b = none := fun b hb u e => by
        have := I'.pin (b, u) (by simp [mem_pinsAt hb e])
        exact ⟨this.1, this.2.1⟩
      obtain ⟨m', lt, w'⟩ := less H' nx
      have shorter : σ0.length = σd.length := by rw [← wd]; exact wipe_length σd vs
      exact ⟨m', lt, j + 1, H', I'.unpinned.weak shorter fun i v e => by rw [← wd] at e; exact (wipe_some e).1, T.keep _ _ _ stc fun b hb u e => (kept b hb u e).1,
        fun b hb => let ⟨u, e, _⟩ := objs b hb; (kept b hb u e).2, w'⟩
    refine quiet' (pt.run _ sd σd Hd _ Id kd) ?_
    rintro yes se ⟨He, Ie, ke⟩
    cases yes with
    | false => exact back Ie ke
    | true =>
      refine quiet' (pk.run _ se σd He _ Ie ke) ?_
      rintro uk sf ⟨yk, Hf, If, rk, kf⟩
      refine quiet' (pv.run _ sf σd Hf _ If kf) ?_
      rintro uv sg ⟨yv, Hg, Ig, rv, kg⟩
      exact kg.run hu Ig rk rv fun s' H' I' nx => back I' nx

theorem dcx_core {s : Shared} {σ : St} {H : Hp} {Q : VK} {pos' : Pos} {use : Option (Value → Sem Unit)} {Qf : Value → Shared → Prop} (hu : X.A.units + 1 < cLine) (calm : X.calm = true) (nd : X.N.Nodup) (I : Inv X pins σ H s) (hi : PI X tg iter wi) (ok : BlkOk X.N X.env.scope scope own)
    (hg : ∀ (s : Shared) (H : Hp) (C : Addr) (cl : List (Str × Addr)) (fp : List Addr), PG (X.blk s H scope (compEnvC scope cl C X.env) fp) tg g) (ht : ∀ (s : Shared) (H : Hp) (C : Addr) (cl : List (Str × Addr)) (fp : List Addr), PTs (X.blk s H scope (compEnvC scope cl C X.env) fp) ifs tt)
    (hk : ∀ (s : Shared) (H : Hp) (C : Addr) (cl : List (Str × Addr)) (fp : List Addr), PE (X.blk s H scope (compEnvC scope cl C X.env) fp) kx tk)
    (he : ∀ (s : Shared) (H : Hp) (C : Addr) (cl : List (Str × Addr)) (fp : List Addr), PE (X.blk s H scope (compEnvC scope cl C X.env) fp) vx tv) (plain : ∀ x, foldedSetIterable iter X.env x = pure x)
    (h : tDcX tup wi g tt tk tv (own.map (·.2)) σ H Q)
    (done : ∀ D C s' m H', Inv X pins σ H' s' → Q (.ref D) H' → s'.heap.Ns C m → FpOk X pins H' C → compPost (model X.prog X.w) X.A X.xe use Qf (.ref D) C (.ok .next) s') :
    wpAny (model X.prog X.w) X.A (comprehension (.DictComp kx vx [⟨tg, iter, ifs, 0⟩] scope pos) scope X.env pos' newDict false (eval iter X.env) use) Qf X.xe s := by
  have closed := closure_ok (scope := scope) (env := X.env) fun y hy e => I.ok.has y.1 (ok.free y hy e)
  refine wpAny_comprehension_free (use := use) rfl plain closed ok.kind (fun y hy e => (ok.uniq y hy).trans (by rw [e])) (thn (hi.run pins s σ H _ I h) fun _ s1 h1 => thn h1 ?_)
  rintro _ s2 ⟨it, fp, tn, J, H2, rfl, I2, T, st2, own2, q⟩
  refine wpAny_newObj_type (newEnv_comp ?_)
  let D := s2.heap.objs.size
  obtain ⟨W, ⟨m0, w0⟩, turn⟩ := q D (I2.hok.fresh (Nat.le_refl _))
  -- the new dict stands
  let s3 : Shared := { s2 with heap := s2.heap.push { cls := .type "dict", data := .dict #[] } }
  let H3 : Hp := upd H2 D (dcNew tup)
  let C := s3.heap.objs.size
  have up : ∀ b u, s2.heap.get? b = some u → s3.heap.get? b = some u := fun b u e => Heap.get?_push_of_some _ e
  have I3 : Inv X pins σ H3 s3 := by
    refine I2.laid (t' := s2.toks) up (Nat.le_refl _) ?_
    cases tup
    · exact dk_empty s2.heap I2.big
    · exact dt_empty s2.heap I2.big
  have below : ∀ b ∈ fp, b < D := fun b hb => let ⟨_, e, _⟩ := T.obj _ _ st2 b hb; Heap.lt_size e
  have own3 : ∀ b ∈ fp, FpOk X pins H3 b ∧ b < C := fun b hb =>
    ⟨⟨(upd_ne (Nat.ne_of_lt (below b hb))).trans (own2 b hb).1, (own2 b hb).2⟩, by show b < (s2.heap.push _).objs.size; rw [Heap.size_push]; exact Nat.lt_succ_of_lt (below b hb)⟩
  have I4 := block_start I3 ok nd own3
  let cl := cellsFrom (C + 1) scope.names (cloFrom X.env.cells scope.names [])
  let ce := compEnvC scope cl C X.env
  let Z := X.blk s3 H3 scope ce fp
  let s4 : Shared := { s3 with heap := pushCells (s3.heap.push { cls := .type "dict", data := .dict #[] }) scope.names }
  have st4 : tn 0 s4.heap := T.keep _ _ _ st2 fun b _ u e => pushCells_keeps _ _ _ _ (Heap.get?_push_of_some _ (up b u e))
  have loop : codeAny (model X.prog X.w) X.A (.compLoop (.DictComp kx vx [⟨tg, iter, ifs, 0⟩] scope pos) 0 (.ref it) (.ref D) ce) (compPost (model X.prog X.w) X.A X.xe use Qf (.ref D) C) s4 := by
    refine dc_loop (Z := Z) (fun _ _ f => f) hu calm T ?_ (hg s3 H3 C cl fp) (ht s3 H3 C cl fp) (hk s3 H3 C cl fp) (he s3 H3 C cl fp) turn ?_ I4 st4 (fun b hb => (own3 b hb).1.1) w0
    · intro σ' H' s' I' nf b hb
      exact ⟨nf b hb, (I'.ok.exf b hb).1, I'.ok.exfs b hb, .inl hb, fun x c e => (I'.ok.exf b hb).2 x c e, fun p hp => by cases hp⟩
    · intro s' H' I' k
      have I5 : Inv X pins σ H' s' := I3.call' (ch := fp) I'.os I'.base I'.hok I'.bare fun b hb => ⟨(own3 b hb).1.2.2.2.1, (own3 b hb).1.2.1, (own3 b hb).1.2.2.2.2.1, (own3 b hb).1.2.2.2.2.2⟩
      obtain ⟨m, ns, _⟩ := I'.loc
      exact done D C s' m H' I5 k ns (I3.fpOk (Nat.le_refl _) I'.free)
  exact codeAny_compStart_dict loop (T.self X.A 0 _ _ _ st4 loop)
theorem pe_dcx (hu : X.A.units + 1 < cLine) (calm : X.calm = true) (nd : X.N.Nodup) (hi : PI X tg iter wi) (ok : BlkOk X.N X.env.scope scope own)
    (hg : ∀ (s : Shared) (H : Hp) (C : Addr) (cl : List (Str × Addr)) (fp : List Addr), PG (X.blk s H scope (compEnvC scope cl C X.env) fp) tg g) (ht : ∀ (s : Shared) (H : Hp) (C : Addr) (cl : List (Str × Addr)) (fp : List Addr), PTs (X.blk s H scope (compEnvC scope cl C X.env) fp) ifs tt)
    (hk : ∀ (s : Shared) (H : Hp) (C : Addr) (cl : List (Str × Addr)) (fp : List Addr), PE (X.blk s H scope (compEnvC scope cl C X.env) fp) kx tk)
    (he : ∀ (s : Shared) (H : Hp) (C : Addr) (cl : List (Str × Addr)) (fp : List Addr), PE (X.blk s H scope (compEnvC scope cl C X.env) fp) vx tv) (plain : ∀ x, foldedSetIterable iter X.env x = pure x := by intro _; rfl) :
    PE X (.DictComp kx vx [⟨tg, iter, ifs, 0⟩] scope pos) (tDcX tup wi g tt tk tv (own.map (·.2))) := by
  constructor
  intro pins s σ H Q I h
  rw [arm_eval_DictComp]
  refine dcx_core hu calm nd I hi ok hg ht hk he plain h ?_
  rintro D C s' m H' I' q ns ⟨f0, f1, _, f3, f4, f5⟩
  exact ⟨m, ns, fun _ sb => ⟨.ref D, H', I'.turned (t' := s'.toks) (fun b u ne e => (sb.2 b ne).trans e) f0 f1 f3 f4 f5, rfl, q⟩⟩
theorem ps_setDcx {i : Nat} {y : Str} {py spos : Pos} (hu : X.A.units + 1 < cLine) (calm : X.calm = true) (nd : X.N.Nodup) (at_ : X.N[i]? = some y) (loc : X.env.scope.names.lookup y = some .local)
    (sw : swapsWith (.DictComp kx vx [⟨tg, iter, ifs, 0⟩] scope pos) (some (.Name y py)) spos.line X.env = pure true) (hi : PI X tg iter wi) (ok : BlkOk X.N X.env.scope scope own)
    (hg : ∀ (s : Shared) (H : Hp) (C : Addr) (cl : List (Str × Addr)) (fp : List Addr), PG (X.blk s H scope (compEnvC scope cl C X.env) fp) tg g) (ht : ∀ (s : Shared) (H : Hp) (C : Addr) (cl : List (Str × Addr)) (fp : List Addr), PTs (X.blk s H scope (compEnvC scope cl C X.env) fp) ifs tt)
    (hk : ∀ (s : Shared) (H : Hp) (C : Addr) (cl : List (Str × Addr)) (fp : List Addr), PE (X.blk s H scope (compEnvC scope cl C X.env) fp) kx tk)
    (he : ∀ (s : Shared) (H : Hp) (C : Addr) (cl : List (Str × Addr)) (fp : List Addr), PE (X.blk s H scope (compEnvC scope cl C X.env) fp) vx tv) (plain : ∀ x, foldedSetIterable iter X.env x = pure x := by intro _; rfl) :
    PS X (.Assign [.Name y py] (.DictComp kx vx [⟨tg, iter, ifs, 0⟩] scope pos) spos) (tAsg (tDcX tup wi g tt tk tv (own.map (·.2))) (gName i)) := by
  constructor
  intro pins s σ H D I h
  rw [exec_Assign_Name_used _ _ _ _ sw]
  refine wpAny_bind (wpAny_standAt (wpAny_bind ?_))
  show wpAny _ X.A (do let _ ← comprehension (.DictComp kx vx [⟨tg, iter, ifs, 0⟩] scope pos) scope X.env (firstIterPos [⟨tg, iter, ifs, 0⟩] pos) newDict false (eval iter X.env) (some (assign (.Name y py) X.env))) _ _ s
  refine wpAny_bind (thn (dcx_core (Q := fun x H1 => gName i x σ H1 D.nx) (Qf := fun _ s' => SP X pins D .next s') hu calm nd I hi ok hg ht hk he plain h ?_) fun _ _ k => wpAny_pure (wpAny_pure k))
  rintro d C s' m H' I' q ns ⟨f0, f1, _, f3, f4, f5⟩
  refine wpAny_assign_Name (store_ok2 (v := V.ref d) I' nd at_ (.inl loc) rfl ?_ (.inr loc))
  rintro s5 I5 ⟨a, sb, way⟩
  have apart : C ≠ a := way.elim (fun z => by rw [z]; exact f1) fun z e => f4 y a z e.symm
  exact ⟨m, ns.sameBut sb apart, fun _ sb3 => ⟨_, H', I5.turned (t' := s5.toks) (fun b u ne e => (sb3.2 b ne).trans e) f0 f1 f3 f4 f5, q⟩⟩
theorem sw_dc {kx vx : Expr} {gs : List Comprehension} {scope : Scope} {pos py : Pos} {y : Str} {l : Nat} {env : PySem.Env} (hk : env.scope.kind = .function) (hy : env.scope.names.lookup y = some .local) (hl : (py.line == pos.line) = true)
    (ha : (scope.names.any fun (n, k) => n == y && (k == .local || k == .cell)) = false) : swapsWith (.DictComp kx vx gs scope pos) (some (.Name y py)) l env = pure true := by
  have e1 : env.kindOf y = some .local := hy
  have e2 : env.blockKind = .function := by unfold Env.blockKind; rw [hk]; rfl
  simp only [swapsWith, e1, e2, ha, Expr.pos, hl]
  rfl
end
section
variable {K : PySem.W.Frag} {c : Cc} {o o' : Own} {σ σ' : St} {H H' : Hp} {ρ ρ' : Env} {τ τ' : List (V × M)} {X : Cx}
/-- the pairs so far, and one more -/
def dcAdd (tup : Bool) (m : M) (k v : D) (G : M → Prop) : Prop := if tup = true then match m, k with
    | .dt kvs, .tup ks => match D.keys? ks with
      | some k => kvs.length < sizeLine ∧ G (.dt (putD kvs k v))
      | none => False
    | _, _ => False
  else match m with
    | .dk kvs => match k.key? with
      | some k => kvs.length < sizeLine ∧ G (.dk (putD kvs k v))
      | none => False
    | _ => False
def mNew (tup : Bool) : M := if tup = true then .dt [] else .dk []
def dcL (tup : Bool) (b : Bd) (tq : TQ) (tk tv : TX) (vs : List Nat) (gd : Env → Prop) (k : M → Env → Prop) : List D → M → Env → Prop
  | [], acc, ρ => gd ρ ∧ k acc ρ
  | d :: ds, acc, ρ => gd ρ ∧ bnd b d ρ fun ρ1 => tq ρ1 fun ok ρ2 =>
    if ok = true then tFrz (lCons tk (lCons tv lNil)) (fun xs ρ3 => match xs with
      | [x, y] => dcAdd tup acc x y fun acc' => dcL tup b tq tk tv vs gd k ds acc' (wipeE ρ3 vs)
      | _ => False) ρ2
    else dcL tup b tq tk tv vs gd k ds acc (wipeE ρ2 vs)
theorem le_tmp {a : Addr} {j : Nat} {w : HO} (ho : o a = some (.t j)) : Le o H o (upd H a w) :=
  Le.mk' (fun b u q f => ⟨q, (upd_ne fun z => by rw [z, ho] at q; cases q).trans f⟩) (fun b q => ⟨q, upd_ne fun z => by rw [z, ho] at q; cases q⟩) fun b _ q => ⟨q, upd_ne fun z => by rw [z, ho] at q; cases q⟩
theorem dcAdd_ok {tup : Bool} {D0 : Addr} {m : M} {vk vx : V} {dk dx : D} {G : M → Prop} {Nx : Hp → Prop} (R0 : Rep K c o σ H ρ (τ ++ [(.ref D0, m)])) (d1 : Dat K o H vk dk) (d2 : Dat K o H vx dx) (h : dcAdd tup m dk dx G)
    (q : ∀ H' m', Rep K c o σ H' ρ (τ ++ [(.ref D0, m')]) → Le o H o H' → G m' → Nx H') : DcPut tup D0 vk vx H Nx := by
  have last := (R0.tm τ.length (.ref D0) m (by simp)).1
  cases tup with
  | true =>
    unfold dcAdd at h
    rw [if_pos rfl] at h
    split at h
    · rename_i kvs ks'
      split at h
      · rename_i ky ek
        obtain ⟨a, ks, e, ho, hH, dd⟩ := last
        cases e
        cases d1 with
        | tup t r =>
          have ek' := r.keys ek
          subst ek'
          refine ⟨ks, ky, _, rfl, t.2, hH, by rw [dd.length]; exact h.1, ?_⟩
          obtain ⟨R1, L1⟩ := R0.setT (m' := .dt (putD kvs ky dx)) (u := .dT (putK ks ky vx)) ho trivial rfl ⟨_, _, rfl, ho, upd_same, Kvs.mono (le_tmp ho) (dd.put ky d2)⟩
          exact q _ _ R1 L1 h.2
      · exact h.elim
    · exact h.elim
  | false =>
    unfold dcAdd at h
    rw [if_neg (by simp)] at h
    split at h
    · rename_i kvs
      split at h
      · rename_i ky ek
        obtain ⟨a, ks, e, ho, hH, dd⟩ := last
        cases e
        have ek' := d1.key ek
        subst ek'
        refine ⟨ks, ky, rfl, hH, by rw [dd.length]; exact h.1, ?_⟩
        obtain ⟨R1, L1⟩ := R0.setT (m' := .dk (putD kvs ky dx)) (u := .dK (putK ks ky vx)) ho trivial rfl ⟨_, _, rfl, ho, upd_same, Kvs.mono (le_tmp ho) (dd.put ky d2)⟩
        exact q _ _ R1 L1 h.2
      · exact h.elim
    · exact h.elim
theorem dcl_ok {tup : Bool} {J : It} {ds : List D} {bd : Bd} {tq : TQ} {tk tv : TX} {vs : List Nat} {gd : Env → Prop} {k : M → Env → Prop} {C : Own → Hp → Prop} {o1 : Own} {H1 : Hp} {Qd : Hp → Prop} {L : Addr} {m0 : M} (hr : Runs K J ds C) (hvs : ∀ i ∈ bd.slots, i ∈ vs)
    (hc : ∀ o' H' ρ' τ', Le o1 H1 o' H' → Rep K c o' (L2.wipe σ vs) H' ρ' τ' → gd ρ' → C o' H') (R0 : Rep K c o1 (L2.wipe σ vs) H1 ρ (τ ++ [(.ref L, m0)]))
    (h : dcL tup bd tq tk tv vs gd k ds m0 ρ)
    (q : ∀ o' H' ρ' m, Le o1 H1 o' H' → Rep K c o' (L2.wipe σ vs) H' ρ' (τ ++ [(.ref L, m)]) → gd ρ' → k m ρ' → Qd H') :
    ∃ W : Nat → Nat → Hp → Prop, (∃ m, W 0 m H1) ∧ DcTurn tup J (bd.tg K) (TTo K c tq) (TEo K c tk) (TEo K c tv) (L2.wipe σ vs) vs L W Qd := by
  let At : Nat → Hp → Prop := fun i H => ∃ o ρ m, Le o1 H1 o H ∧ Rep K c o (L2.wipe σ vs) H ρ (τ ++ [(.ref L, m)]) ∧ dcL tup bd tq tk tv vs gd k (ds.drop i) m ρ
  refine ⟨fun i n H => n = ds.length - i ∧ i ≤ ds.length ∧ At i H, ⟨ds.length, by simp, Nat.zero_le _, o1, ρ, m0, .refl, R0, by simpa using h⟩, ?_⟩
  rintro i n H ⟨rfl, hi, o, ρ, m, Lo, R, h⟩
  by_cases hlt : i < ds.length
  · rw [show ds.drop i = ds[i] :: ds.drop (i + 1) from List.drop_eq_getElem_cons hlt] at h
    obtain ⟨hg, h⟩ := h
    obtain ⟨go, yl⟩ := (hr o H (hc o H ρ _ Lo R hg) R.mu).1 i ds[i] (by simp [hlt])
    refine .inr ⟨go, At (i + 1), fun H' at' => ⟨ds.length - (i + 1), by omega, rfl, hlt, at'⟩, fun x H' y => ?_⟩
    obtain ⟨g, dx⟩ := yl x H' y
    refine bnd_ok (R.grow g) dx h fun σ' ρ' R' hw hf => ?_
    have same : L2.wipe σ' vs = L2.wipe σ vs := by rw [hw vs hvs, wipe_idem]
    have L2' : Le o1 H1 o H' := Lo.trans (g.le R.mu)
    refine ⟨same, o, ρ', _, _, R', hf, fun b H3 o3 ρ3 L3 R3 h3 => ?_⟩
    cases b with
    | false =>
      have R4 := R3.wipe vs
      rw [same] at R4
      exact ⟨o3, _, m, L2'.trans L3, R4, h3⟩
    | true =>
      refine ⟨o3, ρ3, _, _, R3, h3, fun v1 H4 o4 r1 ρ4 τ4 L4 R4 z1 h4 => ?_⟩
      refine ⟨o4, ρ4, _, _, R4, h4, fun v2 H5 o5 r2 ρ5 τ5 L5 R5 z2 h5 => ?_⟩
      have h5 : match froz ρ5 [r1, r2] with
        | some (ds', ρ6) => (match ds' with
          | [x, y] => dcAdd tup m x y fun acc' => dcL tup bd tq tk tv vs gd k (ds.drop (i + 1)) acc' (wipeE ρ6 vs)
          | _ => False)
        | none => False := h5
      split at h5
      · rename_i ds' ρ6 e
        have zz : RelRs K o5 H5 σ' [v1, v2] [r1, r2] (τ ++ [(.ref L, m)]) τ5 := .cons (z1.mono L5) (.cons z2 .nil)
        have R6 := R5.drop zz.pre
        have els := zz.els (ρ0 := ρ5) (base := (τ ++ [(V.ref L, m)]).length) (Nat.le_refl _) fun j v m e => (R5.tm j v m e).1
        obtain ⟨o6, L6, R7, dd⟩ := froz_ok R6 els e
        split at h5
        · rename_i x y
          cases dd with
          | cons a t =>
            cases t with
            | cons a' t' =>
              cases t'
              refine dcAdd_ok R7 a a' h5 fun H8 m' R8 L8 h8 => ?_
              have R9 := R8.wipe vs
              rw [same] at R9
              exact ⟨o6, _, m', L2'.trans (L3.trans (L4.trans (L5.trans ((dropT_le _).trans (L6.trans L8))))), R9, h8⟩
        · exact h5.elim
      · exact h5.elim
  · have e : i = ds.length := by omega
    subst e
    rw [List.drop_length] at h
    exact .inl ⟨(hr o H (hc o H ρ _ Lo R h.1) R.mu).2, q o H ρ m Lo R h.1 h.2⟩
/-- (a source that is no name's own list) -/
def tDc (tup : Bool) (ti : TSrc) (b : Bd) (tq : TQ) (tk tv : TX) (vs : List Nat) : TX := fun ρ Q => ti ρ fun src ρ1 => match src with
  | .fx ds => dcL tup b tq tk tv vs (fun _ => True) (fun m ρ' => Q (.tm m) (restE ρ1 ρ' vs)) ds (mNew tup) (wipeE ρ1 vs)
  | .sl i es ds => match ρ1[i]? with
    | some s => match s.m! with
      | some m => m = .ls es ∧ ∀ v, dcL tup b tq tk tv vs (fun ρ => ρ[i]? = some (.hd s.isP v m)) (fun m' ρ' => Q (.tm m') ((restE ρ1 ρ' vs).set i s)) ds (mNew tup) (wipeE (ρ1.set i (.hd s.isP v m)) vs)
      | none => False
    | none => False
  | .hs i p v es ds => dcL tup b tq tk tv vs (fun ρ => ρ[i]? = some (.hd p v (.ls es))) (fun m ρ' => Q (.tm m) (restE ρ1 ρ' vs)) ds (mNew tup) (wipeE ρ1 vs)
theorem dc_of {tup : Bool} {ti : TSrc} {bd : Bd} {tq : TQ} {tk tv : TX} {vs : List Nat} {k : VK} (hvs : ∀ i ∈ bd.slots, i ∈ vs) (h : TEo K c (tDc tup ti bd tq tk tv vs) σ H k) : tDcX tup (TIo K c ti) (bd.tg K) (TTo K c tq) (TEo K c tk) (TEo K c tv) vs σ H k := by
  obtain ⟨o, ρ, τ, Q, R0, h, q⟩ := h
  refine ⟨o, ρ, τ, _, R0, h, fun J H1 o1 ρ1 src L1 R1 ok h1 => ?_⟩
  intro L hL
  have push : ∀ {o2 : Own} {ρ2 : Env}, Rep K c o2 σ H1 ρ2 τ → Rep K c (fun b => if b = L then some (.t τ.length) else o2 b) σ (upd H1 L (dcNew tup)) ρ2 (τ ++ [(.ref L, mNew tup)]) ∧ Le o2 H1 (fun b => if b = L then some (.t τ.length) else o2 b) (upd H1 L (dcNew tup)) := by
    intro o2 ρ2 R2
    cases tup
    · exact R2.push (m := .dk []) (u := .dK []) hL trivial rfl ⟨L, [], rfl, by simp, upd_same, .nil⟩
    · exact R2.push (m := .dt []) (u := .dT []) hL trivial rfl ⟨L, [], rfl, by simp, upd_same, .nil⟩
  cases src with
  | fx ds =>
    obtain ⟨R2, L2'⟩ := push R1
    refine dcl_ok (C := fun o' H' => Le o1 H1 o' H') ok hvs (fun o' H' ρ' τ' L' R' _ => L2'.trans L') (R2.wipe vs) h1 fun o' H' ρ' m L' R' _ hk => ?_
    exact q _ H' o' (.tm m) _ _ (L1.trans (L2'.trans L')) (Rep.rest R1 (L2'.trans L') R') rfl hk
  | sl i es ds =>
    obtain ⟨v0, hv0, ok⟩ := ok
    have h1 : (match ρ1[i]? with
      | some s => match s.m! with
        | some m => m = .ls es ∧ ∀ v, dcL tup bd tq tk tv vs (fun ρ => ρ[i]? = some (.hd s.isP v m)) (fun m' ρ' => Q (.tm m') ((restE ρ1 ρ' vs).set i s)) ds (mNew tup) (wipeE (ρ1.set i (.hd s.isP v m)) vs)
        | none => False
      | none => False) := h1
    split at h1
    · rename_i s e
      split at h1
      · rename_i m em
        obtain ⟨rfl, h1⟩ := h1
        obtain ⟨v, hv, R2⟩ := R1.hide e em
        rw [hv0] at hv; cases hv
        have L2' : Le o1 H1 (relL (.s i) (.h i) o1) H1 := relL_le (by intro z; cases z)
        obtain ⟨R3, L3⟩ := push R2
        refine dcl_ok (C := fun o' H' => ∃ l, IsM K o' H' l v0 (.ls es)) ok hvs (fun o' H' ρ' τ' L' R' g => ?_) (R3.wipe vs) (h1 v0) fun o' H' ρ' m' L' R' g hk => ?_
        · obtain ⟨_, _, q⟩ := R'.sl i _ g
          exact ⟨_, q⟩
        · obtain ⟨hw, _, _⟩ := R'.sl i _ g
          have hi := (wipe_some hw).2
          have R4 := Rep.rest R1 (L2'.trans (L3.trans L')) R'
          obtain ⟨R5, L5⟩ := R4.unhide (i := i) (p := s.isP) (v := v0) (m := .ls es) (by rw [rest_out hi]; exact g)
          rw [up_back em] at R5
          exact q _ H' _ (.tm m') _ _ (L1.trans (L2'.trans (L3.trans (L'.trans L5)))) R5 rfl hk
      · exact h1.elim
    · exact h1.elim
  | hs i p v es ds =>
    obtain ⟨R2, L2'⟩ := push R1
    refine dcl_ok (C := fun o' H' => ∃ l, IsM K o' H' l v (.ls es)) ok hvs (fun o' H' ρ' τ' L' R' g => ?_) (R2.wipe vs) h1 fun o' H' ρ' m L' R' _ hk => ?_
    · obtain ⟨_, _, q⟩ := R'.sl i _ g
      exact ⟨_, q⟩
    · exact q _ H' o' (.tm m) _ _ (L1.trans (L2'.trans L')) (Rep.rest R1 (L2'.trans L') R') rfl hk
section
variable {kx vx tg iter : Expr} {ifs : List Expr} {scope : Scope} {own : List (Str × Nat)} {pos : Pos} {ti : TSrc} {bd : Bd} {tq : TQ} {tk tv : TX}
theorem de_dc (tup : Bool) (hu : X.A.units + 1 < cLine) (hc : X.calm = true) (hN : X.N.Nodup) (hi : DI X c tg iter ti) (ok : blkC X.N X.env.scope scope own = true)
    (hg : ∀ (s : Shared) (H : Hp) (C : Addr) (cl : List (Str × Addr)) (fp : List Addr), PG (X.blk s H scope (compEnvC scope cl C X.env) fp) tg (bd.tg X.K))
    (ht : ∀ (s : Shared) (H : Hp) (C : Addr) (cl : List (Str × Addr)) (fp : List Addr), DQs (X.blk s H scope (compEnvC scope cl C X.env) fp) c ifs tq)
    (hk : ∀ (s : Shared) (H : Hp) (C : Addr) (cl : List (Str × Addr)) (fp : List Addr), DE (X.blk s H scope (compEnvC scope cl C X.env) fp) c kx tk)
    (he : ∀ (s : Shared) (H : Hp) (C : Addr) (cl : List (Str × Addr)) (fp : List Addr), DE (X.blk s H scope (compEnvC scope cl C X.env) fp) c vx tv)
    (hvs : ∀ i ∈ bd.slots, i ∈ own.map (·.2) := by decide) (hs : ∀ x, foldedSetIterable iter X.env x = pure x := by intro _; rfl) : DE X c (.DictComp kx vx [⟨tg, iter, ifs, 0⟩] scope pos) (tDc tup ti bd tq tk tv (own.map (·.2))) :=
  peImp (pe_dcx (tup := tup) (tt := TTo X.K c tq) (tk := TEo X.K c tk) (tv := TEo X.K c tv) hu hc hN hi (blkOk_by ok) hg ht hk he hs) fun σ H k h => dc_of hvs h
theorem ds_setDc (tup : Bool) {i : Nat} {y : Str} {py spos : Pos} (hu : X.A.units + 1 < cLine) (hc : X.calm = true) (hN : X.N.Nodup) (hsw : swapsWith (.DictComp kx vx [⟨tg, iter, ifs, 0⟩] scope pos) (some (.Name y py)) spos.line X.env = pure true) (hi : DI X c tg iter ti) (ok : blkC X.N X.env.scope scope own = true)
    (hg : ∀ (s : Shared) (H : Hp) (C : Addr) (cl : List (Str × Addr)) (fp : List Addr), PG (X.blk s H scope (compEnvC scope cl C X.env) fp) tg (bd.tg X.K))
    (ht : ∀ (s : Shared) (H : Hp) (C : Addr) (cl : List (Str × Addr)) (fp : List Addr), DQs (X.blk s H scope (compEnvC scope cl C X.env) fp) c ifs tq)
    (hk : ∀ (s : Shared) (H : Hp) (C : Addr) (cl : List (Str × Addr)) (fp : List Addr), DE (X.blk s H scope (compEnvC scope cl C X.env) fp) c kx tk)
    (he : ∀ (s : Shared) (H : Hp) (C : Addr) (cl : List (Str × Addr)) (fp : List Addr), DE (X.blk s H scope (compEnvC scope cl C X.env) fp) c vx tv)
    (hy : X.N[i]? = some y := by rfl) (hyl : X.env.scope.names.lookup y = some .local := by rfl) (hvs : ∀ i ∈ bd.slots, i ∈ own.map (·.2) := by decide) (hs : ∀ x, foldedSetIterable iter X.env x = pure x := by intro _; rfl) :
    DS X c (.Assign [.Name y py] (.DictComp kx vx [⟨tg, iter, ifs, 0⟩] scope pos) spos) (sAsg i (tDc tup ti bd tq tk tv (own.map (·.2)))) :=
  psImp (ps_setDcx (tup := tup) (tt := TTo X.K c tq) (tk := TEo X.K c tk) (tv := TEo X.K c tv) hu hc hN hy hyl hsw hi (blkOk_by ok) hg ht hk he hs) fun D σ H h => dc_of hvs (sAsg_of h)
end
end
end Y
namespace Y
open PySem PySem.Spec L2
/-! ### the module's own tables: a tuple of flat data, a dict from texts to flat data -/
def D.fl? : D → Option V
  | .non => some .non
  | .bl b => some (.bl b)
  | .int i => some (.int i)
  | .str x => some (.str x)
  | _ => none
theorem fl_dat {K : PySem.W.Frag} {o : Own} {H : Hp} {v : V} {d : D} (e : d.fl? = some v) : Dat K o H v d := by
  cases d with
  | non => cases e; exact .non
  | bl b => cases e; exact .bl b
  | int i => cases e; exact .int i
  | str x => cases e; exact .str x
  | tup _ => cases e
  | lst _ => cases e
  | raw _ => cases e
  | fnv _ _ _ _ _ => cases e
def Gv (d : D) (u : Value) : Prop := ∃ v, d.fl? = some v ∧ RelV v u
theorem Gv.str {x : Str} {t : Tok} : Gv (.str x) (.str x t) := ⟨_, rfl, t, rfl⟩
theorem Gv.int {i : Int} {t : Tok} : Gv (.int i) (.int i t) := ⟨_, rfl, t, rfl⟩
theorem Gv.bl {b : Bool} : Gv (.bl b) (.bool b) := ⟨_, rfl, rfl⟩
theorem Gv.non : Gv .non .none := ⟨_, rfl, rfl⟩
def tabGet : List (Str × D) → Str → Option D
  | [], _ => none
  | p :: r, z => if p.1 = z then some p.2 else tabGet r z
/-- the name x is the module's dict of these rows -/
def GTab (K : PySem.W.Frag) (w : World) (mg : Str → Option Value) (x : Str) (tab : List (Str × D)) : Prop :=
  ∃ a es n, mg x = some (.ref a) ∧ KDict K w a es n ∧ Paired (fun (e : DictEntry) (p : Str × D) => (∃ t, e.key = .str p.1 t) ∧ Gv p.2 e.val) es.toList tab
/-- the name x is the module's tuple of these -/
def GTup (K : PySem.W.Frag) (mg : Str → Option Value) (x : Str) (ds : List D) : Prop :=
  ∃ a u its n, mg x = some (.ref a) ∧ K.lookup a = some u ∧ u.cls = .type "tuple" ∧ u.data = .seq its n ∧ its.size ≤ sizeLine ∧ Paired (fun (u : Value) (d : D) => Gv d u) its.toList ds
theorem tab_at {K : PySem.W.Frag} {a : Addr} {c : Value} {od : Option Addr} {es : Array DictEntry} {n : Nat} {sl : Array (Option Value)} {tab : List (Str × D)} (hl : K.lookup a = some ⟨c, od, .dict es n, sl⟩)
    (h : Paired (fun (e : DictEntry) (p : Str × D) => (∃ t, e.key = .str p.1 t) ∧ Gv p.2 e.val) es.toList tab) (z : Str) :
    match tabGet tab z with
    | some d => ∃ u, PySem.W.nsIn K a z = some (some u) ∧ Gv d u
    | none => PySem.W.nsIn K a z = some none := by
  unfold PySem.W.nsIn
  rw [hl]
  simp only
  have none_ref : ∀ {l : List DictEntry} {t : List (Str × D)}, Paired (fun (e : DictEntry) (p : Str × D) => (∃ t, e.key = .str p.1 t) ∧ Gv p.2 e.val) l t → l.any (·.refKey) = false := by
    intro l t g
    induction g with
    | nil => rfl
    | cons a _ ih =>
      obtain ⟨⟨t, e⟩, _⟩ := a
      rw [List.any_cons, ih, Bool.or_false]
      unfold DictEntry.refKey
      rw [e]
  rw [none_ref h]
  generalize es.toList = l at h
  induction h with
  | nil => rfl
  | @cons e p l t a _ ih =>
    obtain ⟨⟨tk, ek⟩, gv⟩ := a
    rw [List.find?_cons]
    have isz : e.key.isStr z = decide (p.1 = z) := by
      rw [ek]; unfold Value.isStr
      by_cases q : p.1 = z
      · simp [q]
      · simp [q]
    unfold tabGet
    by_cases q : p.1 = z
    · rw [if_pos q, isz, decide_eq_true q]
      exact ⟨_, rfl, gv⟩
    · rw [if_neg q, isz, decide_eq_false q]
      exact ih
section
variable {K : PySem.W.Frag} {c : Cc} {o o' : Own} {σ σ' : St} {H H' : Hp} {ρ ρ' : Env} {τ τ' : List (V × M)} {X : Cx} {e : Expr} {pos : Pos} {x : Str} {p : Pos}
/-- something is made of one value -/
def tOn (f : D → (D → Prop) → Prop) (t : TX) : TX := fun ρ Q => t ρ fun r ρ1 => match r with
  | .im d => f d fun e => Q (.im e) ρ1
  | _ => False
theorem tOn_of {f : D → (D → Prop) → Prop} {t : TX} {k : VK} {r : V → Hp → VK → Prop} (h : TEo K c (tOn f t) σ H k)
    (hr : ∀ o H v d (G : D → Prop) (k : VK), Dat K o H v d → f d G → (∀ v' e, Dat K o H v' e → G e → k v' H) → r v H k) : tUn r (TEo K c t) σ H k := by
  obtain ⟨o, ρ, τ, Q, R0, h, q⟩ := h
  refine ⟨o, ρ, τ, _, R0, h, fun v1 H1 o1 r1 ρ1 τ1 L1 R1 z1 h1 => ?_⟩
  split at h1
  · rename_i d
    obtain ⟨rfl, z⟩ := z1
    exact hr o1 H1 v1 d _ _ z h1 fun v' e de g => q v' H1 o1 (.im e) ρ1 _ L1 R1 ⟨rfl, de⟩ g
  · exact h1.elim
def fInD (neg : Bool) (tab : List (Str × D)) (d : D) (k : D → Prop) : Prop := match d with
  | .str z => k (.bl (neg ^^ (tabGet tab z).isSome))
  | _ => False
def fInT (neg : Bool) (ds : List D) (d : D) (k : D → Prop) : Prop := D.ok 64 d = true ∧ k (.bl (neg ^^ ds.any fun z => z.eqv d))
def fIxD (tab : List (Str × D)) (d : D) (k : D → Prop) : Prop := match d with
  | .str z => match tabGet tab z with
    | some e => k e
    | none => False
  | _ => False
def rInG (K : PySem.W.Frag) (a : Addr) (tab : List (Str × D)) (neg : Bool) : R2 := fun x y H Q => ∃ z, x = .str z ∧ y = .ref a ∧ Q (.bl (neg ^^ (tabGet tab z).isSome)) H
theorem op_inG {a : Addr} {es : Array DictEntry} {n : Nat} {tab : List (Str × D)} (kd : KDict X.K X.w a es n) (h : Paired (fun (e : DictEntry) (p : Str × D) => (∃ t, e.key = .str p.1 t) ∧ Gv p.2 e.val) es.toList tab) : OpR X (compareOp .In) (rInG X.K a tab false) := by
  intro pins s σ H x y v u Q I rx ry ⟨z, ex, ey, q⟩
  have at_ := tab_at kd.at_ h z
  rw [Bool.false_xor] at q
  cases e : tabGet tab z with
  | none => rw [e] at at_ q; exact op_in_kd kd pins s σ H x y v u Q I rx ry ⟨z, none, ex, ey, at_, q⟩
  | some d => rw [e] at at_ q; obtain ⟨u', at_, _⟩ := at_; exact op_in_kd kd pins s σ H x y v u Q I rx ry ⟨z, some u', ex, ey, at_, q⟩
theorem op_notInG {a : Addr} {es : Array DictEntry} {n : Nat} {tab : List (Str × D)} (kd : KDict X.K X.w a es n) (h : Paired (fun (e : DictEntry) (p : Str × D) => (∃ t, e.key = .str p.1 t) ∧ Gv p.2 e.val) es.toList tab) : OpR X (compareOp .NotIn) (rInG X.K a tab true) := by
  intro pins s σ H x y v u Q I rx ry ⟨z, ex, ey, q⟩
  have at_ := tab_at kd.at_ h z
  rw [Bool.true_xor] at q
  cases e : tabGet tab z with
  | none => rw [e] at at_ q; exact op_notIn_kd kd pins s σ H x y v u Q I rx ry ⟨z, none, ex, ey, at_, q⟩
  | some d => rw [e] at at_ q; obtain ⟨u', at_, _⟩ := at_; exact op_notIn_kd kd pins s σ H x y v u Q I rx ry ⟨z, some u', ex, ey, at_, q⟩
theorem gtup_dp {a : Addr} {u : Obj} {its : Array Value} {n : Nat} {ds : List D} (hl : K.lookup a = some u) (hc : u.cls = .type "tuple") (hd : u.data = .seq its n) (hs : its.size ≤ sizeLine) (h : Paired (fun (u : Value) (d : D) => Gv d u) its.toList ds)
    (ok : D.oks 63 ds = true) : Dp K H (.ref a) (.tuple (D.pys ds)) := by
  obtain ⟨xs, rel, dats⟩ : ∃ xs : List V, Vals xs its.toList ∧ Dats K (fun _ => none) H xs ds := by
    generalize its.toList = l at h
    clear ok hd hs
    induction h with
    | nil => exact ⟨[], .nil, .nil⟩
    | cons a _ ih =>
      obtain ⟨xs, r, dd⟩ := ih
      obtain ⟨v, e, rv⟩ := a
      exact ⟨v :: xs, .cons rv r, .cons (fl_dat e) dd⟩
  exact .tup (.inr ⟨u, its, n, hl, hc, hd, hs, rel⟩) (dats.dp ok)
theorem inT_ok {a : Addr} {u : Obj} {its : Array Value} {n : Nat} {ds : List D} {neg : Bool} (hl : K.lookup a = some u) (hc : u.cls = .type "tuple") (hd : u.data = .seq its n) (hs : its.size ≤ sizeLine) (h : Paired (fun (u : Value) (d : D) => Gv d u) its.toList ds) (ok : D.oks 63 ds = true)
    {o : Own} {H : Hp} {v : V} {d : D} {G : D → Prop} {k : VK} (hv : Dat K o H v d) (hf : fInT neg ds d G) (q : ∀ v' e, Dat K o H v' e → G e → k v' H) : rInT K neg v (.ref a) H k := by
  have e2 : D.ok 64 (.tup ds) = true := by simp only [D.ok]; exact ok
  refine ⟨d.py, D.pys ds, hv.dp hf.1, gtup_dp hl hc hd hs h ok, D.ok_shaped hf.1, by have := D.ok_shaped e2; simpa only [D.py] using this, ?_⟩
  rw [any_eqv]
  exact q _ (.bl _) (.bl _) hf.2
section
variable {t : TX} {tab : List (Str × D)} {ds : List D} {neg : Bool} {op : CmpOp}
theorem inD_of {a : Addr} {k : VK} (h : TEo K c (tOn (fInD neg tab) t) σ H k) : tOp (rInG K a tab neg) (TEo K c t) (tC (.ref a)) σ H k :=
  tOn_of (r := fun x H Q => rInG K a tab neg x (.ref a) H Q) h fun o H v d G k hv hf q => by
    cases hv <;> first | exact hf.elim | exact ⟨_, rfl, rfl, q _ _ (.bl _) hf⟩
theorem de_inG (hg : Gl X x) (g : GTab X.K X.w X.mg x tab) (he : DE X c e t) (hdb : (x == ("__debug__" : Str)) = false := by decide) (hm : behindInMarks .In (.Name x p) = false := by first | exact nomark _ | rfl) : DE X c (.Compare e [.In] [.Name x p] pos) (tOn (fInD false tab) t) :=
  let ⟨a, es, n, m, kd, pr⟩ := g; peImp (pe_cmpR (op_inG kd pr) he (pe_glob (v := .ref a) hg m rfl hdb) hm) fun _ _ _ h => inD_of h
theorem de_notInG (hg : Gl X x) (g : GTab X.K X.w X.mg x tab) (he : DE X c e t) (hdb : (x == ("__debug__" : Str)) = false := by decide) (hm : behindInMarks .NotIn (.Name x p) = false := by first | exact nomark _ | rfl) : DE X c (.Compare e [.NotIn] [.Name x p] pos) (tOn (fInD true tab) t) :=
  let ⟨a, es, n, m, kd, pr⟩ := g; peImp (pe_cmpR (op_notInG kd pr) he (pe_glob (v := .ref a) hg m rfl hdb) hm) fun _ _ _ h => inD_of h
theorem dt_inG (hg : Gl X x) (g : GTab X.K X.w X.mg x tab) (he : DE X c e t) (hdb : (x == ("__debug__" : Str)) = false := by decide) (hm : behindInMarks .In (.Name x p) = false := by first | exact nomark _ | rfl) : DT X c (.Compare e [.In] [.Name x p] pos) (tTst (tOn (fInD false tab) t)) :=
  let ⟨a, es, n, m, kd, pr⟩ := g; ptImp (pt_cmpR (op_inG kd pr) he (pe_glob (v := .ref a) hg m rfl hdb) hm) fun _ _ _ h => inD_of (tTst_of h)
theorem dt_notInG (hg : Gl X x) (g : GTab X.K X.w X.mg x tab) (he : DE X c e t) (hdb : (x == ("__debug__" : Str)) = false := by decide) (hm : behindInMarks .NotIn (.Name x p) = false := by first | exact nomark _ | rfl) : DT X c (.Compare e [.NotIn] [.Name x p] pos) (tTst (tOn (fInD true tab) t)) :=
  let ⟨a, es, n, m, kd, pr⟩ := g; ptImp (pt_cmpR (op_notInG kd pr) he (pe_glob (v := .ref a) hg m rfl hdb) hm) fun _ _ _ h => inD_of (tTst_of h)
theorem inT_of {a : Addr} {u : Obj} {its : Array Value} {n : Nat} {k : VK} (h1 : K.lookup a = some u) (h2 : u.cls = .type "tuple") (h3 : u.data = .seq its n) (h4 : its.size ≤ sizeLine) (h5 : Paired (fun (u : Value) (d : D) => Gv d u) its.toList ds) (ok : D.oks 63 ds = true)
    (h : TEo K c (tOn (fInT neg ds) t) σ H k) : tOp (rInT K neg) (TEo K c t) (tC (.ref a)) σ H k :=
  tOn_of (r := fun x H Q => rInT K neg x (.ref a) H Q) h fun o H v d G k hv hf q => inT_ok h1 h2 h3 h4 h5 ok hv hf q
theorem de_inT (hu : X.A.units + 65 < cLine) (hg : Gl X x) (g : GTup X.K X.mg x ds) (he : DE X c e t) (ok : D.oks 63 ds = true := by decide) (hdb : (x == ("__debug__" : Str)) = false := by decide) (hm : behindInMarks .In (.Name x p) = false := by first | exact nomark _ | rfl) :
    DE X c (.Compare e [.In] [.Name x p] pos) (tOn (fInT false ds) t) :=
  let ⟨a, u, its, n, m, h1, h2, h3, h4, h5⟩ := g; peImp (pe_cmpR (op_inT hu) he (pe_glob (v := .ref a) hg m rfl hdb) hm) fun _ _ _ h => inT_of h1 h2 h3 h4 h5 ok h
theorem de_notInT (hu : X.A.units + 65 < cLine) (hg : Gl X x) (g : GTup X.K X.mg x ds) (he : DE X c e t) (ok : D.oks 63 ds = true := by decide) (hdb : (x == ("__debug__" : Str)) = false := by decide) (hm : behindInMarks .NotIn (.Name x p) = false := by first | exact nomark _ | rfl) :
    DE X c (.Compare e [.NotIn] [.Name x p] pos) (tOn (fInT true ds) t) :=
  let ⟨a, u, its, n, m, h1, h2, h3, h4, h5⟩ := g; peImp (pe_cmpR (op_notInT hu) he (pe_glob (v := .ref a) hg m rfl hdb) hm) fun _ _ _ h => inT_of h1 h2 h3 h4 h5 ok h
theorem dt_inT (hu : X.A.units + 65 < cLine) (hg : Gl X x) (g : GTup X.K X.mg x ds) (he : DE X c e t) (ok : D.oks 63 ds = true := by decide) (hdb : (x == ("__debug__" : Str)) = false := by decide) (hm : behindInMarks .In (.Name x p) = false := by first | exact nomark _ | rfl) :
    DT X c (.Compare e [.In] [.Name x p] pos) (tTst (tOn (fInT false ds) t)) :=
  let ⟨a, u, its, n, m, h1, h2, h3, h4, h5⟩ := g; ptImp (pt_cmpR (op_inT hu) he (pe_glob (v := .ref a) hg m rfl hdb) hm) fun _ _ _ h => inT_of h1 h2 h3 h4 h5 ok (tTst_of h)
theorem dt_notInT (hu : X.A.units + 65 < cLine) (hg : Gl X x) (g : GTup X.K X.mg x ds) (he : DE X c e t) (ok : D.oks 63 ds = true := by decide) (hdb : (x == ("__debug__" : Str)) = false := by decide) (hm : behindInMarks .NotIn (.Name x p) = false := by first | exact nomark _ | rfl) :
    DT X c (.Compare e [.NotIn] [.Name x p] pos) (tTst (tOn (fInT true ds) t)) :=
  let ⟨a, u, its, n, m, h1, h2, h3, h4, h5⟩ := g; ptImp (pt_cmpR (op_notInT hu) he (pe_glob (v := .ref a) hg m rfl hdb) hm) fun _ _ _ h => inT_of h1 h2 h3 h4 h5 ok (tTst_of h)
theorem de_ixG (hg : Gl X x) (g : GTab X.K X.w X.mg x tab) (he : DE X c e t) (hdb : (x == ("__debug__" : Str)) = false := by decide) (hs : PlainIx e := by intro _ _; rfl) : DE X c (.Subscript (.Name x p) e pos) (tOn (fIxD tab) t) := by
  obtain ⟨a, es, n, m, kd, pr⟩ := g
  refine peImp (pe_ix ix_kdict (pe_glob (v := .ref a) hg m rfl hdb) he hs) fun σ H k h => ?_
  refine tOn_of (r := fun y H Q => rIxD X.K X.w (.ref a) y H Q) h fun o H v d G k hv hf q => ?_
  cases hv <;> first | exact hf.elim | skip
  rename_i z
  have at_ := tab_at kd.at_ pr z
  unfold fIxD at hf
  simp only at hf
  split at hf
  · rename_i d' ed
    rw [ed] at at_
    obtain ⟨u, hn, v', fl, rel⟩ := at_
    exact ⟨a, z, v', rfl, rfl, ⟨es, n, u, kd.at_, kd.lit, hn, rel⟩, q v' d' (fl_dat fl) hf⟩
  · exact hf.elim
end
end
end Y
namespace Y
open PySem PySem.Spec L2
/-! ### functions as values -/
def D.fa? : D → Option Addr
  | .raw (.ref f) => some f
  | .fnv f _ _ _ _ => some f
  | _ => none
theorem Dat.fa {K : PySem.W.Frag} {o : Own} {H : Hp} {v : V} {d : D} {f : Addr} (h : Dat K o H v d) (e : d.fa? = some f) : v = .ref f := by
  cases h with
  | raw v =>
    cases v with
    | ref a => cases e; rfl
    | _ => cases e
  | fnv _ _ _ => cases e; rfl
  | _ => cases e
def spO (K : PySem.W.Frag) (F : TF) (n : Nat) (o : Own) : List V → Hp → VK → Prop := fun vs H Q => ∃ ms G, vs.length = n ∧ ArgsOk K o H vs ms ∧ F ms G ∧
  ∀ v H' o' m fin, Le o H o' H' → (∀ a l, o' a = some l → Mt (H' a)) → IsM K o' H' (.t 0) v m → FinOk K o' H' vs fin → G m fin → Q v H'
def spV (K : PySem.W.Frag) (f : Addr) (d : D) (F : TF) (n : Nat) : Sp := fun vs H Q _ => ∃ o, Dat K o H (.ref f) d ∧ spO K F n o vs H Q
/-- d may be called, with n arguments, at the level k; it keeps the promise F -/
structure FnV (Pg : Program) (w : World) (K : PySem.W.Frag) (mg : Str → Option Value) (base : Heap) (k n : Nat) (d : D) (F : TF) : Prop where
  ex : ∃ f, d.fa? = some f ∧ (∀ h : Heap, K.In h → (∀ b u, base.get? b = some u → h.get? b = some u) → PySem.W.FnAt f h) ∧
    ∀ (A : Around) (outer : List PySem.Env) (s : Shared) (H : Hp) (us : List Value) (vs : List V) (Q : VK) (E : XK), Room k A → Env0 Pg w K mg base A outer s H → Vals vs us → spV K f d F n vs H Q E →
      codeAny (model Pg w) A (.call (.ref f) ⟨us, []⟩) (CR CX0 outer Pg w H s Q E) s
theorem FnV.mono {Pg : Program} {w : World} {K : PySem.W.Frag} {mg : Str → Option Value} {base : Heap} {j k n : Nat} {d : D} {F : TF} (h : FnV Pg w K mg base j n d F) (l : j ≤ k) : FnV Pg w K mg base k n d F :=
  let ⟨f, a, b, r⟩ := h.ex; ⟨f, a, b, fun A outer s H us vs Q E hr => r A outer s H us vs Q E (hr.mono l)⟩
/-- one of the module's defs -/
theorem FnV.of {Pg : Program} {w : World} {K : PySem.W.Frag} {mg : Str → Option Value} {base : Heap} {name : Str} {st : Stmt} {ps : List Str} {Df : DefAt K mg name st ps} {k : Nat} {F : TF} (G : FnD Pg w K mg base Df k F) : FnV Pg w K mg base k ps.length (.raw (.ref Df.f)) F := by
  refine ⟨Df.f, rfl, fun h kin _ => ?_, fun A outer s H us vs Q E hr e0 rel sp => ?_⟩
  · obtain ⟨oc, od, kV, doc, pm, an, cdv, ct, osl, _, lk, _⟩ := Df.fu.ex
    exact ⟨oc, od, _, osl, kin _ _ lk⟩
  · obtain ⟨o, _, ms, Gm, hl, ha, hF, q⟩ := sp
    have kin : K.In s.heap := e0.mod.kin.keeps fun b u e => (e0.bs b u e).1
    exact G.run A outer s H ⟨us, []⟩ us vs Q E hr e0 (by have := Df.bd s us kin (by rw [List.append_nil, ← rel.length]; exact hl); simpa using this) rel ⟨o, ms, Gm, hl, ha, hF, q⟩
section
variable {K : PySem.W.Frag} {c : Cc} {o o' : Own} {σ σ' : St} {H H' : Hp} {ρ ρ' : Env} {τ τ' τ0 τ1 : List (V × M)} {X : Cx} {e a b : Expr} {es : List Expr} {pos p : Pos} {t u : TX} {F : TF} {n k j : Nat} {f : Addr} {x : Str} {ta : TL}
theorem callO {kk : VK} {Q : R → Env → Prop} {vs : List V} {H1 : Hp} {o1 : Own} {rs : List R} {ρ1 : Env} (q : ∀ v H' o' r ρ' τ', Le o H o' H' → Rep K c o' σ H' ρ' τ' → RelR K o' H' σ v r τ τ' → Q r ρ' → kk v H')
    (L1 : Le o H o1 H1) (R1 : Rep K c o1 σ H1 ρ1 τ1) (z1 : RelRs K o1 H1 σ vs rs τ τ1) (h1 : match argMs ρ1 rs with
      | some ms => rs.length = n ∧ (slots rs).Nodup ∧ F ms fun m fin => m.fit = true ∧ Q m.res (putB rs fin ρ1)
      | none => False) : ∃ o2, Le o1 H1 o2 H1 ∧ spO K F n o2 vs H1 kk := by
  split at h1
  · rename_i ms em
    obtain ⟨hn, nd, hF⟩ := h1
    have A := args_ok (rsA := rs) (n := τ.length) R1 (k := 0) z1 List.prefix_rfl em nd (fun l _ => rfl)
    refine ⟨ownC rs τ.length o1, ownC_le, ms, _, z1.length.trans hn, ⟨by rw [argMs_length em, z1.length], fun i v m e1 e2 => by have := A i v m e1 e2; rwa [Nat.zero_add] at this, ownC_mu R1.mu⟩, hF, fun v H2 o2 m fin L2 mu2 im fo hG => ?_⟩
    obtain ⟨hfit, hG⟩ := hG
    have LB : Le o1 H1 (ownB rs τ.length o1 o2) H2 := ownB_le L2
    obtain ⟨b1, b2⟩ := back_ok (rsA := rs) (n := τ.length) (oc := o2) R1 L2 (k := 0) (fs := fin) (ρc := ρ1) z1 nd (fun j r e => by rw [Nat.zero_add]; exact e) (fun j v m e1 e2 => by rw [Nat.zero_add]; exact fo j v m e1 e2) rfl
      fun j => ⟨fun _ => rfl, fun hj s e => (R1.sl j s e).mono LB (fun a q => ownB_other L2 (labIx_s hj) q) fun a q => ownB_other L2 labIx_h q⟩
    obtain ⟨tt, htt⟩ := z1.pre
    have RB : Rep K c (ownB rs τ.length o1 o2) σ H2 (putB rs fin ρ1) τ := by
      refine ⟨b2, fun j w m' e => ?_, ownB_mu mu2, R1.le.trans LB, by rw [b1]; exact R1.ln⟩
      have hj : j < τ.length := (List.getElem?_eq_some_iff.mp e).1
      have q := R1.tm j w m' (by rw [← htt, List.getElem?_append_left hj]; exact e)
      exact ⟨q.1.mono LB fun a z => ownB_other L2 (labIx_lt hj) z, q.2⟩
    have io : IsM K (ownB rs τ.length o1 o2) H2 (.t τ.length) v m := im.monoK ownB_keep (fun a z => ⟨by unfold ownB; rw [z]; rfl, rfl⟩) hfit
    have own : m.own = true → m.res = .tm m → kk v H2 := fun e1 e2 => by
      rw [e2] at hG
      refine q v H2 _ (.tm m) _ (τ ++ [(v, m)]) (L1.trans LB) ⟨RB.sl, fun j w m' e => ?_, RB.mu, RB.le, RB.ln⟩ rfl hG
      by_cases hj : j < τ.length
      · rw [List.getElem?_append_left hj] at e; exact RB.tm j w m' e
      · rw [List.getElem?_append_right (by omega)] at e
        have e0 : j - τ.length = 0 := by
          cases y : j - τ.length with
          | zero => rfl
          | succ y' => rw [y] at e; simp at e
        rw [e0] at e
        have e3 : j = τ.length := by omega
        subst e3
        simp at e
        obtain ⟨rfl, rfl⟩ := e
        exact ⟨io, e1⟩
    cases m with
    | im d => exact q v H2 _ (.im d) _ τ (L1.trans LB) RB ⟨rfl, io⟩ hG
    | sq ds => cases hfit
    | ls ds => exact own rfl rfl
    | rd ds => exact own rfl rfl
    | dk ds => exact own rfl rfl
    | dt ds => exact own rfl rfl
  · exact h1.elim
theorem tCallO_of {kk : VK} {Q : R → Env → Prop} (R0 : Rep K c o σ H ρ τ) (h : tCall F n ta ρ Q) (q : ∀ v H' o' r ρ' τ', Le o H o' H' → Rep K c o' σ H' ρ' τ' → RelR K o' H' σ v r τ τ' → Q r ρ' → kk v H') :
    TAo K c ta σ H fun vs H1 => ∃ o1, Le o H o1 H1 ∧ spO K F n o1 vs H1 kk :=
  ⟨o, ρ, τ, _, R0, h, fun _ _ _ _ _ _ L1 R1 z1 h1 => let ⟨o2, L2, sp⟩ := callO q L1 R1 z1 h1; ⟨o2, L1.trans L2, sp⟩⟩
/-- x(..), x the name in the slot i: what it holds is called -/
def tCallV (i : Nat) (Pv : D → Prop) (Fv : D → TF) (n : Nat) (ta : TL) : TX := fun ρ Q => match ρ[i]? with
  | some s => match s.m? with
    | some (.im d) => Pv d ∧ tCall (Fv d) n ta ρ Q
    | _ => False
  | none => False
theorem de_callV {Pv : D → Prop} {Fv : D → TF} (i : Nat) (G : ∀ d, Pv d → FnV X.prog X.w X.K X.mg X.base k n d (Fv d)) (hr : Room k X.A) (ha : DA X c (e :: es) ta)
    (hN : X.N[i]? = some x := by rfl) (hv : Vis X.env.scope x := by first | exact Or.inl rfl | exact Or.inr (Or.inl rfl) | exact Or.inr (Or.inr rfl)) (hd : (x == ("__debug__" : Str)) = false := by decide) (hcd : (x == ("__classdict__" : Str)) = false := by decide)
    (he : starEach (e :: es) X.env = (false, eval e X.env) :: starEach es X.env := by rfl) (hpl : (backTo pos (starEach es X.env)).any (·.1) = false := by rfl) : DE X c (.Call (.Name x p) (e :: es) [] pos) (tCallV i Pv Fv n ta) := by
  constructor
  rintro pins s σ H kk I ⟨o, ρ, τ, Q, R0, h, q⟩
  unfold tCallV at h
  split at h
  · rename_i sl es'
    split at h
    · rename_i d em
      obtain ⟨pd, h⟩ := h
      obtain ⟨v, hv0, _, z⟩ := (R0.sl i sl es').of em
      have z : Dat X.K o H v d := z
      obtain ⟨f, ef, hat, run⟩ := (G d pd).ex
      have ev := z.fa ef
      subst ev
      refine wpAny_Call_Name_kw (thn ((pe_var (pos := p) (i := i) hN hv hd hcd).run pins s σ H (fun v H1 => v = .ref f ∧ H1 = H) I ⟨.ref f, hv0, rfl, rfl⟩) ?_)
      rintro u s1 ⟨v, H1, I1, r1, rfl, rfl⟩
      obtain rfl : u = Value.ref f := r1
      have at_ : ∀ {pins : List (Addr × Obj)} {σ : St} {H : Hp} {s : Shared}, Inv X pins σ H s → PySem.W.FnAt f s.heap := fun I => hat _ I.kIn I.bk
      refine PySem.W.callWith_F (first := []) (at_ I1) (thn (ha.run pos pins s1 σ _ _ I1 (tCallO_of R0 h q)) ?_) he hpl
      rintro us s2 ⟨vs, H2, I2, rel, o1, L1, sp⟩
      refine ⟨at_ I2, ?_⟩
      show wpAny _ _ (call (.ref f) us) _ _ _
      refine wpAny_call (codeAny_mono (run X.A X.stack s2 H2 us vs kk E0 hr I2.env0 rel ⟨o1, z.mono L1, sp⟩) fun r s' hq => ?_)
      cases r with
      | error e => exact hq.elim
      | ok fl =>
        cases fl with
        | ret u => exact I2.after hq
        | next => exact False.elim hq
        | brk => exact False.elim hq
        | cont => exact False.elim hq
    · exact h.elim
  · exact h.elim
end
/-! ### a lambda's body -/
/-- the lambda: its words, the names that it captures -/
structure Lam where
  qual : Str
  params : Arguments
  body : Expr
  scope : Scope
  ps : List Str
  fr : List Str
  N : List Str
/-- in the heap base: the lambda's object at f, its cells, which hold vs -/
structure LamAt (base : Heap) (L : Lam) (f c : Addr) (cl : List (Str × Addr)) (vs : List V) : Prop where
  at_ : ∃ pm ctv, base.get? f = some (PySem.W.kla_obj "<lambda>" L.qual L.params L.body L.scope cl pm c ctv)
  len : vs.length = L.fr.length
  cell : ∀ y a, cl.lookup y = some a → ∃ v, base.IsCell a v
  inj : ∀ x y a, cl.lookup x = some a → cl.lookup y = some a → x = y
  has : ∀ (i : Nat) (y : Str) (v : V), L.fr[i]? = some y → vs[i]? = some v → ∃ a, cl.lookup y = some a ∧ ∃ u, RelV v u ∧ base.IsCell a (some u)
def Lam.nf (L : Lam) (cl : List (Str × Addr)) (c : Addr) : NdefX.NF := ⟨"<lambda>", L.qual, L.params, [], L.scope, cl, c⟩
/-- a lambda's names at the entry: the parameters, what is captured, nothing more -/
def envL (L : Lam) (ms : List M) (ds : List D) : Env := ms.map Sl.pa ++ (ds.map fun d => Sl.lo (.im d)) ++ List.replicate (L.N.length - L.ps.length - L.fr.length) .no
/-- what the body is to do -/
def BodyL (L : Lam) (F : TF) (ds : List D) (T : TX) : Prop := ∀ ms G, ms.length = L.ps.length → F ms G → T (envL L ms ds) fun r ρ => match r with
  | .im d => G (.im d) (fins L.ps.length ρ)
  | .tm m => m.fit = true ∧ G m (fins L.ps.length ρ)
  | .sl _ => False
section
variable {Pg : Program} {w : World} {K : PySem.W.Frag} {mg : Str → Option Value} {base : Heap} {k : Nat} {L : Lam} {F : TF} {T : TX} {f c : Addr} {cl : List (Str × Addr)} {vs : List V} {ds : List D}
theorem LamAt.cells {h : Heap} {H : Hp} (a : LamAt base L f c cl vs) (bs : ∀ b u, base.get? b = some u → h.get? b = some u ∧ H b = none) : NdefX.CellsAt cl L.fr (vs.map some) h H := by
  have up : ∀ {b : Addr} {v : Option Value}, base.IsCell b v → h.IsCell b v ∧ H b = none := fun {b v} ⟨u, hu, hd⟩ => ⟨⟨u, (bs b u hu).1, hd⟩, (bs b u hu).2⟩
  refine ⟨by rw [List.length_map]; exact a.len, fun y b e => ?_, a.inj, fun i y e => ?_⟩
  · obtain ⟨v, z⟩ := a.cell y b e
    exact ⟨(up z).2, v, (up z).1⟩
  · have hi : i < vs.length := by rw [a.len]; exact (List.getElem?_eq_some_iff.mp e).1
    obtain ⟨b, hb, u, ru, z⟩ := a.has i y vs[i] e (List.getElem?_eq_getElem hi)
    refine ⟨b, hb, fun v hv => ?_⟩
    rw [List.getElem?_map, List.getElem?_eq_getElem hi] at hv
    have hv := Option.some.inj (Option.some.inj hv)
    subst hv
    exact ⟨u, ru, (up z).1⟩
theorem rep_startL {o : Own} {H : Hp} {us : List V} {ms : List M} (h : ArgsOk K o H us ms) (hl : us.length = L.ps.length) (hv : vs.length = L.fr.length) (dd : Dats K o H vs ds) (hN : L.ps.length + L.fr.length ≤ L.N.length) :
    Rep K ⟨o, H, us⟩ o (NdefX.startF L.N us (vs.map some)) H (envL L ms ds) [] := by
  have ml : ms.length = us.length := h.len.symm
  have dl : ds.length = vs.length := dd.length.symm
  refine ⟨fun i s e => ?_, fun j v m e => by simp at e, h.mu, .refl, ?_⟩
  · unfold envL at e
    by_cases h1 : i < us.length
    · rw [List.getElem?_append_left (by simp; omega), List.getElem?_append_left (by simp; omega), List.getElem?_map, List.getElem?_eq_getElem (by omega)] at e
      cases e
      refine ⟨us[i], ?_, List.getElem?_eq_getElem h1, h.at_ i _ _ (List.getElem?_eq_getElem h1) (List.getElem?_eq_getElem (by omega))⟩
      unfold NdefX.startF
      rw [List.getElem?_append_left (by simpa using h1), List.getElem?_map, List.getElem?_eq_getElem h1]; rfl
    · by_cases h2 : i < us.length + vs.length
      · rw [List.getElem?_append_left (by simp; omega), List.getElem?_append_right (by simp; omega), List.getElem?_map, List.getElem?_eq_getElem (by simp; omega)] at e
        cases e
        have at_ : ds[i - (List.map Sl.pa ms).length]? = some (ds[i - (List.map Sl.pa ms).length]'(by simp; omega)) := List.getElem?_eq_getElem _
        obtain ⟨v, ev, dv⟩ := dd.get at_
        refine ⟨v, ?_, dv⟩
        unfold NdefX.startF
        rw [List.getElem?_append_right (by simp; omega), List.getElem?_append_left (by simp; omega), List.getElem?_map, List.length_map]
        have e1 : i - (List.map Sl.pa ms).length = i - us.length := by simp; omega
        rw [e1] at ev
        rw [ev]; rfl
      · rw [List.getElem?_append_right (by simp; omega), List.getElem?_replicate] at e
        split at e
        · cases e; exact trivial
        · cases e
  · unfold envL NdefX.startF
    simp
    omega
theorem FnV.lam (S : NdefX.NScope L.N L.ps L.fr L.scope) (bind : ∀ (q : Str) (cl : List (Str × Addr)) (pm cv ctv : Value) (us : List Value), us.length = L.ps.length → bindArgs (PySem.W.kla_fn "<lambda>" q L.params L.body L.scope cl pm cv ctv) ⟨us, []⟩ = pure (L.ps.zip us))
    (a : LamAt base L f c cl vs) (hB : BodyL L F ds T)
    (hbody : ∀ (A : Around) (outer : List PySem.Env) (s : Shared) (H : Hp) (E : XK) (cc : Cc), Room k (A.deeper (NdefX.envF (L.nf cl c) f s.heap.objs.size)) → DE (NdefX.ncx CX0 Pg w K mg base L.N (L.nf cl c) f A outer s H E) cc L.body T) :
    FnV Pg w K mg base (k + 1) L.ps.length (.fnv f c L.qual vs ds) F := by
  obtain ⟨pm, ctv, hf⟩ := a.at_
  refine ⟨f, rfl, fun h _ kp => ⟨_, _, _, _, kp _ _ hf⟩, fun A outer s H us xs Q E hr e0 rel sp => ?_⟩
  obtain ⟨o, dat, ms, G, hl, ha, hF, q⟩ := sp
  cases dat with
  | fnv oc hc dd =>
    have lim : s.heap.NoLimit := e0.mod.nolimit.keeps fun b u e => (e0.bs b u e).1
    refine PySem.W.kla_callFunE hr.depth (e0.bs _ _ hf).1 rfl S.co S.gen rfl (NdefX.codeO_at e0.hok hc) ?_
    rw [bind _ _ _ _ _ us (by rw [← rel.length]; exact hl)]
    refine wpAny_pure (wpAny_newFunctionEnv S.nocell (fun ⟨n, _⟩ hy => S.par n (List.of_mem_zip hy).1) (fun h₁ hns hsb => ⟨lim.fresh _ hsb, ?_⟩) S.kind)
    show codeAny _ _ (.expr L.body (NdefX.envF (L.nf cl c) f s.heap.objs.size)) _ _
    have kp : ∀ b u, s.heap.get? b = some u → h₁.get? b = some u := fun b u e => hsb.extBut b u (Nat.ne_of_lt (Heap.lt_size e)) (Heap.get?_push_of_some _ e)
    have hN : L.ps.length + L.fr.length ≤ L.N.length := by
      have := congrArg List.length S.pre
      rw [List.length_take, List.length_append] at this
      omega
    have I : Inv (NdefX.ncx CX0 Pg w K mg base L.N (L.nf cl c) f A outer s H E) [] (NdefX.startF L.N xs (vs.map some)) H { s with heap := h₁, toks := s.toks + (L.ps.zip us).length } :=
      NdefX.inv_startN (F := L.nf cl c) S hr.hd e0 hl rel (a.cells e0.bs) hns kp
    have R0 := rep_startL ha hl a.len dd hN
    refine PySem.W.kla_codeExpr (wpAny_mono ((hbody A outer s H E ⟨o, H, xs⟩ (hr.deeper _)).run [] _ _ H Q I ⟨o, _, [], _, R0, hB ms G (by rw [← ha.len]; exact hl) hF, fun v H' o' r ρ' τ' L' R z hG => ?_⟩) (fun u s' hq => ?_) fun e s' hq => hq)
    · have mu : ∀ a l, unH o' a = some l → Mt (H' a) := fun a l e => by
        unfold unH at e
        split at e
        · exact R.mu a _ (by assumption)
        · exact R.mu a _ e
      have fo : ∀ {τ'}, Rep K ⟨o, H, xs⟩ o' (NdefX.startF L.N xs (vs.map some)) H' ρ' τ' → FinOk K (unH o') H' xs (fins L.ps.length ρ') := fun {τ'} R => by
        refine fins_ok (o := o') (σ := NdefX.startF L.N xs (vs.map some)) ⟨R.sl, fun j v m e => by simp at e, R.mu, R.le, R.ln⟩ _
      split at hG
      · rename_i d
        exact q v H' (unH o') (.im d) _ (L'.trans unH_le) mu (Dat.mono unH_le z.2) (fo R) hG
      · rename_i m
        have e : τ' = [] ++ [(v, m)] := z
        subst e
        have im := (R.tm 0 v m (by simp)).1
        exact q v H' (unH o') m _ (L'.trans unH_le) mu (im.mono unH_le fun a z => ⟨by unfold unH; rw [z], rfl⟩) (fo R) hG.2
      · exact hG.elim
    · obtain ⟨v', H', J, rv, qq⟩ := hq
      exact ⟨v', H', J.os, J.bare, J.base, J.hok, rv, qq⟩
end
end Y
namespace Y
open PySem PySem.Spec L2
/-! ### a lambda handed to a def -/
section
variable {K : PySem.W.Frag} {c : Cc} {o o' : Own} {σ σ' : St} {H H' : Hp} {ρ ρ' : Env} {τ τ' τ0 τ1 : List (V × M)} {X : Cx} {e a b : Expr} {es : List Expr} {pos p : Pos} {t u : TX} {F : TF} {n k j : Nat} {f : Addr} {x : Str} {ta : TL}
/-- all that is labelled stays, but for tables -/
theorem Rep.step {H1 : Hp} (R0 : Rep K c o σ H ρ τ) (L : Le o H o H1) (lab : ∀ a l, o a = some l → (∀ q, l ≠ .k q) → H1 a = H a) (mu : ∀ a l, o a = some l → Mt (H1 a)) : Rep K c o σ H1 ρ τ :=
  ⟨fun i s e => (R0.sl i s e).mono L (fun a q => ⟨q, lab a _ q fun _ z => by cases z⟩) fun a q => ⟨q, lab a _ q fun _ z => by cases z⟩, fun j v m e => ⟨(R0.tm j v m e).1.mono L fun a q => ⟨q, lab a _ q fun _ z => by cases z⟩, (R0.tm j v m e).2⟩, mu, R0.le.trans L, R0.ln⟩
/-- a lambda is made -/
theorem lam_new {pins : List (Addr × Obj)} {s : Shared} {cd P : Addr} {q : Str} {params : Arguments} {body : Expr} {scope : Scope} {E Q : Value → Shared → Prop} (I : Inv X pins σ H s) (R0 : Rep K c o σ H ρ τ) (TB : LamX.TabB X.base X.mg cd P) (hcode : X.env.code = .ref cd)
    (hq : X.env.qual ++ "<lambda>" = q) (tab : Tab o H P q) (hdef : defaultsOf params X.env = ([], [])) (hfree : ∀ y ∈ scope.names, y.2 = .free → ∃ a, X.env.cells.lookup y.1 = some a)
    (h : ∀ (f c' : Addr) (pm ctv : Value) (H1 : Hp) (s' : Shared), Inv X pins σ H1 s' → Le o H o H1 → Rep K c o σ H1 ρ τ → s'.heap.get? f = some (PySem.W.kla_obj "<lambda>" q params body scope (cloFrom X.env.cells scope.names []) pm c' ctv) → H1 f = none → f ∉ frs X.stack →
      s.heap.objs.size ≤ f → o c' = none → H1 c' = some (LamX.CodeO c' q) → Q (.ref f) s') : wpAny (model X.prog X.w) X.A (eval (.Lambda params body scope pos) X.env) Q E s := by
  subst hq
  obtain ⟨ps, hk, hP, good, all⟩ := tab
  refine PySem.W.kla_eval hdef ?_
  have bP : s.heap.BuiltinsAt X.mg P := TB.bm.keeps I.bk
  have atP : s.heap.get? P = some { cls := .none, data := .fields ps } := I.hok P _ hP
  have late : ∀ f, s.heap.objs.size ≤ f → f ∉ frs X.stack := fun f hf z => by
    rcases List.mem_cons.mp (I.stkSub _ z) with e | e
    · have := I.lt; rw [← e] at this; exact absurd (Nat.lt_of_lt_of_le this hf) (Nat.lt_irrefl _)
    · exact I.nofs hf e
  cases hc : codeAmong pos ps.toList with
  | some cv =>
    obtain ⟨c', rfl, oc, hc'⟩ := all pos cv hc
    refine PySem.W.kla_makeFunctionHit (mg := X.mg) (c := cd) (P := P) (ps := ps) (closure_ok hfree) I.ok.glob (I.mod.glob.keeps I.bk) hcode (TB.code.keeps I.bk) atP good hc bP fun ctv h' tk kp big => ?_
    have I1 : Inv X pins σ H { s with heap := h'.push (PySem.W.kla_obj "<lambda>" (X.env.qual ++ "<lambda>") params body scope (cloFrom X.env.cells scope.names []) ((X.mg "__name__").getD .none) c' ctv), toks := tk } := I.kept fun b u e => Heap.get?_push_of_some _ (kp b u e)
    exact h h'.objs.size c' _ ctv H _ I1 .refl R0 (Heap.get?_push_size _ rfl) (I.hok.fresh big) (late _ big) big oc hc'
  | none =>
    refine PySem.W.kla_makeFunction (mg := X.mg) (c := cd) (P := P) (ps := ps) (closure_ok hfree) I.ok.glob (I.mod.glob.keeps I.bk) hcode (TB.code.keeps I.bk) atP good hc TB.gP bP fun c' ctv h' tk kp low high hrec htb => ?_
    obtain ⟨_, oc, vs, tq, e2, hoc, hd, hv⟩ := hrec
    cases e2
    let ps' := ps ++ #[rawInt pos.line, rawInt pos.col, .ref c']
    let H1 := upd (upd H P (.tbl ps')) c' (LamX.CodeO c' (X.env.qual ++ "<lambda>"))
    have big : s.heap.objs.size ≤ h'.objs.size := by omega
    have nC : H c' = none := I.hok.fresh low
    have oC : o c' = none := R0.fresh nC
    have I1 : Inv X pins σ H1 { s with heap := h'.push (PySem.W.kla_obj "<lambda>" (X.env.qual ++ "<lambda>") params body scope (cloFrom X.env.cells scope.names []) ((X.mg "__name__").getD .none) c' ctv), toks := tk } :=
      LamX.inv_table (t' := tk) I hP (fun b u ne e => Heap.get?_push_of_some _ (kp b u ne e)) (Heap.get?_push_of_some _ htb) low ⟨oc, vs, tq, Heap.get?_push_of_some _ hoc, hd, hv⟩
    have same : ∀ b, b ≠ P → b ≠ c' → H1 b = H b := fun b n1 n2 => (upd_ne n2).trans (upd_ne n1)
    have nePC : P ≠ c' := fun z => by rw [z, nC] at hP; cases hP
    have lab : ∀ a l, o a = some l → (∀ q, l ≠ .k q) → H1 a = H a := fun a l e n => same a (fun z => by rw [z, hk] at e; exact n _ (Option.some.inj e).symm) fun z => by rw [z, oC] at e; cases e
    have keep : ∀ b u, o b = none → H b = some u → o b = none ∧ H1 b = some u := fun b u e f => ⟨e, (same b (fun z => by rw [z, hk] at e; cases e) fun z => by rw [z, nC] at f; cases f).trans f⟩
    have L : Le o H o H1 := by
      refine ⟨keep, fun b e => ⟨e, lab b _ e fun _ z => by cases z⟩, fun P' q' ⟨qs, lb, hP', ok', all'⟩ => ?_⟩
      by_cases hPP : P' = P
      · subst hPP
        rw [hk] at lb
        cases lb
        rw [hP] at hP'
        cases hP'
        have eL : ps'.toList = ps.toList ++ [rawInt pos.line, rawInt pos.col, .ref c'] := by simp [ps']
        refine ⟨ps', hk, (upd_ne nePC).trans upd_same, by rw [eL]; exact PySem.TriplesOk_snoc _ _ _ _ good, fun p' cv hcv => ?_⟩
        rw [eL] at hcv
        rcases LamX.among_app _ good hcv with z | z
        · obtain ⟨c0, e1, e2, e3⟩ := all' p' cv z
          exact ⟨c0, e1, e2, (keep _ _ e2 e3).2⟩
        · exact ⟨c', z, oC, upd_same⟩
      · have neC : P' ≠ c' := fun z => by rw [z, nC] at hP'; cases hP'
        refine ⟨qs, lb, (same P' hPP neC).trans hP', ok', fun p' cv hcv => ?_⟩
        obtain ⟨c0, e1, e2, e3⟩ := all' p' cv hcv
        exact ⟨c0, e1, e2, (keep _ _ e2 e3).2⟩
    have mu : ∀ a l, o a = some l → Mt (H1 a) := fun a l e => by
      by_cases z : a = P
      · subst z
        have : H1 a = some (.tbl ps') := (upd_ne nePC).trans upd_same
        rw [this]; trivial
      · rw [same a z fun z => by rw [z, oC] at e; cases e]
        exact R0.mu a l e
    refine h h'.objs.size c' _ ctv H1 _ I1 L (R0.step L lab mu) (Heap.get?_push_size _ rfl) ?_ (late _ big) big oC upd_same
    have n1 : h'.objs.size ≠ c' := Nat.ne_of_gt high
    have n2 : h'.objs.size ≠ P := Nat.ne_of_gt (Nat.lt_of_lt_of_le (Heap.lt_size atP) big)
    rw [same _ n2 n1]
    exact I.hok.fresh big
end
end Y
namespace Y
open PySem PySem.Spec L2
/-! ### some more objects that stay -/
def keepAt (base : Heap) (xs : List Addr) (h : Heap) : Heap := PySem.W.hideAll h ((List.range h.objs.size).filter fun b => !((base.get? b).isSome || xs.contains b))
theorem keepAt_get {base h : Heap} {xs : List Addr} {b : Addr} {u : Obj} (e : h.get? b = some u) (k : (base.get? b).isSome = true ∨ b ∈ xs) : (keepAt base xs h).get? b = some u := by
  refine PySem.W.hideAll_get _ e fun hm => ?_
  have q := (List.mem_filter.mp hm).2
  rcases k with k | k
  · rw [k] at q; cases q
  · rw [List.contains_iff_mem.mpr k, Bool.or_true] at q; cases q
theorem of_keepAt {base h : Heap} {xs : List Addr} {b : Addr} {u : Obj} (e : (keepAt base xs h).get? b = some u) : h.get? b = some u ∧ ((base.get? b).isSome = true ∨ b ∈ xs) := by
  have e1 : h.get? b = some u := PySem.W.of_hideAll _ e
  refine ⟨e1, ?_⟩
  by_cases k : ((base.get? b).isSome || xs.contains b) = true
  · rcases Bool.or_eq_true_iff.mp k with k | k
    · exact .inl k
    · exact .inr (List.contains_iff_mem.mp k)
  · have hid : (keepAt base xs h).get? b = none := PySem.W.hideAll_none _ (List.mem_filter.mpr ⟨List.mem_range.mpr (Heap.lt_size e1), by rw [Bool.eq_false_iff.mpr k]; rfl⟩)
    rw [hid] at e; cases e
theorem funs_keepAt {base h : Heap} {xs : List Addr} : ∀ {l : List PySem.Env}, (∀ b ∈ xs, b ∉ frs l) → h.FunFrames base l → h.FunFrames (keepAt base xs h) l
  | [], _, _ => trivial
  | env :: l, n, ⟨hk, ⟨L, u, hf, hn, hu, hd⟩, r⟩ => by
    have mem : L ∈ frs (env :: l) := List.mem_filterMap.mpr ⟨env, List.mem_cons_self, hf⟩
    refine ⟨hk, ⟨L, u, hf, ?_, hu, hd⟩, funs_keepAt (fun b hb z => n b hb ?_) r⟩
    · cases e : (keepAt base xs h).get? L with
      | none => rfl
      | some v =>
        rcases (of_keepAt e).2 with z | z
        · rw [hn] at z; cases z
        · exact absurd mem (n L z)
    · obtain ⟨e', h1, h2⟩ := List.mem_filterMap.mp z
      exact List.mem_filterMap.mpr ⟨e', List.mem_cons_of_mem _ h1, h2⟩
section
variable {K : PySem.W.Frag} {c : Cc} {o o' : Own} {σ σ' : St} {H H' : Hp} {ρ ρ' : Env} {τ τ' τ0 τ1 : List (V × M)} {X : Cx} {e a b : Expr} {es : List Expr} {pos p : Pos} {t u : TX} {F : TF} {n k j : Nat} {f g : Addr} {x : Str} {ta : TL} {pins : List (Addr × Obj)} {s : Shared}
theorem env0_keepAt (I : Inv X pins σ H s) {xs : List Addr} (hx : ∀ b ∈ xs, H b = none ∧ b ∉ frs X.stack) : Env0 X.prog X.w X.K X.mg (keepAt X.base xs s.heap) X.A X.stack s H := by
  have e := I.env0
  have up : ∀ b u, X.base.get? b = some u → (keepAt X.base xs s.heap).get? b = some u := fun b u q => keepAt_get (I.bk b u q) (.inl (by rw [q]; rfl))
  refine ⟨e.frames, ⟨e.mod.kin.keeps up, e.mod.glob.keeps up, ?_, e.mod.nolimit.keeps up⟩, fun b u q => ⟨(of_keepAt q).1, ?_⟩, by unfold keepAt; rw [PySem.W.hideAll_size]; exact Nat.le_refl _, funs_keepAt (fun b hb => (hx b hb).2) e.funs, e.frf, e.hok, e.bare⟩
  · obtain ⟨mb, h1, h2⟩ := e.mod.blt
    exact ⟨mb, h1.keeps up, h2⟩
  · rcases (of_keepAt q).2 with z | z
    · obtain ⟨u', z⟩ := Option.isSome_iff_exists.mp z
      exact (I.bs b u' z).2
    · exact (hx b z).1
/-! ### what a lambda captures -/
def capt (ρ : Env) : List Nat → Option (List D)
  | [] => some []
  | j :: js => match ρ[j]? with
    | some s => match s.m?, capt ρ js with
      | some (.im d), some ds => some (d :: ds)
      | _, _ => none
    | none => none
theorem capt_ok (R0 : Rep K c o σ H ρ τ) : ∀ {js : List Nat} {ds : List D}, capt ρ js = some ds → ∃ vs : List V, vs.length = js.length ∧ Dats K o H vs ds ∧ ∀ (i j : Nat), js[i]? = some j → ∃ v, vs[i]? = some v ∧ σ[j]? = some (some v)
  | [], _, h => by cases h; exact ⟨[], rfl, .nil, fun i j e => by simp at e⟩
  | j :: js, ds, h => by
    unfold capt at h
    split at h
    · rename_i s es
      split at h
      · rename_i d ds' em er
        cases h
        obtain ⟨v, hv, _, z⟩ := (R0.sl j s es).of em
        obtain ⟨vs, l, dd, all⟩ := capt_ok R0 er
        refine ⟨v :: vs, congrArg (· + 1) l, .cons z dd, fun i j' e => ?_⟩
        cases i with
        | zero => cases e; exact ⟨v, rfl, hv⟩
        | succ i => exact all i j' e
      · cases h
    · cases h
/-- the lambda's captured names, where they stand among the def's names -/
def capB (N : List Str) (sc lsc : Scope) : List Str → List Nat → Bool
  | [], [] => true
  | y :: fr, j :: js => decide (N[j]? = some y) && (decide (sc.names.lookup y = some .cell) || decide (sc.names.lookup y = some .free)) && decide ((y, NameKind.free) ∈ lsc.names) && capB N sc lsc fr js
  | _, _ => false
theorem capB_at {N : List Str} {sc lsc : Scope} : ∀ {fr : List Str} {js : List Nat}, capB N sc lsc fr js = true → js.length = fr.length ∧ ∀ (i : Nat) (y : Str), fr[i]? = some y → ∃ j, js[i]? = some j ∧ N[j]? = some y ∧ (sc.names.lookup y = some .cell ∨ sc.names.lookup y = some .free) ∧ (y, NameKind.free) ∈ lsc.names
  | [], [], _ => ⟨rfl, fun i y e => by simp at e⟩
  | y :: fr, j :: js, h => by
    simp only [capB, Bool.and_eq_true, Bool.or_eq_true, decide_eq_true_eq] at h
    obtain ⟨⟨⟨h1, h2⟩, h3⟩, h4⟩ := h
    obtain ⟨l, all⟩ := capB_at h4
    refine ⟨congrArg (· + 1) l, fun i y' e => ?_⟩
    cases i with
    | zero => cases e; exact ⟨j, rfl, h1, h2, h3⟩
    | succ i => exact all i y' e
  | [], _ :: _, h => by cases h
  | _ :: _, [], h => by cases h
end
end Y
namespace Y
open PySem PySem.Spec L2
/-- what a lambda's words ask of the def that writes it -/
def lamB (N : List Str) (sc : Scope) (L : Lam) (js : List Nat) : Bool :=
  capB N sc L.scope L.fr js && L.scope.names.all fun y => !decide (y.2 = .free) || decide (sc.names.lookup y.1 = some .cell) || decide (sc.names.lookup y.1 = some .free)
section
variable {K : PySem.W.Frag} {c : Cc} {o o' : Own} {σ σ' : St} {H H' : Hp} {ρ ρ' : Env} {τ τ' τ0 τ1 : List (V × M)} {X : Cx} {e a b : Expr} {es : List Expr} {pos p lpos : Pos} {t u : TX} {F : TF} {n k j : Nat} {f g : Addr} {x : Str} {ta : TL} {pins : List (Addr × Obj)} {s : Shared}
/-- in the heap: the lambda at f and its cells -/
theorem lamAt_of {L : Lam} {js : List Nat} {c' : Addr} {pm ctv : Value} (I : Inv X pins σ H s) (hB : lamB X.N X.env.scope L js = true) (hfn : ∀ y, X.fn y = true) {vs : List V} (hl : vs.length = js.length) (at_ : ∀ (i j : Nat), js[i]? = some j → ∃ v, vs[i]? = some v ∧ σ[j]? = some (some v))
    (hf : s.heap.get? f = some (PySem.W.kla_obj "<lambda>" L.qual L.params L.body L.scope (cloFrom X.env.cells L.scope.names []) pm c' ctv)) (nf : H f = none) (fr : f ∉ frs X.stack) :
    ∃ xs : List Addr, (∀ b ∈ xs, H b = none ∧ b ∉ frs X.stack) ∧ LamAt (keepAt X.base xs s.heap) L f c' (cloFrom X.env.cells L.scope.names []) vs := by
  obtain ⟨hc, hfree⟩ := Bool.and_eq_true_iff.mp hB
  obtain ⟨jl, cap⟩ := capB_at hc
  have free : ∀ y ∈ L.scope.names, y.2 = .free → ∃ a, X.env.cells.lookup y.1 = some a := fun y hy e => by
    have q := List.all_eq_true.mp hfree y hy
    simp only [e, Bool.or_eq_true, Bool.not_eq_true', decide_true, decide_eq_true_eq] at q
    exact I.ok.has _ (q.elim (fun q => q.elim (fun z => by cases z) .inl) .inr)
  have back : ∀ {y : Str} {a : Addr}, (y, a) ∈ cloFrom X.env.cells L.scope.names [] → X.env.cells.lookup y = some a := fun {y a} hm => by
    rcases cloFrom_mem hm with z | ⟨z1, z2⟩
    · cases z
    · obtain ⟨a', e⟩ := free _ z1 rfl
      have e : X.env.cells.lookup y = some a' := e
      rw [z2, e]; rfl
  have look : ∀ {y : Str} {a : Addr}, (cloFrom X.env.cells L.scope.names []).lookup y = some a → X.env.cells.lookup y = some a := fun h => back (PySem.mem_of_lookup h)
  let xs : List Addr := f :: (cloFrom X.env.cells L.scope.names []).map (·.2)
  have cellIn : ∀ {y : Str} {a : Addr} {v : Option Value}, (cloFrom X.env.cells L.scope.names []).lookup y = some a → s.heap.IsCell a v → (keepAt X.base xs s.heap).IsCell a v := fun {y a v} hl ⟨u, hu, hd⟩ =>
    ⟨u, keepAt_get hu (.inr (List.mem_cons_of_mem _ (List.mem_map.mpr ⟨(y, a), PySem.mem_of_lookup hl, rfl⟩))), hd⟩
  refine ⟨xs, fun b hb => ?_, ⟨⟨pm, ctv, keepAt_get hf (.inr List.mem_cons_self)⟩, hl.trans jl, fun y a e => ?_, fun x y a e1 e2 => I.ok.inj x y a (look e1) (look e2), fun i y v e1 e2 => ?_⟩⟩
  · rcases List.mem_cons.mp hb with e | hb
    · rw [e]; exact ⟨nf, fr⟩
    · obtain ⟨⟨y, a⟩, hm, rfl⟩ := List.mem_map.mp hb
      have hl := back hm
      refine ⟨I.freeC y a hl, fun z => ?_⟩
      rcases List.mem_cons.mp (I.stkSub _ z) with e | e
      · exact I.cne y a hl e
      · obtain ⟨_, u, hu, _⟩ := I.ok.funs.mem e
        exact absurd (Nat.lt_of_lt_of_le (Heap.lt_size hu) (I.ok.cab y a (hfn y) hl)) (Nat.lt_irrefl _)
  · obtain ⟨v, z⟩ := I.cell y a (look e)
    exact ⟨v, cellIn e z⟩
  · obtain ⟨j, hj, hN, hk, hm⟩ := cap i y e1
    obtain ⟨v', e3, hv⟩ := at_ i j hj
    rw [e2] at e3
    cases e3
    obtain ⟨m, hn, hl⟩ := I.loc
    have hk' : X.env.kindOf y = some .cell ∨ X.env.kindOf y = some .free := hk
    obtain ⟨w, r, q⟩ := hl j y v hN hv (.inr hk)
    obtain ⟨a, ha⟩ := mem_lookup (cloFrom_has (cells := X.env.cells) (acc := []) hm)
    refine ⟨a, ha, w, r, cellIn ha ?_⟩
    rcases q with ⟨q, _⟩ | ⟨_, a2, e4, z⟩
    · rcases hk' with z | z <;> rw [z] at q <;> cases q
    · rw [look ha] at e4
      cases e4
      exact z
/-- g(e, lambda ..: ..) -/
def tCallL (q : Str) (js : List Nat) (Fl : D → TF) (t1 : TX) : TX := fun ρ Q => t1 ρ fun r1 ρ1 => match capt ρ1 js with
  | some ds => ∀ f c vs, tCall (Fl (.fnv f c q vs ds)) 2 (fun ρ' Q' => Q' [r1, .im (.fnv f c q vs ds)] ρ') ρ1 Q
  | none => False
theorem de_callLam {L : Lam} {js : List Nat} {Fl : D → TF} {fd : FuncData} {ps : List Str} {cd P : Addr} (he1 : DE X c e t) (hB : lamB X.N X.env.scope L js = true) (hfn : ∀ y, X.fn y = true) (TB : LamX.TabB X.base X.mg cd P) (hcode : X.env.code = .ref cd) (hq : X.env.qual ++ "<lambda>" = L.qual)
    (tab : Tab c.o0 c.H0 P L.qual) (hdef : defaultsOf L.params X.env = ([], []))
    (G : ∀ (base' : Heap) (f c' : Addr) (cl : List (Str × Addr)) (vs : List V) (ds : List D), LamAt base' L f c' cl vs → FnOk X.prog X.w X.K X.mg base' CX0 k g fd ps (spD X.K (Fl (.fnv f c' L.qual vs ds)) 2)) (hr : Room k X.A)
    (hg : Gl X x) (hm : X.mg x = some (.ref g)) (hk : PySem.W.keepIn X.K (.ref g) = true) (hb : Binds X.K fd ps []) (hdb : (x == ("__debug__" : Str)) = false := by decide)
    (hs1 : starEach [e, .Lambda L.params L.body L.scope lpos] X.env = [(false, eval e X.env), (false, eval (.Lambda L.params L.body L.scope lpos) X.env)] := by rfl) :
    DE X c (.Call (.Name x p) [e, .Lambda L.params L.body L.scope lpos] [] pos) (tCallL L.qual js Fl t) := by
  constructor
  rintro pins s σ H kk I ⟨o, ρ, τ, Q, R0, h, q⟩
  refine wpAny_Call_Name_kw (ld_glob I hg hm ?_ hdb)
  refine PySem.W.callWith_K (h₀ := X.base) I.ok.mod.kin hk ?_ (by rw [hs1]; rfl) (by rfl)
  rw [hs1]
  show wpAny _ _ (spliced [(false, eval e X.env), (false, eval (.Lambda L.params L.body L.scope lpos) X.env)]) _ _ s
  refine Calls.spliced_cons (thn (he1.run pins s σ H (fun v1 H1 => ∃ o1 r1 ρ1 τ1, Le o H o1 H1 ∧ Rep X.K c o1 σ H1 ρ1 τ1 ∧ RelR X.K o1 H1 σ v1 r1 τ τ1 ∧ match capt ρ1 js with
    | some ds => ∀ f c vs, tCall (Fl (.fnv f c L.qual vs ds)) 2 (fun ρ' Q' => Q' [r1, .im (.fnv f c L.qual vs ds)] ρ') ρ1 Q
    | none => False) I ⟨o, ρ, τ, _, R0, h, fun v H' o' r ρ' τ' L' R' z hh => ⟨o', r, ρ', τ', L', R', z, hh⟩⟩) ?_)
  rintro u1 s1 ⟨v1, H1, I1, rv1, o1, r1, ρ1, τ1, L1, R1, z1, h1⟩
  split at h1
  · rename_i ds hcap
    obtain ⟨vs, hl, dd, at_⟩ := capt_ok R1 hcap
    have tab1 : Tab o1 H1 P L.qual := R1.le.tbs P L.qual tab
    have hfree : ∀ y ∈ L.scope.names, y.2 = .free → ∃ a, X.env.cells.lookup y.1 = some a := fun y hy e => by
      have q := List.all_eq_true.mp (Bool.and_eq_true_iff.mp hB).2 y hy
      simp only [e, Bool.or_eq_true, Bool.not_eq_true', decide_true, decide_eq_true_eq] at q
      exact I.ok.has _ (q.elim (fun q => q.elim (fun z => by cases z) .inl) .inr)
    refine Calls.spliced_cons (lam_new I1 R1 TB hcode hq tab1 hdef hfree fun f c' pm ctv H2 s2 I2 L2' R2 hf nf fr big oc hc => ?_)
    refine Calls.spliced_nil ⟨I2.kIn, ?_⟩
    obtain ⟨xs, hx, lam⟩ := lamAt_of I2 hB hfn hl at_ hf nf fr
    have oc2 : o1 c' = none := oc
    have df : Dat X.K o1 H2 (.ref f) (.fnv f c' L.qual vs ds) := .fnv oc hc (dd.mono L2')
    have z2 : RelRs X.K o1 H2 σ [v1, .ref f] [r1, .im (.fnv f c' L.qual vs ds)] τ τ1 := .cons (by
      cases r1 with
      | im d => exact ⟨z1.1, z1.2.mono L2'⟩
      | tm m => exact z1
      | sl i => exact z1) (.cons ⟨rfl, df⟩ .nil)
    have h2 := h1 f c' vs
    unfold tCall at h2
    obtain ⟨o2, Lo, ms, Gm, hl2, ha, hF, qq⟩ := callO (kk := kk) (n := 2) (F := Fl (.fnv f c' L.qual vs ds)) (Q := Q) (τ := τ) (o := o) (H := H) (vs := [v1, .ref f]) (H1 := H2) (o1 := o1) (rs := [r1, .im (.fnv f c' L.qual vs ds)]) (ρ1 := ρ1) q (L1.trans L2') R2 z2 h2
    have FO := G (keepAt X.base xs s2.heap) f c' _ vs ds lam
    have ln : [v1, V.ref f].length = ps.length := FO.len [v1, V.ref f] H2 kk E0 ⟨o2, ms, Gm, hl2, ha, hF, qq⟩
    refine wpAny_call (codeAny_mono (FO.run X.A X.stack s2 H2 ⟨[u1, .ref f], []⟩ [u1, .ref f] [v1, .ref f] kk E0 hr (env0_keepAt I2 hx) (by have := hb s2 [u1, .ref f] I2.kIn (by simpa using ln); simpa using this) (.cons rv1 (.cons rfl .nil)) ⟨o2, ms, Gm, hl2, ha, hF, qq⟩) fun r s' hq => ?_)
    cases r with
    | error e => exact hq.elim
    | ok fl =>
      cases fl with
      | ret u => exact I2.after hq
      | next => exact False.elim hq
      | brk => exact False.elim hq
      | cont => exact False.elim hq
  · exact h1.elim
end
end Y
namespace Y
open PySem PySem.Spec L2
/-! ### a def as a value -/
section
variable {K : PySem.W.Frag} {c : Cc} {X : Cx} {p : Pos} {f : Addr} {x : Str}
theorem de_def (hg : Gl X x) (hm : X.mg x = some (.ref f)) (hdb : (x == ("__debug__" : Str)) = false := by decide) : DE X c (.Name x p) (tIm (.raw (.ref f))) :=
  peImp (pe_glob hg hm (v := .ref f) rfl hdb) fun σ H k ⟨o, ρ, τ, Q, R0, h, q⟩ => q _ H o (.im (.raw (.ref f))) ρ τ .refl R0 ⟨rfl, .raw _⟩ h
end
/-! ### a def that makes lambdas: it knows its code object and the table in it -/
structure CodeOf (K : PySem.W.Frag) (name : Str) (st : Stmt) (f : Addr) (fd : FuncData) where
  cd : Addr
  P : Addr
  ex : ∃ (oc : Value) (od : Option Addr) (kV doc pm : Value) (an : Option Addr) (ct : Value) (osl : Array (Option Value)),
    fd = PySem.W.fnOf name name (defArgs st) (defBody st) (defScope st) .none kV doc pm an (.ref cd) ct ∧ K.lookup f = some ⟨oc, od, .func fd, osl⟩ ∧ PySem.W.codeIn K (.ref cd) name = true
  hd : PySem.W.codeHdIn K cd P = true
  no : K.lookup P = none
/-- as spD, with a table at P whose code objects are called q -/
def spT (P : Addr) (q : Str) (K : PySem.W.Frag) (F : TF) (n : Nat) : Sp := fun vs H Q _ => ∃ o ms G, Tab o H P q ∧ vs.length = n ∧ ArgsOk K o H vs ms ∧ F ms G ∧
  ∀ v H' o' m fin, Le o H o' H' → (∀ a l, o' a = some l → Mt (H' a)) → IsM K o' H' (.t 0) v m → FinOk K o' H' vs fin → G m fin → Q v H'
theorem fn_okT {Pg : Program} {w : World} {K : PySem.W.Frag} {mg : Str → Option Value} {base : Heap} {x q : Str} {st : Stmt} {f : Addr} {fd : FuncData} {N ps : List Str} {k : Nat} {F : TF} {T : TSX} (C : CodeOf K x st f fd) (S : FnScope N ps (defScope st)) (hB : Body F N.length ps.length T)
    (hbody : ∀ (A : Around) (outer : List PySem.Env) (s : Shared) (H : Hp) (E : XK) (c : Cc), Room k (A.deeper (PyProof.Rows.envOfC x (defScope st) s.heap.objs.size f (.ref C.cd))) → Tab c.o0 c.H0 C.P q → DSs (cxOf CX0 Pg w K mg base N x (defScope st) f (.ref C.cd) A outer s H E).nox c (defBody st) T) :
    FnOk Pg w K mg base CX0 (k + 1) f fd ps (spT C.P q K F ps.length) := by
  obtain ⟨cd, P, ex, hd, no⟩ := C
  obtain ⟨oc, od, kV, doc, pm, an, ct, osl, e, lk, hcd⟩ := ex
  subst e
  refine fn_of lk hcd S (fun vs H Q E ⟨o, ms, G, _, hl, _⟩ => hl) fun A outer s H vs Q E hr ⟨o, ms, G, tab, hl, ha, hF, q⟩ => ?_
  refine ⟨_, (hbody A outer s H E ⟨o, H, vs⟩ hr tab).nox, ?_⟩
  have R0 : Rep K ⟨o, H, vs⟩ o (L2.start N vs) H (envOf N.length ps.length ms) [] := by have := rep_start (N := N) ha; rw [hl] at this; exact this
  have mu : ∀ {o' : Own} {H' : Hp}, (∀ a l, o' a = some l → Mt (H' a)) → ∀ a l, unH o' a = some l → Mt (H' a) := fun h a l e => by
    unfold unH at e
    split at e
    · exact h a _ (by assumption)
    · exact h a _ e
  refine ⟨o, _, _, R0, hB ms G (by rw [← ha.len]; exact hl) hF, ⟨fun σ' H' o' ρ' L R hG => ?_, fun v σ' H' o' ρ' m L R im hG => ?_, fun _ _ _ _ _ _ z => z.elim, fun _ _ _ _ _ _ z => z.elim⟩⟩
  · exact q .non H' (unH o') (.im .non) _ (L.trans unH_le) (mu R.mu) .non (fins_ok R _) hG
  · exact q v H' (unH o') m _ (L.trans unH_le) (mu R.mu) (im.mono unH_le fun a z => ⟨by unfold unH; rw [z], rfl⟩) (fins_ok R _) hG
/-! ### the law's def with its table -/
theorem hspT {F : TF} (hF : ∀ (ns : List Int) (G : M → List (Option M) → Prop), ns.length ≤ 63 → (∀ fin, G (.im (.bl true)) fin) → F [.sq (ns.map D.int)] G) (K : PySem.W.Frag) (H : Hp) (P a : Addr) (q : Str) (ns : List Int) (hl : ns.length ≤ 63) (hP : H P = some (.tbl #[])) (hS : SqL K H a (ns.map V.int)) :
    spT P q K F 1 [.ref a] H (fun v _ => v = .bl true) fun _ _ _ => False := by
  let o : Own := fun b => if b = P then some (.k q) else none
  have oP : o P = some (.k q) := if_pos rfl
  have on : ∀ {b l}, o b = some l → b = P := fun {b l} e => by
    by_cases z : b = P
    · exact z
    · have z2 : o b = none := if_neg z
      rw [z2] at e; cases e
  refine ⟨o, [.sq (ns.map D.int)], fun m _ => m = .im (.bl true), ⟨#[], oP, hP, True.intro, fun pos cv hc => ?_⟩, rfl, ⟨rfl, fun i v m e1 e2 => ?_, fun b l e => ?_⟩, hF ns _ hl fun _ => rfl, fun v H' o' m fin _ _ i _ e => ?_⟩
  · have z : codeAmong pos [] = some cv := hc
    simp [codeAmong] at z
  · cases i with
    | zero =>
      cases e1; cases e2
      refine ⟨a, ns.map V.int, rfl, ?_, Dats.of_ints ns⟩
      rcases hS with h | h
      · refine .inl ⟨.inl (if_neg fun z => ?_), h⟩
        subst z
        rcases h with h | ⟨_, h⟩
        · rw [hP] at h; cases h
        · rw [hP] at h; cases h
      · exact .inr h
    | succ i => simp at e1
  · rw [on e, hP]; trivial
  · subst e
    cases (show Dat K o' H' v (.bl true) from i)
    rfl
theorem walkT {l : PySem.W.OpenLaw} {q : Program} {loose : List Str} {XP : (Str → Option Value) → Heap → Prop} {YP : World → Heap → Prop} {d : DefRec} {K : Params → PySem.W.Frag} {F : TF} {qn : Str} (hn : l.most = some 63) (hdf : d.params.defaults = [])
    (hF : ∀ (ns : List Int) (G : M → List (Option M) → Prop), ns.length ≤ 63 → (∀ fin, G (.im (.bl true)) fin) → F [.sq (ns.map D.int)] G)
    (hY : ∀ (w : World) (h : Heap), YP w h → (K w.params).In h)
    (Fk : ∀ (w : World) (mg : Str → Option Value) (fa : Addr) (h : Heap), YP w h → (K w.params).In h → h.Ns mainGlobals mg → mg d.name = some (.ref fa) →
      ∃ (fd : FuncData) (cd P : Addr), h.get? P = some { cls := .none, data := .fields #[] } ∧ (K w.params).lookup P = none ∧ PySem.W.CodeHd h cd P ∧ (∀ (s : Shared) (u : Value), BindsTo s fd ⟨[u], []⟩ [("script", u)]) ∧
        ∀ base : Heap, (K w.params).In base → base.Ns mainGlobals mg → LamX.TabB base mg cd P → FnOk l.prog w (K w.params) mg base CX0 65 fa fd ["script"] (spT P qn (K w.params) F 1)) :
    PySem.W.WalkO q loose XP YP l.row.toRowW d [] (fun f vs => PySem.call f vs) :=
  LamX.walk_ofTs (n := 63) (k := 65) (x := "script") (CX := fun _ => CX0) hn (by decide) hdf ⟨rfl, by decide, by decide⟩ hY
    (fun w mg fa h Y KX G e => let ⟨fd, cd, P, h1, h2, h3, h4, h5⟩ := Fk w mg fa h Y KX G e
      ⟨fd, [(cd, P)], spT P qn (K w.params) F 1, fun p hp => by cases List.mem_singleton.mp hp; exact h1, fun p hp => by cases List.mem_singleton.mp hp; exact h2, fun p hp => by cases List.mem_singleton.mp hp; exact h3, h4,
        fun H a ns a1 _ a3 a4 => hspT hF (K w.params) H P a qn ns a1 (a3 _ (List.mem_singleton.mpr rfl)) a4, fun base b1 b2 b3 => h5 base b1 b2 (b3 _ (List.mem_singleton.mpr rfl))⟩)
    fun _ _ _ _ _ z => z
end Y
namespace Y
open PySem PySem.Spec L2
/-! ### the way to a lambda in a statement -/
def kids : Expr → List Expr
  | .Call f es _ _ => f :: es
  | .UnaryOp _ e _ => [e]
  | .BoolOp _ es _ => es
  | _ => []
def follow : List Nat → Expr → Expr
  | [], e => e
  | i :: r, e => follow r ((kids e).getD i e)
def valOf : Stmt → Expr
  | .Assign _ v _ => v
  | .If t _ _ _ => t
  | .Return (some e) _ => e
  | _ => .Constant .none 0 ⟨0, 0, 0, 0⟩
def lamPs : Expr → Arguments
  | .Lambda p _ _ _ => p
  | _ => default
def lamBd : Expr → Expr
  | .Lambda _ b _ _ => b
  | e => e
def lamSc : Expr → Scope
  | .Lambda _ _ s _ => s
  | _ => default
section
variable {X : Cx}
/-! ### a < b of data -/
theorem op_ltD (hu : X.A.units + 64 < cLine) : OpR X (compareOp .Lt) (fun x y H k => ∃ d e, Dp X.K H x d ∧ Dp X.K H y e ∧ PySem.W.alike d e = true ∧ d ≠ .none ∧ d.depth ≤ 64 ∧ k (.bl (PySem.W.dataLt d e)) H) := by
  rintro pins s σ H x y v u Q I rx ry ⟨d, e, d1, d2, al, nn, dep, q⟩
  obtain ⟨as, r1⟩ := Dp.reads I _ _ _ d1 rx
  obtain ⟨bs, r2⟩ := Dp.reads I _ _ _ d2 ry
  exact PySem.W.lt_data r1 r2 al nn (by omega) ⟨.bl _, H, I, rfl, q⟩
def gLtD : G2 := fun m n G => match m.dat?, n.dat? with
  | some d, some e => PySem.W.alike d.py e.py = true ∧ d.py ≠ .none ∧ D.ok 64 d = true ∧ D.ok 64 e = true ∧ G (.im (.bl (PySem.W.dataLt d.py e.py)))
  | _, _ => False
theorem ltD_ok (hu : X.A.units + 64 < cLine) : OpG X (compareOp .Lt) gLtD := by
  refine opG (op_ltD hu) fun x y H k h => ?_
  obtain ⟨o, m1, m2, G, mu, v1, v2, h, q⟩ := h
  unfold gLtD at h
  split at h
  · rename_i d e e1 e2
    exact ⟨d.py, e.py, v1.dp e1 h.2.2.1, v2.dp e2 h.2.2.2.1, h.1, h.2.1, (D.ok_lay 64 d h.2.2.1).2, qim q (.bl _) h.2.2.2.2⟩
  · exact h.elim
/-! ### sum(l), max(l) of ints -/
def gSum : GC := fun ms G => match ms with
  | [m] => match m.lq? with
    | some ds => ∃ ns : List Int, ds = ns.map D.int ∧ G (.im (.int ns.sum))
    | none => False
  | _ => False
def gMax : GC := fun ms G => match ms with
  | [m] => match m.lq? with
    | some ds => ∃ ns : List Int, ds = ns.map D.int ∧ 0 < ns.length ∧ ∀ m, m ∈ ns → (∀ y, y ∈ ns → y ≤ m) → G (.im (.int m))
    | none => False
  | _ => False
theorem ints_vals {K : PySem.W.Frag} {o : Own} {H : Hp} : ∀ {ns : List Int} {xs : List V}, Dats K o H xs (ns.map D.int) → xs = ns.map V.int
  | [], _, .nil => rfl
  | n :: ns, _, .cons a r => by cases a; rw [ints_vals r]; rfl
theorem sum_ok (hc : X.calm = true) : CallG X (.builtin "sum") gSum := by
  refine callG (cr_sum hc) fun vs H k h => ?_
  obtain ⟨o, ms, G, mu, v1, h, q⟩ := h
  unfold gSum at h
  split at h
  · obtain ⟨v, rfl, w1⟩ := pv1 v1
    split at h
    · rename_i ds e
      obtain ⟨ns, rfl, h⟩ := h
      obtain ⟨a, xs, rfl, ht, dd⟩ := w1.lq e
      rw [ints_vals dd] at ht
      exact ⟨a, ns, rfl, ht, qim q (.int _) h⟩
    · exact h.elim
  · exact h.elim
theorem max_ok (hc : X.calm = true) : CallG X (.builtin "max") gMax := by
  refine callG (cr_max hc) fun vs H k h => ?_
  obtain ⟨o, ms, G, mu, v1, h, q⟩ := h
  unfold gMax at h
  split at h
  · obtain ⟨v, rfl, w1⟩ := pv1 v1
    split at h
    · rename_i ds e
      obtain ⟨ns, rfl, hl, h⟩ := h
      obtain ⟨a, xs, rfl, ht, dd⟩ := w1.lq e
      rw [ints_vals dd] at ht
      exact ⟨a, ns, rfl, ht, hl, fun m h1 h2 => qim q (.int _) (h m h1 h2)⟩
    · exact h.elim
  · exact h.elim
end
end Y
namespace Y
open PySem PySem.Spec L2
section
variable {X : Cx}
/-! ### sorted(t) of a tuple -/
theorem sorted_tup (hu : X.A.units + 80 < cLine) : CallR X (.builtin "sorted") (fun vs H k => ∃ a xs ds o, vs = [.ref a] ∧ SqT X.K H a xs ∧ Dats X.K o H xs ds ∧ CanSort ds ∧
    ∀ p ys, H p = none → ys.length = ds.length → Dats X.K o H ys (sortD ds) → k (.ref p) (upd H p (.lst ys))) := by
  rintro pins s σ H vs us Q I r ⟨a, xs, ds, o, rfl, hs, hd, ⟨c1, c2, c3⟩, q⟩
  obtain ⟨its, rv, ⟨ob, eo, hcl, nn, hdat⟩, hz⟩ := I.tuple hs
  rw [Vals.ref1 r]
  have il : its.length = ds.length := by rw [← rv.length, hd.length]
  refine Calls.call_function_entry PyProof.Rows.kind_sorted PyProof.Rows.plain_sorted PyProof.Rows.entry_sorted (PyProof.Rows.args_sorted1 _) ?_
  unfold Builtin.«sorted»
  refine wpAny_bind (m := checkCount "sorted" 1 1 _) (wpAny_pure ?_)
  refine wpAny_bind (wpAny_collect_seq a (T := "tuple") (.inr rfl) eo hcl hdat (fun h' kp => ?_) (by rw [List.size_toArray, ← rv.length]; exact hz))
  have I1 : Inv X pins σ H { s with heap := h' } := I.kept kp
  have dp := hd.all_dp c3
  have hlz : (xs.zip ds).length = ds.length := by rw [List.length_zip, hd.length, Nat.min_self]
  refine wpAny_bind (wpAny_newList ?_ (by simpa [← rv.length] using hz))
  show wpAny _ _ _ _ _ { s with heap := h'.push (PyProof.Rows.seqObj "list" its.toArray 0) }
  have at_ : (h'.push (PyProof.Rows.seqObj "list" its.toArray 0)).get? h'.objs.size = some (PyProof.Rows.seqObj "list" its.toArray 0) := Heap.get?_push_size _ rfl
  have reads : PySem.W.EachIs (fun v (b : V × D) => ∃ as, Reads (h'.push (PyProof.Rows.seqObj "list" its.toArray 0)) v b.2.py as ∧ h'.objs.size ∉ as) its (xs.zip ds) := each_zip rv hd.length fun p hp u ru => by
    obtain ⟨as, ra⟩ := Dp.reads I1 _ _ _ (dp p hp).2 ru
    refine ⟨as, PyProof.Rows.Reads.keeps (fun b u e => Heap.get?_push_of_some _ e) ra, fun hm => ?_⟩
    obtain ⟨u, hu⟩ := PyProof.On.reads_mem_get ra _ hm
    exact absurd (Heap.lt_size hu) (Nat.lt_irrefl _)
  have rels : PySem.W.EachIs (fun u (p : V × D) => RelV p.1 u ∧ p ∈ xs.zip ds) its (xs.zip ds) := each_zip rv hd.length fun p hp u ru => ⟨ru, hp⟩
  refine wpAny_bind (wpAny_holding (PySem.W.list_sort_data (enc := fun p : V × D => p.2.py) (s := { s with heap := h'.push (PyProof.Rows.seqObj "list" its.toArray 0) }) at_ rels reads (by rw [zip_py hd.length]; exact c1) (by rw [zip_py hd.length]; exact c2) (by rw [hlz, ← hd.length]; exact hz) (fun b hb => ?_) fun out ho eo => ?_))
  · have := (D.ok_lay 64 b.2 (c3 b.2 (List.of_mem_zip hb).2)).2
    show X.A.in1.units + 1 + _ < _
    have h1 : X.A.in1.units = X.A.units + 1 := rfl
    omega
  · obtain ⟨ys, hv, hly, hdy⟩ := sort_fin hd.length out eo fun p hp => (dp p hp).1
    obtain ⟨e', he'⟩ := PyProof.Rows.sortedHeap_at (vs := its) (out := out.toArray) at_
    refine wpAny_pure ⟨_, rfl, .ref h'.objs.size, upd H h'.objs.size (.lst ys), I1.laid (t' := s.toks) (fun b u e => ?_) (Nat.le_refl _)
      (show ObjOk X.prog X.w _ _ _ (.lst ys) from ⟨by rw [hly, ← hd.length]; exact hz, out, e', hv, he'⟩), rfl, q h'.objs.size ys (I1.hok.fresh (Nat.le_refl _)) hly hdy⟩
    have hb : b < h'.objs.size := Heap.lt_size e
    rw [PyProof.Rows.sortedHeap_old (Nat.ne_of_lt hb) (by show b < (h'.objs.push _).size; rw [Array.size_push]; exact Nat.lt_succ_of_lt hb)]
    exact Heap.get?_push_of_some _ e
def gSorted2 : GC := fun ms G => match ms with
  | [.im (.tup ds)] => CanSort ds ∧ G (.ls (sortD ds))
  | ms => gSorted ms G
theorem sorted2_ok (hc : X.calm = true) (hu : X.A.units + 80 < cLine) : CallG X (.builtin "sorted") gSorted2 := by
  have B := (sorted_tup (X := X) hu).or (sorted_ok hc hu)
  refine callG B fun vs H k h => ?_
  obtain ⟨o, ms, G, mu, v1, h, q⟩ := h
  unfold gSorted2 at h
  split at h
  · obtain ⟨v, rfl, w1⟩ := pv1 v1
    obtain ⟨a, xs, rfl, ht, dd⟩ := w1.tup
    exact .inl ⟨a, xs, _, o, rfl, ht.sq, dd, h.1, fun p ys hp _ hd => q _ _ (.ls _) (.new hp) ⟨p, ys, rfl, hp, rfl, hd⟩ h.2⟩
  · exact .inr ⟨o, ms, G, mu, v1, h, q⟩
end
end Y
namespace Y
open PySem PySem.Spec L2
section
variable {Pg : Program} {w : World} {K : PySem.W.Frag} {mg : Str → Option Value} {base : Heap}
/-! printed by gen.py -/
abbrev pr : Program := PySem.Challenge.pw_wherewritten_k05_syntax_and_scopes
def topS (i : Nat) : Stmt := pr.main.body.getD i (.Pass ⟨0, 0, 0, 0⟩)
def tup_SPECIAL_NAMES : List D := [.str "...", .str "_"]

/-! ### is_name -/
abbrev st_is_name : Stmt := topS 5
theorem sc_is_name : FnScope ["text", "sign", "first"] ["text"] (defScope st_is_name) := ⟨rfl, rfl, rfl, by decide +kernel, rfl, by decide +kernel, by decide +kernel⟩
def t_is_name : TSX :=
    sSeq (sIf (tOrQ (tNotQ (tTst (tChn (gLe) (gLe) (tIm (.int 1)) (tCl (gLen) (lCons (tNm 0) (lNil))) (tIm (.int 20))))) (tTst (tOn (fInT false tup_SPECIAL_NAMES) (tNm 0)))) (sRet (tIm (.bl false))) (sNil))
    (sSeq (sIf (tNotQ (tTru (tCl (gAll fun bs => bs.all id) (lCons (tLcX (iSeq (tNm 0)) (.one 1) (qYes) (tBin (gIns false) (tNm 1) (tIm (.str "abcdefghijklmnopqrstuvwxyz0123456789!*+-./:<=>?_"))) [1]) (lNil))))) (sRet (tIm (.bl false))) (sNil))
    (sSeq (sAsg 2 (tIfX (tTst (tBin (gEqs2 false) (tBin gIx (tNm 0) (tIm (.int 0))) (tIm (.str "-")))) (tSlc (tNm 0) (pSo (tIm (.int 1))) (pSo (tIm (.int 2)))) (tBin gIx (tNm 0) (tIm (.int 0)))))
    (sRet (tOrX (tBin (gIns true) (tNm 2) (tIm (.str "0123456789"))) (tBin (gEqs2 false) (tNm 2) (tIm (.str "")))))))
theorem ok_is_name {k : Nat} {F : TF} (Ds : DefAt K mg "is_name" st_is_name ["text"]) (z_len : mg "len" = none) (z_all : mg "all" = none) {gt_LONGEST_NAME : Tok} (g_LONGEST_NAME : mg "LONGEST_NAME" = some (.int 20 gt_LONGEST_NAME)) {gt_NAME_SIGNS : Tok} (g_NAME_SIGNS : mg "NAME_SIGNS" = some (.str "abcdefghijklmnopqrstuvwxyz0123456789!*+-./:<=>?_" gt_NAME_SIGNS)) {gt_FIGURES : Tok} (g_FIGURES : mg "FIGURES" = some (.str "0123456789" gt_FIGURES)) (g_SPECIAL_NAMES : GTup K mg "SPECIAL_NAMES" tup_SPECIAL_NAMES)
    (hB : Body F 3 1 (t_is_name)) : FnD Pg w K mg base Ds (k + 1) F := by
  refine fn_ok Ds.fu sc_is_name hB fun cdv A outer s H E c hr => ?_
  have nd := sc_is_name.nd
  exact ds_cons (ds_if (dw_pt (dw_or (dt_not (dt_chn (le_ok) (le_ok) (de_int) (de_callB (len_ok) (by rfl) z_len (by decide +kernel) (da_cons (de_var 0) (da_nil))) (de_glob (v := .int 20) (by rfl) g_LONGEST_NAME ⟨_, rfl⟩ (fun _ _ => .int _)))) (dw_or1 (dt_inT (hu65 hr) (by rfl) g_SPECIAL_NAMES (de_var 0) (by decide +kernel))))) (ds_one (ds_ret (de_bl))) (ds_nil))
    (ds_cons (ds_if (dt_not (dt_tru (de_callB (all_ok rfl) (by rfl) z_all (by decide +kernel) (da_cons (de_lc (own := [("sign", 1)]) (bd := .one 1) rfl nd (di_seq (de_var 0)) (by kernel_rfl) (fun _ _ _ _ _ => pg_name (i := 1) nd rfl (by first | exact Or.inl rfl | exact Or.inr rfl)) (fun _ _ _ _ _ => dq_nil) (fun _ _ _ _ _ => de_cmp (in_ok (hu65 hr)) (de_var 1) (de_glob (v := .str "abcdefghijklmnopqrstuvwxyz0123456789!*+-./:<=>?_") (by rfl) g_NAME_SIGNS ⟨_, rfl⟩ (fun _ _ => .str _)))) (da_nil))))) (ds_one (ds_ret (de_bl))) (ds_nil))
    (ds_cons (ds_set (i := 2) nd (de_if (dt_cmp (eq2_ok (hu64 hr)) (de_ix (hu1 hr) (de_var 0) (de_int)) (de_str)) (de_slice (de_var 0) (do_so (de_int)) (do_so (de_int))) (de_ix (hu1 hr) (de_var 0) (de_int))))
    (ds_one (ds_ret (de_or (de_cmp (notin_ok (hu65 hr)) (de_var 2) (de_glob (v := .str "0123456789") (by rfl) g_FIGURES ⟨_, rfl⟩ (fun _ _ => .str _))) (de_one (de_cmp (eq2_ok (hu64 hr)) (de_var 2) (de_str))))))))

/-! ### syntax_of -/
abbrev st_syntax_of : Stmt := topS 7
theorem sc_syntax_of : FnScope ["module", "datum", "scopes", "kind", "value", "place", "occurrence", "part"] ["module", "datum", "scopes"] (defScope st_syntax_of) := ⟨rfl, rfl, rfl, by decide +kernel, rfl, by decide +kernel, by decide +kernel⟩
def t_syntax_of (F_syntax_of : TF) : TSX :=
    sSeq (sUnp (.many [3, 4, 5]) (tNm 1))
    (sSeq (sAsg 6 (tTp (lCons (tNm 0) (lCons (tNm 5) (lNil)))))
    (sSeq (sIf (tTst (tBin (gEqs2 false) (tNm 3) (tIm (.str "name")))) (sRet (tTp (lCons (tIm (.str "id")) (lCons (tNm 4) (lCons (tNm 6) (lCons (tNm 2) (lNil))))))) (sNil))
    (sSeq (sIf (tTst (tBin (gEqs2 false) (tNm 3) (tIm (.str "list")))) (sRet (tTp (lCons (tIm (.str "list")) (lCons (tCl (gTuple) (lCons (tLcX (iSeq (tNm 4)) (.one 7) (qYes) (tCall F_syntax_of 3 (lCons (tNm 0) (lCons (tNm 7) (lCons (tNm 2) (lNil))))) [7]) (lNil))) (lCons (tNm 6) (lNil)))))) (sNil))
    (sRet (tTp (lCons (tIm (.str "atom")) (lCons (tNm 3) (lCons (tNm 4) (lCons (tNm 6) (lNil))))))))))
theorem ok_syntax_of {k : Nat} {F : TF} (Ds : DefAt K mg "syntax_of" st_syntax_of ["module", "datum", "scopes"]) (z_tuple : mg "tuple" = none) {F_syntax_of : TF} {k_syntax_of : Nat} (G_syntax_of : FnD Pg w K mg base Ds k_syntax_of F_syntax_of) (h_syntax_of : k_syntax_of ≤ k)
    (hB : Body F 8 3 (t_syntax_of F_syntax_of)) : FnD Pg w K mg base Ds (k + 1) F := by
  refine fn_ok Ds.fu sc_syntax_of hB fun cdv A outer s H E c hr => ?_
  have nd := sc_syntax_of.nd
  exact ds_cons (ds_unp (bd := .many [3, 4, 5]) (de_var 1) (pg_tup rfl (pgs_cons (pg_name (i := 3) nd rfl (by first | exact Or.inl rfl | exact Or.inr rfl)) (pgs_cons (pg_name (i := 4) nd rfl (by first | exact Or.inl rfl | exact Or.inr rfl)) (pgs_cons (pg_name (i := 5) nd rfl (by first | exact Or.inl rfl | exact Or.inr rfl)) (pgs_nil))))))
    (ds_cons (ds_set (i := 6) nd (de_tup (da_cons (de_var 0) (da_cons (de_var 5) (da_nil)))))
    (ds_cons (ds_if (dt_cmp (eq2_ok (hu64 hr)) (de_var 3) (de_str)) (ds_one (ds_ret (de_tup (da_cons (de_str) (da_cons (de_var 4) (da_cons (de_var 6) (da_cons (de_var 2) (da_nil)))))))) (ds_nil))
    (ds_cons (ds_if (dt_cmp (eq2_ok (hu64 hr)) (de_var 3) (de_str)) (ds_one (ds_ret (de_tup (da_cons (de_str) (da_cons (de_callT (tuple_ok) (by rfl) z_tuple (by decide +kernel) (da_cons (de_lc (own := [("part", 7)]) (bd := .one 7) rfl nd (di_seq (de_var 4)) (by kernel_rfl) (fun _ _ _ _ _ => pg_name (i := 7) nd rfl (by first | exact Or.inl rfl | exact Or.inr rfl)) (fun _ _ _ _ _ => dq_nil) (fun _ _ _ _ _ => de_call G_syntax_of (hr.mono h_syntax_of) (by rfl) Ds.mg Ds.fu.kp Ds.bd (da_cons (de_var 0) (da_cons (de_var 7) (da_cons (de_var 2) (da_nil)))))) (da_nil))) (da_cons (de_var 6) (da_nil))))))) (ds_nil))
    (ds_one (ds_ret (de_tup (da_cons (de_str) (da_cons (de_var 3) (da_cons (de_var 4) (da_cons (de_var 6) (da_nil)))))))))))

/-! ### datum_of -/
abbrev st_datum_of : Stmt := topS 8
theorem sc_datum_of : FnScope ["syntax", "place", "part"] ["syntax"] (defScope st_datum_of) := ⟨rfl, rfl, rfl, by decide +kernel, rfl, by decide +kernel, by decide +kernel⟩
def t_datum_of (F_occurrence_of : TF) (F_datum_of : TF) : TSX :=
    sSeq (sAsg 1 (tBin gIx (tCall F_occurrence_of 1 (lCons (tNm 0) (lNil))) (tIm (.int 1))))
    (sSeq (sIf (tTst (tBin (gEqs2 false) (tBin gIx (tNm 0) (tIm (.int 0))) (tIm (.str "id")))) (sRet (tTp (lCons (tIm (.str "name")) (lCons (tBin gIx (tNm 0) (tIm (.int 1))) (lCons (tNm 1) (lNil)))))) (sNil))
    (sSeq (sIf (tTst (tBin (gEqs2 false) (tBin gIx (tNm 0) (tIm (.int 0))) (tIm (.str "list")))) (sRet (tTp (lCons (tIm (.str "list")) (lCons (tCl (gTuple) (lCons (tLcX (iSeq (tBin gIx (tNm 0) (tIm (.int 1)))) (.one 2) (qYes) (tCall F_datum_of 1 (lCons (tNm 2) (lNil))) [2]) (lNil))) (lCons (tNm 1) (lNil)))))) (sNil))
    (sRet (tTp (lCons (tBin gIx (tNm 0) (tIm (.int 1))) (lCons (tBin gIx (tNm 0) (tIm (.int 2))) (lCons (tNm 1) (lNil))))))))
theorem ok_datum_of {k : Nat} {F : TF} (Ds : DefAt K mg "datum_of" st_datum_of ["syntax"]) (z_tuple : mg "tuple" = none) {F_occurrence_of : TF} {k_occurrence_of : Nat} (D_occurrence_of : DefAt K mg "occurrence_of" st_occurrence_of ["syntax"]) (G_occurrence_of : FnD Pg w K mg base D_occurrence_of k_occurrence_of F_occurrence_of) (h_occurrence_of : k_occurrence_of ≤ k) {F_datum_of : TF} {k_datum_of : Nat} (G_datum_of : FnD Pg w K mg base Ds k_datum_of F_datum_of) (h_datum_of : k_datum_of ≤ k)
    (hB : Body F 3 1 (t_datum_of F_occurrence_of F_datum_of)) : FnD Pg w K mg base Ds (k + 1) F := by
  refine fn_ok Ds.fu sc_datum_of hB fun cdv A outer s H E c hr => ?_
  have nd := sc_datum_of.nd
  exact ds_cons (ds_set (i := 1) nd (de_ix (hu1 hr) (de_call G_occurrence_of (hr.mono h_occurrence_of) (by rfl) D_occurrence_of.mg D_occurrence_of.fu.kp D_occurrence_of.bd (da_cons (de_var 0) (da_nil))) (de_int)))
    (ds_cons (ds_if (dt_cmp (eq2_ok (hu64 hr)) (de_ix (hu1 hr) (de_var 0) (de_int)) (de_str)) (ds_one (ds_ret (de_tup (da_cons (de_str) (da_cons (de_ix (hu1 hr) (de_var 0) (de_int)) (da_cons (de_var 1) (da_nil))))))) (ds_nil))
    (ds_cons (ds_if (dt_cmp (eq2_ok (hu64 hr)) (de_ix (hu1 hr) (de_var 0) (de_int)) (de_str)) (ds_one (ds_ret (de_tup (da_cons (de_str) (da_cons (de_callT (tuple_ok) (by rfl) z_tuple (by decide +kernel) (da_cons (de_lc (own := [("part", 2)]) (bd := .one 2) rfl nd (di_seq (de_ix (hu1 hr) (de_var 0) (de_int))) (by kernel_rfl) (fun _ _ _ _ _ => pg_name (i := 2) nd rfl (by first | exact Or.inl rfl | exact Or.inr rfl)) (fun _ _ _ _ _ => dq_nil) (fun _ _ _ _ _ => de_call G_datum_of (hr.mono h_datum_of) (by rfl) Ds.mg Ds.fu.kp Ds.bd (da_cons (de_var 2) (da_nil)))) (da_nil))) (da_cons (de_var 1) (da_nil))))))) (ds_nil))
    (ds_one (ds_ret (de_tup (da_cons (de_ix (hu1 hr) (de_var 0) (de_int)) (da_cons (de_ix (hu1 hr) (de_var 0) (de_int)) (da_cons (de_var 1) (da_nil)))))))))

/-! ### occurrence_of -/
abbrev st_occurrence_of : Stmt := topS 9
theorem sc_occurrence_of : FnScope ["syntax"] ["syntax"] (defScope st_occurrence_of) := ⟨rfl, rfl, rfl, by decide +kernel, rfl, by decide +kernel, by decide +kernel⟩
def t_occurrence_of : TSX :=
    sRet (tIfX (tTst (tBin (gEqs2 false) (tBin gIx (tNm 0) (tIm (.int 0))) (tIm (.str "atom")))) (tBin gIx (tNm 0) (tIm (.int 3))) (tBin gIx (tNm 0) (tIm (.int 2))))
theorem ok_occurrence_of {k : Nat} {F : TF} (Ds : DefAt K mg "occurrence_of" st_occurrence_of ["syntax"]) 
    (hB : Body F 1 1 (t_occurrence_of)) : FnD Pg w K mg base Ds (k + 1) F := by
  refine fn_ok Ds.fu sc_occurrence_of hB fun cdv A outer s H E c hr => ?_
  have nd := sc_occurrence_of.nd
  exact ds_one (ds_ret (de_if (dt_cmp (eq2_ok (hu64 hr)) (de_ix (hu1 hr) (de_var 0) (de_int)) (de_str)) (de_ix (hu1 hr) (de_var 0) (de_int)) (de_ix (hu1 hr) (de_var 0) (de_int))))

/-! ### with_scope -/
abbrev st_with_scope : Stmt := topS 10
theorem sc_with_scope : FnScope ["scopes", "scope"] ["scopes", "scope"] (defScope st_with_scope) := ⟨rfl, rfl, rfl, by decide +kernel, rfl, by decide +kernel, by decide +kernel⟩
def t_with_scope : TSX :=
    sRet (tIfX (tTst (tBin (gIns false) (tNm 1) (tNm 0))) (tNm 0) (tCl (gTuple) (lCons (tCl (gSorted2) (lCons (tBin gAdd (tNm 0) (tTp (lCons (tNm 1) (lNil)))) (lNil))) (lNil))))
theorem ok_with_scope {k : Nat} {F : TF} (Ds : DefAt K mg "with_scope" st_with_scope ["scopes", "scope"]) (z_sorted : mg "sorted" = none) (z_tuple : mg "tuple" = none)
    (hB : Body F 2 2 (t_with_scope)) : FnD Pg w K mg base Ds (k + 1) F := by
  refine fn_ok Ds.fu sc_with_scope hB fun cdv A outer s H E c hr => ?_
  have nd := sc_with_scope.nd
  exact ds_one (ds_ret (de_if (dt_cmp (in_ok (hu65 hr)) (de_var 1) (de_var 0)) (de_var 0) (de_callT (tuple_ok) (by rfl) z_tuple (by decide +kernel) (da_cons (de_callB (sorted2_ok rfl (hu80 hr)) (by rfl) z_sorted (by decide +kernel) (da_cons (de_op add_ok (de_var 0) (de_tup (da_cons (de_var 1) (da_nil)))) (da_nil))) (da_nil)))))

/-! ### without_scope -/
abbrev st_without_scope : Stmt := topS 11
theorem sc_without_scope : FnScope ["scopes", "scope", "one"] ["scopes", "scope"] (defScope st_without_scope) := ⟨rfl, rfl, rfl, by decide +kernel, rfl, by decide +kernel, by decide +kernel⟩
def t_without_scope : TSX :=
    sRet (tCl (gTuple) (lCons (tLcX (iSeq (tNm 0)) (.one 2) (tTst (tBin (gEqs true) (tNm 2) (tNm 1))) (tNm 2) [2]) (lNil)))
theorem ok_without_scope {k : Nat} {F : TF} (Ds : DefAt K mg "without_scope" st_without_scope ["scopes", "scope"]) (z_tuple : mg "tuple" = none)
    (hB : Body F 3 2 (t_without_scope)) : FnD Pg w K mg base Ds (k + 1) F := by
  refine fn_ok Ds.fu sc_without_scope hB fun cdv A outer s H E c hr => ?_
  have nd := sc_without_scope.nd
  exact ds_one (ds_ret (de_callT (tuple_ok) (by rfl) z_tuple (by decide +kernel) (da_cons (de_lc (own := [("one", 2)]) (bd := .one 2) rfl nd (di_seq (de_var 0)) (by kernel_rfl) (fun _ _ _ _ _ => pg_name (i := 2) nd rfl (by first | exact Or.inl rfl | exact Or.inr rfl)) (fun _ _ _ _ _ => dq_one (dt_cmp (ne_ok (hu64 hr)) (de_var 2) (de_var 1))) (fun _ _ _ _ _ => de_var 2)) (da_nil))))

/-! ### turned_scope -/
abbrev st_turned_scope : Stmt := topS 12
theorem sc_turned_scope : FnScope ["scopes", "scope"] ["scopes", "scope"] (defScope st_turned_scope) := ⟨rfl, rfl, rfl, by decide +kernel, rfl, by decide +kernel, by decide +kernel⟩
def t_turned_scope (F_without_scope : TF) (F_with_scope : TF) : TSX :=
    sRet (tIfX (tTst (tBin (gIns false) (tNm 1) (tNm 0))) (tCall F_without_scope 2 (lCons (tNm 0) (lCons (tNm 1) (lNil)))) (tCall F_with_scope 2 (lCons (tNm 0) (lCons (tNm 1) (lNil)))))
theorem ok_turned_scope {k : Nat} {F : TF} (Ds : DefAt K mg "turned_scope" st_turned_scope ["scopes", "scope"]) {F_without_scope : TF} {k_without_scope : Nat} (D_without_scope : DefAt K mg "without_scope" st_without_scope ["scopes", "scope"]) (G_without_scope : FnD Pg w K mg base D_without_scope k_without_scope F_without_scope) (h_without_scope : k_without_scope ≤ k) {F_with_scope : TF} {k_with_scope : Nat} (D_with_scope : DefAt K mg "with_scope" st_with_scope ["scopes", "scope"]) (G_with_scope : FnD Pg w K mg base D_with_scope k_with_scope F_with_scope) (h_with_scope : k_with_scope ≤ k)
    (hB : Body F 2 2 (t_turned_scope F_without_scope F_with_scope)) : FnD Pg w K mg base Ds (k + 1) F := by
  refine fn_ok Ds.fu sc_turned_scope hB fun cdv A outer s H E c hr => ?_
  have nd := sc_turned_scope.nd
  exact ds_one (ds_ret (de_if (dt_cmp (in_ok (hu65 hr)) (de_var 1) (de_var 0)) (de_call G_without_scope (hr.mono h_without_scope) (by rfl) D_without_scope.mg D_without_scope.fu.kp D_without_scope.bd (da_cons (de_var 0) (da_cons (de_var 1) (da_nil)))) (de_call G_with_scope (hr.mono h_with_scope) (by rfl) D_with_scope.mg D_with_scope.fu.kp D_with_scope.bd (da_cons (de_var 0) (da_cons (de_var 1) (da_nil))))))

/-! ### changed -/
abbrev st_changed : Stmt := topS 13
theorem sc_changed : FnScope ["syntax", "scope", "change", "part"] ["syntax", "scope", "change"] (defScope st_changed) := ⟨rfl, rfl, rfl, by decide +kernel, rfl, by decide +kernel, by decide +kernel⟩
def t_changed (F_changed : TF) (Pv_change : D → Prop) (Fv_change : D → TF) : TSX :=
    sSeq (sIf (tTst (tBin (gEqs2 false) (tBin gIx (tNm 0) (tIm (.int 0))) (tIm (.str "id")))) (sRet (tBin gAdd (tSlc (tNm 0) (pNo) (pSo (tIm (.int 3)))) (tTp (lCons (tCallV 2 Pv_change Fv_change 2 (lCons (tBin gIx (tNm 0) (tIm (.int 3))) (lCons (tNm 1) (lNil)))) (lNil))))) (sNil))
    (sSeq (sIf (tTst (tBin (gEqs2 false) (tBin gIx (tNm 0) (tIm (.int 0))) (tIm (.str "list")))) (sRet (tTp (lCons (tIm (.str "list")) (lCons (tCl (gTuple) (lCons (tLcX (iSeq (tBin gIx (tNm 0) (tIm (.int 1)))) (.one 3) (qYes) (tCall F_changed 3 (lCons (tNm 3) (lCons (tNm 1) (lCons (tNm 2) (lNil))))) [3]) (lNil))) (lCons (tBin gIx (tNm 0) (tIm (.int 2))) (lNil)))))) (sNil))
    (sRet (tNm 0)))
theorem ok_changed {k : Nat} {F : TF} (Ds : DefAt K mg "changed" st_changed ["syntax", "scope", "change"]) (z_tuple : mg "tuple" = none) {F_changed : TF} {k_changed : Nat} (G_changed : FnD Pg w K mg base Ds k_changed F_changed) (h_changed : k_changed ≤ k) {Pv_change : D → Prop} {Fv_change : D → TF} {kv_change : Nat} (V_change : ∀ d, Pv_change d → FnV Pg w K mg base kv_change 2 d (Fv_change d)) (hv_change : kv_change ≤ k)
    (hB : Body F 4 3 (t_changed F_changed Pv_change Fv_change)) : FnD Pg w K mg base Ds (k + 1) F := by
  refine fn_ok Ds.fu sc_changed hB fun cdv A outer s H E c hr => ?_
  have nd := sc_changed.nd
  exact ds_cons (ds_if (dt_cmp (eq2_ok (hu64 hr)) (de_ix (hu1 hr) (de_var 0) (de_int)) (de_str)) (ds_one (ds_ret (de_op add_ok (de_slice (de_var 0) (do_no) (do_so (de_int))) (de_tup (da_cons (de_callV 2 V_change (hr.mono hv_change) (da_cons (de_ix (hu1 hr) (de_var 0) (de_int)) (da_cons (de_var 1) (da_nil)))) (da_nil)))))) (ds_nil))
    (ds_cons (ds_if (dt_cmp (eq2_ok (hu64 hr)) (de_ix (hu1 hr) (de_var 0) (de_int)) (de_str)) (ds_one (ds_ret (de_tup (da_cons (de_str) (da_cons (de_callT (tuple_ok) (by rfl) z_tuple (by decide +kernel) (da_cons (de_lc (own := [("part", 3)]) (bd := .one 3) rfl nd (di_seq (de_ix (hu1 hr) (de_var 0) (de_int))) (by kernel_rfl) (fun _ _ _ _ _ => pg_name (i := 3) nd rfl (by first | exact Or.inl rfl | exact Or.inr rfl)) (fun _ _ _ _ _ => dq_nil) (fun _ _ _ _ _ => de_call G_changed (hr.mono h_changed) (by rfl) Ds.mg Ds.fu.kp Ds.bd (da_cons (de_var 3) (da_cons (de_var 1) (da_cons (de_var 2) (da_nil)))))) (da_nil))) (da_cons (de_ix (hu1 hr) (de_var 0) (de_int)) (da_nil))))))) (ds_nil))
    (ds_one (ds_ret (de_var 0))))

/-! ### added -/
abbrev st_added : Stmt := topS 14
theorem sc_added : FnScope ["syntax", "scope"] ["syntax", "scope"] (defScope st_added) := ⟨rfl, rfl, rfl, by decide +kernel, rfl, by decide +kernel, by decide +kernel⟩
def t_added (F_changed : TF) (a_with_scope : Addr) : TSX :=
    sRet (tCall F_changed 3 (lCons (tNm 0) (lCons (tNm 1) (lCons (tIm (.raw (.ref a_with_scope))) (lNil)))))
theorem ok_added {k : Nat} {F : TF} (Ds : DefAt K mg "added" st_added ["syntax", "scope"]) {F_changed : TF} {k_changed : Nat} (D_changed : DefAt K mg "changed" st_changed ["syntax", "scope", "change"]) (G_changed : FnD Pg w K mg base D_changed k_changed F_changed) (h_changed : k_changed ≤ k) (D_with_scope : DefAt K mg "with_scope" st_with_scope ["scopes", "scope"])
    (hB : Body F 2 2 (t_added F_changed D_with_scope.f)) : FnD Pg w K mg base Ds (k + 1) F := by
  refine fn_ok Ds.fu sc_added hB fun cdv A outer s H E c hr => ?_
  have nd := sc_added.nd
  exact ds_one (ds_ret (de_call G_changed (hr.mono h_changed) (by rfl) D_changed.mg D_changed.fu.kp D_changed.bd (da_cons (de_var 0) (da_cons (de_var 1) (da_cons (de_def (by rfl) D_with_scope.mg) (da_nil))))))

/-! ### removed -/
abbrev st_removed : Stmt := topS 15
theorem sc_removed : FnScope ["syntax", "scope"] ["syntax", "scope"] (defScope st_removed) := ⟨rfl, rfl, rfl, by decide +kernel, rfl, by decide +kernel, by decide +kernel⟩
def t_removed (F_changed : TF) (a_without_scope : Addr) : TSX :=
    sRet (tCall F_changed 3 (lCons (tNm 0) (lCons (tNm 1) (lCons (tIm (.raw (.ref a_without_scope))) (lNil)))))
theorem ok_removed {k : Nat} {F : TF} (Ds : DefAt K mg "removed" st_removed ["syntax", "scope"]) {F_changed : TF} {k_changed : Nat} (D_changed : DefAt K mg "changed" st_changed ["syntax", "scope", "change"]) (G_changed : FnD Pg w K mg base D_changed k_changed F_changed) (h_changed : k_changed ≤ k) (D_without_scope : DefAt K mg "without_scope" st_without_scope ["scopes", "scope"])
    (hB : Body F 2 2 (t_removed F_changed D_without_scope.f)) : FnD Pg w K mg base Ds (k + 1) F := by
  refine fn_ok Ds.fu sc_removed hB fun cdv A outer s H E c hr => ?_
  have nd := sc_removed.nd
  exact ds_one (ds_ret (de_call G_changed (hr.mono h_changed) (by rfl) D_changed.mg D_changed.fu.kp D_changed.bd (da_cons (de_var 0) (da_cons (de_var 1) (da_cons (de_def (by rfl) D_without_scope.mg) (da_nil))))))

/-! ### flipped -/
abbrev st_flipped : Stmt := topS 16
theorem sc_flipped : FnScope ["syntax", "scope"] ["syntax", "scope"] (defScope st_flipped) := ⟨rfl, rfl, rfl, by decide +kernel, rfl, by decide +kernel, by decide +kernel⟩
def t_flipped (F_changed : TF) (a_turned_scope : Addr) : TSX :=
    sRet (tCall F_changed 3 (lCons (tNm 0) (lCons (tNm 1) (lCons (tIm (.raw (.ref a_turned_scope))) (lNil)))))
theorem ok_flipped {k : Nat} {F : TF} (Ds : DefAt K mg "flipped" st_flipped ["syntax", "scope"]) {F_changed : TF} {k_changed : Nat} (D_changed : DefAt K mg "changed" st_changed ["syntax", "scope", "change"]) (G_changed : FnD Pg w K mg base D_changed k_changed F_changed) (h_changed : k_changed ≤ k) (D_turned_scope : DefAt K mg "turned_scope" st_turned_scope ["scopes", "scope"])
    (hB : Body F 2 2 (t_flipped F_changed D_turned_scope.f)) : FnD Pg w K mg base Ds (k + 1) F := by
  refine fn_ok Ds.fu sc_flipped hB fun cdv A outer s H E c hr => ?_
  have nd := sc_flipped.nd
  exact ds_one (ds_ret (de_call G_changed (hr.mono h_changed) (by rfl) D_changed.mg D_changed.fu.kp D_changed.bd (da_cons (de_var 0) (da_cons (de_var 1) (da_cons (de_def (by rfl) D_turned_scope.mg) (da_nil))))))

/-! ### identifiers -/
abbrev st_identifiers : Stmt := topS 17
theorem sc_identifiers : FnScope ["syntax", "found", "part"] ["syntax"] (defScope st_identifiers) := ⟨rfl, rfl, rfl, by decide +kernel, rfl, by decide +kernel, by decide +kernel⟩
def b_identifiers_1 (F_identifiers : TF) : TSX :=
    sDrop (tMt gExt 1 (lCons (tCall F_identifiers 1 (lCons (tNm 2) (lNil))) (lNil)))
def t_identifiers (F_identifiers : TF) : TSX :=
    sSeq (sIf (tTst (tBin (gEqs2 false) (tBin gIx (tNm 0) (tIm (.int 0))) (tIm (.str "id")))) (sRet (tLs (lCons (tNm 0) (lNil)))) (sNil))
    (sSeq (sAsg 1 (tLs (lNil)))
    (sSeq (sIf (tTst (tBin (gEqs2 false) (tBin gIx (tNm 0) (tIm (.int 0))) (tIm (.str "list")))) (sFor (iSeq (tBin gIx (tNm 0) (tIm (.int 1)))) (.one 2) (b_identifiers_1 F_identifiers)) (sNil))
    (sRet (tNm 1))))
theorem ok_identifiers {k : Nat} {F : TF} (Ds : DefAt K mg "identifiers" st_identifiers ["syntax"]) {F_identifiers : TF} {k_identifiers : Nat} (G_identifiers : FnD Pg w K mg base Ds k_identifiers F_identifiers) (h_identifiers : k_identifiers ≤ k)
    (hB : Body F 3 1 (t_identifiers F_identifiers)) : FnD Pg w K mg base Ds (k + 1) F := by
  refine fn_ok Ds.fu sc_identifiers hB fun cdv A outer s H E c hr => ?_
  have nd := sc_identifiers.nd
  exact ds_cons (ds_if (dt_cmp (eq2_ok (hu64 hr)) (de_ix (hu1 hr) (de_var 0) (de_int)) (de_str)) (ds_one (ds_ret (de_lst (da_cons (de_var 0) (da_nil))))) (ds_nil))
    (ds_cons (ds_set (i := 1) nd (de_lst (da_nil)))
    (ds_cons (ds_if (dt_cmp (eq2_ok (hu64 hr)) (de_ix (hu1 hr) (de_var 0) (de_int)) (de_str)) (ds_one (ds_for (bd := .one 2) PassesOwn.never rfl (di_seq (de_ix (hu1 hr) (de_var 0) (de_int))) (pg_name (i := 2) nd rfl (by first | exact Or.inl rfl | exact Or.inr rfl)) (ds_one (ds_expr (de_mt 1 PySem.F.plainAttrs_list PySem.F.slot_list_extend PySem.F.type_list_extend ext_ok (da_cons (de_call G_identifiers (hr.mono h_identifiers) (by rfl) Ds.mg Ds.fu.kp Ds.bd (da_cons (de_var 2) (da_nil))) (da_nil))))))) (ds_nil))
    (ds_one (ds_ret (de_var 1)))))

/-! ### size -/
abbrev st_size : Stmt := topS 18
theorem sc_size : FnScope ["syntax", "part"] ["syntax"] (defScope st_size) := ⟨rfl, rfl, rfl, by decide +kernel, rfl, by decide +kernel, by decide +kernel⟩
def t_size (F_size : TF) : TSX :=
    sSeq (sIf (tTst (tBin (gEqs2 false) (tBin gIx (tNm 0) (tIm (.int 0))) (tIm (.str "list")))) (sRet (tBin gAdd (tIm (.int 1)) (tCl (gSum) (lCons (tLcX (iSeq (tBin gIx (tNm 0) (tIm (.int 1)))) (.one 1) (qYes) (tCall F_size 1 (lCons (tNm 1) (lNil))) [1]) (lNil))))) (sNil))
    (sRet (tIm (.int 1)))
theorem ok_size {k : Nat} {F : TF} (Ds : DefAt K mg "size" st_size ["syntax"]) (z_sum : mg "sum" = none) {F_size : TF} {k_size : Nat} (G_size : FnD Pg w K mg base Ds k_size F_size) (h_size : k_size ≤ k)
    (hB : Body F 2 1 (t_size F_size)) : FnD Pg w K mg base Ds (k + 1) F := by
  refine fn_ok Ds.fu sc_size hB fun cdv A outer s H E c hr => ?_
  have nd := sc_size.nd
  exact ds_cons (ds_if (dt_cmp (eq2_ok (hu64 hr)) (de_ix (hu1 hr) (de_var 0) (de_int)) (de_str)) (ds_one (ds_ret (de_op add_ok (de_int) (de_callB (sum_ok rfl) (by rfl) z_sum (by decide +kernel) (da_cons (de_lc (own := [("part", 1)]) (bd := .one 1) rfl nd (di_seq (de_ix (hu1 hr) (de_var 0) (de_int))) (by kernel_rfl) (fun _ _ _ _ _ => pg_name (i := 1) nd rfl (by first | exact Or.inl rfl | exact Or.inr rfl)) (fun _ _ _ _ _ => dq_nil) (fun _ _ _ _ _ => de_call G_size (hr.mono h_size) (by rfl) Ds.mg Ds.fu.kp Ds.bd (da_cons (de_var 1) (da_nil)))) (da_nil)))))) (ds_nil))
    (ds_one (ds_ret (de_int)))

/-! ### depth -/
abbrev st_depth : Stmt := topS 19
theorem sc_depth : FnScope ["syntax", "part"] ["syntax"] (defScope st_depth) := ⟨rfl, rfl, rfl, by decide +kernel, rfl, by decide +kernel, by decide +kernel⟩
def t_depth (F_depth : TF) : TSX :=
    sSeq (sIf (tTst (tBin (gEqs2 false) (tBin gIx (tNm 0) (tIm (.int 0))) (tIm (.str "list")))) (sRet (tBin gAdd (tIm (.int 1)) (tCl (gMax) (lCons (tBin gAdd (tLcX (iSeq (tBin gIx (tNm 0) (tIm (.int 1)))) (.one 1) (qYes) (tCall F_depth 1 (lCons (tNm 1) (lNil))) [1]) (tLs (lCons (tIm (.int 0)) (lNil)))) (lNil))))) (sNil))
    (sRet (tIm (.int 0)))
theorem ok_depth {k : Nat} {F : TF} (Ds : DefAt K mg "depth" st_depth ["syntax"]) (z_max : mg "max" = none) {F_depth : TF} {k_depth : Nat} (G_depth : FnD Pg w K mg base Ds k_depth F_depth) (h_depth : k_depth ≤ k)
    (hB : Body F 2 1 (t_depth F_depth)) : FnD Pg w K mg base Ds (k + 1) F := by
  refine fn_ok Ds.fu sc_depth hB fun cdv A outer s H E c hr => ?_
  have nd := sc_depth.nd
  exact ds_cons (ds_if (dt_cmp (eq2_ok (hu64 hr)) (de_ix (hu1 hr) (de_var 0) (de_int)) (de_str)) (ds_one (ds_ret (de_op add_ok (de_int) (de_callB (max_ok rfl) (by rfl) z_max (by decide +kernel) (da_cons (de_op add_ok (de_lc (own := [("part", 1)]) (bd := .one 1) rfl nd (di_seq (de_ix (hu1 hr) (de_var 0) (de_int))) (by kernel_rfl) (fun _ _ _ _ _ => pg_name (i := 1) nd rfl (by first | exact Or.inl rfl | exact Or.inr rfl)) (fun _ _ _ _ _ => dq_nil) (fun _ _ _ _ _ => de_call G_depth (hr.mono h_depth) (by rfl) Ds.mg Ds.fu.kp Ds.bd (da_cons (de_var 1) (da_nil)))) (de_lst (da_cons (de_int) (da_nil)))) (da_nil)))))) (ds_nil))
    (ds_one (ds_ret (de_int)))

/-! ### is_scope -/
abbrev st_is_scope : Stmt := topS 20
theorem sc_is_scope : FnScope ["value", "part"] ["value"] (defScope st_is_scope) := ⟨rfl, rfl, rfl, by decide +kernel, rfl, by decide +kernel, by decide +kernel⟩
def t_is_scope (F_is_name : TF) : TSX :=
    sSeq (sIf (tOrQ (tNotQ (tTru (tCl (gIsi) (lCons (tNm 0) (lCons (tIm (.raw (.ty "tuple"))) (lNil)))))) (tOrQ (tTst (tBin (gEqs true) (tCl (gLen) (lCons (tNm 0) (lNil))) (tIm (.int 3)))) (tNotQ (tTru (tCl (gIsi) (lCons (tBin gIx (tNm 0) (tIm (.int 0))) (lCons (tIm (.raw (.ty "str"))) (lNil)))))))) (sRet (tIm (.bl false))) (sNil))
    (sSeq (sIf (tNotQ (tTru (tCl (gAll fun bs => bs.all id) (lCons (tLcX (iSeq (tSlc (tNm 0) (pSo (tIm (.int 1))) (pNo))) (.one 1) (qYes) (tAndX (tCl (gIsi) (lCons (tNm 1) (lCons (tIm (.raw (.ty "int"))) (lNil)))) (tNotX (tCl (gIsi) (lCons (tNm 1) (lCons (tIm (.raw (.ty "bool"))) (lNil)))))) [1]) (lNil))))) (sRet (tIm (.bl false))) (sNil))
    (sRet (tAndX (tCall F_is_name 1 (lCons (tBin gIx (tNm 0) (tIm (.int 0))) (lNil))) (tAndX (tBin (gGe) (tBin gIx (tNm 0) (tIm (.int 1))) (tIm (.int 0))) (tBin (gGe) (tBin gIx (tNm 0) (tIm (.int 2))) (tIm (.int 0)))))))
theorem ok_is_scope {k : Nat} {F : TF} (Ds : DefAt K mg "is_scope" st_is_scope ["value"]) (z_tuple : mg "tuple" = none) (z_isinstance : mg "isinstance" = none) (z_len : mg "len" = none) (z_str : mg "str" = none) (z_int : mg "int" = none) (z_bool : mg "bool" = none) (z_all : mg "all" = none) {F_is_name : TF} {k_is_name : Nat} (D_is_name : DefAt K mg "is_name" st_is_name ["text"]) (G_is_name : FnD Pg w K mg base D_is_name k_is_name F_is_name) (h_is_name : k_is_name ≤ k)
    (hB : Body F 2 1 (t_is_scope F_is_name)) : FnD Pg w K mg base Ds (k + 1) F := by
  refine fn_ok Ds.fu sc_is_scope hB fun cdv A outer s H E c hr => ?_
  have nd := sc_is_scope.nd
  exact ds_cons (ds_if (dw_pt (dw_or (dt_not (dt_tru (de_callB (isi_ok) (by rfl) z_isinstance (by decide +kernel) (da_cons (de_var 0) (da_cons (de_bltn (v := .ty "tuple") (by rfl) z_tuple (by decide +kernel) rfl) (da_nil)))))) (dw_or (dt_cmp (ne_ok (hu64 hr)) (de_callB (len_ok) (by rfl) z_len (by decide +kernel) (da_cons (de_var 0) (da_nil))) (de_int)) (dw_or1 (dt_not (dt_tru (de_callB (isi_ok) (by rfl) z_isinstance (by decide +kernel) (da_cons (de_ix (hu1 hr) (de_var 0) (de_int)) (da_cons (de_bltn (v := .ty "str") (by rfl) z_str (by decide +kernel) rfl) (da_nil)))))))))) (ds_one (ds_ret (de_bl))) (ds_nil))
    (ds_cons (ds_if (dt_not (dt_tru (de_callB (all_ok rfl) (by rfl) z_all (by decide +kernel) (da_cons (de_lc (own := [("part", 1)]) (bd := .one 1) rfl nd (di_seq (de_slice (de_var 0) (do_so (de_int)) (do_no))) (by kernel_rfl) (fun _ _ _ _ _ => pg_name (i := 1) nd rfl (by first | exact Or.inl rfl | exact Or.inr rfl)) (fun _ _ _ _ _ => dq_nil) (fun _ _ _ _ _ => de_and (de_callB (isi_ok) (by rfl) z_isinstance (by decide +kernel) (da_cons (de_var 1) (da_cons (de_bltn (v := .ty "int") (by rfl) z_int (by decide +kernel) rfl) (da_nil)))) (de_one (de_not (de_callB (isi_ok) (by rfl) z_isinstance (by decide +kernel) (da_cons (de_var 1) (da_cons (de_bltn (v := .ty "bool") (by rfl) z_bool (by decide +kernel) rfl) (da_nil)))))))) (da_nil))))) (ds_one (ds_ret (de_bl))) (ds_nil))
    (ds_one (ds_ret (de_and (de_call G_is_name (hr.mono h_is_name) (by rfl) D_is_name.mg D_is_name.fu.kp D_is_name.bd (da_cons (de_ix (hu1 hr) (de_var 0) (de_int)) (da_nil))) (de_and (de_cmp (ge_ok) (de_ix (hu1 hr) (de_var 0) (de_int)) (de_int)) (de_one (de_cmp (ge_ok) (de_ix (hu1 hr) (de_var 0) (de_int)) (de_int))))))))

/-! ### is_set -/
abbrev st_is_set : Stmt := topS 21
theorem sc_is_set : FnScope ["value", "one", "k"] ["value"] (defScope st_is_set) := ⟨rfl, rfl, rfl, by decide +kernel, rfl, by decide +kernel, by decide +kernel⟩
def t_is_set (F_is_scope : TF) : TSX :=
    sSeq (sIf (tOrQ (tNotQ (tTru (tCl (gIsi) (lCons (tNm 0) (lCons (tIm (.raw (.ty "tuple"))) (lNil)))))) (tNotQ (tTru (tCl (gAll fun bs => bs.all id) (lCons (tLcX (iSeq (tNm 0)) (.one 1) (qYes) (tCall F_is_scope 1 (lCons (tNm 1) (lNil))) [1]) (lNil)))))) (sRet (tIm (.bl false))) (sNil))
    (sRet (tCl (gAll fun bs => bs.all id) (lCons (tLcX (iRg1 (lCons (tBin gSub (tCl (gLen) (lCons (tNm 0) (lNil))) (tIm (.int 1))) (lNil))) (.one 2) (qYes) (tBin (gLtD) (tBin gIx (tNm 0) (tNm 2)) (tBin gIx (tNm 0) (tBin gAdd (tNm 2) (tIm (.int 1))))) [2]) (lNil))))
theorem ok_is_set {k : Nat} {F : TF} (Ds : DefAt K mg "is_set" st_is_set ["value"]) (z_tuple : mg "tuple" = none) (z_isinstance : mg "isinstance" = none) (z_all : mg "all" = none) (z_range : mg "range" = none) (z_len : mg "len" = none) {F_is_scope : TF} {k_is_scope : Nat} (D_is_scope : DefAt K mg "is_scope" st_is_scope ["value"]) (G_is_scope : FnD Pg w K mg base D_is_scope k_is_scope F_is_scope) (h_is_scope : k_is_scope ≤ k)
    (hB : Body F 3 1 (t_is_set F_is_scope)) : FnD Pg w K mg base Ds (k + 1) F := by
  refine fn_ok Ds.fu sc_is_set hB fun cdv A outer s H E c hr => ?_
  have nd := sc_is_set.nd
  exact ds_cons (ds_if (dw_pt (dw_or (dt_not (dt_tru (de_callB (isi_ok) (by rfl) z_isinstance (by decide +kernel) (da_cons (de_var 0) (da_cons (de_bltn (v := .ty "tuple") (by rfl) z_tuple (by decide +kernel) rfl) (da_nil)))))) (dw_or1 (dt_not (dt_tru (de_callB (all_ok rfl) (by rfl) z_all (by decide +kernel) (da_cons (de_lc (own := [("one", 1)]) (bd := .one 1) rfl nd (di_seq (de_var 0)) (by kernel_rfl) (fun _ _ _ _ _ => pg_name (i := 1) nd rfl (by first | exact Or.inl rfl | exact Or.inr rfl)) (fun _ _ _ _ _ => dq_nil) (fun _ _ _ _ _ => de_call G_is_scope (hr.mono h_is_scope) (by rfl) D_is_scope.mg D_is_scope.fu.kp D_is_scope.bd (da_cons (de_var 1) (da_nil)))) (da_nil)))))))) (ds_one (ds_ret (de_bl))) (ds_nil))
    (ds_one (ds_ret (de_callB (all_ok rfl) (by rfl) z_all (by decide +kernel) (da_cons (de_lc (own := [("k", 2)]) (bd := .one 2) rfl nd (di_rng1 (by rfl) z_range (da_cons (de_op sub_ok (de_callB (len_ok) (by rfl) z_len (by decide +kernel) (da_cons (de_var 0) (da_nil))) (de_int)) (da_nil))) (by kernel_rfl) (fun _ _ _ _ _ => pg_name (i := 2) nd rfl (by first | exact Or.inl rfl | exact Or.inr rfl)) (fun _ _ _ _ _ => dq_nil) (fun _ _ _ _ _ => de_cmp (ltD_ok (hu64 hr)) (de_ix (hu1 hr) (de_var 0) (de_var 2)) (de_ix (hu1 hr) (de_var 0) (de_op add_ok (de_var 2) (de_int))))) (da_nil)))))

/-! ### _law_tape -/
abbrev st__law_tape : Stmt := topS 23
theorem sc__law_tape : FnScope ["script", "cells", "cell", "seed"] ["script"] (defScope st__law_tape) := ⟨rfl, rfl, rfl, by decide +kernel, rfl, by decide +kernel, by decide +kernel⟩
def b__law_tape_1 : TSX :=
    sAsg 3 (tBin gMod (tCl (gInt) (lCons (tBin gAdd (tBin gMul (tNm 3) (tIm (.int 31))) (tNm 2)) (lNil))) (tIm (.int 2147483647)))
def t__law_tape : TSX :=
    sSeq (sAsg 1 (tLcX (iSeq (tNm 0)) (.one 2) (qYes) (tCl (gAbs) (lCons (tCl (gInt) (lCons (tNm 2) (lNil))) (lNil))) [2]))
    (sSeq (sAsg 3 (tIm (.int 7)))
    (sSeq (sFor (iSeq (tNm 1)) (.one 2) (b__law_tape_1))
    (sRet (tDspK (lCons (tIm (.str "cells")) (lCons (tNm 1) (lCons (tIm (.str "at")) (lCons (tIm (.int 0)) (lCons (tIm (.str "left")) (lCons (tIm (.int 0)) (lCons (tIm (.str "seed")) (lCons (tNm 3) (lCons (tIm (.str "salt")) (lCons (tIm (.int 0)) (lNil)))))))))))))))
theorem ok__law_tape {k : Nat} {F : TF} (Ds : DefAt K mg "_law_tape" st__law_tape ["script"]) (z_int : mg "int" = none) (z_abs : mg "abs" = none)
    (hB : Body F 4 1 (t__law_tape)) : FnD Pg w K mg base Ds (k + 1) F := by
  refine fn_ok Ds.fu sc__law_tape hB fun cdv A outer s H E c hr => ?_
  have nd := sc__law_tape.nd
  exact ds_cons (ds_setLc (i := 1) (own := [("cell", 2)]) (bd := .one 2) rfl nd (sw_true rfl rfl rfl (by decide +kernel)) (di_seq (de_var 0)) (by kernel_rfl) (fun _ _ _ _ _ => pg_name (i := 2) nd rfl (by first | exact Or.inl rfl | exact Or.inr rfl)) (fun _ _ _ _ _ => dq_nil) (fun _ _ _ _ _ => de_callB (abs_ok) (by rfl) z_abs (by decide +kernel) (da_cons (de_callT (int_ok) (by rfl) z_int (by decide +kernel) (da_cons (de_var 2) (da_nil))) (da_nil))))
    (ds_cons (ds_set (i := 3) nd (de_int))
    (ds_cons (ds_for (bd := .one 2) PassesOwn.never rfl (di_seq (de_var 1)) (pg_name (i := 2) nd rfl (by first | exact Or.inl rfl | exact Or.inr rfl)) (ds_one (ds_set (i := 3) nd (de_op mod_ok (de_callT (int_ok) (by rfl) z_int (by decide +kernel) (da_cons (de_op add_ok (de_op mul_ok (de_var 3) (de_int)) (de_var 2)) (da_nil))) (de_int)))))
    (ds_one (ds_ret (de_dspK (dps_cons (de_str) (de_var 1) (dps_cons (de_str) (de_int) (dps_cons (de_str) (de_int) (dps_cons (de_str) (de_var 3) (dps_cons (de_str) (de_int) (dps_nil)))))))))))

/-! ### _law_take -/
abbrev st__law_take : Stmt := topS 24
theorem sc__law_take : FnScope ["tape", "many", "drawn", "mixed"] ["tape", "many"] (defScope st__law_take) := ⟨rfl, rfl, rfl, by decide +kernel, rfl, by decide +kernel, by decide +kernel⟩
def t__law_take : TSX :=
    sSeq (sIf (tAndQ (tTst (tBin (gEqs2 false) (tBin gIx (tNm 0) (tIm (.str "left"))) (tIm (.int 0)))) (tTst (tBin (gLt) (tBin gIx (tNm 0) (tIm (.str "at"))) (tCl (gLen) (lCons (tBin gIx (tNm 0) (tIm (.str "cells"))) (lNil)))))) (sSeq (sSetI 0 (tIm (.str "left")) (tBin gIx (tBin gIx (tNm 0) (tIm (.str "cells"))) (tBin gIx (tNm 0) (tIm (.str "at")))))
    (sSetI 0 (tIm (.str "at")) (tBin gAdd (tBin gIx (tNm 0) (tIm (.str "at"))) (tIm (.int 1))))) (sNil))
    (sSeq (sIf (tTst (tBin (gGt) (tBin gIx (tNm 0) (tIm (.str "left"))) (tIm (.int 0)))) (sSeq (sAsg 2 (tBin gMod (tCl (gInt) (lCons (tBin gIx (tNm 0) (tIm (.str "left"))) (lNil))) (tNm 1)))
    (sSeq (sSetI 0 (tIm (.str "left")) (tBin gDiv (tBin gIx (tNm 0) (tIm (.str "left"))) (tNm 1)))
    (sRet (tNm 2)))) (sNil))
    (sSeq (sSetI 0 (tIm (.str "salt")) (tBin gAdd (tBin gIx (tNm 0) (tIm (.str "salt"))) (tIm (.int 1))))
    (sSeq (sAsg 3 (tBin gMod (tCl (gInt) (lCons (tBin gAdd (tBin gMul (tBin gIx (tNm 0) (tIm (.str "seed"))) (tIm (.int 48271))) (tBin gMul (tBin gIx (tNm 0) (tIm (.str "salt"))) (tIm (.int 69621)))) (lNil))) (tIm (.int 2147483647))))
    (sSeq (sAsg 3 (tBin gMod (tCl (gInt) (lCons (tBin gAdd (tBin gAdd (tBin gMul (tNm 3) (tNm 3)) (tBin gMul (tBin gIx (tNm 0) (tIm (.str "salt"))) (tIm (.int 40692)))) (tIm (.int 12345))) (lNil))) (tIm (.int 2147483399))))
    (sRet (tBin gMod (tCl (gInt) (lCons (tNm 3) (lNil))) (tNm 1)))))))
theorem ok__law_take {k : Nat} {F : TF} (Ds : DefAt K mg "_law_take" st__law_take ["tape", "many"]) (z_len : mg "len" = none) (z_int : mg "int" = none)
    (hB : Body F 4 2 (t__law_take)) : FnD Pg w K mg base Ds (k + 1) F := by
  refine fn_ok Ds.fu sc__law_take hB fun cdv A outer s H E c hr => ?_
  have nd := sc__law_take.nd
  exact ds_cons (ds_if (dw_pt (dw_and (dt_cmp (eq2_ok (hu64 hr)) (de_ix (hu1 hr) (de_var 0) (de_str)) (de_int)) (dw_and1 (dt_cmp (lt_ok) (de_ix (hu1 hr) (de_var 0) (de_str)) (de_callB (len_ok) (by rfl) z_len (by decide +kernel) (da_cons (de_ix (hu1 hr) (de_var 0) (de_str)) (da_nil))))))) (ds_cons (ds_setI 0 (hu1 hr) (de_ix (hu1 hr) (de_ix (hu1 hr) (de_var 0) (de_str)) (de_ix (hu1 hr) (de_var 0) (de_str))) (de_str))
    (ds_one (ds_setI 0 (hu1 hr) (de_op add_ok (de_ix (hu1 hr) (de_var 0) (de_str)) (de_int)) (de_str)))) (ds_nil))
    (ds_cons (ds_if (dt_cmp (gt_ok) (de_ix (hu1 hr) (de_var 0) (de_str)) (de_int)) (ds_cons (ds_set (i := 2) nd (de_op mod_ok (de_callT (int_ok) (by rfl) z_int (by decide +kernel) (da_cons (de_ix (hu1 hr) (de_var 0) (de_str)) (da_nil))) (de_var 1)))
    (ds_cons (ds_setI 0 (hu1 hr) (de_op div_ok (de_ix (hu1 hr) (de_var 0) (de_str)) (de_var 1)) (de_str))
    (ds_one (ds_ret (de_var 2))))) (ds_nil))
    (ds_cons (ds_setI 0 (hu1 hr) (de_op add_ok (de_ix (hu1 hr) (de_var 0) (de_str)) (de_int)) (de_str))
    (ds_cons (ds_set (i := 3) nd (de_op mod_ok (de_callT (int_ok) (by rfl) z_int (by decide +kernel) (da_cons (de_op add_ok (de_op mul_ok (de_ix (hu1 hr) (de_var 0) (de_str)) (de_int)) (de_op mul_ok (de_ix (hu1 hr) (de_var 0) (de_str)) (de_int))) (da_nil))) (de_int)))
    (ds_cons (ds_set (i := 3) nd (de_op mod_ok (de_callT (int_ok) (by rfl) z_int (by decide +kernel) (da_cons (de_op add_ok (de_op add_ok (de_op mul_ok (de_var 3) (de_var 3)) (de_op mul_ok (de_ix (hu1 hr) (de_var 0) (de_str)) (de_int))) (de_int)) (da_nil))) (de_int)))
    (ds_one (ds_ret (de_op mod_ok (de_callT (int_ok) (by rfl) z_int (by decide +kernel) (da_cons (de_var 3) (da_nil))) (de_var 1))))))))

/-! ### _law_is_integer -/
abbrev st__law_is_integer : Stmt := topS 25
theorem sc__law_is_integer : FnScope ["actual"] ["actual"] (defScope st__law_is_integer) := ⟨rfl, rfl, rfl, by decide +kernel, rfl, by decide +kernel, by decide +kernel⟩
def t__law_is_integer : TSX :=
    sRet (tAndX (tCl (gIsi) (lCons (tNm 0) (lCons (tIm (.raw (.ty "int"))) (lNil)))) (tNotX (tCl (gIsi) (lCons (tNm 0) (lCons (tIm (.raw (.ty "bool"))) (lNil))))))
theorem ok__law_is_integer {k : Nat} {F : TF} (Ds : DefAt K mg "_law_is_integer" st__law_is_integer ["actual"]) (z_int : mg "int" = none) (z_isinstance : mg "isinstance" = none) (z_bool : mg "bool" = none)
    (hB : Body F 1 1 (t__law_is_integer)) : FnD Pg w K mg base Ds (k + 1) F := by
  refine fn_ok Ds.fu sc__law_is_integer hB fun cdv A outer s H E c hr => ?_
  have nd := sc__law_is_integer.nd
  exact ds_one (ds_ret (de_and (de_callB (isi_ok) (by rfl) z_isinstance (by decide +kernel) (da_cons (de_var 0) (da_cons (de_bltn (v := .ty "int") (by rfl) z_int (by decide +kernel) rfl) (da_nil)))) (de_one (de_not (de_callB (isi_ok) (by rfl) z_isinstance (by decide +kernel) (da_cons (de_var 0) (da_cons (de_bltn (v := .ty "bool") (by rfl) z_bool (by decide +kernel) rfl) (da_nil))))))))

/-! ### _law_same_items -/
abbrev st__law_same_items : Stmt := topS 26
theorem sc__law_same_items : FnScope ["actual", "expected", "k"] ["actual", "expected"] (defScope st__law_same_items) := ⟨rfl, rfl, rfl, by decide +kernel, rfl, by decide +kernel, by decide +kernel⟩
def b__law_same_items_1 (F__law_same : TF) : TSX :=
    sIf (tNotQ (tTru (tCall F__law_same 2 (lCons (tBin gIx (tNm 0) (tNm 2)) (lCons (tBin gIx (tNm 1) (tNm 2)) (lNil)))))) (sRet (tIm (.bl false))) (sNil)
def t__law_same_items (F__law_same : TF) : TSX :=
    sSeq (sIf (tTst (tBin (gEqs true) (tCl (gLen) (lCons (tNm 0) (lNil))) (tCl (gLen) (lCons (tNm 1) (lNil))))) (sRet (tIm (.bl false))) (sNil))
    (sSeq (sFor (iRg1 (lCons (tCl (gLen) (lCons (tNm 1) (lNil))) (lNil))) (.one 2) (b__law_same_items_1 F__law_same))
    (sRet (tIm (.bl true))))
theorem ok__law_same_items {k : Nat} {F : TF} (Ds : DefAt K mg "_law_same_items" st__law_same_items ["actual", "expected"]) (z_len : mg "len" = none) (z_range : mg "range" = none) {F__law_same : TF} {k__law_same : Nat} (D__law_same : DefAt K mg "_law_same" st__law_same ["actual", "expected"]) (G__law_same : FnD Pg w K mg base D__law_same k__law_same F__law_same) (h__law_same : k__law_same ≤ k)
    (hB : Body F 3 2 (t__law_same_items F__law_same)) : FnD Pg w K mg base Ds (k + 1) F := by
  refine fn_ok Ds.fu sc__law_same_items hB fun cdv A outer s H E c hr => ?_
  have nd := sc__law_same_items.nd
  exact ds_cons (ds_if (dt_cmp (ne_ok (hu64 hr)) (de_callB (len_ok) (by rfl) z_len (by decide +kernel) (da_cons (de_var 0) (da_nil))) (de_callB (len_ok) (by rfl) z_len (by decide +kernel) (da_cons (de_var 1) (da_nil)))) (ds_one (ds_ret (de_bl))) (ds_nil))
    (ds_cons (ds_for (bd := .one 2) PassesOwn.never rfl (di_rng1 (by rfl) z_range (da_cons (de_callB (len_ok) (by rfl) z_len (by decide +kernel) (da_cons (de_var 1) (da_nil))) (da_nil))) (pg_name (i := 2) nd rfl (by first | exact Or.inl rfl | exact Or.inr rfl)) (ds_one (ds_if (dt_not (dt_tru (de_call G__law_same (hr.mono h__law_same) (by rfl) D__law_same.mg D__law_same.fu.kp D__law_same.bd (da_cons (de_ix (hu1 hr) (de_var 0) (de_var 2)) (da_cons (de_ix (hu1 hr) (de_var 1) (de_var 2)) (da_nil)))))) (ds_one (ds_ret (de_bl))) (ds_nil))))
    (ds_one (ds_ret (de_bl))))

/-! ### _law_same -/
abbrev st__law_same : Stmt := topS 27
theorem sc__law_same : FnScope ["actual", "expected", "key"] ["actual", "expected"] (defScope st__law_same) := ⟨rfl, rfl, rfl, by decide +kernel, rfl, by decide +kernel, by decide +kernel⟩
def b__law_same_1 (F__law_is_integer : TF) (F__law_same_items : TF) (F__law_same : TF) : TSX :=
    sIf (tOrQ (tTst (tBin (gIns true) (tNm 2) (tNm 0))) (tNotQ (tTru (tCall F__law_same 2 (lCons (tBin gIx (tNm 0) (tNm 2)) (lCons (tBin gIx (tNm 1) (tNm 2)) (lNil))))))) (sRet (tIm (.bl false))) (sNil)
def b__law_same_2 (F__law_is_integer : TF) (F__law_same_items : TF) (F__law_same : TF) : TSX :=
    sIf (tTru (tCl (gIsi) (lCons (tNm 2) (lCons (tIm (.raw (.ty "bool"))) (lNil))))) (sRet (tIm (.bl false))) (sNil)
def t__law_same (F__law_is_integer : TF) (F__law_same_items : TF) (F__law_same : TF) : TSX :=
    sSeq (sIf (tTst (tBin (gIs false) (tNm 1) (tIm .non))) (sRet (tBin (gIs false) (tNm 0) (tIm .non))) (sNil))
    (sSeq (sIf (tTru (tCl (gIsi) (lCons (tNm 1) (lCons (tIm (.raw (.ty "bool"))) (lNil))))) (sRet (tAndX (tCl (gIsi) (lCons (tNm 0) (lCons (tIm (.raw (.ty "bool"))) (lNil)))) (tBin (gEqs2 false) (tNm 0) (tNm 1)))) (sNil))
    (sSeq (sIf (tTru (tCl (gIsi) (lCons (tNm 1) (lCons (tIm (.raw (.ty "int"))) (lNil))))) (sRet (tAndX (tCall F__law_is_integer 1 (lCons (tNm 0) (lNil))) (tBin (gEqs2 false) (tNm 0) (tNm 1)))) (sNil))
    (sSeq (sIf (tTru (tCl (gIsi) (lCons (tNm 1) (lCons (tIm (.raw (.ty "str"))) (lNil))))) (sRet (tAndX (tCl (gIsi) (lCons (tNm 0) (lCons (tIm (.raw (.ty "str"))) (lNil)))) (tBin (gEqs2 false) (tNm 0) (tNm 1)))) (sNil))
    (sSeq (sIf (tTru (tCl (gIsi) (lCons (tNm 1) (lCons (tIm (.raw (.ty "tuple"))) (lNil))))) (sRet (tAndX (tCl (gIsi) (lCons (tNm 0) (lCons (tIm (.raw (.ty "tuple"))) (lNil)))) (tCall F__law_same_items 2 (lCons (tNm 0) (lCons (tNm 1) (lNil)))))) (sNil))
    (sSeq (sIf (tTru (tCl (gIsi) (lCons (tNm 1) (lCons (tIm (.raw (.ty "list"))) (lNil))))) (sRet (tAndX (tCl (gIsi) (lCons (tNm 0) (lCons (tIm (.raw (.ty "list"))) (lNil)))) (tCall F__law_same_items 2 (lCons (tNm 0) (lCons (tNm 1) (lNil)))))) (sNil))
    (sSeq (sIf (tOrQ (tNotQ (tTru (tCl (gIsi) (lCons (tNm 0) (lCons (tIm (.raw (.ty "dict"))) (lNil)))))) (tTst (tBin (gEqs true) (tCl (gLen) (lCons (tNm 0) (lNil))) (tCl (gLen) (lCons (tNm 1) (lNil)))))) (sRet (tIm (.bl false))) (sNil))
    (sSeq (sFor (iSeq (tNm 1)) (.one 2) (b__law_same_1 F__law_is_integer F__law_same_items F__law_same))
    (sSeq (sFor (iSeq (tNm 0)) (.one 2) (b__law_same_2 F__law_is_integer F__law_same_items F__law_same))
    (sRet (tIm (.bl true)))))))))))
theorem ok__law_same {k : Nat} {F : TF} (Ds : DefAt K mg "_law_same" st__law_same ["actual", "expected"]) (z_bool : mg "bool" = none) (z_isinstance : mg "isinstance" = none) (z_int : mg "int" = none) (z_str : mg "str" = none) (z_tuple : mg "tuple" = none) (z_list : mg "list" = none) (z_dict : mg "dict" = none) (z_len : mg "len" = none) {F__law_is_integer : TF} {k__law_is_integer : Nat} (D__law_is_integer : DefAt K mg "_law_is_integer" st__law_is_integer ["actual"]) (G__law_is_integer : FnD Pg w K mg base D__law_is_integer k__law_is_integer F__law_is_integer) (h__law_is_integer : k__law_is_integer ≤ k) {F__law_same_items : TF} {k__law_same_items : Nat} (D__law_same_items : DefAt K mg "_law_same_items" st__law_same_items ["actual", "expected"]) (G__law_same_items : FnD Pg w K mg base D__law_same_items k__law_same_items F__law_same_items) (h__law_same_items : k__law_same_items ≤ k) {F__law_same : TF} {k__law_same : Nat} (G__law_same : FnD Pg w K mg base Ds k__law_same F__law_same) (h__law_same : k__law_same ≤ k)
    (hB : Body F 3 2 (t__law_same F__law_is_integer F__law_same_items F__law_same)) : FnD Pg w K mg base Ds (k + 1) F := by
  refine fn_ok Ds.fu sc__law_same hB fun cdv A outer s H E c hr => ?_
  have nd := sc__law_same.nd
  exact ds_cons (ds_if (dt_cmp (is_ok) (de_var 1) (de_non)) (ds_one (ds_ret (de_cmp (is_ok) (de_var 0) (de_non)))) (ds_nil))
    (ds_cons (ds_if (dt_tru (de_callB (isi_ok) (by rfl) z_isinstance (by decide +kernel) (da_cons (de_var 1) (da_cons (de_bltn (v := .ty "bool") (by rfl) z_bool (by decide +kernel) rfl) (da_nil))))) (ds_one (ds_ret (de_and (de_callB (isi_ok) (by rfl) z_isinstance (by decide +kernel) (da_cons (de_var 0) (da_cons (de_bltn (v := .ty "bool") (by rfl) z_bool (by decide +kernel) rfl) (da_nil)))) (de_one (de_cmp (eq2_ok (hu64 hr)) (de_var 0) (de_var 1)))))) (ds_nil))
    (ds_cons (ds_if (dt_tru (de_callB (isi_ok) (by rfl) z_isinstance (by decide +kernel) (da_cons (de_var 1) (da_cons (de_bltn (v := .ty "int") (by rfl) z_int (by decide +kernel) rfl) (da_nil))))) (ds_one (ds_ret (de_and (de_call G__law_is_integer (hr.mono h__law_is_integer) (by rfl) D__law_is_integer.mg D__law_is_integer.fu.kp D__law_is_integer.bd (da_cons (de_var 0) (da_nil))) (de_one (de_cmp (eq2_ok (hu64 hr)) (de_var 0) (de_var 1)))))) (ds_nil))
    (ds_cons (ds_if (dt_tru (de_callB (isi_ok) (by rfl) z_isinstance (by decide +kernel) (da_cons (de_var 1) (da_cons (de_bltn (v := .ty "str") (by rfl) z_str (by decide +kernel) rfl) (da_nil))))) (ds_one (ds_ret (de_and (de_callB (isi_ok) (by rfl) z_isinstance (by decide +kernel) (da_cons (de_var 0) (da_cons (de_bltn (v := .ty "str") (by rfl) z_str (by decide +kernel) rfl) (da_nil)))) (de_one (de_cmp (eq2_ok (hu64 hr)) (de_var 0) (de_var 1)))))) (ds_nil))
    (ds_cons (ds_if (dt_tru (de_callB (isi_ok) (by rfl) z_isinstance (by decide +kernel) (da_cons (de_var 1) (da_cons (de_bltn (v := .ty "tuple") (by rfl) z_tuple (by decide +kernel) rfl) (da_nil))))) (ds_one (ds_ret (de_and (de_callB (isi_ok) (by rfl) z_isinstance (by decide +kernel) (da_cons (de_var 0) (da_cons (de_bltn (v := .ty "tuple") (by rfl) z_tuple (by decide +kernel) rfl) (da_nil)))) (de_one (de_call G__law_same_items (hr.mono h__law_same_items) (by rfl) D__law_same_items.mg D__law_same_items.fu.kp D__law_same_items.bd (da_cons (de_var 0) (da_cons (de_var 1) (da_nil)))))))) (ds_nil))
    (ds_cons (ds_if (dt_tru (de_callB (isi_ok) (by rfl) z_isinstance (by decide +kernel) (da_cons (de_var 1) (da_cons (de_bltn (v := .ty "list") (by rfl) z_list (by decide +kernel) rfl) (da_nil))))) (ds_one (ds_ret (de_and (de_callB (isi_ok) (by rfl) z_isinstance (by decide +kernel) (da_cons (de_var 0) (da_cons (de_bltn (v := .ty "list") (by rfl) z_list (by decide +kernel) rfl) (da_nil)))) (de_one (de_call G__law_same_items (hr.mono h__law_same_items) (by rfl) D__law_same_items.mg D__law_same_items.fu.kp D__law_same_items.bd (da_cons (de_var 0) (da_cons (de_var 1) (da_nil)))))))) (ds_nil))
    (ds_cons (ds_if (dw_pt (dw_or (dt_not (dt_tru (de_callB (isi_ok) (by rfl) z_isinstance (by decide +kernel) (da_cons (de_var 0) (da_cons (de_bltn (v := .ty "dict") (by rfl) z_dict (by decide +kernel) rfl) (da_nil)))))) (dw_or1 (dt_cmp (ne_ok (hu64 hr)) (de_callB (len_ok) (by rfl) z_len (by decide +kernel) (da_cons (de_var 0) (da_nil))) (de_callB (len_ok) (by rfl) z_len (by decide +kernel) (da_cons (de_var 1) (da_nil))))))) (ds_one (ds_ret (de_bl))) (ds_nil))
    (ds_cons (ds_for (bd := .one 2) PassesOwn.never rfl (di_seq (de_var 1)) (pg_name (i := 2) nd rfl (by first | exact Or.inl rfl | exact Or.inr rfl)) (ds_one (ds_if (dw_pt (dw_or (dt_cmp (notin_ok (hu65 hr)) (de_var 2) (de_var 0)) (dw_or1 (dt_not (dt_tru (de_call G__law_same (hr.mono h__law_same) (by rfl) Ds.mg Ds.fu.kp Ds.bd (da_cons (de_ix (hu1 hr) (de_var 0) (de_var 2)) (da_cons (de_ix (hu1 hr) (de_var 1) (de_var 2)) (da_nil))))))))) (ds_one (ds_ret (de_bl))) (ds_nil))))
    (ds_cons (ds_for (bd := .one 2) PassesOwn.never rfl (di_seq (de_var 0)) (pg_name (i := 2) nd rfl (by first | exact Or.inl rfl | exact Or.inr rfl)) (ds_one (ds_if (dt_tru (de_callB (isi_ok) (by rfl) z_isinstance (by decide +kernel) (da_cons (de_var 2) (da_cons (de_bltn (v := .ty "bool") (by rfl) z_bool (by decide +kernel) rfl) (da_nil))))) (ds_one (ds_ret (de_bl))) (ds_nil))))
    (ds_one (ds_ret (de_bl)))))))))))

/-! ### _law_datum -/
abbrev st__law_datum : Stmt := topS 28
theorem sc__law_datum : FnScope ["tape", "count", "level", "place", "choice", "many", "k", "kinds"] ["tape", "count", "level"] (defScope st__law_datum) := ⟨rfl, rfl, rfl, by decide +kernel, rfl, by decide +kernel, by decide +kernel⟩
def t__law_datum (F__law_take : TF) (F__law_datum : TF) : TSX :=
    sSeq (sAsg 3 (tBin gIx (tNm 1) (tIm (.str "n"))))
    (sSeq (sSetI 1 (tIm (.str "n")) (tBin gAdd (tNm 3) (tIm (.int 1))))
    (sSeq (sAsg 4 (tCall F__law_take 2 (lCons (tNm 0) (lCons (tIm (.int 9)) (lNil)))))
    (sSeq (sIf (tAndQ (tTst (tBin (gLt) (tNm 4) (tIm (.int 4)))) (tTst (tBin (gLt) (tNm 2) (tIm (.int 6))))) (sSeq (sAsg 5 (tCall F__law_take 2 (lCons (tNm 0) (lCons (tIm (.int 5)) (lNil)))))
    (sRet (tTp (lCons (tIm (.str "list")) (lCons (tCl (gTuple) (lCons (tLcX (iRg1 (lCons (tNm 5) (lNil))) (.one 6) (qYes) (tCall F__law_datum 3 (lCons (tNm 0) (lCons (tNm 1) (lCons (tBin gAdd (tNm 2) (tIm (.int 1))) (lNil))))) [6]) (lNil))) (lCons (tNm 3) (lNil))))))) (sNil))
    (sSeq (sIf (tTst (tBin (gLt) (tNm 4) (tIm (.int 7)))) (sRet (tTp (lCons (tIm (.str "name")) (lCons (tBin gIx (tLs (lCons (tIm (.str "x")) (lCons (tIm (.str "y")) (lCons (tIm (.str "if")) (lCons (tIm (.str "a-b")) (lNil)))))) (tCall F__law_take 2 (lCons (tNm 0) (lCons (tIm (.int 4)) (lNil))))) (lCons (tNm 3) (lNil)))))) (sNil))
    (sSeq (sAsg 7 (tLs (lCons (tTp (lCons (tIm (.str "number")) (lCons (tNeg (tIm (.int 3))) (lNil)))) (lCons (tTp (lCons (tIm (.str "flag")) (lCons (tIm (.bl false)) (lNil)))) (lCons (tTp (lCons (tIm (.str "text")) (lCons (tIm (.str "x y")) (lNil)))) (lCons (tTp (lCons (tIm (.str "dots")) (lCons (tIm .non) (lNil)))) (lCons (tTp (lCons (tIm (.str "wild")) (lCons (tIm .non) (lNil)))) (lCons (tTp (lCons (tIm (.str "number")) (lCons (tIm (.int 0)) (lNil)))) (lNil)))))))))
    (sRet (tBin gAdd (tBin gIx (tNm 7) (tCall F__law_take 2 (lCons (tNm 0) (lCons (tIm (.int 6)) (lNil))))) (tTp (lCons (tNm 3) (lNil))))))))))
theorem ok__law_datum {k : Nat} {F : TF} (Ds : DefAt K mg "_law_datum" st__law_datum ["tape", "count", "level"]) (z_range : mg "range" = none) (z_tuple : mg "tuple" = none) {F__law_take : TF} {k__law_take : Nat} (D__law_take : DefAt K mg "_law_take" st__law_take ["tape", "many"]) (G__law_take : FnD Pg w K mg base D__law_take k__law_take F__law_take) (h__law_take : k__law_take ≤ k) {F__law_datum : TF} {k__law_datum : Nat} (G__law_datum : FnD Pg w K mg base Ds k__law_datum F__law_datum) (h__law_datum : k__law_datum ≤ k)
    (hB : Body F 8 3 (t__law_datum F__law_take F__law_datum)) : FnD Pg w K mg base Ds (k + 1) F := by
  refine fn_ok Ds.fu sc__law_datum hB fun cdv A outer s H E c hr => ?_
  have nd := sc__law_datum.nd
  exact ds_cons (ds_set (i := 3) nd (de_ix (hu1 hr) (de_var 1) (de_str)))
    (ds_cons (ds_setI 1 (hu1 hr) (de_op add_ok (de_var 3) (de_int)) (de_str))
    (ds_cons (ds_set (i := 4) nd (de_call G__law_take (hr.mono h__law_take) (by rfl) D__law_take.mg D__law_take.fu.kp D__law_take.bd (da_cons (de_var 0) (da_cons (de_int) (da_nil)))))
    (ds_cons (ds_if (dw_pt (dw_and (dt_cmp (lt_ok) (de_var 4) (de_int)) (dw_and1 (dt_cmp (lt_ok) (de_var 2) (de_int))))) (ds_cons (ds_set (i := 5) nd (de_call G__law_take (hr.mono h__law_take) (by rfl) D__law_take.mg D__law_take.fu.kp D__law_take.bd (da_cons (de_var 0) (da_cons (de_int) (da_nil)))))
    (ds_one (ds_ret (de_tup (da_cons (de_str) (da_cons (de_callT (tuple_ok) (by rfl) z_tuple (by decide +kernel) (da_cons (de_lc (own := [("k", 6)]) (bd := .one 6) rfl nd (di_rng1 (by rfl) z_range (da_cons (de_var 5) (da_nil))) (by kernel_rfl) (fun _ _ _ _ _ => pg_name (i := 6) nd rfl (by first | exact Or.inl rfl | exact Or.inr rfl)) (fun _ _ _ _ _ => dq_nil) (fun _ _ _ _ _ => de_call G__law_datum (hr.mono h__law_datum) (by rfl) Ds.mg Ds.fu.kp Ds.bd (da_cons (de_var 0) (da_cons (de_var 1) (da_cons (de_op add_ok (de_var 2) (de_int)) (da_nil)))))) (da_nil))) (da_cons (de_var 3) (da_nil)))))))) (ds_nil))
    (ds_cons (ds_if (dt_cmp (lt_ok) (de_var 4) (de_int)) (ds_one (ds_ret (de_tup (da_cons (de_str) (da_cons (de_ix (hu1 hr) (de_lst (da_cons (de_str) (da_cons (de_str) (da_cons (de_str) (da_cons (de_str) (da_nil)))))) (de_call G__law_take (hr.mono h__law_take) (by rfl) D__law_take.mg D__law_take.fu.kp D__law_take.bd (da_cons (de_var 0) (da_cons (de_int) (da_nil))))) (da_cons (de_var 3) (da_nil))))))) (ds_nil))
    (ds_cons (ds_set (i := 7) nd (de_lst (da_cons (de_tup (da_cons (de_str) (da_cons (de_neg (de_int)) (da_nil)))) (da_cons (de_tup (da_cons (de_str) (da_cons (de_bl) (da_nil)))) (da_cons (de_tup (da_cons (de_str) (da_cons (de_str) (da_nil)))) (da_cons (de_tup (da_cons (de_str) (da_cons (de_non) (da_nil)))) (da_cons (de_tup (da_cons (de_str) (da_cons (de_non) (da_nil)))) (da_cons (de_tup (da_cons (de_str) (da_cons (de_int) (da_nil)))) (da_nil)))))))))
    (ds_one (ds_ret (de_op add_ok (de_ix (hu1 hr) (de_var 7) (de_call G__law_take (hr.mono h__law_take) (by rfl) D__law_take.mg D__law_take.fu.kp D__law_take.bd (da_cons (de_var 0) (da_cons (de_int) (da_nil))))) (de_tup (da_cons (de_var 3) (da_nil)))))))))))

/-! ### _law_scope -/
abbrev st__law_scope : Stmt := topS 29
theorem sc__law_scope : FnScope ["tape"] ["tape"] (defScope st__law_scope) := ⟨rfl, rfl, rfl, by decide +kernel, rfl, by decide +kernel, by decide +kernel⟩
def t__law_scope (F__law_take : TF) : TSX :=
    sRet (tTp (lCons (tBin gIx (tLs (lCons (tIm (.str "m")) (lCons (tIm (.str "a")) (lCons (tIm (.str "zz")) (lNil))))) (tCall F__law_take 2 (lCons (tNm 0) (lCons (tIm (.int 3)) (lNil))))) (lCons (tCall F__law_take 2 (lCons (tNm 0) (lCons (tIm (.int 4)) (lNil)))) (lCons (tCall F__law_take 2 (lCons (tNm 0) (lCons (tIm (.int 3)) (lNil)))) (lNil)))))
theorem ok__law_scope {k : Nat} {F : TF} (Ds : DefAt K mg "_law_scope" st__law_scope ["tape"]) {F__law_take : TF} {k__law_take : Nat} (D__law_take : DefAt K mg "_law_take" st__law_take ["tape", "many"]) (G__law_take : FnD Pg w K mg base D__law_take k__law_take F__law_take) (h__law_take : k__law_take ≤ k)
    (hB : Body F 1 1 (t__law_scope F__law_take)) : FnD Pg w K mg base Ds (k + 1) F := by
  refine fn_ok Ds.fu sc__law_scope hB fun cdv A outer s H E c hr => ?_
  have nd := sc__law_scope.nd
  exact ds_one (ds_ret (de_tup (da_cons (de_ix (hu1 hr) (de_lst (da_cons (de_str) (da_cons (de_str) (da_cons (de_str) (da_nil))))) (de_call G__law_take (hr.mono h__law_take) (by rfl) D__law_take.mg D__law_take.fu.kp D__law_take.bd (da_cons (de_var 0) (da_cons (de_int) (da_nil))))) (da_cons (de_call G__law_take (hr.mono h__law_take) (by rfl) D__law_take.mg D__law_take.fu.kp D__law_take.bd (da_cons (de_var 0) (da_cons (de_int) (da_nil)))) (da_cons (de_call G__law_take (hr.mono h__law_take) (by rfl) D__law_take.mg D__law_take.fu.kp D__law_take.bd (da_cons (de_var 0) (da_cons (de_int) (da_nil)))) (da_nil))))))

/-! ### _law_scopes -/
abbrev st__law_scopes : Stmt := topS 30
theorem sc__law_scopes : FnScope ["tape", "found", "k", "scope"] ["tape"] (defScope st__law_scopes) := ⟨rfl, rfl, rfl, by decide +kernel, rfl, by decide +kernel, by decide +kernel⟩
def b__law_scopes_1 (F__law_take : TF) (F__law_scope : TF) : TSX :=
    sSeq (sAsg 3 (tCall F__law_scope 1 (lCons (tNm 0) (lNil))))
    (sIf (tTst (tBin (gIns true) (tNm 3) (tNm 1))) (sDrop (tMt gApp 1 (lCons (tNm 3) (lNil)))) (sNil))
def t__law_scopes (F__law_take : TF) (F__law_scope : TF) : TSX :=
    sSeq (sAsg 1 (tLs (lNil)))
    (sSeq (sFor (iRg1 (lCons (tCall F__law_take 2 (lCons (tNm 0) (lCons (tIm (.int 4)) (lNil)))) (lNil))) (.one 2) (b__law_scopes_1 F__law_take F__law_scope))
    (sRet (tCl (gTuple) (lCons (tCl (gSorted2) (lCons (tNm 1) (lNil))) (lNil)))))
theorem ok__law_scopes {k : Nat} {F : TF} (Ds : DefAt K mg "_law_scopes" st__law_scopes ["tape"]) (z_range : mg "range" = none) (z_sorted : mg "sorted" = none) (z_tuple : mg "tuple" = none) {F__law_take : TF} {k__law_take : Nat} (D__law_take : DefAt K mg "_law_take" st__law_take ["tape", "many"]) (G__law_take : FnD Pg w K mg base D__law_take k__law_take F__law_take) (h__law_take : k__law_take ≤ k) {F__law_scope : TF} {k__law_scope : Nat} (D__law_scope : DefAt K mg "_law_scope" st__law_scope ["tape"]) (G__law_scope : FnD Pg w K mg base D__law_scope k__law_scope F__law_scope) (h__law_scope : k__law_scope ≤ k)
    (hB : Body F 4 1 (t__law_scopes F__law_take F__law_scope)) : FnD Pg w K mg base Ds (k + 1) F := by
  refine fn_ok Ds.fu sc__law_scopes hB fun cdv A outer s H E c hr => ?_
  have nd := sc__law_scopes.nd
  exact ds_cons (ds_set (i := 1) nd (de_lst (da_nil)))
    (ds_cons (ds_for (bd := .one 2) PassesOwn.never rfl (di_rng1 (by rfl) z_range (da_cons (de_call G__law_take (hr.mono h__law_take) (by rfl) D__law_take.mg D__law_take.fu.kp D__law_take.bd (da_cons (de_var 0) (da_cons (de_int) (da_nil)))) (da_nil))) (pg_name (i := 2) nd rfl (by first | exact Or.inl rfl | exact Or.inr rfl)) (ds_cons (ds_set (i := 3) nd (de_call G__law_scope (hr.mono h__law_scope) (by rfl) D__law_scope.mg D__law_scope.fu.kp D__law_scope.bd (da_cons (de_var 0) (da_nil))))
    (ds_one (ds_if (dt_cmp (notin_ok (hu65 hr)) (de_var 3) (de_var 1)) (ds_one (ds_expr (de_mt 1 PySem.F.plainAttrs_list PySem.F.slot_list_append PySem.F.type_list_append app_ok (da_cons (de_var 3) (da_nil))))) (ds_nil)))))
    (ds_one (ds_ret (de_callT (tuple_ok) (by rfl) z_tuple (by decide +kernel) (da_cons (de_callB (sorted2_ok rfl (hu80 hr)) (by rfl) z_sorted (by decide +kernel) (da_cons (de_var 1) (da_nil))) (da_nil))))))

/-! ### _law_syntax -/
abbrev st__law_syntax : Stmt := topS 31
theorem sc__law_syntax : FnScope ["tape", "module", "datum", "kind", "value", "place", "part"] ["tape", "module", "datum"] (defScope st__law_syntax) := ⟨rfl, rfl, rfl, by decide +kernel, rfl, by decide +kernel, by decide +kernel⟩
def t__law_syntax (F__law_scopes : TF) (F__law_syntax : TF) : TSX :=
    sSeq (sUnp (.many [3, 4, 5]) (tNm 2))
    (sSeq (sIf (tTst (tBin (gEqs2 false) (tNm 3) (tIm (.str "name")))) (sRet (tTp (lCons (tIm (.str "id")) (lCons (tNm 4) (lCons (tTp (lCons (tNm 1) (lCons (tNm 5) (lNil)))) (lCons (tCall F__law_scopes 1 (lCons (tNm 0) (lNil))) (lNil))))))) (sNil))
    (sSeq (sIf (tTst (tBin (gEqs2 false) (tNm 3) (tIm (.str "list")))) (sRet (tTp (lCons (tIm (.str "list")) (lCons (tCl (gTuple) (lCons (tLcX (iSeq (tNm 4)) (.one 6) (qYes) (tCall F__law_syntax 3 (lCons (tNm 0) (lCons (tNm 1) (lCons (tNm 6) (lNil))))) [6]) (lNil))) (lCons (tTp (lCons (tNm 1) (lCons (tNm 5) (lNil)))) (lNil)))))) (sNil))
    (sRet (tTp (lCons (tIm (.str "atom")) (lCons (tNm 3) (lCons (tNm 4) (lCons (tTp (lCons (tNm 1) (lCons (tNm 5) (lNil)))) (lNil)))))))))
theorem ok__law_syntax {k : Nat} {F : TF} (Ds : DefAt K mg "_law_syntax" st__law_syntax ["tape", "module", "datum"]) (z_tuple : mg "tuple" = none) {F__law_scopes : TF} {k__law_scopes : Nat} (D__law_scopes : DefAt K mg "_law_scopes" st__law_scopes ["tape"]) (G__law_scopes : FnD Pg w K mg base D__law_scopes k__law_scopes F__law_scopes) (h__law_scopes : k__law_scopes ≤ k) {F__law_syntax : TF} {k__law_syntax : Nat} (G__law_syntax : FnD Pg w K mg base Ds k__law_syntax F__law_syntax) (h__law_syntax : k__law_syntax ≤ k)
    (hB : Body F 7 3 (t__law_syntax F__law_scopes F__law_syntax)) : FnD Pg w K mg base Ds (k + 1) F := by
  refine fn_ok Ds.fu sc__law_syntax hB fun cdv A outer s H E c hr => ?_
  have nd := sc__law_syntax.nd
  exact ds_cons (ds_unp (bd := .many [3, 4, 5]) (de_var 2) (pg_tup rfl (pgs_cons (pg_name (i := 3) nd rfl (by first | exact Or.inl rfl | exact Or.inr rfl)) (pgs_cons (pg_name (i := 4) nd rfl (by first | exact Or.inl rfl | exact Or.inr rfl)) (pgs_cons (pg_name (i := 5) nd rfl (by first | exact Or.inl rfl | exact Or.inr rfl)) (pgs_nil))))))
    (ds_cons (ds_if (dt_cmp (eq2_ok (hu64 hr)) (de_var 3) (de_str)) (ds_one (ds_ret (de_tup (da_cons (de_str) (da_cons (de_var 4) (da_cons (de_tup (da_cons (de_var 1) (da_cons (de_var 5) (da_nil)))) (da_cons (de_call G__law_scopes (hr.mono h__law_scopes) (by rfl) D__law_scopes.mg D__law_scopes.fu.kp D__law_scopes.bd (da_cons (de_var 0) (da_nil))) (da_nil)))))))) (ds_nil))
    (ds_cons (ds_if (dt_cmp (eq2_ok (hu64 hr)) (de_var 3) (de_str)) (ds_one (ds_ret (de_tup (da_cons (de_str) (da_cons (de_callT (tuple_ok) (by rfl) z_tuple (by decide +kernel) (da_cons (de_lc (own := [("part", 6)]) (bd := .one 6) rfl nd (di_seq (de_var 4)) (by kernel_rfl) (fun _ _ _ _ _ => pg_name (i := 6) nd rfl (by first | exact Or.inl rfl | exact Or.inr rfl)) (fun _ _ _ _ _ => dq_nil) (fun _ _ _ _ _ => de_call G__law_syntax (hr.mono h__law_syntax) (by rfl) Ds.mg Ds.fu.kp Ds.bd (da_cons (de_var 0) (da_cons (de_var 1) (da_cons (de_var 6) (da_nil)))))) (da_nil))) (da_cons (de_tup (da_cons (de_var 1) (da_cons (de_var 5) (da_nil)))) (da_nil))))))) (ds_nil))
    (ds_one (ds_ret (de_tup (da_cons (de_str) (da_cons (de_var 3) (da_cons (de_var 4) (da_cons (de_tup (da_cons (de_var 1) (da_cons (de_var 5) (da_nil)))) (da_nil))))))))))

/-! ### _law_mapped -/
abbrev st__law_mapped : Stmt := topS 32
theorem sc__law_mapped : FnScope ["syntax", "change", "part"] ["syntax", "change"] (defScope st__law_mapped) := ⟨rfl, rfl, rfl, by decide +kernel, rfl, by decide +kernel, by decide +kernel⟩
def t__law_mapped (F__law_mapped : TF) (Pv_change : D → Prop) (Fv_change : D → TF) : TSX :=
    sSeq (sIf (tTst (tBin (gEqs2 false) (tBin gIx (tNm 0) (tIm (.int 0))) (tIm (.str "id")))) (sRet (tBin gAdd (tSlc (tNm 0) (pNo) (pSo (tIm (.int 3)))) (tTp (lCons (tCl (gTuple) (lCons (tCl (gSorted2) (lCons (tCallV 1 Pv_change Fv_change 1 (lCons (tCl (gList) (lCons (tBin gIx (tNm 0) (tIm (.int 3))) (lNil))) (lNil))) (lNil))) (lNil))) (lNil))))) (sNil))
    (sSeq (sIf (tTst (tBin (gEqs2 false) (tBin gIx (tNm 0) (tIm (.int 0))) (tIm (.str "list")))) (sRet (tTp (lCons (tIm (.str "list")) (lCons (tCl (gTuple) (lCons (tLcX (iSeq (tBin gIx (tNm 0) (tIm (.int 1)))) (.one 2) (qYes) (tCall F__law_mapped 2 (lCons (tNm 2) (lCons (tNm 1) (lNil)))) [2]) (lNil))) (lCons (tBin gIx (tNm 0) (tIm (.int 2))) (lNil)))))) (sNil))
    (sRet (tNm 0)))
theorem ok__law_mapped {k : Nat} {F : TF} (Ds : DefAt K mg "_law_mapped" st__law_mapped ["syntax", "change"]) (z_list : mg "list" = none) (z_sorted : mg "sorted" = none) (z_tuple : mg "tuple" = none) {F__law_mapped : TF} {k__law_mapped : Nat} (G__law_mapped : FnD Pg w K mg base Ds k__law_mapped F__law_mapped) (h__law_mapped : k__law_mapped ≤ k) {Pv_change : D → Prop} {Fv_change : D → TF} {kv_change : Nat} (V_change : ∀ d, Pv_change d → FnV Pg w K mg base kv_change 1 d (Fv_change d)) (hv_change : kv_change ≤ k)
    (hB : Body F 3 2 (t__law_mapped F__law_mapped Pv_change Fv_change)) : FnD Pg w K mg base Ds (k + 1) F := by
  refine fn_ok Ds.fu sc__law_mapped hB fun cdv A outer s H E c hr => ?_
  have nd := sc__law_mapped.nd
  exact ds_cons (ds_if (dt_cmp (eq2_ok (hu64 hr)) (de_ix (hu1 hr) (de_var 0) (de_int)) (de_str)) (ds_one (ds_ret (de_op add_ok (de_slice (de_var 0) (do_no) (do_so (de_int))) (de_tup (da_cons (de_callT (tuple_ok) (by rfl) z_tuple (by decide +kernel) (da_cons (de_callB (sorted2_ok rfl (hu80 hr)) (by rfl) z_sorted (by decide +kernel) (da_cons (de_callV 1 V_change (hr.mono hv_change) (da_cons (de_callT (list_ok) (by rfl) z_list (by decide +kernel) (da_cons (de_ix (hu1 hr) (de_var 0) (de_int)) (da_nil))) (da_nil))) (da_nil))) (da_nil))) (da_nil)))))) (ds_nil))
    (ds_cons (ds_if (dt_cmp (eq2_ok (hu64 hr)) (de_ix (hu1 hr) (de_var 0) (de_int)) (de_str)) (ds_one (ds_ret (de_tup (da_cons (de_str) (da_cons (de_callT (tuple_ok) (by rfl) z_tuple (by decide +kernel) (da_cons (de_lc (own := [("part", 2)]) (bd := .one 2) rfl nd (di_seq (de_ix (hu1 hr) (de_var 0) (de_int))) (by kernel_rfl) (fun _ _ _ _ _ => pg_name (i := 2) nd rfl (by first | exact Or.inl rfl | exact Or.inr rfl)) (fun _ _ _ _ _ => dq_nil) (fun _ _ _ _ _ => de_call G__law_mapped (hr.mono h__law_mapped) (by rfl) Ds.mg Ds.fu.kp Ds.bd (da_cons (de_var 2) (da_cons (de_var 1) (da_nil))))) (da_nil))) (da_cons (de_ix (hu1 hr) (de_var 0) (de_int)) (da_nil))))))) (ds_nil))
    (ds_one (ds_ret (de_var 0))))

/-! ### _law_turned -/
abbrev st__law_turned : Stmt := topS 33
theorem sc__law_turned : FnScope ["held", "scope", "one"] ["held", "scope"] (defScope st__law_turned) := ⟨rfl, rfl, rfl, by decide +kernel, rfl, by decide +kernel, by decide +kernel⟩
def t__law_turned : TSX :=
    sRet (tIfX (tTst (tBin (gIns false) (tNm 1) (tNm 0))) (tLcX (iSeq (tNm 0)) (.one 2) (tTst (tBin (gEqs true) (tNm 2) (tNm 1))) (tNm 2) [2]) (tBin gAdd (tNm 0) (tLs (lCons (tNm 1) (lNil)))))
theorem ok__law_turned {k : Nat} {F : TF} (Ds : DefAt K mg "_law_turned" st__law_turned ["held", "scope"]) 
    (hB : Body F 3 2 (t__law_turned)) : FnD Pg w K mg base Ds (k + 1) F := by
  refine fn_ok Ds.fu sc__law_turned hB fun cdv A outer s H E c hr => ?_
  have nd := sc__law_turned.nd
  exact ds_one (ds_ret (de_if (dt_cmp (in_ok (hu65 hr)) (de_var 1) (de_var 0)) (de_lc (own := [("one", 2)]) (bd := .one 2) rfl nd (di_seq (de_var 0)) (by kernel_rfl) (fun _ _ _ _ _ => pg_name (i := 2) nd rfl (by first | exact Or.inl rfl | exact Or.inr rfl)) (fun _ _ _ _ _ => dq_one (dt_cmp (ne_ok (hu64 hr)) (de_var 2) (de_var 1))) (fun _ _ _ _ _ => de_var 2)) (de_op add_ok (de_var 0) (de_lst (da_cons (de_var 1) (da_nil))))))

/-! ### _law_flat -/
abbrev st__law_flat : Stmt := topS 34
theorem sc__law_flat : FnScope ["syntax", "found", "part"] ["syntax"] (defScope st__law_flat) := ⟨rfl, rfl, rfl, by decide +kernel, rfl, by decide +kernel, by decide +kernel⟩
def b__law_flat_1 (F__law_flat : TF) : TSX :=
    sAsg 1 (tBin gAdd (tNm 1) (tCall F__law_flat 1 (lCons (tNm 2) (lNil))))
def t__law_flat (F__law_flat : TF) : TSX :=
    sSeq (sIf (tTst (tBin (gEqs true) (tBin gIx (tNm 0) (tIm (.int 0))) (tIm (.str "list")))) (sRet (tLs (lCons (tNm 0) (lNil)))) (sNil))
    (sSeq (sAsg 1 (tLs (lCons (tNm 0) (lNil))))
    (sSeq (sFor (iSeq (tBin gIx (tNm 0) (tIm (.int 1)))) (.one 2) (b__law_flat_1 F__law_flat))
    (sRet (tNm 1))))
theorem ok__law_flat {k : Nat} {F : TF} (Ds : DefAt K mg "_law_flat" st__law_flat ["syntax"]) {F__law_flat : TF} {k__law_flat : Nat} (G__law_flat : FnD Pg w K mg base Ds k__law_flat F__law_flat) (h__law_flat : k__law_flat ≤ k)
    (hB : Body F 3 1 (t__law_flat F__law_flat)) : FnD Pg w K mg base Ds (k + 1) F := by
  refine fn_ok Ds.fu sc__law_flat hB fun cdv A outer s H E c hr => ?_
  have nd := sc__law_flat.nd
  exact ds_cons (ds_if (dt_cmp (ne_ok (hu64 hr)) (de_ix (hu1 hr) (de_var 0) (de_int)) (de_str)) (ds_one (ds_ret (de_lst (da_cons (de_var 0) (da_nil))))) (ds_nil))
    (ds_cons (ds_set (i := 1) nd (de_lst (da_cons (de_var 0) (da_nil))))
    (ds_cons (ds_for (bd := .one 2) PassesOwn.never rfl (di_seq (de_ix (hu1 hr) (de_var 0) (de_int))) (pg_name (i := 2) nd rfl (by first | exact Or.inl rfl | exact Or.inr rfl)) (ds_one (ds_set (i := 1) nd (de_op add_ok (de_var 1) (de_call G__law_flat (hr.mono h__law_flat) (by rfl) Ds.mg Ds.fu.kp Ds.bd (da_cons (de_var 2) (da_nil)))))))
    (ds_one (ds_ret (de_var 1)))))

/-! ### _law_depth -/
abbrev st__law_depth : Stmt := topS 35
theorem sc__law_depth : FnScope ["syntax", "part"] ["syntax"] (defScope st__law_depth) := ⟨rfl, rfl, rfl, by decide +kernel, rfl, by decide +kernel, by decide +kernel⟩
def t__law_depth (F__law_depth : TF) : TSX :=
    sSeq (sIf (tTst (tBin (gEqs true) (tBin gIx (tNm 0) (tIm (.int 0))) (tIm (.str "list")))) (sRet (tIm (.int 0))) (sNil))
    (sRet (tBin gAdd (tIm (.int 1)) (tCl (gMax) (lCons (tBin gAdd (tLcX (iSeq (tBin gIx (tNm 0) (tIm (.int 1)))) (.one 1) (qYes) (tCall F__law_depth 1 (lCons (tNm 1) (lNil))) [1]) (tLs (lCons (tIm (.int 0)) (lNil)))) (lNil)))))
theorem ok__law_depth {k : Nat} {F : TF} (Ds : DefAt K mg "_law_depth" st__law_depth ["syntax"]) (z_max : mg "max" = none) {F__law_depth : TF} {k__law_depth : Nat} (G__law_depth : FnD Pg w K mg base Ds k__law_depth F__law_depth) (h__law_depth : k__law_depth ≤ k)
    (hB : Body F 2 1 (t__law_depth F__law_depth)) : FnD Pg w K mg base Ds (k + 1) F := by
  refine fn_ok Ds.fu sc__law_depth hB fun cdv A outer s H E c hr => ?_
  have nd := sc__law_depth.nd
  exact ds_cons (ds_if (dt_cmp (ne_ok (hu64 hr)) (de_ix (hu1 hr) (de_var 0) (de_int)) (de_str)) (ds_one (ds_ret (de_int))) (ds_nil))
    (ds_one (ds_ret (de_op add_ok (de_int) (de_callB (max_ok rfl) (by rfl) z_max (by decide +kernel) (da_cons (de_op add_ok (de_lc (own := [("part", 1)]) (bd := .one 1) rfl nd (di_seq (de_ix (hu1 hr) (de_var 0) (de_int))) (by kernel_rfl) (fun _ _ _ _ _ => pg_name (i := 1) nd rfl (by first | exact Or.inl rfl | exact Or.inr rfl)) (fun _ _ _ _ _ => dq_nil) (fun _ _ _ _ _ => de_call G__law_depth (hr.mono h__law_depth) (by rfl) Ds.mg Ds.fu.kp Ds.bd (da_cons (de_var 1) (da_nil)))) (de_lst (da_cons (de_int) (da_nil)))) (da_nil))))))

/-! ### _law_sets -/
abbrev st__law_sets : Stmt := topS 36
theorem sc__law_sets : FnScope ["tape", "good", "bad"] ["tape"] (defScope st__law_sets) := ⟨rfl, rfl, rfl, by decide +kernel, rfl, by decide +kernel, by decide +kernel⟩
def t__law_sets (F__law_scopes : TF) (F__law_take : TF) (F_is_set : TF) : TSX :=
    sSeq (sAsg 1 (tBin gAdd (tCall F__law_scopes 1 (lCons (tNm 0) (lNil))) (tIfX (tTst (tBin (gEqs2 false) (tCall F__law_take 2 (lCons (tNm 0) (lCons (tIm (.int 3)) (lNil)))) (tIm (.int 0)))) (tTp (lCons (tTp (lCons (tIm (.str "zzz")) (lCons (tIm (.int 0)) (lCons (tBin gAdd (tIm (.int 4)) (tCall F__law_take 2 (lCons (tNm 0) (lCons (tIm (.int 3)) (lNil))))) (lNil))))) (lNil))) (tTp (lNil)))))
    (sSeq (sAsg 2 (tLs (lCons (tIfX (tTst (tBin (gEqs true) (tNm 1) (tTp (lNil)))) (tBin gAdd (tNm 1) (tSlc (tNm 1) (pNo) (pSo (tIm (.int 1))))) (tTp (lCons (tIm (.str "m")) (lNil)))) (lCons (tCl (gList) (lCons (tNm 1) (lNil))) (lCons (tTp (lCons (tTp (lCons (tIm (.str "m")) (lCons (tIm (.int 1)) (lNil)))) (lNil))) (lCons (tTp (lCons (tTp (lCons (tIm (.str "m")) (lCons (tNeg (tIm (.int 1))) (lCons (tIm (.int 0)) (lNil))))) (lNil))) (lCons (tTp (lCons (tTp (lCons (tIm (.str "9m")) (lCons (tIm (.int 0)) (lCons (tIm (.int 0)) (lNil))))) (lNil))) (lNil))))))))
    (sSeq (sAsg 2 (tBin gAdd (tNm 2) (tLs (lCons (tTp (lCons (tTp (lCons (tIm (.str "m")) (lCons (tIm (.bl true)) (lCons (tIm (.int 0)) (lNil))))) (lNil))) (lCons (tTp (lCons (tTp (lCons (tIm (.str "m")) (lCons (tIm (.int 0)) (lCons (tIm (.int 0)) (lNil))))) (lCons (tTp (lCons (tIm (.str "a")) (lCons (tIm (.int 0)) (lCons (tIm (.int 0)) (lNil))))) (lNil)))) (lCons (tTp (lCons (tTp (lCons (tIm (.str "m")) (lCons (tIm (.int 0)) (lCons (tNeg (tIm (.int 1))) (lNil))))) (lNil))) (lCons (tTp (lCons (tTp (lCons (tIm (.str "m")) (lCons (tIm (.int 0)) (lCons (tIm (.int 0)) (lCons (tIm (.int 0)) (lNil)))))) (lNil))) (lCons (tIm .non) (lCons (tTp (lCons (tTp (lCons (tIm (.str "M")) (lCons (tIm (.int 0)) (lCons (tIm (.int 0)) (lNil))))) (lNil))) (lCons (tTp (lCons (tTp (lCons (tIm (.str "m")) (lCons (tIm (.str "0")) (lCons (tIm (.int 0)) (lNil))))) (lNil))) (lNil)))))))))))
    (sRet (tAndX (tBin (gIs false) (tCall F_is_set 1 (lCons (tNm 1) (lNil))) (tIm (.bl true))) (tBin (gIs false) (tCall F_is_set 1 (lCons (tBin gIx (tNm 2) (tCall F__law_take 2 (lCons (tNm 0) (lCons (tCl (gLen) (lCons (tNm 2) (lNil))) (lNil))))) (lNil))) (tIm (.bl false)))))))
theorem ok__law_sets {k : Nat} {F : TF} (Ds : DefAt K mg "_law_sets" st__law_sets ["tape"]) (z_list : mg "list" = none) (z_len : mg "len" = none) {F__law_scopes : TF} {k__law_scopes : Nat} (D__law_scopes : DefAt K mg "_law_scopes" st__law_scopes ["tape"]) (G__law_scopes : FnD Pg w K mg base D__law_scopes k__law_scopes F__law_scopes) (h__law_scopes : k__law_scopes ≤ k) {F__law_take : TF} {k__law_take : Nat} (D__law_take : DefAt K mg "_law_take" st__law_take ["tape", "many"]) (G__law_take : FnD Pg w K mg base D__law_take k__law_take F__law_take) (h__law_take : k__law_take ≤ k) {F_is_set : TF} {k_is_set : Nat} (D_is_set : DefAt K mg "is_set" st_is_set ["value"]) (G_is_set : FnD Pg w K mg base D_is_set k_is_set F_is_set) (h_is_set : k_is_set ≤ k)
    (hB : Body F 3 1 (t__law_sets F__law_scopes F__law_take F_is_set)) : FnD Pg w K mg base Ds (k + 1) F := by
  refine fn_ok Ds.fu sc__law_sets hB fun cdv A outer s H E c hr => ?_
  have nd := sc__law_sets.nd
  exact ds_cons (ds_set (i := 1) nd (de_op add_ok (de_call G__law_scopes (hr.mono h__law_scopes) (by rfl) D__law_scopes.mg D__law_scopes.fu.kp D__law_scopes.bd (da_cons (de_var 0) (da_nil))) (de_if (dt_cmp (eq2_ok (hu64 hr)) (de_call G__law_take (hr.mono h__law_take) (by rfl) D__law_take.mg D__law_take.fu.kp D__law_take.bd (da_cons (de_var 0) (da_cons (de_int) (da_nil)))) (de_int)) (de_tup (da_cons (de_tup (da_cons (de_str) (da_cons (de_int) (da_cons (de_op add_ok (de_int) (de_call G__law_take (hr.mono h__law_take) (by rfl) D__law_take.mg D__law_take.fu.kp D__law_take.bd (da_cons (de_var 0) (da_cons (de_int) (da_nil))))) (da_nil))))) (da_nil))) (de_tup (da_nil)))))
    (ds_cons (ds_set (i := 2) nd (de_lst (da_cons (de_if (dt_cmp (ne_ok (hu64 hr)) (de_var 1) (de_tup (da_nil))) (de_op add_ok (de_var 1) (de_slice (de_var 1) (do_no) (do_so (de_int)))) (de_tup (da_cons (de_str) (da_nil)))) (da_cons (de_callT (list_ok) (by rfl) z_list (by decide +kernel) (da_cons (de_var 1) (da_nil))) (da_cons (de_tup (da_cons (de_tup (da_cons (de_str) (da_cons (de_int) (da_nil)))) (da_nil))) (da_cons (de_tup (da_cons (de_tup (da_cons (de_str) (da_cons (de_neg (de_int)) (da_cons (de_int) (da_nil))))) (da_nil))) (da_cons (de_tup (da_cons (de_tup (da_cons (de_str) (da_cons (de_int) (da_cons (de_int) (da_nil))))) (da_nil))) (da_nil))))))))
    (ds_cons (ds_set (i := 2) nd (de_op add_ok (de_var 2) (de_lst (da_cons (de_tup (da_cons (de_tup (da_cons (de_str) (da_cons (de_bl) (da_cons (de_int) (da_nil))))) (da_nil))) (da_cons (de_tup (da_cons (de_tup (da_cons (de_str) (da_cons (de_int) (da_cons (de_int) (da_nil))))) (da_cons (de_tup (da_cons (de_str) (da_cons (de_int) (da_cons (de_int) (da_nil))))) (da_nil)))) (da_cons (de_tup (da_cons (de_tup (da_cons (de_str) (da_cons (de_int) (da_cons (de_neg (de_int)) (da_nil))))) (da_nil))) (da_cons (de_tup (da_cons (de_tup (da_cons (de_str) (da_cons (de_int) (da_cons (de_int) (da_cons (de_int) (da_nil)))))) (da_nil))) (da_cons (de_non) (da_cons (de_tup (da_cons (de_tup (da_cons (de_str) (da_cons (de_int) (da_cons (de_int) (da_nil))))) (da_nil))) (da_cons (de_tup (da_cons (de_tup (da_cons (de_str) (da_cons (de_str) (da_cons (de_int) (da_nil))))) (da_nil))) (da_nil)))))))))))
    (ds_one (ds_ret (de_and (de_cmp (is_ok) (de_call G_is_set (hr.mono h_is_set) (by rfl) D_is_set.mg D_is_set.fu.kp D_is_set.bd (da_cons (de_var 1) (da_nil))) (de_bl)) (de_one (de_cmp (is_ok) (de_call G_is_set (hr.mono h_is_set) (by rfl) D_is_set.mg D_is_set.fu.kp D_is_set.bd (da_cons (de_ix (hu1 hr) (de_var 2) (de_call G__law_take (hr.mono h__law_take) (by rfl) D__law_take.mg D__law_take.fu.kp D__law_take.bd (da_cons (de_var 0) (da_cons (de_callB (len_ok) (by rfl) z_len (by decide +kernel) (da_cons (de_var 2) (da_nil))) (da_nil))))) (da_nil))) (de_bl))))))))

/-! ### law -/
abbrev st_law : Stmt := topS 37
theorem sc_law : FnScope ["script", "tape", "datum", "given", "plain", "syntax", "scope", "flat", "one"] ["script"] (defScope st_law) := ⟨rfl, rfl, rfl, by decide +kernel, rfl, by decide +kernel, by decide +kernel⟩
abbrev ex_lam_law_1 : Expr := follow [2] (valOf ((defBody st_law).getD 3 (.Pass ⟨0, 0, 0, 0⟩)))
abbrev lam_law_1 : Lam := ⟨"law.<locals>.<lambda>", lamPs ex_lam_law_1, lamBd ex_lam_law_1, lamSc ex_lam_law_1, ["held"], ["given"], ["held", "given"]⟩
def t_lam_law_1 : TX :=
    tCl (gList) (lCons (tNm 1) (lNil))
theorem ok_lam_law_1 {k : Nat} {F : TF} (z_list : mg "list" = none) {f c : Addr} {cl : List (Str × Addr)} {vs : List V} {ds : List D} (a : LamAt base lam_law_1 f c cl vs) (hB : BodyL lam_law_1 F ds (t_lam_law_1)) : FnV Pg w K mg base (k + 1) 1 (.fnv f c lam_law_1.qual vs ds) F := by
  have S : NdefX.NScope lam_law_1.N lam_law_1.ps lam_law_1.fr lam_law_1.scope := NdefX.nscope_by (by decide +kernel)
  refine FnV.lam (L := lam_law_1) S (fun q cl pm cv ctv us hl => match us, hl with | [_], _ => rfl) a hB fun A outer s H E cc hr => ?_
  have nd := S.nd
  exact de_callT (list_ok) (by rfl) z_list (by decide +kernel) (da_cons (de_var 1) (da_nil))
theorem lb_lam_law_1 : lamB ["script", "tape", "datum", "given", "plain", "syntax", "scope", "flat", "one"] (defScope st_law) lam_law_1 [3] = true := by decide +kernel
abbrev ex_lam_law_2 : Expr := follow [0, 2, 2] (valOf ((defBody st_law).getD 7 (.Pass ⟨0, 0, 0, 0⟩)))
abbrev lam_law_2 : Lam := ⟨"law.<locals>.<lambda>", lamPs ex_lam_law_2, lamBd ex_lam_law_2, lamSc ex_lam_law_2, ["held"], ["scope"], ["held", "scope"]⟩
def t_lam_law_2 : TX :=
    tBin gAdd (tNm 0) (tIfX (tTst (tBin (gIns false) (tNm 1) (tNm 0))) (tLs (lNil)) (tLs (lCons (tNm 1) (lNil))))
theorem ok_lam_law_2 {k : Nat} {F : TF}  {f c : Addr} {cl : List (Str × Addr)} {vs : List V} {ds : List D} (a : LamAt base lam_law_2 f c cl vs) (hB : BodyL lam_law_2 F ds (t_lam_law_2)) : FnV Pg w K mg base (k + 1) 1 (.fnv f c lam_law_2.qual vs ds) F := by
  have S : NdefX.NScope lam_law_2.N lam_law_2.ps lam_law_2.fr lam_law_2.scope := NdefX.nscope_by (by decide +kernel)
  refine FnV.lam (L := lam_law_2) S (fun q cl pm cv ctv us hl => match us, hl with | [_], _ => rfl) a hB fun A outer s H E cc hr => ?_
  have nd := S.nd
  exact de_op add_ok (de_var 0) (de_if (dt_cmp (in_ok (hu65 hr)) (de_var 1) (de_var 0)) (de_lst (da_nil)) (de_lst (da_cons (de_var 1) (da_nil))))
theorem lb_lam_law_2 : lamB ["script", "tape", "datum", "given", "plain", "syntax", "scope", "flat", "one"] (defScope st_law) lam_law_2 [6] = true := by decide +kernel
abbrev ex_lam_law_3 : Expr := follow [0, 2, 2] (valOf ((defBody st_law).getD 8 (.Pass ⟨0, 0, 0, 0⟩)))
abbrev lam_law_3 : Lam := ⟨"law.<locals>.<lambda>", lamPs ex_lam_law_3, lamBd ex_lam_law_3, lamSc ex_lam_law_3, ["held"], ["scope"], ["held", "scope", "one"]⟩
def t_lam_law_3 : TX :=
    tLcX (iSeq (tNm 0)) (.one 2) (tTst (tBin (gEqs true) (tNm 2) (tNm 1))) (tNm 2) [2]
theorem ok_lam_law_3 {k : Nat} {F : TF}  {f c : Addr} {cl : List (Str × Addr)} {vs : List V} {ds : List D} (a : LamAt base lam_law_3 f c cl vs) (hB : BodyL lam_law_3 F ds (t_lam_law_3)) : FnV Pg w K mg base (k + 1) 1 (.fnv f c lam_law_3.qual vs ds) F := by
  have S : NdefX.NScope lam_law_3.N lam_law_3.ps lam_law_3.fr lam_law_3.scope := NdefX.nscope_by (by decide +kernel)
  refine FnV.lam (L := lam_law_3) S (fun q cl pm cv ctv us hl => match us, hl with | [_], _ => rfl) a hB fun A outer s H E cc hr => ?_
  have nd := S.nd
  exact de_lc (own := [("one", 2)]) (bd := .one 2) rfl nd (di_seq (de_var 0)) (by kernel_rfl) (fun _ _ _ _ _ => pg_name (i := 2) nd rfl (by first | exact Or.inl rfl | exact Or.inr rfl)) (fun _ _ _ _ _ => dq_one (dt_cmp (ne_ok (hu64 hr)) (de_var 2) (de_var 1))) (fun _ _ _ _ _ => de_var 2)
theorem lb_lam_law_3 : lamB ["script", "tape", "datum", "given", "plain", "syntax", "scope", "flat", "one"] (defScope st_law) lam_law_3 [6] = true := by decide +kernel
abbrev ex_lam_law_4 : Expr := follow [0, 2, 2] (valOf ((defBody st_law).getD 9 (.Pass ⟨0, 0, 0, 0⟩)))
abbrev lam_law_4 : Lam := ⟨"law.<locals>.<lambda>", lamPs ex_lam_law_4, lamBd ex_lam_law_4, lamSc ex_lam_law_4, ["held"], ["scope"], ["held", "scope"]⟩
def t_lam_law_4 (F__law_turned : TF) : TX :=
    tCall F__law_turned 2 (lCons (tNm 0) (lCons (tNm 1) (lNil)))
theorem ok_lam_law_4 {k : Nat} {F : TF} {F__law_turned : TF} {k__law_turned : Nat} (D__law_turned : DefAt K mg "_law_turned" st__law_turned ["held", "scope"]) (G__law_turned : FnD Pg w K mg base D__law_turned k__law_turned F__law_turned) (h__law_turned : k__law_turned ≤ k) {f c : Addr} {cl : List (Str × Addr)} {vs : List V} {ds : List D} (a : LamAt base lam_law_4 f c cl vs) (hB : BodyL lam_law_4 F ds (t_lam_law_4 F__law_turned)) : FnV Pg w K mg base (k + 1) 1 (.fnv f c lam_law_4.qual vs ds) F := by
  have S : NdefX.NScope lam_law_4.N lam_law_4.ps lam_law_4.fr lam_law_4.scope := NdefX.nscope_by (by decide +kernel)
  refine FnV.lam (L := lam_law_4) S (fun q cl pm cv ctv us hl => match us, hl with | [_], _ => rfl) a hB fun A outer s H E cc hr => ?_
  have nd := S.nd
  exact de_call G__law_turned (hr.mono h__law_turned) (by rfl) D__law_turned.mg D__law_turned.fu.kp D__law_turned.bd (da_cons (de_var 0) (da_cons (de_var 1) (da_nil)))
theorem lb_lam_law_4 : lamB ["script", "tape", "datum", "given", "plain", "syntax", "scope", "flat", "one"] (defScope st_law) lam_law_4 [6] = true := by decide +kernel
def t_law (F__law_tape : TF) (F__law_datum : TF) (F__law_scopes : TF) (F__law_syntax : TF) (F_syntax_of : TF) (F__law_same : TF) (F_datum_of : TF) (F__law_scope : TF) (F_added : TF) (F_removed : TF) (F_flipped : TF) (F__law_flat : TF) (F_identifiers : TF) (F_size : TF) (F_depth : TF) (F__law_depth : TF) (F__law_sets : TF) (Fl_1 : D → TF) (Fl_2 : D → TF) (Fl_3 : D → TF) (Fl_4 : D → TF) : TSX :=
    sSeq (sAsg 1 (tCall F__law_tape 1 (lCons (tNm 0) (lNil))))
    (sSeq (sAsg 2 (tCall F__law_datum 3 (lCons (tNm 1) (lCons (tDspK (lCons (tIm (.str "n")) (lCons (tIm (.int 0)) (lNil)))) (lCons (tIm (.int 0)) (lNil))))))
    (sSeq (sAsg 3 (tCall F__law_scopes 1 (lCons (tNm 1) (lNil))))
    (sSeq (sAsg 4 (tCallL lam_law_1.qual [3] Fl_1 (tCall F__law_syntax 3 (lCons (tNm 1) (lCons (tIm (.str "m")) (lCons (tNm 2) (lNil)))))))
    (sSeq (sIf (tOrQ (tNotQ (tTru (tCall F__law_same 2 (lCons (tCall F_syntax_of 3 (lCons (tIm (.str "m")) (lCons (tNm 2) (lCons (tNm 3) (lNil))))) (lCons (tNm 4) (lNil)))))) (tNotQ (tTru (tCall F__law_same 2 (lCons (tCall F_datum_of 1 (lCons (tNm 4) (lNil))) (lCons (tNm 2) (lNil))))))) (sRet (tIm (.bl false))) (sNil))
    (sSeq (sAsg 5 (tCall F__law_syntax 3 (lCons (tNm 1) (lCons (tIm (.str "m")) (lCons (tNm 2) (lNil))))))
    (sSeq (sAsg 6 (tCall F__law_scope 1 (lCons (tNm 1) (lNil))))
    (sSeq (sIf (tNotQ (tTru (tCall F__law_same 2 (lCons (tCall F_added 2 (lCons (tNm 5) (lCons (tNm 6) (lNil)))) (lCons (tCallL lam_law_2.qual [6] Fl_2 (tNm 5)) (lNil)))))) (sRet (tIm (.bl false))) (sNil))
    (sSeq (sIf (tNotQ (tTru (tCall F__law_same 2 (lCons (tCall F_removed 2 (lCons (tNm 5) (lCons (tNm 6) (lNil)))) (lCons (tCallL lam_law_3.qual [6] Fl_3 (tNm 5)) (lNil)))))) (sRet (tIm (.bl false))) (sNil))
    (sSeq (sIf (tNotQ (tTru (tCall F__law_same 2 (lCons (tCall F_flipped 2 (lCons (tNm 5) (lCons (tNm 6) (lNil)))) (lCons (tCallL lam_law_4.qual [6] Fl_4 (tNm 5)) (lNil)))))) (sRet (tIm (.bl false))) (sNil))
    (sSeq (sAsg 7 (tCall F__law_flat 1 (lCons (tNm 5) (lNil))))
    (sSeq (sIf (tNotQ (tTru (tCall F__law_same 2 (lCons (tCall F_identifiers 1 (lCons (tNm 5) (lNil))) (lCons (tLcX (iSeq (tNm 7)) (.one 8) (tTst (tBin (gEqs2 false) (tBin gIx (tNm 8) (tIm (.int 0))) (tIm (.str "id")))) (tNm 8) [8]) (lNil)))))) (sRet (tIm (.bl false))) (sNil))
    (sRet (tAndX (tCall F__law_same 2 (lCons (tLs (lCons (tCall F_size 1 (lCons (tNm 5) (lNil))) (lCons (tCall F_depth 1 (lCons (tNm 5) (lNil))) (lNil)))) (lCons (tLs (lCons (tCl (gLen) (lCons (tNm 7) (lNil))) (lCons (tCall F__law_depth 1 (lCons (tNm 5) (lNil))) (lNil)))) (lNil)))) (tCall F__law_sets 1 (lCons (tNm 1) (lNil))))))))))))))))
theorem ok_law {k : Nat} {F : TF} (Ds : DefAt K mg "law" st_law ["script"]) (Cs : CodeOf K "law" st_law Ds.f Ds.fd) (TB : LamX.TabB base mg Cs.cd Cs.P) (z_len : mg "len" = none) {F__law_tape : TF} {k__law_tape : Nat} (D__law_tape : DefAt K mg "_law_tape" st__law_tape ["script"]) (G__law_tape : FnD Pg w K mg base D__law_tape k__law_tape F__law_tape) (h__law_tape : k__law_tape ≤ k) {F__law_datum : TF} {k__law_datum : Nat} (D__law_datum : DefAt K mg "_law_datum" st__law_datum ["tape", "count", "level"]) (G__law_datum : FnD Pg w K mg base D__law_datum k__law_datum F__law_datum) (h__law_datum : k__law_datum ≤ k) {F__law_scopes : TF} {k__law_scopes : Nat} (D__law_scopes : DefAt K mg "_law_scopes" st__law_scopes ["tape"]) (G__law_scopes : FnD Pg w K mg base D__law_scopes k__law_scopes F__law_scopes) (h__law_scopes : k__law_scopes ≤ k) {F__law_syntax : TF} {k__law_syntax : Nat} (D__law_syntax : DefAt K mg "_law_syntax" st__law_syntax ["tape", "module", "datum"]) (G__law_syntax : FnD Pg w K mg base D__law_syntax k__law_syntax F__law_syntax) (h__law_syntax : k__law_syntax ≤ k) {F_syntax_of : TF} {k_syntax_of : Nat} (D_syntax_of : DefAt K mg "syntax_of" st_syntax_of ["module", "datum", "scopes"]) (G_syntax_of : FnD Pg w K mg base D_syntax_of k_syntax_of F_syntax_of) (h_syntax_of : k_syntax_of ≤ k) {F__law_same : TF} {k__law_same : Nat} (D__law_same : DefAt K mg "_law_same" st__law_same ["actual", "expected"]) (G__law_same : FnD Pg w K mg base D__law_same k__law_same F__law_same) (h__law_same : k__law_same ≤ k) {F_datum_of : TF} {k_datum_of : Nat} (D_datum_of : DefAt K mg "datum_of" st_datum_of ["syntax"]) (G_datum_of : FnD Pg w K mg base D_datum_of k_datum_of F_datum_of) (h_datum_of : k_datum_of ≤ k) {F__law_scope : TF} {k__law_scope : Nat} (D__law_scope : DefAt K mg "_law_scope" st__law_scope ["tape"]) (G__law_scope : FnD Pg w K mg base D__law_scope k__law_scope F__law_scope) (h__law_scope : k__law_scope ≤ k) {F_added : TF} {k_added : Nat} (D_added : DefAt K mg "added" st_added ["syntax", "scope"]) (G_added : FnD Pg w K mg base D_added k_added F_added) (h_added : k_added ≤ k) {F_removed : TF} {k_removed : Nat} (D_removed : DefAt K mg "removed" st_removed ["syntax", "scope"]) (G_removed : FnD Pg w K mg base D_removed k_removed F_removed) (h_removed : k_removed ≤ k) {F_flipped : TF} {k_flipped : Nat} (D_flipped : DefAt K mg "flipped" st_flipped ["syntax", "scope"]) (G_flipped : FnD Pg w K mg base D_flipped k_flipped F_flipped) (h_flipped : k_flipped ≤ k) {F__law_flat : TF} {k__law_flat : Nat} (D__law_flat : DefAt K mg "_law_flat" st__law_flat ["syntax"]) (G__law_flat : FnD Pg w K mg base D__law_flat k__law_flat F__law_flat) (h__law_flat : k__law_flat ≤ k) {F_identifiers : TF} {k_identifiers : Nat} (D_identifiers : DefAt K mg "identifiers" st_identifiers ["syntax"]) (G_identifiers : FnD Pg w K mg base D_identifiers k_identifiers F_identifiers) (h_identifiers : k_identifiers ≤ k) {F_size : TF} {k_size : Nat} (D_size : DefAt K mg "size" st_size ["syntax"]) (G_size : FnD Pg w K mg base D_size k_size F_size) (h_size : k_size ≤ k) {F_depth : TF} {k_depth : Nat} (D_depth : DefAt K mg "depth" st_depth ["syntax"]) (G_depth : FnD Pg w K mg base D_depth k_depth F_depth) (h_depth : k_depth ≤ k) {F__law_depth : TF} {k__law_depth : Nat} (D__law_depth : DefAt K mg "_law_depth" st__law_depth ["syntax"]) (G__law_depth : FnD Pg w K mg base D__law_depth k__law_depth F__law_depth) (h__law_depth : k__law_depth ≤ k) {F__law_sets : TF} {k__law_sets : Nat} (D__law_sets : DefAt K mg "_law_sets" st__law_sets ["tape"]) (G__law_sets : FnD Pg w K mg base D__law_sets k__law_sets F__law_sets) (h__law_sets : k__law_sets ≤ k) (D__law_mapped : DefAt K mg "_law_mapped" st__law_mapped ["syntax", "change"]) {Fl_1 : D → TF} {kl_1 : Nat} (GL_1 : ∀ (base : Heap) (f c : Addr) (cl : List (Str × Addr)) (vs : List V) (ds : List D), LamAt base lam_law_1 f c cl vs → FnD Pg w K mg base D__law_mapped kl_1 (Fl_1 (.fnv f c lam_law_1.qual vs ds))) (hl_1 : kl_1 ≤ k) {Fl_2 : D → TF} {kl_2 : Nat} (GL_2 : ∀ (base : Heap) (f c : Addr) (cl : List (Str × Addr)) (vs : List V) (ds : List D), LamAt base lam_law_2 f c cl vs → FnD Pg w K mg base D__law_mapped kl_2 (Fl_2 (.fnv f c lam_law_2.qual vs ds))) (hl_2 : kl_2 ≤ k) {Fl_3 : D → TF} {kl_3 : Nat} (GL_3 : ∀ (base : Heap) (f c : Addr) (cl : List (Str × Addr)) (vs : List V) (ds : List D), LamAt base lam_law_3 f c cl vs → FnD Pg w K mg base D__law_mapped kl_3 (Fl_3 (.fnv f c lam_law_3.qual vs ds))) (hl_3 : kl_3 ≤ k) {Fl_4 : D → TF} {kl_4 : Nat} (GL_4 : ∀ (base : Heap) (f c : Addr) (cl : List (Str × Addr)) (vs : List V) (ds : List D), LamAt base lam_law_4 f c cl vs → FnD Pg w K mg base D__law_mapped kl_4 (Fl_4 (.fnv f c lam_law_4.qual vs ds))) (hl_4 : kl_4 ≤ k)
    (hB : Body F 9 1 (t_law F__law_tape F__law_datum F__law_scopes F__law_syntax F_syntax_of F__law_same F_datum_of F__law_scope F_added F_removed F_flipped F__law_flat F_identifiers F_size F_depth F__law_depth F__law_sets Fl_1 Fl_2 Fl_3 Fl_4)) : FnOk Pg w K mg base CX0 (k + 1) Ds.f Ds.fd ["script"] (spT Cs.P "law.<locals>.<lambda>" K F 1) := by
  refine fn_okT Cs sc_law hB fun A outer s H E c hr tab => ?_
  have nd := sc_law.nd
  exact ds_cons (ds_set (i := 1) nd (de_call G__law_tape (hr.mono h__law_tape) (by rfl) D__law_tape.mg D__law_tape.fu.kp D__law_tape.bd (da_cons (de_var 0) (da_nil))))
    (ds_cons (ds_set (i := 2) nd (de_call G__law_datum (hr.mono h__law_datum) (by rfl) D__law_datum.mg D__law_datum.fu.kp D__law_datum.bd (da_cons (de_var 1) (da_cons (de_dspK (dps_cons (de_str) (de_int) (dps_nil))) (da_cons (de_int) (da_nil))))))
    (ds_cons (ds_set (i := 3) nd (de_call G__law_scopes (hr.mono h__law_scopes) (by rfl) D__law_scopes.mg D__law_scopes.fu.kp D__law_scopes.bd (da_cons (de_var 1) (da_nil))))
    (ds_cons (ds_set (i := 4) nd (de_callLam (L := lam_law_1) (js := [3]) (de_call G__law_syntax (hr.mono h__law_syntax) (by rfl) D__law_syntax.mg D__law_syntax.fu.kp D__law_syntax.bd (da_cons (de_var 1) (da_cons (de_str) (da_cons (de_var 2) (da_nil))))) lb_lam_law_1 (fun _ => rfl) TB rfl (by rfl) tab (by rfl) GL_1 (hr.mono hl_1) (by rfl) D__law_mapped.mg D__law_mapped.fu.kp D__law_mapped.bd))
    (ds_cons (ds_if (dw_pt (dw_or (dt_not (dt_tru (de_call G__law_same (hr.mono h__law_same) (by rfl) D__law_same.mg D__law_same.fu.kp D__law_same.bd (da_cons (de_call G_syntax_of (hr.mono h_syntax_of) (by rfl) D_syntax_of.mg D_syntax_of.fu.kp D_syntax_of.bd (da_cons (de_str) (da_cons (de_var 2) (da_cons (de_var 3) (da_nil))))) (da_cons (de_var 4) (da_nil)))))) (dw_or1 (dt_not (dt_tru (de_call G__law_same (hr.mono h__law_same) (by rfl) D__law_same.mg D__law_same.fu.kp D__law_same.bd (da_cons (de_call G_datum_of (hr.mono h_datum_of) (by rfl) D_datum_of.mg D_datum_of.fu.kp D_datum_of.bd (da_cons (de_var 4) (da_nil))) (da_cons (de_var 2) (da_nil))))))))) (ds_one (ds_ret (de_bl))) (ds_nil))
    (ds_cons (ds_set (i := 5) nd (de_call G__law_syntax (hr.mono h__law_syntax) (by rfl) D__law_syntax.mg D__law_syntax.fu.kp D__law_syntax.bd (da_cons (de_var 1) (da_cons (de_str) (da_cons (de_var 2) (da_nil))))))
    (ds_cons (ds_set (i := 6) nd (de_call G__law_scope (hr.mono h__law_scope) (by rfl) D__law_scope.mg D__law_scope.fu.kp D__law_scope.bd (da_cons (de_var 1) (da_nil))))
    (ds_cons (ds_if (dt_not (dt_tru (de_call G__law_same (hr.mono h__law_same) (by rfl) D__law_same.mg D__law_same.fu.kp D__law_same.bd (da_cons (de_call G_added (hr.mono h_added) (by rfl) D_added.mg D_added.fu.kp D_added.bd (da_cons (de_var 5) (da_cons (de_var 6) (da_nil)))) (da_cons (de_callLam (L := lam_law_2) (js := [6]) (de_var 5) lb_lam_law_2 (fun _ => rfl) TB rfl (by rfl) tab (by rfl) GL_2 (hr.mono hl_2) (by rfl) D__law_mapped.mg D__law_mapped.fu.kp D__law_mapped.bd) (da_nil)))))) (ds_one (ds_ret (de_bl))) (ds_nil))
    (ds_cons (ds_if (dt_not (dt_tru (de_call G__law_same (hr.mono h__law_same) (by rfl) D__law_same.mg D__law_same.fu.kp D__law_same.bd (da_cons (de_call G_removed (hr.mono h_removed) (by rfl) D_removed.mg D_removed.fu.kp D_removed.bd (da_cons (de_var 5) (da_cons (de_var 6) (da_nil)))) (da_cons (de_callLam (L := lam_law_3) (js := [6]) (de_var 5) lb_lam_law_3 (fun _ => rfl) TB rfl (by rfl) tab (by rfl) GL_3 (hr.mono hl_3) (by rfl) D__law_mapped.mg D__law_mapped.fu.kp D__law_mapped.bd) (da_nil)))))) (ds_one (ds_ret (de_bl))) (ds_nil))
    (ds_cons (ds_if (dt_not (dt_tru (de_call G__law_same (hr.mono h__law_same) (by rfl) D__law_same.mg D__law_same.fu.kp D__law_same.bd (da_cons (de_call G_flipped (hr.mono h_flipped) (by rfl) D_flipped.mg D_flipped.fu.kp D_flipped.bd (da_cons (de_var 5) (da_cons (de_var 6) (da_nil)))) (da_cons (de_callLam (L := lam_law_4) (js := [6]) (de_var 5) lb_lam_law_4 (fun _ => rfl) TB rfl (by rfl) tab (by rfl) GL_4 (hr.mono hl_4) (by rfl) D__law_mapped.mg D__law_mapped.fu.kp D__law_mapped.bd) (da_nil)))))) (ds_one (ds_ret (de_bl))) (ds_nil))
    (ds_cons (ds_set (i := 7) nd (de_call G__law_flat (hr.mono h__law_flat) (by rfl) D__law_flat.mg D__law_flat.fu.kp D__law_flat.bd (da_cons (de_var 5) (da_nil))))
    (ds_cons (ds_if (dt_not (dt_tru (de_call G__law_same (hr.mono h__law_same) (by rfl) D__law_same.mg D__law_same.fu.kp D__law_same.bd (da_cons (de_call G_identifiers (hr.mono h_identifiers) (by rfl) D_identifiers.mg D_identifiers.fu.kp D_identifiers.bd (da_cons (de_var 5) (da_nil))) (da_cons (de_lc (own := [("one", 8)]) (bd := .one 8) rfl nd (di_seq (de_var 7)) (by kernel_rfl) (fun _ _ _ _ _ => pg_name (i := 8) nd rfl (by first | exact Or.inl rfl | exact Or.inr rfl)) (fun _ _ _ _ _ => dq_one (dt_cmp (eq2_ok (hu64 hr)) (de_ix (hu1 hr) (de_var 8) (de_int)) (de_str))) (fun _ _ _ _ _ => de_var 8)) (da_nil)))))) (ds_one (ds_ret (de_bl))) (ds_nil))
    (ds_one (ds_ret (de_and (de_call G__law_same (hr.mono h__law_same) (by rfl) D__law_same.mg D__law_same.fu.kp D__law_same.bd (da_cons (de_lst (da_cons (de_call G_size (hr.mono h_size) (by rfl) D_size.mg D_size.fu.kp D_size.bd (da_cons (de_var 5) (da_nil))) (da_cons (de_call G_depth (hr.mono h_depth) (by rfl) D_depth.mg D_depth.fu.kp D_depth.bd (da_cons (de_var 5) (da_nil))) (da_nil)))) (da_cons (de_lst (da_cons (de_callB (len_ok) (by rfl) z_len (by decide +kernel) (da_cons (de_var 7) (da_nil))) (da_cons (de_call G__law_depth (hr.mono h__law_depth) (by rfl) D__law_depth.mg D__law_depth.fu.kp D__law_depth.bd (da_cons (de_var 5) (da_nil))) (da_nil)))) (da_nil)))) (de_one (de_call G__law_sets (hr.mono h__law_sets) (by rfl) D__law_sets.mg D__law_sets.fu.kp D__law_sets.bd (da_cons (de_var 1) (da_nil))))))))))))))))))

/-! ### what the top holds -/
structure Top (K : PySem.W.Frag) (mg : Str → Option Value) where
  D_is_name : DefAt K mg "is_name" st_is_name ["text"]
  D_syntax_of : DefAt K mg "syntax_of" st_syntax_of ["module", "datum", "scopes"]
  D_datum_of : DefAt K mg "datum_of" st_datum_of ["syntax"]
  D_occurrence_of : DefAt K mg "occurrence_of" st_occurrence_of ["syntax"]
  D_with_scope : DefAt K mg "with_scope" st_with_scope ["scopes", "scope"]
  D_without_scope : DefAt K mg "without_scope" st_without_scope ["scopes", "scope"]
  D_turned_scope : DefAt K mg "turned_scope" st_turned_scope ["scopes", "scope"]
  D_changed : DefAt K mg "changed" st_changed ["syntax", "scope", "change"]
  D_added : DefAt K mg "added" st_added ["syntax", "scope"]
  D_removed : DefAt K mg "removed" st_removed ["syntax", "scope"]
  D_flipped : DefAt K mg "flipped" st_flipped ["syntax", "scope"]
  D_identifiers : DefAt K mg "identifiers" st_identifiers ["syntax"]
  D_size : DefAt K mg "size" st_size ["syntax"]
  D_depth : DefAt K mg "depth" st_depth ["syntax"]
  D_is_scope : DefAt K mg "is_scope" st_is_scope ["value"]
  D_is_set : DefAt K mg "is_set" st_is_set ["value"]
  D__law_tape : DefAt K mg "_law_tape" st__law_tape ["script"]
  D__law_take : DefAt K mg "_law_take" st__law_take ["tape", "many"]
  D__law_is_integer : DefAt K mg "_law_is_integer" st__law_is_integer ["actual"]
  D__law_same_items : DefAt K mg "_law_same_items" st__law_same_items ["actual", "expected"]
  D__law_same : DefAt K mg "_law_same" st__law_same ["actual", "expected"]
  D__law_datum : DefAt K mg "_law_datum" st__law_datum ["tape", "count", "level"]
  D__law_scope : DefAt K mg "_law_scope" st__law_scope ["tape"]
  D__law_scopes : DefAt K mg "_law_scopes" st__law_scopes ["tape"]
  D__law_syntax : DefAt K mg "_law_syntax" st__law_syntax ["tape", "module", "datum"]
  D__law_mapped : DefAt K mg "_law_mapped" st__law_mapped ["syntax", "change"]
  D__law_turned : DefAt K mg "_law_turned" st__law_turned ["held", "scope"]
  D__law_flat : DefAt K mg "_law_flat" st__law_flat ["syntax"]
  D__law_depth : DefAt K mg "_law_depth" st__law_depth ["syntax"]
  D__law_sets : DefAt K mg "_law_sets" st__law_sets ["tape"]
  D_law : DefAt K mg "law" st_law ["script"]
  z_len : mg "len" = none
  z_all : mg "all" = none
  z_tuple : mg "tuple" = none
  z_sorted : mg "sorted" = none
  z_sum : mg "sum" = none
  z_max : mg "max" = none
  z_isinstance : mg "isinstance" = none
  z_str : mg "str" = none
  z_int : mg "int" = none
  z_bool : mg "bool" = none
  z_range : mg "range" = none
  z_abs : mg "abs" = none
  z_list : mg "list" = none
  z_dict : mg "dict" = none
  gt_LONGEST_NAME : Tok
  g_LONGEST_NAME : mg "LONGEST_NAME" = some (.int 20 gt_LONGEST_NAME)
  gt_NAME_SIGNS : Tok
  g_NAME_SIGNS : mg "NAME_SIGNS" = some (.str "abcdefghijklmnopqrstuvwxyz0123456789!*+-./:<=>?_" gt_NAME_SIGNS)
  gt_FIGURES : Tok
  g_FIGURES : mg "FIGURES" = some (.str "0123456789" gt_FIGURES)
  g_SPECIAL_NAMES : GTup K mg "SPECIAL_NAMES" tup_SPECIAL_NAMES
  C_law : CodeOf K "law" st_law D_law.f D_law.fd
  bl : ∀ (s : Shared) (v : Value), BindsTo s D_law.fd ⟨[v], []⟩ [("script", v)]
def tp_mk {K : PySem.W.Frag} {h : Heap} {mg : Str → Option Value} (X : K.In h) (G : h.Ns mainGlobals mg)
    {f0 : Addr} {od0 an0 : Option Addr} {sl0 : Array (Option Value)} {oc0 kV0 dc0 pm0 cd0 ct0 : Value}
    (a0 : PySem.W.nsIn K mainGlobals "is_name" = some (some (.ref f0))) (l0 : K.lookup f0 = some ⟨oc0, od0, .func (PySem.W.fnOf "is_name" "is_name" (defArgs st_is_name) (defBody st_is_name) (defScope st_is_name) .none kV0 dc0 pm0 an0 cd0 ct0), sl0⟩) (c0 : PySem.W.codeIn K cd0 "is_name" = true) (k0 : PySem.W.keepIn K (.ref f0) = true)
    {f1 : Addr} {od1 an1 : Option Addr} {sl1 : Array (Option Value)} {oc1 kV1 dc1 pm1 cd1 ct1 : Value}
    (a1 : PySem.W.nsIn K mainGlobals "syntax_of" = some (some (.ref f1))) (l1 : K.lookup f1 = some ⟨oc1, od1, .func (PySem.W.fnOf "syntax_of" "syntax_of" (defArgs st_syntax_of) (defBody st_syntax_of) (defScope st_syntax_of) .none kV1 dc1 pm1 an1 cd1 ct1), sl1⟩) (c1 : PySem.W.codeIn K cd1 "syntax_of" = true) (k1 : PySem.W.keepIn K (.ref f1) = true)
    {f2 : Addr} {od2 an2 : Option Addr} {sl2 : Array (Option Value)} {oc2 kV2 dc2 pm2 cd2 ct2 : Value}
    (a2 : PySem.W.nsIn K mainGlobals "datum_of" = some (some (.ref f2))) (l2 : K.lookup f2 = some ⟨oc2, od2, .func (PySem.W.fnOf "datum_of" "datum_of" (defArgs st_datum_of) (defBody st_datum_of) (defScope st_datum_of) .none kV2 dc2 pm2 an2 cd2 ct2), sl2⟩) (c2 : PySem.W.codeIn K cd2 "datum_of" = true) (k2 : PySem.W.keepIn K (.ref f2) = true)
    {f3 : Addr} {od3 an3 : Option Addr} {sl3 : Array (Option Value)} {oc3 kV3 dc3 pm3 cd3 ct3 : Value}
    (a3 : PySem.W.nsIn K mainGlobals "occurrence_of" = some (some (.ref f3))) (l3 : K.lookup f3 = some ⟨oc3, od3, .func (PySem.W.fnOf "occurrence_of" "occurrence_of" (defArgs st_occurrence_of) (defBody st_occurrence_of) (defScope st_occurrence_of) .none kV3 dc3 pm3 an3 cd3 ct3), sl3⟩) (c3 : PySem.W.codeIn K cd3 "occurrence_of" = true) (k3 : PySem.W.keepIn K (.ref f3) = true)
    {f4 : Addr} {od4 an4 : Option Addr} {sl4 : Array (Option Value)} {oc4 kV4 dc4 pm4 cd4 ct4 : Value}
    (a4 : PySem.W.nsIn K mainGlobals "with_scope" = some (some (.ref f4))) (l4 : K.lookup f4 = some ⟨oc4, od4, .func (PySem.W.fnOf "with_scope" "with_scope" (defArgs st_with_scope) (defBody st_with_scope) (defScope st_with_scope) .none kV4 dc4 pm4 an4 cd4 ct4), sl4⟩) (c4 : PySem.W.codeIn K cd4 "with_scope" = true) (k4 : PySem.W.keepIn K (.ref f4) = true)
    {f5 : Addr} {od5 an5 : Option Addr} {sl5 : Array (Option Value)} {oc5 kV5 dc5 pm5 cd5 ct5 : Value}
    (a5 : PySem.W.nsIn K mainGlobals "without_scope" = some (some (.ref f5))) (l5 : K.lookup f5 = some ⟨oc5, od5, .func (PySem.W.fnOf "without_scope" "without_scope" (defArgs st_without_scope) (defBody st_without_scope) (defScope st_without_scope) .none kV5 dc5 pm5 an5 cd5 ct5), sl5⟩) (c5 : PySem.W.codeIn K cd5 "without_scope" = true) (k5 : PySem.W.keepIn K (.ref f5) = true)
    {f6 : Addr} {od6 an6 : Option Addr} {sl6 : Array (Option Value)} {oc6 kV6 dc6 pm6 cd6 ct6 : Value}
    (a6 : PySem.W.nsIn K mainGlobals "turned_scope" = some (some (.ref f6))) (l6 : K.lookup f6 = some ⟨oc6, od6, .func (PySem.W.fnOf "turned_scope" "turned_scope" (defArgs st_turned_scope) (defBody st_turned_scope) (defScope st_turned_scope) .none kV6 dc6 pm6 an6 cd6 ct6), sl6⟩) (c6 : PySem.W.codeIn K cd6 "turned_scope" = true) (k6 : PySem.W.keepIn K (.ref f6) = true)
    {f7 : Addr} {od7 an7 : Option Addr} {sl7 : Array (Option Value)} {oc7 kV7 dc7 pm7 cd7 ct7 : Value}
    (a7 : PySem.W.nsIn K mainGlobals "changed" = some (some (.ref f7))) (l7 : K.lookup f7 = some ⟨oc7, od7, .func (PySem.W.fnOf "changed" "changed" (defArgs st_changed) (defBody st_changed) (defScope st_changed) .none kV7 dc7 pm7 an7 cd7 ct7), sl7⟩) (c7 : PySem.W.codeIn K cd7 "changed" = true) (k7 : PySem.W.keepIn K (.ref f7) = true)
    {f8 : Addr} {od8 an8 : Option Addr} {sl8 : Array (Option Value)} {oc8 kV8 dc8 pm8 cd8 ct8 : Value}
    (a8 : PySem.W.nsIn K mainGlobals "added" = some (some (.ref f8))) (l8 : K.lookup f8 = some ⟨oc8, od8, .func (PySem.W.fnOf "added" "added" (defArgs st_added) (defBody st_added) (defScope st_added) .none kV8 dc8 pm8 an8 cd8 ct8), sl8⟩) (c8 : PySem.W.codeIn K cd8 "added" = true) (k8 : PySem.W.keepIn K (.ref f8) = true)
    {f9 : Addr} {od9 an9 : Option Addr} {sl9 : Array (Option Value)} {oc9 kV9 dc9 pm9 cd9 ct9 : Value}
    (a9 : PySem.W.nsIn K mainGlobals "removed" = some (some (.ref f9))) (l9 : K.lookup f9 = some ⟨oc9, od9, .func (PySem.W.fnOf "removed" "removed" (defArgs st_removed) (defBody st_removed) (defScope st_removed) .none kV9 dc9 pm9 an9 cd9 ct9), sl9⟩) (c9 : PySem.W.codeIn K cd9 "removed" = true) (k9 : PySem.W.keepIn K (.ref f9) = true)
    {f10 : Addr} {od10 an10 : Option Addr} {sl10 : Array (Option Value)} {oc10 kV10 dc10 pm10 cd10 ct10 : Value}
    (a10 : PySem.W.nsIn K mainGlobals "flipped" = some (some (.ref f10))) (l10 : K.lookup f10 = some ⟨oc10, od10, .func (PySem.W.fnOf "flipped" "flipped" (defArgs st_flipped) (defBody st_flipped) (defScope st_flipped) .none kV10 dc10 pm10 an10 cd10 ct10), sl10⟩) (c10 : PySem.W.codeIn K cd10 "flipped" = true) (k10 : PySem.W.keepIn K (.ref f10) = true)
    {f11 : Addr} {od11 an11 : Option Addr} {sl11 : Array (Option Value)} {oc11 kV11 dc11 pm11 cd11 ct11 : Value}
    (a11 : PySem.W.nsIn K mainGlobals "identifiers" = some (some (.ref f11))) (l11 : K.lookup f11 = some ⟨oc11, od11, .func (PySem.W.fnOf "identifiers" "identifiers" (defArgs st_identifiers) (defBody st_identifiers) (defScope st_identifiers) .none kV11 dc11 pm11 an11 cd11 ct11), sl11⟩) (c11 : PySem.W.codeIn K cd11 "identifiers" = true) (k11 : PySem.W.keepIn K (.ref f11) = true)
    {f12 : Addr} {od12 an12 : Option Addr} {sl12 : Array (Option Value)} {oc12 kV12 dc12 pm12 cd12 ct12 : Value}
    (a12 : PySem.W.nsIn K mainGlobals "size" = some (some (.ref f12))) (l12 : K.lookup f12 = some ⟨oc12, od12, .func (PySem.W.fnOf "size" "size" (defArgs st_size) (defBody st_size) (defScope st_size) .none kV12 dc12 pm12 an12 cd12 ct12), sl12⟩) (c12 : PySem.W.codeIn K cd12 "size" = true) (k12 : PySem.W.keepIn K (.ref f12) = true)
    {f13 : Addr} {od13 an13 : Option Addr} {sl13 : Array (Option Value)} {oc13 kV13 dc13 pm13 cd13 ct13 : Value}
    (a13 : PySem.W.nsIn K mainGlobals "depth" = some (some (.ref f13))) (l13 : K.lookup f13 = some ⟨oc13, od13, .func (PySem.W.fnOf "depth" "depth" (defArgs st_depth) (defBody st_depth) (defScope st_depth) .none kV13 dc13 pm13 an13 cd13 ct13), sl13⟩) (c13 : PySem.W.codeIn K cd13 "depth" = true) (k13 : PySem.W.keepIn K (.ref f13) = true)
    {f14 : Addr} {od14 an14 : Option Addr} {sl14 : Array (Option Value)} {oc14 kV14 dc14 pm14 cd14 ct14 : Value}
    (a14 : PySem.W.nsIn K mainGlobals "is_scope" = some (some (.ref f14))) (l14 : K.lookup f14 = some ⟨oc14, od14, .func (PySem.W.fnOf "is_scope" "is_scope" (defArgs st_is_scope) (defBody st_is_scope) (defScope st_is_scope) .none kV14 dc14 pm14 an14 cd14 ct14), sl14⟩) (c14 : PySem.W.codeIn K cd14 "is_scope" = true) (k14 : PySem.W.keepIn K (.ref f14) = true)
    {f15 : Addr} {od15 an15 : Option Addr} {sl15 : Array (Option Value)} {oc15 kV15 dc15 pm15 cd15 ct15 : Value}
    (a15 : PySem.W.nsIn K mainGlobals "is_set" = some (some (.ref f15))) (l15 : K.lookup f15 = some ⟨oc15, od15, .func (PySem.W.fnOf "is_set" "is_set" (defArgs st_is_set) (defBody st_is_set) (defScope st_is_set) .none kV15 dc15 pm15 an15 cd15 ct15), sl15⟩) (c15 : PySem.W.codeIn K cd15 "is_set" = true) (k15 : PySem.W.keepIn K (.ref f15) = true)
    {f16 : Addr} {od16 an16 : Option Addr} {sl16 : Array (Option Value)} {oc16 kV16 dc16 pm16 cd16 ct16 : Value}
    (a16 : PySem.W.nsIn K mainGlobals "_law_tape" = some (some (.ref f16))) (l16 : K.lookup f16 = some ⟨oc16, od16, .func (PySem.W.fnOf "_law_tape" "_law_tape" (defArgs st__law_tape) (defBody st__law_tape) (defScope st__law_tape) .none kV16 dc16 pm16 an16 cd16 ct16), sl16⟩) (c16 : PySem.W.codeIn K cd16 "_law_tape" = true) (k16 : PySem.W.keepIn K (.ref f16) = true)
    {f17 : Addr} {od17 an17 : Option Addr} {sl17 : Array (Option Value)} {oc17 kV17 dc17 pm17 cd17 ct17 : Value}
    (a17 : PySem.W.nsIn K mainGlobals "_law_take" = some (some (.ref f17))) (l17 : K.lookup f17 = some ⟨oc17, od17, .func (PySem.W.fnOf "_law_take" "_law_take" (defArgs st__law_take) (defBody st__law_take) (defScope st__law_take) .none kV17 dc17 pm17 an17 cd17 ct17), sl17⟩) (c17 : PySem.W.codeIn K cd17 "_law_take" = true) (k17 : PySem.W.keepIn K (.ref f17) = true)
    {f18 : Addr} {od18 an18 : Option Addr} {sl18 : Array (Option Value)} {oc18 kV18 dc18 pm18 cd18 ct18 : Value}
    (a18 : PySem.W.nsIn K mainGlobals "_law_is_integer" = some (some (.ref f18))) (l18 : K.lookup f18 = some ⟨oc18, od18, .func (PySem.W.fnOf "_law_is_integer" "_law_is_integer" (defArgs st__law_is_integer) (defBody st__law_is_integer) (defScope st__law_is_integer) .none kV18 dc18 pm18 an18 cd18 ct18), sl18⟩) (c18 : PySem.W.codeIn K cd18 "_law_is_integer" = true) (k18 : PySem.W.keepIn K (.ref f18) = true)
    {f19 : Addr} {od19 an19 : Option Addr} {sl19 : Array (Option Value)} {oc19 kV19 dc19 pm19 cd19 ct19 : Value}
    (a19 : PySem.W.nsIn K mainGlobals "_law_same_items" = some (some (.ref f19))) (l19 : K.lookup f19 = some ⟨oc19, od19, .func (PySem.W.fnOf "_law_same_items" "_law_same_items" (defArgs st__law_same_items) (defBody st__law_same_items) (defScope st__law_same_items) .none kV19 dc19 pm19 an19 cd19 ct19), sl19⟩) (c19 : PySem.W.codeIn K cd19 "_law_same_items" = true) (k19 : PySem.W.keepIn K (.ref f19) = true)
    {f20 : Addr} {od20 an20 : Option Addr} {sl20 : Array (Option Value)} {oc20 kV20 dc20 pm20 cd20 ct20 : Value}
    (a20 : PySem.W.nsIn K mainGlobals "_law_same" = some (some (.ref f20))) (l20 : K.lookup f20 = some ⟨oc20, od20, .func (PySem.W.fnOf "_law_same" "_law_same" (defArgs st__law_same) (defBody st__law_same) (defScope st__law_same) .none kV20 dc20 pm20 an20 cd20 ct20), sl20⟩) (c20 : PySem.W.codeIn K cd20 "_law_same" = true) (k20 : PySem.W.keepIn K (.ref f20) = true)
    {f21 : Addr} {od21 an21 : Option Addr} {sl21 : Array (Option Value)} {oc21 kV21 dc21 pm21 cd21 ct21 : Value}
    (a21 : PySem.W.nsIn K mainGlobals "_law_datum" = some (some (.ref f21))) (l21 : K.lookup f21 = some ⟨oc21, od21, .func (PySem.W.fnOf "_law_datum" "_law_datum" (defArgs st__law_datum) (defBody st__law_datum) (defScope st__law_datum) .none kV21 dc21 pm21 an21 cd21 ct21), sl21⟩) (c21 : PySem.W.codeIn K cd21 "_law_datum" = true) (k21 : PySem.W.keepIn K (.ref f21) = true)
    {f22 : Addr} {od22 an22 : Option Addr} {sl22 : Array (Option Value)} {oc22 kV22 dc22 pm22 cd22 ct22 : Value}
    (a22 : PySem.W.nsIn K mainGlobals "_law_scope" = some (some (.ref f22))) (l22 : K.lookup f22 = some ⟨oc22, od22, .func (PySem.W.fnOf "_law_scope" "_law_scope" (defArgs st__law_scope) (defBody st__law_scope) (defScope st__law_scope) .none kV22 dc22 pm22 an22 cd22 ct22), sl22⟩) (c22 : PySem.W.codeIn K cd22 "_law_scope" = true) (k22 : PySem.W.keepIn K (.ref f22) = true)
    {f23 : Addr} {od23 an23 : Option Addr} {sl23 : Array (Option Value)} {oc23 kV23 dc23 pm23 cd23 ct23 : Value}
    (a23 : PySem.W.nsIn K mainGlobals "_law_scopes" = some (some (.ref f23))) (l23 : K.lookup f23 = some ⟨oc23, od23, .func (PySem.W.fnOf "_law_scopes" "_law_scopes" (defArgs st__law_scopes) (defBody st__law_scopes) (defScope st__law_scopes) .none kV23 dc23 pm23 an23 cd23 ct23), sl23⟩) (c23 : PySem.W.codeIn K cd23 "_law_scopes" = true) (k23 : PySem.W.keepIn K (.ref f23) = true)
    {f24 : Addr} {od24 an24 : Option Addr} {sl24 : Array (Option Value)} {oc24 kV24 dc24 pm24 cd24 ct24 : Value}
    (a24 : PySem.W.nsIn K mainGlobals "_law_syntax" = some (some (.ref f24))) (l24 : K.lookup f24 = some ⟨oc24, od24, .func (PySem.W.fnOf "_law_syntax" "_law_syntax" (defArgs st__law_syntax) (defBody st__law_syntax) (defScope st__law_syntax) .none kV24 dc24 pm24 an24 cd24 ct24), sl24⟩) (c24 : PySem.W.codeIn K cd24 "_law_syntax" = true) (k24 : PySem.W.keepIn K (.ref f24) = true)
    {f25 : Addr} {od25 an25 : Option Addr} {sl25 : Array (Option Value)} {oc25 kV25 dc25 pm25 cd25 ct25 : Value}
    (a25 : PySem.W.nsIn K mainGlobals "_law_mapped" = some (some (.ref f25))) (l25 : K.lookup f25 = some ⟨oc25, od25, .func (PySem.W.fnOf "_law_mapped" "_law_mapped" (defArgs st__law_mapped) (defBody st__law_mapped) (defScope st__law_mapped) .none kV25 dc25 pm25 an25 cd25 ct25), sl25⟩) (c25 : PySem.W.codeIn K cd25 "_law_mapped" = true) (k25 : PySem.W.keepIn K (.ref f25) = true)
    {f26 : Addr} {od26 an26 : Option Addr} {sl26 : Array (Option Value)} {oc26 kV26 dc26 pm26 cd26 ct26 : Value}
    (a26 : PySem.W.nsIn K mainGlobals "_law_turned" = some (some (.ref f26))) (l26 : K.lookup f26 = some ⟨oc26, od26, .func (PySem.W.fnOf "_law_turned" "_law_turned" (defArgs st__law_turned) (defBody st__law_turned) (defScope st__law_turned) .none kV26 dc26 pm26 an26 cd26 ct26), sl26⟩) (c26 : PySem.W.codeIn K cd26 "_law_turned" = true) (k26 : PySem.W.keepIn K (.ref f26) = true)
    {f27 : Addr} {od27 an27 : Option Addr} {sl27 : Array (Option Value)} {oc27 kV27 dc27 pm27 cd27 ct27 : Value}
    (a27 : PySem.W.nsIn K mainGlobals "_law_flat" = some (some (.ref f27))) (l27 : K.lookup f27 = some ⟨oc27, od27, .func (PySem.W.fnOf "_law_flat" "_law_flat" (defArgs st__law_flat) (defBody st__law_flat) (defScope st__law_flat) .none kV27 dc27 pm27 an27 cd27 ct27), sl27⟩) (c27 : PySem.W.codeIn K cd27 "_law_flat" = true) (k27 : PySem.W.keepIn K (.ref f27) = true)
    {f28 : Addr} {od28 an28 : Option Addr} {sl28 : Array (Option Value)} {oc28 kV28 dc28 pm28 cd28 ct28 : Value}
    (a28 : PySem.W.nsIn K mainGlobals "_law_depth" = some (some (.ref f28))) (l28 : K.lookup f28 = some ⟨oc28, od28, .func (PySem.W.fnOf "_law_depth" "_law_depth" (defArgs st__law_depth) (defBody st__law_depth) (defScope st__law_depth) .none kV28 dc28 pm28 an28 cd28 ct28), sl28⟩) (c28 : PySem.W.codeIn K cd28 "_law_depth" = true) (k28 : PySem.W.keepIn K (.ref f28) = true)
    {f29 : Addr} {od29 an29 : Option Addr} {sl29 : Array (Option Value)} {oc29 kV29 dc29 pm29 cd29 ct29 : Value}
    (a29 : PySem.W.nsIn K mainGlobals "_law_sets" = some (some (.ref f29))) (l29 : K.lookup f29 = some ⟨oc29, od29, .func (PySem.W.fnOf "_law_sets" "_law_sets" (defArgs st__law_sets) (defBody st__law_sets) (defScope st__law_sets) .none kV29 dc29 pm29 an29 cd29 ct29), sl29⟩) (c29 : PySem.W.codeIn K cd29 "_law_sets" = true) (k29 : PySem.W.keepIn K (.ref f29) = true)
    {f30 cc30 Pc30 : Addr} {od30 an30 : Option Addr} {sl30 : Array (Option Value)} {oc30 kV30 dc30 pm30 ct30 : Value}
    (a30 : PySem.W.nsIn K mainGlobals "law" = some (some (.ref f30))) (l30 : K.lookup f30 = some ⟨oc30, od30, .func (PySem.W.fnOf "law" "law" (defArgs st_law) (defBody st_law) (defScope st_law) .none kV30 dc30 pm30 an30 (.ref cc30) ct30), sl30⟩) (c30 : PySem.W.codeIn K (.ref cc30) "law" = true) (k30 : PySem.W.keepIn K (.ref f30) = true)
    (hd30 : PySem.W.codeHdIn K cc30 Pc30 = true) (nl30 : K.lookup Pc30 = none)
    (z0 : PySem.W.nsIn K mainGlobals "len" = some none)
    (z1 : PySem.W.nsIn K mainGlobals "all" = some none)
    (z2 : PySem.W.nsIn K mainGlobals "tuple" = some none)
    (z3 : PySem.W.nsIn K mainGlobals "sorted" = some none)
    (z4 : PySem.W.nsIn K mainGlobals "sum" = some none)
    (z5 : PySem.W.nsIn K mainGlobals "max" = some none)
    (z6 : PySem.W.nsIn K mainGlobals "isinstance" = some none)
    (z7 : PySem.W.nsIn K mainGlobals "str" = some none)
    (z8 : PySem.W.nsIn K mainGlobals "int" = some none)
    (z9 : PySem.W.nsIn K mainGlobals "bool" = some none)
    (z10 : PySem.W.nsIn K mainGlobals "range" = some none)
    (z11 : PySem.W.nsIn K mainGlobals "abs" = some none)
    (z12 : PySem.W.nsIn K mainGlobals "list" = some none)
    (z13 : PySem.W.nsIn K mainGlobals "dict" = some none)
    {gt0 : Tok} (vv0 : PySem.W.nsIn K mainGlobals "LONGEST_NAME" = some (some (.int 20 gt0)))
    {gt1 : Tok} (vv1 : PySem.W.nsIn K mainGlobals "NAME_SIGNS" = some (some (.str "abcdefghijklmnopqrstuvwxyz0123456789!*+-./:<=>?_" gt1)))
    {gt2 : Tok} (vv2 : PySem.W.nsIn K mainGlobals "FIGURES" = some (some (.str "0123456789" gt2)))
    {ta0 : Addr} {tu0 : Obj} {ti0 : Array Value} {tn0 : Nat} (tg0 : PySem.W.nsIn K mainGlobals "SPECIAL_NAMES" = some (some (.ref ta0))) (tl0 : K.lookup ta0 = some tu0) (tc0 : tu0.cls = .type "tuple") (td0 : tu0.data = .seq ti0 tn0) (tz0 : ti0.size ≤ sizeLine)
    (tr0 : Paired (fun (u : Value) (d : D) => Gv d u) ti0.toList tup_SPECIAL_NAMES)
    : Top K mg where
  D_is_name := ⟨_, _, fun_mk (st := st_is_name) l0 c0 k0, PySem.W.mg_of X G a0, (fun_mk (st := st_is_name) l0 c0 k0).binds (ps := ["text"]) fun _ _ _ _ _ _ us hl => match us, hl with | [_], _ => rfl⟩
  D_syntax_of := ⟨_, _, fun_mk (st := st_syntax_of) l1 c1 k1, PySem.W.mg_of X G a1, (fun_mk (st := st_syntax_of) l1 c1 k1).binds (ps := ["module", "datum", "scopes"]) fun _ _ _ _ _ _ us hl => match us, hl with | [_, _, _], _ => rfl⟩
  D_datum_of := ⟨_, _, fun_mk (st := st_datum_of) l2 c2 k2, PySem.W.mg_of X G a2, (fun_mk (st := st_datum_of) l2 c2 k2).binds (ps := ["syntax"]) fun _ _ _ _ _ _ us hl => match us, hl with | [_], _ => rfl⟩
  D_occurrence_of := ⟨_, _, fun_mk (st := st_occurrence_of) l3 c3 k3, PySem.W.mg_of X G a3, (fun_mk (st := st_occurrence_of) l3 c3 k3).binds (ps := ["syntax"]) fun _ _ _ _ _ _ us hl => match us, hl with | [_], _ => rfl⟩
  D_with_scope := ⟨_, _, fun_mk (st := st_with_scope) l4 c4 k4, PySem.W.mg_of X G a4, (fun_mk (st := st_with_scope) l4 c4 k4).binds (ps := ["scopes", "scope"]) fun _ _ _ _ _ _ us hl => match us, hl with | [_, _], _ => rfl⟩
  D_without_scope := ⟨_, _, fun_mk (st := st_without_scope) l5 c5 k5, PySem.W.mg_of X G a5, (fun_mk (st := st_without_scope) l5 c5 k5).binds (ps := ["scopes", "scope"]) fun _ _ _ _ _ _ us hl => match us, hl with | [_, _], _ => rfl⟩
  D_turned_scope := ⟨_, _, fun_mk (st := st_turned_scope) l6 c6 k6, PySem.W.mg_of X G a6, (fun_mk (st := st_turned_scope) l6 c6 k6).binds (ps := ["scopes", "scope"]) fun _ _ _ _ _ _ us hl => match us, hl with | [_, _], _ => rfl⟩
  D_changed := ⟨_, _, fun_mk (st := st_changed) l7 c7 k7, PySem.W.mg_of X G a7, (fun_mk (st := st_changed) l7 c7 k7).binds (ps := ["syntax", "scope", "change"]) fun _ _ _ _ _ _ us hl => match us, hl with | [_, _, _], _ => rfl⟩
  D_added := ⟨_, _, fun_mk (st := st_added) l8 c8 k8, PySem.W.mg_of X G a8, (fun_mk (st := st_added) l8 c8 k8).binds (ps := ["syntax", "scope"]) fun _ _ _ _ _ _ us hl => match us, hl with | [_, _], _ => rfl⟩
  D_removed := ⟨_, _, fun_mk (st := st_removed) l9 c9 k9, PySem.W.mg_of X G a9, (fun_mk (st := st_removed) l9 c9 k9).binds (ps := ["syntax", "scope"]) fun _ _ _ _ _ _ us hl => match us, hl with | [_, _], _ => rfl⟩
  D_flipped := ⟨_, _, fun_mk (st := st_flipped) l10 c10 k10, PySem.W.mg_of X G a10, (fun_mk (st := st_flipped) l10 c10 k10).binds (ps := ["syntax", "scope"]) fun _ _ _ _ _ _ us hl => match us, hl with | [_, _], _ => rfl⟩
  D_identifiers := ⟨_, _, fun_mk (st := st_identifiers) l11 c11 k11, PySem.W.mg_of X G a11, (fun_mk (st := st_identifiers) l11 c11 k11).binds (ps := ["syntax"]) fun _ _ _ _ _ _ us hl => match us, hl with | [_], _ => rfl⟩
  D_size := ⟨_, _, fun_mk (st := st_size) l12 c12 k12, PySem.W.mg_of X G a12, (fun_mk (st := st_size) l12 c12 k12).binds (ps := ["syntax"]) fun _ _ _ _ _ _ us hl => match us, hl with | [_], _ => rfl⟩
  D_depth := ⟨_, _, fun_mk (st := st_depth) l13 c13 k13, PySem.W.mg_of X G a13, (fun_mk (st := st_depth) l13 c13 k13).binds (ps := ["syntax"]) fun _ _ _ _ _ _ us hl => match us, hl with | [_], _ => rfl⟩
  D_is_scope := ⟨_, _, fun_mk (st := st_is_scope) l14 c14 k14, PySem.W.mg_of X G a14, (fun_mk (st := st_is_scope) l14 c14 k14).binds (ps := ["value"]) fun _ _ _ _ _ _ us hl => match us, hl with | [_], _ => rfl⟩
  D_is_set := ⟨_, _, fun_mk (st := st_is_set) l15 c15 k15, PySem.W.mg_of X G a15, (fun_mk (st := st_is_set) l15 c15 k15).binds (ps := ["value"]) fun _ _ _ _ _ _ us hl => match us, hl with | [_], _ => rfl⟩
  D__law_tape := ⟨_, _, fun_mk (st := st__law_tape) l16 c16 k16, PySem.W.mg_of X G a16, (fun_mk (st := st__law_tape) l16 c16 k16).binds (ps := ["script"]) fun _ _ _ _ _ _ us hl => match us, hl with | [_], _ => rfl⟩
  D__law_take := ⟨_, _, fun_mk (st := st__law_take) l17 c17 k17, PySem.W.mg_of X G a17, (fun_mk (st := st__law_take) l17 c17 k17).binds (ps := ["tape", "many"]) fun _ _ _ _ _ _ us hl => match us, hl with | [_, _], _ => rfl⟩
  D__law_is_integer := ⟨_, _, fun_mk (st := st__law_is_integer) l18 c18 k18, PySem.W.mg_of X G a18, (fun_mk (st := st__law_is_integer) l18 c18 k18).binds (ps := ["actual"]) fun _ _ _ _ _ _ us hl => match us, hl with | [_], _ => rfl⟩
  D__law_same_items := ⟨_, _, fun_mk (st := st__law_same_items) l19 c19 k19, PySem.W.mg_of X G a19, (fun_mk (st := st__law_same_items) l19 c19 k19).binds (ps := ["actual", "expected"]) fun _ _ _ _ _ _ us hl => match us, hl with | [_, _], _ => rfl⟩
  D__law_same := ⟨_, _, fun_mk (st := st__law_same) l20 c20 k20, PySem.W.mg_of X G a20, (fun_mk (st := st__law_same) l20 c20 k20).binds (ps := ["actual", "expected"]) fun _ _ _ _ _ _ us hl => match us, hl with | [_, _], _ => rfl⟩
  D__law_datum := ⟨_, _, fun_mk (st := st__law_datum) l21 c21 k21, PySem.W.mg_of X G a21, (fun_mk (st := st__law_datum) l21 c21 k21).binds (ps := ["tape", "count", "level"]) fun _ _ _ _ _ _ us hl => match us, hl with | [_, _, _], _ => rfl⟩
  D__law_scope := ⟨_, _, fun_mk (st := st__law_scope) l22 c22 k22, PySem.W.mg_of X G a22, (fun_mk (st := st__law_scope) l22 c22 k22).binds (ps := ["tape"]) fun _ _ _ _ _ _ us hl => match us, hl with | [_], _ => rfl⟩
  D__law_scopes := ⟨_, _, fun_mk (st := st__law_scopes) l23 c23 k23, PySem.W.mg_of X G a23, (fun_mk (st := st__law_scopes) l23 c23 k23).binds (ps := ["tape"]) fun _ _ _ _ _ _ us hl => match us, hl with | [_], _ => rfl⟩
  D__law_syntax := ⟨_, _, fun_mk (st := st__law_syntax) l24 c24 k24, PySem.W.mg_of X G a24, (fun_mk (st := st__law_syntax) l24 c24 k24).binds (ps := ["tape", "module", "datum"]) fun _ _ _ _ _ _ us hl => match us, hl with | [_, _, _], _ => rfl⟩
  D__law_mapped := ⟨_, _, fun_mk (st := st__law_mapped) l25 c25 k25, PySem.W.mg_of X G a25, (fun_mk (st := st__law_mapped) l25 c25 k25).binds (ps := ["syntax", "change"]) fun _ _ _ _ _ _ us hl => match us, hl with | [_, _], _ => rfl⟩
  D__law_turned := ⟨_, _, fun_mk (st := st__law_turned) l26 c26 k26, PySem.W.mg_of X G a26, (fun_mk (st := st__law_turned) l26 c26 k26).binds (ps := ["held", "scope"]) fun _ _ _ _ _ _ us hl => match us, hl with | [_, _], _ => rfl⟩
  D__law_flat := ⟨_, _, fun_mk (st := st__law_flat) l27 c27 k27, PySem.W.mg_of X G a27, (fun_mk (st := st__law_flat) l27 c27 k27).binds (ps := ["syntax"]) fun _ _ _ _ _ _ us hl => match us, hl with | [_], _ => rfl⟩
  D__law_depth := ⟨_, _, fun_mk (st := st__law_depth) l28 c28 k28, PySem.W.mg_of X G a28, (fun_mk (st := st__law_depth) l28 c28 k28).binds (ps := ["syntax"]) fun _ _ _ _ _ _ us hl => match us, hl with | [_], _ => rfl⟩
  D__law_sets := ⟨_, _, fun_mk (st := st__law_sets) l29 c29 k29, PySem.W.mg_of X G a29, (fun_mk (st := st__law_sets) l29 c29 k29).binds (ps := ["tape"]) fun _ _ _ _ _ _ us hl => match us, hl with | [_], _ => rfl⟩
  C_law := ⟨cc30, Pc30, ⟨_, _, _, _, _, _, _, _, rfl, l30, c30⟩, hd30, nl30⟩
  D_law := ⟨_, _, fun_mk (st := st_law) l30 c30 k30, PySem.W.mg_of X G a30, (fun_mk (st := st_law) l30 c30 k30).binds (ps := ["script"]) fun _ _ _ _ _ _ us hl => match us, hl with | [_], _ => rfl⟩
  z_len := PySem.W.mg_none_of X G z0
  z_all := PySem.W.mg_none_of X G z1
  z_tuple := PySem.W.mg_none_of X G z2
  z_sorted := PySem.W.mg_none_of X G z3
  z_sum := PySem.W.mg_none_of X G z4
  z_max := PySem.W.mg_none_of X G z5
  z_isinstance := PySem.W.mg_none_of X G z6
  z_str := PySem.W.mg_none_of X G z7
  z_int := PySem.W.mg_none_of X G z8
  z_bool := PySem.W.mg_none_of X G z9
  z_range := PySem.W.mg_none_of X G z10
  z_abs := PySem.W.mg_none_of X G z11
  z_list := PySem.W.mg_none_of X G z12
  z_dict := PySem.W.mg_none_of X G z13
  gt_LONGEST_NAME := gt0
  g_LONGEST_NAME := PySem.W.mg_of X G vv0
  gt_NAME_SIGNS := gt1
  g_NAME_SIGNS := PySem.W.mg_of X G vv1
  gt_FIGURES := gt2
  g_FIGURES := PySem.W.mg_of X G vv2
  g_SPECIAL_NAMES := ⟨_, _, _, _, PySem.W.mg_of X G tg0, tl0, tc0, td0, tz0, tr0⟩
  bl := fun s v => .of_eq rfl
theorem go_is_name (T : Top K mg) {k : Nat} {F : TF}  (hB : Body F 3 1 (t_is_name)) : FnD Pg w K mg base T.D_is_name (k + 1) F := ok_is_name T.D_is_name T.z_len T.z_all T.g_LONGEST_NAME T.g_NAME_SIGNS T.g_FIGURES T.g_SPECIAL_NAMES hB
theorem go_syntax_of (T : Top K mg) {k : Nat} {F : TF} {F_syntax_of : TF} {k_syntax_of : Nat} (G_syntax_of : FnD Pg w K mg base T.D_syntax_of k_syntax_of F_syntax_of) (h_syntax_of : k_syntax_of ≤ k) (hB : Body F 8 3 (t_syntax_of F_syntax_of)) : FnD Pg w K mg base T.D_syntax_of (k + 1) F := ok_syntax_of T.D_syntax_of T.z_tuple G_syntax_of h_syntax_of hB
theorem go_datum_of (T : Top K mg) {k : Nat} {F : TF} {F_occurrence_of : TF} {k_occurrence_of : Nat} (G_occurrence_of : FnD Pg w K mg base T.D_occurrence_of k_occurrence_of F_occurrence_of) (h_occurrence_of : k_occurrence_of ≤ k) {F_datum_of : TF} {k_datum_of : Nat} (G_datum_of : FnD Pg w K mg base T.D_datum_of k_datum_of F_datum_of) (h_datum_of : k_datum_of ≤ k) (hB : Body F 3 1 (t_datum_of F_occurrence_of F_datum_of)) : FnD Pg w K mg base T.D_datum_of (k + 1) F := ok_datum_of T.D_datum_of T.z_tuple T.D_occurrence_of G_occurrence_of h_occurrence_of G_datum_of h_datum_of hB
theorem go_occurrence_of (T : Top K mg) {k : Nat} {F : TF}  (hB : Body F 1 1 (t_occurrence_of)) : FnD Pg w K mg base T.D_occurrence_of (k + 1) F := ok_occurrence_of T.D_occurrence_of  hB
theorem go_with_scope (T : Top K mg) {k : Nat} {F : TF}  (hB : Body F 2 2 (t_with_scope)) : FnD Pg w K mg base T.D_with_scope (k + 1) F := ok_with_scope T.D_with_scope T.z_sorted T.z_tuple hB
theorem go_without_scope (T : Top K mg) {k : Nat} {F : TF}  (hB : Body F 3 2 (t_without_scope)) : FnD Pg w K mg base T.D_without_scope (k + 1) F := ok_without_scope T.D_without_scope T.z_tuple hB
theorem go_turned_scope (T : Top K mg) {k : Nat} {F : TF} {F_without_scope : TF} {k_without_scope : Nat} (G_without_scope : FnD Pg w K mg base T.D_without_scope k_without_scope F_without_scope) (h_without_scope : k_without_scope ≤ k) {F_with_scope : TF} {k_with_scope : Nat} (G_with_scope : FnD Pg w K mg base T.D_with_scope k_with_scope F_with_scope) (h_with_scope : k_with_scope ≤ k) (hB : Body F 2 2 (t_turned_scope F_without_scope F_with_scope)) : FnD Pg w K mg base T.D_turned_scope (k + 1) F := ok_turned_scope T.D_turned_scope T.D_without_scope G_without_scope h_without_scope T.D_with_scope G_with_scope h_with_scope hB
theorem go_changed (T : Top K mg) {k : Nat} {F : TF} {F_changed : TF} {k_changed : Nat} (G_changed : FnD Pg w K mg base T.D_changed k_changed F_changed) (h_changed : k_changed ≤ k) {Pv_change : D → Prop} {Fv_change : D → TF} {kv_change : Nat} (V_change : ∀ d, Pv_change d → FnV Pg w K mg base kv_change 2 d (Fv_change d)) (hv_change : kv_change ≤ k) (hB : Body F 4 3 (t_changed F_changed Pv_change Fv_change)) : FnD Pg w K mg base T.D_changed (k + 1) F := ok_changed T.D_changed T.z_tuple G_changed h_changed V_change hv_change hB
theorem go_added (T : Top K mg) {k : Nat} {F : TF} {F_changed : TF} {k_changed : Nat} (G_changed : FnD Pg w K mg base T.D_changed k_changed F_changed) (h_changed : k_changed ≤ k) (hB : Body F 2 2 (t_added F_changed T.D_with_scope.f)) : FnD Pg w K mg base T.D_added (k + 1) F := ok_added T.D_added T.D_changed G_changed h_changed T.D_with_scope hB
theorem go_removed (T : Top K mg) {k : Nat} {F : TF} {F_changed : TF} {k_changed : Nat} (G_changed : FnD Pg w K mg base T.D_changed k_changed F_changed) (h_changed : k_changed ≤ k) (hB : Body F 2 2 (t_removed F_changed T.D_without_scope.f)) : FnD Pg w K mg base T.D_removed (k + 1) F := ok_removed T.D_removed T.D_changed G_changed h_changed T.D_without_scope hB
theorem go_flipped (T : Top K mg) {k : Nat} {F : TF} {F_changed : TF} {k_changed : Nat} (G_changed : FnD Pg w K mg base T.D_changed k_changed F_changed) (h_changed : k_changed ≤ k) (hB : Body F 2 2 (t_flipped F_changed T.D_turned_scope.f)) : FnD Pg w K mg base T.D_flipped (k + 1) F := ok_flipped T.D_flipped T.D_changed G_changed h_changed T.D_turned_scope hB
theorem go_identifiers (T : Top K mg) {k : Nat} {F : TF} {F_identifiers : TF} {k_identifiers : Nat} (G_identifiers : FnD Pg w K mg base T.D_identifiers k_identifiers F_identifiers) (h_identifiers : k_identifiers ≤ k) (hB : Body F 3 1 (t_identifiers F_identifiers)) : FnD Pg w K mg base T.D_identifiers (k + 1) F := ok_identifiers T.D_identifiers G_identifiers h_identifiers hB
theorem go_size (T : Top K mg) {k : Nat} {F : TF} {F_size : TF} {k_size : Nat} (G_size : FnD Pg w K mg base T.D_size k_size F_size) (h_size : k_size ≤ k) (hB : Body F 2 1 (t_size F_size)) : FnD Pg w K mg base T.D_size (k + 1) F := ok_size T.D_size T.z_sum G_size h_size hB
theorem go_depth (T : Top K mg) {k : Nat} {F : TF} {F_depth : TF} {k_depth : Nat} (G_depth : FnD Pg w K mg base T.D_depth k_depth F_depth) (h_depth : k_depth ≤ k) (hB : Body F 2 1 (t_depth F_depth)) : FnD Pg w K mg base T.D_depth (k + 1) F := ok_depth T.D_depth T.z_max G_depth h_depth hB
theorem go_is_scope (T : Top K mg) {k : Nat} {F : TF} {F_is_name : TF} {k_is_name : Nat} (G_is_name : FnD Pg w K mg base T.D_is_name k_is_name F_is_name) (h_is_name : k_is_name ≤ k) (hB : Body F 2 1 (t_is_scope F_is_name)) : FnD Pg w K mg base T.D_is_scope (k + 1) F := ok_is_scope T.D_is_scope T.z_tuple T.z_isinstance T.z_len T.z_str T.z_int T.z_bool T.z_all T.D_is_name G_is_name h_is_name hB
theorem go_is_set (T : Top K mg) {k : Nat} {F : TF} {F_is_scope : TF} {k_is_scope : Nat} (G_is_scope : FnD Pg w K mg base T.D_is_scope k_is_scope F_is_scope) (h_is_scope : k_is_scope ≤ k) (hB : Body F 3 1 (t_is_set F_is_scope)) : FnD Pg w K mg base T.D_is_set (k + 1) F := ok_is_set T.D_is_set T.z_tuple T.z_isinstance T.z_all T.z_range T.z_len T.D_is_scope G_is_scope h_is_scope hB
theorem go__law_tape (T : Top K mg) {k : Nat} {F : TF}  (hB : Body F 4 1 (t__law_tape)) : FnD Pg w K mg base T.D__law_tape (k + 1) F := ok__law_tape T.D__law_tape T.z_int T.z_abs hB
theorem go__law_take (T : Top K mg) {k : Nat} {F : TF}  (hB : Body F 4 2 (t__law_take)) : FnD Pg w K mg base T.D__law_take (k + 1) F := ok__law_take T.D__law_take T.z_len T.z_int hB
theorem go__law_is_integer (T : Top K mg) {k : Nat} {F : TF}  (hB : Body F 1 1 (t__law_is_integer)) : FnD Pg w K mg base T.D__law_is_integer (k + 1) F := ok__law_is_integer T.D__law_is_integer T.z_int T.z_isinstance T.z_bool hB
theorem go__law_same_items (T : Top K mg) {k : Nat} {F : TF} {F__law_same : TF} {k__law_same : Nat} (G__law_same : FnD Pg w K mg base T.D__law_same k__law_same F__law_same) (h__law_same : k__law_same ≤ k) (hB : Body F 3 2 (t__law_same_items F__law_same)) : FnD Pg w K mg base T.D__law_same_items (k + 1) F := ok__law_same_items T.D__law_same_items T.z_len T.z_range T.D__law_same G__law_same h__law_same hB
theorem go__law_same (T : Top K mg) {k : Nat} {F : TF} {F__law_is_integer : TF} {k__law_is_integer : Nat} (G__law_is_integer : FnD Pg w K mg base T.D__law_is_integer k__law_is_integer F__law_is_integer) (h__law_is_integer : k__law_is_integer ≤ k) {F__law_same_items : TF} {k__law_same_items : Nat} (G__law_same_items : FnD Pg w K mg base T.D__law_same_items k__law_same_items F__law_same_items) (h__law_same_items : k__law_same_items ≤ k) {F__law_same : TF} {k__law_same : Nat} (G__law_same : FnD Pg w K mg base T.D__law_same k__law_same F__law_same) (h__law_same : k__law_same ≤ k) (hB : Body F 3 2 (t__law_same F__law_is_integer F__law_same_items F__law_same)) : FnD Pg w K mg base T.D__law_same (k + 1) F := ok__law_same T.D__law_same T.z_bool T.z_isinstance T.z_int T.z_str T.z_tuple T.z_list T.z_dict T.z_len T.D__law_is_integer G__law_is_integer h__law_is_integer T.D__law_same_items G__law_same_items h__law_same_items G__law_same h__law_same hB
theorem go__law_datum (T : Top K mg) {k : Nat} {F : TF} {F__law_take : TF} {k__law_take : Nat} (G__law_take : FnD Pg w K mg base T.D__law_take k__law_take F__law_take) (h__law_take : k__law_take ≤ k) {F__law_datum : TF} {k__law_datum : Nat} (G__law_datum : FnD Pg w K mg base T.D__law_datum k__law_datum F__law_datum) (h__law_datum : k__law_datum ≤ k) (hB : Body F 8 3 (t__law_datum F__law_take F__law_datum)) : FnD Pg w K mg base T.D__law_datum (k + 1) F := ok__law_datum T.D__law_datum T.z_range T.z_tuple T.D__law_take G__law_take h__law_take G__law_datum h__law_datum hB
theorem go__law_scope (T : Top K mg) {k : Nat} {F : TF} {F__law_take : TF} {k__law_take : Nat} (G__law_take : FnD Pg w K mg base T.D__law_take k__law_take F__law_take) (h__law_take : k__law_take ≤ k) (hB : Body F 1 1 (t__law_scope F__law_take)) : FnD Pg w K mg base T.D__law_scope (k + 1) F := ok__law_scope T.D__law_scope T.D__law_take G__law_take h__law_take hB
theorem go__law_scopes (T : Top K mg) {k : Nat} {F : TF} {F__law_take : TF} {k__law_take : Nat} (G__law_take : FnD Pg w K mg base T.D__law_take k__law_take F__law_take) (h__law_take : k__law_take ≤ k) {F__law_scope : TF} {k__law_scope : Nat} (G__law_scope : FnD Pg w K mg base T.D__law_scope k__law_scope F__law_scope) (h__law_scope : k__law_scope ≤ k) (hB : Body F 4 1 (t__law_scopes F__law_take F__law_scope)) : FnD Pg w K mg base T.D__law_scopes (k + 1) F := ok__law_scopes T.D__law_scopes T.z_range T.z_sorted T.z_tuple T.D__law_take G__law_take h__law_take T.D__law_scope G__law_scope h__law_scope hB
theorem go__law_syntax (T : Top K mg) {k : Nat} {F : TF} {F__law_scopes : TF} {k__law_scopes : Nat} (G__law_scopes : FnD Pg w K mg base T.D__law_scopes k__law_scopes F__law_scopes) (h__law_scopes : k__law_scopes ≤ k) {F__law_syntax : TF} {k__law_syntax : Nat} (G__law_syntax : FnD Pg w K mg base T.D__law_syntax k__law_syntax F__law_syntax) (h__law_syntax : k__law_syntax ≤ k) (hB : Body F 7 3 (t__law_syntax F__law_scopes F__law_syntax)) : FnD Pg w K mg base T.D__law_syntax (k + 1) F := ok__law_syntax T.D__law_syntax T.z_tuple T.D__law_scopes G__law_scopes h__law_scopes G__law_syntax h__law_syntax hB
theorem go__law_mapped (T : Top K mg) {k : Nat} {F : TF} {F__law_mapped : TF} {k__law_mapped : Nat} (G__law_mapped : FnD Pg w K mg base T.D__law_mapped k__law_mapped F__law_mapped) (h__law_mapped : k__law_mapped ≤ k) {Pv_change : D → Prop} {Fv_change : D → TF} {kv_change : Nat} (V_change : ∀ d, Pv_change d → FnV Pg w K mg base kv_change 1 d (Fv_change d)) (hv_change : kv_change ≤ k) (hB : Body F 3 2 (t__law_mapped F__law_mapped Pv_change Fv_change)) : FnD Pg w K mg base T.D__law_mapped (k + 1) F := ok__law_mapped T.D__law_mapped T.z_list T.z_sorted T.z_tuple G__law_mapped h__law_mapped V_change hv_change hB
theorem go__law_turned (T : Top K mg) {k : Nat} {F : TF}  (hB : Body F 3 2 (t__law_turned)) : FnD Pg w K mg base T.D__law_turned (k + 1) F := ok__law_turned T.D__law_turned  hB
theorem go__law_flat (T : Top K mg) {k : Nat} {F : TF} {F__law_flat : TF} {k__law_flat : Nat} (G__law_flat : FnD Pg w K mg base T.D__law_flat k__law_flat F__law_flat) (h__law_flat : k__law_flat ≤ k) (hB : Body F 3 1 (t__law_flat F__law_flat)) : FnD Pg w K mg base T.D__law_flat (k + 1) F := ok__law_flat T.D__law_flat G__law_flat h__law_flat hB
theorem go__law_depth (T : Top K mg) {k : Nat} {F : TF} {F__law_depth : TF} {k__law_depth : Nat} (G__law_depth : FnD Pg w K mg base T.D__law_depth k__law_depth F__law_depth) (h__law_depth : k__law_depth ≤ k) (hB : Body F 2 1 (t__law_depth F__law_depth)) : FnD Pg w K mg base T.D__law_depth (k + 1) F := ok__law_depth T.D__law_depth T.z_max G__law_depth h__law_depth hB
theorem go__law_sets (T : Top K mg) {k : Nat} {F : TF} {F__law_scopes : TF} {k__law_scopes : Nat} (G__law_scopes : FnD Pg w K mg base T.D__law_scopes k__law_scopes F__law_scopes) (h__law_scopes : k__law_scopes ≤ k) {F__law_take : TF} {k__law_take : Nat} (G__law_take : FnD Pg w K mg base T.D__law_take k__law_take F__law_take) (h__law_take : k__law_take ≤ k) {F_is_set : TF} {k_is_set : Nat} (G_is_set : FnD Pg w K mg base T.D_is_set k_is_set F_is_set) (h_is_set : k_is_set ≤ k) (hB : Body F 3 1 (t__law_sets F__law_scopes F__law_take F_is_set)) : FnD Pg w K mg base T.D__law_sets (k + 1) F := ok__law_sets T.D__law_sets T.z_list T.z_len T.D__law_scopes G__law_scopes h__law_scopes T.D__law_take G__law_take h__law_take T.D_is_set G_is_set h_is_set hB
theorem go_lam_law_1 (T : Top K mg) {k : Nat} {F : TF}  {f c : Addr} {cl : List (Str × Addr)} {vs : List V} {ds : List D} (a : LamAt base lam_law_1 f c cl vs) (hB : BodyL lam_law_1 F ds (t_lam_law_1)) : FnV Pg w K mg base (k + 1) 1 (.fnv f c lam_law_1.qual vs ds) F := ok_lam_law_1 T.z_list a hB
theorem go_lam_law_2 (T : Top K mg) {k : Nat} {F : TF}  {f c : Addr} {cl : List (Str × Addr)} {vs : List V} {ds : List D} (a : LamAt base lam_law_2 f c cl vs) (hB : BodyL lam_law_2 F ds (t_lam_law_2)) : FnV Pg w K mg base (k + 1) 1 (.fnv f c lam_law_2.qual vs ds) F := ok_lam_law_2  a hB
theorem go_lam_law_3 (T : Top K mg) {k : Nat} {F : TF}  {f c : Addr} {cl : List (Str × Addr)} {vs : List V} {ds : List D} (a : LamAt base lam_law_3 f c cl vs) (hB : BodyL lam_law_3 F ds (t_lam_law_3)) : FnV Pg w K mg base (k + 1) 1 (.fnv f c lam_law_3.qual vs ds) F := ok_lam_law_3  a hB
theorem go_lam_law_4 (T : Top K mg) {k : Nat} {F : TF} {F__law_turned : TF} {k__law_turned : Nat} (G__law_turned : FnD Pg w K mg base T.D__law_turned k__law_turned F__law_turned) (h__law_turned : k__law_turned ≤ k) {f c : Addr} {cl : List (Str × Addr)} {vs : List V} {ds : List D} (a : LamAt base lam_law_4 f c cl vs) (hB : BodyL lam_law_4 F ds (t_lam_law_4 F__law_turned)) : FnV Pg w K mg base (k + 1) 1 (.fnv f c lam_law_4.qual vs ds) F := ok_lam_law_4 T.D__law_turned G__law_turned h__law_turned a hB
theorem go_law (T : Top K mg) (TB : LamX.TabB base mg T.C_law.cd T.C_law.P) {k : Nat} {F : TF} {F__law_tape : TF} {k__law_tape : Nat} (G__law_tape : FnD Pg w K mg base T.D__law_tape k__law_tape F__law_tape) (h__law_tape : k__law_tape ≤ k) {F__law_datum : TF} {k__law_datum : Nat} (G__law_datum : FnD Pg w K mg base T.D__law_datum k__law_datum F__law_datum) (h__law_datum : k__law_datum ≤ k) {F__law_scopes : TF} {k__law_scopes : Nat} (G__law_scopes : FnD Pg w K mg base T.D__law_scopes k__law_scopes F__law_scopes) (h__law_scopes : k__law_scopes ≤ k) {F__law_syntax : TF} {k__law_syntax : Nat} (G__law_syntax : FnD Pg w K mg base T.D__law_syntax k__law_syntax F__law_syntax) (h__law_syntax : k__law_syntax ≤ k) {F_syntax_of : TF} {k_syntax_of : Nat} (G_syntax_of : FnD Pg w K mg base T.D_syntax_of k_syntax_of F_syntax_of) (h_syntax_of : k_syntax_of ≤ k) {F__law_same : TF} {k__law_same : Nat} (G__law_same : FnD Pg w K mg base T.D__law_same k__law_same F__law_same) (h__law_same : k__law_same ≤ k) {F_datum_of : TF} {k_datum_of : Nat} (G_datum_of : FnD Pg w K mg base T.D_datum_of k_datum_of F_datum_of) (h_datum_of : k_datum_of ≤ k) {F__law_scope : TF} {k__law_scope : Nat} (G__law_scope : FnD Pg w K mg base T.D__law_scope k__law_scope F__law_scope) (h__law_scope : k__law_scope ≤ k) {F_added : TF} {k_added : Nat} (G_added : FnD Pg w K mg base T.D_added k_added F_added) (h_added : k_added ≤ k) {F_removed : TF} {k_removed : Nat} (G_removed : FnD Pg w K mg base T.D_removed k_removed F_removed) (h_removed : k_removed ≤ k) {F_flipped : TF} {k_flipped : Nat} (G_flipped : FnD Pg w K mg base T.D_flipped k_flipped F_flipped) (h_flipped : k_flipped ≤ k) {F__law_flat : TF} {k__law_flat : Nat} (G__law_flat : FnD Pg w K mg base T.D__law_flat k__law_flat F__law_flat) (h__law_flat : k__law_flat ≤ k) {F_identifiers : TF} {k_identifiers : Nat} (G_identifiers : FnD Pg w K mg base T.D_identifiers k_identifiers F_identifiers) (h_identifiers : k_identifiers ≤ k) {F_size : TF} {k_size : Nat} (G_size : FnD Pg w K mg base T.D_size k_size F_size) (h_size : k_size ≤ k) {F_depth : TF} {k_depth : Nat} (G_depth : FnD Pg w K mg base T.D_depth k_depth F_depth) (h_depth : k_depth ≤ k) {F__law_depth : TF} {k__law_depth : Nat} (G__law_depth : FnD Pg w K mg base T.D__law_depth k__law_depth F__law_depth) (h__law_depth : k__law_depth ≤ k) {F__law_sets : TF} {k__law_sets : Nat} (G__law_sets : FnD Pg w K mg base T.D__law_sets k__law_sets F__law_sets) (h__law_sets : k__law_sets ≤ k) {Fl_1 : D → TF} {kl_1 : Nat} (GL_1 : ∀ (base : Heap) (f c : Addr) (cl : List (Str × Addr)) (vs : List V) (ds : List D), LamAt base lam_law_1 f c cl vs → FnD Pg w K mg base T.D__law_mapped kl_1 (Fl_1 (.fnv f c lam_law_1.qual vs ds))) (hl_1 : kl_1 ≤ k) {Fl_2 : D → TF} {kl_2 : Nat} (GL_2 : ∀ (base : Heap) (f c : Addr) (cl : List (Str × Addr)) (vs : List V) (ds : List D), LamAt base lam_law_2 f c cl vs → FnD Pg w K mg base T.D__law_mapped kl_2 (Fl_2 (.fnv f c lam_law_2.qual vs ds))) (hl_2 : kl_2 ≤ k) {Fl_3 : D → TF} {kl_3 : Nat} (GL_3 : ∀ (base : Heap) (f c : Addr) (cl : List (Str × Addr)) (vs : List V) (ds : List D), LamAt base lam_law_3 f c cl vs → FnD Pg w K mg base T.D__law_mapped kl_3 (Fl_3 (.fnv f c lam_law_3.qual vs ds))) (hl_3 : kl_3 ≤ k) {Fl_4 : D → TF} {kl_4 : Nat} (GL_4 : ∀ (base : Heap) (f c : Addr) (cl : List (Str × Addr)) (vs : List V) (ds : List D), LamAt base lam_law_4 f c cl vs → FnD Pg w K mg base T.D__law_mapped kl_4 (Fl_4 (.fnv f c lam_law_4.qual vs ds))) (hl_4 : kl_4 ≤ k) (hB : Body F 9 1 (t_law F__law_tape F__law_datum F__law_scopes F__law_syntax F_syntax_of F__law_same F_datum_of F__law_scope F_added F_removed F_flipped F__law_flat F_identifiers F_size F_depth F__law_depth F__law_sets Fl_1 Fl_2 Fl_3 Fl_4)) : FnOk Pg w K mg base CX0 (k + 1) T.D_law.f T.D_law.fd ["script"] (spT T.C_law.P "law.<locals>.<lambda>" K F 1) := ok_law T.D_law T.C_law TB T.z_len T.D__law_tape G__law_tape h__law_tape T.D__law_datum G__law_datum h__law_datum T.D__law_scopes G__law_scopes h__law_scopes T.D__law_syntax G__law_syntax h__law_syntax T.D_syntax_of G_syntax_of h_syntax_of T.D__law_same G__law_same h__law_same T.D_datum_of G_datum_of h_datum_of T.D__law_scope G__law_scope h__law_scope T.D_added G_added h_added T.D_removed G_removed h_removed T.D_flipped G_flipped h_flipped T.D__law_flat G__law_flat h__law_flat T.D_identifiers G_identifiers h_identifiers T.D_size G_size h_size T.D_depth G_depth h_depth T.D__law_depth G__law_depth h__law_depth T.D__law_sets G__law_sets h__law_sets T.D__law_mapped GL_1 hl_1 GL_2 hl_2 GL_3 hl_3 GL_4 hl_4 hB
end
end Y
namespace Y
open PySem PySem.Spec L2
/-! ### the tape -/
def tapeD (cells : List Int) (at_ left seed salt : Int) : List (Key × D) := [(.inr "cells", .lst (cells.map .int)), (.inr "at", .int at_), (.inr "left", .int left), (.inr "seed", .int seed), (.inr "salt", .int salt)]
structure Tape (n : Int) (cells : List Int) (at_ left seed salt : Int) : Prop where
  pos : ∀ c ∈ cells, 0 ≤ c
  a0 : 0 ≤ at_
  a1 : at_ ≤ cells.length
  l0 : 0 ≤ left
  s0 : 0 ≤ seed
  s1 : seed < 2147483647
  t0 : 0 ≤ salt
  t1 : salt ≤ n
def TapeOk (n : Int) (kv : List (Key × D)) : Prop := ∃ cells at_ left seed salt, kv = tapeD cells at_ left seed salt ∧ Tape n cells at_ left seed salt
theorem TapeOk.le {n m : Int} {kv : List (Key × D)} (h : TapeOk n kv) (l : n ≤ m) : TapeOk m kv := by
  obtain ⟨c, a, b, d, e, rfl, t⟩ := h
  exact ⟨c, a, b, d, e, rfl, ⟨t.pos, t.a0, t.a1, t.l0, t.s0, t.s1, t.t0, Int.le_trans t.t1 l⟩⟩
section
variable {cells : List Int} {at_ left seed salt : Int}
theorem tg_cells : getK (tapeD cells at_ left seed salt) (.inr "cells") = some (.lst (cells.map .int)) := rfl
theorem tg_at : getK (tapeD cells at_ left seed salt) (.inr "at") = some (.int at_) := rfl
theorem tg_left : getK (tapeD cells at_ left seed salt) (.inr "left") = some (.int left) := rfl
theorem tg_seed : getK (tapeD cells at_ left seed salt) (.inr "seed") = some (.int seed) := rfl
theorem tg_salt : getK (tapeD cells at_ left seed salt) (.inr "salt") = some (.int salt) := rfl
theorem tp_at (x : Int) : putD (tapeD cells at_ left seed salt) (.inr "at") (.int x) = tapeD cells x left seed salt := rfl
theorem tp_left (x : Int) : putD (tapeD cells at_ left seed salt) (.inr "left") (.int x) = tapeD cells at_ x seed salt := rfl
theorem tp_salt (x : Int) : putD (tapeD cells at_ left seed salt) (.inr "salt") (.int x) = tapeD cells at_ left seed x := rfl
end
end Y
namespace Y
set_option hygiene false
open PySem PySem.Spec L2
local macro_rules | `(tactic| walk_at "y") => `(tactic| dsimp only [sNil, sBk, sCt, sDrop, sIf, asg, sAsg, sRet, sRetN, tIm, tNm, tBin, w2, vw, Sl.m?, tTst, tTru, M.tru, tAndQ, tOrQ, tNotQ, tAndX, tOrX, tNotX, tIfX, lNil, lCons, tFrz, froz, tTp, tLs, tCl, vws, tMt, Sl.m!, Sl.up, M.res, gLen, gInt, gAdd, gSub, gMul, gDiv, gMod, gPow, gII, gI0, gEqs, gEqs2, gIx, gPop, gApp, gRev, gExt, gTuple, gList, gDict, gIs, gIsi, gAll, gIns, gSorted, gSl, M.lq?, M.lst?, M.sq?, M.dat?, M.isNon, gLt, gLe, gGt, gGe, sFor, iSeq, srcOf, iEnm, enmOf, iRg1, iRg2, bnd, setAll, backS, Sl.isP, tSlc, pNo, pSo, sSetI, hasM, setM, tDspK, tDspT, pairG, D.key?, D.keys?, D.tkey?, putAll, tNewK, tNewT, tNeg, sUnp, tCall, argMs, argM, argS, slots, putB, stepB, putS_lo_ls_ls, putS_lo_ls_dk, putS_lo_ls_dt, putS_lo_ls_no, putS_pa_ls_ls, putS_pa_ls_dk, putS_pa_ls_dt, putS_pa_ls_no, putS_lo_rd_ls, putS_lo_rd_dk, putS_lo_rd_dt, putS_lo_rd_no, putS_pa_rd_ls, putS_pa_rd_dk, putS_pa_rd_dt, putS_pa_rd_no, putS_lo_dk_ls, putS_lo_dk_dk, putS_lo_dk_dt, putS_lo_dk_no, putS_pa_dk_ls, putS_pa_dk_dk, putS_pa_dk_dt, putS_pa_dk_no, putS_lo_dt_ls, putS_lo_dt_dk, putS_lo_dt_dt, putS_lo_dt_no, putS_pa_dt_ls, putS_pa_dt_dk, putS_pa_dt_dt, putS_pa_dt_no, putS_lo_im, putS_lo_sq, putS_pa_im, putS_pa_sq, M.own, M.fit, fins, Sl.fin, envOf, tLcX, compL, wipeE, restE, keepS, qYes, kD, dGet, List.getElem?_cons_zero, List.getElem?_cons_succ, List.getElem?_nil, List.set_cons_zero, List.set_cons_succ, List.map_cons, List.map_nil, List.take_succ_cons, List.take_zero, List.length_cons, List.length_nil, List.head?_cons, List.tail_cons, Option.join_some, List.cons_append, List.nil_append, List.replicate, tg_cells, tg_at, tg_left, tg_seed, tg_salt, tp_at, tp_left, tp_salt])
local macro_rules | `(tactic| walk_at "n") => `(tactic| ((try dsimp only); refine seq_step fun R hR => ?_; walk_at "y"))
local macro_rules | `(tactic| walk_at "i") => `(tactic| simp only [Bool.false_xor, Bool.true_xor, Bool.not_true, Bool.not_false, Bool.false_eq_true, reduceIte, isiT, M.ty, String.reduceBEq, Bool.or_false, Bool.false_or, Bool.and_false, Bool.and_true, Bool.true_and, Bool.false_and, Bool.or_true, List.mem_cons, true_or, or_true, true_and, and_true, String.reduceEq, decide_true, decide_false])
local macro_rules | `(tactic| walk_at "s") => `(tactic| (subst hR; walk_at "n"))
local macro_rules | `(tactic| walk_at "z") => `(tactic| (simp only [List.map_cons, List.map_nil, atI_c0, atI_c1, atI_c2, atI_c3, atI_c4, atI_c5]; (try walk_at "y")))
def F_take : TF := fun ms G => ∃ (kv : List (Key × D)) (many n : Int), ms = [.dk kv, .im (.int many)] ∧ 0 < many ∧ many < 1000000 ∧ n ≤ 1000000000 ∧ TapeOk n kv ∧
  ∀ (r : Int) (kv' : List (Key × D)), 0 ≤ r → r < many → TapeOk (n + 1) kv' → G (.im (.int r)) [some (.dk kv'), some (.im (.int many))]
theorem body_take : Body F_take 4 2 t__law_take := by
  rintro ms G hl ⟨kv, many, n, rfl, h0, h1, hn, ⟨cells, at_, left, seed, salt, rfl, T⟩, q⟩
  show t__law_take _ [Sl.pa (.dk (tapeD cells at_ left seed salt)), Sl.pa (.im (.int many)), .no, .no]
  unfold t__law_take
  walk_at "n"
  have go : ∀ at_ left, Tape n cells at_ left seed salt → R [Sl.pa (.dk (tapeD cells at_ left seed salt)), Sl.pa (.im (.int many)), .no, .no] := by
    clear T
    intro at_ left T
    have tl : (tapeD cells at_ left seed salt).length < sizeLine := by rw [sizeLine_eq]; show 5 < _; omega
    have := T.t0
    have := T.t1
    have := T.s0
    have := T.s1
    have := T.l0
    subst hR
    walk_at "n"
    by_cases hz : 0 < left
    · rw [if_pos (by simpa using hz)]
      walk_at "n"
      refine ⟨h0, ?_⟩
      subst hR
      walk_at "n"
      refine ⟨cDiv (by omega), trivial, tl, ?_⟩
      subst hR
      walk_at "y"
      exact q _ _ (Int.emod_nonneg _ (by omega)) (Int.emod_lt_of_pos _ h0) ⟨_, _, _, _, _, rfl, ⟨T.pos, T.a0, T.a1, Int.ediv_nonneg T.l0 (by omega), T.s0, T.s1, T.t0, by omega⟩⟩
    · rw [if_neg (by simpa using hz)]
      subst hR
      walk_at "n"
      refine ⟨trivial, tl, ?_⟩
      subst hR
      walk_at "n"
      refine ⟨cMul (by omega) (by omega), cMul (by omega) (by omega), by omega, ?_⟩
      generalize hm : (seed * 48271 + (salt + 1) * 69621) % 2147483647 = mx
      have x1 : 0 ≤ mx := by rw [← hm]; exact Int.emod_nonneg _ (by omega)
      have x2 : mx < 2147483647 := by rw [← hm]; exact Int.emod_lt_of_pos _ (by omega)
      subst hR
      walk_at "n"
      refine ⟨cMul (by omega) (by omega), cMul (by omega) (by omega), by omega, ?_⟩
      subst hR
      walk_at "y"
      exact ⟨h0, q _ _ (Int.emod_nonneg _ (by omega)) (Int.emod_lt_of_pos _ h0) ⟨_, _, _, _, _, rfl, ⟨T.pos, T.a0, T.a1, T.l0, T.s0, T.s1, by omega, by omega⟩⟩⟩
  by_cases hz : left = 0
  · rw [if_pos (by simpa using hz), List.length_map]
    by_cases ha : at_ < cells.length
    · rw [if_pos (by simpa using ha)]
      walk_at "n"
      obtain ⟨x, hx, hx2⟩ := atI_ok T.a0 ha
      have hx0 := T.pos x (List.mem_of_getElem? hx2)
      rw [atI_map, hx]
      have tl : (tapeD cells at_ left seed salt).length < sizeLine := by rw [sizeLine_eq]; show 5 < _; omega
      refine ⟨trivial, tl, ?_⟩
      rw [tp_left]
      subst hR
      walk_at "y"
      refine ⟨trivial, tl, ?_⟩
      exact go _ _ ⟨T.pos, by have := T.a0; omega, by omega, hx0, T.s0, T.s1, T.t0, T.t1⟩
    · rw [if_neg (by simpa using ha)]
      exact go _ _ T
  · rw [if_neg (by simpa using hz), if_neg (by decide)]
    exact go _ _ T
theorem loop_tape {P : EndP} {gd : Env → Prop} {s0 s1 : Sl} (hg : ∀ s2 s3, gd [s0, s1, s2, s3]) : ∀ (cs : List Int) (seed : Int) (s2 : Sl), 0 ≤ seed → seed < 2147483647 →
    (∀ (seed : Int) (s2 : Sl), 0 ≤ seed → seed < 2147483647 → P.nx [s0, s1, s2, .lo (.im (.int seed))]) → loopS (.one 2) b__law_tape_1 gd P (cs.map D.int) [s0, s1, s2, .lo (.im (.int seed))] := by
  intro cs
  induction cs with
  | nil => intro seed s2 h1 h2 q; exact ⟨hg _ _, q seed s2 h1 h2⟩
  | cons c cs ih =>
    intro seed s2 h1 h2 q
    refine loop_step (hg _ _) fun L hL => ?_
    unfold b__law_tape_1
    walk_at "y"
    refine ⟨cMul (by omega) (by omega), by omega, ?_⟩
    rw [hL]
    exact ih _ _ (Int.emod_nonneg _ (by omega)) (Int.emod_lt_of_pos _ (by omega)) q
def absI (i : Int) : Int := if i < 0 then -i else i
def F_tape : TF := fun ms G => ∃ ns : List Int, ms = [.sq (ns.map D.int)] ∧ ns.length ≤ 1000 ∧ ∀ kv fin, TapeOk 0 kv → G (.dk kv) fin
theorem body_tape : Body F_tape 4 1 t__law_tape := by
  rintro ms G hl ⟨ns, rfl, hn, q⟩
  show t__law_tape _ [Sl.pa (.sq (ns.map D.int)), .no, .no, .no]
  unfold t__law_tape
  walk_at "n"
  refine comp_fix D.int (fun i => some (.int (absI i))) trivial ns [] (fun i _ acc L hacc h => ?_) (by rw [sizeLine_eq]; simp; omega) ?_
  · walk_at "y"
    rw [if_pos rfl]
    exact ⟨hacc, h⟩
  · have e : [] ++ ns.filterMap (fun i => some (D.int (absI i))) = (ns.map absI).map D.int := by simp
    rw [e]
    subst hR
    walk_at "n"
    subst hR
    walk_at "n"
    refine ⟨rfl, fun v => ?_⟩
    refine loop_tape (fun s2 s3 => rfl) _ _ _ (by omega) (by omega) fun seed s2 h1 h2 => ⟨rfl, ?_⟩
    subst hR
    walk_at "y"
    refine ⟨by omega, ?_⟩
    refine q _ _ ⟨ns.map absI, 0, 0, seed, 0, rfl, ⟨fun c hc => ?_, by omega, by omega, by omega, h1, h2, by omega, by omega⟩⟩
    obtain ⟨i, _, rfl⟩ := List.mem_map.mp hc
    unfold absI; split <;> omega
end Y
namespace Y
open PySem PySem.Spec L2
/-! ### scopes -/
abbrev Sc := Str × Int × Int
def scD (s : Sc) : D := .tup [.str s.1, .int s.2.1, .int s.2.2]
def allSc : List Sc := (["m", "a", "zz"] : List Str).flatMap fun x => [0, 1, 2, 3].flatMap fun i => [0, 1, 2].map fun j => (x, i, j)
def topSc : List Sc := [("zzz", 0, 4), ("zzz", 0, 5), ("zzz", 0, 6)]
def leSc (a b : Sc) : Bool := PySem.W.dataLe false (fun s : Sc => (scD s).py) a b
theorem code_sc : Code scD := ⟨fun a => rfl, fun a b h => by
  obtain ⟨x, y, z⟩ := a
  obtain ⟨x', y', z'⟩ := b
  simp [scD] at h
  rw [h.1, h.2.1, h.2.2]⟩
theorem alike_sc (a b : Sc) : PySem.W.alike (scD a).py (scD b).py = true := by simp [scD, D.py, D.pys, PySem.W.alike, PySem.W.alikeAll]
theorem strOk_all : ∀ s ∈ allSc ++ topSc, PyData.strOk s.1 = true := by decide +kernel
theorem ok_sc {a : Sc} (h : a ∈ allSc ++ topSc) (n : Nat) : D.ok (n + 1) (scD a) = true := by
  simp [scD, D.ok, D.oks, strOk_all a h]
theorem mem_top {a : Sc} (h : a ∈ allSc) : a ∈ allSc ++ topSc := List.mem_append_left _ h
theorem oks_sc {S : List Sc} (h : ∀ s ∈ S, s ∈ allSc) (n : Nat) : D.oks (n + 1) (S.map scD) = true := by
  rw [D.oks_all, List.all_eq_true]
  intro d hd
  obtain ⟨a, ha, rfl⟩ := List.mem_map.mp hd
  exact ok_sc (mem_top (h a ha)) n
theorem canSort_sc {S : List Sc} (h : ∀ s ∈ S, s ∈ allSc) : CanSort (S.map scD) := by
  refine ⟨?_, ?_, ?_⟩
  · rw [List.map_map]; exact PySem.W.AllAlike.of fun b b' => alike_sc b b'
  · rw [List.map_map]; exact PySem.W.Sortable.tuples fun b => ⟨.str b.1, [.int b.2.1, .int b.2.2], by simp [scD, D.py, D.pys]⟩
  · intro d hd
    obtain ⟨a, ha, rfl⟩ := List.mem_map.mp hd
    exact ok_sc (mem_top (h a ha)) 63
theorem leSc_total : PySem.W.TotalLe leSc := PySem.W.sortLe_total (PyProof.Rows.listOrd PyProof.Rows.itemOrd) false fun s : Sc => PySem.W.keyToks (scD s).py
def Srt (S : List Sc) : Prop := S.Pairwise fun a b => leSc a b = true
def srt (S : List Sc) : List Sc := S.mergeSort leSc
theorem srt_srt (S : List Sc) : Srt (srt S) := PySem.W.sort_pairwise leSc_total _
theorem srt_id {S : List Sc} (h : Srt S) : srt S = S := List.mergeSort_of_pairwise h
theorem srt_perm (S : List Sc) : (srt S).Perm S := List.mergeSort_perm _ _
theorem sort_sc (S : List Sc) : sortD (S.map scD) = (srt S).map scD := (PySem.W.sort_maps scD fun _ _ _ _ => rfl).symm
/-- a set, as the law and the program make them -/
structure GS (S : List Sc) : Prop where
  srt : Srt S
  nd : S.Nodup
  all : ∀ s ∈ S, s ∈ allSc
  len : S.length ≤ 10
/-! ### what the changes are -/
def wS (s : Sc) (S : List Sc) : List Sc := if s ∈ S then S else srt (S ++ [s])
def woS (s : Sc) (S : List Sc) : List Sc := S.filter fun x => decide (x ≠ s)
def tuS (s : Sc) (S : List Sc) : List Sc := if s ∈ S then woS s S else wS s S
def adL (s : Sc) (S : List Sc) : List Sc := S ++ if s ∈ S then [] else [s]
def tuL (s : Sc) (S : List Sc) : List Sc := if s ∈ S then woS s S else S ++ [s]
theorem Srt.filter {S : List Sc} (h : Srt S) (p : Sc → Bool) : Srt (S.filter p) := List.Pairwise.filter p h
theorem eq_ad {S : List Sc} (h : GS S) (s : Sc) : srt (adL s S) = wS s S := by
  unfold adL wS
  split
  · rw [List.append_nil]; exact srt_id h.srt
  · rfl
theorem eq_wo {S : List Sc} (h : GS S) (s : Sc) : srt (woS s S) = woS s S := srt_id (h.srt.filter _)
theorem eq_tu {S : List Sc} (h : GS S) (s : Sc) : srt (tuL s S) = tuS s S := by
  unfold tuL tuS wS
  split
  · exact eq_wo h s
  · rfl
/-! ### trees: data and syntax -/
inductive Tr where
  | id (v : Str) (p : Int) (s : List Sc)
  | at (k : Str) (v : D) (p : Int)
  | ls (ks : List Tr) (p : Int)
def oc (p : Int) : D := .tup [.str "m", .int p]
mutual
def Tr.dat : Tr → D
  | .id v p _ => .tup [.str "name", .str v, .int p]
  | .at k v p => .tup [.str k, v, .int p]
  | .ls ks p => .tup [.str "list", .tup (Tr.dats ks), .int p]
def Tr.dats : List Tr → List D
  | [] => []
  | t :: ts => t.dat :: Tr.dats ts
end
mutual
def Tr.syn : Tr → D
  | .id v p s => .tup [.str "id", .str v, oc p, .tup (s.map scD)]
  | .at k v p => .tup [.str "atom", .str k, v, oc p]
  | .ls ks p => .tup [.str "list", .tup (Tr.syns ks), oc p]
def Tr.syns : List Tr → List D
  | [] => []
  | t :: ts => t.syn :: Tr.syns ts
end
mutual
def Tr.mp (f : List Sc → List Sc) : Tr → Tr
  | .id v p s => .id v p (f s)
  | .at k v p => .at k v p
  | .ls ks p => .ls (Tr.mps f ks) p
def Tr.mps (f : List Sc → List Sc) : List Tr → List Tr
  | [] => []
  | t :: ts => t.mp f :: Tr.mps f ts
end
mutual
def Tr.flat : Tr → List Tr
  | .id v p s => [.id v p s]
  | .at k v p => [.at k v p]
  | .ls ks p => .ls ks p :: Tr.flats ks
def Tr.flats : List Tr → List Tr
  | [] => []
  | t :: ts => t.flat ++ Tr.flats ts
end
def mx : List Int → Int
  | [] => 0
  | i :: r => max i (mx r)
mutual
def Tr.dep : Tr → Int
  | .id _ _ _ => 0
  | .at _ _ _ => 0
  | .ls ks _ => 1 + mx (Tr.deps ks)
def Tr.deps : List Tr → List Int
  | [] => []
  | t :: ts => t.dep :: Tr.deps ts
end
theorem dats_eq : ∀ ks : List Tr, Tr.dats ks = ks.map Tr.dat
  | [] => rfl
  | t :: ts => by rw [Tr.dats, dats_eq ts]; rfl
theorem syns_eq : ∀ ks : List Tr, Tr.syns ks = ks.map Tr.syn
  | [] => rfl
  | t :: ts => by rw [Tr.syns, syns_eq ts]; rfl
theorem mps_eq (f : List Sc → List Sc) : ∀ ks : List Tr, Tr.mps f ks = ks.map (Tr.mp f)
  | [] => rfl
  | t :: ts => by rw [Tr.mps, mps_eq f ts]; rfl
theorem flats_eq : ∀ ks : List Tr, Tr.flats ks = ks.flatMap Tr.flat
  | [] => rfl
  | t :: ts => by rw [Tr.flats, flats_eq ts]; rfl
theorem deps_eq : ∀ ks : List Tr, Tr.deps ks = ks.map Tr.dep
  | [] => rfl
  | t :: ts => by rw [Tr.deps, deps_eq ts]; rfl
theorem dat_ls (ks : List Tr) (p : Int) : (Tr.ls ks p).dat = .tup [.str "list", .tup (ks.map Tr.dat), .int p] := by rw [Tr.dat, dats_eq]
theorem syn_ls (ks : List Tr) (p : Int) : (Tr.ls ks p).syn = .tup [.str "list", .tup (ks.map Tr.syn), oc p] := by rw [Tr.syn, syns_eq]
theorem mp_ls (f : List Sc → List Sc) (ks : List Tr) (p : Int) : (Tr.ls ks p).mp f = .ls (ks.map (Tr.mp f)) p := by rw [Tr.mp, mps_eq]
theorem flat_ls (ks : List Tr) (p : Int) : (Tr.ls ks p).flat = .ls ks p :: ks.flatMap Tr.flat := by rw [Tr.flat, flats_eq]
theorem dep_ls (ks : List Tr) (p : Int) : (Tr.ls ks p).dep = 1 + mx (ks.map Tr.dep) := by rw [Tr.dep, deps_eq]
def Tr.isId : Tr → Bool
  | .id _ _ _ => true
  | _ => false
def atoms : List (Str × D) := [("number", .int (-3)), ("flag", .bl false), ("text", .str "x y"), ("dots", .non), ("wild", .non), ("number", .int 0)]
/-- trees as the law draws them, of height below n -/
inductive Ok : Nat → Tr → Prop
  | id {n : Nat} {v : Str} {p : Int} {s : List Sc} : v ∈ (["x", "y", "if", "a-b"] : List Str) → GS s → Ok (n + 1) (.id v p s)
  | at {n : Nat} {k : Str} {v : D} {p : Int} : (k, v) ∈ atoms → Ok (n + 1) (.at k v p)
  | ls {n : Nat} {ks : List Tr} {p : Int} : ks.length ≤ 4 → (∀ t ∈ ks, Ok n t) → Ok (n + 1) (.ls ks p)
theorem gs_nil : GS [] := ⟨.nil, .nil, fun s h => by (cases h), Nat.zero_le _⟩
theorem Ok.mp {f : List Sc → List Sc} (hf : ∀ S, GS S → GS (f S)) : ∀ {n : Nat} {t : Tr}, Ok n t → Ok n (t.mp f)
  | _, _, .id h g => .id h (hf _ g)
  | _, _, .at h => .at h
  | _, _, .ls (ks := ks) (p := p) l h => by
    rw [mp_ls]
    refine .ls (by rw [List.length_map]; exact l) fun t ht => ?_
    obtain ⟨u, hu, rfl⟩ := List.mem_map.mp ht
    exact (h u hu).mp hf
theorem mp_congr {f g : List Sc → List Sc} (hf : ∀ S, GS S → f S = g S) : ∀ {n : Nat} {t : Tr}, Ok n t → t.mp f = t.mp g
  | _, _, .id h s => by simp only [Tr.mp]; rw [hf _ s]
  | _, _, .at h => rfl
  | _, _, .ls (ks := ks) (p := p) l h => by
    rw [mp_ls, mp_ls]
    congr 1
    exact List.map_congr_left fun t ht => mp_congr hf (h t ht)
theorem mp_mp {f g : List Sc → List Sc} : ∀ {n : Nat} {t : Tr}, Ok n t → (t.mp f).mp g = t.mp fun S => g (f S)
  | _, _, .id h s => rfl
  | _, _, .at h => rfl
  | _, _, .ls (ks := ks) (p := p) l h => by
    rw [mp_ls, mp_ls, mp_ls, List.map_map]
    congr 1
    exact List.map_congr_left fun t ht => mp_mp (h t ht)
theorem dat_mp {f : List Sc → List Sc} : ∀ {n : Nat} {t : Tr}, Ok n t → (t.mp f).dat = t.dat
  | _, _, .id h s => rfl
  | _, _, .at h => rfl
  | _, _, .ls (ks := ks) (p := p) l h => by
    rw [mp_ls, dat_ls, dat_ls, List.map_map]
    congr 4
    exact List.map_congr_left fun t ht => dat_mp (h t ht)
/-- all sets taken away -/
def Tr.bare (t : Tr) : Tr := t.mp fun _ => []
theorem mp_bare {S : List Sc} {n : Nat} {t u : Tr} (ht : Ok n t) (hu : Ok n u) (e : t.bare = u.bare) : t.mp (fun _ => S) = u.mp fun _ => S := by
  have e1 := mp_mp (f := fun _ => []) (g := fun _ => S) ht
  have e2 := mp_mp (f := fun _ => []) (g := fun _ => S) hu
  rw [← e1, ← e2]
  show (Tr.bare t).mp _ = (Tr.bare u).mp _
  rw [e]
def SZ : Nat → Nat
  | 0 => 0
  | n + 1 => 1 + 4 * SZ n
theorem flat_len : ∀ {n : Nat} {t : Tr}, Ok n t → t.flat.length ≤ SZ n
  | _, _, .id h s => by simp [Tr.flat, SZ]
  | _, _, .at h => by simp [Tr.flat, SZ]
  | n + 1, _, .ls (ks := ks) (p := p) l h => by
    rw [flat_ls, List.length_cons]
    have : ∀ us : List Tr, (∀ t ∈ us, t.flat.length ≤ SZ n) → (us.flatMap Tr.flat).length ≤ us.length * SZ n := by
      intro us
      induction us with
      | nil => intro _; simp
      | cons u us ih =>
        intro hu
        have a := hu u List.mem_cons_self
        have b := ih fun t ht => hu t (List.mem_cons_of_mem _ ht)
        rw [List.flatMap_cons, List.length_append, List.length_cons, Nat.add_mul, Nat.one_mul]
        omega
    have a := this ks fun t ht => flat_len (h t ht)
    have b := Nat.mul_le_mul_right (SZ n) l
    show _ ≤ 1 + 4 * SZ n
    omega
theorem sz_le {n : Nat} (h : n ≤ 7) : SZ n ≤ 5461 := by
  obtain h | h | h | h | h | h | h | h : n = 0 ∨ n = 1 ∨ n = 2 ∨ n = 3 ∨ n = 4 ∨ n = 5 ∨ n = 6 ∨ n = 7 := by omega
  all_goals subst h; decide
theorem gs_const {S : List Sc} (h : GS S) : ∀ T, GS T → GS ((fun _ => S) T) := fun _ _ => h
theorem gs_wo {S : List Sc} (s : Sc) (h : GS S) : GS (woS s S) := ⟨h.srt.filter _, h.nd.filter _, fun x hx => h.all x (List.mem_filter.mp hx).1, Nat.le_trans (List.length_filter_le _ _) h.len⟩
end Y
namespace Y
set_option hygiene false
open PySem PySem.Spec L2
local macro_rules | `(tactic| walk_at "y") => `(tactic| dsimp only [tCallV, tCallL, capt, gLtD, gSum, gMax, gSorted2, sNil, sBk, sCt, sDrop, sIf, asg, sAsg, sRet, sRetN, tIm, tNm, tBin, w2, vw, Sl.m?, tTst, tTru, M.tru, tAndQ, tOrQ, tNotQ, tAndX, tOrX, tNotX, tIfX, lNil, lCons, tOn, fInD, fIxD, tGet1, vwD, getOr, M.isD, sPar2, tLc2X, compL2, tChn, tFrz, froz, tTp, tLs, tCl, vws, tMt, Sl.m!, Sl.up, M.res, gLen, gInt, gAdd, gSub, gMul, gDiv, gMod, gPow, gII, gI0, gEqs, gEqs2, gIx, gPop, gApp, gRev, gExt, gTuple, gList, gDict, gIs, gIsi, gAll, gIns, gSorted, gSl, M.lq?, M.lst?, M.sq?, M.dat?, M.isNon, gLt, gLe, gGt, gGe, sFor, iSeq, srcOf, iEnm, enmOf, iRg1, iRg2, bnd, setAll, backS, Sl.isP, tSlc, pNo, pSo, sSetI, hasM, setM, tDspK, tDspT, pairG, D.key?, D.keys?, D.tkey?, putAll, tNewK, tNewT, tNeg, sUnp, tCall, argMs, argM, argS, slots, putB, stepB, putS_lo_ls_ls, putS_lo_ls_dk, putS_lo_ls_dt, putS_lo_ls_no, putS_pa_ls_ls, putS_pa_ls_dk, putS_pa_ls_dt, putS_pa_ls_no, putS_lo_rd_ls, putS_lo_rd_dk, putS_lo_rd_dt, putS_lo_rd_no, putS_pa_rd_ls, putS_pa_rd_dk, putS_pa_rd_dt, putS_pa_rd_no, putS_lo_dk_ls, putS_lo_dk_dk, putS_lo_dk_dt, putS_lo_dk_no, putS_pa_dk_ls, putS_pa_dk_dk, putS_pa_dk_dt, putS_pa_dk_no, putS_lo_dt_ls, putS_lo_dt_dk, putS_lo_dt_dt, putS_lo_dt_no, putS_pa_dt_ls, putS_pa_dt_dk, putS_pa_dt_dt, putS_pa_dt_no, putS_lo_im, putS_lo_sq, putS_pa_im, putS_pa_sq, M.own, M.fit, fins, Sl.fin, envOf, tLcX, compL, wipeE, restE, keepS, qYes, kD, dGet, List.getElem?_cons_zero, List.getElem?_cons_succ, List.getElem?_nil, List.set_cons_zero, List.set_cons_succ, List.map_cons, List.map_nil, List.take_succ_cons, List.take_zero, List.length_cons, List.length_nil, List.head?_cons, List.tail_cons, Option.join_some, List.cons_append, List.nil_append, List.replicate])
local macro_rules | `(tactic| walk_at "n") => `(tactic| ((try dsimp only); refine seq_step fun R hR => ?_; walk_at "y"))
local macro_rules | `(tactic| walk_at "i") => `(tactic| simp only [Bool.false_xor, Bool.true_xor, Bool.not_true, Bool.not_false, Bool.false_eq_true, reduceIte, isiT, M.ty, String.reduceBEq, Bool.or_false, Bool.false_or, Bool.and_false, Bool.and_true, Bool.true_and, Bool.false_and, Bool.or_true, List.mem_cons, true_or, or_true, true_and, and_true, String.reduceEq, decide_true, decide_false])
local macro_rules | `(tactic| walk_at "s") => `(tactic| (subst hR; walk_at "n"))
local macro_rules | `(tactic| walk_at "z") => `(tactic| (simp only [List.map_cons, List.map_nil, atI_c0, atI_c1, atI_c2, atI_c3, atI_c4, atI_c5]; (try walk_at "y")))
local macro_rules | `(tactic| walk_at "e") => `(tactic| repeat (first | rw [if_pos (by decide +kernel)] | rw [if_neg (by decide +kernel)]))
/-! ### drawing: scopes -/
theorem three {i : Int} (h0 : 0 ≤ i) (h1 : i < 3) : i = 0 ∨ i = 1 ∨ i = 2 := by omega
theorem four {i : Int} (h0 : 0 ≤ i) (h1 : i < 4) : i = 0 ∨ i = 1 ∨ i = 2 ∨ i = 3 := by omega
def F_scope : TF := fun ms G => ∃ (kv : List (Key × D)) (m : Int), ms = [.dk kv] ∧ m ≤ 900000000 ∧ TapeOk m kv ∧
  ∀ (s : Sc) (kv' : List (Key × D)), s ∈ allSc → TapeOk (m + 3) kv' → G (.im (scD s)) [some (.dk kv')]
theorem body_scope : Body F_scope 1 1 (t__law_scope F_take) := by
  rintro ms G hl ⟨kv, m, rfl, h1, ht, q⟩
  show t__law_scope _ _ [Sl.pa (.dk kv)]
  unfold t__law_scope
  walk_at "y"
  refine ⟨by rw [sizeLine_eq]; omega, rfl, by simp, kv, 3, m, rfl, by omega, by omega, by omega, ht, fun r kv1 r0 r1 t1 => ⟨rfl, ?_⟩⟩
  walk_at "y"
  obtain ⟨x, hx, ex⟩ : ∃ x : Str, x ∈ (["m", "a", "zz"] : List Str) ∧ atI [D.str (Str.ofString "m"), D.str (Str.ofString "a"), D.str (Str.ofString "zz")] r = some (.str x) := by
    rcases three r0 r1 with h | h | h <;> subst h
    · exact ⟨"m", by simp, rfl⟩
    · exact ⟨"a", by simp, rfl⟩
    · exact ⟨"zz", by simp, rfl⟩
  rw [ex]
  refine ⟨rfl, by simp, kv1, 4, m + 1, rfl, by omega, by omega, by omega, t1, fun i kv2 i0 i1 t2 => ⟨rfl, ?_⟩⟩
  walk_at "y"
  refine ⟨rfl, by simp, kv2, 3, m + 1 + 1, rfl, by omega, by omega, by omega, t2, fun j kv3 j0 j1 t3 => ⟨rfl, ?_⟩⟩
  walk_at "y"
  refine ⟨by rw [sizeLine_eq]; omega, ?_⟩
  refine q (x, i, j) kv3 ?_ (t3.le (by omega))
  refine List.mem_flatMap.mpr ⟨x, hx, List.mem_flatMap.mpr ⟨i, ?_, List.mem_map.mpr ⟨j, ?_, rfl⟩⟩⟩
  · rcases four i0 i1 with h | h | h | h <;> subst h <;> simp
  · rcases three j0 j1 with h | h | h <;> subst h <;> simp
def F_scopes : TF := fun ms G => ∃ (kv : List (Key × D)) (m : Int), ms = [.dk kv] ∧ m ≤ 800000000 ∧ TapeOk m kv ∧
  ∀ (S : List Sc) (kv' : List (Key × D)), GS S → TapeOk (m + 10) kv' → G (.im (.tup (S.map scD))) [some (.dk kv')]
theorem scopes_loop {P : EndP} : ∀ (n lo : Nat) (m : Int) (kv : List (Key × D)) (S : List Sc) (s2 s3 : Sl), m + 3 * n ≤ 900000000 → TapeOk m kv → S.Nodup → (∀ s ∈ S, s ∈ allSc) → S.length + n ≤ 10 → n ≤ 10 →
    (∀ (S' : List Sc) kv' s2 s3, S'.Nodup → (∀ s ∈ S', s ∈ allSc) → S'.length ≤ 10 → TapeOk (m + 3 * n) kv' → P.nx [.pa (.dk kv'), .lo (.ls (S'.map scD)), s2, s3]) →
    loopS (.one 2) (b__law_scopes_1 F_take F_scope) (fun _ => True) P (gRng lo n) [.pa (.dk kv), .lo (.ls (S.map scD)), s2, s3] := by
  intro n
  induction n with
  | zero => intro lo m kv S s2 s3 h1 h2 h3 h4 h5 h6 q; exact ⟨trivial, q S kv s2 s3 h3 h4 (by omega) (by simpa using h2)⟩
  | succ n ih =>
    intro lo m kv S s2 s3 h1 h2 h3 h4 h5 h6 q
    rw [gRng_succ]
    refine loop_step trivial fun L hL => ?_
    unfold b__law_scopes_1
    walk_at "y"
    walk_at "n"
    refine ⟨rfl, by simp, kv, m, rfl, by omega, h2, fun s kv1 hs t1 => ⟨rfl, ?_⟩⟩
    subst hR
    unfold scD
    walk_at "y"
    rw [show D.tup [D.str s.1, D.int s.2.1, D.int s.2.2] = scD s from rfl, show (fun s : Sc => D.tup [D.str s.1, D.int s.2.1, D.int s.2.2]) = scD from rfl]
    refine ⟨ok_sc (mem_top hs) 63, oks_sc h4 62, ?_⟩
    rw [code_sc.any, Bool.true_xor]
    by_cases hm : s ∈ S
    · rw [if_neg (by simp [hm]), hL]
      exact ih (lo + 1) (m + 3) kv1 S _ _ (by omega) t1 h3 h4 (by omega) (by omega) fun S' kv' a b g1 g2 g3 g4 => q S' kv' a b g1 g2 g3 (g4.le (by omega))
    · rw [if_pos (by simp [hm])]
      refine ⟨trivial, by rw [List.length_map, sizeLine_eq]; omega, ?_⟩
      rw [show S.map scD ++ [scD s] = (S ++ [s]).map scD by simp, hL]
      refine ih (lo + 1) (m + 3) kv1 (S ++ [s]) _ _ (by omega) t1 (List.nodup_append.mpr ⟨h3, by simp, fun a ha b hb z => ?_⟩) (fun a ha => ?_) (by simp; omega) (by omega) fun S' kv' a b g1 g2 g3 g4 => q S' kv' a b g1 g2 g3 (g4.le (by omega))
      · rw [List.mem_singleton.mp hb] at z; exact hm (z ▸ ha)
      · rcases List.mem_append.mp ha with h | h
        · exact h4 a h
        · rw [List.mem_singleton.mp h]; exact hs
theorem body_scopes : Body F_scopes 4 1 (t__law_scopes F_take F_scope) := by
  rintro ms G hl ⟨kv, m, rfl, h1, ht, q⟩
  show t__law_scopes _ _ _ [Sl.pa (.dk kv), .no, .no, .no]
  unfold t__law_scopes
  walk_at "n"
  refine ⟨by rw [sizeLine_eq]; omega, ?_⟩
  subst hR
  walk_at "n"
  refine ⟨rfl, by simp, kv, 4, m, rfl, by omega, by omega, by omega, ht, fun r kv1 r0 r1 t1 => ⟨rfl, ?_⟩⟩
  walk_at "y"
  refine ⟨by omega, by omega, ?_⟩
  refine scopes_loop r.toNat 0 (m + 1) kv1 [] _ _ (by omega) t1 .nil (fun s h => by cases h) (by simp; omega) (by omega) fun S kv2 a b g1 g2 g3 g4 => ?_
  subst hR
  walk_at "y"
  refine ⟨canSort_sc g2, ?_⟩
  rw [sort_sc]
  exact q (srt S) kv2 ⟨srt_srt S, (srt_perm S).nodup_iff.mpr g1, fun s hs => g2 s ((srt_perm S).mem_iff.mp hs), by rw [(srt_perm S).length_eq]; exact g3⟩ (g4.le (by omega))
end Y
namespace Y
set_option hygiene false
open PySem PySem.Spec L2
local macro_rules | `(tactic| walk_at "y") => `(tactic| dsimp only [tCallV, tCallL, capt, gLtD, gSum, gMax, gSorted2, sNil, sBk, sCt, sDrop, sIf, asg, sAsg, sRet, sRetN, tIm, tNm, tBin, w2, vw, Sl.m?, tTst, tTru, M.tru, tAndQ, tOrQ, tNotQ, tAndX, tOrX, tNotX, tIfX, lNil, lCons, tOn, fInD, fIxD, tGet1, vwD, getOr, M.isD, sPar2, tLc2X, compL2, tChn, tFrz, froz, tTp, tLs, tCl, vws, tMt, Sl.m!, Sl.up, M.res, gLen, gInt, gAdd, gSub, gMul, gDiv, gMod, gPow, gII, gI0, gEqs, gEqs2, gIx, gPop, gApp, gRev, gExt, gTuple, gList, gDict, gIs, gIsi, gAll, gIns, gSorted, gSl, M.lq?, M.lst?, M.sq?, M.dat?, M.isNon, gLt, gLe, gGt, gGe, sFor, iSeq, srcOf, iEnm, enmOf, iRg1, iRg2, bnd, setAll, backS, Sl.isP, tSlc, pNo, pSo, sSetI, hasM, setM, tDspK, tDspT, pairG, D.key?, D.keys?, D.tkey?, putAll, tNewK, tNewT, tNeg, sUnp, tCall, argMs, argM, argS, slots, putB, stepB, putS_lo_ls_ls, putS_lo_ls_dk, putS_lo_ls_dt, putS_lo_ls_no, putS_pa_ls_ls, putS_pa_ls_dk, putS_pa_ls_dt, putS_pa_ls_no, putS_lo_rd_ls, putS_lo_rd_dk, putS_lo_rd_dt, putS_lo_rd_no, putS_pa_rd_ls, putS_pa_rd_dk, putS_pa_rd_dt, putS_pa_rd_no, putS_lo_dk_ls, putS_lo_dk_dk, putS_lo_dk_dt, putS_lo_dk_no, putS_pa_dk_ls, putS_pa_dk_dk, putS_pa_dk_dt, putS_pa_dk_no, putS_lo_dt_ls, putS_lo_dt_dk, putS_lo_dt_dt, putS_lo_dt_no, putS_pa_dt_ls, putS_pa_dt_dk, putS_pa_dt_dt, putS_pa_dt_no, putS_lo_im, putS_lo_sq, putS_pa_im, putS_pa_sq, M.own, M.fit, fins, Sl.fin, envOf, tLcX, compL, wipeE, restE, keepS, qYes, kD, dGet, List.getElem?_cons_zero, List.getElem?_cons_succ, List.getElem?_nil, List.set_cons_zero, List.set_cons_succ, List.map_cons, List.map_nil, List.take_succ_cons, List.take_zero, List.length_cons, List.length_nil, List.head?_cons, List.tail_cons, Option.join_some, List.cons_append, List.nil_append, List.replicate])
local macro_rules | `(tactic| walk_at "n") => `(tactic| ((try dsimp only); refine seq_step fun R hR => ?_; walk_at "y"))
local macro_rules | `(tactic| walk_at "i") => `(tactic| simp only [Bool.false_xor, Bool.true_xor, Bool.not_true, Bool.not_false, Bool.false_eq_true, reduceIte, isiT, M.ty, String.reduceBEq, Bool.or_false, Bool.false_or, Bool.and_false, Bool.and_true, Bool.true_and, Bool.false_and, Bool.or_true, List.mem_cons, true_or, or_true, true_and, and_true, String.reduceEq, decide_true, decide_false])
local macro_rules | `(tactic| walk_at "s") => `(tactic| (subst hR; walk_at "n"))
local macro_rules | `(tactic| walk_at "z") => `(tactic| (simp only [List.map_cons, List.map_nil, atI_c0, atI_c1, atI_c2, atI_c3, atI_c4, atI_c5]; (try walk_at "y")))
local macro_rules | `(tactic| walk_at "e") => `(tactic| repeat (first | rw [if_pos (by decide +kernel)] | rw [if_neg (by decide +kernel)]))
/-! ### drawing: data -/
def cD (c : Int) : List (Key × D) := [(.inr "n", .int c)]
theorem g_n (c : Int) : getK (cD c) (.inr "n") = some (.int c) := rfl
theorem p_n (c x : Int) : putD (cD c) (.inr "n") (.int x) = cD x := rfl
def F_datum (n : Nat) : TF := fun ms G => ∃ (kv : List (Key × D)) (m c lv : Int), ms = [.dk kv, .dk (cD c), .im (.int lv)] ∧ 0 < n ∧ lv + n = 7 ∧ m + 4 * SZ n ≤ 100000000 ∧ TapeOk m kv ∧
  ∀ (t : Tr) (kv' : List (Key × D)) (c' : Int), Ok n t → TapeOk (m + 4 * SZ n) kv' → G (.im t.dat) [some (.dk kv'), some (.dk (cD c')), some (.im (.int lv))]
theorem datum_comp {N : Nat} {lv p ch : Int} {s5 s7 : Sl} {k : List D → Env → Prop} (hN : 0 < N) (hlv : lv + 1 + N = 7) : ∀ (n lo : Nat) (m c : Int) (kv : List (Key × D)) (ts : List Tr), (∀ t ∈ ts, Ok N t) → ts.length + n ≤ 4 → m + n * (4 * SZ N) ≤ 100000000 → TapeOk m kv →
    (∀ (c' : Int) (kv' : List (Key × D)) (ts' : List Tr), (∀ t ∈ ts', Ok N t) → ts'.length ≤ 4 → TapeOk (m + n * (4 * SZ N)) kv' → k (ts'.map Tr.dat) [Sl.pa (.dk kv'), .pa (.dk (cD c')), .pa (.im (.int lv)), .lo (.im (.int p)), .lo (.im (.int ch)), s5, .no, s7]) →
    compL (.one 6) qYes (tCall (F_datum N) 3 (lCons (tNm 0) (lCons (tNm 1) (lCons (tBin gAdd (tNm 2) (tIm (.int 1))) lNil)))) [6] (fun _ => True) k (gRng lo n) (ts.map Tr.dat)
      [Sl.pa (.dk kv), .pa (.dk (cD c)), .pa (.im (.int lv)), .lo (.im (.int p)), .lo (.im (.int ch)), s5, .no, s7] := by
  intro n
  induction n with
  | zero => intro lo m c kv ts h1 h2 h3 h4 q; exact ⟨trivial, q c kv ts h1 (by omega) (by simpa using h4)⟩
  | succ n ih =>
    intro lo m c kv ts h1 h2 h3 h4 q
    rw [gRng_succ]
    refine comp_step trivial fun L hL => ?_
    have e1 : ((n + 1 : Nat) : Int) * (4 * (SZ N : Int)) = n * (4 * SZ N) + 4 * SZ N := by rw [Int.natCast_add, Int.add_mul]; simp
    have e2 : 0 ≤ (n : Int) * (4 * SZ N) := Int.mul_nonneg (by omega) (by omega)
    walk_at "y"
    rw [if_pos rfl]
    refine ⟨rfl, by simp, kv, m, c, lv + 1, rfl, hN, hlv, by omega, h4, fun t kv1 c1 g1 t1 => ⟨rfl, ?_⟩⟩
    walk_at "y"
    refine ⟨by rw [sizeLine_eq, List.length_map]; omega, ?_⟩
    rw [hL, show ts.map Tr.dat ++ [t.dat] = (ts ++ [t]).map Tr.dat by simp]
    refine ih (lo + 1) (m + 4 * SZ N) c1 kv1 (ts ++ [t]) (fun u hu => ?_) (by simp; omega) (by omega) t1 fun c' kv' ts' a b d => q c' kv' ts' a b (d.le (by omega))
    rcases List.mem_append.mp hu with h | h
    · exact h1 u h
    · rw [List.mem_singleton.mp h]; exact g1
theorem body_datum (n : Nat) : Body (F_datum (n + 1)) 8 3 (t__law_datum F_take (F_datum n)) := by
  rintro ms G hl ⟨kv, m, c, lv, rfl, _, hlv, hm, ht, q⟩
  show t__law_datum _ _ _ [Sl.pa (.dk kv), .pa (.dk (cD c)), .pa (.im (.int lv)), .no, .no, .no, .no, .no]
  unfold t__law_datum
  have tl : (cD c).length < sizeLine := by rw [sizeLine_eq]; show 1 < _; omega
  have eS : (SZ (n + 1) : Int) = 1 + 4 * SZ n := by simp [SZ]
  walk_at "n"
  rw [g_n]
  subst hR
  walk_at "n"
  refine ⟨trivial, tl, ?_⟩
  rw [p_n]
  subst hR
  walk_at "n"
  refine ⟨rfl, by simp, kv, 9, m, rfl, by omega, by omega, by omega, ht, fun ch kv1 r0 r1 t1 => ⟨rfl, ?_⟩⟩
  walk_at "y"
  subst hR
  walk_at "n"
  have rest : R [Sl.pa (.dk kv1), .pa (.dk (cD (c + 1))), .pa (.im (.int lv)), .lo (.im (.int c)), .lo (.im (.int ch)), .no, .no, .no] := by
    subst hR
    walk_at "n"
    by_cases h7 : ch < 7
    · rw [if_pos (by simpa using h7)]
      refine ⟨by rw [sizeLine_eq]; omega, rfl, by simp, kv1, 4, m + 1, rfl, by omega, by omega, by omega, t1, fun r kv2 q0 q1 t2 => ⟨rfl, ?_⟩⟩
      walk_at "y"
      obtain ⟨x, hx, ex⟩ : ∃ x : Str, x ∈ (["x", "y", "if", "a-b"] : List Str) ∧ atI [D.str (Str.ofString "x"), D.str (Str.ofString "y"), D.str (Str.ofString "if"), D.str (Str.ofString "a-b")] r = some (.str x) := by
        rcases four q0 q1 with h | h | h | h <;> subst h
        · exact ⟨"x", by simp, rfl⟩
        · exact ⟨"y", by simp, rfl⟩
        · exact ⟨"if", by simp, rfl⟩
        · exact ⟨"a-b", by simp, rfl⟩
      rw [ex]
      refine ⟨by rw [sizeLine_eq]; omega, ?_⟩
      exact q (.id x c []) kv2 (c + 1) (.id hx gs_nil) (t2.le (by omega))
    · rw [if_neg (by simpa using h7)]
      subst hR
      walk_at "n"
      refine ⟨by rw [sizeLine_eq]; omega, by rw [sizeLine_eq]; omega, by rw [sizeLine_eq]; omega, by rw [sizeLine_eq]; omega, by rw [sizeLine_eq]; omega, by rw [sizeLine_eq]; omega, by rw [sizeLine_eq]; omega, ?_⟩
      subst hR
      walk_at "y"
      refine ⟨rfl, by simp, kv1, 6, m + 1, rfl, by omega, by omega, by omega, t1, fun r kv2 q0 q1 t2 => ⟨rfl, ?_⟩⟩
      walk_at "y"
      obtain ⟨x, v, hx, ex⟩ : ∃ (x : Str) (v : D), (x, v) ∈ atoms ∧ atI [D.tup [.str (Str.ofString "number"), .int (-3)], .tup [.str (Str.ofString "flag"), .bl false], .tup [.str (Str.ofString "text"), .str (Str.ofString "x y")], .tup [.str (Str.ofString "dots"), .non], .tup [.str (Str.ofString "wild"), .non], .tup [.str (Str.ofString "number"), .int 0]] r = some (.tup [.str x, v]) := by
        have : r = 0 ∨ r = 1 ∨ r = 2 ∨ r = 3 ∨ r = 4 ∨ r = 5 := by omega
        rcases this with h | h | h | h | h | h <;> subst h
        · exact ⟨_, _, List.mem_cons_self, rfl⟩
        · exact ⟨_, _, List.mem_cons_of_mem _ List.mem_cons_self, rfl⟩
        · exact ⟨_, _, List.mem_cons_of_mem _ (List.mem_cons_of_mem _ List.mem_cons_self), rfl⟩
        · exact ⟨_, _, List.mem_cons_of_mem _ (List.mem_cons_of_mem _ (List.mem_cons_of_mem _ List.mem_cons_self)), rfl⟩
        · exact ⟨_, _, List.mem_cons_of_mem _ (List.mem_cons_of_mem _ (List.mem_cons_of_mem _ (List.mem_cons_of_mem _ List.mem_cons_self))), rfl⟩
        · exact ⟨_, _, List.mem_cons_of_mem _ (List.mem_cons_of_mem _ (List.mem_cons_of_mem _ (List.mem_cons_of_mem _ (List.mem_cons_of_mem _ List.mem_cons_self)))), rfl⟩
      rw [ex]
      refine ⟨by rw [sizeLine_eq]; omega, by rw [sizeLine_eq]; simp, ?_⟩
      exact q (.at x v c) kv2 (c + 1) (.at hx) (t2.le (by omega))
  by_cases h4 : ch < 4
  · rw [if_pos (by simpa using h4)]
    by_cases h6 : lv < 6
    · rw [if_pos (by simpa using h6)]
      walk_at "n"
      refine ⟨rfl, by simp, kv1, 5, m + 1, rfl, by omega, by omega, by omega, t1, fun mn kv2 q0 q1 t2 => ⟨rfl, ?_⟩⟩
      subst hR
      walk_at "y"
      refine ⟨by omega, by omega, ?_⟩
      have e3 : (mn.toNat : Int) * (4 * SZ n) ≤ 4 * (4 * SZ n) := Int.mul_le_mul_of_nonneg_right (by omega) (by omega)
      refine datum_comp (N := n) (by omega) (by omega) mn.toNat 0 (m + 1 + 1) (c + 1) kv2 [] (fun t h => by cases h) (by simp; omega) (by omega) t2 fun c' kv' ts a b d => ?_
      walk_at "y"
      refine ⟨by rw [sizeLine_eq]; omega, ?_⟩
      have := q (.ls ts c) kv' c' (.ls b a) (d.le (by omega))
      rw [dat_ls] at this
      exact this
    · rw [if_neg (by simpa using h6)]
      exact rest
  · rw [if_neg (by simpa using h4), if_neg (by decide)]
    exact rest
end Y
namespace Y
set_option hygiene false
open PySem PySem.Spec L2
local macro_rules | `(tactic| walk_at "y") => `(tactic| dsimp only [tCallV, tCallL, capt, gLtD, gSum, gMax, gSorted2, sNil, sBk, sCt, sDrop, sIf, asg, sAsg, sRet, sRetN, tIm, tNm, tBin, w2, vw, Sl.m?, tTst, tTru, M.tru, tAndQ, tOrQ, tNotQ, tAndX, tOrX, tNotX, tIfX, lNil, lCons, tOn, fInD, fIxD, tGet1, vwD, getOr, M.isD, sPar2, tLc2X, compL2, tChn, tFrz, froz, tTp, tLs, tCl, vws, tMt, Sl.m!, Sl.up, M.res, gLen, gInt, gAdd, gSub, gMul, gDiv, gMod, gPow, gII, gI0, gEqs, gEqs2, gIx, gPop, gApp, gRev, gExt, gTuple, gList, gDict, gIs, gIsi, gAll, gIns, gSorted, gSl, M.lq?, M.lst?, M.sq?, M.dat?, M.isNon, gLt, gLe, gGt, gGe, sFor, iSeq, srcOf, iEnm, enmOf, iRg1, iRg2, bnd, setAll, backS, Sl.isP, tSlc, pNo, pSo, sSetI, hasM, setM, tDspK, tDspT, pairG, D.key?, D.keys?, D.tkey?, putAll, tNewK, tNewT, tNeg, sUnp, tCall, argMs, argM, argS, slots, putB, stepB, putS_lo_ls_ls, putS_lo_ls_dk, putS_lo_ls_dt, putS_lo_ls_no, putS_pa_ls_ls, putS_pa_ls_dk, putS_pa_ls_dt, putS_pa_ls_no, putS_lo_rd_ls, putS_lo_rd_dk, putS_lo_rd_dt, putS_lo_rd_no, putS_pa_rd_ls, putS_pa_rd_dk, putS_pa_rd_dt, putS_pa_rd_no, putS_lo_dk_ls, putS_lo_dk_dk, putS_lo_dk_dt, putS_lo_dk_no, putS_pa_dk_ls, putS_pa_dk_dk, putS_pa_dk_dt, putS_pa_dk_no, putS_lo_dt_ls, putS_lo_dt_dk, putS_lo_dt_dt, putS_lo_dt_no, putS_pa_dt_ls, putS_pa_dt_dk, putS_pa_dt_dt, putS_pa_dt_no, putS_lo_im, putS_lo_sq, putS_pa_im, putS_pa_sq, M.own, M.fit, fins, Sl.fin, envOf, tLcX, compL, wipeE, restE, keepS, qYes, kD, dGet, List.getElem?_cons_zero, List.getElem?_cons_succ, List.getElem?_nil, List.set_cons_zero, List.set_cons_succ, List.map_cons, List.map_nil, List.take_succ_cons, List.take_zero, List.length_cons, List.length_nil, List.head?_cons, List.tail_cons, Option.join_some, List.cons_append, List.nil_append, List.replicate])
local macro_rules | `(tactic| walk_at "n") => `(tactic| ((try dsimp only); refine seq_step fun R hR => ?_; walk_at "y"))
local macro_rules | `(tactic| walk_at "i") => `(tactic| simp only [Bool.false_xor, Bool.true_xor, Bool.not_true, Bool.not_false, Bool.false_eq_true, reduceIte, isiT, M.ty, String.reduceBEq, Bool.or_false, Bool.false_or, Bool.and_false, Bool.and_true, Bool.true_and, Bool.false_and, Bool.or_true, List.mem_cons, true_or, or_true, true_and, and_true, String.reduceEq, decide_true, decide_false])
local macro_rules | `(tactic| walk_at "s") => `(tactic| (subst hR; walk_at "n"))
local macro_rules | `(tactic| walk_at "z") => `(tactic| (simp only [List.map_cons, List.map_nil, atI_c0, atI_c1, atI_c2, atI_c3, atI_c4, atI_c5]; (try walk_at "y")))
local macro_rules | `(tactic| walk_at "e") => `(tactic| repeat (first | rw [if_pos (by decide +kernel)] | rw [if_neg (by decide +kernel)]))
/-! ### drawing: syntax -/
theorem kind_name : ∀ x ∈ atoms, x.1 ≠ Str.ofString "name" ∧ x.1 ≠ Str.ofString "list" := by
  intro x hx
  simp only [atoms, List.mem_cons, List.not_mem_nil, or_false] at hx
  rcases hx with h | h | h | h | h | h <;> subst h <;> exact ⟨by decide +kernel, by decide +kernel⟩
theorem synBound (N n : Nat) : ((n + 1 : Nat) : Int) * (12 * (SZ N : Int)) = n * (12 * SZ N) + 12 * SZ N ∧ 0 ≤ (n : Int) * (12 * SZ N) := by
  constructor
  · rw [Int.natCast_add, Int.add_mul]; simp
  · exact Int.mul_nonneg (by omega) (by omega)
def F_syn (n : Nat) : TF := fun ms G => ∃ (kv : List (Key × D)) (m : Int) (t : Tr), ms = [.dk kv, .im (.str "m"), .im t.dat] ∧ Ok n t ∧ m + 12 * SZ n ≤ 700000000 ∧ TapeOk m kv ∧
  ∀ (t' : Tr) (kv' : List (Key × D)) f1 f2, Ok n t' → t'.bare = t.bare → TapeOk (m + 12 * SZ n) kv' → G (.im t'.syn) [some (.dk kv'), f1, f2]
theorem syn_comp {N : Nat} {s2 s3 s4 s5 : Sl} {k : List D → Env → Prop} : ∀ (us : List Tr) (m : Int) (kv : List (Key × D)) (ts vs : List Tr), (∀ t ∈ us, Ok N t) → (∀ t ∈ ts, Ok N t) → ts.map Tr.bare = vs.map Tr.bare → ts.length + us.length ≤ 4 → m + us.length * (12 * SZ N) ≤ 700000000 → TapeOk m kv →
    (∀ (kv' : List (Key × D)) (ts' : List Tr), (∀ t ∈ ts', Ok N t) → ts'.map Tr.bare = (vs ++ us).map Tr.bare → ts'.length ≤ 4 → TapeOk (m + us.length * (12 * SZ N)) kv' → k (ts'.map Tr.syn) [Sl.pa (.dk kv'), .pa (.im (.str "m")), s2, s3, s4, s5, .no]) →
    compL (.one 6) qYes (tCall (F_syn N) 3 (lCons (tNm 0) (lCons (tNm 1) (lCons (tNm 6) lNil)))) [6] (fun _ => True) k (us.map Tr.dat) (ts.map Tr.syn)
      [Sl.pa (.dk kv), .pa (.im (.str "m")), s2, s3, s4, s5, .no] := by
  intro us
  induction us with
  | nil => intro m kv ts vs h0 h1 hb h2 h3 h4 q; exact ⟨trivial, q kv ts h1 (by simpa using hb) (by simpa using h2) (by simpa using h4)⟩
  | cons u us ih =>
    intro m kv ts vs h0 h1 hb h2 h3 h4 q
    rw [List.map_cons]
    refine comp_step trivial fun L hL => ?_
    obtain ⟨e1, e2⟩ := synBound N us.length
    rw [List.length_cons] at h2 h3 q
    rw [e1] at h3 q
    walk_at "y"
    rw [if_pos rfl]
    refine ⟨rfl, by simp, kv, m, u, rfl, h0 u List.mem_cons_self, by omega, h4, fun t kv1 f1 f2 g1 gb t1 => ⟨rfl, ?_⟩⟩
    walk_at "y"
    refine ⟨by rw [sizeLine_eq, List.length_map]; omega, ?_⟩
    rw [hL, show ts.map Tr.syn ++ [t.syn] = (ts ++ [t]).map Tr.syn by simp]
    refine ih (m + 12 * SZ N) kv1 (ts ++ [t]) (vs ++ [u]) (fun w hw => h0 w (List.mem_cons_of_mem _ hw)) (fun w hw => ?_) (by rw [List.map_append, List.map_append, hb]; simp [gb]) (by simp; omega) (by omega) t1 fun kv' ts' a b d e => q kv' ts' a (by rw [b]; simp) d (e.le (by omega))
    rcases List.mem_append.mp hw with h | h
    · exact h1 w h
    · rw [List.mem_singleton.mp h]; exact g1
theorem body_syn (n : Nat) : Body (F_syn (n + 1)) 7 3 (t__law_syntax F_scopes (F_syn n)) := by
  rintro ms G hl ⟨kv, m, t, rfl, hok, hm, ht, q⟩
  show t__law_syntax _ _ _ [Sl.pa (.dk kv), .pa (.im (.str "m")), .pa (.im t.dat), .no, .no, .no, .no]
  unfold t__law_syntax
  have eS : (SZ (n + 1) : Int) = 1 + 4 * SZ n := by simp [SZ]
  cases hok with
  | id hv hs =>
    rename_i v p s
    simp only [Tr.dat]
    walk_at "n"
    refine ⟨rfl, ?_⟩
    subst hR
    walk_at "n"
    walk_at "e"
    refine ⟨by rw [sizeLine_eq]; omega, rfl, by simp, kv, m, rfl, by omega, ht, fun S kv1 gS t1 => ⟨rfl, ?_⟩⟩
    walk_at "y"
    refine ⟨by rw [sizeLine_eq]; omega, ?_⟩
    exact q (.id v p S) kv1 _ _ (.id hv gS) rfl (t1.le (by omega))
  | «at» ha =>
    rename_i k v p
    obtain ⟨n1, n2⟩ := kind_name _ ha
    simp only [Tr.dat]
    walk_at "n"
    refine ⟨rfl, ?_⟩
    subst hR
    walk_at "n"
    rw [if_neg (by simpa using n1)]
    subst hR
    walk_at "n"
    rw [if_neg (by simpa using n2)]
    subst hR
    walk_at "y"
    refine ⟨by rw [sizeLine_eq]; omega, by rw [sizeLine_eq]; omega, ?_⟩
    exact q (.at k v p) kv _ _ (.at ha) rfl (ht.le (by omega))
  | ls hlen hk =>
    rename_i ks p
    rw [dat_ls]
    walk_at "n"
    refine ⟨rfl, ?_⟩
    subst hR
    walk_at "n"
    walk_at "e"
    subst hR
    walk_at "n"
    walk_at "e"
    have e3 : (ks.length : Int) * (12 * SZ n) ≤ 4 * (12 * SZ n) := Int.mul_le_mul_of_nonneg_right (by omega) (by omega)
    refine syn_comp ks m kv [] [] hk (fun t h => by cases h) rfl (by simpa using hlen) (by omega) ht fun kv' ts' a b d e => ?_
    walk_at "y"
    refine ⟨by rw [sizeLine_eq]; omega, by rw [sizeLine_eq]; omega, ?_⟩
    have := fun f1 f2 => q (.ls ts' p) kv' f1 f2 (.ls d a) (by unfold Tr.bare; rw [mp_ls, mp_ls]; congr 1) (e.le (by omega))
    simp only [syn_ls] at this
    exact this _ _
end Y
namespace Y
set_option hygiene false
open PySem PySem.Spec L2
local macro_rules | `(tactic| walk_at "y") => `(tactic| dsimp only [tCallV, tCallL, capt, gLtD, gSum, gMax, gSorted2, sNil, sBk, sCt, sDrop, sIf, asg, sAsg, sRet, sRetN, tIm, tNm, tBin, w2, vw, Sl.m?, tTst, tTru, M.tru, tAndQ, tOrQ, tNotQ, tAndX, tOrX, tNotX, tIfX, lNil, lCons, tOn, fInD, fIxD, tGet1, vwD, getOr, M.isD, sPar2, tLc2X, compL2, tChn, tFrz, froz, tTp, tLs, tCl, vws, tMt, Sl.m!, Sl.up, M.res, gLen, gInt, gAdd, gSub, gMul, gDiv, gMod, gPow, gII, gI0, gEqs, gEqs2, gIx, gPop, gApp, gRev, gExt, gTuple, gList, gDict, gIs, gIsi, gAll, gIns, gSorted, gSl, M.lq?, M.lst?, M.sq?, M.dat?, M.isNon, gLt, gLe, gGt, gGe, sFor, iSeq, srcOf, iEnm, enmOf, iRg1, iRg2, bnd, setAll, backS, Sl.isP, tSlc, pNo, pSo, sSetI, hasM, setM, tDspK, tDspT, pairG, D.key?, D.keys?, D.tkey?, putAll, tNewK, tNewT, tNeg, sUnp, tCall, argMs, argM, argS, slots, putB, stepB, putS_lo_ls_ls, putS_lo_ls_dk, putS_lo_ls_dt, putS_lo_ls_no, putS_pa_ls_ls, putS_pa_ls_dk, putS_pa_ls_dt, putS_pa_ls_no, putS_lo_rd_ls, putS_lo_rd_dk, putS_lo_rd_dt, putS_lo_rd_no, putS_pa_rd_ls, putS_pa_rd_dk, putS_pa_rd_dt, putS_pa_rd_no, putS_lo_dk_ls, putS_lo_dk_dk, putS_lo_dk_dt, putS_lo_dk_no, putS_pa_dk_ls, putS_pa_dk_dk, putS_pa_dk_dt, putS_pa_dk_no, putS_lo_dt_ls, putS_lo_dt_dk, putS_lo_dt_dt, putS_lo_dt_no, putS_pa_dt_ls, putS_pa_dt_dk, putS_pa_dt_dt, putS_pa_dt_no, putS_lo_im, putS_lo_sq, putS_pa_im, putS_pa_sq, M.own, M.fit, fins, Sl.fin, envOf, tLcX, compL, wipeE, restE, keepS, qYes, kD, dGet, List.getElem?_cons_zero, List.getElem?_cons_succ, List.getElem?_nil, List.set_cons_zero, List.set_cons_succ, List.map_cons, List.map_nil, List.take_succ_cons, List.take_zero, List.length_cons, List.length_nil, List.head?_cons, List.tail_cons, Option.join_some, List.cons_append, List.nil_append, List.replicate])
local macro_rules | `(tactic| walk_at "n") => `(tactic| ((try dsimp only); refine seq_step fun R hR => ?_; walk_at "y"))
local macro_rules | `(tactic| walk_at "i") => `(tactic| simp only [Bool.false_xor, Bool.true_xor, Bool.not_true, Bool.not_false, Bool.false_eq_true, reduceIte, isiT, M.ty, String.reduceBEq, Bool.or_false, Bool.false_or, Bool.and_false, Bool.and_true, Bool.true_and, Bool.false_and, Bool.or_true, List.mem_cons, true_or, or_true, true_and, and_true, String.reduceEq, decide_true, decide_false])
local macro_rules | `(tactic| walk_at "s") => `(tactic| (subst hR; walk_at "n"))
local macro_rules | `(tactic| walk_at "z") => `(tactic| (simp only [List.map_cons, List.map_nil, atI_c0, atI_c1, atI_c2, atI_c3, atI_c4, atI_c5]; (try walk_at "y")))
local macro_rules | `(tactic| walk_at "e") => `(tactic| repeat (first | rw [if_pos (by decide +kernel)] | rw [if_neg (by decide +kernel)]))
/-! ### the program's defs over syntax -/
def F_of (n : Nat) : TF := fun ms G => ∃ (t : Tr) (S : List Sc), ms = [.im (.str "m"), .im t.dat, .im (.tup (S.map scD))] ∧ Ok n t ∧ ∀ fin, G (.im (t.mp fun _ => S).syn) fin
theorem body_of (n : Nat) : Body (F_of (n + 1)) 8 3 (t_syntax_of (F_of n)) := by
  rintro ms G hl ⟨t, S, rfl, hok, q⟩
  show t_syntax_of _ _ [.pa (.im (.str "m")), .pa (.im t.dat), .pa (.im (.tup (S.map scD))), .no, .no, .no, .no, .no]
  unfold t_syntax_of
  cases hok with
  | id hv hs =>
    simp only [Tr.dat]
    walk_at "n"
    refine ⟨rfl, ?_⟩
    subst hR
    walk_at "n"
    refine ⟨by rw [sizeLine_eq]; omega, ?_⟩
    subst hR
    walk_at "n"
    walk_at "e"
    exact ⟨by rw [sizeLine_eq]; omega, q _⟩
  | «at» ha =>
    obtain ⟨n1, n2⟩ := kind_name _ ha
    simp only [Tr.dat]
    walk_at "n"
    refine ⟨rfl, ?_⟩
    subst hR
    walk_at "n"
    refine ⟨by rw [sizeLine_eq]; omega, ?_⟩
    subst hR
    walk_at "n"
    rw [if_neg (by simpa using n1)]
    subst hR
    walk_at "n"
    rw [if_neg (by simpa using n2)]
    subst hR
    walk_at "y"
    exact ⟨by rw [sizeLine_eq]; omega, q _⟩
  | ls hlen hk =>
    rename_i ks p
    rw [mp_ls, syn_ls] at q
    rw [dat_ls]
    walk_at "n"
    refine ⟨rfl, ?_⟩
    subst hR
    walk_at "n"
    refine ⟨by rw [sizeLine_eq]; omega, ?_⟩
    subst hR
    walk_at "n"
    walk_at "e"
    subst hR
    walk_at "n"
    walk_at "e"
    refine comp_fix Tr.dat (fun t => some (t.mp fun _ => S).syn) trivial ks [] (fun t ht acc L hacc h => ?_) (by rw [sizeLine_eq]; simp; omega) ?_
    · walk_at "y"
      rw [if_pos rfl]
      refine ⟨rfl, by simp, t, S, rfl, hk t ht, fun fin => ⟨rfl, ?_⟩⟩
      walk_at "y"
      exact ⟨hacc, h⟩
    · walk_at "y"
      rw [show ks.filterMap (fun t => some (t.mp fun _ => S).syn) = (ks.map (Tr.mp fun _ => S)).map Tr.syn by simp]
      exact ⟨by rw [sizeLine_eq]; omega, q _⟩
def Tr.pl : Tr → Int
  | .id _ p _ => p
  | .at _ _ p => p
  | .ls _ p => p
def F_oc : TF := fun ms G => ∃ (t : Tr) (n : Nat), ms = [.im t.syn] ∧ Ok n t ∧ ∀ fin, G (.im (oc t.pl)) fin
theorem body_oc : Body F_oc 1 1 t_occurrence_of := by
  rintro ms G hl ⟨t, n, rfl, hok, q⟩
  show t_occurrence_of _ [.pa (.im t.syn)]
  unfold t_occurrence_of
  cases hok with
  | id hv hs =>
    simp only [Tr.syn]
    walk_at "y"
    walk_at "z"
    walk_at "e"
    exact q _
  | «at» ha =>
    simp only [Tr.syn]
    walk_at "y"
    walk_at "z"
    walk_at "e"
    exact q _
  | ls hlen hk =>
    rw [syn_ls]
    walk_at "y"
    walk_at "z"
    walk_at "e"
    exact q _
def F_dat (n : Nat) : TF := fun ms G => ∃ t : Tr, ms = [.im t.syn] ∧ Ok n t ∧ ∀ fin, G (.im t.dat) fin
theorem body_dat (n : Nat) : Body (F_dat (n + 1)) 3 1 (t_datum_of F_oc (F_dat n)) := by
  rintro ms G hl ⟨t, rfl, hok, q⟩
  show t_datum_of _ _ _ [.pa (.im t.syn), .no, .no]
  unfold t_datum_of
  walk_at "n"
  refine ⟨rfl, by simp, t, n + 1, rfl, hok, fun fin => ⟨rfl, ?_⟩⟩
  unfold oc
  walk_at "y"
  walk_at "z"
  subst hR
  cases hok with
  | id hv hs =>
    simp only [Tr.syn, Tr.pl]
    walk_at "n"
    walk_at "z"
    walk_at "e"
    exact ⟨by rw [sizeLine_eq]; omega, q _⟩
  | «at» ha =>
    simp only [Tr.syn, Tr.pl]
    walk_at "n"
    walk_at "z"
    walk_at "e"
    subst hR
    walk_at "n"
    walk_at "z"
    walk_at "e"
    subst hR
    walk_at "y"
    walk_at "z"
    exact ⟨by rw [sizeLine_eq]; omega, q _⟩
  | ls hlen hk =>
    rename_i ks p
    rw [dat_ls] at q
    rw [syn_ls]
    simp only [Tr.pl]
    walk_at "n"
    walk_at "z"
    walk_at "e"
    subst hR
    walk_at "n"
    walk_at "z"
    walk_at "e"
    refine comp_fix Tr.syn (fun t => some t.dat) trivial ks [] (fun t ht acc L hacc h => ?_) (by rw [sizeLine_eq]; simp; omega) ?_
    · walk_at "y"
      rw [if_pos rfl]
      refine ⟨rfl, by simp, t, rfl, hk t ht, fun fin => ⟨rfl, ?_⟩⟩
      walk_at "y"
      exact ⟨hacc, h⟩
    · walk_at "y"
      rw [show ks.filterMap (fun t => some t.dat) = ks.map Tr.dat by simp]
      exact ⟨by rw [sizeLine_eq]; omega, q _⟩
/-! ### sets changed -/
def F_chg (f : Sc → List Sc → List Sc) : TF := fun ms G => ∃ (S : List Sc) (s : Sc), ms = [.im (.tup (S.map scD)), .im (scD s)] ∧ GS S ∧ s ∈ allSc ∧ ∀ fin, G (.im (.tup ((f s S).map scD))) fin
theorem any_sc (S : List Sc) (s : Sc) : ((S.map scD).any fun z => D.eqv z (scD s)) = decide (s ∈ S) := (code_sc.any S s).trans (decide_eq_decide.mpr Iff.rfl)
theorem ad_all {S : List Sc} {s : Sc} (h : GS S) (hs : s ∈ allSc) : ∀ x ∈ S ++ [s], x ∈ allSc := fun x hx => by
  rcases List.mem_append.mp hx with z | z
  · exact h.all x z
  · rw [List.mem_singleton.mp z]; exact hs
theorem body_with : Body (F_chg wS) 2 2 t_with_scope := by
  rintro ms G hl ⟨S, s, rfl, hS, hs, q⟩
  show t_with_scope _ [.pa (.im (.tup (S.map scD))), .pa (.im (scD s))]
  unfold t_with_scope
  walk_at "y"
  refine ⟨ok_sc (mem_top hs) 63, oks_sc hS.all 62, ?_⟩
  rw [any_sc, Bool.false_xor]
  unfold wS at q
  by_cases hm : s ∈ S
  · rw [if_pos (by simp [hm])]
    rw [if_pos hm] at q
    exact q _
  · rw [if_neg (by simp [hm])]
    rw [if_neg hm] at q
    refine ⟨by rw [sizeLine_eq]; omega, by rw [List.length_map, sizeLine_eq]; have := hS.len; simp; omega, ?_⟩
    rw [show S.map scD ++ [scD s] = (S ++ [s]).map scD by simp]
    refine ⟨canSort_sc (ad_all hS hs), ?_⟩
    rw [sort_sc]
    exact q _
theorem wo_filter (S : List Sc) (s : Sc) : S.filterMap (fun x => if x ≠ s then some (scD x) else none) = (woS s S).map scD := by
  unfold woS
  induction S with
  | nil => rfl
  | cons a S ih =>
    by_cases h : a = s
    · simp [h] at ih ⊢
      exact ih
    · simp [h] at ih ⊢
      exact ih
theorem body_without : Body (F_chg woS) 3 2 t_without_scope := by
  rintro ms G hl ⟨S, s, rfl, hS, hs, q⟩
  show t_without_scope _ [.pa (.im (.tup (S.map scD))), .pa (.im (scD s)), .no]
  unfold t_without_scope
  walk_at "y"
  refine comp_fix scD (fun x => if x ≠ s then some (scD x) else none) trivial S [] (fun x hx acc L hacc h => ?_) (by have := hS.len; rw [sizeLine_eq]; simp; omega) ?_
  · unfold scD
    walk_at "y"
    refine ⟨ok_sc (mem_top (hS.all x hx)) 63, ok_sc (mem_top hs) 63, ?_⟩
    rw [show D.eqv (.tup [.str x.1, .int x.2.1, .int x.2.2]) (.tup [.str s.1, .int s.2.1, .int s.2.2]) = decide (x = s) from code_sc.eqv x s, Bool.true_xor]
    by_cases e : x = s
    · rw [if_neg (by simp [e])]
      rw [if_neg (by simp [e])] at h
      exact h
    · rw [if_pos (by simp [e])]
      rw [if_pos (by simp [e])] at h
      exact ⟨hacc, h⟩
  · rw [wo_filter]
    walk_at "y"
    exact q _
theorem body_turned : Body (F_chg tuS) 2 2 (t_turned_scope (F_chg woS) (F_chg wS)) := by
  rintro ms G hl ⟨S, s, rfl, hS, hs, q⟩
  show t_turned_scope _ _ _ [.pa (.im (.tup (S.map scD))), .pa (.im (scD s))]
  unfold t_turned_scope
  walk_at "y"
  refine ⟨ok_sc (mem_top hs) 63, oks_sc hS.all 62, ?_⟩
  rw [any_sc, Bool.false_xor]
  unfold tuS at q
  by_cases hm : s ∈ S
  · rw [if_pos (by simp [hm])]
    rw [if_pos hm] at q
    exact ⟨rfl, by simp, S, s, rfl, hS, hs, fun fin => ⟨rfl, q _⟩⟩
  · rw [if_neg (by simp [hm])]
    rw [if_neg hm] at q
    exact ⟨rfl, by simp, S, s, rfl, hS, hs, fun fin => ⟨rfl, q _⟩⟩
end Y
namespace Y
set_option hygiene false
open PySem PySem.Spec L2
local macro_rules | `(tactic| walk_at "y") => `(tactic| dsimp only [tCallV, tCallL, capt, gLtD, gSum, gMax, gSorted2, sNil, sBk, sCt, sDrop, sIf, asg, sAsg, sRet, sRetN, tIm, tNm, tBin, w2, vw, Sl.m?, tTst, tTru, M.tru, tAndQ, tOrQ, tNotQ, tAndX, tOrX, tNotX, tIfX, lNil, lCons, tOn, fInD, fIxD, tGet1, vwD, getOr, M.isD, sPar2, tLc2X, compL2, tChn, tFrz, froz, tTp, tLs, tCl, vws, tMt, Sl.m!, Sl.up, M.res, gLen, gInt, gAdd, gSub, gMul, gDiv, gMod, gPow, gII, gI0, gEqs, gEqs2, gIx, gPop, gApp, gRev, gExt, gTuple, gList, gDict, gIs, gIsi, gAll, gIns, gSorted, gSl, M.lq?, M.lst?, M.sq?, M.dat?, M.isNon, gLt, gLe, gGt, gGe, sFor, iSeq, srcOf, iEnm, enmOf, iRg1, iRg2, bnd, setAll, backS, Sl.isP, tSlc, pNo, pSo, sSetI, hasM, setM, tDspK, tDspT, pairG, D.key?, D.keys?, D.tkey?, putAll, tNewK, tNewT, tNeg, sUnp, tCall, argMs, argM, argS, slots, putB, stepB, putS_lo_ls_ls, putS_lo_ls_dk, putS_lo_ls_dt, putS_lo_ls_no, putS_pa_ls_ls, putS_pa_ls_dk, putS_pa_ls_dt, putS_pa_ls_no, putS_lo_rd_ls, putS_lo_rd_dk, putS_lo_rd_dt, putS_lo_rd_no, putS_pa_rd_ls, putS_pa_rd_dk, putS_pa_rd_dt, putS_pa_rd_no, putS_lo_dk_ls, putS_lo_dk_dk, putS_lo_dk_dt, putS_lo_dk_no, putS_pa_dk_ls, putS_pa_dk_dk, putS_pa_dk_dt, putS_pa_dk_no, putS_lo_dt_ls, putS_lo_dt_dk, putS_lo_dt_dt, putS_lo_dt_no, putS_pa_dt_ls, putS_pa_dt_dk, putS_pa_dt_dt, putS_pa_dt_no, putS_lo_im, putS_lo_sq, putS_pa_im, putS_pa_sq, M.own, M.fit, fins, Sl.fin, envOf, tLcX, compL, wipeE, restE, keepS, qYes, kD, dGet, List.getElem?_cons_zero, List.getElem?_cons_succ, List.getElem?_nil, List.set_cons_zero, List.set_cons_succ, List.map_cons, List.map_nil, List.take_succ_cons, List.take_zero, List.length_cons, List.length_nil, List.head?_cons, List.tail_cons, Option.join_some, List.cons_append, List.nil_append, List.replicate])
local macro_rules | `(tactic| walk_at "n") => `(tactic| ((try dsimp only); refine seq_step fun R hR => ?_; walk_at "y"))
local macro_rules | `(tactic| walk_at "i") => `(tactic| simp only [Bool.false_xor, Bool.true_xor, Bool.not_true, Bool.not_false, Bool.false_eq_true, reduceIte, isiT, M.ty, String.reduceBEq, Bool.or_false, Bool.false_or, Bool.and_false, Bool.and_true, Bool.true_and, Bool.false_and, Bool.or_true, List.mem_cons, true_or, or_true, true_and, and_true, String.reduceEq, decide_true, decide_false])
local macro_rules | `(tactic| walk_at "s") => `(tactic| (subst hR; walk_at "n"))
local macro_rules | `(tactic| walk_at "z") => `(tactic| (simp only [List.map_cons, List.map_nil, atI_c0, atI_c1, atI_c2, atI_c3, atI_c4, atI_c5]; (try walk_at "y")))
local macro_rules | `(tactic| walk_at "e") => `(tactic| repeat (first | rw [if_pos (by decide +kernel)] | rw [if_neg (by decide +kernel)]))
theorem cut3 (a b c d : D) : cutD [a, b, c, d] none (some 3) = [a, b, c] := rfl
def F_changed (dv : D) (f : Sc → List Sc → List Sc) (n : Nat) : TF := fun ms G => ∃ (t : Tr) (s : Sc), ms = [.im t.syn, .im (scD s), .im dv] ∧ Ok n t ∧ s ∈ allSc ∧ ∀ fin, G (.im (t.mp (f s)).syn) fin
theorem body_changed (dv : D) (f : Sc → List Sc → List Sc) (n : Nat) : Body (F_changed dv f (n + 1)) 4 3 (t_changed (F_changed dv f n) (fun d => d = dv) fun _ => F_chg f) := by
  rintro ms G hl ⟨t, s, rfl, hok, hs, q⟩
  show t_changed _ _ _ _ [.pa (.im t.syn), .pa (.im (scD s)), .pa (.im dv), .no]
  unfold t_changed
  cases hok with
  | id hv hS =>
    rename_i v p S
    simp only [Tr.syn, Tr.mp] at q ⊢
    walk_at "n"
    walk_at "z"
    walk_at "e"
    refine ⟨trivial, trivial, by simp, S, s, rfl, hS, hs, fun fin => ⟨rfl, ?_⟩⟩
    walk_at "y"
    rw [cut3]
    exact ⟨by rw [sizeLine_eq]; omega, by rw [sizeLine_eq]; simp, q _⟩
  | «at» ha =>
    simp only [Tr.syn, Tr.mp] at q ⊢
    walk_at "n"
    walk_at "z"
    walk_at "e"
    subst hR
    walk_at "n"
    walk_at "z"
    walk_at "e"
    subst hR
    walk_at "y"
    exact q _
  | ls hlen hk =>
    rename_i ks p
    rw [mp_ls, syn_ls] at q
    rw [syn_ls]
    walk_at "n"
    walk_at "z"
    walk_at "e"
    subst hR
    walk_at "n"
    walk_at "z"
    walk_at "e"
    refine comp_fix Tr.syn (fun t => some (t.mp (f s)).syn) trivial ks [] (fun t ht acc L hacc h => ?_) (by rw [sizeLine_eq]; simp; omega) ?_
    · walk_at "y"
      rw [if_pos rfl]
      refine ⟨rfl, by simp, t, s, rfl, hk t ht, hs, fun fin => ⟨rfl, ?_⟩⟩
      walk_at "y"
      exact ⟨hacc, h⟩
    · walk_at "y"
      walk_at "z"
      rw [show ks.filterMap (fun t => some (t.mp (f s)).syn) = (ks.map (Tr.mp (f s))).map Tr.syn by simp]
      exact ⟨by rw [sizeLine_eq]; omega, q _⟩
def F_ch (f : Sc → List Sc → List Sc) : TF := fun ms G => ∃ (t : Tr) (s : Sc), ms = [.im t.syn, .im (scD s)] ∧ Ok 7 t ∧ s ∈ allSc ∧ ∀ fin, G (.im (t.mp (f s)).syn) fin
theorem body_added {a : Addr} : Body (F_ch wS) 2 2 (t_added (F_changed (.raw (.ref a)) wS 7) a) := by
  rintro ms G hl ⟨t, s, rfl, hok, hs, q⟩
  show t_added _ _ _ [.pa (.im t.syn), .pa (.im (scD s))]
  unfold t_added
  walk_at "y"
  exact ⟨rfl, by simp, t, s, rfl, hok, hs, fun fin => ⟨rfl, q _⟩⟩
theorem body_removed {a : Addr} : Body (F_ch woS) 2 2 (t_removed (F_changed (.raw (.ref a)) woS 7) a) := by
  rintro ms G hl ⟨t, s, rfl, hok, hs, q⟩
  show t_removed _ _ _ [.pa (.im t.syn), .pa (.im (scD s))]
  unfold t_removed
  walk_at "y"
  exact ⟨rfl, by simp, t, s, rfl, hok, hs, fun fin => ⟨rfl, q _⟩⟩
theorem body_flipped {a : Addr} : Body (F_ch tuS) 2 2 (t_flipped (F_changed (.raw (.ref a)) tuS 7) a) := by
  rintro ms G hl ⟨t, s, rfl, hok, hs, q⟩
  show t_flipped _ _ _ [.pa (.im t.syn), .pa (.im (scD s))]
  unfold t_flipped
  walk_at "y"
  exact ⟨rfl, by simp, t, s, rfl, hok, hs, fun fin => ⟨rfl, q _⟩⟩
/-! ### the law's own -/
/-- what the law's lambdas do with a list of scopes -/
def F_fun (g : List Sc → List Sc) : TF := fun ms G => ∃ S : List Sc, ms = [.ls (S.map scD)] ∧ GS S ∧ ∀ fin, G (.ls ((g S).map scD)) fin
def F_mapped (dv : D) (g : List Sc → List Sc) (n : Nat) : TF := fun ms G => ∃ t : Tr, ms = [.im t.syn, .im dv] ∧ Ok n t ∧ (∀ S, GS S → ∀ x ∈ g S, x ∈ allSc) ∧ ∀ fin, G (.im (t.mp fun S => srt (g S)).syn) fin
theorem body_mapped (dv : D) (g : List Sc → List Sc) (n : Nat) : Body (F_mapped dv g (n + 1)) 3 2 (t__law_mapped (F_mapped dv g n) (fun d => d = dv) fun _ => F_fun g) := by
  rintro ms G hl ⟨t, rfl, hok, hg, q⟩
  show t__law_mapped _ _ _ _ [.pa (.im t.syn), .pa (.im dv), .no]
  unfold t__law_mapped
  cases hok with
  | id hv hS =>
    rename_i v p S
    simp only [Tr.syn, Tr.mp] at q ⊢
    walk_at "n"
    walk_at "z"
    walk_at "e"
    refine ⟨trivial, trivial, by simp, S, rfl, hS, fun fin => ⟨rfl, ?_⟩⟩
    walk_at "y"
    refine ⟨canSort_sc (hg S hS), ?_⟩
    rw [sort_sc, cut3]
    exact ⟨by rw [sizeLine_eq]; omega, by rw [sizeLine_eq]; simp, q _⟩
  | «at» ha =>
    simp only [Tr.syn, Tr.mp] at q ⊢
    walk_at "n"
    walk_at "z"
    walk_at "e"
    subst hR
    walk_at "n"
    walk_at "z"
    walk_at "e"
    subst hR
    walk_at "y"
    exact q _
  | ls hlen hk =>
    rename_i ks p
    rw [mp_ls, syn_ls] at q
    rw [syn_ls]
    walk_at "n"
    walk_at "z"
    walk_at "e"
    subst hR
    walk_at "n"
    walk_at "z"
    walk_at "e"
    refine comp_fix Tr.syn (fun t => some (t.mp fun S => srt (g S)).syn) trivial ks [] (fun t ht acc L hacc h => ?_) (by rw [sizeLine_eq]; simp; omega) ?_
    · walk_at "y"
      rw [if_pos rfl]
      refine ⟨rfl, by simp, t, rfl, hk t ht, hg, fun fin => ⟨rfl, ?_⟩⟩
      walk_at "y"
      exact ⟨hacc, h⟩
    · walk_at "y"
      walk_at "z"
      rw [show ks.filterMap (fun t => some (t.mp fun S => srt (g S)).syn) = (ks.map (Tr.mp fun S => srt (g S))).map Tr.syn by simp]
      exact ⟨by rw [sizeLine_eq]; omega, q _⟩
end Y
namespace Y
set_option hygiene false
open PySem PySem.Spec L2
local macro_rules | `(tactic| walk_at "y") => `(tactic| dsimp only [tCallV, tCallL, capt, gLtD, gSum, gMax, gSorted2, sNil, sBk, sCt, sDrop, sIf, asg, sAsg, sRet, sRetN, tIm, tNm, tBin, w2, vw, Sl.m?, tTst, tTru, M.tru, tAndQ, tOrQ, tNotQ, tAndX, tOrX, tNotX, tIfX, lNil, lCons, tOn, fInD, fIxD, tGet1, vwD, getOr, M.isD, sPar2, tLc2X, compL2, tChn, tFrz, froz, tTp, tLs, tCl, vws, tMt, Sl.m!, Sl.up, M.res, gLen, gInt, gAdd, gSub, gMul, gDiv, gMod, gPow, gII, gI0, gEqs, gEqs2, gIx, gPop, gApp, gRev, gExt, gTuple, gList, gDict, gIs, gIsi, gAll, gIns, gSorted, gSl, M.lq?, M.lst?, M.sq?, M.dat?, M.isNon, gLt, gLe, gGt, gGe, sFor, iSeq, srcOf, iEnm, enmOf, iRg1, iRg2, bnd, setAll, backS, Sl.isP, tSlc, pNo, pSo, sSetI, hasM, setM, tDspK, tDspT, pairG, D.key?, D.keys?, D.tkey?, putAll, tNewK, tNewT, tNeg, sUnp, tCall, argMs, argM, argS, slots, putB, stepB, putS_lo_ls_ls, putS_lo_ls_dk, putS_lo_ls_dt, putS_lo_ls_no, putS_pa_ls_ls, putS_pa_ls_dk, putS_pa_ls_dt, putS_pa_ls_no, putS_lo_rd_ls, putS_lo_rd_dk, putS_lo_rd_dt, putS_lo_rd_no, putS_pa_rd_ls, putS_pa_rd_dk, putS_pa_rd_dt, putS_pa_rd_no, putS_lo_dk_ls, putS_lo_dk_dk, putS_lo_dk_dt, putS_lo_dk_no, putS_pa_dk_ls, putS_pa_dk_dk, putS_pa_dk_dt, putS_pa_dk_no, putS_lo_dt_ls, putS_lo_dt_dk, putS_lo_dt_dt, putS_lo_dt_no, putS_pa_dt_ls, putS_pa_dt_dk, putS_pa_dt_dt, putS_pa_dt_no, putS_lo_im, putS_lo_sq, putS_pa_im, putS_pa_sq, M.own, M.fit, fins, Sl.fin, envOf, tLcX, compL, wipeE, restE, keepS, qYes, kD, dGet, List.getElem?_cons_zero, List.getElem?_cons_succ, List.getElem?_nil, List.set_cons_zero, List.set_cons_succ, List.map_cons, List.map_nil, List.take_succ_cons, List.take_zero, List.length_cons, List.length_nil, List.head?_cons, List.tail_cons, Option.join_some, List.cons_append, List.nil_append, List.replicate])
local macro_rules | `(tactic| walk_at "n") => `(tactic| ((try dsimp only); refine seq_step fun R hR => ?_; walk_at "y"))
local macro_rules | `(tactic| walk_at "i") => `(tactic| simp only [Bool.false_xor, Bool.true_xor, Bool.not_true, Bool.not_false, Bool.false_eq_true, reduceIte, isiT, M.ty, String.reduceBEq, Bool.or_false, Bool.false_or, Bool.and_false, Bool.and_true, Bool.true_and, Bool.false_and, Bool.or_true, List.mem_cons, true_or, or_true, true_and, and_true, String.reduceEq, decide_true, decide_false])
local macro_rules | `(tactic| walk_at "s") => `(tactic| (subst hR; walk_at "n"))
local macro_rules | `(tactic| walk_at "z") => `(tactic| (simp only [List.map_cons, List.map_nil, atI_c0, atI_c1, atI_c2, atI_c3, atI_c4, atI_c5]; (try walk_at "y")))
local macro_rules | `(tactic| walk_at "e") => `(tactic| repeat (first | rw [if_pos (by decide +kernel)] | rw [if_neg (by decide +kernel)]))
/-! ### the law's lambdas -/
theorem body_lam1 {S0 : List Sc} : BodyL lam_law_1 (F_fun fun _ => S0) [.tup (S0.map scD)] t_lam_law_1 := by
  rintro ms G hl ⟨S, rfl, hS, q⟩
  show t_lam_law_1 [.pa (.ls (S.map scD)), .lo (.im (.tup (S0.map scD)))] _
  unfold t_lam_law_1
  walk_at "y"
  exact ⟨rfl, q _⟩
theorem body_lam2 {s : Sc} (hs : s ∈ allSc) : BodyL lam_law_2 (F_fun (adL s)) [scD s] t_lam_law_2 := by
  rintro ms G hl ⟨S, rfl, hS, q⟩
  show t_lam_law_2 [.pa (.ls (S.map scD)), .lo (.im (scD s))] _
  unfold t_lam_law_2
  have := hS.len
  walk_at "y"
  refine ⟨ok_sc (mem_top hs) 63, oks_sc hS.all 62, ?_⟩
  rw [any_sc, Bool.false_xor]
  unfold adL at q
  by_cases hm : s ∈ S
  · rw [if_pos (by simp [hm])]
    rw [if_pos hm] at q
    refine ⟨by rw [sizeLine_eq]; omega, by rw [List.length_map, sizeLine_eq]; omega, rfl, ?_⟩
    simpa using q _
  · rw [if_neg (by simp [hm])]
    rw [if_neg hm] at q
    refine ⟨by rw [sizeLine_eq]; omega, by rw [List.length_map, sizeLine_eq]; omega, rfl, ?_⟩
    rw [show S.map scD ++ [scD s] = (S ++ [s]).map scD by simp]
    exact q _
theorem wo_comp {s : Sc} (hs : s ∈ allSc) {S : List Sc} (hS : GS S) {gd : Env → Prop} {k : List D → Env → Prop} {a b : Sl} (hb : b = .lo (.im (scD s)) ∨ b = .pa (.im (scD s))) (hg : gd [a, b, .no]) (q : k ((woS s S).map scD) [a, b, .no]) :
    compL (.one 2) (tTst (tBin (gEqs true) (tNm 2) (tNm 1))) (tNm 2) [2] gd k (S.map scD) [] [a, b, .no] := by
  refine comp_fix scD (fun x => if x ≠ s then some (scD x) else none) hg S [] (fun x hx acc L hacc h => ?_) (by have := hS.len; rw [sizeLine_eq]; simp; omega) ?_
  · unfold scD at hb
    rcases hb with rfl | rfl
    all_goals
      unfold scD
      walk_at "y"
      refine ⟨ok_sc (mem_top (hS.all x hx)) 63, ok_sc (mem_top hs) 63, ?_⟩
      rw [show D.eqv (.tup [.str x.1, .int x.2.1, .int x.2.2]) (.tup [.str s.1, .int s.2.1, .int s.2.2]) = decide (x = s) from code_sc.eqv x s, Bool.true_xor]
      by_cases e : x = s
      · rw [if_neg (by simp [e])]
        rw [if_neg (by simp [e])] at h
        exact h
      · rw [if_pos (by simp [e])]
        rw [if_pos (by simp [e])] at h
        exact ⟨hacc, h⟩
  · rw [wo_filter]
    exact q
theorem body_lam3 {s : Sc} (hs : s ∈ allSc) : BodyL lam_law_3 (F_fun (woS s)) [scD s] t_lam_law_3 := by
  rintro ms G hl ⟨S, rfl, hS, q⟩
  show t_lam_law_3 [.pa (.ls (S.map scD)), .lo (.im (scD s)), .no] _
  unfold t_lam_law_3
  walk_at "y"
  refine ⟨rfl, fun v => ?_⟩
  refine wo_comp hs hS (.inl rfl) rfl ?_
  walk_at "y"
  exact ⟨rfl, q _⟩
def F_turned : TF := fun ms G => ∃ (S : List Sc) (s : Sc), ms = [.ls (S.map scD), .im (scD s)] ∧ GS S ∧ s ∈ allSc ∧ ∀ fin, G (.ls ((tuL s S).map scD)) fin
theorem body_turnedL : Body F_turned 3 2 t__law_turned := by
  rintro ms G hl ⟨S, s, rfl, hS, hs, q⟩
  show t__law_turned _ [.pa (.ls (S.map scD)), .pa (.im (scD s)), .no]
  unfold t__law_turned
  have := hS.len
  walk_at "y"
  refine ⟨ok_sc (mem_top hs) 63, oks_sc hS.all 62, ?_⟩
  rw [any_sc, Bool.false_xor]
  unfold tuL at q
  by_cases hm : s ∈ S
  · rw [if_pos (by simp [hm])]
    rw [if_pos hm] at q
    refine ⟨rfl, fun v => ?_⟩
    refine wo_comp hs hS (.inr rfl) rfl ?_
    walk_at "y"
    exact q _
  · rw [if_neg (by simp [hm])]
    rw [if_neg hm] at q
    refine ⟨by rw [sizeLine_eq]; omega, by rw [List.length_map, sizeLine_eq]; omega, ?_⟩
    rw [show S.map scD ++ [scD s] = (S ++ [s]).map scD by simp]
    exact q _
theorem body_lam4 {s : Sc} (hs : s ∈ allSc) : BodyL lam_law_4 (F_fun (tuL s)) [scD s] (t_lam_law_4 F_turned) := by
  rintro ms G hl ⟨S, rfl, hS, q⟩
  show t_lam_law_4 _ [.pa (.ls (S.map scD)), .lo (.im (scD s))] _
  unfold t_lam_law_4
  walk_at "y"
  refine ⟨rfl, by simp, S, s, rfl, hS, hs, fun fin => ⟨rfl, ?_⟩⟩
  exact ⟨rfl, q _⟩
end Y
namespace Y
set_option hygiene false
open PySem PySem.Spec L2
local macro_rules | `(tactic| walk_at "y") => `(tactic| dsimp only [tCallV, tCallL, capt, gLtD, gSum, gMax, gSorted2, sNil, sBk, sCt, sDrop, sIf, asg, sAsg, sRet, sRetN, tIm, tNm, tBin, w2, vw, Sl.m?, tTst, tTru, M.tru, tAndQ, tOrQ, tNotQ, tAndX, tOrX, tNotX, tIfX, lNil, lCons, tOn, fInD, fIxD, tGet1, vwD, getOr, M.isD, sPar2, tLc2X, compL2, tChn, tFrz, froz, tTp, tLs, tCl, vws, tMt, Sl.m!, Sl.up, M.res, gLen, gInt, gAdd, gSub, gMul, gDiv, gMod, gPow, gII, gI0, gEqs, gEqs2, gIx, gPop, gApp, gRev, gExt, gTuple, gList, gDict, gIs, gIsi, gAll, gIns, gSorted, gSl, M.lq?, M.lst?, M.sq?, M.dat?, M.isNon, gLt, gLe, gGt, gGe, sFor, iSeq, srcOf, iEnm, enmOf, iRg1, iRg2, bnd, setAll, backS, Sl.isP, tSlc, pNo, pSo, sSetI, hasM, setM, tDspK, tDspT, pairG, D.key?, D.keys?, D.tkey?, putAll, tNewK, tNewT, tNeg, sUnp, tCall, argMs, argM, argS, slots, putB, stepB, putS_lo_ls_ls, putS_lo_ls_dk, putS_lo_ls_dt, putS_lo_ls_no, putS_pa_ls_ls, putS_pa_ls_dk, putS_pa_ls_dt, putS_pa_ls_no, putS_lo_rd_ls, putS_lo_rd_dk, putS_lo_rd_dt, putS_lo_rd_no, putS_pa_rd_ls, putS_pa_rd_dk, putS_pa_rd_dt, putS_pa_rd_no, putS_lo_dk_ls, putS_lo_dk_dk, putS_lo_dk_dt, putS_lo_dk_no, putS_pa_dk_ls, putS_pa_dk_dk, putS_pa_dk_dt, putS_pa_dk_no, putS_lo_dt_ls, putS_lo_dt_dk, putS_lo_dt_dt, putS_lo_dt_no, putS_pa_dt_ls, putS_pa_dt_dk, putS_pa_dt_dt, putS_pa_dt_no, putS_lo_im, putS_lo_sq, putS_pa_im, putS_pa_sq, M.own, M.fit, fins, Sl.fin, envOf, tLcX, compL, wipeE, restE, keepS, qYes, kD, dGet, List.getElem?_cons_zero, List.getElem?_cons_succ, List.getElem?_nil, List.set_cons_zero, List.set_cons_succ, List.map_cons, List.map_nil, List.take_succ_cons, List.take_zero, List.length_cons, List.length_nil, List.head?_cons, List.tail_cons, Option.join_some, List.cons_append, List.nil_append, List.replicate])
local macro_rules | `(tactic| walk_at "n") => `(tactic| ((try dsimp only); refine seq_step fun R hR => ?_; walk_at "y"))
local macro_rules | `(tactic| walk_at "i") => `(tactic| simp only [Bool.false_xor, Bool.true_xor, Bool.not_true, Bool.not_false, Bool.false_eq_true, reduceIte, isiT, M.ty, String.reduceBEq, Bool.or_false, Bool.false_or, Bool.and_false, Bool.and_true, Bool.true_and, Bool.false_and, Bool.or_true, List.mem_cons, true_or, or_true, true_and, and_true, String.reduceEq, decide_true, decide_false])
local macro_rules | `(tactic| walk_at "s") => `(tactic| (subst hR; walk_at "n"))
local macro_rules | `(tactic| walk_at "z") => `(tactic| (simp only [List.map_cons, List.map_nil, atI_c0, atI_c1, atI_c2, atI_c3, atI_c4, atI_c5]; (try walk_at "y")))
local macro_rules | `(tactic| walk_at "e") => `(tactic| repeat (first | rw [if_pos (by decide +kernel)] | rw [if_neg (by decide +kernel)]))
/-! ### sizes, depths, what stands in a tree -/
def F_flat (n : Nat) : TF := fun ms G => ∃ t : Tr, ms = [.im t.syn] ∧ Ok n t ∧ n ≤ 7 ∧ ∀ fin, G (.ls (t.flat.map Tr.syn)) fin
theorem syn0 (t : Tr) : ∃ (x : Str) (r : List D), t.syn = .tup (.str x :: r) ∧ (x = Str.ofString "list" ↔ ∃ ks p, t = .ls ks p) ∧ (x = Str.ofString "id" ↔ t.isId = true) := by
  cases t with
  | id v p s => exact ⟨"id", _, rfl, ⟨fun h => absurd h (by decide +kernel), fun ⟨_, _, h⟩ => by cases h⟩, ⟨fun _ => rfl, fun _ => rfl⟩⟩
  | «at» k v p => exact ⟨"atom", _, rfl, ⟨fun h => absurd h (by decide +kernel), fun ⟨_, _, h⟩ => by cases h⟩, ⟨fun h => absurd h (by decide +kernel), fun h => by cases h⟩⟩
  | ls ks p => exact ⟨"list", _, rfl, ⟨fun _ => ⟨ks, p, rfl⟩, fun _ => rfl⟩, ⟨fun h => absurd h (by decide +kernel), fun h => by cases h⟩⟩
theorem flat_loop {P : EndP} {n : Nat} {s0 : Sl} (hn : n ≤ 7) : ∀ (us : List Tr) (acc : List Tr) (s2 : Sl), (∀ t ∈ us, Ok n t) → acc.length + us.length * 5461 ≤ 30000 →
    (∀ s2, P.nx [s0, .lo (.ls ((acc ++ us.flatMap Tr.flat).map Tr.syn)), s2]) → loopS (.one 2) (b__law_flat_1 (F_flat n)) (fun _ => True) P (us.map Tr.syn) [s0, .lo (.ls (acc.map Tr.syn)), s2] := by
  intro us
  induction us with
  | nil => intro acc s2 h1 h2 q; exact ⟨trivial, by have := q s2; rw [List.flatMap_nil, List.append_nil] at this; exact this⟩
  | cons u us ih =>
    intro acc s2 h1 h2 q
    rw [List.map_cons]
    have l1 := flat_len (h1 u List.mem_cons_self)
    have l2 := sz_le hn
    rw [List.length_cons] at h2
    refine loop_step trivial fun L hL => ?_
    unfold b__law_flat_1
    walk_at "y"
    refine ⟨rfl, by simp, u, rfl, h1 u List.mem_cons_self, hn, fun fin => ⟨rfl, ?_⟩⟩
    walk_at "y"
    refine ⟨by rw [List.length_map, List.length_map, sizeLine_eq]; omega, ?_⟩
    rw [hL, show acc.map Tr.syn ++ u.flat.map Tr.syn = (acc ++ u.flat).map Tr.syn by simp]
    refine ih (acc ++ u.flat) _ (fun t ht => h1 t (List.mem_cons_of_mem _ ht)) (by rw [List.length_append]; omega) fun s2 => ?_
    have := q s2
    rw [List.flatMap_cons, ← List.append_assoc] at this
    exact this
theorem body_flat (n : Nat) : Body (F_flat (n + 1)) 3 1 (t__law_flat (F_flat n)) := by
  rintro ms G hl ⟨t, rfl, hok, hn, q⟩
  show t__law_flat _ _ [.pa (.im t.syn), .no, .no]
  unfold t__law_flat
  cases hok with
  | id hv hS =>
    simp only [Tr.syn, Tr.flat, List.map_cons, List.map_nil] at q ⊢
    walk_at "n"
    walk_at "z"
    walk_at "e"
    exact ⟨by rw [sizeLine_eq]; omega, q _⟩
  | «at» ha =>
    simp only [Tr.syn, Tr.flat, List.map_cons, List.map_nil] at q ⊢
    walk_at "n"
    walk_at "z"
    walk_at "e"
    exact ⟨by rw [sizeLine_eq]; omega, q _⟩
  | ls hlen hk =>
    rename_i ks p
    rw [flat_ls, List.map_cons] at q
    rw [syn_ls] at q ⊢
    walk_at "n"
    walk_at "z"
    walk_at "e"
    subst hR
    walk_at "n"
    refine ⟨by rw [sizeLine_eq]; omega, ?_⟩
    subst hR
    walk_at "n"
    walk_at "z"
    rw [show [D.tup [D.str (Str.ofString "list"), D.tup (ks.map Tr.syn), oc p]] = ([Tr.ls ks p] : List Tr).map Tr.syn by rw [List.map_cons, syn_ls]; rfl]
    refine flat_loop (by omega) ks [.ls ks p] _ hk (by simp; omega) fun s2 => ?_
    subst hR
    walk_at "y"
    rw [List.map_cons, syn_ls]
    exact q _
def Tr.ids (t : Tr) : List Tr := t.flat.filter Tr.isId
def F_ids (n : Nat) : TF := fun ms G => ∃ t : Tr, ms = [.im t.syn] ∧ Ok n t ∧ n ≤ 7 ∧ ∀ fin, G (.ls (t.ids.map Tr.syn)) fin
theorem ids_loop {P : EndP} {n : Nat} {s0 : Sl} (hn : n ≤ 7) : ∀ (us : List Tr) (acc : List Tr) (s2 : Sl), (∀ t ∈ us, Ok n t) → acc.length + us.length * 5461 ≤ 30000 →
    (∀ s2, P.nx [s0, .lo (.ls ((acc ++ us.flatMap Tr.ids).map Tr.syn)), s2]) → loopS (.one 2) (b_identifiers_1 (F_ids n)) (fun _ => True) P (us.map Tr.syn) [s0, .lo (.ls (acc.map Tr.syn)), s2] := by
  intro us
  induction us with
  | nil => intro acc s2 h1 h2 q; exact ⟨trivial, by have := q s2; rw [List.flatMap_nil, List.append_nil] at this; exact this⟩
  | cons u us ih =>
    intro acc s2 h1 h2 q
    rw [List.map_cons]
    have l0 : u.ids.length ≤ u.flat.length := List.length_filter_le _ _
    have l1 := flat_len (h1 u List.mem_cons_self)
    have l2 := sz_le hn
    rw [List.length_cons] at h2
    refine loop_step trivial fun L hL => ?_
    unfold b_identifiers_1
    walk_at "y"
    refine ⟨trivial, rfl, by simp, u, rfl, h1 u List.mem_cons_self, hn, fun fin => ⟨rfl, ?_⟩⟩
    walk_at "y"
    refine ⟨by rw [List.length_map, List.length_map, sizeLine_eq]; omega, ?_⟩
    rw [hL, show acc.map Tr.syn ++ u.ids.map Tr.syn = (acc ++ u.ids).map Tr.syn by simp]
    refine ih (acc ++ u.ids) _ (fun t ht => h1 t (List.mem_cons_of_mem _ ht)) (by rw [List.length_append]; omega) fun s2 => ?_
    have := q s2
    rw [List.flatMap_cons, ← List.append_assoc] at this
    exact this
theorem ids_ls (ks : List Tr) (p : Int) : (Tr.ls ks p).ids = ks.flatMap Tr.ids := by
  unfold Tr.ids
  rw [flat_ls, List.filter_cons_of_neg (by simp [Tr.isId]), List.filter_flatMap]
theorem body_ids (n : Nat) : Body (F_ids (n + 1)) 3 1 (t_identifiers (F_ids n)) := by
  rintro ms G hl ⟨t, rfl, hok, hn, q⟩
  show t_identifiers _ _ [.pa (.im t.syn), .no, .no]
  unfold t_identifiers
  cases hok with
  | id hv hS =>
    have q : ∀ fin, G (.ls [_]) fin := q
    simp only [Tr.syn] at q ⊢
    walk_at "n"
    walk_at "z"
    walk_at "e"
    exact ⟨by rw [sizeLine_eq]; omega, q _⟩
  | «at» ha =>
    have q : ∀ fin, G (.ls []) fin := q
    simp only [Tr.syn] at q ⊢
    walk_at "n"
    walk_at "z"
    walk_at "e"
    subst hR
    walk_at "n"
    refine ⟨by rw [sizeLine_eq]; omega, ?_⟩
    subst hR
    walk_at "n"
    walk_at "z"
    walk_at "e"
    subst hR
    walk_at "y"
    exact q _
  | ls hlen hk =>
    rename_i ks p
    rw [ids_ls] at q
    rw [syn_ls]
    walk_at "n"
    walk_at "z"
    walk_at "e"
    subst hR
    walk_at "n"
    refine ⟨by rw [sizeLine_eq]; omega, ?_⟩
    subst hR
    walk_at "n"
    walk_at "z"
    walk_at "e"
    refine ids_loop (by omega) ks [] _ hk (by simp; omega) fun s2 => ?_
    subst hR
    walk_at "y"
    exact q _
def F_size (n : Nat) : TF := fun ms G => ∃ t : Tr, ms = [.im t.syn] ∧ Ok n t ∧ ∀ fin, G (.im (.int t.flat.length)) fin
theorem len_flat (ks : List Tr) : (ks.map fun t => (t.flat.length : Int)).sum = (ks.flatMap Tr.flat).length := by
  induction ks with
  | nil => rfl
  | cons k ks ih => rw [List.map_cons, List.sum_cons, ih, List.flatMap_cons, List.length_append]; omega
theorem body_size (n : Nat) : Body (F_size (n + 1)) 2 1 (t_size (F_size n)) := by
  rintro ms G hl ⟨t, rfl, hok, q⟩
  show t_size _ _ [.pa (.im t.syn), .no]
  unfold t_size
  cases hok with
  | id hv hS =>
    simp only [Tr.syn, Tr.flat] at q ⊢
    walk_at "n"
    walk_at "z"
    walk_at "e"
    subst hR
    walk_at "y"
    exact q _
  | «at» ha =>
    simp only [Tr.syn, Tr.flat] at q ⊢
    walk_at "n"
    walk_at "z"
    walk_at "e"
    subst hR
    walk_at "y"
    exact q _
  | ls hlen hk =>
    rename_i ks p
    rw [flat_ls] at q
    rw [syn_ls]
    walk_at "n"
    walk_at "z"
    walk_at "e"
    refine comp_fix Tr.syn (fun t => some (.int t.flat.length)) trivial ks [] (fun t ht acc L hacc h => ?_) (by rw [sizeLine_eq]; simp; omega) ?_
    · walk_at "y"
      rw [if_pos rfl]
      refine ⟨rfl, by simp, t, rfl, hk t ht, fun fin => ⟨rfl, ?_⟩⟩
      walk_at "y"
      exact ⟨hacc, h⟩
    · walk_at "y"
      refine ⟨ks.map fun t => (t.flat.length : Int), by simp [List.map_map, Function.comp_def], ?_⟩
      rw [len_flat]
      have := q [some (.im (.tup [.str (Str.ofString "list"), .tup (ks.map Tr.syn), oc p]))]
      rw [List.length_cons, Int.natCast_add, Int.add_comm] at this
      exact this
theorem mx_mem : ∀ (l : List Int), (∀ i ∈ l, 0 ≤ i) → mx l ∈ l ++ [0] ∧ ∀ y ∈ l ++ [0], y ≤ mx l
  | [], _ => ⟨by simp [mx], fun y hy => by simp at hy; subst hy; exact Int.le_refl _⟩
  | i :: r, h => by
    obtain ⟨a, b⟩ := mx_mem r fun j hj => h j (List.mem_cons_of_mem _ hj)
    have h0 := h i List.mem_cons_self
    refine ⟨?_, fun y hy => ?_⟩
    · show max i (mx r) ∈ i :: (r ++ [0])
      rcases Int.le_total i (mx r) with z | z
      · rw [Int.max_eq_right z]; exact List.mem_cons_of_mem _ a
      · rw [Int.max_eq_left z]; exact List.mem_cons_self
    · show y ≤ max i (mx r)
      rcases List.mem_cons.mp hy with e | hy
      · subst e; exact Int.le_max_left _ _
      · exact Int.le_trans (b y hy) (Int.le_max_right _ _)
theorem mx_nn : ∀ l : List Int, 0 ≤ mx l
  | [] => Int.le_refl _
  | i :: r => Int.le_trans (mx_nn r) (Int.le_max_right _ _)
theorem dep_nn : ∀ t : Tr, 0 ≤ t.dep
  | .id _ _ _ => Int.le_refl _
  | .at _ _ _ => Int.le_refl _
  | .ls ks p => by rw [dep_ls]; have := mx_nn (ks.map Tr.dep); omega
theorem mx_is {ks : List Tr} {m : Int} (h1 : m ∈ ks.map Tr.dep ++ [0]) (h2 : ∀ y ∈ ks.map Tr.dep ++ [0], y ≤ m) : m = mx (ks.map Tr.dep) := by
  obtain ⟨a, b⟩ := mx_mem (ks.map Tr.dep) fun i hi => by obtain ⟨t, _, rfl⟩ := List.mem_map.mp hi; exact dep_nn t
  have := b m h1
  have := h2 _ a
  omega
def F_depth (n : Nat) : TF := fun ms G => ∃ t : Tr, ms = [.im t.syn] ∧ Ok n t ∧ ∀ fin, G (.im (.int t.dep)) fin
theorem body_depth (n : Nat) : Body (F_depth (n + 1)) 2 1 (t_depth (F_depth n)) := by
  rintro ms G hl ⟨t, rfl, hok, q⟩
  show t_depth _ _ [.pa (.im t.syn), .no]
  unfold t_depth
  cases hok with
  | id hv hS =>
    simp only [Tr.syn, Tr.dep] at q ⊢
    walk_at "n"
    walk_at "z"
    walk_at "e"
    subst hR
    walk_at "y"
    exact q _
  | «at» ha =>
    simp only [Tr.syn, Tr.dep] at q ⊢
    walk_at "n"
    walk_at "z"
    walk_at "e"
    subst hR
    walk_at "y"
    exact q _
  | ls hlen hk =>
    rename_i ks p
    rw [dep_ls] at q
    rw [syn_ls]
    walk_at "n"
    walk_at "z"
    walk_at "e"
    refine comp_fix Tr.syn (fun t => some (.int t.dep)) trivial ks [] (fun t ht acc L hacc h => ?_) (by rw [sizeLine_eq]; simp; omega) ?_
    · walk_at "y"
      rw [if_pos rfl]
      refine ⟨rfl, by simp, t, rfl, hk t ht, fun fin => ⟨rfl, ?_⟩⟩
      walk_at "y"
      exact ⟨hacc, h⟩
    · walk_at "y"
      refine ⟨by rw [sizeLine_eq]; omega, by rw [sizeLine_eq]; simp; omega, ks.map Tr.dep ++ [0], by simp [List.map_map, Function.comp_def], by simp, fun m h1 h2 => ?_⟩
      rw [mx_is h1 h2]
      exact q _
theorem body_ldepth (n : Nat) : Body (F_depth (n + 1)) 2 1 (t__law_depth (F_depth n)) := by
  rintro ms G hl ⟨t, rfl, hok, q⟩
  show t__law_depth _ _ [.pa (.im t.syn), .no]
  unfold t__law_depth
  cases hok with
  | id hv hS =>
    simp only [Tr.syn, Tr.dep] at q ⊢
    walk_at "n"
    walk_at "z"
    walk_at "e"
    exact q _
  | «at» ha =>
    simp only [Tr.syn, Tr.dep] at q ⊢
    walk_at "n"
    walk_at "z"
    walk_at "e"
    exact q _
  | ls hlen hk =>
    rename_i ks p
    rw [dep_ls] at q
    rw [syn_ls]
    walk_at "n"
    walk_at "z"
    walk_at "e"
    subst hR
    walk_at "y"
    walk_at "z"
    refine comp_fix Tr.syn (fun t => some (.int t.dep)) trivial ks [] (fun t ht acc L hacc h => ?_) (by rw [sizeLine_eq]; simp; omega) ?_
    · walk_at "y"
      rw [if_pos rfl]
      refine ⟨rfl, by simp, t, rfl, hk t ht, fun fin => ⟨rfl, ?_⟩⟩
      walk_at "y"
      exact ⟨hacc, h⟩
    · walk_at "y"
      refine ⟨by rw [sizeLine_eq]; omega, by rw [sizeLine_eq]; simp; omega, ks.map Tr.dep ++ [0], by simp [List.map_map, Function.comp_def], by simp, fun m h1 h2 => ?_⟩
      rw [mx_is h1 h2]
      exact q _
end Y
namespace Y
set_option hygiene false
open PySem PySem.Spec L2
local macro_rules | `(tactic| walk_at "y") => `(tactic| dsimp only [tCallV, tCallL, capt, gLtD, gSum, gMax, gSorted2, sNil, sBk, sCt, sDrop, sIf, asg, sAsg, sRet, sRetN, tIm, tNm, tBin, w2, vw, Sl.m?, tTst, tTru, M.tru, tAndQ, tOrQ, tNotQ, tAndX, tOrX, tNotX, tIfX, lNil, lCons, tOn, fInD, fIxD, tGet1, vwD, getOr, M.isD, sPar2, tLc2X, compL2, tChn, tFrz, froz, tTp, tLs, tCl, vws, tMt, Sl.m!, Sl.up, M.res, gLen, gInt, gAdd, gSub, gMul, gDiv, gMod, gPow, gII, gI0, gEqs, gEqs2, gIx, gPop, gApp, gRev, gExt, gTuple, gList, gDict, gIs, gIsi, gAll, gIns, gSorted, gSl, M.lq?, M.lst?, M.sq?, M.dat?, M.isNon, gLt, gLe, gGt, gGe, sFor, iSeq, srcOf, iEnm, enmOf, iRg1, iRg2, bnd, setAll, backS, Sl.isP, tSlc, pNo, pSo, sSetI, hasM, setM, tDspK, tDspT, pairG, D.key?, D.keys?, D.tkey?, putAll, tNewK, tNewT, tNeg, sUnp, tCall, argMs, argM, argS, slots, putB, stepB, putS_lo_ls_ls, putS_lo_ls_dk, putS_lo_ls_dt, putS_lo_ls_no, putS_pa_ls_ls, putS_pa_ls_dk, putS_pa_ls_dt, putS_pa_ls_no, putS_lo_rd_ls, putS_lo_rd_dk, putS_lo_rd_dt, putS_lo_rd_no, putS_pa_rd_ls, putS_pa_rd_dk, putS_pa_rd_dt, putS_pa_rd_no, putS_lo_dk_ls, putS_lo_dk_dk, putS_lo_dk_dt, putS_lo_dk_no, putS_pa_dk_ls, putS_pa_dk_dk, putS_pa_dk_dt, putS_pa_dk_no, putS_lo_dt_ls, putS_lo_dt_dk, putS_lo_dt_dt, putS_lo_dt_no, putS_pa_dt_ls, putS_pa_dt_dk, putS_pa_dt_dt, putS_pa_dt_no, putS_lo_im, putS_lo_sq, putS_pa_im, putS_pa_sq, M.own, M.fit, fins, Sl.fin, envOf, tLcX, compL, wipeE, restE, keepS, qYes, kD, dGet, List.getElem?_cons_zero, List.getElem?_cons_succ, List.getElem?_nil, List.set_cons_zero, List.set_cons_succ, List.map_cons, List.map_nil, List.take_succ_cons, List.take_zero, List.length_cons, List.length_nil, List.head?_cons, List.tail_cons, Option.join_some, List.cons_append, List.nil_append, List.replicate])
local macro_rules | `(tactic| walk_at "n") => `(tactic| ((try dsimp only); refine seq_step fun R hR => ?_; walk_at "y"))
local macro_rules | `(tactic| walk_at "i") => `(tactic| simp only [Bool.false_xor, Bool.true_xor, Bool.not_true, Bool.not_false, Bool.false_eq_true, reduceIte, isiT, M.ty, String.reduceBEq, Bool.or_false, Bool.false_or, Bool.and_false, Bool.and_true, Bool.true_and, Bool.false_and, Bool.or_true, List.mem_cons, true_or, or_true, true_and, and_true, String.reduceEq, decide_true, decide_false])
local macro_rules | `(tactic| walk_at "s") => `(tactic| (subst hR; walk_at "n"))
local macro_rules | `(tactic| walk_at "z") => `(tactic| (simp only [List.map_cons, List.map_nil, atI_c0, atI_c1, atI_c2, atI_c3, atI_c4, atI_c5]; (try walk_at "y")))
local macro_rules | `(tactic| walk_at "e") => `(tactic| repeat (first | rw [if_pos (by decide +kernel)] | rw [if_neg (by decide +kernel)]))
/-! ### the law's comparison, at equal data -/
mutual
def D.sane : Nat → D → Bool
  | 0, _ => false
  | _ + 1, .raw _ => false
  | _ + 1, .fnv _ _ _ _ _ => false
  | n + 1, .tup ds => decide (ds.length ≤ 100000) && D.sanes n ds
  | n + 1, .lst ds => decide (ds.length ≤ 100000) && D.sanes n ds
  | _ + 1, _ => true
def D.sanes : Nat → List D → Bool
  | _, [] => true
  | n, d :: ds => D.sane n d && D.sanes n ds
end
theorem D.sanes_all (n : Nat) : ∀ ds : List D, D.sanes n ds = ds.all (D.sane n)
  | [] => rfl
  | d :: ds => by simp only [D.sanes, List.all_cons]; rw [D.sanes_all n ds]
def F_isint : TF := fun ms G => ∃ i : Int, ms = [.im (.int i)] ∧ ∀ fin, G (.im (.bl true)) fin
theorem body_isint : Body F_isint 1 1 t__law_is_integer := by
  rintro ms G hl ⟨i, rfl, q⟩
  show t__law_is_integer _ [Sl.pa (.im (.int i))]
  unfold t__law_is_integer
  walk_at "y"; walk_at "i"
  exact q _
def SaneM : Nat → M → Prop
  | n, .im d => D.sane n d = true
  | n + 1, .ls ds => ds.length ≤ 100000 ∧ ∀ x ∈ ds, D.sane n x = true
  | _, _ => False
def F_same (n : Nat) : TF := fun ms G => ∃ m, ms = [m, m] ∧ SaneM n m ∧ ∀ fin, G (.im (.bl true)) fin
def F_items (n : Nat) : TF := fun ms G => ∃ (m : M) (ds : List D), ms = [m, m] ∧ (m = .im (.tup ds) ∨ m = .im (.lst ds) ∨ m = .ls ds) ∧ ds.length ≤ 100000 ∧ (∀ x ∈ ds, D.sane n x = true) ∧ ∀ fin, G (.im (.bl true)) fin
theorem items_loop {P : EndP} {n : Nat} {m : M} {ds : List D} (hd : m = .im (.tup ds) ∨ m = .im (.lst ds) ∨ m = .ls ds) (hs : ∀ x ∈ ds, D.sane n x = true) (q : ∀ s2, P.nx [.pa m, .pa m, s2]) : ∀ (j lo : Nat) (s2 : Sl), lo + j = ds.length →
    loopS (.one 2) (b__law_same_items_1 (F_same n)) (fun _ => True) P (gRng lo j) [.pa m, .pa m, s2] := by
  intro j
  induction j with
  | zero => intro lo s2 _; exact ⟨trivial, q s2⟩
  | succ j ih =>
    intro lo s2 e
    rw [gRng_succ]
    refine loop_step trivial fun L hL => ?_
    obtain ⟨x, hx, hx2⟩ := atI_ok (xs := ds) (i := (lo : Int)) (by omega) (by omega)
    have mem : x ∈ ds := List.mem_of_getElem? hx2
    have fin : L [.pa m, .pa m, .lo (.im (.int lo))] := by rw [hL]; exact ih (lo + 1) _ (by omega)
    unfold b__law_same_items_1
    rcases hd with rfl | rfl | rfl
    all_goals
      walk_at "y"
      rw [hx]
      exact ⟨rfl, by simp, .im x, rfl, hs x mem, fun _ => ⟨rfl, fin⟩⟩
theorem body_items (n : Nat) : Body (F_items n) 3 2 (t__law_same_items (F_same n)) := by
  rintro ms G hl ⟨m, ds, rfl, hd, hlen, hs, q⟩
  show t__law_same_items _ _ [Sl.pa m, Sl.pa m, .no]
  unfold t__law_same_items
  have hloop := fun P q => items_loop (P := P) (n := n) hd hs q ds.length 0 .no (by omega)
  rcases hd with rfl | rfl | rfl
  all_goals
    walk_at "n"
    rw [if_neg (by simp)]
    subst hR
    walk_at "n"
    refine ⟨by omega, by omega, ?_⟩
    rw [Int.toNat_natCast]
    refine hloop _ fun s2 => ?_
    subst hR
    walk_at "y"
    exact q _
theorem body_same (n : Nat) : Body (F_same (n + 1)) 3 2 (t__law_same F_isint (F_items n) (F_same n)) := by
  rintro ms G hl ⟨m, rfl, hm, q⟩
  show t__law_same _ _ _ _ [Sl.pa m, Sl.pa m, .no]
  unfold t__law_same
  have o1 : ∀ b, D.ok 64 (.bl b) = true := fun b => rfl
  cases m with
  | ls ds =>
    walk_at "n"; walk_at "i"
    walk_at "s"; walk_at "i"
    walk_at "s"; walk_at "i"
    walk_at "s"; walk_at "i"
    walk_at "s"; walk_at "i"
    walk_at "s"; walk_at "i"
    exact ⟨by simp, .ls ds, ds, rfl, .inr (.inr rfl), hm.1, hm.2, fun _ => ⟨rfl, q _⟩⟩
  | sq ds => exact hm.elim
  | rd ds => exact hm.elim
  | dk ds => exact hm.elim
  | dt ds => exact hm.elim
  | im d =>
    have hm : D.sane (n + 1) d = true := hm
    cases d with
    | non =>
      walk_at "n"
      walk_at "i"
      exact q _
    | bl b =>
      walk_at "n"; walk_at "i"
      walk_at "s"; walk_at "i"
      rw [show (D.bl b).eqv (D.bl b) = true by cases b <;> rfl]
      exact ⟨o1 _, o1 _, q _⟩
    | int i =>
      walk_at "n"; walk_at "i"
      walk_at "s"; walk_at "i"
      walk_at "s"; walk_at "i"
      refine ⟨by simp, i, rfl, fun _ => ?_⟩
      walk_at "y"; walk_at "i"
      exact q _
    | str z =>
      walk_at "n"; walk_at "i"
      walk_at "s"; walk_at "i"
      walk_at "s"; walk_at "i"
      walk_at "s"; walk_at "i"
      exact q _
    | tup ds =>
      simp only [D.sane, D.sanes_all, Bool.and_eq_true, decide_eq_true_eq, List.all_eq_true] at hm
      walk_at "n"; walk_at "i"
      walk_at "s"; walk_at "i"
      walk_at "s"; walk_at "i"
      walk_at "s"; walk_at "i"
      walk_at "s"; walk_at "i"
      exact ⟨by simp, .im (.tup ds), ds, rfl, .inl rfl, hm.1, hm.2, fun _ => ⟨rfl, q _⟩⟩
    | lst ds =>
      simp only [D.sane, D.sanes_all, Bool.and_eq_true, decide_eq_true_eq, List.all_eq_true] at hm
      walk_at "n"; walk_at "i"
      walk_at "s"; walk_at "i"
      walk_at "s"; walk_at "i"
      walk_at "s"; walk_at "i"
      walk_at "s"; walk_at "i"
      walk_at "s"; walk_at "i"
      exact ⟨by simp, .im (.lst ds), ds, rfl, .inr (.inl rfl), hm.1, hm.2, fun _ => ⟨rfl, q _⟩⟩
    | raw v => simp [D.sane] at hm
    | fnv _ _ _ _ _ => simp [D.sane] at hm
theorem sane_sc (s : Sc) (n : Nat) : D.sane (n + 2) (scD s) = true := by simp [scD, D.sane, D.sanes]
theorem sane_oc (p : Int) (n : Nat) : D.sane (n + 2) (oc p) = true := by simp [oc, D.sane, D.sanes]
theorem sane_atom : ∀ x ∈ atoms, ∀ n, D.sane (n + 1) x.2 = true := by
  intro x hx n
  simp only [atoms, List.mem_cons, List.not_mem_nil, or_false] at hx
  rcases hx with h | h | h | h | h | h <;> subst h <;> rfl
theorem sane_syn : ∀ {n : Nat} {t : Tr}, Ok n t → D.sane (2 * n + 3) t.syn = true
  | n + 1, _, .id (p := p) (s := S) hv hS => by
    have e1 : D.sanes (2 * (n + 1) + 1) (S.map scD) = true := by
      rw [D.sanes_all, List.all_eq_true]
      intro d hd
      obtain ⟨a, _, rfl⟩ := List.mem_map.mp hd
      exact sane_sc a (2 * n + 1)
    have e2 := sane_oc p (2 * n + 2)
    have l := hS.len
    rw [show 2 * (n + 1) + 3 = (2 * n + 2) + 1 + 1 + 1 by omega]
    rw [show 2 * (n + 1) + 1 = 2 * n + 2 + 1 by omega] at e1
    simp only [Tr.syn, D.sane, D.sanes, List.length_map, e1, e2, Bool.and_true, Bool.true_and, List.length_cons, List.length_nil]
    simp; omega
  | n + 1, _, .at (p := p) ha => by
    have e1 := sane_atom _ ha (2 * n + 3)
    have e2 := sane_oc p (2 * n + 2)
    rw [show 2 * (n + 1) + 3 = (2 * n + 2) + 1 + 1 + 1 by omega]
    simp only [Tr.syn, D.sane, D.sanes, e1, e2, Bool.and_true, Bool.true_and, List.length_cons, List.length_nil]
    simp
  | n + 1, _, .ls (ks := ks) (p := p) hl hk => by
    have e1 : D.sanes (2 * n + 3) (ks.map Tr.syn) = true := by
      rw [D.sanes_all, List.all_eq_true]
      intro d hd
      obtain ⟨a, ha, rfl⟩ := List.mem_map.mp hd
      exact sane_syn (hk a ha)
    have e2 := sane_oc p (2 * n + 2)
    rw [syn_ls, show 2 * (n + 1) + 3 = (2 * n + 3) + 1 + 1 by omega]
    simp only [D.sane, D.sanes, List.length_map, e1, e2, Bool.and_true, Bool.true_and, List.length_cons, List.length_nil]
    simp; omega
theorem sane_dat : ∀ {n : Nat} {t : Tr}, Ok n t → D.sane (2 * n + 3) t.dat = true
  | n + 1, _, .id hv hS => by simp [Tr.dat, D.sane, D.sanes, show 2 * (n + 1) + 3 = (2 * n + 2) + 1 + 1 + 1 by omega]
  | n + 1, _, .at (p := p) ha => by
    have e1 := sane_atom _ ha (2 * n + 3)
    rw [show 2 * (n + 1) + 3 = (2 * n + 2) + 1 + 1 + 1 by omega]
    simp only [Tr.dat, D.sane, D.sanes, e1, Bool.and_true, Bool.true_and, List.length_cons, List.length_nil]
    simp
  | n + 1, _, .ls (ks := ks) (p := p) hl hk => by
    have e1 : D.sanes (2 * n + 3) (ks.map Tr.dat) = true := by
      rw [D.sanes_all, List.all_eq_true]
      intro d hd
      obtain ⟨a, ha, rfl⟩ := List.mem_map.mp hd
      exact sane_dat (hk a ha)
    rw [dat_ls, show 2 * (n + 1) + 3 = (2 * n + 3) + 1 + 1 by omega]
    simp only [D.sane, D.sanes, List.length_map, e1, Bool.and_true, Bool.true_and, List.length_cons, List.length_nil]
    simp; omega
end Y
namespace Y
set_option hygiene false
open PySem PySem.Spec L2
local macro_rules | `(tactic| walk_at "y") => `(tactic| dsimp only [tCallV, tCallL, capt, gLtD, gSum, gMax, gSorted2, sNil, sBk, sCt, sDrop, sIf, asg, sAsg, sRet, sRetN, tIm, tNm, tBin, w2, vw, Sl.m?, tTst, tTru, M.tru, tAndQ, tOrQ, tNotQ, tAndX, tOrX, tNotX, tIfX, lNil, lCons, tOn, fInD, fIxD, tGet1, vwD, getOr, M.isD, sPar2, tLc2X, compL2, tChn, tFrz, froz, tTp, tLs, tCl, vws, tMt, Sl.m!, Sl.up, M.res, gLen, gInt, gAdd, gSub, gMul, gDiv, gMod, gPow, gII, gI0, gEqs, gEqs2, gIx, gPop, gApp, gRev, gExt, gTuple, gList, gDict, gIs, gIsi, gAll, gIns, gSorted, gSl, M.lq?, M.lst?, M.sq?, M.dat?, M.isNon, gLt, gLe, gGt, gGe, sFor, iSeq, srcOf, iEnm, enmOf, iRg1, iRg2, bnd, setAll, backS, Sl.isP, tSlc, pNo, pSo, sSetI, hasM, setM, tDspK, tDspT, pairG, D.key?, D.keys?, D.tkey?, putAll, tNewK, tNewT, tNeg, sUnp, tCall, argMs, argM, argS, slots, putB, stepB, putS_lo_ls_ls, putS_lo_ls_dk, putS_lo_ls_dt, putS_lo_ls_no, putS_pa_ls_ls, putS_pa_ls_dk, putS_pa_ls_dt, putS_pa_ls_no, putS_lo_rd_ls, putS_lo_rd_dk, putS_lo_rd_dt, putS_lo_rd_no, putS_pa_rd_ls, putS_pa_rd_dk, putS_pa_rd_dt, putS_pa_rd_no, putS_lo_dk_ls, putS_lo_dk_dk, putS_lo_dk_dt, putS_lo_dk_no, putS_pa_dk_ls, putS_pa_dk_dk, putS_pa_dk_dt, putS_pa_dk_no, putS_lo_dt_ls, putS_lo_dt_dk, putS_lo_dt_dt, putS_lo_dt_no, putS_pa_dt_ls, putS_pa_dt_dk, putS_pa_dt_dt, putS_pa_dt_no, putS_lo_im, putS_lo_sq, putS_pa_im, putS_pa_sq, M.own, M.fit, fins, Sl.fin, envOf, tLcX, compL, wipeE, restE, keepS, qYes, kD, dGet, List.getElem?_cons_zero, List.getElem?_cons_succ, List.getElem?_nil, List.set_cons_zero, List.set_cons_succ, List.map_cons, List.map_nil, List.take_succ_cons, List.take_zero, List.length_cons, List.length_nil, List.head?_cons, List.tail_cons, Option.join_some, List.cons_append, List.nil_append, List.replicate])
local macro_rules | `(tactic| walk_at "n") => `(tactic| ((try dsimp only); refine seq_step fun R hR => ?_; walk_at "y"))
local macro_rules | `(tactic| walk_at "i") => `(tactic| simp only [Bool.false_xor, Bool.true_xor, Bool.not_true, Bool.not_false, Bool.false_eq_true, reduceIte, isiT, M.ty, String.reduceBEq, Bool.or_false, Bool.false_or, Bool.and_false, Bool.and_true, Bool.true_and, Bool.false_and, Bool.or_true, List.mem_cons, true_or, or_true, true_and, and_true, String.reduceEq, decide_true, decide_false])
local macro_rules | `(tactic| walk_at "s") => `(tactic| (subst hR; walk_at "n"))
local macro_rules | `(tactic| walk_at "z") => `(tactic| (simp only [List.map_cons, List.map_nil, atI_c0, atI_c1, atI_c2, atI_c3, atI_c4, atI_c5]; (try walk_at "y")))
local macro_rules | `(tactic| walk_at "e") => `(tactic| repeat (first | rw [if_pos (by decide +kernel)] | rw [if_neg (by decide +kernel)]))
/-! ### names -/
def names : List (Str × Bool × Nat) := [("m", true, 109), ("a", true, 97), ("zz", true, 122), ("zzz", true, 122), ("9m", false, 57), ("M", false, 77)]
def inB (n : Nat) : Bool := false ^^ !(Builtin.Str.occurrences (Str.ofString "abcdefghijklmnopqrstuvwxyz0123456789!*+-./:<=>?_") ⟨#[n]⟩ 0 (Str.ofString "abcdefghijklmnopqrstuvwxyz0123456789!*+-./:<=>?_").length 1).isEmpty
def F_isname : TF := fun ms G => ∃ (x : Str) (b : Bool) (c : Nat), ms = [.im (.str x)] ∧ (x, b, c) ∈ names ∧ ∀ fin, G (.im (.bl b)) fin
theorem body_isname : Body F_isname 3 1 t_is_name := by
  rintro ms G hl ⟨x, b, c, rfl, hx, q⟩
  show t_is_name _ [.pa (.im (.str x)), .no, .no]
  unfold t_is_name
  simp only [names, List.mem_cons, List.not_mem_nil, or_false, Prod.mk.injEq] at hx
  generalize hc : c = c0 at hx
  rcases hx with ⟨rfl, rfl, rfl⟩ | ⟨rfl, rfl, rfl⟩ | ⟨rfl, rfl, rfl⟩ | ⟨rfl, rfl, rfl⟩ | ⟨rfl, rfl, rfl⟩ | ⟨rfl, rfl, rfl⟩
  all_goals
    walk_at "n"
    refine ⟨by rw [sizeLine_eq]; decide +kernel, ?_⟩
    walk_at "e"
    unfold fInT
    refine ⟨by decide +kernel, ?_⟩
    dsimp only
    walk_at "e"
    subst hR
    walk_at "n"
    refine comp_fix (fun n : Nat => D.str ⟨#[n]⟩) (fun n => some (.bl (inB n))) trivial _ [] (fun n hn acc L hacc h => ?_) (by rw [sizeLine_eq]; decide +kernel) ?_
    · walk_at "y"
      rw [if_pos rfl]
      unfold inB at h
      exact ⟨hacc, h⟩
    · walk_at "y"
      rw [show ∀ l : List Nat, l.filterMap (fun n => some (D.bl (inB n))) = (l.map inB).map D.bl by intro l; simp [Function.comp_def], D.bls_map]
      dsimp only
      walk_at "e"
      first
      | exact q _
      | (subst hR
         walk_at "n"
         refine ⟨by rw [sizeLine_eq]; decide +kernel, ?_⟩
         have e : ∀ x : Str, atI x.cps.toList 0 = some c → atI x.cps.toList 0 = some c := fun _ h => h
         subst hc
         rw [e _ (by decide +kernel)]
         dsimp only
         walk_at "e"
         refine ⟨by rw [sizeLine_eq]; decide +kernel, ?_⟩
         subst hR
         walk_at "y"
         walk_at "e"
         first
         | exact q _
         | (rw [show (false ^^ decide (({ cps := #[57] } : Str) = Str.ofString "")) = false by decide +kernel]
            exact q _))
/-! ### scopes -/
theorem cut1 (a b c : D) : cutD [a, b, c] (some 1) none = [b, c] := rfl
inductive IsSc : D → Bool → Prop
  | tri {x : Str} {nb : Bool} {c : Nat} {i j : Int} : (x, nb, c) ∈ names → IsSc (.tup [.str x, .int i, .int j]) (nb && decide (0 ≤ i) && decide (0 ≤ j))
  | str {x : Str} : IsSc (.str x) false
  | two {a b : D} : IsSc (.tup [a, b]) false
  | four {a b c d : D} : IsSc (.tup [a, b, c, d]) false
  | bl {x : Str} {b : Bool} {j : Int} : IsSc (.tup [.str x, .bl b, .int j]) false
  | st {x y : Str} {j : Int} : IsSc (.tup [.str x, .str y, .int j]) false
def F_isscope : TF := fun ms G => ∃ (d : D) (b : Bool), ms = [.im d] ∧ IsSc d b ∧ ∀ fin, G (.im (.bl b)) fin
theorem body_isscope : Body F_isscope 2 1 (t_is_scope F_isname) := by
  rintro ms G hl ⟨d, b, rfl, hd, q⟩
  show t_is_scope _ _ [.pa (.im d), .no]
  unfold t_is_scope
  cases hd with
  | str =>
    walk_at "n"
    walk_at "i"
    exact q _
  | two =>
    walk_at "n"
    walk_at "i"
    walk_at "e"
    exact q _
  | four =>
    walk_at "n"
    walk_at "i"
    walk_at "e"
    exact q _
  | bl =>
    walk_at "n"
    walk_at "i"
    walk_at "z"
    walk_at "i"
    rw [if_neg (by simp)]
    subst hR
    walk_at "n"
    rw [cut1]
    refine comp_step trivial fun L hL => ?_
    walk_at "y"; walk_at "i"
    refine ⟨by rw [sizeLine_eq]; omega, ?_⟩
    rw [hL]
    refine comp_step trivial fun L hL => ?_
    walk_at "y"; walk_at "i"
    refine ⟨by rw [sizeLine_eq]; omega, ?_⟩
    rw [hL]
    refine ⟨trivial, ?_⟩
    dsimp only [D.bls?, Option.map]
    rw [if_pos (by decide)]
    exact q _
  | st =>
    walk_at "n"
    walk_at "i"
    walk_at "z"
    walk_at "i"
    rw [if_neg (by simp)]
    subst hR
    walk_at "n"
    rw [cut1]
    refine comp_step trivial fun L hL => ?_
    walk_at "y"; walk_at "i"
    refine ⟨by rw [sizeLine_eq]; omega, ?_⟩
    rw [hL]
    refine comp_step trivial fun L hL => ?_
    walk_at "y"; walk_at "i"
    refine ⟨by rw [sizeLine_eq]; omega, ?_⟩
    rw [hL]
    refine ⟨trivial, ?_⟩
    dsimp only [D.bls?, Option.map]
    rw [if_pos (by decide)]
    exact q _
  | tri hx =>
    rename_i x nb c i j
    walk_at "n"
    walk_at "i"
    walk_at "z"
    walk_at "i"
    rw [if_neg (by simp)]
    subst hR
    walk_at "n"
    rw [cut1]
    refine comp_step trivial fun L hL => ?_
    walk_at "y"; walk_at "i"
    refine ⟨by rw [sizeLine_eq]; omega, ?_⟩
    rw [hL]
    refine comp_step trivial fun L hL => ?_
    walk_at "y"; walk_at "i"
    refine ⟨by rw [sizeLine_eq]; omega, ?_⟩
    rw [hL]
    refine ⟨trivial, ?_⟩
    dsimp only [D.bls?, Option.map]
    rw [if_neg (by decide)]
    subst hR
    walk_at "y"
    walk_at "z"
    refine ⟨trivial, by simp, x, nb, c, rfl, hx, fun fin => ⟨rfl, ?_⟩⟩
    cases nb with
    | false =>
      dsimp only
      walk_at "e"
      exact q _
    | true =>
      dsimp only
      walk_at "e"
      by_cases h : 0 ≤ i
      · rw [if_pos (by simpa using h)]
        simp only [h, decide_true, Bool.true_and] at q
        exact q _
      · rw [if_neg (by simpa using h)]
        simp only [h, decide_false, Bool.false_and, Bool.and_false] at q
        exact q _
end Y
namespace Y
set_option hygiene false
open PySem PySem.Spec L2
local macro_rules | `(tactic| walk_at "y") => `(tactic| dsimp only [tCallV, tCallL, capt, gLtD, gSum, gMax, gSorted2, sNil, sBk, sCt, sDrop, sIf, asg, sAsg, sRet, sRetN, tIm, tNm, tBin, w2, vw, Sl.m?, tTst, tTru, M.tru, tAndQ, tOrQ, tNotQ, tAndX, tOrX, tNotX, tIfX, lNil, lCons, tOn, fInD, fIxD, tGet1, vwD, getOr, M.isD, sPar2, tLc2X, compL2, tChn, tFrz, froz, tTp, tLs, tCl, vws, tMt, Sl.m!, Sl.up, M.res, gLen, gInt, gAdd, gSub, gMul, gDiv, gMod, gPow, gII, gI0, gEqs, gEqs2, gIx, gPop, gApp, gRev, gExt, gTuple, gList, gDict, gIs, gIsi, gAll, gIns, gSorted, gSl, M.lq?, M.lst?, M.sq?, M.dat?, M.isNon, gLt, gLe, gGt, gGe, sFor, iSeq, srcOf, iEnm, enmOf, iRg1, iRg2, bnd, setAll, backS, Sl.isP, tSlc, pNo, pSo, sSetI, hasM, setM, tDspK, tDspT, pairG, D.key?, D.keys?, D.tkey?, putAll, tNewK, tNewT, tNeg, sUnp, tCall, argMs, argM, argS, slots, putB, stepB, putS_lo_ls_ls, putS_lo_ls_dk, putS_lo_ls_dt, putS_lo_ls_no, putS_pa_ls_ls, putS_pa_ls_dk, putS_pa_ls_dt, putS_pa_ls_no, putS_lo_rd_ls, putS_lo_rd_dk, putS_lo_rd_dt, putS_lo_rd_no, putS_pa_rd_ls, putS_pa_rd_dk, putS_pa_rd_dt, putS_pa_rd_no, putS_lo_dk_ls, putS_lo_dk_dk, putS_lo_dk_dt, putS_lo_dk_no, putS_pa_dk_ls, putS_pa_dk_dk, putS_pa_dk_dt, putS_pa_dk_no, putS_lo_dt_ls, putS_lo_dt_dk, putS_lo_dt_dt, putS_lo_dt_no, putS_pa_dt_ls, putS_pa_dt_dk, putS_pa_dt_dt, putS_pa_dt_no, putS_lo_im, putS_lo_sq, putS_pa_im, putS_pa_sq, M.own, M.fit, fins, Sl.fin, envOf, tLcX, compL, wipeE, restE, keepS, qYes, kD, dGet, List.getElem?_cons_zero, List.getElem?_cons_succ, List.getElem?_nil, List.set_cons_zero, List.set_cons_succ, List.map_cons, List.map_nil, List.take_succ_cons, List.take_zero, List.length_cons, List.length_nil, List.head?_cons, List.tail_cons, Option.join_some, List.cons_append, List.nil_append, List.replicate])
local macro_rules | `(tactic| walk_at "n") => `(tactic| ((try dsimp only); refine seq_step fun R hR => ?_; walk_at "y"))
local macro_rules | `(tactic| walk_at "i") => `(tactic| simp only [Bool.false_xor, Bool.true_xor, Bool.not_true, Bool.not_false, Bool.false_eq_true, reduceIte, isiT, M.ty, String.reduceBEq, Bool.or_false, Bool.false_or, Bool.and_false, Bool.and_true, Bool.true_and, Bool.false_and, Bool.or_true, List.mem_cons, true_or, or_true, true_and, and_true, String.reduceEq, decide_true, decide_false])
local macro_rules | `(tactic| walk_at "s") => `(tactic| (subst hR; walk_at "n"))
local macro_rules | `(tactic| walk_at "z") => `(tactic| (simp only [List.map_cons, List.map_nil, atI_c0, atI_c1, atI_c2, atI_c3, atI_c4, atI_c5]; (try walk_at "y")))
local macro_rules | `(tactic| walk_at "e") => `(tactic| repeat (first | rw [if_pos (by decide +kernel)] | rw [if_neg (by decide +kernel)]))
/-! ### sets -/
def ltSc (a b : Sc) : Bool := PySem.W.dataLt (scD a).py (scD b).py
def ltAt (S : List Sc) (k : Nat) : Bool := match S[k]?, S[k + 1]? with
  | some a, some b => ltSc a b
  | _, _ => false
def up (S : List Sc) : Bool := (List.range' 0 (S.length - 1)).all (ltAt S)
theorem sc_names : ∀ s ∈ allSc ++ topSc, (names.any fun p => decide (p.1 = s.1) && p.2.1) = true ∧ 0 ≤ s.2.1 ∧ 0 ≤ s.2.2 := by decide +kernel
theorem isSc_sc {s : Sc} (h : s ∈ allSc ++ topSc) : IsSc (scD s) true := by
  obtain ⟨h1, h2, h3⟩ := sc_names s h
  obtain ⟨p, hp, e⟩ := List.any_eq_true.mp h1
  obtain ⟨x, nb, c⟩ := p
  simp only [Bool.and_eq_true, decide_eq_true_eq] at e
  obtain ⟨rfl, rfl⟩ := e
  have := IsSc.tri (i := s.2.1) (j := s.2.2) hp
  simp only [h2, h3, decide_true, Bool.and_self] at this
  exact this
inductive IsSet : D → Bool → Prop
  | non : IsSet .non false
  | lst {ds : List D} : IsSet (.lst ds) false
  | one {d : D} : IsSc d false → IsSet (.tup [d]) false
  | all {S : List Sc} : (∀ s ∈ S, s ∈ allSc ++ topSc) → S.length ≤ 30 → IsSet (.tup (S.map scD)) (up S)
def F_isset : TF := fun ms G => ∃ (d : D) (b : Bool), ms = [.im d] ∧ IsSet d b ∧ ∀ fin, G (.im (.bl b)) fin
theorem set_comp {S : List Sc} (hS : ∀ s ∈ S, s ∈ allSc ++ topSc) {k : List D → Env → Prop} {s1 : Sl} : ∀ (n lo : Nat) (acc : List Bool), lo + n + 1 ≤ S.length → acc.length + n ≤ 30 →
    k ((acc ++ (List.range' lo n).map (ltAt S)).map D.bl) [.pa (.im (.tup (S.map scD))), s1, .no] →
    compL (.one 2) qYes (tBin gLtD (tBin gIx (tNm 0) (tNm 2)) (tBin gIx (tNm 0) (tBin gAdd (tNm 2) (tIm (.int 1))))) [2] (fun _ => True) k (gRng lo n) (acc.map D.bl) [.pa (.im (.tup (S.map scD))), s1, .no] := by
  intro n
  induction n with
  | zero => intro lo acc h1 h2 q; exact ⟨trivial, by simpa using q⟩
  | succ n ih =>
    intro lo acc h1 h2 q
    rw [gRng_succ]
    refine comp_step trivial fun L hL => ?_
    obtain ⟨a, ha, ha2⟩ := atI_ok (xs := S.map scD) (i := (lo : Int)) (by omega) (by simp; omega)
    obtain ⟨b, hb, hb2⟩ := atI_ok (xs := S.map scD) (i := ((lo : Int) + 1)) (by omega) (by simp; omega)
    rw [Int.toNat_natCast, List.getElem?_map] at ha2
    rw [show ((lo : Int) + 1).toNat = lo + 1 by omega, List.getElem?_map] at hb2
    obtain ⟨x, hx, rfl⟩ := Option.map_eq_some_iff.mp ha2
    obtain ⟨y, hy, rfl⟩ := Option.map_eq_some_iff.mp hb2
    have mx : x ∈ allSc ++ topSc := hS x (List.mem_of_getElem? hx)
    have my : y ∈ allSc ++ topSc := hS y (List.mem_of_getElem? hy)
    walk_at "y"
    rw [ha]
    dsimp only
    rw [hb]
    unfold scD
    walk_at "y"
    refine ⟨alike_sc x y, by simp [D.py], ok_sc mx 63, ok_sc my 63, ?_⟩
    refine ⟨by rw [sizeLine_eq, List.length_map]; omega, ?_⟩
    have e : PySem.W.dataLt (D.py (.tup [.str x.1, .int x.2.1, .int x.2.2])) (D.py (.tup [.str y.1, .int y.2.1, .int y.2.2])) = ltAt S lo := by
      unfold ltAt
      rw [hx, hy]
      rfl
    rw [e, hL, show acc.map D.bl ++ [D.bl (ltAt S lo)] = (acc ++ [ltAt S lo]).map D.bl by simp]
    refine ih (lo + 1) (acc ++ [ltAt S lo]) (by omega) (by simp; omega) ?_
    rw [List.range'_succ, List.map_cons] at q
    rw [List.append_assoc]
    exact q
theorem body_isset : Body F_isset 3 1 (t_is_set F_isscope) := by
  rintro ms G hl ⟨d, b, rfl, hd, q⟩
  show t_is_set _ _ [.pa (.im d), .no, .no]
  unfold t_is_set
  cases hd with
  | non =>
    walk_at "n"
    walk_at "i"
    exact q _
  | lst =>
    walk_at "n"
    walk_at "i"
    exact q _
  | one h =>
    rename_i d
    walk_at "n"
    walk_at "i"
    refine ⟨by simp, d, false, rfl, h, fun fin => ⟨rfl, ?_⟩⟩
    walk_at "y"
    refine ⟨by rw [sizeLine_eq]; omega, ?_⟩
    dsimp only [D.bls?, Option.map]
    rw [if_pos (by decide)]
    exact q _
  | all hS hlen =>
    rename_i S
    walk_at "n"
    walk_at "i"
    refine comp_fix scD (fun _ => some (.bl true)) trivial S [] (fun s hs acc L hacc h => ?_) (by rw [sizeLine_eq]; simp; omega) ?_
    · unfold scD
      walk_at "y"
      rw [if_pos rfl]
      refine ⟨rfl, by simp, scD s, true, rfl, isSc_sc (hS s hs), fun fin => ⟨rfl, ?_⟩⟩
      walk_at "y"
      exact ⟨hacc, h⟩
    · rw [show [] ++ S.filterMap (fun _ => some (D.bl true)) = (S.map fun _ => true).map D.bl by simp [Function.comp_def], D.bls_map]
      dsimp only
      rw [if_neg (by simp)]
      subst hR
      walk_at "y"
      rw [List.length_map]
      refine ⟨by omega, by omega, ?_⟩
      by_cases hz : S.length = 0
      · have e : S = [] := List.length_eq_zero_iff.mp hz
        subst e
        refine ⟨trivial, ?_⟩
        exact q _
      · rw [show ((S.length : Int) - 1).toNat = S.length - 1 by omega]
        refine set_comp hS (S.length - 1) 0 [] (by omega) (by simp; omega) ?_
        rw [List.nil_append, D.bls_map]
        dsimp only
        rw [List.all_map]
        exact q _
end Y
namespace Y
set_option hygiene false
open PySem PySem.Spec L2
local macro_rules | `(tactic| walk_at "y") => `(tactic| dsimp only [tCallV, tCallL, capt, gLtD, gSum, gMax, gSorted2, sNil, sBk, sCt, sDrop, sIf, asg, sAsg, sRet, sRetN, tIm, tNm, tBin, w2, vw, Sl.m?, tTst, tTru, M.tru, tAndQ, tOrQ, tNotQ, tAndX, tOrX, tNotX, tIfX, lNil, lCons, tOn, fInD, fIxD, tGet1, vwD, getOr, M.isD, sPar2, tLc2X, compL2, tChn, tFrz, froz, tTp, tLs, tCl, vws, tMt, Sl.m!, Sl.up, M.res, gLen, gInt, gAdd, gSub, gMul, gDiv, gMod, gPow, gII, gI0, gEqs, gEqs2, gIx, gPop, gApp, gRev, gExt, gTuple, gList, gDict, gIs, gIsi, gAll, gIns, gSorted, gSl, M.lq?, M.lst?, M.sq?, M.dat?, M.isNon, gLt, gLe, gGt, gGe, sFor, iSeq, srcOf, iEnm, enmOf, iRg1, iRg2, bnd, setAll, backS, Sl.isP, tSlc, pNo, pSo, sSetI, hasM, setM, tDspK, tDspT, pairG, D.key?, D.keys?, D.tkey?, putAll, tNewK, tNewT, tNeg, sUnp, tCall, argMs, argM, argS, slots, putB, stepB, putS_lo_ls_ls, putS_lo_ls_dk, putS_lo_ls_dt, putS_lo_ls_no, putS_pa_ls_ls, putS_pa_ls_dk, putS_pa_ls_dt, putS_pa_ls_no, putS_lo_rd_ls, putS_lo_rd_dk, putS_lo_rd_dt, putS_lo_rd_no, putS_pa_rd_ls, putS_pa_rd_dk, putS_pa_rd_dt, putS_pa_rd_no, putS_lo_dk_ls, putS_lo_dk_dk, putS_lo_dk_dt, putS_lo_dk_no, putS_pa_dk_ls, putS_pa_dk_dk, putS_pa_dk_dt, putS_pa_dk_no, putS_lo_dt_ls, putS_lo_dt_dk, putS_lo_dt_dt, putS_lo_dt_no, putS_pa_dt_ls, putS_pa_dt_dk, putS_pa_dt_dt, putS_pa_dt_no, putS_lo_im, putS_lo_sq, putS_pa_im, putS_pa_sq, M.own, M.fit, fins, Sl.fin, envOf, tLcX, compL, wipeE, restE, keepS, qYes, kD, dGet, List.getElem?_cons_zero, List.getElem?_cons_succ, List.getElem?_nil, List.set_cons_zero, List.set_cons_succ, List.map_cons, List.map_nil, List.take_succ_cons, List.take_zero, List.length_cons, List.length_nil, List.head?_cons, List.tail_cons, Option.join_some, List.cons_append, List.nil_append, List.replicate])
local macro_rules | `(tactic| walk_at "n") => `(tactic| ((try dsimp only); refine seq_step fun R hR => ?_; walk_at "y"))
local macro_rules | `(tactic| walk_at "i") => `(tactic| simp only [Bool.false_xor, Bool.true_xor, Bool.not_true, Bool.not_false, Bool.false_eq_true, reduceIte, isiT, M.ty, String.reduceBEq, Bool.or_false, Bool.false_or, Bool.and_false, Bool.and_true, Bool.true_and, Bool.false_and, Bool.or_true, List.mem_cons, true_or, or_true, true_and, and_true, String.reduceEq, decide_true, decide_false])
local macro_rules | `(tactic| walk_at "s") => `(tactic| (subst hR; walk_at "n"))
local macro_rules | `(tactic| walk_at "z") => `(tactic| (simp only [List.map_cons, List.map_nil, atI_c0, atI_c1, atI_c2, atI_c3, atI_c4, atI_c5]; (try walk_at "y")))
local macro_rules | `(tactic| walk_at "e") => `(tactic| repeat (first | rw [if_pos (by decide +kernel)] | rw [if_neg (by decide +kernel)]))
/-! ### sets, right and wrong -/
theorem lt_of_le : ∀ a ∈ allSc ++ topSc, ∀ b ∈ allSc ++ topSc, leSc a b = true → a ≠ b → ltSc a b = true := by decide +kernel
theorem le_top : ∀ a ∈ allSc, ∀ z ∈ topSc, leSc a z = true ∧ a ≠ z := by decide +kernel
theorem lt_irr : ∀ a ∈ allSc ++ topSc, ltSc a a = false := by decide +kernel
theorem not_lt {a b : Sc} (h : leSc a b = true) : ltSc b a = false := by
  have h : (!ltSc b a) = true := h
  simpa using h
structure GT (T : List Sc) : Prop where
  srt : T.Pairwise fun a b => leSc a b = true
  nd : T.Nodup
  all : ∀ s ∈ T, s ∈ allSc ++ topSc
  len : T.length ≤ 11
theorem gt_gs {S : List Sc} (h : GS S) : GT S := ⟨h.srt, h.nd, fun s hs => mem_top (h.all s hs), by have := h.len; omega⟩
theorem gt_top {S : List Sc} (h : GS S) {z : Sc} (hz : z ∈ topSc) : GT (S ++ [z]) := by
  refine ⟨List.pairwise_append.mpr ⟨h.srt, List.pairwise_singleton _ _, fun a ha b hb => ?_⟩, List.nodup_append.mpr ⟨h.nd, by simp, fun a ha b hb => ?_⟩, fun s hs => ?_, by have := h.len; simp; omega⟩
  · rw [List.mem_singleton.mp hb]; exact (le_top a (h.all a ha) z hz).1
  · rw [List.mem_singleton.mp hb]; exact (le_top a (h.all a ha) z hz).2
  · rcases List.mem_append.mp hs with q | q
    · exact mem_top (h.all s q)
    · rw [List.mem_singleton.mp q]; exact List.mem_append_right _ hz
theorem up_good {T : List Sc} (h : GT T) : up T = true := by
  unfold up
  rw [List.all_eq_true]
  intro k hk
  have hk : k < T.length - 1 := by simpa using hk
  have h1 : k < T.length := by omega
  have h2 : k + 1 < T.length := by omega
  unfold ltAt
  rw [List.getElem?_eq_getElem h1, List.getElem?_eq_getElem h2]
  have le := List.pairwise_iff_getElem.mp h.srt k (k + 1) h1 h2 (by omega)
  have ne := List.pairwise_iff_getElem.mp h.nd k (k + 1) h1 h2 (by omega)
  exact lt_of_le _ (h.all _ (List.getElem_mem h1)) _ (h.all _ (List.getElem_mem h2)) le ne
theorem up_bad {t : Sc} {r : List Sc} (h : GT (t :: r)) : up ((t :: r) ++ [t]) = false := by
  unfold up
  rw [List.all_eq_false]
  refine ⟨r.length, by simp, ?_⟩
  unfold ltAt
  rw [show ((t :: r) ++ [t])[r.length + 1]? = some t by simp]
  have h1 : r.length < (t :: r).length := by simp
  rw [List.getElem?_append_left h1, List.getElem?_eq_getElem h1]
  have q : ltSc ((t :: r)[r.length]) t = false := by
    by_cases hr : r.length = 0
    · have e : r = [] := List.length_eq_zero_iff.mp hr
      subst e
      exact lt_irr t (h.all t List.mem_cons_self)
    · have le := List.pairwise_iff_getElem.mp h.srt 0 r.length (by simp) h1 (by omega)
      exact not_lt le
  show ¬ ltSc ((t :: r)[r.length]) t = true
  rw [q]
  simp
theorem ok_set {T : List Sc} (h : ∀ s ∈ T, s ∈ allSc ++ topSc) : D.ok 64 (.tup (T.map scD)) = true := by
  show D.oks 63 _ = true
  rw [D.oks_all, List.all_eq_true]
  intro d hd
  obtain ⟨a, ha, rfl⟩ := List.mem_map.mp hd
  exact ok_sc (h a ha) 62
def firstBad : List Sc → D
  | [] => .tup [.str "m"]
  | t :: r => .tup ((t :: (r ++ [t])).map scD)
theorem first_bad {T : List Sc} (h : GT T) : IsSet (firstBad T) false := by
  cases T with
  | nil => exact .one .str
  | cons t r =>
    have e := up_bad h
    have q := IsSet.all (S := (t :: r) ++ [t]) (fun s hs => by
      rcases List.mem_append.mp hs with z | z
      · exact h.all s z
      · rw [List.mem_singleton.mp z]; exact h.all t List.mem_cons_self) (by have := h.len; simp at this ⊢; omega)
    rw [e] at q
    exact q
theorem cons_ne (d : D) (ds : List D) : (true ^^ D.eqv (.tup (d :: ds)) (.tup [])) = true := by
  first | rfl | simp [D.eqv, D.py, D.pys, PyData.eqv]
theorem bad_at {f : D} (hf : IsSet f false) (ds : List D) {i : Int} (i0 : 0 ≤ i) (i1 : i < 12) : ∃ d, atI [f, D.lst ds, D.tup [D.tup [D.str (Str.ofString "m"), D.int 1]], D.tup [D.tup [D.str (Str.ofString "m"), D.int (-1), D.int 0]], D.tup [D.tup [D.str (Str.ofString "9m"), D.int 0, D.int 0]],
    D.tup [D.tup [D.str (Str.ofString "m"), D.bl true, D.int 0]], D.tup [D.tup [D.str (Str.ofString "m"), D.int 0, D.int 0], D.tup [D.str (Str.ofString "a"), D.int 0, D.int 0]], D.tup [D.tup [D.str (Str.ofString "m"), D.int 0, D.int (-1)]],
    D.tup [D.tup [D.str (Str.ofString "m"), D.int 0, D.int 0, D.int 0]], D.non, D.tup [D.tup [D.str (Str.ofString "M"), D.int 0, D.int 0]], D.tup [D.tup [D.str (Str.ofString "m"), D.str (Str.ofString "0"), D.int 0]]] i = some d ∧ IsSet d false := by
  have hm : ((Str.ofString "m", true, 109) : Str × Bool × Nat) ∈ names := by simp [names]
  have h9 : ((Str.ofString "9m", false, 57) : Str × Bool × Nat) ∈ names := by simp [names]
  have hM : ((Str.ofString "M", false, 77) : Str × Bool × Nat) ∈ names := by simp [names]
  have : i = 0 ∨ i = 1 ∨ i = 2 ∨ i = 3 ∨ i = 4 ∨ i = 5 ∨ i = 6 ∨ i = 7 ∨ i = 8 ∨ i = 9 ∨ i = 10 ∨ i = 11 := by omega
  rcases this with h | h | h | h | h | h | h | h | h | h | h | h <;> subst h
  · exact ⟨_, rfl, hf⟩
  · exact ⟨_, rfl, .lst⟩
  · exact ⟨_, rfl, .one .two⟩
  · exact ⟨_, rfl, .one (IsSc.tri (i := -1) (j := 0) hm)⟩
  · exact ⟨_, rfl, .one (IsSc.tri (i := 0) (j := 0) h9)⟩
  · exact ⟨_, rfl, .one .bl⟩
  · refine ⟨_, rfl, ?_⟩
    have e : up [(Str.ofString "m", 0, 0), (Str.ofString "a", 0, 0)] = false := by decide +kernel
    have q := IsSet.all (S := [(Str.ofString "m", 0, 0), (Str.ofString "a", 0, 0)]) (by decide +kernel) (by simp)
    rw [e] at q
    exact q
  · exact ⟨_, rfl, .one (IsSc.tri (i := 0) (j := -1) hm)⟩
  · exact ⟨_, rfl, .one .four⟩
  · exact ⟨_, rfl, .non⟩
  · exact ⟨_, rfl, .one (IsSc.tri (i := 0) (j := 0) hM)⟩
  · exact ⟨_, rfl, .one .st⟩
def F_sets : TF := fun ms G => ∃ (kv : List (Key × D)) (m : Int), ms = [.dk kv] ∧ m ≤ 700000100 ∧ TapeOk m kv ∧ ∀ fin, G (.im (.bl true)) fin
theorem body_sets : Body F_sets 3 1 (t__law_sets F_scopes F_take F_isset) := by
  rintro ms G hl ⟨kv, m, rfl, hm, ht, q⟩
  show t__law_sets _ _ _ _ [.pa (.dk kv), .no, .no]
  unfold t__law_sets
  walk_at "n"
  refine ⟨rfl, by simp, kv, m, rfl, by omega, ht, fun S kv1 hS t1 => ⟨rfl, ?_⟩⟩
  walk_at "y"
  refine ⟨rfl, by simp, kv1, 3, m + 10, rfl, by omega, by omega, by omega, t1, fun r kv2 r0 r1 t2 => ⟨rfl, ?_⟩⟩
  walk_at "y"
  have rest : ∀ (T : List Sc) (kv3 : List (Key × D)), GT T → TapeOk (m + 12) kv3 → R [.pa (.dk kv3), .lo (.im (.tup (T.map scD))), .no] := by
    intro T kv3 hT t3
    have hlen := hT.len
    have sz : ∀ n : Nat, n ≤ 20 → n ≤ sizeLine := fun n h => by rw [sizeLine_eq]; omega
    subst hR
    walk_at "n"
    refine ⟨by rw [sizeLine_eq]; omega, ok_set hT.all, rfl, ?_⟩
    have cont : R [.pa (.dk kv3), .lo (.im (.tup (T.map scD))), .lo (.ls [firstBad T, .lst (T.map scD), .tup [.tup [.str "m", .int 1]], .tup [.tup [.str "m", .int (-1), .int 0]], .tup [.tup [.str "9m", .int 0, .int 0]]])] := by
      subst hR
      walk_at "n"
      refine ⟨sz _ (by omega), sz _ (by omega), sz _ (by omega), sz _ (by omega), sz _ (by omega), sz _ (by omega), sz _ (by omega), sz _ (by omega), sz _ (by omega), sz _ (by omega), sz _ (by omega), sz _ (by omega), sz _ (by omega), sz _ (by omega), sz _ (by omega), ?_⟩
      subst hR
      walk_at "y"
      refine ⟨rfl, by simp, .tup (T.map scD), true, rfl, by have z := IsSet.all hT.all (by omega); rw [up_good hT] at z; exact z, fun fin => ⟨rfl, ?_⟩⟩
      walk_at "y"
      rw [if_pos (by decide)]
      refine ⟨rfl, by simp, kv3, 12, m + 12, rfl, by omega, by omega, by omega, t3, fun i kv4 i0 i1 t4 => ⟨rfl, ?_⟩⟩
      walk_at "y"
      obtain ⟨d, ed, hd⟩ := bad_at (first_bad hT) (T.map scD) i0 i1
      rw [ed]
      refine ⟨rfl, by simp, d, false, rfl, hd, fun fin => ⟨rfl, ?_⟩⟩
      walk_at "y"
      exact q _
    cases T with
    | nil =>
      rw [if_neg (by decide)]
      exact ⟨sz _ (by omega), sz _ (by omega), sz _ (by omega), sz _ (by omega), sz _ (by omega), sz _ (by omega), sz _ (by omega), sz _ (by omega), cont⟩
    | cons t r =>
      rw [if_pos (by rw [List.map_cons, cons_ne])]
      rw [show cutD ((t :: r).map scD) none (some 1) = [scD t] by rw [List.map_cons]; unfold cutD; simp [HT.sIx], show (t :: r).map scD ++ [scD t] = (t :: (r ++ [t])).map scD by simp]
      refine ⟨sz _ (by simp at hlen ⊢; omega), sz _ (by omega), sz _ (by omega), sz _ (by omega), sz _ (by omega), sz _ (by omega), sz _ (by omega), sz _ (by omega), cont⟩
  by_cases hr : r = 0
  · rw [if_pos (by simpa using hr)]
    refine ⟨rfl, by simp, kv2, 3, m + 10 + 1, rfl, by omega, by omega, by omega, t2, fun j kv3 j0 j1 t3 => ⟨rfl, ?_⟩⟩
    walk_at "y"
    have hz : ((Str.ofString "zzz", 0, 4 + j) : Sc) ∈ topSc := by
      rcases three j0 j1 with h | h | h <;> subst h <;> simp [topSc]
    have l := hS.len
    refine ⟨by rw [sizeLine_eq]; omega, by rw [sizeLine_eq]; omega, by rw [List.length_map, sizeLine_eq]; omega, ?_⟩
    rw [show S.map scD ++ [D.tup [D.str (Str.ofString "zzz"), D.int 0, D.int (4 + j)]] = (S ++ [(Str.ofString "zzz", 0, 4 + j)]).map scD by simp [scD]]
    exact rest _ _ (gt_top hS hz) (t3.le (by omega))
  · rw [if_neg (by simpa using hr)]
    have l := hS.len
    refine ⟨by rw [sizeLine_eq]; omega, by rw [List.length_map, sizeLine_eq]; omega, ?_⟩
    rw [List.append_nil]
    exact rest _ _ (gt_gs hS) (t2.le (by omega))
end Y
namespace Y
set_option hygiene false
open PySem PySem.Spec L2
local macro_rules | `(tactic| walk_at "y") => `(tactic| dsimp only [tCallV, tCallL, capt, gLtD, gSum, gMax, gSorted2, sNil, sBk, sCt, sDrop, sIf, asg, sAsg, sRet, sRetN, tIm, tNm, tBin, w2, vw, Sl.m?, tTst, tTru, M.tru, tAndQ, tOrQ, tNotQ, tAndX, tOrX, tNotX, tIfX, lNil, lCons, tOn, fInD, fIxD, tGet1, vwD, getOr, M.isD, sPar2, tLc2X, compL2, tChn, tFrz, froz, tTp, tLs, tCl, vws, tMt, Sl.m!, Sl.up, M.res, gLen, gInt, gAdd, gSub, gMul, gDiv, gMod, gPow, gII, gI0, gEqs, gEqs2, gIx, gPop, gApp, gRev, gExt, gTuple, gList, gDict, gIs, gIsi, gAll, gIns, gSorted, gSl, M.lq?, M.lst?, M.sq?, M.dat?, M.isNon, gLt, gLe, gGt, gGe, sFor, iSeq, srcOf, iEnm, enmOf, iRg1, iRg2, bnd, setAll, backS, Sl.isP, tSlc, pNo, pSo, sSetI, hasM, setM, tDspK, tDspT, pairG, D.key?, D.keys?, D.tkey?, putAll, tNewK, tNewT, tNeg, sUnp, tCall, argMs, argM, argS, slots, putB, stepB, putS_lo_ls_ls, putS_lo_ls_dk, putS_lo_ls_dt, putS_lo_ls_no, putS_pa_ls_ls, putS_pa_ls_dk, putS_pa_ls_dt, putS_pa_ls_no, putS_lo_rd_ls, putS_lo_rd_dk, putS_lo_rd_dt, putS_lo_rd_no, putS_pa_rd_ls, putS_pa_rd_dk, putS_pa_rd_dt, putS_pa_rd_no, putS_lo_dk_ls, putS_lo_dk_dk, putS_lo_dk_dt, putS_lo_dk_no, putS_pa_dk_ls, putS_pa_dk_dk, putS_pa_dk_dt, putS_pa_dk_no, putS_lo_dt_ls, putS_lo_dt_dk, putS_lo_dt_dt, putS_lo_dt_no, putS_pa_dt_ls, putS_pa_dt_dk, putS_pa_dt_dt, putS_pa_dt_no, putS_lo_im, putS_lo_sq, putS_pa_im, putS_pa_sq, M.own, M.fit, fins, Sl.fin, envOf, tLcX, compL, wipeE, restE, keepS, qYes, kD, dGet, List.getElem?_cons_zero, List.getElem?_cons_succ, List.getElem?_nil, List.set_cons_zero, List.set_cons_succ, List.map_cons, List.map_nil, List.take_succ_cons, List.take_zero, List.length_cons, List.length_nil, List.head?_cons, List.tail_cons, Option.join_some, List.cons_append, List.nil_append, List.replicate])
local macro_rules | `(tactic| walk_at "n") => `(tactic| ((try dsimp only); refine seq_step fun R hR => ?_; walk_at "y"))
local macro_rules | `(tactic| walk_at "i") => `(tactic| simp only [Bool.false_xor, Bool.true_xor, Bool.not_true, Bool.not_false, Bool.false_eq_true, reduceIte, isiT, M.ty, String.reduceBEq, Bool.or_false, Bool.false_or, Bool.and_false, Bool.and_true, Bool.true_and, Bool.false_and, Bool.or_true, List.mem_cons, true_or, or_true, true_and, and_true, String.reduceEq, decide_true, decide_false])
local macro_rules | `(tactic| walk_at "s") => `(tactic| (subst hR; walk_at "n"))
local macro_rules | `(tactic| walk_at "z") => `(tactic| (simp only [List.map_cons, List.map_nil, atI_c0, atI_c1, atI_c2, atI_c3, atI_c4, atI_c5]; (try walk_at "y")))
local macro_rules | `(tactic| walk_at "e") => `(tactic| repeat (first | rw [if_pos (by decide +kernel)] | rw [if_neg (by decide +kernel)]))
/-! ### the law -/
theorem FnD.or {Pg : Program} {w : World} {K : PySem.W.Frag} {mg : Str → Option Value} {base : Heap} {name : Str} {st : Stmt} {ps : List Str} {Df : DefAt K mg name st ps} {k : Nat} {F F' : TF} (h : FnD Pg w K mg base Df k F) (h' : FnD Pg w K mg base Df k F') : FnD Pg w K mg base Df k fun ms G => F ms G ∨ F' ms G :=
  ⟨fun vs H Q E ⟨o, ms, G, hl, _⟩ => hl, fun A outer s H args us vs Q E hr e0 hb r ⟨o, ms, G, a, b, c, d⟩ => c.elim (fun c => h.run A outer s H args us vs Q E hr e0 hb r ⟨o, ms, G, a, b, c, d⟩) fun c => h'.run A outer s H args us vs Q E hr e0 hb r ⟨o, ms, G, a, b, c, d⟩⟩
def F_sm : TF := fun ms G => F_same 17 ms G ∨ F_same 18 ms G
def Fl1 : D → TF := fun d ms G => ∃ f c q vs S0, d = .fnv f c q vs [.tup (S0.map scD)] ∧ GS S0 ∧ F_mapped d (fun _ => S0) 7 ms G
def FlS (g : Sc → List Sc → List Sc) : D → TF := fun d ms G => ∃ f c q vs s, d = .fnv f c q vs [scD s] ∧ s ∈ allSc ∧ F_mapped d (g s) 7 ms G
def F_law : TF := fun ms G => ∃ ns : List Int, ms = [.sq (ns.map D.int)] ∧ ns.length ≤ 1000 ∧ ∀ fin, G (.im (.bl true)) fin
theorem sz7 : SZ 7 = 5461 := by decide
theorem sane7 {t : Tr} (h : Ok 7 t) : D.sane 17 t.syn = true := sane_syn h
theorem ad_mem (s : Sc) (hs : s ∈ allSc) : ∀ S, GS S → ∀ x ∈ adL s S, x ∈ allSc := fun S h x hx => by
  unfold adL at hx
  rcases List.mem_append.mp hx with z | z
  · exact h.all x z
  · split at z
    · cases z
    · rw [List.mem_singleton.mp z]; exact hs
theorem wo_mem (s : Sc) : ∀ S, GS S → ∀ x ∈ woS s S, x ∈ allSc := fun S h x hx => h.all x (List.mem_filter.mp hx).1
theorem tu_mem (s : Sc) (hs : s ∈ allSc) : ∀ S, GS S → ∀ x ∈ tuL s S, x ∈ allSc := fun S h x hx => by
  unfold tuL at hx
  split at hx
  · exact wo_mem s S h x hx
  · exact ad_all h hs x hx
theorem gs_w {s : Sc} (hs : s ∈ allSc) {S : List Sc} (h : GS S) (hl : S.length ≤ 9) : GS (wS s S) := by
  unfold wS
  split
  · exact h
  · rename_i hm
    refine ⟨srt_srt _, (srt_perm _).nodup_iff.mpr (List.nodup_append.mpr ⟨h.nd, by simp, fun a ha b hb z => ?_⟩), fun x hx => ad_all h hs x ((srt_perm _).mem_iff.mp hx), by rw [(srt_perm _).length_eq]; simp; omega⟩
    rw [List.mem_singleton.mp hb] at z
    exact hm (z ▸ ha)
theorem sane_mp {f : List Sc → List Sc} (hf : ∀ S, GS S → (f S).length ≤ 1000) : ∀ {n : Nat} {t : Tr}, Ok n t → D.sane (2 * n + 3) (t.mp f).syn = true
  | n + 1, _, .id (p := p) (s := S) hv hS => by
    have e1 : D.sanes (2 * (n + 1) + 1) ((f S).map scD) = true := by
      rw [D.sanes_all, List.all_eq_true]
      intro d hd
      obtain ⟨a, _, rfl⟩ := List.mem_map.mp hd
      exact sane_sc a (2 * n + 1)
    have e2 := sane_oc p (2 * n + 2)
    have l := hf S hS
    rw [show 2 * (n + 1) + 3 = (2 * n + 2) + 1 + 1 + 1 by omega]
    rw [show 2 * (n + 1) + 1 = 2 * n + 2 + 1 by omega] at e1
    simp only [Tr.mp, Tr.syn, D.sane, D.sanes, List.length_map, e1, e2, Bool.and_true, Bool.true_and, List.length_cons, List.length_nil]
    simp; omega
  | n + 1, _, .at ha => sane_syn (n := n + 1) (.at ha)
  | n + 1, _, .ls (ks := ks) (p := p) hl hk => by
    have e1 : D.sanes (2 * n + 3) ((ks.map (Tr.mp f)).map Tr.syn) = true := by
      rw [D.sanes_all, List.all_eq_true]
      intro d hd
      obtain ⟨b, hb, rfl⟩ := List.mem_map.mp hd
      obtain ⟨a, ha, rfl⟩ := List.mem_map.mp hb
      exact sane_mp hf (hk a ha)
    have e2 := sane_oc p (2 * n + 2)
    rw [mp_ls, syn_ls, show 2 * (n + 1) + 3 = (2 * n + 3) + 1 + 1 by omega]
    simp only [D.sane, D.sanes, List.length_map, e1, e2, Bool.and_true, Bool.true_and, List.length_cons, List.length_nil]
    simp; omega
theorem ids_filter (L : List Tr) : L.filterMap (fun x => if x.isId then some x.syn else none) = (L.filter Tr.isId).map Tr.syn := by
  induction L with
  | nil => rfl
  | cons a L ih =>
    by_cases h : a.isId = true
    · rw [List.filterMap_cons, if_pos h, List.filter_cons_of_pos h, List.map_cons, ih]
    · rw [List.filterMap_cons, if_neg h, List.filter_cons_of_neg h, ih]
theorem ok_up : ∀ {n : Nat} {t : Tr}, Ok n t → Ok (n + 1) t
  | _, _, .id h s => .id h s
  | _, _, .at h => .at h
  | _, _, .ls l h => .ls l fun t ht => ok_up (h t ht)
theorem ok_flat : ∀ {n : Nat} {t : Tr}, Ok n t → ∀ u ∈ t.flat, Ok n u
  | _, _, .id h s, u, hu => by rw [Tr.flat, List.mem_singleton] at hu; subst hu; exact .id h s
  | _, _, .at h, u, hu => by rw [Tr.flat, List.mem_singleton] at hu; subst hu; exact .at h
  | n + 1, _, .ls (ks := ks) (p := p) l h, u, hu => by
    rw [flat_ls] at hu
    rcases List.mem_cons.mp hu with e | hu
    · subst e; exact .ls l h
    · obtain ⟨k, hk, hu⟩ := List.mem_flatMap.mp hu
      exact ok_up (ok_flat (h k hk) u hu)
theorem body_law : Body F_law 9 1 (t_law F_tape (F_datum 7) F_scopes (F_syn 7) (F_of 7) F_sm (F_dat 7) F_scope (F_ch wS) (F_ch woS) (F_ch tuS) (F_flat 7) (F_ids 7) (F_size 7) (F_depth 7) (F_depth 7) F_sets Fl1 (FlS adL) (FlS woS) (FlS tuL)) := by
  rintro ms G hl ⟨ns, rfl, hn, q⟩
  show t_law _ _ _ _ _ _ _ _ _ _ _ _ _ _ _ _ _ _ _ _ _ _ [.pa (.sq (ns.map D.int)), .no, .no, .no, .no, .no, .no, .no, .no]
  unfold t_law
  walk_at "n"
  refine ⟨rfl, by simp, ns, rfl, hn, fun kv0 fin t0 => ⟨rfl, ?_⟩⟩
  walk_at "y"
  subst hR
  walk_at "n"
  refine ⟨by omega, rfl, by simp, kv0, 0, 0, 0, rfl, by omega, rfl, by rw [sz7]; decide, t0, fun t kv1 c1 ht t1 => ⟨rfl, ?_⟩⟩
  walk_at "y"
  rw [sz7] at t1
  subst hR
  walk_at "n"
  refine ⟨rfl, by simp, kv1, _, rfl, by omega, t1, fun S0 kv2 hS0 t2 => ⟨rfl, ?_⟩⟩
  walk_at "y"
  subst hR
  walk_at "n"
  refine ⟨rfl, by simp, kv2, _, t, rfl, ht, by rw [sz7]; omega, t2, fun ta kv3 f1 f2 hta hb t3 => ⟨rfl, ?_⟩⟩
  rw [sz7] at t3
  walk_at "y"
  intro fa ca va
  refine ⟨rfl, by simp, ⟨fa, ca, _, va, S0, rfl, hS0, ta, rfl, hta, fun S _ x hx => hS0.all x hx, fun fin => ⟨rfl, ?_⟩⟩⟩
  walk_at "y"
  rw [srt_id hS0.srt, mp_bare hta ht hb]
  have sp : D.sane 17 (t.mp fun _ => S0).syn = true := sane_mp (n := 7) (fun S _ => by have := hS0.len; omega) ht
  subst hR
  walk_at "n"
  refine ⟨rfl, by simp, t, S0, rfl, ht, fun fin => ⟨rfl, ?_⟩⟩
  walk_at "y"
  refine ⟨rfl, by simp, .inl ⟨_, rfl, sp, fun fin => ⟨rfl, ?_⟩⟩⟩
  walk_at "y"
  refine ⟨rfl, by simp, _, rfl, ht.mp (gs_const hS0), fun fin => ⟨rfl, ?_⟩⟩
  rw [dat_mp ht]
  walk_at "y"
  refine ⟨rfl, by simp, .inl ⟨_, rfl, sane_dat (n := 7) ht, fun fin => ⟨rfl, ?_⟩⟩⟩
  walk_at "y"
  rw [if_neg (by decide)]
  subst hR
  walk_at "n"
  refine ⟨rfl, by simp, kv3, _, t, rfl, ht, by rw [sz7]; omega, t3, fun u kv4 f3 f4 hu hb2 t4 => ⟨rfl, ?_⟩⟩
  rw [sz7] at t4
  walk_at "y"
  subst hR
  walk_at "n"
  refine ⟨rfl, by simp, kv4, _, rfl, by omega, t4, fun s kv5 hs t5 => ⟨rfl, ?_⟩⟩
  walk_at "y"
  subst hR
  walk_at "n"
  refine ⟨rfl, by simp, u, s, rfl, hu, hs, fun fin => ⟨rfl, ?_⟩⟩
  walk_at "y"
  intro fa ca va
  refine ⟨rfl, by simp, ⟨fa, ca, _, va, s, rfl, hs, u, rfl, hu, ad_mem s hs, fun fin => ⟨rfl, ?_⟩⟩⟩
  rw [mp_congr (fun S h => eq_ad h s) hu]
  walk_at "y"
  refine ⟨rfl, by simp, .inl ⟨_, rfl, sane_mp (n := 7) (fun S h => ?_) hu, fun fin => ⟨rfl, ?_⟩⟩⟩
  · unfold wS
    have := h.len
    split
    · omega
    · rw [(srt_perm _).length_eq]; simp; omega
  walk_at "y"
  rw [if_neg (by decide)]
  subst hR
  walk_at "n"
  refine ⟨rfl, by simp, u, s, rfl, hu, hs, fun fin => ⟨rfl, ?_⟩⟩
  walk_at "y"
  intro fa ca va
  refine ⟨rfl, by simp, ⟨fa, ca, _, va, s, rfl, hs, u, rfl, hu, wo_mem s, fun fin => ⟨rfl, ?_⟩⟩⟩
  rw [mp_congr (fun S h => eq_wo h s) hu]
  walk_at "y"
  have lwo : ∀ S, GS S → (woS s S).length ≤ 10 := fun S h => Nat.le_trans (List.length_filter_le _ _) h.len
  refine ⟨rfl, by simp, .inl ⟨_, rfl, sane_mp (n := 7) (fun S h => by have := lwo S h; omega) hu, fun fin => ⟨rfl, ?_⟩⟩⟩
  walk_at "y"
  rw [if_neg (by decide)]
  subst hR
  walk_at "n"
  refine ⟨rfl, by simp, u, s, rfl, hu, hs, fun fin => ⟨rfl, ?_⟩⟩
  walk_at "y"
  intro fa ca va
  refine ⟨rfl, by simp, ⟨fa, ca, _, va, s, rfl, hs, u, rfl, hu, tu_mem s hs, fun fin => ⟨rfl, ?_⟩⟩⟩
  rw [mp_congr (fun S h => eq_tu h s) hu]
  walk_at "y"
  refine ⟨rfl, by simp, .inl ⟨_, rfl, sane_mp (n := 7) (fun S h => ?_) hu, fun fin => ⟨rfl, ?_⟩⟩⟩
  · unfold tuS wS
    have := h.len
    have := lwo S h
    split
    · omega
    · rw [(srt_perm _).length_eq]; simp; omega
  walk_at "y"
  rw [if_neg (by decide)]
  have lf : u.flat.length ≤ 5461 := by have := flat_len hu; rw [sz7] at this; exact this
  have sf : ∀ d ∈ u.flat.map Tr.syn, D.sane 17 d = true := fun d hd => by
    obtain ⟨x, hx, rfl⟩ := List.mem_map.mp hd
    exact sane7 (ok_flat hu x hx)
  subst hR
  walk_at "n"
  refine ⟨rfl, by simp, u, rfl, hu, by omega, fun fin => ⟨rfl, ?_⟩⟩
  walk_at "y"
  subst hR
  walk_at "n"
  refine ⟨rfl, by simp, u, rfl, hu, by omega, fun fin => ⟨rfl, ?_⟩⟩
  walk_at "y"
  refine ⟨rfl, fun v => ?_⟩
  refine comp_fix (gd := fun ρ => ρ[7]? = some (Sl.hd false v (.ls (u.flat.map Tr.syn)))) Tr.syn (fun x => if x.isId then some x.syn else none) rfl u.flat [] (fun x hx acc L hacc h => ?_) (by rw [sizeLine_eq]; simp; omega) ?_
  · obtain ⟨y, r, ey, _, ei⟩ := syn0 x
    rw [ey] at h ⊢
    walk_at "y"
    walk_at "z"
    by_cases hid : x.isId = true
    · rw [if_pos (by simpa using ei.mpr hid)]
      rw [if_pos hid] at h
      exact ⟨hacc, h⟩
    · rw [if_neg (by simpa using fun z => hid (ei.mp z))]
      rw [if_neg hid] at h
      exact h
  · rw [ids_filter]
    walk_at "y"
    have li : (u.flat.filter Tr.isId).length ≤ 5461 := Nat.le_trans (List.length_filter_le _ _) lf
    refine ⟨rfl, by simp, .inr ⟨.ls (u.ids.map Tr.syn), rfl, ⟨by rw [List.length_map]; show (u.flat.filter Tr.isId).length ≤ _; omega, fun d hd => ?_⟩, fun fin => ⟨rfl, ?_⟩⟩⟩
    · obtain ⟨x, hx, rfl⟩ := List.mem_map.mp hd
      exact sf _ (List.mem_map.mpr ⟨x, (List.mem_filter.mp hx).1, rfl⟩)
    walk_at "y"
    rw [if_neg (by decide)]
    subst hR
    walk_at "y"
    refine ⟨rfl, by simp, u, rfl, hu, fun fin => ⟨rfl, ?_⟩⟩
    walk_at "y"
    refine ⟨rfl, by simp, u, rfl, hu, fun fin => ⟨rfl, ?_⟩⟩
    walk_at "y"
    refine ⟨by rw [sizeLine_eq]; omega, rfl, by simp, u, rfl, hu, fun fin => ⟨rfl, ?_⟩⟩
    walk_at "y"
    rw [List.length_map]
    refine ⟨by rw [sizeLine_eq]; omega, rfl, by simp, .inr ⟨.ls [.int u.flat.length, .int u.dep], rfl, ⟨by simp, fun d hd => ?_⟩, fun fin => ⟨rfl, ?_⟩⟩⟩
    · rcases List.mem_cons.mp hd with h | h
      · subst h; rfl
      · rw [List.mem_singleton.mp h]; rfl
    walk_at "y"
    rw [if_pos rfl]
    exact ⟨rfl, by simp, kv5, _, rfl, by omega, t5, fun fin => ⟨rfl, q _⟩⟩
end Y
namespace Y
set_option hygiene false
open PySem PySem.Spec L2
local macro_rules | `(tactic| walk_at "y") => `(tactic| dsimp only [tCallV, tCallL, capt, gLtD, gSum, gMax, gSorted2, sNil, sBk, sCt, sDrop, sIf, asg, sAsg, sRet, sRetN, tIm, tNm, tBin, w2, vw, Sl.m?, tTst, tTru, M.tru, tAndQ, tOrQ, tNotQ, tAndX, tOrX, tNotX, tIfX, lNil, lCons, tOn, fInD, fIxD, tGet1, vwD, getOr, M.isD, sPar2, tLc2X, compL2, tChn, tFrz, froz, tTp, tLs, tCl, vws, tMt, Sl.m!, Sl.up, M.res, gLen, gInt, gAdd, gSub, gMul, gDiv, gMod, gPow, gII, gI0, gEqs, gEqs2, gIx, gPop, gApp, gRev, gExt, gTuple, gList, gDict, gIs, gIsi, gAll, gIns, gSorted, gSl, M.lq?, M.lst?, M.sq?, M.dat?, M.isNon, gLt, gLe, gGt, gGe, sFor, iSeq, srcOf, iEnm, enmOf, iRg1, iRg2, bnd, setAll, backS, Sl.isP, tSlc, pNo, pSo, sSetI, hasM, setM, tDspK, tDspT, pairG, D.key?, D.keys?, D.tkey?, putAll, tNewK, tNewT, tNeg, sUnp, tCall, argMs, argM, argS, slots, putB, stepB, putS_lo_ls_ls, putS_lo_ls_dk, putS_lo_ls_dt, putS_lo_ls_no, putS_pa_ls_ls, putS_pa_ls_dk, putS_pa_ls_dt, putS_pa_ls_no, putS_lo_rd_ls, putS_lo_rd_dk, putS_lo_rd_dt, putS_lo_rd_no, putS_pa_rd_ls, putS_pa_rd_dk, putS_pa_rd_dt, putS_pa_rd_no, putS_lo_dk_ls, putS_lo_dk_dk, putS_lo_dk_dt, putS_lo_dk_no, putS_pa_dk_ls, putS_pa_dk_dk, putS_pa_dk_dt, putS_pa_dk_no, putS_lo_dt_ls, putS_lo_dt_dk, putS_lo_dt_dt, putS_lo_dt_no, putS_pa_dt_ls, putS_pa_dt_dk, putS_pa_dt_dt, putS_pa_dt_no, putS_lo_im, putS_lo_sq, putS_pa_im, putS_pa_sq, M.own, M.fit, fins, Sl.fin, envOf, tLcX, compL, wipeE, restE, keepS, qYes, kD, dGet, List.getElem?_cons_zero, List.getElem?_cons_succ, List.getElem?_nil, List.set_cons_zero, List.set_cons_succ, List.map_cons, List.map_nil, List.take_succ_cons, List.take_zero, List.length_cons, List.length_nil, List.head?_cons, List.tail_cons, Option.join_some, List.cons_append, List.nil_append, List.replicate])
local macro_rules | `(tactic| walk_at "n") => `(tactic| ((try dsimp only); refine seq_step fun R hR => ?_; walk_at "y"))
local macro_rules | `(tactic| walk_at "i") => `(tactic| simp only [Bool.false_xor, Bool.true_xor, Bool.not_true, Bool.not_false, Bool.false_eq_true, reduceIte, isiT, M.ty, String.reduceBEq, Bool.or_false, Bool.false_or, Bool.and_false, Bool.and_true, Bool.true_and, Bool.false_and, Bool.or_true, List.mem_cons, true_or, or_true, true_and, and_true, String.reduceEq, decide_true, decide_false])
local macro_rules | `(tactic| walk_at "s") => `(tactic| (subst hR; walk_at "n"))
local macro_rules | `(tactic| walk_at "z") => `(tactic| (simp only [List.map_cons, List.map_nil, atI_c0, atI_c1, atI_c2, atI_c3, atI_c4, atI_c5]; (try walk_at "y")))
local macro_rules | `(tactic| walk_at "e") => `(tactic| repeat (first | rw [if_pos (by decide +kernel)] | rw [if_neg (by decide +kernel)]))
/-! ### all together -/
theorem law_start (ns : List Int) (G : M → List (Option M) → Prop) (h : ns.length ≤ 63) (q : ∀ fin, G (.im (.bl true)) fin) : F_law [.sq (ns.map D.int)] G := ⟨ns, rfl, by omega, q⟩
section
variable {Pg : Program} {w : World} {K : PySem.W.Frag} {mg : Str → Option Value} {base : Heap}
theorem mapped_all (T : Top K mg) {dv : D} {g : List Sc → List Sc} (V : FnV Pg w K mg base 2 1 dv (F_fun g)) : ∀ n : Nat, FnD Pg w K mg base T.D__law_mapped (n + 2) (F_mapped dv g n) := by
  intro n
  induction n with
  | zero => exact fn_never fun ms G ⟨t, _, h, _⟩ => nomatch h
  | succ n ih => exact go__law_mapped T ih (by omega) (fun d e => by cases e; exact V) (by omega) (body_mapped dv g n)
theorem lam1_all (T : Top K mg) {f c : Addr} {cl : List (Str × Addr)} {vs : List V} {ds : List D} (a : LamAt base lam_law_1 f c cl vs) : FnD Pg w K mg base T.D__law_mapped 9 (Fl1 (.fnv f c lam_law_1.qual vs ds)) := by
  by_cases h : ∃ S0, ds = [.tup (S0.map scD)] ∧ GS S0
  · obtain ⟨S0, rfl, hS0⟩ := h
    refine (mapped_all T (g := fun _ => S0) ((go_lam_law_1 T a body_lam1).mono (j := 1) (by omega)) 7).imp fun ms G ⟨f', c', q', vs', S1, e, hS1, h⟩ => ?_
    have e : S1 = S0 := by
      injection e with _ _ _ _ e
      injection e with e _
      injection e with e
      exact (code_sc.inj_map e).symm
    rw [e] at h
    exact h
  · refine fn_never fun ms G ⟨f', c', q', vs', S1, e, hS1, _⟩ => h ⟨S1, ?_, hS1⟩
    injection e
theorem lamS_all (T : Top K mg) {L : Lam} {g : Sc → List Sc → List Sc} {f c : Addr} {vs : List V} {ds : List D} (V : ∀ s, s ∈ allSc → ds = [scD s] → FnV Pg w K mg base 2 1 (.fnv f c L.qual vs ds) (F_fun (g s))) : FnD Pg w K mg base T.D__law_mapped 9 (FlS g (.fnv f c L.qual vs ds)) := by
  by_cases h : ∃ s, ds = [scD s] ∧ s ∈ allSc
  · obtain ⟨s, e0, hs⟩ := h
    refine (mapped_all T (V s hs e0) 7).imp fun ms G ⟨f', c', q', vs', s1, e, hs1, h⟩ => ?_
    have e : s1 = s := by
      injection e with _ _ _ _ e
      rw [e0] at e
      injection e with e _
      exact (code_sc.inj _ _ e).symm
    rw [e] at h
    exact h
  · refine fn_never fun ms G ⟨f', c', q', vs', s1, e, hs1, _⟩ => h ⟨s1, ?_, hs1⟩
    injection e
theorem law_all (T : Top K mg) (TB : LamX.TabB base mg T.C_law.cd T.C_law.P) : FnOk Pg w K mg base CX0 65 T.D_law.f T.D_law.fd ["script"] (spT T.C_law.P "law.<locals>.<lambda>" K F_law 1) := by
  have a1 : FnD Pg w K mg base T.D__law_take 1 F_take := go__law_take T body_take
  have a2 : FnD Pg w K mg base T.D__law_tape 1 F_tape := go__law_tape T body_tape
  have a3 : FnD Pg w K mg base T.D__law_scope 2 F_scope := go__law_scope T a1 (by omega) body_scope
  have a4 : FnD Pg w K mg base T.D__law_scopes 3 F_scopes := go__law_scopes T a1 (by omega) a3 (by omega) body_scopes
  have a5 : ∀ n : Nat, FnD Pg w K mg base T.D__law_datum (n + 1) (F_datum n) := by
    intro n
    induction n with
    | zero => exact fn_never fun ms G ⟨_, _, _, _, _, h, _⟩ => absurd h (by omega)
    | succ n ih => exact go__law_datum T a1 (by omega) ih (by omega) (body_datum n)
  have a6 : ∀ n : Nat, FnD Pg w K mg base T.D__law_syntax (n + 3) (F_syn n) := by
    intro n
    induction n with
    | zero => exact fn_never fun ms G ⟨_, _, t, _, h, _⟩ => nomatch h
    | succ n ih => exact go__law_syntax T a4 (by omega) ih (by omega) (body_syn n)
  have b1 : ∀ n : Nat, FnD Pg w K mg base T.D_syntax_of n (F_of n) := by
    intro n
    induction n with
    | zero => exact fn_never fun ms G ⟨t, _, _, h, _⟩ => nomatch h
    | succ n ih => exact go_syntax_of T ih (by omega) (body_of n)
  have b2 : FnD Pg w K mg base T.D_occurrence_of 1 F_oc := go_occurrence_of T body_oc
  have b3 : ∀ n : Nat, FnD Pg w K mg base T.D_datum_of (n + 1) (F_dat n) := by
    intro n
    induction n with
    | zero => exact fn_never fun ms G ⟨t, _, h, _⟩ => nomatch h
    | succ n ih => exact go_datum_of T b2 (by omega) ih (by omega) (body_dat n)
  have c1 : FnD Pg w K mg base T.D_with_scope 1 (F_chg wS) := go_with_scope T body_with
  have c2 : FnD Pg w K mg base T.D_without_scope 1 (F_chg woS) := go_without_scope T body_without
  have c3 : FnD Pg w K mg base T.D_turned_scope 2 (F_chg tuS) := go_turned_scope T c2 (by omega) c1 (by omega) body_turned
  have c4 : ∀ (dv : D) (g : Sc → List Sc → List Sc), FnV Pg w K mg base 2 2 dv (F_chg g) → ∀ n : Nat, FnD Pg w K mg base T.D_changed (n + 2) (F_changed dv g n) := by
    intro dv g V n
    induction n with
    | zero => exact fn_never fun ms G ⟨t, _, _, h, _⟩ => nomatch h
    | succ n ih => exact go_changed T ih (by omega) (fun d e => by cases e; exact V) (by omega) (body_changed dv g n)
  have c5 : FnD Pg w K mg base T.D_added 10 (F_ch wS) := go_added T (c4 _ _ ((FnV.of c1).mono (by omega)) 7) (by omega) body_added
  have c6 : FnD Pg w K mg base T.D_removed 10 (F_ch woS) := go_removed T (c4 _ _ ((FnV.of c2).mono (by omega)) 7) (by omega) body_removed
  have c7 : FnD Pg w K mg base T.D_flipped 10 (F_ch tuS) := go_flipped T (c4 _ _ (FnV.of c3) 7) (by omega) body_flipped
  have d1 : ∀ n : Nat, FnD Pg w K mg base T.D_identifiers n (F_ids n) := by
    intro n
    induction n with
    | zero => exact fn_never fun ms G ⟨t, _, h, _⟩ => nomatch h
    | succ n ih => exact go_identifiers T ih (by omega) (body_ids n)
  have d2 : ∀ n : Nat, FnD Pg w K mg base T.D_size n (F_size n) := by
    intro n
    induction n with
    | zero => exact fn_never fun ms G ⟨t, _, h, _⟩ => nomatch h
    | succ n ih => exact go_size T ih (by omega) (body_size n)
  have d3 : ∀ n : Nat, FnD Pg w K mg base T.D_depth n (F_depth n) := by
    intro n
    induction n with
    | zero => exact fn_never fun ms G ⟨t, _, h, _⟩ => nomatch h
    | succ n ih => exact go_depth T ih (by omega) (body_depth n)
  have d4 : ∀ n : Nat, FnD Pg w K mg base T.D__law_depth n (F_depth n) := by
    intro n
    induction n with
    | zero => exact fn_never fun ms G ⟨t, _, h, _⟩ => nomatch h
    | succ n ih => exact go__law_depth T ih (by omega) (body_ldepth n)
  have d5 : ∀ n : Nat, FnD Pg w K mg base T.D__law_flat n (F_flat n) := by
    intro n
    induction n with
    | zero => exact fn_never fun ms G ⟨t, _, h, _⟩ => nomatch h
    | succ n ih => exact go__law_flat T ih (by omega) (body_flat n)
  have e1 : FnD Pg w K mg base T.D_is_name 1 F_isname := go_is_name T body_isname
  have e2 : FnD Pg w K mg base T.D_is_scope 2 F_isscope := go_is_scope T e1 (by omega) body_isscope
  have e3 : FnD Pg w K mg base T.D_is_set 3 F_isset := go_is_set T e2 (by omega) body_isset
  have e4 : FnD Pg w K mg base T.D__law_sets 4 F_sets := go__law_sets T a4 (by omega) a1 (by omega) e3 (by omega) body_sets
  have s1 : FnD Pg w K mg base T.D__law_is_integer 1 F_isint := go__law_is_integer T body_isint
  have s2 : ∀ n : Nat, FnD Pg w K mg base T.D__law_same (2 * n + 1) (F_same n) := by
    intro n
    induction n with
    | zero =>
      refine fn_never fun ms G ⟨m, _, h, _⟩ => ?_
      cases m with
      | im d => have h : D.sane 0 d = true := h; simp [D.sane] at h
      | _ => exact h.elim
    | succ n ih =>
      have it : FnD Pg w K mg base T.D__law_same_items (2 * n + 2) (F_items n) := go__law_same_items T ih (by omega) (body_items n)
      exact go__law_same T s1 (by omega) it (by omega) ih (by omega) (body_same n)
  have s3 : FnD Pg w K mg base T.D__law_same 37 F_sm := FnD.or ((s2 17).mono (by omega)) (s2 18)
  refine go_law T TB a2 (by omega) (a5 7) (by omega) a4 (by omega) (a6 7) (by omega) (b1 7) (by omega) s3 (by omega) (b3 7) (by omega) a3 (by omega) c5 (by omega) c6 (by omega) c7 (by omega) (d5 7) (by omega) (d1 7) (by omega) (d2 7) (by omega) (d3 7) (by omega) (d4 7) (by omega) e4 (by omega)
    (fun base f c cl vs ds a => lam1_all T a) (by omega) (fun base f c cl vs ds a => lamS_all T (L := lam_law_2) fun s hs e => ?_) (by omega) (fun base f c cl vs ds a => lamS_all T (L := lam_law_3) fun s hs e => ?_) (by omega) (fun base f c cl vs ds a => lamS_all T (L := lam_law_4) fun s hs e => ?_) (by omega) body_law
  · subst e; exact (go_lam_law_2 T a (body_lam2 hs)).mono (j := 1) (by omega)
  · subst e; exact (go_lam_law_3 T a (body_lam3 hs)).mono (j := 1) (by omega)
  · subst e
    have t1 : FnD Pg w K mg base T.D__law_turned 1 F_turned := go__law_turned T body_turnedL
    exact go_lam_law_4 T t1 (by omega) a (body_lam4 hs)
theorem law_join {fa : Addr} {h : Heap} (KX : K.In h) (hmg : mg "law" = some (.ref fa)) (T : Top K mg) (hP : h.get? T.C_law.P = some { cls := .none, data := .fields #[] }) :
    ∃ (fd : FuncData) (cd P : Addr), h.get? P = some { cls := .none, data := .fields #[] } ∧ K.lookup P = none ∧ PySem.W.CodeHd h cd P ∧ (∀ (s : Shared) (u : Value), BindsTo s fd ⟨[u], []⟩ [("script", u)]) ∧
      ∀ base : Heap, K.In base → base.Ns mainGlobals mg → LamX.TabB base mg cd P → FnOk Pg w K mg base CX0 65 fa fd ["script"] (spT P "law.<locals>.<lambda>" K F_law 1) := by
  have e := hmg.symm.trans T.D_law.mg
  cases e
  exact ⟨_, T.C_law.cd, T.C_law.P, hP, T.C_law.no, PySem.W.codeHd_of_K KX T.C_law.hd, T.bl, fun base _ _ tb => law_all T tb⟩
end
end Y
open PySem PySem.W PyProof.Rows
set_option maxRecDepth 100000 in
set_option maxHeartbeats 0 in
theorem PySem.Challenge.cw_wherewritten_k05_syntax_and_scopes_holds : PySem.Challenge.rw_wherewritten_k05_syntax_and_scopes.Holds := by
  w_on; o_law; k_head; (case hw => w_witness2)
  k_fill
  refine Y.walkT (l := PySem.Challenge.rw_wherewritten_k05_syntax_and_scopes) (F := Y.F_law) (qn := "law.<locals>.<lambda>") rfl rfl Y.law_start (fun w h Y => PySem.W.km_in_of Y) ?F
  case F =>
    intro w mg fa h Yy KX G hmg
    refine' Y.law_join KX hmg (Y.tp_mk KX G ?a0 ?l0 ?c0 ?k0 ?a1 ?l1 ?c1 ?k1 ?a2 ?l2 ?c2 ?k2 ?a3 ?l3 ?c3 ?k3 ?a4 ?l4 ?c4 ?k4 ?a5 ?l5 ?c5 ?k5 ?a6 ?l6 ?c6 ?k6 ?a7 ?l7 ?c7 ?k7 ?a8 ?l8 ?c8 ?k8 ?a9 ?l9 ?c9 ?k9 ?a10 ?l10 ?c10 ?k10 ?a11 ?l11 ?c11 ?k11 ?a12 ?l12 ?c12 ?k12 ?a13 ?l13 ?c13 ?k13 ?a14 ?l14 ?c14 ?k14 ?a15 ?l15 ?c15 ?k15 ?a16 ?l16 ?c16 ?k16 ?a17 ?l17 ?c17 ?k17 ?a18 ?l18 ?c18 ?k18 ?a19 ?l19 ?c19 ?k19 ?a20 ?l20 ?c20 ?k20 ?a21 ?l21 ?c21 ?k21 ?a22 ?l22 ?c22 ?k22 ?a23 ?l23 ?c23 ?k23 ?a24 ?l24 ?c24 ?k24 ?a25 ?l25 ?c25 ?k25 ?a26 ?l26 ?c26 ?k26 ?a27 ?l27 ?c27 ?k27 ?a28 ?l28 ?c28 ?k28 ?a29 ?l29 ?c29 ?k29 ?a30 ?l30 ?c30 ?k30 ?hd30 ?nl30 ?z0 ?z1 ?z2 ?z3 ?z4 ?z5 ?z6 ?z7 ?z8 ?z9 ?z10 ?z11 ?z12 ?z13 ?vv0 ?vv1 ?vv2 ?tg0 ?tl0 ?tc0 ?td0 ?tz0 ?tr0) ?hP
    (case hP => exact PySem.W.km_tabs_of Yy _ (List.mem_singleton.mpr rfl))
    (case a0 => k_is); (case l0 => k_is); (case c0 => k_is); (case k0 => k_is)
    (case a1 => k_is); (case l1 => k_is); (case c1 => k_is); (case k1 => k_is)
    (case a2 => k_is); (case l2 => k_is); (case c2 => k_is); (case k2 => k_is)
    (case a3 => k_is); (case l3 => k_is); (case c3 => k_is); (case k3 => k_is)
    (case a4 => k_is); (case l4 => k_is); (case c4 => k_is); (case k4 => k_is)
    (case a5 => k_is); (case l5 => k_is); (case c5 => k_is); (case k5 => k_is)
    (case a6 => k_is); (case l6 => k_is); (case c6 => k_is); (case k6 => k_is)
    (case a7 => k_is); (case l7 => k_is); (case c7 => k_is); (case k7 => k_is)
    (case a8 => k_is); (case l8 => k_is); (case c8 => k_is); (case k8 => k_is)
    (case a9 => k_is); (case l9 => k_is); (case c9 => k_is); (case k9 => k_is)
    (case a10 => k_is); (case l10 => k_is); (case c10 => k_is); (case k10 => k_is)
    (case a11 => k_is); (case l11 => k_is); (case c11 => k_is); (case k11 => k_is)
    (case a12 => k_is); (case l12 => k_is); (case c12 => k_is); (case k12 => k_is)
    (case a13 => k_is); (case l13 => k_is); (case c13 => k_is); (case k13 => k_is)
    (case a14 => k_is); (case l14 => k_is); (case c14 => k_is); (case k14 => k_is)
    (case a15 => k_is); (case l15 => k_is); (case c15 => k_is); (case k15 => k_is)
    (case a16 => k_is); (case l16 => k_is); (case c16 => k_is); (case k16 => k_is)
    (case a17 => k_is); (case l17 => k_is); (case c17 => k_is); (case k17 => k_is)
    (case a18 => k_is); (case l18 => k_is); (case c18 => k_is); (case k18 => k_is)
    (case a19 => k_is); (case l19 => k_is); (case c19 => k_is); (case k19 => k_is)
    (case a20 => k_is); (case l20 => k_is); (case c20 => k_is); (case k20 => k_is)
    (case a21 => k_is); (case l21 => k_is); (case c21 => k_is); (case k21 => k_is)
    (case a22 => k_is); (case l22 => k_is); (case c22 => k_is); (case k22 => k_is)
    (case a23 => k_is); (case l23 => k_is); (case c23 => k_is); (case k23 => k_is)
    (case a24 => k_is); (case l24 => k_is); (case c24 => k_is); (case k24 => k_is)
    (case a25 => k_is); (case l25 => k_is); (case c25 => k_is); (case k25 => k_is)
    (case a26 => k_is); (case l26 => k_is); (case c26 => k_is); (case k26 => k_is)
    (case a27 => k_is); (case l27 => k_is); (case c27 => k_is); (case k27 => k_is)
    (case a28 => k_is); (case l28 => k_is); (case c28 => k_is); (case k28 => k_is)
    (case a29 => k_is); (case l29 => k_is); (case c29 => k_is); (case k29 => k_is)
    (case a30 => k_is); (case l30 => k_is); (case c30 => k_is); (case k30 => k_is)
    (case hd30 => kernel_rfl); (case nl30 => kernel_rfl); (case z0 => k_is); (case z1 => k_is)
    (case z2 => k_is); (case z3 => k_is); (case z4 => k_is); (case z5 => k_is)
    (case z6 => k_is); (case z7 => k_is); (case z8 => k_is); (case z9 => k_is)
    (case z10 => k_is); (case z11 => k_is); (case z12 => k_is); (case z13 => k_is)
    (case vv0 => k_is); (case vv1 => k_is); (case vv2 => k_is); (case tg0 => k_is)
    (case tl0 => k_is); (case tc0 => exact rfl); (case td0 => exact rfl); (case tz0 => decide)
    (case tr0 => (repeat (first | exact Paired.nil | refine Paired.cons ⟨_, rfl, by first | exact ⟨_, rfl⟩ | exact rfl⟩ ?_)))
