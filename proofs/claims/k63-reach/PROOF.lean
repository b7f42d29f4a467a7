import PyProof.Rows.All
import Wide.All
import OpenK.AllK
import Wide.FinOn
import HandS.ForMost
import HandS.TupAny
import HandS.Deep
import HandS.Wide
import HandS.Flow
import HandS.Style
import HandS.IsInst
import HandS.Codes
import HandS.WordsDict
import HandS.Small
import HandS.More
import KE.SortData
import HandS.Conv
import HandS.DeepEq
import KE.KDictDisplayH
import HandS.Ends
import HandS.Zip
import KE.GoesMore
import KE.GoesEnum
import PySem.Challenge.RW_wherewritten_k63_reach
set_option Elab.async false
set_option linter.all false
set_option maxRecDepth 100000
set_option maxHeartbeats 4000000
namespace Y
open PySem PySem.Spec L2

/-- data that nobody changes any more -/
inductive D where
  | non | bl (b : Bool) | int (i : Int) | str (x : Str) | tup (ds : List D) | lst (ds : List D) | raw (v : V)
/-- a label: a slot of the body, a temporary, a slot whose object is walked now, another's -/
inductive Lb where
  | s (i : Nat) | t (j : Nat) | h (i : Nat) | x
  deriving DecidableEq
abbrev Own := Addr → Option Lb
/-- what a slot holds: data, or an object that it alone owns; sq: a list that is only read -/
inductive M where
  | im (d : D) | ls (ds : List D) | sq (ds : List D) | rd (ds : List D) | dk (kvs : List (Key × D)) | dt (kvs : List (List Key × D))
inductive Sl where
  | no | lo (m : M) | pa (m : M) | hd (p : Bool) (v : V) (m : M)
inductive R where
  | im (d : D) | tm (m : M) | sl (i : Nat)

def Tp (_K : PySem.W.Frag) (o : Own) (H : Hp) (a : Addr) (xs : List V) : Prop := o a = none ∧ H a = some (.tup xs)
def Lq (K : PySem.W.Frag) (o : Own) (H : Hp) (a : Addr) (xs : List V) : Prop :=
  ((o a = none ∨ o a = some .x) ∧ Rd H a (.lst xs)) ∨
    ∃ (u : Obj) (its : Array Value) (n : Nat), K.lookup a = some u ∧ u.cls = .type "list" ∧ u.dict = none ∧ u.data = .seq its n ∧ its.size ≤ sizeLine ∧ Vals xs its.toList
mutual
inductive Dat (K : PySem.W.Frag) (o : Own) (H : Hp) : V → D → Prop
  | non : Dat K o H .non .non
  | bl (b : Bool) : Dat K o H (.bl b) (.bl b)
  | int (i : Int) : Dat K o H (.int i) (.int i)
  | str (x : Str) : Dat K o H (.str x) (.str x)
  | raw (v : V) : Dat K o H v (.raw v)
  | tup {a : Addr} {xs : List V} {ds : List D} : Tp K o H a xs → Dats K o H xs ds → Dat K o H (.ref a) (.tup ds)
  | lst {a : Addr} {xs : List V} {ds : List D} : o a = none → H a = some (.lst xs) → Dats K o H xs ds → Dat K o H (.ref a) (.lst ds)
inductive Dats (K : PySem.W.Frag) (o : Own) (H : Hp) : List V → List D → Prop
  | nil : Dats K o H [] []
  | cons {v : V} {vs : List V} {d : D} {ds : List D} : Dat K o H v d → Dats K o H vs ds → Dats K o H (v :: vs) (d :: ds)
end
abbrev Kvs {κ : Type} (K : PySem.W.Frag) (o : Own) (H : Hp) : List (κ × V) → List (κ × D) → Prop := Paired fun (p : κ × V) (q : κ × D) => p.1 = q.1 ∧ Dat K o H p.2 q.2

def IsM (K : PySem.W.Frag) (o : Own) (H : Hp) (l : Lb) (v : V) : M → Prop
  | .im d => Dat K o H v d
  | .ls ds => ∃ a xs, v = .ref a ∧ o a = some l ∧ H a = some (.lst xs) ∧ Dats K o H xs ds
  | .sq ds => ∃ a xs, v = .ref a ∧ Lq K o H a xs ∧ Dats K o H xs ds
  | .rd ds => ∃ a xs, v = .ref a ∧ o a = some l ∧ H a = some (.lst xs) ∧ Dats K o H xs ds
  | .dk kvs => ∃ a ks, v = .ref a ∧ o a = some l ∧ H a = some (.dK ks) ∧ Kvs K o H ks kvs
  | .dt kvs => ∃ a ks, v = .ref a ∧ o a = some l ∧ H a = some (.dT ks) ∧ Kvs K o H ks kvs
def Vw (K : PySem.W.Frag) (o : Own) (H : Hp) (v : V) (m : M) : Prop := ∃ l, IsM K o H l v m
def M.own : M → Bool
  | .ls _ => true | .dk _ => true | .dt _ => true | .rd _ => true | _ => false
def M.res : M → R
  | .im d => .im d
  | m => .tm m
def Sl.m? : Sl → Option M
  | .no => none | .lo m => some m | .pa m => some m
  | .hd _ _ (.ls ds) => some (.rd ds)
  | .hd _ _ _ => none

/-- what is not labelled stays; what is another's stays -/
structure Le (o : Own) (H : Hp) (o' : Own) (H' : Hp) : Prop where
  keep : ∀ b u, o b = none → H b = some u → o' b = none ∧ H' b = some u
  ext : ∀ b, o b = some .x → o' b = some .x ∧ H' b = H b
theorem Le.refl {o : Own} {H : Hp} : Le o H o H := ⟨fun _ _ a b => ⟨a, b⟩, fun _ a => ⟨a, rfl⟩⟩
theorem Le.trans {o o1 o2 : Own} {H H1 H2 : Hp} (a : Le o H o1 H1) (b : Le o1 H1 o2 H2) : Le o H o2 H2 :=
  ⟨fun c u e f => let ⟨e1, f1⟩ := a.keep c u e f; b.keep c u e1 f1, fun c e => let ⟨e1, f1⟩ := a.ext c e; let ⟨e2, f2⟩ := b.ext c e1; ⟨e2, f2.trans f1⟩⟩
section
variable {K : PySem.W.Frag} {o o' : Own} {H H' : Hp} {l l' : Lb} {v : V}
theorem Tp.mono (L : Le o H o' H') {a : Addr} {xs : List V} (h : Tp K o H a xs) : Tp K o' H' a xs := L.keep _ _ h.1 h.2
theorem Lq.mono (L : Le o H o' H') {a : Addr} {xs : List V} (h : Lq K o H a xs) : Lq K o' H' a xs := by
  rcases h with ⟨e | e, h⟩ | h
  · rcases h with h | ⟨u, h⟩
    · exact .inl ⟨.inl (L.keep _ _ e h).1, .inl (L.keep _ _ e h).2⟩
    · exact .inl ⟨.inl (L.keep _ _ e h).1, .inr ⟨u, (L.keep _ _ e h).2⟩⟩
  · obtain ⟨e1, e2⟩ := L.ext _ e
    refine .inl ⟨.inr e1, ?_⟩
    unfold Rd at h ⊢
    rw [e2]; exact h
  · exact .inr h
theorem Tp.sq {a : Addr} {xs : List V} (h : Tp K o H a xs) : SqT K H a xs := SqT.of h.2
theorem Lq.sq {a : Addr} {xs : List V} (h : Lq K o H a xs) : SqL K H a xs := by
  rcases h with ⟨_, h⟩ | h
  · exact .inl h
  · exact .inr h
mutual
theorem Dat.mono (L : Le o H o' H') : ∀ {v : V} {d : D}, Dat K o H v d → Dat K o' H' v d
  | _, _, .non => .non
  | _, _, .bl b => .bl b
  | _, _, .int b => .int b
  | _, _, .str b => .str b
  | _, _, .raw b => .raw b
  | _, _, .tup h r => .tup (h.mono L) (Dats.mono L r)
  | _, _, .lst e h r => .lst (L.keep _ _ e h).1 (L.keep _ _ e h).2 (Dats.mono L r)
theorem Dats.mono (L : Le o H o' H') : ∀ {v : List V} {d : List D}, Dats K o H v d → Dats K o' H' v d
  | _, _, .nil => .nil
  | _, _, .cons a r => .cons (Dat.mono L a) (Dats.mono L r)
end
theorem Kvs.mono {κ : Type} (L : Le o H o' H') {ks : List (κ × V)} {kvs : List (κ × D)} (h : Kvs K o H ks kvs) : Kvs K o' H' ks kvs :=
  Paired.mapP h fun _ _ z => ⟨z.1, z.2.mono L⟩
theorem IsM.mono (L : Le o H o' H') (h : ∀ a, o a = some l → o' a = some l' ∧ H' a = H a) : ∀ {m : M}, IsM K o H l v m → IsM K o' H' l' v m
  | .im _, q => Dat.mono L q
  | .ls _, ⟨a, xs, e, f, g, q⟩ => ⟨a, xs, e, (h a f).1, (h a f).2.trans g, q.mono L⟩
  | .sq _, ⟨a, xs, e, f, q⟩ => ⟨a, xs, e, f.mono L, q.mono L⟩
  | .rd _, ⟨a, xs, e, f, g, q⟩ => ⟨a, xs, e, (h a f).1, (h a f).2.trans g, q.mono L⟩
  | .dk _, ⟨a, xs, e, f, g, q⟩ => ⟨a, xs, e, (h a f).1, (h a f).2.trans g, Kvs.mono L q⟩
  | .dt _, ⟨a, xs, e, f, g, q⟩ => ⟨a, xs, e, (h a f).1, (h a f).2.trans g, Kvs.mono L q⟩
theorem Dats.length : ∀ {v : List V} {d : List D}, Dats K o H v d → v.length = d.length
  | _, _, .nil => rfl
  | _, _, .cons _ r => congrArg (· + 1) r.length
theorem Dats.append : ∀ {v w : List V} {d e : List D}, Dats K o H v d → Dats K o H w e → Dats K o H (v ++ w) (d ++ e)
  | _, _, _, _, .nil, s => s
  | _, _, _, _, .cons a r, s => .cons a (r.append s)
theorem Dats.get : ∀ {v : List V} {d : List D} {i : Nat} {x : D}, Dats K o H v d → d[i]? = some x → ∃ u, v[i]? = some u ∧ Dat K o H u x
  | _, _, 0, _, .cons a _, rfl => ⟨_, rfl, a⟩
  | _, _, _ + 1, _, .cons _ r, e => r.get e
theorem Dats.getV : ∀ {v : List V} {d : List D} {i : Nat} {u : V}, Dats K o H v d → v[i]? = some u → ∃ x, d[i]? = some x ∧ Dat K o H u x
  | _, _, 0, _, .cons a _, rfl => ⟨_, rfl, a⟩
  | _, _, _ + 1, _, .cons _ r, e => r.getV e
theorem Dats.take : ∀ {v : List V} {d : List D} (n : Nat), Dats K o H v d → Dats K o H (v.take n) (d.take n)
  | _, _, 0, _ => .nil
  | _, _, _ + 1, .nil => .nil
  | _, _, n + 1, .cons a r => .cons a (r.take n)
theorem Dats.drop : ∀ {v : List V} {d : List D} (n : Nat), Dats K o H v d → Dats K o H (v.drop n) (d.drop n)
  | _, _, 0, r => r
  | _, _, _ + 1, .nil => .nil
  | _, _, n + 1, .cons _ r => r.drop n
theorem Dats.set {u : V} {x : D} (q : Dat K o H u x) : ∀ {v : List V} {d : List D} (i : Nat), Dats K o H v d → Dats K o H (v.set i u) (d.set i x)
  | _, _, _, .nil => .nil
  | _, _, 0, .cons _ r => .cons q r
  | _, _, i + 1, .cons a r => .cons a (r.set q i)
theorem Dats.reverse {v : List V} {d : List D} (h : Dats K o H v d) : Dats K o H v.reverse d.reverse := by
  induction v generalizing d with
  | nil => cases h; exact .nil
  | cons x r ih =>
    cases h with
    | cons a t => rw [List.reverse_cons, List.reverse_cons]; exact (ih t).append (.cons a .nil)
theorem Dats.dropLast {v : List V} {d : List D} (h : Dats K o H v d) : Dats K o H v.dropLast d.dropLast := by
  rw [List.dropLast_eq_take, List.dropLast_eq_take, h.length]; exact h.take _
theorem Dats.ints : ∀ {v : List V} {ns : List Int}, Dats K o H v (ns.map D.int) → v = ns.map V.int
  | _, [], h => by cases h; rfl
  | _, n :: ns, h => by
    cases h with
    | cons a r => cases a; rw [Dats.ints r]; rfl
theorem Dats.of_ints : ∀ (ns : List Int), Dats K o H (ns.map V.int) (ns.map D.int)
  | [] => .nil
  | n :: ns => .cons (.int n) (Dats.of_ints ns)
theorem Dats.bls : ∀ {v : List V} {ns : List Bool}, Dats K o H v (ns.map D.bl) → v = ns.map V.bl
  | _, [], h => by cases h; rfl
  | _, n :: ns, h => by
    cases h with
    | cons a r => cases a; rw [Dats.bls r]; rfl
end

/-! ### the state of a body -/
structure Cc where
  o0 : Own
  H0 : Hp
  pv : List V
def SlOk (K : PySem.W.Frag) (c : Cc) (o : Own) (σ : St) (H : Hp) (i : Nat) : Sl → Prop
  | .no => True
  | .lo m => ∃ v, σ[i]? = some (some v) ∧ IsM K o H (.s i) v m
  | .pa m => ∃ v, σ[i]? = some (some v) ∧ c.pv[i]? = some v ∧ IsM K o H (.s i) v m
  | .hd p v m => σ[i]? = some (some v) ∧ (p = true → c.pv[i]? = some v) ∧ IsM K o H (.h i) v m
abbrev Env := List Sl
structure Rep (K : PySem.W.Frag) (c : Cc) (o : Own) (σ : St) (H : Hp) (ρ : Env) (τ : List (V × M)) : Prop where
  sl : ∀ i s, ρ[i]? = some s → SlOk K c o σ H i s
  tm : ∀ j v m, τ[j]? = some (v, m) → IsM K o H (.t j) v m ∧ m.own = true
  mu : ∀ a l, o a = some l → Mut (H a)
  le : Le c.o0 c.H0 o H
  ln : ρ.length = σ.length
def vw (ρ : Env) : R → Option M
  | .im d => some (.im d)
  | .tm m => some m
  | .sl i => match ρ[i]? with
    | some s => s.m?
    | none => none
def RelR (K : PySem.W.Frag) (o : Own) (H : Hp) (σ : St) (v : V) (r : R) (τ τ' : List (V × M)) : Prop :=
  match r with
  | .im d => τ' = τ ∧ Dat K o H v d
  | .tm m => τ' = τ ++ [(v, m)]
  | .sl i => τ' = τ ∧ σ[i]? = some (some v)

section
variable {K : PySem.W.Frag} {c : Cc} {o o' : Own} {σ : St} {H H' : Hp} {ρ : Env} {τ τ' τ0 τ1 : List (V × M)} {v : V} {r : R} {m : M}
theorem SlOk.mono (L : Le o H o' H') {i : Nat} (h : ∀ a, o a = some (.s i) → o' a = some (.s i) ∧ H' a = H a) (hh : ∀ a, o a = some (.h i) → o' a = some (.h i) ∧ H' a = H a) : ∀ {s : Sl}, SlOk K c o σ H i s → SlOk K c o' σ H' i s
  | .no, _ => trivial
  | .lo _, ⟨v, e, q⟩ => ⟨v, e, q.mono L h⟩
  | .pa _, ⟨v, e, f, q⟩ => ⟨v, e, f, q.mono L h⟩
  | .hd _ _ _, ⟨e, f, q⟩ => ⟨e, f, q.mono L hh⟩
theorem SlOk.of {i : Nat} {s : Sl} (h : SlOk K c o σ H i s) (e : s.m? = some m) : ∃ v, σ[i]? = some (some v) ∧ Vw K o H v m := by
  cases s with
  | no => cases e
  | lo z => cases e; obtain ⟨v, a, q⟩ := h; exact ⟨v, a, _, q⟩
  | pa z => cases e; obtain ⟨v, a, _, q⟩ := h; exact ⟨v, a, _, q⟩
  | hd p v z =>
    obtain ⟨a, _, q⟩ := h
    cases z with
    | ls ds => cases e; exact ⟨v, a, _, q⟩
    | _ => cases e
theorem Rep.vw_ok (R0 : Rep K c o σ H ρ τ) (h : RelR K o H σ v r τ0 τ1) (p : τ1 <+: τ) (e : vw ρ r = some m) : Vw K o H v m := by
  cases r with
  | im d => cases e; exact ⟨.x, h.2⟩
  | tm z =>
    cases e
    have q : τ1 = τ0 ++ [(v, m)] := h
    subst q
    obtain ⟨t, rfl⟩ := p
    exact ⟨_, (R0.tm τ0.length v m (by simp)).1⟩
  | sl i =>
    obtain ⟨_, hs⟩ := h
    unfold vw at e
    cases q : ρ[i]? with
    | none => simp only [q] at e; cases e
    | some s =>
      simp only [q] at e
      obtain ⟨w, hw, z⟩ := (R0.sl i s q).of e
      rw [hs] at hw; cases hw
      exact z
theorem RelR.mono (L : Le o H o' H') (h : RelR K o H σ v r τ τ') : RelR K o' H' σ v r τ τ' := by
  cases r with
  | im d => exact ⟨h.1, h.2.mono L⟩
  | tm z => exact h
  | sl i => exact h
theorem RelR.pre (h : RelR K o H σ v r τ τ') : τ <+: τ' := by
  cases r with
  | im d => rw [h.1]; exact List.prefix_rfl
  | tm z =>
    have q : τ' = τ ++ [(v, z)] := h
    rw [q]; exact List.prefix_append _ _
  | sl i => rw [h.1]; exact List.prefix_rfl
/-- only objects are added -/
def Grow (H H' : Hp) : Prop := ∀ b u, H b = some u → H' b = some u
theorem Grow.refl : Grow H H := fun _ _ h => h
theorem Grow.new {p : Addr} {u : HO} (h : H p = none) : Grow H (upd H p u) := fun b w e => by rw [upd_ne (ne_of_none e h)]; exact e
theorem mut_some (h : Mut (H v1)) : ∃ u, H v1 = some u := by
  cases e : H v1 with
  | none => rw [e] at h; exact h.elim
  | some u => exact ⟨u, rfl⟩
theorem Grow.le (g : Grow H H') (mu : ∀ a l, o a = some l → Mut (H a)) : Le o H o H' :=
  ⟨fun b u e f => ⟨e, g b u f⟩, fun b e => ⟨e, by obtain ⟨u, q⟩ := mut_some (mu b _ e); rw [q]; exact g b u q⟩⟩
theorem Grow.mu (g : Grow H H') (mu : ∀ a l, o a = some l → Mut (H a)) : ∀ a l, o a = some l → Mut (H' a) := fun a l e => by
  obtain ⟨u, q⟩ := mut_some (mu a l e)
  have := mu a l e
  rw [g a u q, ← q]; exact this
theorem Grow.at (g : Grow H H') (mu : ∀ a l, o a = some l → Mut (H a)) : ∀ a l, o a = some l → H' a = H a := fun a l e => by
  obtain ⟨u, q⟩ := mut_some (mu a l e)
  rw [g a u q, q]
theorem Rep.grow (R0 : Rep K c o σ H ρ τ) (g : Grow H H') : Rep K c o σ H' ρ τ :=
  ⟨fun i s e => (R0.sl i s e).mono (g.le R0.mu) (fun a q => ⟨q, g.at R0.mu a _ q⟩) fun a q => ⟨q, g.at R0.mu a _ q⟩, fun j v m e => ⟨(R0.tm j v m e).1.mono (g.le R0.mu) fun a q => ⟨q, g.at R0.mu a _ q⟩, (R0.tm j v m e).2⟩, g.mu R0.mu,
    R0.le.trans (g.le R0.mu), R0.ln⟩
theorem Rep.fresh (R0 : Rep K c o σ H ρ τ) {p : Addr} (h : H p = none) : o p = none := by
  cases e : o p with
  | none => rfl
  | some l => have := R0.mu p l e; rw [h] at this; exact this.elim
/-- the temporaries from n on are let go: their objects are data now -/
def dropT (n : Nat) (o : Own) : Own := fun a => match o a with
  | some (.t j) => if j < n then some (.t j) else none
  | l => l
theorem dropT_le (n : Nat) : Le o H (dropT n o) H :=
  ⟨fun b u e f => ⟨by unfold dropT; rw [e], f⟩, fun b e => ⟨by unfold dropT; rw [e], rfl⟩⟩
theorem dropT_s {n i : Nat} {a : Addr} (h : o a = some (.s i)) : dropT n o a = some (.s i) := by unfold dropT; rw [h]
theorem dropT_h {n i : Nat} {a : Addr} (h : o a = some (.h i)) : dropT n o a = some (.h i) := by unfold dropT; rw [h]
theorem dropT_t {n j : Nat} {a : Addr} (h : o a = some (.t j)) (k : j < n) : dropT n o a = some (.t j) := by unfold dropT; rw [h]; simp [k]
theorem dropT_some {n : Nat} {a : Addr} {l : Lb} (h : dropT n o a = some l) : o a = some l := by
  unfold dropT at h
  split at h
  · rename_i j e
    split at h
    · rw [e]; exact h
    · cases h
  · exact h
theorem Rep.drop (R0 : Rep K c o σ H ρ τ) (p : τ0 <+: τ) : Rep K c (dropT τ0.length o) σ H ρ τ0 := by
  obtain ⟨t, rfl⟩ := p
  refine ⟨fun i s e => (R0.sl i s e).mono (dropT_le _) (fun a q => ⟨dropT_s q, rfl⟩) fun a q => ⟨dropT_h q, rfl⟩, fun j v m e => ?_, fun a l e => R0.mu a l (dropT_some e), R0.le.trans (dropT_le _), R0.ln⟩
  have hj : j < τ0.length := (List.getElem?_eq_some_iff.mp e).1
  have q := R0.tm j v m (by rw [List.getElem?_append_left hj]; exact e)
  exact ⟨q.1.mono (dropT_le _) fun a z => ⟨dropT_t z hj, rfl⟩, q.2⟩
/-- one more temporary -/
theorem Rep.push (R0 : Rep K c o σ H ρ τ) {p : Addr} {u : HO} (hp : H p = none) (hu : Mut (some u)) (hm : m.own = true)
    (h : IsM K (fun b => if b = p then some (.t τ.length) else o b) (upd H p u) (.t τ.length) (.ref p) m) :
    Rep K c (fun b => if b = p then some (.t τ.length) else o b) σ (upd H p u) ρ (τ ++ [(.ref p, m)]) ∧ Le o H (fun b => if b = p then some (.t τ.length) else o b) (upd H p u) := by
  have ne : ∀ b w, H b = some w → b ≠ p := fun b w e => ne_of_none e hp
  have neo : ∀ b l, o b = some l → b ≠ p := fun b l e => by obtain ⟨w, q⟩ := mut_some (R0.mu b l e); exact ne b w q
  have L : Le o H (fun b => if b = p then some (.t τ.length) else o b) (upd H p u) :=
    ⟨fun b w e f => ⟨by show (if b = p then _ else o b) = none; rw [if_neg (ne b w f)]; exact e, by rw [upd_ne (ne b w f)]; exact f⟩,
     fun b e => ⟨by show (if b = p then _ else o b) = _; rw [if_neg (neo b _ e)]; exact e, upd_ne (neo b _ e)⟩⟩
  have kp : ∀ l a, o a = some l → (if a = p then some (.t τ.length) else o a) = some l ∧ upd H p u a = H a := fun l a e => ⟨by rw [if_neg (neo a _ e)]; exact e, upd_ne (neo a _ e)⟩
  refine ⟨⟨fun i s e => (R0.sl i s e).mono L (kp _) (kp _), fun j v m' e => ?_, fun a l e => ?_, R0.le.trans L, R0.ln⟩, L⟩
  · by_cases hj : j < τ.length
    · rw [List.getElem?_append_left hj] at e
      exact ⟨(R0.tm j v m' e).1.mono L (kp _), (R0.tm j v m' e).2⟩
    · rw [List.getElem?_append_right (by omega)] at e
      have hz : j - τ.length = 0 := by
        cases q : j - τ.length with
        | zero => rfl
        | succ n => rw [q] at e; simp at e
      rw [hz] at e
      have e2 : j = τ.length := by omega
      subst e2
      simp at e
      obtain ⟨rfl, rfl⟩ := e
      exact ⟨h, hm⟩
  · by_cases q : a = p
    · subst q; rw [upd_same]; exact hu
    · have e : (if a = p then some (.t τ.length) else o a) = some l := e
      rw [if_neg q] at e
      rw [upd_ne q]
      exact R0.mu a l e
/-- a result: data, or a new object -/
def NewM (K : PySem.W.Frag) (o : Own) (H H' : Hp) (v : V) : M → Prop
  | .im d => Dat K o H' v d
  | .ls ds => ∃ p xs, v = .ref p ∧ H p = none ∧ H' = upd H p (.lst xs) ∧ Dats K o H xs ds
  | .dk kvs => ∃ p ks, v = .ref p ∧ H p = none ∧ H' = upd H p (.dK ks) ∧ Kvs K o H ks kvs
  | .dt kvs => ∃ p ks, v = .ref p ∧ H p = none ∧ H' = upd H p (.dT ks) ∧ Kvs K o H ks kvs
  | .sq _ => False
  | .rd _ => False
/-- behind an operation that only makes: temporaries of the operands are let go -/
theorem Rep.made (R0 : Rep K c o σ H ρ τ) (p : τ0 <+: τ) (g : Grow H H') (h : NewM K o H H' v m) :
    ∃ o' τ', Le o H o' H' ∧ Rep K c o' σ H' ρ τ' ∧ RelR K o' H' σ v m.res τ0 τ' := by
  have R1 := R0.drop p
  have L1 : Le o H (dropT τ0.length o) H := dropT_le _
  cases m with
  | im d =>
    have h : Dat K o H' v d := h
    refine ⟨dropT τ0.length o, τ0, L1.trans (g.le R1.mu), R1.grow g, rfl, h.mono (dropT_le _)⟩
  | sq ds => exact h.elim
  | rd ds => exact h.elim
  | ls ds =>
    obtain ⟨a, xs, rfl, ha, rfl, q⟩ := h
    have ne : ∀ b w, H b = some w → b ≠ a := fun b w e => ne_of_none e ha
    have neo : ∀ b l, dropT τ0.length o b = some l → b ≠ a := fun b l e => by obtain ⟨w, q⟩ := mut_some (R1.mu b l e); exact ne b w q
    have L : Le (dropT τ0.length o) H (fun b => if b = a then some (.t τ0.length) else dropT τ0.length o b) (upd H a (.lst xs)) :=
      ⟨fun b w e f => ⟨by show (if b = a then _ else _) = none; rw [if_neg (ne b w f)]; exact e, by rw [upd_ne (ne b w f)]; exact f⟩,
       fun b e => ⟨by show (if b = a then _ else _) = _; rw [if_neg (neo b _ e)]; exact e, upd_ne (neo b _ e)⟩⟩
    obtain ⟨R2, _⟩ := R1.push (m := .ls ds) (u := .lst xs) ha trivial rfl ⟨a, xs, rfl, by simp, upd_same, (q.mono L1).mono L⟩
    exact ⟨_, _, L1.trans L, R2, rfl⟩
  | dk kvs =>
    obtain ⟨a, xs, rfl, ha, rfl, q⟩ := h
    have ne : ∀ b w, H b = some w → b ≠ a := fun b w e => ne_of_none e ha
    have neo : ∀ b l, dropT τ0.length o b = some l → b ≠ a := fun b l e => by obtain ⟨w, q⟩ := mut_some (R1.mu b l e); exact ne b w q
    have L : Le (dropT τ0.length o) H (fun b => if b = a then some (.t τ0.length) else dropT τ0.length o b) (upd H a (.dK xs)) :=
      ⟨fun b w e f => ⟨by show (if b = a then _ else _) = none; rw [if_neg (ne b w f)]; exact e, by rw [upd_ne (ne b w f)]; exact f⟩,
       fun b e => ⟨by show (if b = a then _ else _) = _; rw [if_neg (neo b _ e)]; exact e, upd_ne (neo b _ e)⟩⟩
    obtain ⟨R2, _⟩ := R1.push (m := .dk kvs) (u := .dK xs) ha trivial rfl ⟨a, xs, rfl, by simp, upd_same, Kvs.mono L (Kvs.mono L1 q)⟩
    exact ⟨_, _, L1.trans L, R2, rfl⟩
  | dt kvs =>
    obtain ⟨a, xs, rfl, ha, rfl, q⟩ := h
    have ne : ∀ b w, H b = some w → b ≠ a := fun b w e => ne_of_none e ha
    have neo : ∀ b l, dropT τ0.length o b = some l → b ≠ a := fun b l e => by obtain ⟨w, q⟩ := mut_some (R1.mu b l e); exact ne b w q
    have L : Le (dropT τ0.length o) H (fun b => if b = a then some (.t τ0.length) else dropT τ0.length o b) (upd H a (.dT xs)) :=
      ⟨fun b w e f => ⟨by show (if b = a then _ else _) = none; rw [if_neg (ne b w f)]; exact e, by rw [upd_ne (ne b w f)]; exact f⟩,
       fun b e => ⟨by show (if b = a then _ else _) = _; rw [if_neg (neo b _ e)]; exact e, upd_ne (neo b _ e)⟩⟩
    obtain ⟨R2, _⟩ := R1.push (m := .dt kvs) (u := .dT xs) ha trivial rfl ⟨a, xs, rfl, by simp, upd_same, Kvs.mono L (Kvs.mono L1 q)⟩
    exact ⟨_, _, L1.trans L, R2, rfl⟩
end
end Y
namespace Y
open PySem PySem.Spec L2

/-! ### data as the library's -/
mutual
def D.py : D → PyData
  | .non => .none
  | .bl b => .bool b
  | .int i => .int i
  | .str x => .str x
  | .tup ds => .tuple (D.pys ds)
  | .lst ds => .list (D.pys ds)
  | .raw _ => .dict []
def D.pys : List D → List PyData
  | [] => []
  | d :: ds => d.py :: D.pys ds
end
mutual
def D.ok : Nat → D → Bool
  | _, .non => true
  | _, .bl _ => true
  | _, .int _ => true
  | _, .str x => PyData.strOk x
  | 0, .tup _ => false
  | n + 1, .tup ds => D.oks n ds
  | 0, .lst _ => false
  | n + 1, .lst ds => D.oks n ds
  | _, .raw _ => false
def D.oks : Nat → List D → Bool
  | _, [] => true
  | n, d :: ds => D.ok n d && D.oks n ds
end
theorem D.pys_map : ∀ ds : List D, D.pys ds = ds.map D.py
  | [] => rfl
  | d :: ds => by simp only [D.pys, List.map_cons]; rw [D.pys_map ds]
theorem D.oks_all (n : Nat) : ∀ ds : List D, D.oks n ds = ds.all (D.ok n)
  | [] => rfl
  | d :: ds => by simp only [D.oks, List.all_cons]; rw [D.oks_all n ds]
mutual
theorem D.ok_lay : ∀ (n : Nat) (d : D), D.ok n d = true → d.py.canLay0 = true ∧ d.py.depth ≤ n
  | n, .non, _ => by simp [D.py, PyData.canLay0, PyData.depth]
  | n, .bl _, _ => by simp [D.py, PyData.canLay0, PyData.depth]
  | n, .int _, _ => by simp [D.py, PyData.canLay0, PyData.depth]
  | n, .str x, h => by
    have h : PyData.strOk x = true := by simpa [D.ok] using h
    simp [D.py, PyData.canLay0, PyData.depth, h]
  | 0, .tup _, h => by simp [D.ok] at h
  | n + 1, .tup ds, h => by
    have h : D.oks n ds = true := by simpa [D.ok] using h
    have q := D.oks_lay n ds h
    simp only [D.py, PyData.canLay0, PyData.depth]
    exact ⟨q.1, by omega⟩
  | 0, .lst _, h => by simp [D.ok] at h
  | n + 1, .lst ds, h => by
    have h : D.oks n ds = true := by simpa [D.ok] using h
    have q := D.oks_lay n ds h
    simp only [D.py, PyData.canLay0, PyData.depth]
    exact ⟨q.1, by omega⟩
  | n, .raw _, h => by simp [D.ok] at h
theorem D.oks_lay : ∀ (n : Nat) (ds : List D), D.oks n ds = true → PyData.canLayAll0 (D.pys ds) = true ∧ PyData.depthAll (D.pys ds) ≤ n
  | n, [], _ => by simp [D.pys, PyData.canLayAll0, PyData.depthAll]
  | n, d :: ds, h => by
    simp only [D.oks, Bool.and_eq_true] at h
    have a := D.ok_lay n d h.1
    have b := D.oks_lay n ds h.2
    simp only [D.pys, PyData.canLayAll0, PyData.depthAll, Bool.and_eq_true]
    exact ⟨⟨a.1, b.1⟩, by omega⟩
end
theorem D.ok_shaped {d : D} (h : D.ok 64 d = true) : SeqAt.shaped d.py = true := by
  have q := D.ok_lay 64 d h
  unfold SeqAt.shaped
  rw [q.1, decide_eq_true q.2]; rfl
def D.eqv (d e : D) : Bool := PyData.eqv d.py e.py

section
variable {K : PySem.W.Frag} {o o' : Own} {H H' : Hp} {l l' : Lb} {v : V}
mutual
theorem Dat.dp : ∀ {n : Nat} {v : V} {d : D}, Dat K o H v d → D.ok n d = true → Dp K H v d.py
  | _, _, _, .non, _ => by simp only [D.py]; exact .non
  | _, _, _, .bl b, _ => by simp only [D.py]; exact .bl b
  | _, _, _, .int b, _ => by simp only [D.py]; exact .int b
  | _, _, _, .str b, _ => by simp only [D.py]; exact .str b
  | _, _, _, .raw b, h => by simp [D.ok] at h
  | 0, _, _, .tup _ _, h => by simp [D.ok] at h
  | n + 1, _, _, .tup h r, q => by
    simp only [D.py]
    exact .tup h.sq (Dats.dp r (by simpa [D.ok] using q))
  | 0, _, _, .lst _ _ _, h => by simp [D.ok] at h
  | n + 1, _, _, .lst e h r, q => by
    simp only [D.py]
    exact .lst (SqL.of h) (Dats.dp r (by simpa [D.ok] using q))
theorem Dats.dp : ∀ {n : Nat} {v : List V} {d : List D}, Dats K o H v d → D.oks n d = true → DpAll K H v (D.pys d)
  | _, _, _, .nil, _ => by simp only [D.pys]; exact .nil
  | n, _, _, .cons a r, h => by
    simp only [D.oks, Bool.and_eq_true] at h
    simp only [D.pys]
    exact .cons (Dat.dp a h.1) (Dats.dp r h.2)
end
def M.dat? : M → Option D
  | .im d => some d
  | .ls ds => some (.lst ds)
  | .sq ds => some (.lst ds)
  | .rd ds => some (.lst ds)
  | _ => none
theorem Vw.dp {m : M} {d : D} (h : Vw K o H v m) (e : m.dat? = some d) (k : D.ok 64 d = true) : Dp K H v d.py := by
  obtain ⟨l, h⟩ := h
  cases m with
  | im x => cases e; exact Dat.dp h k
  | ls ds =>
    cases e
    obtain ⟨a, xs, rfl, _, g, q⟩ := h
    simp only [D.py]
    exact .lst (SqL.of g) (Dats.dp (n := 63) q (by simpa [D.ok] using k))
  | sq ds =>
    cases e
    obtain ⟨a, xs, rfl, g, q⟩ := h
    simp only [D.py]
    exact .lst g.sq (Dats.dp (n := 63) q (by simpa [D.ok] using k))
  | rd ds =>
    cases e
    obtain ⟨a, xs, rfl, _, g, q⟩ := h
    simp only [D.py]
    exact .lst (SqL.of g) (Dats.dp (n := 63) q (by simpa [D.ok] using k))
  | dk _ => cases e
  | dt _ => cases e
/-- a list, by its items -/
def M.lst? : M → Option (List D)
  | .ls ds => some ds
  | .rd ds => some ds
  | .im (.lst ds) => some ds
  | _ => none
theorem Vw.lst {m : M} {ds : List D} (h : Vw K o H v m) (e : m.lst? = some ds) : ∃ a xs, v = .ref a ∧ H a = some (.lst xs) ∧ Dats K o H xs ds := by
  obtain ⟨l, h⟩ := h
  cases m with
  | im x =>
    cases x with
    | lst es => cases e; cases (show Dat K o H v (.lst ds) from h) with | lst e h' r => exact ⟨_, _, rfl, h', r⟩
    | _ => cases e
  | ls es => cases e; obtain ⟨a, xs, rfl, _, g, q⟩ := h; exact ⟨a, xs, rfl, g, q⟩
  | rd es => cases e; obtain ⟨a, xs, rfl, _, g, q⟩ := h; exact ⟨a, xs, rfl, g, q⟩
  | _ => cases e
/-- .. that is only read -/
def M.lq? : M → Option (List D)
  | .ls ds => some ds
  | .sq ds => some ds
  | .rd ds => some ds
  | .im (.lst ds) => some ds
  | _ => none
theorem Vw.lq {m : M} {ds : List D} (h : Vw K o H v m) (e : m.lq? = some ds) : ∃ a xs, v = .ref a ∧ SqL K H a xs ∧ Dats K o H xs ds := by
  cases m with
  | im x =>
    obtain ⟨a, xs, e1, e2, e3⟩ := Vw.lst (m := .im x) (ds := ds) h (by cases x <;> first | exact e | cases e)
    exact ⟨a, xs, e1, SqL.of e2, e3⟩
  | ls es => cases e; obtain ⟨l, a, xs, rfl, _, g, q⟩ := h; exact ⟨a, xs, rfl, SqL.of g, q⟩
  | sq es => cases e; obtain ⟨l, a, xs, rfl, g, q⟩ := h; exact ⟨a, xs, rfl, g.sq, q⟩
  | rd es => cases e; obtain ⟨l, a, xs, rfl, _, g, q⟩ := h; exact ⟨a, xs, rfl, SqL.of g, q⟩
  | _ => cases e
theorem Vw.tup {ds : List D} (h : Vw K o H v (.im (.tup ds))) : ∃ a xs, v = .ref a ∧ Tp K o H a xs ∧ Dats K o H xs ds := by
  obtain ⟨l, h⟩ := h
  cases (show Dat K o H v (.tup ds) from h) with
  | tup a r => exact ⟨_, _, rfl, a, r⟩
theorem Vw.int {i : Int} (h : Vw K o H v (.im (.int i))) : v = .int i := by
  obtain ⟨l, h⟩ := h; cases (show Dat K o H v (.int i) from h); rfl
theorem Vw.bl {i : Bool} (h : Vw K o H v (.im (.bl i))) : v = .bl i := by
  obtain ⟨l, h⟩ := h; cases (show Dat K o H v (.bl i) from h); rfl
theorem Vw.str {i : Str} (h : Vw K o H v (.im (.str i))) : v = .str i := by
  obtain ⟨l, h⟩ := h; cases (show Dat K o H v (.str i) from h); rfl
theorem Vw.non (h : Vw K o H v (.im .non)) : v = .non := by
  obtain ⟨l, h⟩ := h; cases (show Dat K o H v .non from h); rfl
theorem Vw.mono (L : Le o H o' H') (h : ∀ a l, o a = some l → o' a = some l ∧ H' a = H a) {m : M} (q : Vw K o H v m) : Vw K o' H' v m :=
  let ⟨l, z⟩ := q; ⟨l, z.mono L fun a e => h a l e⟩
end

/-! ### the judgements over data -/
abbrev TX := Env → (R → Env → Prop) → Prop
abbrev TQ := Env → (Bool → Env → Prop) → Prop
abbrev TL := Env → (List R → Env → Prop) → Prop
def TEo (K : PySem.W.Frag) (c : Cc) (t : TX) : TE := fun σ H k => ∃ o ρ τ Q, Rep K c o σ H ρ τ ∧ t ρ Q ∧
  ∀ v H' o' r ρ' τ', Le o H o' H' → Rep K c o' σ H' ρ' τ' → RelR K o' H' σ v r τ τ' → Q r ρ' → k v H'
def TTo (K : PySem.W.Frag) (c : Cc) (t : TQ) : TT := fun σ H k => ∃ o ρ τ Q, Rep K c o σ H ρ τ ∧ t ρ Q ∧
  ∀ b H' o' ρ', Le o H o' H' → Rep K c o' σ H' ρ' τ → Q b ρ' → k b H'
inductive RelRs (K : PySem.W.Frag) (o : Own) (H : Hp) (σ : St) : List V → List R → List (V × M) → List (V × M) → Prop
  | nil {τ} : RelRs K o H σ [] [] τ τ
  | cons {v vs r rs τ τ1 τ'} : RelR K o H σ v r τ τ1 → RelRs K o H σ vs rs τ1 τ' → RelRs K o H σ (v :: vs) (r :: rs) τ τ'
def TAo (K : PySem.W.Frag) (c : Cc) (t : TL) : TA := fun σ H k => ∃ o ρ τ Q, Rep K c o σ H ρ τ ∧ t ρ Q ∧
  ∀ vs H' o' rs ρ' τ', Le o H o' H' → Rep K c o' σ H' ρ' τ' → RelRs K o' H' σ vs rs τ τ' → Q rs ρ' → k vs H'
def DE (X : Cx) (c : Cc) (e : Expr) (t : TX) : Prop := PE X e (TEo X.K c t)
def DT (X : Cx) (c : Cc) (e : Expr) (t : TQ) : Prop := PT X e (TTo X.K c t)
def DW (X : Cx) (c : Cc) (e : Expr) (t : TQ) : Prop := PW X e (TTo X.K c t)
def DA (X : Cx) (c : Cc) (es : List Expr) (t : TL) : Prop := PA X es (TAo X.K c t)
theorem peImp {X : Cx} {e : Expr} {t t' : TE} (h : PE X e t) (f : ∀ σ H k, t' σ H k → t σ H k) : PE X e t' := ⟨fun pins s σ H Q I q => h.run pins s σ H Q I (f _ _ _ q)⟩
theorem ptImp {X : Cx} {e : Expr} {t t' : TT} (h : PT X e t) (f : ∀ σ H k, t' σ H k → t σ H k) : PT X e t' := ⟨fun pins s σ H Q I q => h.run pins s σ H Q I (f _ _ _ q)⟩
theorem pwImp {X : Cx} {e : Expr} {t t' : TT} (h : PW X e t) (f : ∀ σ H k, t' σ H k → t σ H k) : PW X e t' := ⟨fun wh pins s σ H Q I q => h.run wh pins s σ H Q I (f _ _ _ q)⟩
theorem paImp {X : Cx} {e : List Expr} {t t' : TA} (h : PA X e t) (f : ∀ σ H k, t' σ H k → t σ H k) : PA X e t' := ⟨fun pos pins s σ H Q I q => h.run pos pins s σ H Q I (f _ _ _ q)⟩

section
variable {K : PySem.W.Frag} {c : Cc} {o o' : Own} {σ : St} {H H' : Hp} {ρ : Env} {τ τ' τ0 τ1 : List (V × M)}
theorem RelRs.mono (L : Le o H o' H') : ∀ {vs rs τ τ'}, RelRs K o H σ vs rs τ τ' → RelRs K o' H' σ vs rs τ τ'
  | _, _, _, _, .nil => .nil
  | _, _, _, _, .cons a r => .cons (a.mono L) (RelRs.mono L r)
theorem RelRs.pre : ∀ {vs rs τ τ'}, RelRs K o H σ vs rs τ τ' → τ <+: τ'
  | _, _, _, _, .nil => List.prefix_rfl
  | _, _, _, _, .cons a r => a.pre.trans r.pre
theorem RelRs.length : ∀ {vs rs τ τ'}, RelRs K o H σ vs rs τ τ' → vs.length = rs.length
  | _, _, _, _, .nil => rfl
  | _, _, _, _, .cons _ r => congrArg (· + 1) r.length
end

/-! ### names and constants -/
section
variable {X : Cx} {c : Cc} {e a b : Expr} {es : List Expr} {pos : Pos} {t ta tb : TX}
def tIm (d : D) : TX := fun ρ Q => Q (.im d) ρ
def tNm (i : Nat) : TX := fun ρ Q => match ρ[i]? with
  | some s => match s.m? with
    | some (.im d) => Q (.im d) ρ
    | some _ => Q (.sl i) ρ
    | none => False
  | none => False
theorem de_var (i : Nat) {x : Str} (hN : X.N[i]? = some x := by rfl) (hv : Vis X.env.scope x := by first | exact Or.inl rfl | exact Or.inr (Or.inl rfl) | exact Or.inr (Or.inr rfl)) (hd : (x == ("__debug__" : Str)) = false := by decide)
    (hcd : (x == ("__classdict__" : Str)) = false := by decide) : DE X c (.Name x pos) (tNm i) := by
  refine peImp (pe_var (i := i) hN hv hd hcd) fun σ H k h => ?_
  obtain ⟨o, ρ, τ, Q, R0, h, q⟩ := h
  unfold tNm at h
  split at h
  · rename_i s hs
    split at h
    · rename_i d hm
      obtain ⟨v, e, _, z⟩ := (R0.sl i s hs).of hm
      exact ⟨v, e, q v H o (.im d) ρ τ .refl R0 ⟨rfl, z⟩ h⟩
    · rename_i m _ hm
      obtain ⟨v, e, z⟩ := (R0.sl i s hs).of hm
      exact ⟨v, e, q v H o (.sl i) ρ τ .refl R0 ⟨rfl, e⟩ h⟩
    · exact h.elim
  · exact h.elim
theorem de_c {d : D} {v : V} (h : PE X e (tC v)) (hd : ∀ o H, Dat X.K o H v d) : DE X c e (tIm d) := peImp h fun σ H k ⟨o, ρ, τ, Q, R0, h, q⟩ => q v H o (.im d) ρ τ .refl R0 ⟨rfl, hd o H⟩ h
theorem de_int {i j pos} : DE X c (.Constant (.int i) j pos) (tIm (.int i)) := de_c pe_int fun _ _ => .int i
theorem de_bl {i j pos} : DE X c (.Constant (.bool i) j pos) (tIm (.bl i)) := de_c pe_bl fun _ _ => .bl i
theorem de_non {j pos} : DE X c (.Constant .none j pos) (tIm .non) := de_c pe_non fun _ _ => .non
theorem de_str {i j pos} : DE X c (.Constant (.str i) j pos) (tIm (.str i)) := de_c pe_str fun _ _ => .str i
/-- a global name: an int, a text, a def, a class -/
theorem de_glob {x : Str} {v : V} {u : Value} {d : D} (hg : Gl X x) (hm : X.mg x = some u) (r : RelV v u) (hd : ∀ o H, Dat X.K o H v d) (hdb : (x == ("__debug__" : Str)) = false := by decide) : DE X c (.Name x pos) (tIm d) :=
  de_c (pe_glob hg hm r hdb) hd
theorem de_bltn {x : Str} {v : V} {u : Value} (hg : Gl X x) (hm : X.mg x = none) (hv : bootBuiltins x = some u) (r : RelV v u) (hn : x ≠ "__name__" := by decide) (hdb : (x == ("__debug__" : Str)) = false := by decide) : DE X c (.Name x pos) (tIm (.raw v)) :=
  de_c (pe_bltn hg hm hv r hn hdb) fun _ _ => .raw v

/-! ### operations on two values -/
abbrev G2 := M → M → (M → Prop) → Prop
def rOp (K : PySem.W.Frag) (g : G2) : R2 := fun x y H k => ∃ o m1 m2 G, (∀ a l, o a = some l → Mut (H a)) ∧ Vw K o H x m1 ∧ Vw K o H y m2 ∧ g m1 m2 G ∧ ∀ v H' m, Grow H H' → NewM K o H H' v m → G m → k v H'
def w2 (ρ : Env) (r1 r2 : R) (f : M → M → Prop) : Prop := match vw ρ r1, vw ρ r2 with
  | some m1, some m2 => f m1 m2
  | _, _ => False
def tBin (g : G2) (ta tb : TX) : TX := fun ρ Q => ta ρ fun r1 ρ1 => tb ρ1 fun r2 ρ2 => w2 ρ2 r1 r2 fun m1 m2 => g m1 m2 fun m => Q m.res ρ2
theorem tBin_of {K : PySem.W.Frag} {g : G2} {σ : St} {H : Hp} {k : VK} (h : TEo K c (tBin g ta tb) σ H k) : tOp (rOp K g) (TEo K c ta) (TEo K c tb) σ H k := by
  obtain ⟨o, ρ, τ, Q, R0, h, q⟩ := h
  refine ⟨o, ρ, τ, _, R0, h, fun v1 H1 o1 r1 ρ1 τ1 L1 R1 z1 h1 => ?_⟩
  refine ⟨o1, ρ1, τ1, _, R1, h1, fun v2 H2 o2 r2 ρ2 τ2 L2 R2 z2 h2 => ?_⟩
  unfold w2 at h2
  split at h2
  · rename_i m1 m2 e1 e2
    have y1 := R2.vw_ok (z1.mono L2) z2.pre e1
    have y2 := R2.vw_ok z2 List.prefix_rfl e2
    refine ⟨o2, m1, m2, _, R2.mu, y1, y2, h2, fun v H' m g1 nm hm => ?_⟩
    obtain ⟨o', τ', L, R', z⟩ := R2.made (z1.pre.trans z2.pre) g1 nm
    exact q v H' o' _ ρ2 τ' (L1.trans (L2.trans L)) R' z hm
  · exact h2.elim
def OpG (X : Cx) (f : Value → Value → Sem Value) (g : G2) : Prop := OpR X f (rOp X.K g)
theorem opG {f : Value → Value → Sem Value} {g : G2} {r : R2} (h : OpR X f r) (i : ∀ x y H k, rOp X.K g x y H k → r x y H k) : OpG X f g := fun pins s σ H x y v u Q I rx ry q => h pins s σ H x y v u Q I rx ry (i _ _ _ _ q)
theorem de_op {op : Operator} {g : G2} (ho : OpG X (binaryOp op) g) (ha : DE X c a ta) (hb : DE X c b tb) : DE X c (.BinOp a op b pos) (tBin g ta tb) :=
  peImp (pe_op ho ha hb) fun _ _ _ h => tBin_of h
theorem de_cmp {op : CmpOp} {g : G2} (ho : OpG X (compareOp op) g) (ha : DE X c a ta) (hb : DE X c b tb) (hm : behindInMarks op b = false := by first | exact nomark _ | rfl) : DE X c (.Compare a [op] [b] pos) (tBin g ta tb) :=
  peImp (pe_cmpR ho ha hb hm) fun _ _ _ h => tBin_of h
/-- a value that is a bool, as a test -/
def tTst (t : TX) : TQ := fun ρ Q => t ρ fun r ρ1 => match r with
  | .im (.bl b) => Q b ρ1
  | _ => False
theorem tTst_of {K : PySem.W.Frag} {σ : St} {H : Hp} {k : Bool → Hp → Prop} (h : TTo K c (tTst t) σ H k) : tTest (TEo K c t) σ H k := by
  obtain ⟨o, ρ, τ, Q, R0, h, q⟩ := h
  refine ⟨o, ρ, τ, _, R0, h, fun v1 H1 o1 r1 ρ1 τ1 L1 R1 z1 h1 => ?_⟩
  split at h1
  · rename_i b
    obtain ⟨rfl, z⟩ := z1
    cases z
    exact ⟨b, rfl, q b H1 o1 ρ1 L1 R1 h1⟩
  · exact h1.elim
theorem dt_cmp {op : CmpOp} {g : G2} (ho : OpG X (compareOp op) g) (ha : DE X c a ta) (hb : DE X c b tb) (hm : behindInMarks op b = false := by first | exact nomark _ | rfl) : DT X c (.Compare a [op] [b] pos) (tTst (tBin g ta tb)) :=
  ptImp (pt_cmpR ho ha hb hm) fun σ H k h => by
    obtain ⟨o, ρ, τ, Q, R0, h, q⟩ := h
    refine tBin_of ⟨o, ρ, τ, _, R0, h, fun v1 H1 o1 r1 ρ1 τ1 L1 R1 z1 h1 => ?_⟩
    split at h1
    · rename_i b
      obtain ⟨rfl, z⟩ := z1
      cases z
      exact ⟨b, rfl, q b H1 o1 ρ1 L1 R1 h1⟩
    · exact h1.elim
theorem dt_val (h : DE X c e t) (he : ∀ whole, isTrue e X.env whole = (do let v ← whole; standAt e.pos; holding [v] (truthy v)) := by intro _; rfl) : DT X c e (tTst t) := ptImp (pt_val h he) fun _ _ _ h => tTst_of h

/-! ### truth -/
def M.tru : M → Option Bool
  | .im .non => some false
  | .im (.bl b) => some b
  | .im (.int i) => some (i != 0)
  | .im (.tup ds) => some (!ds.isEmpty)
  | .im (.lst ds) => some (!ds.isEmpty)
  | .ls ds => some (!ds.isEmpty)
  | .sq ds => some (!ds.isEmpty)
  | .rd ds => some (!ds.isEmpty)
  | .dk kvs => some (!kvs.isEmpty)
  | _ => none
theorem Dats.empty {K : PySem.W.Frag} {o : Own} {H : Hp} {xs : List V} {ds : List D} (h : Dats K o H xs ds) : ds.isEmpty = xs.isEmpty := by cases h <;> rfl
theorem Vw.tru {K : PySem.W.Frag} {o : Own} {H : Hp} {v : V} {m : M} {b : Bool} (h : Vw K o H v m) (e : m.tru = some b) : TruV K v H b := by
  cases m with
  | im d =>
    cases d with
    | non => cases e; rw [h.non]; rfl
    | bl b => cases e; rw [h.bl]; rfl
    | int b => cases e; rw [h.int]; rfl
    | str b => cases e
    | raw b => cases e
    | tup ds => cases e; obtain ⟨a, xs, rfl, g, q⟩ := h.tup; exact .inr (.inl ⟨xs, g.sq, by rw [q.empty]⟩)
    | lst ds => cases e; obtain ⟨a, xs, rfl, g, q⟩ := h.lst rfl; exact .inl ⟨xs, SqL.of g, by rw [q.empty]⟩
  | ls ds => cases e; obtain ⟨a, xs, rfl, g, q⟩ := h.lq rfl; exact .inl ⟨xs, g, by rw [q.empty]⟩
  | sq ds => cases e; obtain ⟨a, xs, rfl, g, q⟩ := h.lq rfl; exact .inl ⟨xs, g, by rw [q.empty]⟩
  | rd ds => cases e; obtain ⟨a, xs, rfl, g, q⟩ := h.lq rfl; exact .inl ⟨xs, g, by rw [q.empty]⟩
  | dk kvs => cases e; obtain ⟨l, a, ks, rfl, _, g, q⟩ := h; exact .inr (.inr ⟨ks, g, by cases q <;> rfl⟩)
  | dt kvs => cases e
def tTru (t : TX) : TQ := fun ρ Q => t ρ fun r ρ1 => match vw ρ1 r with
  | some m => match m.tru with
    | some b => Q b ρ1
    | none => False
  | none => False
theorem dt_tru (h : DE X c e t) (he : ∀ whole, isTrue e X.env whole = (do let v ← whole; standAt e.pos; holding [v] (truthy v)) := by intro _; rfl) : DT X c e (tTru t) :=
  ptImp (pt_truth h he) fun σ H k h => by
    obtain ⟨o, ρ, τ, Q, R0, h, q⟩ := h
    refine ⟨o, ρ, τ, _, R0, h, fun v1 H1 o1 r1 ρ1 τ1 L1 R1 z1 h1 => ?_⟩
    split at h1
    · rename_i m hm
      split at h1
      · rename_i b hb
        have R2 := R1.drop z1.pre
        exact ⟨b, Vw.tru (R1.vw_ok z1 List.prefix_rfl hm) hb, q b H1 _ ρ1 (L1.trans (dropT_le _)) R2 h1⟩
      · exact h1.elim
    · exact h1.elim

/-! ### and, or, not, if else -/
variable {tq tr : TQ} {rest : List Expr} {tc : TX}
def tAndQ (t u : TQ) : TQ := fun ρ Q => t ρ fun b ρ1 => if b = true then u ρ1 Q else Q false ρ1
def tOrQ (t u : TQ) : TQ := fun ρ Q => t ρ fun b ρ1 => if b = true then Q true ρ1 else u ρ1 Q
def tNotQ (t : TQ) : TQ := fun ρ Q => t ρ fun b ρ1 => Q (!b) ρ1
theorem dw_pt (h : DW X c e tq) : DT X c e tq := PW.pt h
theorem dw_and1 (h : DT X c a tq) : DW X c (.BoolOp .And [a] pos) tq := pw_and1 h
theorem dw_or1 (h : DT X c a tq) : DW X c (.BoolOp .Or [a] pos) tq := pw_or1 h
theorem dw_and (h : DT X c a tq) (h2 : DW X c (.BoolOp .And (b :: rest) pos) tr) : DW X c (.BoolOp .And (a :: b :: rest) pos) (tAndQ tq tr) :=
  pwImp (pw_and h h2) fun σ H k h => by
    obtain ⟨o, ρ, τ, Q, R0, h, q⟩ := h
    refine ⟨o, ρ, τ, _, R0, h, fun b1 H1 o1 ρ1 L1 R1 h1 => ?_⟩
    cases b1 with
    | true => exact ⟨o1, ρ1, τ, _, R1, h1, fun b2 H2 o2 ρ2 L2 R2 h2 => q b2 H2 o2 ρ2 (L1.trans L2) R2 h2⟩
    | false => exact q false H1 o1 ρ1 L1 R1 h1
theorem dw_or (h : DT X c a tq) (h2 : DW X c (.BoolOp .Or (b :: rest) pos) tr) : DW X c (.BoolOp .Or (a :: b :: rest) pos) (tOrQ tq tr) :=
  pwImp (pw_or h h2) fun σ H k h => by
    obtain ⟨o, ρ, τ, Q, R0, h, q⟩ := h
    refine ⟨o, ρ, τ, _, R0, h, fun b1 H1 o1 ρ1 L1 R1 h1 => ?_⟩
    cases b1 with
    | false => exact ⟨o1, ρ1, τ, _, R1, h1, fun b2 H2 o2 ρ2 L2 R2 h2 => q b2 H2 o2 ρ2 (L1.trans L2) R2 h2⟩
    | true => exact q true H1 o1 ρ1 L1 R1 h1
theorem dt_not (h : DT X c a tq) : DT X c (.UnaryOp .Not a pos) (tNotQ tq) :=
  ptImp (pt_not h) fun σ H k h => by
    obtain ⟨o, ρ, τ, Q, R0, h, q⟩ := h
    exact ⟨o, ρ, τ, _, R0, h, fun b1 H1 o1 ρ1 L1 R1 h1 => q _ H1 o1 ρ1 L1 R1 h1⟩
/-- as values: bools but the last -/
def tAndX (t u : TX) : TX := fun ρ Q => tTst t ρ fun b ρ1 => if b = true then u ρ1 Q else Q (.im (.bl false)) ρ1
def tOrX (t u : TX) : TX := fun ρ Q => tTst t ρ fun b ρ1 => if b = true then Q (.im (.bl true)) ρ1 else u ρ1 Q
def tNotX (t : TX) : TX := fun ρ Q => tTst t ρ fun b ρ1 => Q (.im (.bl (!b))) ρ1
theorem de_one {op : BoolOp} (h : DE X c a t) : DE X c (.BoolOp op [a] pos) t := pe_one h
theorem de_and (h : DE X c a t) (h2 : DE X c (.BoolOp .And (b :: rest) pos) tc) : DE X c (.BoolOp .And (a :: b :: rest) pos) (tAndX t tc) :=
  peImp (pe_and h h2) fun σ H k h => by
    obtain ⟨o, ρ, τ, Q, R0, h, q⟩ := h
    refine ⟨o, ρ, τ, _, R0, h, fun v1 H1 o1 r1 ρ1 τ1 L1 R1 z1 h1 => ?_⟩
    split at h1
    · rename_i b1
      obtain ⟨rfl, z⟩ := z1
      cases z
      refine ⟨b1, rfl, ?_⟩
      cases b1 with
      | true => exact ⟨o1, ρ1, _, _, R1, h1, fun v2 H2 o2 r2 ρ2 τ2 L2 R2 z2 h2 => q v2 H2 o2 r2 ρ2 τ2 (L1.trans L2) R2 z2 h2⟩
      | false => exact q _ H1 o1 (.im (.bl false)) ρ1 _ L1 R1 ⟨rfl, .bl false⟩ h1
    · exact h1.elim
theorem de_or (h : DE X c a t) (h2 : DE X c (.BoolOp .Or (b :: rest) pos) tc) : DE X c (.BoolOp .Or (a :: b :: rest) pos) (tOrX t tc) :=
  peImp (pe_or h h2) fun σ H k h => by
    obtain ⟨o, ρ, τ, Q, R0, h, q⟩ := h
    refine ⟨o, ρ, τ, _, R0, h, fun v1 H1 o1 r1 ρ1 τ1 L1 R1 z1 h1 => ?_⟩
    split at h1
    · rename_i b1
      obtain ⟨rfl, z⟩ := z1
      cases z
      refine ⟨b1, rfl, ?_⟩
      cases b1 with
      | false => exact ⟨o1, ρ1, _, _, R1, h1, fun v2 H2 o2 r2 ρ2 τ2 L2 R2 z2 h2 => q v2 H2 o2 r2 ρ2 τ2 (L1.trans L2) R2 z2 h2⟩
      | true => exact q _ H1 o1 (.im (.bl true)) ρ1 _ L1 R1 ⟨rfl, .bl true⟩ h1
    · exact h1.elim
theorem de_not (h : DE X c a t) : DE X c (.UnaryOp .Not a pos) (tNotX t) :=
  peImp (pe_not h) fun σ H k h => by
    obtain ⟨o, ρ, τ, Q, R0, h, q⟩ := h
    refine ⟨o, ρ, τ, _, R0, h, fun v1 H1 o1 r1 ρ1 τ1 L1 R1 z1 h1 => ?_⟩
    split at h1
    · rename_i b1
      obtain ⟨rfl, z⟩ := z1
      cases z
      exact ⟨b1, rfl, q _ H1 o1 (.im (.bl (!b1))) ρ1 _ L1 R1 ⟨rfl, .bl _⟩ h1⟩
    · exact h1.elim
def tIfX (q : TQ) (t u : TX) : TX := fun ρ Q => q ρ fun b ρ1 => if b = true then t ρ1 Q else u ρ1 Q
theorem de_if (hq : DT X c e tq) (ha : DE X c a ta) (hb : DE X c b tb) : DE X c (.IfExp e a b pos) (tIfX tq ta tb) :=
  peImp (pe_ifExp hq ha hb) fun σ H k h => by
    obtain ⟨o, ρ, τ, Q, R0, h, q⟩ := h
    refine ⟨o, ρ, τ, _, R0, h, fun b1 H1 o1 ρ1 L1 R1 h1 => ?_⟩
    cases b1 with
    | true => exact ⟨o1, ρ1, τ, _, R1, h1, fun v2 H2 o2 r2 ρ2 τ2 L2 R2 z2 h2 => q v2 H2 o2 r2 ρ2 τ2 (L1.trans L2) R2 z2 h2⟩
    | false => exact ⟨o1, ρ1, τ, _, R1, h1, fun v2 H2 o2 r2 ρ2 τ2 L2 R2 z2 h2 => q v2 H2 o2 r2 ρ2 τ2 (L1.trans L2) R2 z2 h2⟩

/-! ### argument lists -/
def lNil : TL := fun ρ Q => Q [] ρ
def lCons (t : TX) (u : TL) : TL := fun ρ Q => t ρ fun r ρ1 => u ρ1 fun rs ρ2 => Q (r :: rs) ρ2
theorem da_nil : DA X c [] lNil := paImp pa_nil fun σ H k ⟨o, ρ, τ, Q, R0, h, q⟩ => q [] H o [] ρ τ .refl R0 .nil h
theorem da_cons {u : TL} (ha : DE X c e t) (hr : DA X c es u) (hs : starEach (e :: es) X.env = (false, eval e X.env) :: starEach es X.env := by rfl) : DA X c (e :: es) (lCons t u) :=
  paImp (pa_cons ha hr hs) fun σ H k ⟨o, ρ, τ, Q, R0, h, q⟩ =>
    ⟨o, ρ, τ, _, R0, h, fun v1 H1 o1 r1 ρ1 τ1 L1 R1 z1 h1 => ⟨o1, ρ1, τ1, _, R1, h1, fun vs H2 o2 rs ρ2 τ2 L2 R2 z2 h2 => q _ H2 o2 _ ρ2 τ2 (L1.trans L2) R2 (.cons (z1.mono L2) z2) h2⟩⟩
end
end Y
namespace Y
open PySem PySem.Spec L2

section
variable {K : PySem.W.Frag} {c : Cc} {o o' : Own} {σ : St} {H H' : Hp} {ρ : Env} {τ τ' τ0 τ1 : List (V × M)} {X : Cx}
theorem own_none (mu : ∀ a l, o a = some l → Mut (H a)) {p : Addr} (h : H p = none) : o p = none := by
  cases e : o p with
  | none => rfl
  | some l => have := mu p l e; rw [h] at this; exact this.elim
theorem newTup (mu : ∀ a l, o a = some l → Mut (H a)) {p : Addr} {xs : List V} {ds : List D} (h : H p = none) (d : Dats K o H xs ds) : Dat K o (upd H p (.tup xs)) (.ref p) (.tup ds) :=
  .tup ⟨own_none mu h, upd_same⟩ (d.mono ((Grow.new h).le mu))

theorem qim {k : VK} {G : M → Prop} (q : ∀ v H' m, Grow H H' → NewM K o H H' v m → G m → k v H') {v : V} {d : D} (a : Dat K o H v d) (b : G (.im d)) : k v H := q v H (.im d) .refl a b
/-! ### + -/
def gAdd : G2 := fun m n G => match m, n with
  | .im (.int i), .im (.int j) => G (.im (.int (i + j)))
  | .im (.str x), .im (.str y) => x.length + y.length ≤ sizeLine ∧ G (.im (.str (x ++ y)))
  | .im (.tup a), .im (.tup b) => a.length + b.length ≤ sizeLine ∧ G (.im (.tup (a ++ b)))
  | m, n => match m.lst?, n.lst? with
    | some a, some b => a.length + b.length ≤ sizeLine ∧ G (.ls (a ++ b))
    | _, _ => False
theorem add_ok : OpG X (binaryOp .Add) gAdd := by
  refine opG ((op_add.or op_add_str).or (op_catA.or op_cat)) fun x y H k h => ?_
  obtain ⟨o, m1, m2, G, mu, v1, v2, h, q⟩ := h
  unfold gAdd at h
  split at h
  · rename_i i j
    exact .inl (.inl ⟨i, j, v1.int, v2.int, qim q (.int _) h⟩)
  · rename_i i j
    exact .inl (.inr ⟨i, j, v1.str, v2.str, h.1, qim q (.str _) h.2⟩)
  · rename_i as bs
    obtain ⟨a, xs, rfl, ta, da⟩ := v1.tup
    obtain ⟨b, ys, rfl, tb, db⟩ := v2.tup
    refine .inr (.inl ⟨a, b, xs, ys, rfl, rfl, ta.sq, tb.sq, by rw [da.length, db.length]; exact h.1, fun e => ?_, fun e1 e2 => ?_, fun _ _ p hp => ?_⟩)
    · subst e; cases da
      exact q (.ref b) H (.im (.tup bs)) .refl (.tup tb db) h.2
    · subst e2; cases db
      refine q (.ref a) H (.im (.tup as)) .refl (.tup ta da) (by have := h.2; rwa [List.append_nil] at this)
    · exact q (.ref p) _ (.im (.tup (as ++ bs))) (.new hp) (newTup mu hp (da.append db)) h.2
  · split at h
    · rename_i as bs e1 e2
      obtain ⟨a, xs, rfl, ta, da⟩ := v1.lst e1
      obtain ⟨b, ys, rfl, tb, db⟩ := v2.lst e2
      refine .inr (.inr ⟨a, b, xs, ys, rfl, rfl, ta, tb, by rw [da.length, db.length]; exact h.1, fun p hp => ?_⟩)
      exact q (.ref p) _ (.ls (as ++ bs)) (.new hp) ⟨p, _, rfl, hp, rfl, da.append db⟩ h.2
    · exact h.elim
/-! ### other arithmetic -/
def gII (C : Int → Int → Prop) (f : Int → Int → D) : G2 := fun m n G => match m, n with
  | .im (.int i), .im (.int j) => C i j ∧ G (.im (f i j))
  | _, _ => False
def gI0 (f : Int → Int → D) : G2 := fun m n G => match m, n with
  | .im (.int i), .im (.int j) => G (.im (f i j))
  | _, _ => False
theorem opII {f : Value → Value → Sem Value} {C : Int → Int → Prop} {g : Int → Int → Int} (h : OpR X f (rI C fun i j => .int (g i j))) : OpG X f (gII C fun i j => .int (g i j)) := by
  refine opG h fun x y H k h => ?_
  obtain ⟨o, m1, m2, G, mu, v1, v2, h, q⟩ := h
  unfold gII at h
  split at h
  · rename_i i j
    exact ⟨i, j, v1.int, v2.int, h.1, qim q (.int _) h.2⟩
  · exact h.elim
theorem opI0' {f : Value → Value → Sem Value} {g : Int → Int → Int} (h : OpR X f (rI0 fun i j => .int (g i j))) : OpG X f (gI0 fun i j => .int (g i j)) := by
  refine opG h fun x y H k h => ?_
  obtain ⟨o, m1, m2, G, mu, v1, v2, h, q⟩ := h
  unfold gI0 at h
  split at h
  · rename_i i j
    exact ⟨i, j, v1.int, v2.int, qim q (.int _) h⟩
  · exact h.elim
theorem opIB {f : Value → Value → Sem Value} {g : Int → Int → Bool} (h : OpR X f (rI0 fun i j => .bl (g i j))) : OpG X f (gI0 fun i j => .bl (g i j)) := by
  refine opG h fun x y H k h => ?_
  obtain ⟨o, m1, m2, G, mu, v1, v2, h, q⟩ := h
  unfold gI0 at h
  split at h
  · rename_i i j
    exact ⟨i, j, v1.int, v2.int, qim q (.bl _) h⟩
  · exact h.elim
def gSub : G2 := gI0 fun i j => .int (i - j)
def gMul : G2 := gII CMulW fun i j => .int (i * j)
def gDiv : G2 := gII CDivW fun i j => .int (i / j)
def gMod : G2 := gII (fun _ j => 0 < j) fun i j => .int (i % j)
def gPow : G2 := gII CPow fun i j => .int (i ^ j.toNat)
def gLt : G2 := gI0 fun i j => .bl (decide (i < j))
def gLe : G2 := gI0 fun i j => .bl (decide (i ≤ j))
def gGt : G2 := gI0 fun i j => .bl (decide (j < i))
def gGe : G2 := gI0 fun i j => .bl (decide (j ≤ i))
theorem sub_ok : OpG X (binaryOp .Sub) gSub := opI0' op_sub
theorem mul_ok : OpG X (binaryOp .Mult) gMul := opII op_mulW
theorem div_ok : OpG X (binaryOp .FloorDiv) gDiv := opII op_fdivW
theorem mod_ok : OpG X (binaryOp .Mod) gMod := opII op_mod
theorem pow_ok : OpG X (binaryOp .Pow) gPow := opII op_pow
theorem lt_ok : OpG X (compareOp .Lt) gLt := opIB op_lt
theorem le_ok : OpG X (compareOp .LtE) gLe := opIB op_le
theorem gt_ok : OpG X (compareOp .Gt) gGt := opIB op_gt
theorem ge_ok : OpG X (compareOp .GtE) gGe := opIB op_ge

/-! ### == and != -/
def gEqs (neg : Bool) : G2 := fun m n G => match m, n with
  | .im (.int i), .im (.int j) => G (.im (.bl (neg ^^ decide (i = j))))
  | .im (.str i), .im (.str j) => G (.im (.bl (neg ^^ decide (i = j))))
  | m, n => match m.dat?, n.dat? with
    | some d, some e => D.ok 64 d = true ∧ D.ok 64 e = true ∧ G (.im (.bl (neg ^^ D.eqv d e)))
    | _, _ => False
theorem eq_ok (hu : X.A.units + 64 < cLine) : OpG X (compareOp .Eq) (gEqs false) := by
  refine opG (op_eq.or (op_eqD hu)) fun x y H k h => ?_
  obtain ⟨o, m1, m2, G, mu, v1, v2, h, q⟩ := h
  unfold gEqs at h
  split at h
  · rename_i i j
    refine .inl ?_
    rw [v1.int, v2.int]
    refine ⟨rfl, ?_⟩
    rw [show decide (V.int i = V.int j) = decide (i = j) by rw [dec_int]; exact Bool.beq_eq_decide_eq _ _]
    exact qim q (.bl _) (by simpa using h)
  · rename_i i j
    refine .inl ?_
    rw [v1.str, v2.str]
    refine ⟨rfl, ?_⟩
    rw [show decide (V.str i = V.str j) = decide (i = j) by rw [dec_str]; exact Bool.beq_eq_decide_eq _ _]
    exact qim q (.bl _) (by simpa using h)
  · split at h
    · rename_i d e e1 e2
      refine .inr ⟨d.py, e.py, v1.dp e1 h.1, v2.dp e2 h.2.1, D.ok_shaped h.1, D.ok_shaped h.2.1, ?_⟩
      exact qim q (.bl _) (by have := h.2.2; rwa [Bool.false_xor] at this)
    · exact h.elim
theorem ne_ok (hu : X.A.units + 64 < cLine) : OpG X (compareOp .NotEq) (gEqs true) := by
  refine opG (op_ne.or (op_neD hu)) fun x y H k h => ?_
  obtain ⟨o, m1, m2, G, mu, v1, v2, h, q⟩ := h
  unfold gEqs at h
  split at h
  · rename_i i j
    refine .inl ?_
    rw [v1.int, v2.int]
    refine ⟨rfl, ?_⟩
    rw [show decide (V.int i = V.int j) = decide (i = j) by rw [dec_int]; exact Bool.beq_eq_decide_eq _ _]
    exact qim q (.bl _) (by simpa using h)
  · rename_i i j
    refine .inl ?_
    rw [v1.str, v2.str]
    refine ⟨rfl, ?_⟩
    rw [show decide (V.str i = V.str j) = decide (i = j) by rw [dec_str]; exact Bool.beq_eq_decide_eq _ _]
    exact qim q (.bl _) (by simpa using h)
  · split at h
    · rename_i d e e1 e2
      refine .inr ⟨d.py, e.py, v1.dp e1 h.1, v2.dp e2 h.2.1, D.ok_shaped h.1, D.ok_shaped h.2.1, ?_⟩
      exact qim q (.bl _) (by have := h.2.2; rwa [Bool.true_xor] at this)
    · exact h.elim

/-! ### is None, is True -/
def M.isNon : M → Option Bool
  | .im .non => some true
  | .im (.raw _) => none
  | _ => some false
theorem Vw.isNon {v : V} {m : M} {b : Bool} (h : Vw K o H v m) (e : m.isNon = some b) : decide (v = .non) = b := by
  cases m with
  | im d =>
    cases d with
    | non => cases e; rw [h.non]; rfl
    | bl z => cases e; rw [h.bl]; rfl
    | int z => cases e; rw [h.int]; rfl
    | str z => cases e; rw [h.str]; rfl
    | raw _ => cases e
    | tup ds => cases e; obtain ⟨a, xs, rfl, _⟩ := h.tup; rfl
    | lst ds => cases e; obtain ⟨a, xs, rfl, _⟩ := h.lst rfl; rfl
  | ls ds => cases e; obtain ⟨a, xs, rfl, _⟩ := h.lq rfl; rfl
  | sq ds => cases e; obtain ⟨a, xs, rfl, _⟩ := h.lq rfl; rfl
  | rd ds => cases e; obtain ⟨a, xs, rfl, _⟩ := h.lq rfl; rfl
  | dk kvs => cases e; obtain ⟨l, a, ks, rfl, _⟩ := h; rfl
  | dt kvs => cases e; obtain ⟨l, a, ks, rfl, _⟩ := h; rfl
def gIs (neg : Bool) : G2 := fun m n G => match m, n with
  | .im (.bl i), .im (.bl j) => G (.im (.bl (neg ^^ decide (i = j))))
  | m, .im .non => match m.isNon with
    | some b => G (.im (.bl (neg ^^ b)))
    | none => False
  | _, _ => False
theorem is_ok : OpG X (compareOp .Is) (gIs false) := by
  refine opG (op_isN.or op_isBl) fun x y H k h => ?_
  obtain ⟨o, m1, m2, G, mu, v1, v2, h, q⟩ := h
  unfold gIs at h
  split at h
  · rename_i i j
    exact .inr ⟨i, j, v1.bl, v2.bl, qim q (.bl _) (by rwa [Bool.false_xor] at h)⟩
  · split at h
    · rename_i b e
      refine .inl ⟨v2.non, ?_⟩
      rw [v1.isNon e]
      exact qim q (.bl _) (by rwa [Bool.false_xor] at h)
    · exact h.elim
  · exact h.elim
theorem isnot_ok : OpG X (compareOp .IsNot) (gIs true) := by
  refine opG (op_notN.or op_notBl) fun x y H k h => ?_
  obtain ⟨o, m1, m2, G, mu, v1, v2, h, q⟩ := h
  unfold gIs at h
  split at h
  · rename_i i j
    exact .inr ⟨i, j, v1.bl, v2.bl, qim q (.bl _) (by rwa [Bool.true_xor] at h)⟩
  · split at h
    · rename_i b e
      refine .inl ⟨v2.non, ?_⟩
      rw [v1.isNon e]
      exact qim q (.bl _) (by rwa [Bool.true_xor] at h)
    · exact h.elim
  · exact h.elim

/-! ### dicts: keys -/
def D.key? : D → Option Key
  | .int i => some (.inl i)
  | .str x => some (.inr x)
  | _ => none
def D.keys? : List D → Option (List Key)
  | [] => some []
  | d :: ds => match d.key?, D.keys? ds with
    | some k, some ks => some (k :: ks)
    | _, _ => none
theorem Dat.key {v : V} {d : D} {k : Key} (h : Dat K o H v d) (e : d.key? = some k) : v = kV k := by
  cases d with
  | int i => cases e; cases h; rfl
  | str i => cases e; cases h; rfl
  | _ => cases e
theorem Dats.keys : ∀ {vs : List V} {ds : List D} {ks : List Key}, Dats K o H vs ds → D.keys? ds = some ks → vs = ks.map kV
  | _, _, _, .nil, e => by simp [D.keys?] at e; subst e; rfl
  | _, _, _, .cons a r, e => by
    unfold D.keys? at e
    split at e
    · rename_i k ks e1 e2
      cases e
      rw [a.key e1, Dats.keys r e2]; rfl
    · cases e
section
variable {κ : Type} [DecidableEq κ]
def getK (kvs : List (κ × D)) (k : κ) : Option D := (kvs.find? fun kv => decide (kv.1 = k)).map (·.2)
def putD (kvs : List (κ × D)) (k : κ) (d : D) : List (κ × D) := if (kvs.any fun kv => decide (kv.1 = k)) = true then kvs.map (fun kv => if kv.1 = k then (kv.1, d) else kv) else kvs ++ [(k, d)]
def RelD (K : PySem.W.Frag) (o : Own) (H : Hp) : Option V → Option D → Prop
  | some v, some d => Dat K o H v d
  | none, none => True
  | _, _ => False
theorem Kvs.val {ks : List (κ × V)} {kvs : List (κ × D)} (h : Kvs K o H ks kvs) (k : κ) : RelD K o H (valV ks k) (getK kvs k) := by
  unfold Kvs at h
  induction h with
  | nil => exact trivial
  | @cons p q ps qs a t ih =>
    by_cases e : p.1 = k
    · have e2 : q.1 = k := a.1 ▸ e
      simp only [valV, getK, List.find?_cons, e, e2, decide_true, Option.map_some]
      exact a.2
    · have e2 : ¬ q.1 = k := a.1 ▸ e
      simp only [valV, getK, List.find?_cons, e, e2, decide_false] at ih ⊢
      exact ih
theorem Kvs.any {ks : List (κ × V)} {kvs : List (κ × D)} (h : Kvs K o H ks kvs) (k : κ) : (ks.any fun kv => decide (kv.1 = k)) = kvs.any fun kv => decide (kv.1 = k) := by
  unfold Kvs at h
  induction h with
  | nil => rfl
  | @cons p q ps qs a t ih => rw [List.any_cons, List.any_cons, ih, a.1]
theorem Kvs.append {ks ls : List (κ × V)} {kvs lvs : List (κ × D)} (h : Kvs K o H ks kvs) (g : Kvs K o H ls lvs) : Kvs K o H (ks ++ ls) (kvs ++ lvs) := by
  unfold Kvs at h
  induction h with
  | nil => exact g
  | cons a t ih => exact .cons a ih
theorem Kvs.put {ks : List (κ × V)} {kvs : List (κ × D)} (h : Kvs K o H ks kvs) (k : κ) {v : V} {d : D} (r : Dat K o H v d) : Kvs K o H (putK ks k v) (putD kvs k d) := by
  unfold putK putD
  rw [h.any k]
  split
  · rename_i hh
    clear hh
    unfold Kvs at h
    induction h with
    | nil => exact .nil
    | @cons p q ps qs a t ih =>
      refine .cons ?_ ih
      show (if p.1 = k then (p.1, v) else p).1 = (if q.1 = k then (q.1, d) else q).1 ∧ Dat K o H (if p.1 = k then (p.1, v) else p).2 (if q.1 = k then (q.1, d) else q).2
      rw [← a.1]
      by_cases e : p.1 = k
      · rw [if_pos e, if_pos e]; exact ⟨rfl, r⟩
      · rw [if_neg e, if_neg e]; exact a
  · exact h.append (.cons ⟨rfl, r⟩ .nil)
theorem Kvs.length {ks : List (κ × V)} {kvs : List (κ × D)} (h : Kvs K o H ks kvs) : ks.length = kvs.length := Paired.length h
end
/-- a dict at a key: what it holds -/
def dGet (m : M) (d : D) : Option (Option D) := match m, d with
  | .dk kvs, d => match d.key? with
    | some k => some (getK kvs k)
    | none => none
  | .dt kvs, .tup ds => match D.keys? ds with
    | some k => some (getK kvs k)
    | none => none
  | _, _ => none
theorem dGet_ok {x y : V} {m : M} {d : D} {r : Option D} (h : Vw K o H x m) (g : Dat K o H y d) (e : dGet m d = some r) : ∃ a w, x = .ref a ∧ DGet H a y w ∧ RelD K o H w r := by
  unfold dGet at e
  split at e
  · rename_i kvs
    split at e
    · rename_i k ek
      cases e
      obtain ⟨l, a, ks, rfl, _, ha, q⟩ := h
      rw [g.key ek]
      exact ⟨a, _, rfl, DGet.k ha, q.val k⟩
    · cases e
  · rename_i kvs ds
    split at e
    · rename_i k ek
      cases e
      obtain ⟨l, a, ks, rfl, _, ha, q⟩ := h
      cases g with
      | tup t r =>
        have z := r.keys ek
        subst z
        exact ⟨a, _, rfl, DGet.t ha t.2, q.val k⟩
    · cases e
  · cases e
end

/-! ### in -/
def gIns (neg : Bool) : G2 := fun m n G => match n with
  | .dk kvs => match m with
    | .im d => match dGet (.dk kvs) d with
      | some r => G (.im (.bl (neg ^^ r.isSome)))
      | none => False
    | _ => False
  | .dt kvs => match m with
    | .im d => match dGet (.dt kvs) d with
      | some r => G (.im (.bl (neg ^^ r.isSome)))
      | none => False
    | _ => False
  | .im (.str x) => match m with
    | .im (.str y) => G (.im (.bl (neg ^^ !(Builtin.Str.occurrences x y 0 x.length 1).isEmpty)))
    | _ => False
  | .im (.tup ds) => match m with
    | .im d => D.ok 64 d = true ∧ D.oks 63 ds = true ∧ G (.im (.bl (neg ^^ ds.any fun z => z.eqv d)))
    | _ => False
  | n => match n.lq? with
    | some ds => match m with
      | .im d => D.ok 64 d = true ∧ D.oks 63 ds = true ∧ G (.im (.bl (neg ^^ ds.any fun z => z.eqv d)))
      | _ => False
    | none => False
section
variable {X : Cx}
def rInT (K : PySem.W.Frag) (neg : Bool) : R2 := fun x y H Q => ∃ d ds, Dp K H x d ∧ Dp K H y (.tuple ds) ∧ SeqAt.shaped d = true ∧ SeqAt.shaped (.tuple ds) = true ∧ Q (.bl (neg ^^ ds.any fun z => PyData.eqv z d)) H
theorem op_inT (hu : X.A.units + 65 < cLine) : OpR X (compareOp .In) (rInT X.K false) := fun _ _ _ H _ _ _ _ _ I rx ry ⟨d, ds, hd, he, sd, se, q⟩ =>
  let ⟨_, e1⟩ := Dp.reads I (.tuple ds) _ _ he ry
  let ⟨_, e2⟩ := Dp.reads I d _ _ hd rx
  SeqAt.in_tuple_reads e1 e2 (SeqAt.canLay_of_shaped se) (SeqAt.canLay_of_shaped sd) (PyProof.Rows.room_in_shaped sd hu) ⟨.bl _, H, I, rfl, by rwa [Bool.false_xor] at q⟩
theorem op_notInT (hu : X.A.units + 65 < cLine) : OpR X (compareOp .NotIn) (rInT X.K true) := fun _ _ _ H _ _ _ _ _ I rx ry ⟨d, ds, hd, he, sd, se, q⟩ =>
  let ⟨_, e1⟩ := Dp.reads I (.tuple ds) _ _ he ry
  let ⟨_, e2⟩ := Dp.reads I d _ _ hd rx
  SeqAt.notIn_tuple_reads e1 e2 (SeqAt.canLay_of_shaped se) (SeqAt.canLay_of_shaped sd) (PyProof.Rows.room_in_shaped sd hu) ⟨.bl _, H, I, rfl, by rwa [Bool.true_xor] at q⟩
def rDin (neg : Bool) : R2 := fun y x H Q => ∃ a w, x = .ref a ∧ DGet H a y w ∧ Q (.bl (neg ^^ w.isSome)) H
theorem op_din (hu : X.A.units + 1 < cLine) : OpR X (compareOp .In) (rDin false) := by
  rintro pins s σ H x _ v _ Q I rx ry ⟨a, w, rfl, g, q⟩
  obtain rfl := ry
  exact d_in hu I g rx fun s3 I3 => ⟨.bl w.isSome, H, I3, rfl, by rwa [Bool.false_xor] at q⟩
theorem op_dnotin (hu : X.A.units + 1 < cLine) : OpR X (compareOp .NotIn) (rDin true) := by
  rintro pins s σ H x _ v _ Q I rx ry ⟨a, w, rfl, g, q⟩
  obtain rfl := ry
  exact d_notIn hu I g rx fun s3 I3 => ⟨.bl (!w.isSome), H, I3, rfl, by rwa [Bool.true_xor] at q⟩
theorem any_eqv {d : D} : ∀ ds : List D, ((D.pys ds).any fun z => PyData.eqv z d.py) = ds.any fun z => z.eqv d
  | [] => rfl
  | e :: ds => by simp only [D.pys, List.any_cons, D.eqv]; rw [any_eqv ds]; rfl
theorem RelD.some_eq {K : PySem.W.Frag} {o : Own} {H : Hp} {w : Option V} {r : Option D} (h : RelD K o H w r) : w.isSome = r.isSome := by
  cases w <;> cases r <;> first | rfl | exact h.elim
theorem ins_ok {neg : Bool} {op : CmpOp} (h1 : OpR X (compareOp op) (rDin neg)) (h2 : OpR X (compareOp op) (fun x y H Q => ∃ i j, x = .str i ∧ y = .str j ∧ Q (.bl (neg ^^ !(Builtin.Str.occurrences j i 0 j.length 1).isEmpty)) H))
    (h3 : OpR X (compareOp op) (rInT X.K neg)) (h4 : OpR X (compareOp op) (fun x y H Q => ∃ d ds, Dp X.K H x d ∧ Dp X.K H y (.list ds) ∧ SeqAt.shaped d = true ∧ SeqAt.shaped (.list ds) = true ∧ Q (.bl (neg ^^ ds.any fun z => PyData.eqv z d)) H)) :
    OpG X (compareOp op) (gIns neg) := by
  refine opG ((h1.or h2).or (h3.or h4)) fun x y H k h => ?_
  obtain ⟨o, m1, m2, G, mu, v1, v2, h, q⟩ := h
  unfold gIns at h
  split at h
  · split at h
    · split at h
      · rename_i r e
        obtain ⟨l, g⟩ := v1
        obtain ⟨a, w, rfl, z, rd⟩ := dGet_ok v2 g e
        refine .inl (.inl ⟨a, w, rfl, z, ?_⟩)
        rw [rd.some_eq]
        exact qim q (.bl _) h
      · exact h.elim
    · exact h.elim
  · split at h
    · split at h
      · rename_i r e
        obtain ⟨l, g⟩ := v1
        obtain ⟨a, w, rfl, z, rd⟩ := dGet_ok v2 g e
        refine .inl (.inl ⟨a, w, rfl, z, ?_⟩)
        rw [rd.some_eq]
        exact qim q (.bl _) h
      · exact h.elim
    · exact h.elim
  · split at h
    · rename_i x' y'
      exact .inl (.inr ⟨_, _, v1.str, v2.str, qim q (.bl _) h⟩)
    · exact h.elim
  · rename_i ds
    split at h
    · rename_i d
      obtain ⟨h1, h2, h⟩ := h
      have e2 : D.ok 64 (.tup ds) = true := by simp only [D.ok]; exact h2
      have p2 := v2.dp (d := .tup ds) rfl e2
      simp only [D.py] at p2
      refine .inr (.inl ⟨d.py, D.pys ds, v1.dp rfl h1, p2, D.ok_shaped h1, by have := D.ok_shaped e2; simpa only [D.py] using this, ?_⟩)
      rw [any_eqv]
      exact qim q (.bl _) h
    · exact h.elim
  · split at h
    · rename_i ds e
      split at h
      · rename_i d
        obtain ⟨h1, h2, h⟩ := h
        have e2 : D.ok 64 (.lst ds) = true := by simp only [D.ok]; exact h2
        obtain ⟨a, xs, rfl, g, r⟩ := v2.lq e
        have p2 : Dp X.K H (.ref a) (D.lst ds).py := by simp only [D.py]; exact .lst g (r.dp h2)
        simp only [D.py] at p2
        refine .inr (.inr ⟨d.py, D.pys ds, v1.dp rfl h1, p2, D.ok_shaped h1, by have := D.ok_shaped e2; simpa only [D.py] using this, ?_⟩)
        rw [any_eqv]
        exact qim q (.bl _) h
      · exact h.elim
    · exact h.elim
theorem in_ok (hu : X.A.units + 65 < cLine) : OpG X (compareOp .In) (gIns false) := by
  refine ins_ok (op_din (by omega)) ?_ (op_inT hu) ?_
  · intro pins s σ H x y v u Q I rx ry ⟨i, j, a, b, q⟩
    exact op_in_str pins s σ H x y v u Q I rx ry ⟨i, j, a, b, by rwa [Bool.false_xor] at q⟩
  · intro pins s σ H x y v u Q I rx ry ⟨i, j, a, b, c, d, q⟩
    exact op_inD hu pins s σ H x y v u Q I rx ry ⟨i, j, a, b, c, d, by rwa [Bool.false_xor] at q⟩
theorem notin_ok (hu : X.A.units + 65 < cLine) : OpG X (compareOp .NotIn) (gIns true) := by
  refine ins_ok (op_dnotin (by omega)) ?_ (op_notInT hu) ?_
  · intro pins s σ H x y v u Q I rx ry ⟨i, j, a, b, q⟩
    exact op_notIn_str pins s σ H x y v u Q I rx ry ⟨i, j, a, b, by rwa [Bool.true_xor] at q⟩
  · intro pins s σ H x y v u Q I rx ry ⟨i, j, a, b, c, d, q⟩
    exact op_notInD hu pins s σ H x y v u Q I rx ry ⟨i, j, a, b, c, d, by rwa [Bool.true_xor] at q⟩
end
end Y
namespace Y
open PySem PySem.Spec L2

section
variable {K : PySem.W.Frag} {c : Cc} {o o' : Own} {σ : St} {H H' : Hp} {ρ ρ' : Env} {τ τ' τ0 τ1 : List (V × M)} {X : Cx} {e a b : Expr} {es : List Expr} {pos : Pos} {t ta tb : TX}
/-! ### what is put into a tuple or a list becomes data -/
def froz : Env → List R → Option (List D × Env)
  | ρ, [] => some ([], ρ)
  | ρ, .im d :: rs => match froz ρ rs with
    | some (ds, ρ') => some (d :: ds, ρ')
    | none => none
  | ρ, .tm (.ls es) :: rs => match froz ρ rs with
    | some (ds, ρ') => some (.lst es :: ds, ρ')
    | none => none
  | ρ, .sl i :: rs => match ρ[i]? with
    | some s => match s.m? with
      | some (.ls es) => match froz (ρ.set i .no) rs with
        | some (ds, ρ') => some (.lst es :: ds, ρ')
        | none => none
      | _ => none
    | none => none
  | _, _ => none
/-- an item once the temporaries are let go -/
def ElR (K : PySem.W.Frag) (o : Own) (H : Hp) (σ : St) (v : V) : R → Prop
  | .im d => Dat K o H v d
  | .tm (.ls es) => Dat K o H v (.lst es)
  | .tm _ => True
  | .sl i => σ[i]? = some (some v)
theorem ElR.mono (L : Le o H o' H') {v : V} : ∀ {r : R}, ElR K o H σ v r → ElR K o' H' σ v r
  | .im _, h => Dat.mono L h
  | .tm (.ls _), h => Dat.mono L h
  | .tm (.im _), _ => trivial
  | .tm (.sq _), _ => trivial
  | .tm (.rd _), _ => trivial
  | .tm (.dk _), _ => trivial
  | .tm (.dt _), _ => trivial
  | .sl _, h => h
theorem RelRs.els {ρ0 : Env} {base : Nat} : ∀ {vs rs τ τ1}, RelRs K o H σ vs rs τ τ1 → base ≤ τ.length → (∀ j v m, τ1[j]? = some (v, m) → IsM K o H (.t j) v m) → Paired (ElR K (dropT base o) H σ) vs rs
  | _, _, _, _, .nil, _, _ => .nil
  | _, _, _, _, .cons (v := v) (r := r) (τ := τ) (τ1 := τ1) a t, hb, h => by
    have hb2 : base ≤ τ1.length := Nat.le_trans hb a.pre.length_le
    refine .cons ?_ (RelRs.els (ρ0 := ρ0) t hb2 h)
    cases r with
    | im d => exact a.2.mono (dropT_le _)
    | sl i => exact a.2
    | tm m =>
      have e : τ1 = τ ++ [(v, m)] := a
      obtain ⟨w, hw⟩ := t.pre
      have q : IsM K o H (.t τ.length) v m := h τ.length v m (by rw [← hw, e]; simp)
      cases m with
      | ls ds =>
        obtain ⟨ad, xs, rfl, ho, hH, dd⟩ := q
        refine Dat.lst ?_ hH (dd.mono (dropT_le _))
        unfold dropT
        rw [ho]
        show (if τ.length < base then _ else none) = none
        rw [if_neg (by omega)]
      | im _ => trivial
      | sq _ => trivial
      | rd _ => trivial
      | dk _ => trivial
      | dt _ => trivial
theorem SlOk.ofS {i : Nat} {s : Sl} {es : List D} (h : SlOk K c o σ H i s) (e : s.m? = some (.ls es)) : ∃ v, σ[i]? = some (some v) ∧ IsM K o H (.s i) v (.ls es) := by
  cases s with
  | no => cases e
  | lo z => cases e; obtain ⟨v, a, q⟩ := h; exact ⟨v, a, q⟩
  | pa z => cases e; obtain ⟨v, a, _, q⟩ := h; exact ⟨v, a, q⟩
  | hd p v z =>
    cases z with
    | ls ds => cases e
    | _ => cases e
/-- a slot's object is let go -/
def unS (i : Nat) (o : Own) : Own := fun a => if o a = some (.s i) then none else o a
theorem unS_le (i : Nat) : Le o H (unS i o) H := ⟨fun b u e f => ⟨by unfold unS; rw [e]; simp, f⟩, fun b e => ⟨by unfold unS; rw [e]; simp, rfl⟩⟩
theorem Rep.unslot (R0 : Rep K c o σ H ρ τ) (i : Nat) : Rep K c (unS i o) σ H (ρ.set i .no) τ := by
  refine ⟨fun j s e => ?_, fun j v m e => ⟨(R0.tm j v m e).1.mono (unS_le i) fun a q => ⟨by unfold unS; rw [q]; simp, rfl⟩, (R0.tm j v m e).2⟩, fun a l e => ?_, R0.le.trans (unS_le i), by rw [List.length_set]; exact R0.ln⟩
  · by_cases hj : i = j
    · subst hj
      by_cases hl : i < ρ.length
      · rw [List.getElem?_set_self hl] at e; cases e; exact trivial
      · rw [List.getElem?_eq_none (by simpa using hl)] at e; cases e
    · rw [List.getElem?_set_ne hj] at e
      refine (R0.sl j s e).mono (unS_le i) (fun a q => ⟨?_, rfl⟩) fun a q => ⟨by unfold unS; rw [q]; simp, rfl⟩
      unfold unS; rw [q]
      rw [if_neg (by intro z; injection z with z; injection z with z; exact hj z.symm)]
  · unfold unS at e
    split at e
    · cases e
    · exact R0.mu a l e
theorem froz_ok : ∀ {vs : List V} {rs : List R} {o : Own} {ρ ρ' : Env} {ds : List D}, Rep K c o σ H ρ τ → Paired (ElR K o H σ) vs rs → froz ρ rs = some (ds, ρ') →
    ∃ o', Le o H o' H ∧ Rep K c o' σ H ρ' τ ∧ Dats K o' H vs ds
  | _, _, o, ρ, _, _, R0, .nil, e => by simp [froz] at e; obtain ⟨rfl, rfl⟩ := e; exact ⟨o, .refl, R0, .nil⟩
  | _, r :: rs, o, ρ, _, _, R0, .cons a t, e => by
    unfold froz at e
    split at e
    · rename_i hh; cases hh
    · rename_i ρ0 d rs' hh
      cases hh
      split at e
      · rename_i ds' ρ1 e1
        cases e
        obtain ⟨o', L, R1, dd⟩ := froz_ok R0 t e1
        exact ⟨o', L, R1, .cons (Dat.mono L a) dd⟩
      · cases e
    · rename_i ρ0 es' rs' hh
      cases hh
      split at e
      · rename_i ds' ρ1 e1
        cases e
        obtain ⟨o', L, R1, dd⟩ := froz_ok R0 t e1
        exact ⟨o', L, R1, .cons (Dat.mono L (show Dat K o H _ (.lst es') from a)) dd⟩
      · cases e
    · rename_i ρ0 i rs' hh
      cases hh
      split at e
      · rename_i s hs
        split at e
        · rename_i es' hm
          split at e
          · rename_i ds' ρ1 e1
            cases e
            obtain ⟨v, hv, z⟩ := (R0.sl i s hs).ofS hm
            have hv2 : σ[i]? = some (some _) := a
            rw [hv2] at hv; cases hv
            have R1 := R0.unslot i
            have L1 : Le o H (unS i o) H := unS_le i
            obtain ⟨o', L, R2, dd⟩ := froz_ok R1 (Paired.mapP t fun _ _ q => q.mono L1) e1
            obtain ⟨ad, xs, rfl, ho, hH, dz⟩ := z
            refine ⟨o', L1.trans L, R2, .cons ?_ dd⟩
            refine Dat.mono L (.lst ?_ hH (dz.mono L1))
            unfold unS
            rw [ho]; simp
          · cases e
        · cases e
      · cases e
    · cases e
def tFrz (ta : TL) (f : List D → Env → Prop) : Env → Prop := fun ρ => ta ρ fun rs ρ1 => match froz ρ1 rs with
  | some (ds, ρ2) => f ds ρ2
  | none => False
def tTp (ta : TL) : TX := fun ρ Q => tFrz ta (fun ds ρ2 => ds.length ≤ sizeLine ∧ Q (.im (.tup ds)) ρ2) ρ
def tLs (ta : TL) : TX := fun ρ Q => tFrz ta (fun ds ρ2 => ds.length ≤ sizeLine ∧ Q (.tm (.ls ds)) ρ2) ρ
theorem tFrz_of {ta : TL} {f : List D → Env → Prop} {k : List V → Hp → Prop} (R0 : Rep K c o σ H ρ τ) (h : tFrz ta f ρ)
    (q : ∀ vs H' o' ds ρ', Le o H o' H' → Rep K c o' σ H' ρ' τ → Dats K o' H' vs ds → f ds ρ' → k vs H') : TAo K c ta σ H k := by
  refine ⟨o, ρ, τ, _, R0, h, fun vs H1 o1 rs ρ1 τ1 L1 R1 z1 h1 => ?_⟩
  split at h1
  · rename_i ds ρ2 e
    have R2 := R1.drop z1.pre
    have els := z1.els (ρ0 := ρ1) (base := τ.length) (Nat.le_refl _) (fun j v m e => (R1.tm j v m e).1)
    obtain ⟨o', L, R3, dd⟩ := froz_ok R2 els e
    exact q vs H1 o' ds ρ2 (L1.trans ((dropT_le _).trans L)) R3 dd h1
  · exact h1.elim
theorem de_tup {x1} {ta : TL} (h : DA X c es ta) : DE X c (.Tuple es x1 pos) (tTp ta) := peImp (pe_tup h) fun σ H k h => by
  obtain ⟨o, ρ, τ, Q, R0, h, q⟩ := h
  refine tFrz_of R0 h fun vs H1 o1 ds ρ1 L1 R1 dd h1 => ?_
  refine ⟨by rw [dd.length]; exact h1.1, fun p hp => ?_⟩
  exact q _ _ o1 (.im (.tup ds)) ρ1 τ (L1.trans ((Grow.new hp).le R1.mu)) (R1.grow (.new hp)) ⟨rfl, newTup R1.mu hp dd⟩ h1.2
theorem de_lst {ta : TL} (h : DA X c es ta) : DE X c (.List es pos) (tLs ta) := peImp (pe_lst h) fun σ H k h => by
  obtain ⟨o, ρ, τ, Q, R0, h, q⟩ := h
  refine tFrz_of R0 h fun vs H1 o1 ds ρ1 L1 R1 dd h1 => ?_
  refine ⟨by rw [dd.length]; exact h1.1, fun p hp => ?_⟩
  obtain ⟨o', τ', L, R', z⟩ := R1.made (m := .ls ds) List.prefix_rfl (.new hp) ⟨p, vs, rfl, hp, rfl, dd⟩
  exact q _ _ o' _ ρ1 τ' (L1.trans L) R' z h1.2

/-! ### subscripts -/
def atD {α : Type} (xs : List α) (i : Int) : Option α := atI xs i
theorem atI_D {vs : List V} {ds : List D} {i : Int} {d : D} (h : Dats K o H vs ds) (e : atI ds i = some d) : ∃ v, atI vs i = some v ∧ Dat K o H v d := by
  unfold atI at e ⊢
  rw [h.length]
  cases q : ixN ds.length i with
  | none => rw [q] at e; cases e
  | some j => rw [q] at e; exact h.get e
def gIx : G2 := fun m n G => match m, n with
  | .dk kvs, .im d => match dGet (.dk kvs) d with
    | some (some r) => G (.im r)
    | _ => False
  | .dt kvs, .im d => match dGet (.dt kvs) d with
    | some (some r) => G (.im r)
    | _ => False
  | .im (.tup ds), .im (.int i) => match atI ds i with
    | some d => G (.im d)
    | none => False
  | .im (.str x), .im (.int i) => x.length ≤ sizeLine ∧ match atI x.cps.toList i with
    | some ch => G (.im (.str ⟨#[ch]⟩))
    | none => False
  | m, .im (.int i) => match m.lq? with
    | some ds => match atI ds i with
      | some d => G (.im d)
      | none => False
    | none => False
  | _, _ => False
def rDgt : R2 := fun x y H Q => ∃ a v, x = .ref a ∧ DGet H a y (some v) ∧ Q v H
theorem ix_dict (hu : X.A.units + 1 < cLine) : IxR X rDgt := by
  rintro value slice pins s σ H _ y _ u Q I rx ry ⟨a, w, rfl, g, q⟩ hs
  obtain rfl := rx
  exact PyProof.Rows.tail_any (dict_typeIs I g) PySem.F.slot_dict_getitem.lookup (d_getItem hu I g ry fun w' s3 I3 rw' => ⟨w, H, I3, rw', q⟩) hs
theorem RelD.get {w : Option V} {d : D} (h : RelD K o H w (some d)) : ∃ v, w = some v ∧ Dat K o H v d := by
  cases w with
  | none => exact h.elim
  | some v => exact ⟨v, rfl, h⟩
theorem ix_ok (hu : X.A.units + 1 < cLine) : IxR X (rOp X.K gIx) := by
  have B := (ix_dict hu).or (ix_list.or (ix_tup.or ix_str))
  refine fun value slice pins s σ H x y v u Q I rx ry h hs => B value slice pins s σ H x y v u Q I rx ry ?_ hs
  obtain ⟨o, m1, m2, G, mu, v1, v2, h, q⟩ := h
  unfold gIx at h
  split at h
  · split at h
    · rename_i r e
      obtain ⟨l, g⟩ := v2
      obtain ⟨a, w, rfl, z, rd⟩ := dGet_ok v1 g e
      obtain ⟨w', rfl, dw⟩ := rd.get
      exact .inl ⟨a, w', rfl, z, qim q dw h⟩
    · exact h.elim
  · split at h
    · rename_i r e
      obtain ⟨l, g⟩ := v2
      obtain ⟨a, w, rfl, z, rd⟩ := dGet_ok v1 g e
      obtain ⟨w', rfl, dw⟩ := rd.get
      exact .inl ⟨a, w', rfl, z, qim q dw h⟩
    · exact h.elim
  · split at h
    · rename_i d e
      obtain ⟨a, xs, rfl, ht, dd⟩ := v1.tup
      obtain ⟨w, ew, dw⟩ := atI_D dd e
      exact .inr (.inr (.inl ⟨a, xs, _, w, rfl, v2.int, ht.sq, ew, qim q dw h⟩))
    · exact h.elim
  · obtain ⟨h0, h⟩ := h
    split at h
    · rename_i d e
      exact .inr (.inr (.inr ⟨_, _, _, v1.str, v2.int, h0, e, qim q (.str _) h⟩))
    · exact h.elim
  · split at h
    · rename_i ds el
      split at h
      · rename_i d e
        obtain ⟨a, xs, rfl, ht, dd⟩ := v1.lq el
        obtain ⟨w, ew, dw⟩ := atI_D dd e
        exact .inr (.inl ⟨a, xs, _, w, rfl, v2.int, ht, ew, qim q dw h⟩)
      · exact h.elim
    · exact h.elim
  · exact h.elim
theorem de_ix (hu : X.A.units + 1 < cLine) (ha : DE X c a ta) (hb : DE X c b tb) (hs : PlainIx b := by intro _ _; rfl) : DE X c (.Subscript a b pos) (tBin gIx ta tb) :=
  peImp (pe_ix (ix_ok hu) ha hb hs) fun _ _ _ h => tBin_of h

/-! ### slices -/
abbrev TP' := Env → (Option Int → Env → Prop) → Prop
def TOo (K : PySem.W.Frag) (c : Cc) (t : TP') : TO := fun σ H k => ∃ o ρ τ Q, Rep K c o σ H ρ τ ∧ t ρ Q ∧ ∀ i H' o' ρ', Le o H o' H' → Rep K c o' σ H' ρ' τ → Q i ρ' → k i H'
def DO (X : Cx) (c : Cc) (e : Option Expr) (t : TP') : Prop := PO X e (TOo X.K c t)
theorem poImp {e : Option Expr} {t t' : TO} (h : PO X e t) (f : ∀ σ H k, t' σ H k → t σ H k) : PO X e t' := ⟨fun pins s σ H Q I q => h.run pins s σ H Q I (f _ _ _ q)⟩
def pNo : TP' := fun ρ Q => Q none ρ
def pSo (t : TX) : TP' := fun ρ Q => t ρ fun r ρ1 => match r with
  | .im (.int i) => Q (some i) ρ1
  | _ => False
theorem do_no : DO X c none pNo := poImp po_none fun σ H k ⟨o, ρ, τ, Q, R0, h, q⟩ => q none H o ρ .refl R0 h
theorem do_so (h : DE X c e t) : DO X c (some e) (pSo t) := poImp (po_some h) fun σ H k h => by
  obtain ⟨o, ρ, τ, Q, R0, h, q⟩ := h
  refine ⟨o, ρ, τ, _, R0, h, fun v1 H1 o1 r1 ρ1 τ1 L1 R1 z1 h1 => ?_⟩
  split at h1
  · obtain ⟨rfl, z⟩ := z1
    cases z
    exact ⟨_, rfl, q _ H1 o1 ρ1 L1 R1 h1⟩
  · exact h1.elim
def cutD {α : Type} (xs : List α) (lo hi : Option Int) : List α := (xs.drop (HT.sIx xs.length 0 lo)).take (HT.sIx xs.length xs.length hi - HT.sIx xs.length 0 lo)
theorem Dats.cut {vs : List V} {ds : List D} (h : Dats K o H vs ds) (lo hi : Option Int) : Dats K o H (cutV vs lo hi) (cutD ds lo hi) := by
  unfold cutV cutD
  rw [h.length]
  exact (h.drop _).take _
abbrev G3 := M → Option Int → Option Int → (M → Prop) → Prop
def gSl : G3 := fun m lo hi G => match m with
  | .im (.tup ds) => G (.im (.tup (cutD ds lo hi)))
  | .im (.str x) => x.length ≤ sizeLine ∧ G (.im (.str (Txt.slice x lo hi)))
  | m => match m.lq? with
    | some ds => G (.ls (cutD ds lo hi))
    | none => False
def rSlO (K : PySem.W.Frag) (g : G3) : V → Option Int → Option Int → Hp → VK → Prop := fun x lo hi H k => ∃ o m G, (∀ a l, o a = some l → Mut (H a)) ∧ Vw K o H x m ∧ g m lo hi G ∧ ∀ v H' m', Grow H H' → NewM K o H H' v m' → G m' → k v H'
theorem cut_whole {α : Type} {xs : List α} {lo hi : Option Int} (h : HT.sIx xs.length 0 lo = 0 ∧ HT.sIx xs.length xs.length hi = xs.length) : cutD xs lo hi = xs := by
  unfold cutD
  rw [h.1, h.2]
  simp
theorem sl_ok : SlR X (rSlO X.K gSl) := by
  have B := (sl_tupA (X := X)).or (sl_list.or C8.sl_txt)
  intro pins s σ H x v vl vu lo hi sl Q I rx hs pl pu h
  refine B pins s σ H x v vl vu lo hi sl Q I rx hs pl pu ?_
  obtain ⟨o, m, G, mu, v1, h, q⟩ := h
  unfold gSl at h
  split at h
  · rename_i ds
    obtain ⟨a, xs, rfl, ht, dd⟩ := v1.tup
    refine .inl ⟨a, xs, rfl, ht.sq, fun w => ?_, fun _ p hp => ?_⟩
    · refine qim q (d := .tup ds) (.tup ht dd) ?_
      rw [dd.length] at w
      rwa [cut_whole w] at h
    · exact q _ _ (.im (.tup (cutD ds lo hi))) (.new hp) (newTup mu hp (dd.cut lo hi)) h
  · exact .inr (.inr ⟨_, v1.str, h.1, qim q (.str _) h.2⟩)
  · split at h
    · rename_i ds e
      obtain ⟨a, xs, rfl, ht, dd⟩ := v1.lq e
      exact .inr (.inl ⟨a, xs, rfl, ht, fun p hp => q _ _ (.ls (cutD ds lo hi)) (.new hp) ⟨p, _, rfl, hp, rfl, dd.cut lo hi⟩ h⟩)
    · exact h.elim
def tSlc (t : TX) (tl th : TP') : TX := fun ρ Q => t ρ fun r ρ1 => tl ρ1 fun lo ρ2 => th ρ2 fun hi ρ3 => match vw ρ3 r with
  | some m => gSl m lo hi fun m' => Q m'.res ρ3
  | none => False
theorem de_slice {lo hi : Option Expr} {tl th : TP'} {p2 : Pos} (h : DE X c e t) (hl : DO X c lo tl) (hh : DO X c hi th) : DE X c (.Subscript e (.Slice lo hi none p2) pos) (tSlc t tl th) :=
  peImp (pe_slice sl_ok h hl hh) fun σ H k h => by
    obtain ⟨o, ρ, τ, Q, R0, h, q⟩ := h
    refine ⟨o, ρ, τ, _, R0, h, fun v1 H1 o1 r1 ρ1 τ1 L1 R1 z1 h1 => ?_⟩
    refine ⟨o1, ρ1, τ1, _, R1, h1, fun i H2 o2 ρ2 L2 R2 h2 => ?_⟩
    refine ⟨o2, ρ2, τ1, _, R2, h2, fun j H3 o3 ρ3 L3 R3 h3 => ?_⟩
    split at h3
    · rename_i m e
      have y1 := R3.vw_ok (z1.mono (L2.trans L3)) List.prefix_rfl e
      refine ⟨o3, m, _, R3.mu, y1, h3, fun v H' m' g nm hm => ?_⟩
      obtain ⟨o', τ', L, R', z⟩ := R3.made z1.pre g nm
      exact q v H' o' _ ρ3 τ' (L1.trans (L2.trans (L3.trans L))) R' z hm
    · exact h3.elim

/-! ### calls of built-ins -/
def vws (ρ : Env) : List R → Option (List M)
  | [] => some []
  | r :: rs => match vw ρ r, vws ρ rs with
    | some m, some ms => some (m :: ms)
    | _, _ => none
theorem RelRs.vws (R0 : Rep K c o σ H ρ τ) : ∀ {vs rs τ0 τ1 ms}, RelRs K o H σ vs rs τ0 τ1 → τ1 <+: τ → Y.vws ρ rs = some ms → Paired (Vw K o H) vs ms
  | _, _, _, _, _, .nil, _, e => by simp [Y.vws] at e; subst e; exact .nil
  | _, _, _, _, _, .cons a t, p, e => by
    unfold Y.vws at e
    split at e
    · rename_i m ms e1 e2
      cases e
      exact .cons (R0.vw_ok a (t.pre.trans p) e1) (RelRs.vws R0 t p e2)
    · cases e
abbrev GC := List M → (M → Prop) → Prop
def rCl (K : PySem.W.Frag) (g : GC) : List V → Hp → VK → Prop := fun vs H k => ∃ o ms G, (∀ a l, o a = some l → Mut (H a)) ∧ Paired (Vw K o H) vs ms ∧ g ms G ∧ ∀ v H' m, Grow H H' → NewM K o H H' v m → G m → k v H'
def tCl (g : GC) (ta : TL) : TX := fun ρ Q => ta ρ fun rs ρ1 => match vws ρ1 rs with
  | some ms => g ms fun m => Q m.res ρ1
  | none => False
def CallG (X : Cx) (f : Value) (g : GC) : Prop := CallR X f (rCl X.K g)
theorem callG {f : Value} {g : GC} {r : List V → Hp → VK → Prop} (h : CallR X f r) (i : ∀ vs H k, rCl X.K g vs H k → r vs H k) : CallG X f g := fun pins s σ H xs us Q I rs q => h pins s σ H xs us Q I rs (i _ _ _ q)
theorem tCl_of {g : GC} {ta : TL} {k : VK} (h : TEo K c (tCl g ta) σ H k) : tCB (rCl K g) (TAo K c ta) σ H k := by
  obtain ⟨o, ρ, τ, Q, R0, h, q⟩ := h
  refine ⟨o, ρ, τ, _, R0, h, fun vs H1 o1 rs ρ1 τ1 L1 R1 z1 h1 => ?_⟩
  split at h1
  · rename_i ms e
    refine ⟨o1, ms, _, R1.mu, RelRs.vws R1 z1 List.prefix_rfl e, h1, fun v H' m g nm hm => ?_⟩
    obtain ⟨o', τ', L, R', z⟩ := R1.made z1.pre g nm
    exact q v H' o' _ ρ1 τ' (L1.trans L) R' z hm
  · exact h1.elim
section
variable {x : Str} {p : Pos} {id T : String} {g : GC} {tl : TL}
theorem de_callB (hc : CallG X (.builtin id) g) (hg : Gl X x) (hm : X.mg x = none) (hv : bootBuiltins x = some (.builtin id)) (ha : DA X c (e :: es) tl) (hn : x ≠ "__name__" := by decide) (hdb : (x == ("__debug__" : Str)) = false := by decide)
    (he : starEach (e :: es) X.env = (false, eval e X.env) :: starEach es X.env := by rfl) (hpl : (backTo pos (starEach es X.env)).any (·.1) = false := by rfl) : DE X c (.Call (.Name x p) (e :: es) [] pos) (tCl g tl) :=
  peImp (pe_callB hc hg hm hv ha hn hdb he hpl) fun _ _ _ h => tCl_of h
theorem de_callT (hc : CallG X (.type T) g) (hg : Gl X x) (hm : X.mg x = none) (hv : bootBuiltins x = some (.type T)) (ha : DA X c (e :: es) tl) (hn : x ≠ "__name__" := by decide) (hdb : (x == ("__debug__" : Str)) = false := by decide)
    (he : starEach (e :: es) X.env = (false, eval e X.env) :: starEach es X.env := by rfl) (hpl : (backTo pos (starEach es X.env)).any (·.1) = false := by rfl) : DE X c (.Call (.Name x p) (e :: es) [] pos) (tCl g tl) :=
  peImp (pe_callTy hc hg hm hv ha hn hdb he hpl) fun _ _ _ h => tCl_of h
end
theorem pv1 {vs : List V} {m : M} (h : Paired (Vw K o H) vs [m]) : ∃ v, vs = [v] ∧ Vw K o H v m := by
  cases h with | cons a t => cases t; exact ⟨_, rfl, a⟩
theorem pv2 {vs : List V} {m n : M} (h : Paired (Vw K o H) vs [m, n]) : ∃ v w, vs = [v, w] ∧ Vw K o H v m ∧ Vw K o H w n := by
  cases h with | cons a t => cases t with | cons b t => cases t; exact ⟨_, _, rfl, a, b⟩

/-- len -/
def gLen : GC := fun ms G => match ms with
  | [.im (.tup ds)] => G (.im (.int ds.length))
  | [.im (.str x)] => x.length ≤ sizeLine ∧ G (.im (.int x.length))
  | [.dk kvs] => G (.im (.int kvs.length))
  | [m] => match m.lq? with
    | some ds => G (.im (.int ds.length))
    | none => False
  | _ => False
theorem len_ok : CallG X (.builtin "len") gLen := by
  refine callG (call_len_seq.or (call_len_str.or call_lenD)) fun vs H k h => ?_
  obtain ⟨o, ms, G, mu, v1, h, q⟩ := h
  unfold gLen at h
  split at h
  · obtain ⟨v, rfl, w1⟩ := pv1 v1
    obtain ⟨a, xs, rfl, ht, dd⟩ := w1.tup
    exact .inl ⟨a, xs, rfl, .inr ht.sq, qim q (.int _) (by rw [dd.length]; exact h)⟩
  · obtain ⟨v, rfl, w1⟩ := pv1 v1
    exact .inr (.inl ⟨_, by rw [w1.str], h.1, qim q (.int _) h.2⟩)
  · obtain ⟨v, rfl, w1⟩ := pv1 v1
    obtain ⟨l, a, ks, rfl, _, ha, kv⟩ := w1
    exact .inr (.inr ⟨a, ks, rfl, ha, qim q (.int _) (by rw [kv.length]; exact h)⟩)
  · obtain ⟨v, rfl, w1⟩ := pv1 v1
    split at h
    · rename_i ds e
      obtain ⟨a, xs, rfl, ht, dd⟩ := w1.lq e
      exact .inl ⟨a, xs, rfl, .inl ht, qim q (.int _) (by rw [dd.length]; exact h)⟩
    · exact h.elim
  · exact h.elim
/-- int(n), abs(n) -/
def gInt : GC := fun ms G => match ms with
  | [.im (.int i)] => G (.im (.int i))
  | [.im (.bl b)] => G (.im (.int (if b then 1 else 0)))
  | _ => False
theorem int_ok : CallG X (.type "int") gInt := by
  refine callG call_int1 fun vs H k h => ?_
  obtain ⟨o, ms, G, mu, v1, h, q⟩ := h
  unfold gInt at h
  split at h
  · obtain ⟨v, rfl, w1⟩ := pv1 v1
    exact .inl ⟨_, by rw [w1.int], qim q (.int _) h⟩
  · obtain ⟨v, rfl, w1⟩ := pv1 v1
    exact .inr ⟨_, by rw [w1.bl], qim q (.int _) h⟩
  · exact h.elim
def gAbs : GC := fun ms G => match ms with
  | [.im (.int i)] => G (.im (.int (if i < 0 then -i else i)))
  | _ => False
theorem abs_ok : CallG X (.builtin "abs") gAbs := by
  refine callG call_abs fun vs H k h => ?_
  obtain ⟨o, ms, G, mu, v1, h, q⟩ := h
  unfold gAbs at h
  split at h
  · obtain ⟨v, rfl, w1⟩ := pv1 v1
    exact ⟨_, by rw [w1.int], qim q (.int _) h⟩
  · exact h.elim
/-- list(x), tuple(x) -/
def M.sq? : M → Option (List D)
  | .im (.tup ds) => some ds
  | m => m.lq?
def gList : GC := fun ms G => match ms with
  | [m] => match m.sq? with
    | some ds => G (.ls ds)
    | none => False
  | _ => False
theorem Vw.sq {v : V} {m : M} {ds : List D} (h : Vw K o H v m) (e : m.sq? = some ds) : ∃ a xs, v = .ref a ∧ (SqL K H a xs ∨ SqT K H a xs) ∧ Dats K o H xs ds := by
  unfold M.sq? at e
  split at e
  · cases e
    obtain ⟨a, xs, rfl, ht, dd⟩ := h.tup
    exact ⟨a, xs, rfl, .inr ht.sq, dd⟩
  · obtain ⟨a, xs, rfl, ht, dd⟩ := h.lq e
    exact ⟨a, xs, rfl, .inl ht, dd⟩
theorem list_ok : CallG X (.type "list") gList := by
  refine callG call_list_of fun vs H k h => ?_
  obtain ⟨o, ms, G, mu, v1, h, q⟩ := h
  unfold gList at h
  split at h
  · obtain ⟨v, rfl, w1⟩ := pv1 v1
    split at h
    · rename_i ds e
      obtain ⟨a, xs, rfl, ht, dd⟩ := w1.sq e
      exact ⟨a, xs, rfl, ht, fun l hl => q _ _ (.ls ds) (.new hl) ⟨l, xs, rfl, hl, rfl, dd⟩ h⟩
    · exact h.elim
  · exact h.elim
def gTuple : GC := fun ms G => match ms with
  | [m] => match m.sq? with
    | some ds => G (.im (.tup ds))
    | none => False
  | _ => False
theorem tuple_ok : CallG X (.type "tuple") gTuple := by
  refine callG call_tuple_of fun vs H k h => ?_
  obtain ⟨o, ms, G, mu, v1, h, q⟩ := h
  unfold gTuple at h
  split at h
  · obtain ⟨v, rfl, w1⟩ := pv1 v1
    split at h
    · rename_i ds e
      unfold M.sq? at e
      split at e
      · cases e
        obtain ⟨a, xs, rfl, ht, dd⟩ := w1.tup
        exact ⟨a, xs, rfl, .inr ⟨ht.sq, qim q (.tup ht dd) h⟩⟩
      · obtain ⟨a, xs, rfl, ht, dd⟩ := w1.lq e
        exact ⟨a, xs, rfl, .inl ⟨ht, fun l hl => q _ _ (.im (.tup ds)) (.new hl) (newTup mu hl dd) h⟩⟩
    · exact h.elim
  · exact h.elim
/-- all, any -/
def D.bls? : List D → Option (List Bool)
  | [] => some []
  | .bl b :: ds => (D.bls? ds).map (b :: ·)
  | _ => none
theorem D.bls_eq : ∀ {ds : List D} {bs : List Bool}, D.bls? ds = some bs → ds = bs.map D.bl
  | [], _, e => by cases e; rfl
  | d :: ds, bs, e => by
    unfold D.bls? at e
    split at e
    · rename_i hh; cases hh
    · rename_i b ds' hh
      cases hh
      cases q : D.bls? ds with
      | none => rw [q] at e; cases e
      | some cs => rw [q] at e; cases e; rw [D.bls_eq q]; rfl
    · cases e
theorem D.bls_map : ∀ bs : List Bool, D.bls? (bs.map D.bl) = some bs
  | [] => rfl
  | b :: bs => by simp only [List.map_cons, D.bls?]; rw [D.bls_map bs]; rfl
def gAll (f : List Bool → Bool) : GC := fun ms G => match ms with
  | [m] => match m.lq? with
    | some ds => match D.bls? ds with
      | some bs => G (.im (.bl (f bs)))
      | none => False
    | none => False
  | _ => False
theorem all_ok (hc : X.calm = true) : CallG X (.builtin "all") (gAll fun bs => bs.all id) := by
  refine callG (cr_all hc) fun vs H k h => ?_
  obtain ⟨o, ms, G, mu, v1, h, q⟩ := h
  unfold gAll at h
  split at h
  · obtain ⟨v, rfl, w1⟩ := pv1 v1
    split at h
    · rename_i ds e
      split at h
      · rename_i bs eb
        obtain ⟨a, xs, rfl, ht, dd⟩ := w1.lq e
        have e2 := D.bls_eq eb
        subst e2
        have e3 := dd.bls
        subst e3
        exact ⟨a, bs, rfl, ht, qim q (.bl _) h⟩
      · exact h.elim
    · exact h.elim
  · exact h.elim
theorem any_ok (hc : X.calm = true) : CallG X (.builtin "any") (gAll fun bs => bs.any id) := by
  refine callG (cr_any hc) fun vs H k h => ?_
  obtain ⟨o, ms, G, mu, v1, h, q⟩ := h
  unfold gAll at h
  split at h
  · obtain ⟨v, rfl, w1⟩ := pv1 v1
    split at h
    · rename_i ds e
      split at h
      · rename_i bs eb
        obtain ⟨a, xs, rfl, ht, dd⟩ := w1.lq e
        have e2 := D.bls_eq eb
        subst e2
        have e3 := dd.bls
        subst e3
        exact ⟨a, bs, rfl, ht, qim q (.bl _) h⟩
      · exact h.elim
    · exact h.elim
  · exact h.elim
/-- isinstance(x, T), T a built-in class -/
def tyNames : List String := ["NoneType", "bool", "int", "str", "tuple", "list", "dict"]
def isiT (a b : String) : Bool := a == b || (a == "bool" && b == "int")
theorem isi_kit : ∀ a ∈ tyNames, ∀ b ∈ ["bool", "int", "str", "tuple", "list", "dict"], kitB a b = some (isiT a b) := by decide +kernel
def M.ty : M → Option String
  | .im .non => some "NoneType"
  | .im (.bl _) => some "bool"
  | .im (.int _) => some "int"
  | .im (.str _) => some "str"
  | .im (.tup _) => some "tuple"
  | .im (.lst _) => some "list"
  | .ls _ => some "list"
  | .rd _ => some "list"
  | .dk _ => some "dict"
  | .dt _ => some "dict"
  | _ => none
theorem Vw.ty {v : V} {m : M} {n : String} (h : Vw K o H v m) (e : m.ty = some n) : TyX K H v (.type n) ∧ n ∈ tyNames := by
  cases m with
  | im d =>
    cases d with
    | non => cases e; rw [h.non]; exact ⟨.base .non, by decide⟩
    | bl z => cases e; rw [h.bl]; exact ⟨.base (.bl _), by decide⟩
    | int z => cases e; rw [h.int]; exact ⟨.base (.int _), by decide⟩
    | str z => cases e; rw [h.str]; exact ⟨.base (.str _), by decide⟩
    | raw _ => cases e
    | tup ds => cases e; obtain ⟨a, xs, rfl, ht, _⟩ := h.tup; exact ⟨.base (.tup ht.2), by decide⟩
    | lst ds => cases e; obtain ⟨a, xs, rfl, ht, _⟩ := h.lst rfl; exact ⟨.base (.lst ht), by decide⟩
  | ls ds => cases e; obtain ⟨a, xs, rfl, ht, _⟩ := h.lst rfl; exact ⟨.base (.lst ht), by decide⟩
  | sq ds => cases e
  | rd ds => cases e; obtain ⟨a, xs, rfl, ht, _⟩ := h.lst rfl; exact ⟨.base (.lst ht), by decide⟩
  | dk kvs => cases e; obtain ⟨l, a, ks, rfl, _, ha, _⟩ := h; exact ⟨.base (.dK ha), by decide⟩
  | dt kvs => cases e; obtain ⟨l, a, ks, rfl, _, ha, _⟩ := h; exact ⟨.base (.dT ha), by decide⟩
def gIsi : GC := fun ms G => match ms with
  | [m, .im (.raw (.ty n))] => match m.ty with
    | some a => n ∈ ["bool", "int", "str", "tuple", "list", "dict"] ∧ G (.im (.bl (isiT a n)))
    | none => False
  | _ => False
theorem isi_ok : CallG X (.builtin "isinstance") gIsi := by
  refine callG call_isi fun vs H k h => ?_
  obtain ⟨o, ms, G, mu, v1, h, q⟩ := h
  unfold gIsi at h
  split at h
  · obtain ⟨v, w, rfl, w1, w2⟩ := pv2 v1
    split at h
    · rename_i a e
      obtain ⟨t1, t2⟩ := w1.ty e
      obtain ⟨l, w2⟩ := w2
      cases (show Dat X.K o H w (.raw _) from w2)
      exact ⟨v, _, _, _, _, rfl, .ty _, t1, isi_kit a t2 _ h.1, qim q (.bl _) h.2⟩
    · exact h.elim
  · exact h.elim
end
end Y
namespace Y
open PySem PySem.Spec L2

/-! ### statements -/
structure EndP where
  nx : Env → Prop
  rt : M → Env → Prop
  bk : Env → Prop := fun _ => False
  ct : Env → Prop := fun _ => False
abbrev TSX := EndP → Env → Prop
/-- the way on: from a state that is wanted to what the statement is to reach -/
def Way (K : PySem.W.Frag) (c : Cc) (o : Own) (H : Hp) (f : Env → Prop) (g : St → Hp → Prop) : Prop :=
  ∀ σ' H' o' ρ', Le o H o' H' → Rep K c o' σ' H' ρ' [] → f ρ' → g σ' H'
def WayR (K : PySem.W.Frag) (c : Cc) (o : Own) (H : Hp) (f : M → Env → Prop) (g : VK) : Prop :=
  ∀ v σ' H' o' ρ' m, Le o H o' H' → Rep K c o' σ' H' ρ' [] → IsM K o' H' (.t 0) v m → f m ρ' → g v H'
structure Ways (K : PySem.W.Frag) (c : Cc) (o : Own) (H : Hp) (P : EndP) (D : Ends) : Prop where
  nx : Way K c o H P.nx D.nx
  rt : WayR K c o H P.rt D.rt
  bk : Way K c o H P.bk D.bk
  ct : Way K c o H P.ct D.ct
def TSo (K : PySem.W.Frag) (c : Cc) (t : TSX) : TS := fun D σ H => ∃ o ρ P, Rep K c o σ H ρ [] ∧ t P ρ ∧ Ways K c o H P D
def DS (X : Cx) (c : Cc) (st : Stmt) (t : TSX) : Prop := PS X st (TSo X.K c t)
def DSs (X : Cx) (c : Cc) (st : List Stmt) (t : TSX) : Prop := PSs X st (TSo X.K c t)
theorem psImp {X : Cx} {st : Stmt} {t t' : TS} (h : PS X st t) (f : ∀ D σ H, t' D σ H → t D σ H) : PS X st t' := ⟨fun pins s σ H D I q => h.run pins s σ H D I (f _ _ _ q)⟩
theorem pssImp {X : Cx} {st : List Stmt} {t t' : TS} (h : PSs X st t) (f : ∀ D σ H, t' D σ H → t D σ H) : PSs X st t' := ⟨fun pins s σ H D I q => h.run pins s σ H D I (f _ _ _ q)⟩

section
variable {K : PySem.W.Frag} {c : Cc} {o o' : Own} {σ σ' : St} {H H' : Hp} {ρ ρ' : Env} {τ τ' τ0 τ1 : List (V × M)} {X : Cx} {e a b : Expr} {es : List Expr} {pos : Pos} {t u : TX} {P : EndP} {D : Ends}
theorem Way.le {f : Env → Prop} {g : St → Hp → Prop} (w : Way K c o H f g) (L : Le o H o' H') : Way K c o' H' f g := fun σ2 H2 o2 ρ2 L2 R q => w σ2 H2 o2 ρ2 (L.trans L2) R q
theorem WayR.le {f : M → Env → Prop} {g : VK} (w : WayR K c o H f g) (L : Le o H o' H') : WayR K c o' H' f g := fun v σ2 H2 o2 ρ2 m L2 R i q => w v σ2 H2 o2 ρ2 m (L.trans L2) R i q
theorem Ways.le (w : Ways K c o H P D) (L : Le o H o' H') : Ways K c o' H' P D := ⟨w.nx.le L, w.rt.le L, w.bk.le L, w.ct.le L⟩
theorem Rep.forget (R0 : Rep K c o σ H ρ τ) : Rep K c o σ H ρ [] := ⟨R0.sl, fun j v m e => by simp at e, R0.mu, R0.le, R0.ln⟩

def sNil : TSX := fun P ρ => P.nx ρ
def sSeq (t u : TSX) : TSX := fun P ρ => t { P with nx := u P } ρ
theorem ds_nil : DSs X c [] sNil := pssImp pss_nil fun D σ H ⟨o, ρ, P, R0, h, w⟩ => w.nx σ H o ρ .refl R0 h
theorem ds_cons {s : Stmt} {ss : List Stmt} {t u : TSX} (h1 : DS X c s t) (h2 : DSs X c ss u) : DSs X c (s :: ss) (sSeq t u) :=
  pssImp (pss_cons h1 h2) fun D σ H ⟨o, ρ, P, R0, h, w⟩ =>
    ⟨o, ρ, _, R0, h, ⟨fun σ' H' o' ρ' L R q => ⟨o', ρ', P, R, q, w.le L⟩, w.rt, w.bk, w.ct⟩⟩
theorem ds_one {s : Stmt} {t : TSX} (h1 : DS X c s t) : DSs X c [s] t := pss_one h1
def sBk : TSX := fun P ρ => P.bk ρ
def sCt : TSX := fun P ρ => P.ct ρ
theorem ds_pass : DS X c (.Pass pos) sNil := psImp ps_pass fun D σ H ⟨o, ρ, P, R0, h, w⟩ => w.nx σ H o ρ .refl R0 h
theorem ds_break : DS X c (.Break pos) sBk := psImp ps_break fun D σ H ⟨o, ρ, P, R0, h, w⟩ => w.bk σ H o ρ .refl R0 h
theorem ds_continue : DS X c (.Continue pos) sCt := psImp ps_continue fun D σ H ⟨o, ρ, P, R0, h, w⟩ => w.ct σ H o ρ .refl R0 h
def sDrop (t : TX) : TSX := fun P ρ => t ρ fun _ ρ1 => P.nx ρ1
theorem ds_expr (h : DE X c e t) (hs : swapsWith e none pos.line X.env = pure false := by rfl) : DS X c (.Expr e pos) (sDrop t) :=
  psImp (ps_expr h hs) fun D σ H ⟨o, ρ, P, R0, h, w⟩ => ⟨o, ρ, [], _, R0, h, fun v H' o' r ρ' τ' L R z q => w.nx σ H' o' ρ' L R.forget q⟩
def sIf (q : TQ) (t u : TSX) : TSX := fun P ρ => q ρ fun b ρ1 => if b = true then t P ρ1 else u P ρ1
theorem ds_if {cond : Expr} {as bs : List Stmt} {q : TQ} {t u : TSX} (hc : DT X c cond q) (ha : DSs X c as t) (hb : DSs X c bs u) : DS X c (.If cond as bs pos) (sIf q t u) :=
  psImp (ps_if hc ha hb) fun D σ H ⟨o, ρ, P, R0, h, w⟩ => ⟨o, ρ, [], _, R0, h, fun b H' o' ρ' L R q => by
    cases b with
    | true => exact ⟨o', ρ', P, R, q, w.le L⟩
    | false => exact ⟨o', ρ', P, R, q, w.le L⟩⟩

/-! ### labels changed -/
def relL (l l' : Lb) (o : Own) : Own := fun a => if o a = some l then some l' else o a
theorem relL_le {l l' : Lb} (h : l ≠ .x) : Le o H (relL l l' o) H :=
  ⟨fun b u e f => ⟨by unfold relL; rw [e]; simp, f⟩, fun b e => ⟨by unfold relL; rw [e, if_neg (by intro z; cases z; exact h rfl)], rfl⟩⟩
theorem relL_other {l l' k : Lb} (h : k ≠ l) {a : Addr} (e : o a = some k) : relL l l' o a = some k := by
  unfold relL; rw [e, if_neg (by intro z; cases z; exact h rfl)]
theorem relL_same {l l' : Lb} {a : Addr} (e : o a = some l) : relL l l' o a = some l' := by unfold relL; rw [if_pos e]
theorem relL_mu {l l' : Lb} (mu : ∀ a l, o a = some l → Mut (H a)) : ∀ a k, relL l l' o a = some k → Mut (H a) := fun a k e => by
  unfold relL at e
  split at e
  · rename_i q; exact mu a _ q
  · exact mu a _ e
/-- a slot's object goes to another label; the slot is empty -/
theorem Rep.move (R0 : Rep K c o σ H ρ τ) (i : Nat) (l' : Lb) : Rep K c (relL (.s i) l' o) σ H (ρ.set i .no) τ := by
  have L : Le o H (relL (.s i) l' o) H := relL_le (by intro z; cases z)
  refine ⟨fun j s e => ?_, fun j v m e => ⟨(R0.tm j v m e).1.mono L fun a q => ⟨relL_other (by intro z; cases z) q, rfl⟩, (R0.tm j v m e).2⟩, relL_mu R0.mu, R0.le.trans L, by rw [List.length_set]; exact R0.ln⟩
  by_cases hj : i = j
  · subst hj
    by_cases hl : i < ρ.length
    · rw [List.getElem?_set_self hl] at e; cases e; exact trivial
    · rw [List.getElem?_eq_none (by simpa using hl)] at e; cases e
  · rw [List.getElem?_set_ne hj] at e
    exact (R0.sl j s e).mono L (fun a q => ⟨relL_other (by intro z; injection z with z; exact hj z.symm) q, rfl⟩) fun a q => ⟨relL_other (by intro z; cases z) q, rfl⟩
/-- the last temporary's object goes to a label of a slot -/
theorem Rep.takeT (R0 : Rep K c o σ H ρ (τ ++ [(v, m)])) (l' : Lb) : Rep K c (relL (.t τ.length) l' o) σ H ρ τ ∧ IsM K (relL (.t τ.length) l' o) H l' v m := by
  have L : Le o H (relL (.t τ.length) l' o) H := relL_le (by intro z; cases z)
  refine ⟨⟨fun j s e => (R0.sl j s e).mono L (fun a q => ⟨relL_other (by intro z; cases z) q, rfl⟩) fun a q => ⟨relL_other (by intro z; cases z) q, rfl⟩, fun j w m' e => ?_, relL_mu R0.mu, R0.le.trans L, R0.ln⟩, ?_⟩
  · have hj : j < τ.length := (List.getElem?_eq_some_iff.mp e).1
    have q := R0.tm j w m' (by rw [List.getElem?_append_left hj]; exact e)
    exact ⟨q.1.mono L fun a z => ⟨relL_other (by intro w; injection w with w; omega) z, rfl⟩, q.2⟩
  · exact (R0.tm τ.length v m (by simp)).1.mono L fun a z => ⟨relL_same z, rfl⟩
/-- a slot is set -/
theorem Rep.set (R0 : Rep K c o σ H ρ τ) {i : Nat} {v : V} {s : Sl} (h : SlOk K c o (σ.set i (some v)) H i s ∨ ¬ i < ρ.length) : Rep K c o (σ.set i (some v)) H (ρ.set i s) τ := by
  refine ⟨fun j s' e => ?_, R0.tm, R0.mu, R0.le, by rw [List.length_set, List.length_set]; exact R0.ln⟩
  by_cases hj : i = j
  · subst hj
    rcases h with h | h
    · by_cases hl : i < ρ.length
      · rw [List.getElem?_set_self hl] at e; cases e; exact h
      · rw [List.getElem?_eq_none (by simpa using hl)] at e; cases e
    · rw [List.getElem?_eq_none (by simpa using h)] at e; cases e
  · rw [List.getElem?_set_ne hj] at e
    have q := R0.sl j s' e
    have es : (σ.set i (some v))[j]? = σ[j]? := List.getElem?_set_ne hj
    cases s' with
    | no => exact trivial
    | lo m => obtain ⟨w, e1, z⟩ := q; exact ⟨w, by rw [es]; exact e1, z⟩
    | pa m => obtain ⟨w, e1, e2, z⟩ := q; exact ⟨w, by rw [es]; exact e1, e2, z⟩
    | hd p w m => obtain ⟨e1, e2, z⟩ := q; exact ⟨by rw [es]; exact e1, e2, z⟩
theorem set_at {i : Nat} {v w : V} (h : σ[i]? = some (some w)) : (σ.set i (some v))[i]? = some (some v) := by
  have hl : i < σ.length := (List.getElem?_eq_some_iff.mp h).1
  rw [List.getElem?_set_self hl]
/-- a slot that holds something stands within the frame's slots -/
theorem Rep.asg (R0 : Rep K c o σ H ρ τ) {i : Nat} {v : V} {m : M} (h : IsM K o H (.s i) v m) : Rep K c o (σ.set i (some v)) H (ρ.set i (.lo m)) τ := by
  refine R0.set ?_
  by_cases q : i < ρ.length
  · exact .inl ⟨v, by rw [List.getElem?_set_self (by rw [← R0.ln]; exact q)], h⟩
  · exact .inr q
/-- a name is given a value: data; a new object; another name's object, which that name loses -/
def asg (i : Nat) (r : R) (ρ : Env) (k : Env → Prop) : Prop := match r with
  | .im d => k (ρ.set i (.lo (.im d)))
  | .tm m => k (ρ.set i (.lo m))
  | .sl j => match ρ[j]? with
    | some (.lo (.sq ds)) => k (ρ.set i (.lo (.sq ds)))
    | some (.pa (.sq ds)) => k (ρ.set i (.lo (.sq ds)))
    | some (.lo m) => k ((ρ.set j .no).set i (.lo m))
    | some (.pa m) => k ((ρ.set j .no).set i (.lo m))
    | _ => False
theorem asg_ok (R0 : Rep K c o σ H ρ τ') {i : Nat} {v : V} {r : R} {f : Env → Prop} (z : RelR K o H σ v r τ τ') (h : asg i r ρ f) (q : ∀ o' ρ', Le o H o' H → Rep K c o' (σ.set i (some v)) H ρ' τ → f ρ' → D.nx (σ.set i (some v)) H) : D.nx (σ.set i (some v)) H := by
  unfold asg at h
  split at h
  · obtain ⟨rfl, z⟩ := z
    exact q o _ .refl (R0.asg (m := .im _) z) h
  · have z : τ' = τ ++ [(v, _)] := z
    subst z
    obtain ⟨R1, i1⟩ := R0.takeT (.s i)
    exact q _ _ (relL_le (by intro z; cases z)) (R1.asg i1) h
  · rename_i j
    obtain ⟨rfl, z⟩ := z
    split at h
    · rename_i ds e
      obtain ⟨w, e1, q1⟩ := R0.sl _ _ e
      rw [z] at e1; cases e1
      exact q o _ .refl (R0.asg (m := .sq ds) q1) h
    · rename_i ds e
      obtain ⟨w, e1, e2, q1⟩ := R0.sl _ _ e
      rw [z] at e1; cases e1
      exact q o _ .refl (R0.asg (m := .sq ds) q1) h
    · rename_i m _ e
      obtain ⟨w, e1, q1⟩ := R0.sl _ _ e
      rw [z] at e1; cases e1
      refine q _ _ (relL_le (l := .s j) (l' := .s i) (by intro z; cases z)) ((R0.move j (.s i)).asg (m := m) (q1.mono (relL_le (by intro z; cases z)) fun a y => ⟨relL_same y, rfl⟩)) h
    · rename_i m _ e
      obtain ⟨w, e1, e2, q1⟩ := R0.sl _ _ e
      rw [z] at e1; cases e1
      refine q _ _ (relL_le (l := .s j) (l' := .s i) (by intro z; cases z)) ((R0.move j (.s i)).asg (m := m) (q1.mono (relL_le (by intro z; cases z)) fun a y => ⟨relL_same y, rfl⟩)) h
    · exact h.elim
def sAsg (i : Nat) (t : TX) : TSX := fun P ρ => t ρ fun r ρ1 => asg i r ρ1 P.nx
theorem sAsg_of {i : Nat} {t : TX} (h : TSo K c (sAsg i t) D σ H) : tAsg (TEo K c t) (gName i) D σ H := by
  obtain ⟨o, ρ, P, R0, h, w⟩ := h
  refine ⟨o, ρ, [], _, R0, h, fun v H1 o1 r1 ρ1 τ1 L1 R1 z1 h1 => ?_⟩
  exact asg_ok R1 z1 h1 fun o' ρ' L R q => w.nx _ _ o' ρ' (L1.trans L) R q
theorem ds_set {i : Nat} {x : Str} {pos' : Pos} (hN : X.N.Nodup) (h : DE X c e t) (hi : X.N[i]? = some x := by rfl) (hx : Loc X.env.scope x := by first | exact Or.inl rfl | exact Or.inr rfl) (hs : swapsWith e (some (.Name x pos')) pos.line X.env = pure false := by rfl)
    (hf : X.fn x = true ∨ X.env.scope.names.lookup x = some .local := by first | exact .inl rfl | exact .inr rfl | assumption) : DS X c (.Assign [.Name x pos'] e pos) (sAsg i t) :=
  psImp (ps_set hN hi hx h hs hf) fun _ _ _ h => sAsg_of h
def sRet (t : TX) : TSX := fun P ρ => t ρ fun r ρ1 => match r with
  | .im d => P.rt (.im d) ρ1
  | .tm m => P.rt m ρ1
  | .sl j => match ρ1[j]? with
    | some (.lo m) => P.rt m (ρ1.set j .no)
    | some (.pa m) => P.rt m (ρ1.set j .no)
    | _ => False
theorem ds_ret (h : DE X c e t) : DS X c (.Return (some e) pos) (sRet t) := psImp (ps_ret h) fun D σ H h => by
  obtain ⟨o, ρ, P, R0, h, w⟩ := h
  refine ⟨o, ρ, [], _, R0, h, fun v H1 o1 r1 ρ1 τ1 L1 R1 z1 h1 => ?_⟩
  split at h1
  · obtain ⟨rfl, z⟩ := z1
    exact w.rt v σ H1 o1 ρ1 (.im _) L1 R1 z h1
  · rename_i m
    have z : τ1 = [] ++ [(v, m)] := z1
    subst z
    exact w.rt v σ H1 o1 ρ1 m L1 R1.forget (R1.tm 0 v m rfl).1 h1
  · rename_i j
    obtain ⟨rfl, z⟩ := z1
    split at h1
    · rename_i m e
      obtain ⟨w', e1, q1⟩ := R1.sl _ _ e
      rw [z] at e1; cases e1
      exact w.rt v σ H1 _ _ m (L1.trans (relL_le (l := .s j) (l' := .t 0) (by intro z; cases z))) (R1.move j (.t 0)) (q1.mono (relL_le (by intro z; cases z)) fun a y => ⟨relL_same y, rfl⟩) h1
    · rename_i m e
      obtain ⟨w', e1, e2, q1⟩ := R1.sl _ _ e
      rw [z] at e1; cases e1
      exact w.rt v σ H1 _ _ m (L1.trans (relL_le (l := .s j) (l' := .t 0) (by intro z; cases z))) (R1.move j (.t 0)) (q1.mono (relL_le (by intro z; cases z)) fun a y => ⟨relL_same y, rfl⟩) h1
    · exact h1.elim
def sRetN : TSX := fun P ρ => P.rt (.im .non) ρ
theorem ds_retN : DS X c (.Return none pos) sRetN := psImp ps_retN fun D σ H ⟨o, ρ, P, R0, h, w⟩ => w.rt .non σ H o ρ (.im .non) .refl R0 .non h
end
end Y
namespace Y
open PySem PySem.Spec L2

section
variable {K : PySem.W.Frag} {c : Cc} {o o' : Own} {σ σ' : St} {H H' : Hp} {ρ ρ' : Env} {τ τ' τ0 τ1 : List (V × M)} {X : Cx} {e a b : Expr} {es : List Expr} {pos : Pos} {t u : TX} {P : EndP} {D' : Ends}
/-! ### a slot's object is changed -/
def Sl.up : Sl → M → Sl
  | .pa _, m => .pa m
  | _, m => .lo m
/-- what a slot owns -/
def Sl.m! : Sl → Option M
  | .lo m => some m
  | .pa m => some m
  | _ => none
theorem SlOk.of! {i : Nat} {s : Sl} {m : M} (h : SlOk K c o σ H i s) (e : s.m! = some m) : ∃ v, σ[i]? = some (some v) ∧ IsM K o H (.s i) v m := by
  cases s with
  | no => cases e
  | lo z => cases e; exact h
  | pa z => cases e; obtain ⟨v, a, _, q⟩ := h; exact ⟨v, a, q⟩
  | hd p v z => cases e
theorem Rep.mut1 (R0 : Rep K c o σ H ρ τ) {i : Nat} {s : Sl} {m0 m : M} {a : Addr} {u : HO} (e : ρ[i]? = some s) (hs : s.m! = some m0) (hv : σ[i]? = some (some (.ref a))) (ho : o a = some (.s i)) (hu : Mut (some u))
    (h : IsM K o (upd H a u) (.s i) (.ref a) m) : Rep K c o σ (upd H a u) (ρ.set i (s.up m)) τ ∧ Le o H o (upd H a u) := by
  have ne : ∀ b l, o b = some l → l ≠ .s i → b ≠ a := fun b l q z w => by subst w; rw [ho] at q; cases q; exact z rfl
  have L : Le o H o (upd H a u) := ⟨fun b w q f => ⟨q, by rw [upd_ne (fun z => by subst z; rw [ho] at q; cases q)]; exact f⟩, fun b q => ⟨q, upd_ne (ne b _ q (by intro z; cases z))⟩⟩
  have kp : ∀ l, l ≠ .s i → ∀ b, o b = some l → o b = some l ∧ upd H a u b = H b := fun l z b q => ⟨q, upd_ne (ne b l q z)⟩
  refine ⟨⟨fun j s' q => ?_, fun j v m' q => ⟨(R0.tm j v m' q).1.mono L (kp _ (by intro z; cases z)), (R0.tm j v m' q).2⟩, fun b l q => ?_, R0.le.trans L, by rw [List.length_set]; exact R0.ln⟩, L⟩
  · by_cases hj : i = j
    · subst hj
      have hl : i < ρ.length := (List.getElem?_eq_some_iff.mp e).1
      rw [List.getElem?_set_self hl] at q; cases q
      have k := R0.sl i s e
      cases s with
      | no => cases hs
      | lo z => exact ⟨_, hv, h⟩
      | pa z => obtain ⟨v, a1, a2, _⟩ := k; rw [hv] at a1; cases a1; exact ⟨_, hv, a2, h⟩
      | hd p v z => cases hs
    · rw [List.getElem?_set_ne hj] at q
      exact (R0.sl j s' q).mono L (kp _ (by intro z; injection z with z; exact hj z.symm)) (kp _ (by intro z; cases z))
  · by_cases z : b = a
    · subst z; rw [upd_same]; exact hu
    · rw [upd_ne z]; exact R0.mu b l q

/-! ### methods of a list that change it -/
abbrev GM := List D → List D → (D → List D → Prop) → Prop
def rMt (K : PySem.W.Frag) (g : GM) : V → List V → Hp → VK → Prop := fun x vs H Q => ∃ l xs ds es o G, x = .ref l ∧ H l = some (.lst xs) ∧ Dats K o H xs ds ∧ Dats K o H vs es ∧ g ds es G ∧
  ∀ y d xs' ds', Dat K o H y d → Dats K o H xs' ds' → G d ds' → Q y (upd H l (.lst xs'))
def MtG (X : Cx) (id : String) (g : GM) : Prop := MtR X id (rMt X.K g)
theorem mtG {id : String} {g : GM} {r : V → List V → Hp → VK → Prop} (h : MtR X id r) (i : ∀ x vs H k, rMt X.K g x vs H k → r x vs H k) : MtG X id g := fun pins s σ H x xs v us Q I rx rs q => h pins s σ H x xs v us Q I rx rs (i _ _ _ _ q)
def gApp : GM := fun ds es G => match es with
  | [d] => ds.length < sizeLine ∧ G .non (ds ++ [d])
  | _ => False
theorem app_ok : MtG X "list.append" gApp := by
  refine mtG mt_append fun x vs H k h => ?_
  obtain ⟨l, xs, ds, es, o, G, rfl, hl, d1, d2, h, q⟩ := h
  unfold gApp at h
  split at h
  · cases d2 with | cons a t => cases t; exact ⟨l, xs, _, rfl, rfl, hl, by rw [d1.length]; exact h.1, q _ _ _ _ .non (d1.append (.cons a .nil)) h.2⟩
  · exact h.elim
def gExt : GM := fun ds es G => match es with
  | [.lst zs] => ds.length + zs.length ≤ sizeLine ∧ G .non (ds ++ zs)
  | _ => False
theorem ext_ok : MtG X "list.extend" gExt := by
  refine mtG mt_extend fun x vs H k h => ?_
  obtain ⟨l, xs, ds, es, o, G, rfl, hl, d1, d2, h, q⟩ := h
  unfold gExt at h
  split at h
  · cases d2 with
    | cons a t =>
      cases t
      cases a with
      | lst a1 a2 a3 => exact ⟨l, _, xs, _, rfl, rfl, hl, a2, by rw [d1.length, a3.length]; exact h.1, q _ _ _ _ .non (d1.append a3) h.2⟩
  · exact h.elim
def gPop : GM := fun ds es G => match es with
  | [] => match ds.getLast? with
    | some d => G d ds.dropLast
    | none => False
  | _ => False
theorem pop_ok : MtG X "list.pop" gPop := by
  refine mtG mt_pop fun x vs H k h => ?_
  obtain ⟨l, xs, ds, es, o, G, rfl, hl, d1, d2, h, q⟩ := h
  unfold gPop at h
  split at h
  · cases d2
    split at h
    · rename_i d e
      rw [List.getLast?_eq_getElem?] at e
      obtain ⟨w, e2, dw⟩ := d1.get e
      rw [← d1.length] at e2
      exact ⟨l, xs, w, rfl, rfl, hl, e2, q _ _ _ _ dw d1.dropLast h⟩
    · exact h.elim
  · exact h.elim
def gRev : GM := fun ds es G => match es with
  | [] => G .non ds.reverse
  | _ => False
theorem rev_ok : MtG X "list.reverse" gRev := by
  refine mtG mt_reverse fun x vs H k h => ?_
  obtain ⟨l, xs, ds, es, o, G, rfl, hl, d1, d2, h, q⟩ := h
  unfold gRev at h
  split at h
  · cases d2; exact ⟨l, xs, rfl, rfl, hl, q _ _ _ _ .non d1.reverse h⟩
  · exact h.elim
/-- x.m(..) of a name's own list -/
def tMt (g : GM) (i : Nat) (ta : TL) : TX := fun ρ Q => (match ρ[i]? with
  | some s => match s.m! with
    | some (.ls _) => True
    | _ => False
  | none => False) ∧ tFrz ta (fun ds ρ1 => match ρ1[i]? with
    | some s => match s.m! with
      | some (.ls xs) => g xs ds fun d xs' => Q (.im d) (ρ1.set i (s.up (.ls xs')))
      | _ => False
    | none => False) ρ
theorem tMt_of {g : GM} {i : Nat} {ta : TL} {k : VK} (h : TEo K c (tMt g i ta) σ H k) : tBM K "list" (rMt K g) (tVar i) (TAo K c ta) σ H k := by
  obtain ⟨o, ρ, τ, Q, R0, ⟨h0, h⟩, q⟩ := h
  split at h0
  · rename_i s e
    split at h0
    · rename_i xs em
      obtain ⟨v, hv, ⟨a, ys, rfl, ho, hH, dd⟩⟩ := (R0.sl i s e).of! em
      refine ⟨_, hv, .inl ⟨rfl, ys, SqL.of hH⟩, ?_⟩
      refine tFrz_of R0 h fun vs H1 o1 ds ρ1 L1 R1 d1 h1 => ?_
      split at h1
      · rename_i s' e'
        split at h1
        · rename_i zs em'
          obtain ⟨v', hv', ⟨a', ys', rfl, ho', hH', dd'⟩⟩ := (R1.sl i s' e').of! em'
          rw [hv] at hv'; cases hv'
          refine ⟨a, ys', zs, ds, o1, _, rfl, hH', dd', d1, h1, fun y d xs' ds' dy dxs hG => ?_⟩
          have L : Le o1 H1 o1 (upd H1 a (.lst xs')) := (R1.mut1 (m := .rd []) (u := .lst []) e' em' hv ho' trivial ⟨a, [], rfl, ho', upd_same, .nil⟩).2 |> fun _ => by
            refine ⟨fun b w q f => ⟨q, by rw [upd_ne (fun z => by subst z; rw [ho'] at q; cases q)]; exact f⟩, fun b q => ⟨q, upd_ne (fun z => by subst z; rw [ho'] at q; cases q)⟩⟩
          obtain ⟨R2, L2⟩ := R1.mut1 (m := .ls ds') (u := .lst xs') e' em' hv ho' trivial ⟨a, xs', rfl, ho', upd_same, dxs.mono L⟩
          exact q y _ o1 (.im d) _ τ (L1.trans L2) R2 ⟨rfl, dy.mono L2⟩ hG
        · exact h1.elim
      · exact h1.elim
    · exact h0.elim
  · exact h0.elim
section
variable {name : Str} {x : Str} {px apos cpos : Pos} {id : String} {g : GM} {ta : TL}
theorem de_mt (i : Nat) (pa : PySem.PlainAttrs "list") (slot : PySem.Slot "list" name id) (hty : typeOf (.builtin id) = pure (.type "method_descriptor")) (hm : MtG X id g) (ha : DA X c (e :: es) ta)
    (hN : X.N[i]? = some x := by rfl) (hv : Vis X.env.scope x := by first | exact Or.inl rfl | exact Or.inr (Or.inl rfl) | exact Or.inr (Or.inr rfl))
    (hbase : attributeBase (.Name x px) name X.env (eval (.Name x px) X.env) = eval (.Name x px) X.env := by rfl)
    (hfew : ((backTo cpos (starEach (e :: es) X.env)).all (fun x => !x.1) && (backToKw cpos (keywordEach [] X.env)).all (fun x => x.1.isSome)
      && decide ((e :: es).length + ([] : List Keyword).length + (if ([] : List Keyword).isEmpty then 0 else 1) < 30)) = true := by rfl)
    (hline : (apos.endLine == cpos.line) = true := by rfl) (hs : starEach (e :: es) X.env = (false, eval e X.env) :: starEach es X.env := by rfl) (hplain : (backTo cpos (starEach es X.env)).any (·.1) = false := by rfl)
    (hd : (x == ("__debug__" : Str)) = false := by decide) (hcd : (x == ("__classdict__" : Str)) = false := by decide) :
    DE X c (.Call (.Attribute (.Name x px) name apos) (e :: es) [] cpos) (tMt g i ta) :=
  peImp (pe_bm pa slot hty hm (pe_var (i := i) hN hv hd hcd) ha hbase hfew hline hs hplain) fun _ _ _ h => tMt_of h
theorem de_mt0 (i : Nat) (pa : PySem.PlainAttrs "list") (slot : PySem.Slot "list" name id) (hty : typeOf (.builtin id) = pure (.type "method_descriptor")) (hm : MtG X id g)
    (hN : X.N[i]? = some x := by rfl) (hv : Vis X.env.scope x := by first | exact Or.inl rfl | exact Or.inr (Or.inl rfl) | exact Or.inr (Or.inr rfl))
    (hbase : attributeBase (.Name x px) name X.env (eval (.Name x px) X.env) = eval (.Name x px) X.env := by rfl) (hline : (apos.endLine == cpos.line) = true := by rfl)
    (hd : (x == ("__debug__" : Str)) = false := by decide) (hcd : (x == ("__classdict__" : Str)) = false := by decide) :
    DE X c (.Call (.Attribute (.Name x px) name apos) [] [] cpos) (tMt g i lNil) :=
  peImp (pe_bm0 pa slot hty hm (pe_var (i := i) hN hv hd hcd) hbase hline) fun σ H k h => by
    obtain ⟨v, hv, ty, q⟩ := tMt_of h
    refine ⟨v, hv, ty, ?_⟩
    obtain ⟨o, ρ, τ, Q, R0, h, q⟩ := q
    exact q [] H o [] ρ τ .refl R0 .nil h
end

/-! ### x[k] = v of a name's own list or dict -/
def setM (m : M) (k v : D) (G : M → Prop) : Prop := match m, k with
  | .ls ds, .int i => match ixN ds.length i with
    | some j => G (.ls (ds.set j v))
    | none => False
  | .dk kvs, k => match k.key? with
    | some k => kvs.length < sizeLine ∧ G (.dk (putD kvs k v))
    | none => False
  | .dt kvs, .tup ks => match D.keys? ks with
    | some k => kvs.length < sizeLine ∧ G (.dt (putD kvs k v))
    | none => False
  | _, _ => False
theorem PSet.or {t t' : TSet} (h : PSet X t) (h' : PSet X t') : PSet X (fun o i v H Q => t o i v H Q ∨ t' o i v H Q) := by
  intro pins s σ H o i v ov iv u Q I ro ri rv q
  rcases q with q | q
  · exact h pins s σ H o i v ov iv u Q I ro ri rv q
  · exact h' pins s σ H o i v ov iv u Q I ro ri rv q
theorem le_mut {a : Addr} {i : Nat} {w : HO} (ho : o a = some (.s i)) : Le o H o (upd H a w) :=
  ⟨fun b w q f => ⟨q, by rw [upd_ne (fun z => by subst z; rw [ho] at q; cases q)]; exact f⟩, fun b q => ⟨q, upd_ne (fun z => by subst z; rw [ho] at q; cases q)⟩⟩
theorem setM_ok (R0 : Rep K c o σ H ρ τ) {i : Nat} {s : Sl} {m : M} {v vk vx : V} {dk dx : D} {G : M → Prop} {Q : Hp → Prop} (e : ρ[i]? = some s) (em : s.m! = some m) (hv : σ[i]? = some (some v)) (d1 : Dat K o H vk dk) (d2 : Dat K o H vx dx) (h : setM m dk dx G)
    (q : ∀ H' m', Rep K c o σ H' (ρ.set i (s.up m')) τ → Le o H o H' → G m' → Q H') : rSetL v vk vx H Q ∨ rSetD v vk vx H Q := by
  obtain ⟨v', hv', z⟩ := (R0.sl i s e).of! em
  rw [hv] at hv'; cases hv'
  unfold setM at h
  split at h
  · rename_i ds j
    split at h
    · rename_i n en
      obtain ⟨a, xs, rfl, ho, hH, dd⟩ := z
      cases d1
      refine .inl ⟨a, xs, j, n, rfl, rfl, hH, by rw [dd.length]; exact en, ?_⟩
      obtain ⟨R1, L1⟩ := R0.mut1 (m := .ls (ds.set n dx)) (u := .lst (xs.set n vx)) e em hv ho trivial ⟨a, _, rfl, ho, upd_same, (dd.set d2 n).mono (le_mut ho)⟩
      exact q _ _ R1 L1 h
    · exact h.elim
  · rename_i kvs
    split at h
    · rename_i ky ek
      obtain ⟨a, ks, rfl, ho, hH, dd⟩ := z
      have ek' := d1.key ek
      subst ek'
      refine .inr ⟨a, _, rfl, DPut.k hH (by rw [dd.length]; exact h.1), ?_⟩
      obtain ⟨R1, L1⟩ := R0.mut1 (m := .dk (putD kvs ky dx)) (u := .dK (putK ks ky vx)) e em hv ho trivial ⟨a, _, rfl, ho, upd_same, Kvs.mono (le_mut ho) (dd.put ky d2)⟩
      exact q _ _ R1 L1 h.2
    · exact h.elim
  · rename_i kvs ks'
    split at h
    · rename_i ky ek
      obtain ⟨a, ks, rfl, ho, hH, dd⟩ := z
      cases d1 with
      | tup t r =>
        have ek' := r.keys ek
        subst ek'
        refine .inr ⟨a, _, rfl, DPut.t hH t.2 (by rw [dd.length]; exact h.1), ?_⟩
        obtain ⟨R1, L1⟩ := R0.mut1 (m := .dt (putD kvs ky dx)) (u := .dT (putK ks ky vx)) e em hv ho trivial ⟨a, _, rfl, ho, upd_same, Kvs.mono (le_mut ho) (dd.put ky d2)⟩
        exact q _ _ R1 L1 h.2
    · exact h.elim
  · exact h.elim
def hasM (ρ : Env) (i : Nat) : Prop := match ρ[i]? with
  | some s => match s.m! with
    | some _ => True
    | none => False
  | none => False
theorem hasM_at {ρ : Env} {i : Nat} (R0 : Rep K c o σ H ρ τ) (h : hasM ρ i) : ∃ y, σ[i]? = some (some y) := by
  unfold hasM at h
  split at h
  · rename_i s e
    split at h
    · rename_i m em
      obtain ⟨v, hv, _⟩ := (R0.sl i s e).of! em
      exact ⟨v, hv⟩
    · exact h.elim
  · exact h.elim
def sSetI (i : Nat) (tk tv : TX) : TSX := fun P ρ => tFrz (lCons tv lNil) (fun ds ρ1 => match ds with
  | [d] => hasM ρ1 i ∧ tk ρ1 fun rk ρ2 => match rk with
    | .im k => match ρ2[i]? with
      | some s => match s.m! with
        | some m => setM m k d fun m' => P.nx (ρ2.set i (s.up m'))
        | none => False
      | none => False
    | _ => False
  | _ => False) ρ
theorem frz1 {f : List D → Env → Prop} {t : TX} {k : VK} (R0 : Rep K c o σ H ρ τ) (h : tFrz (lCons t lNil) f ρ)
    (q : ∀ v H' o' d ρ', Le o H o' H' → Rep K c o' σ H' ρ' τ → Dat K o' H' v d → f [d] ρ' → k v H') : TEo K c t σ H k := by
  refine ⟨o, ρ, τ, _, R0, h, fun v H1 o1 r ρ1 τ1 L1 R1 z1 h1 => ?_⟩
  have h1 : match froz ρ1 [r] with
    | some (ds, ρ2) => f ds ρ2
    | none => False := h1
  split at h1
  · rename_i ds ρ2 e
    have R2 := R1.drop z1.pre
    have els := (RelRs.cons z1 .nil).els (ρ0 := ρ1) (base := τ.length) (Nat.le_refl _) (fun j v m e => (R1.tm j v m e).1)
    obtain ⟨o', L, R3, dd⟩ := froz_ok R2 els e
    cases dd with
    | cons a t => cases t; exact q v H1 o' _ ρ2 (L1.trans ((dropT_le _).trans L)) R3 a h1
  · exact h1.elim
theorem ds_setI (i : Nat) {x : Str} {px ppos : Pos} {tk tv : TX} (hu : X.A.units + 1 < cLine) (hv : DE X c e tv) (hk : DE X c a tk) (hN : X.N[i]? = some x := by rfl) (hvis : Vis X.env.scope x := by first | exact Or.inl rfl | exact Or.inr (Or.inl rfl) | exact Or.inr (Or.inr rfl))
    (hs : swapsWithSole [.Subscript (.Name x px) a ppos] e pos.line X.env = pure false := by rfl) (hw : swappedStores [.Subscript (.Name x px) a ppos] e X.env = pure none := by rfl)
    (h1 : (assignEach [.Subscript (.Name x px) a ppos] X.env).map (·.2) = [assign (.Subscript (.Name x px) a ppos) X.env] := by rfl)
    (hsub : ∀ v, assign (.Subscript (.Name x px) a ppos) X.env v = (do
      let ov ← holding [v] (eval (.Name x px) X.env)
      let iv ← holding [v, ov] (eval a X.env)
      standAt ppos
      holding [v, ov, iv] (setItem ov iv v)
      release [v, ov, iv] []) := by intro _; rfl)
    (hd : (x == ("__debug__" : Str)) = false := by decide) (hcd : (x == ("__classdict__" : Str)) = false := by decide) : DS X c (.Assign [.Subscript (.Name x px) a ppos] e pos) (sSetI i tk tv) :=
  psImp (ps_asg hv (pg_sub (pe_var (i := i) hN hvis hd hcd) hk (PSet.or set_list (set_dict hu)) hsub) hs hw h1) fun D σ H h => by
    obtain ⟨o, ρ, P, R0, h, w⟩ := h
    refine frz1 R0 h fun v H1 o1 d ρ1 L1 R1 d1 h1 => ?_
    obtain ⟨h0, h1⟩ := (show hasM ρ1 i ∧ tk ρ1 fun rk ρ2 => match rk with
      | .im k => match ρ2[i]? with
        | some s => match s.m! with
          | some m => setM m k d fun m' => P.nx (ρ2.set i (s.up m'))
          | none => False
        | none => False
      | _ => False from h1)
    obtain ⟨y, hy⟩ := hasM_at R1 h0
    refine ⟨y, hy, o1, ρ1, [], _, R1, h1, fun v2 H2 o2 r2 ρ2 τ2 L2 R2 z2 h2 => ?_⟩
    split at h2
    · obtain ⟨rfl, z2⟩ := z2
      split at h2
      · rename_i s es
        split at h2
        · rename_i m em
          exact setM_ok (Q := fun H3 => D.nx σ H3) R2 es em hy z2 (d1.mono L2) h2 fun H3 m' R3 L3 hG => w.nx _ _ _ _ (L1.trans (L2.trans L3)) R3 hG
        · exact h2.elim
      · exact h2.elim
    · exact h2.elim
end
end Y
namespace Y
open PySem PySem.Spec L2

section
variable {K : PySem.W.Frag} {c : Cc} {o o' : Own} {σ σ' : St} {H H' : Hp} {ρ ρ' : Env} {τ τ' τ0 τ1 : List (V × M)} {X : Cx} {e a b : Expr} {es : List Expr} {pos : Pos} {t u : TX} {P : EndP} {D' : Ends}
/-! ### targets -/
inductive Bd where
  | one (i : Nat) | many (is : List Nat)
def gNms : List Nat → TGs
  | [] => gNil
  | i :: is => gCons (gName i) (gNms is)
def Bd.tg (K : PySem.W.Frag) : Bd → TG
  | .one i => gName i
  | .many is => gTup K is.length (gNms is)
def Bd.slots : Bd → List Nat
  | .one i => [i]
  | .many is => is
def setAll (ρ : Env) : List Nat → List D → Env
  | i :: is, d :: ds => setAll (ρ.set i (.lo (.im d))) is ds
  | _, _ => ρ
def bnd (b : Bd) (d : D) (ρ : Env) (k : Env → Prop) : Prop := match b with
  | .one i => k (ρ.set i (.lo (.im d)))
  | .many is => match d with
    | .tup ds => ds.length = is.length ∧ k (setAll ρ is ds)
    | _ => False
theorem wipe_at {i : Nat} : ∀ {vs : List Nat}, i ∈ vs → i < σ.length → (wipe σ vs)[i]? = some none
  | v :: vs, h, l => by
    unfold wipe
    by_cases e : v = i
    · subst e; rw [List.getElem?_set_self (by rw [wipe_length]; exact l)]
    · rw [List.getElem?_set_ne e]
      rcases List.mem_cons.mp h with h | h
      · exact absurd h.symm e
      · exact wipe_at h l
theorem wipe_set {i : Nat} {x : Option V} {vs : List Nat} (h : i ∈ vs) : wipe (σ.set i x) vs = wipe σ vs := by
  apply List.ext_getElem?
  intro j
  by_cases hj : j ∈ vs
  · by_cases hl : j < σ.length
    · rw [wipe_at hj hl, wipe_at hj (by rw [List.length_set]; exact hl)]
    · rw [List.getElem?_eq_none (by rw [wipe_length, List.length_set]; omega), List.getElem?_eq_none (by rw [wipe_length]; omega)]
  · rw [wipe_out hj, wipe_out hj, List.getElem?_set_ne (fun e => hj (by rw [← e]; exact h))]
theorem setAll_ok : ∀ {is : List Nat} {ds : List D} {vs : List V} {σ : St} {ρ : Env}, Rep K c o σ H ρ τ → Dats K o H vs ds → ds.length = is.length → {f : Env → Prop} → f (setAll ρ is ds) → {k : St → Hp → Prop} →
    (∀ σ' ρ', Rep K c o σ' H ρ' τ → (∀ ws, (∀ i ∈ is, i ∈ ws) → wipe σ' ws = wipe σ ws) → f ρ' → k σ' H) → gNms is vs σ H k
  | [], [], _, σ, ρ, R0, .nil, _, f, h, k, q => ⟨rfl, q σ ρ R0 (fun _ _ => rfl) h⟩
  | i :: is, d :: ds, _, σ, ρ, R0, .cons (v := v) (vs := vs) a r, hl, f, h, k, q => by
    refine ⟨v, vs, rfl, ?_⟩
    show gNms is vs (σ.set i (some v)) H k
    refine setAll_ok (R0.asg (i := i) (m := .im d) a) r (Nat.succ.inj hl) h fun σ' ρ' R w hf => q σ' ρ' R (fun ws hw => ?_) hf
    rw [w ws (fun j hj => hw j (List.mem_cons_of_mem _ hj)), wipe_set (hw i List.mem_cons_self)]
theorem bnd_ok {bd : Bd} {v : V} {d : D} {f : Env → Prop} {k : St → Hp → Prop} (R0 : Rep K c o σ H ρ τ) (hd : Dat K o H v d) (h : bnd bd d ρ f)
    (q : ∀ σ' ρ', Rep K c o σ' H ρ' τ → (∀ ws, (∀ i ∈ bd.slots, i ∈ ws) → wipe σ' ws = wipe σ ws) → f ρ' → k σ' H) : bd.tg K v σ H k := by
  cases bd with
  | one i => exact q _ _ (R0.asg (m := .im d) hd) (fun ws hw => wipe_set (hw i (by simp [Bd.slots]))) h
  | many is =>
    unfold bnd at h
    simp only at h
    split at h
    · cases hd with
      | tup t r =>
        refine ⟨_, _, rfl, t.sq, by rw [r.length]; exact h.1, ?_⟩
        exact setAll_ok R0 r h.1 h.2 q
    · exact h.elim

/-! ### what is walked -/
inductive Src where
  | fx (ds : List D) | sl (i : Nat) (es ds : List D) | hs (i : Nat) (p : Bool) (v : V) (es ds : List D)
/-- the iterator yields what stands in ds, wherever C holds -/
def Runs (K : PySem.W.Frag) (J : It) (ds : List D) (C : Own → Hp → Prop) : Prop := ∀ o H, C o H → (∀ a l, o a = some l → Mut (H a)) →
  (∀ (i : Nat) d, ds[i]? = some d → J.go i H ∧ ∀ x H', J.yld i H x H' → Grow H H' ∧ Dat K o H' x d) ∧ J.stop ds.length H
def SrcOk (K : PySem.W.Frag) (J : It) (o : Own) (H : Hp) (σ : St) : Src → Prop
  | .fx ds => Runs K J ds fun o' H' => Le o H o' H'
  | .sl i es ds => ∃ v, σ[i]? = some (some v) ∧ Runs K J ds fun o' H' => ∃ l, IsM K o' H' l v (.ls es)
  | .hs i p v es ds => Runs K J ds fun o' H' => ∃ l, IsM K o' H' l v (.ls es)
abbrev TSrc := Env → (Src → Env → Prop) → Prop
def TIo (K : PySem.W.Frag) (c : Cc) (ti : TSrc) : TI := fun σ H R => ∃ o ρ τ Q, Rep K c o σ H ρ τ ∧ ti ρ Q ∧ ∀ J H' o' ρ' s, Le o H o' H' → Rep K c o' σ H' ρ' τ → SrcOk K J o' H' σ s → Q s ρ' → R J H'
def DI (X : Cx) (c : Cc) (tg iter : Expr) (ti : TSrc) : Prop := PI X tg iter (TIo X.K c ti)
theorem piImp {tg iter : Expr} {wi wi' : TI} (h : PI X tg iter wi) (f : ∀ σ H R, wi' σ H R → wi σ H R) : PI X tg iter wi' := ⟨fun pins s σ H R I q => h.run pins s σ H R I (f _ _ _ q)⟩
theorem PI.or {tg iter : Expr} {wi wi' : TI} (h : PI X tg iter wi) (h' : PI X tg iter wi') : PI X tg iter (fun σ H R => wi σ H R ∨ wi' σ H R) := ⟨fun pins s σ H R I q => by
  rcases q with q | q
  · exact h.run pins s σ H R I q
  · exact h'.run pins s σ H R I q⟩
theorem runs_list {ad : Addr} {ds : List D} {C : Own → Hp → Prop} (h : ∀ o H, C o H → ∃ xs, SqL K H ad xs ∧ Dats K o H xs ds) : Runs K (Itl K ad) ds C := fun o H hc mu => by
  obtain ⟨xs, h1, h2⟩ := h o H hc
  refine ⟨fun i d e => ?_, ⟨xs, h1, by rw [h2.length]; exact Nat.le_refl _⟩⟩
  obtain ⟨v, ev, dv⟩ := h2.get e
  refine ⟨⟨xs, v, h1, ev⟩, fun x H' y => ?_⟩
  obtain ⟨rfl, y⟩ := y
  have := y xs h1
  rw [ev] at this; cases this
  exact ⟨.refl, dv⟩
theorem runs_tup {ad : Addr} {xs : List V} {ds : List D} {C : Own → Hp → Prop} (h : ∀ o H, C o H → SqT K H ad xs ∧ Dats K o H xs ds) : Runs K (Itt K ad) ds C := fun o H hc mu => by
  obtain ⟨h1, h2⟩ := h o H hc
  refine ⟨fun i d e => ?_, ⟨xs, h1, by rw [h2.length]; exact Nat.le_refl _⟩⟩
  obtain ⟨v, ev, dv⟩ := h2.get e
  refine ⟨⟨xs, v, h1, ev⟩, fun x H' y => ?_⟩
  obtain ⟨rfl, y⟩ := y
  have := y xs h1
  rw [ev] at this; cases this
  exact ⟨.refl, dv⟩
/-- for .. in x: x data, a new list, a name's own list (which stays while it is walked), a list that is only read -/
def srcOf (r : R) (ρ : Env) (k : Src → Env → Prop) : Prop := match r with
  | .im (.tup ds) => k (.fx ds) ρ
  | .im (.lst ds) => k (.fx ds) ρ
  | .tm (.ls ds) => k (.fx ds) ρ
  | .sl i => match ρ[i]? with
    | some (.lo (.ls ds)) => k (.sl i ds ds) ρ
    | some (.pa (.ls ds)) => k (.sl i ds ds) ρ
    | some (.lo (.sq ds)) => k (.fx ds) ρ
    | some (.pa (.sq ds)) => k (.fx ds) ρ
    | some (.hd p v (.ls ds)) => k (.hs i p v ds ds) ρ
    | _ => False
  | .im (.str z) => k (.fx (z.cps.toList.map fun n => D.str ⟨#[n]⟩)) ρ
  | _ => False
def iAny (K : PySem.W.Frag) (tl : TE) : TI := fun σ H R => tl σ H fun x H1 => (∃ ad xs, x = .ref ad ∧ SqL K H1 ad xs ∧ R (Itl K ad) H1) ∨ (∃ ad xs, x = .ref ad ∧ SqT K H1 ad xs ∧ R (Itt K ad) H1) ∨ ∃ z, x = .str z ∧ R (Its z) H1
theorem pi_any {tg l : Expr} {tl : TE} (hl : PE X l tl) : PI X tg l (iAny X.K tl) := by
  constructor
  intro pins s σ H R I h
  refine thn (hl.run pins s σ H _ I h) ?_
  rintro v s1 ⟨x, H1, I1, r1, q⟩
  rcases q with ⟨ad, xs, rfl, hq, q⟩ | ⟨ad, xs, rfl, hq, q⟩ | ⟨z, rfl, q⟩
  · cases r1
    obtain ⟨its, rv, p, hz⟩ := I1.list hq
    exact wpAny_pyIter_list p.isList (pi_one (tk := s1.toks) I1 _ (turn_list ad _) ⟨_, Heap.get?_push_size _ rfl, rfl, rfl⟩ q)
  · cases r1
    obtain ⟨its, rv, p, hz⟩ := I1.tuple hq
    exact wpAny_pyIter_tuple (show s1.heap.IsTuple ad its.toArray from p) (pi_one (tk := s1.toks) I1 _ (turn_tuple ad _) ⟨_, Heap.get?_push_size _ rfl, rfl, rfl⟩ q)
  · obtain ⟨t, rfl⟩ := r1
    cases ha : z.cps.all (· < 128)
    · exact PySem.wpAny_pyIter_wide ha (pi_one (tk := s1.toks) I1 _ (turn_str _ z t "str_iterator" (.inr rfl)) ⟨_, Heap.get?_push_size _ rfl, rfl, rfl⟩ q)
    · exact PySem.wpAny_pyIter_ascii ha (pi_one (tk := s1.toks) I1 _ (turn_str _ z t "str_ascii_iterator" (.inl rfl)) ⟨_, Heap.get?_push_size _ rfl, rfl, rfl⟩ q)
def iSeq (t : TX) : TSrc := fun ρ k => t ρ fun r ρ1 => srcOf r ρ1 k
theorem runs_str {z : Str} {C : Own → Hp → Prop} : Runs K (Its z) (z.cps.toList.map fun n => D.str ⟨#[n]⟩) C := fun o H _ mu => by
  refine ⟨fun i d e => ?_, by show z.cps.size ≤ _; simp⟩
  rw [List.getElem?_map] at e
  cases q : z.cps.toList[i]? with
  | none => rw [q] at e; cases e
  | some n =>
    rw [q] at e; cases e
    have q2 : z.cps[i]? = some n := by simpa using q
    refine ⟨(Array.getElem?_eq_some_iff.mp q2).1, fun x H' y => ?_⟩
    obtain ⟨rfl, n', e', rfl⟩ := y
    rw [q2] at e'; cases e'
    exact ⟨.refl, .str _⟩
theorem src_ok {v : V} {r : R} {ti : Src → Env → Prop} {R' : It → Hp → Prop} (R1 : Rep K c o σ H ρ τ') (z : RelR K o H σ v r τ τ') (h : srcOf r ρ ti)
    (q : ∀ J o' s, Le o H o' H → Rep K c o' σ H ρ τ → SrcOk K J o' H σ s → ti s ρ → R' J H) :
    (∃ ad xs, v = .ref ad ∧ SqL K H ad xs ∧ R' (Itl K ad) H) ∨ (∃ ad xs, v = .ref ad ∧ SqT K H ad xs ∧ R' (Itt K ad) H) ∨ ∃ z, v = .str z ∧ R' (Its z) H := by
  unfold srcOf at h
  split at h
  · obtain ⟨rfl, z⟩ := z
    cases z with
    | tup t d => exact .inr (.inl ⟨_, _, rfl, t.sq, q _ o (.fx _) .refl R1 (runs_tup fun o' H' L => ⟨(t.mono L).sq, d.mono L⟩) h⟩)
  · obtain ⟨rfl, z⟩ := z
    cases z with
    | lst a b d => exact .inl ⟨_, _, rfl, SqL.of b, q _ o (.fx _) .refl R1 (runs_list fun o' H' L => ⟨_, SqL.of (L.keep _ _ a b).2, d.mono L⟩) h⟩
  · have z : τ' = τ ++ [(v, _)] := z
    subst z
    obtain ⟨a, xs, rfl, ho, hH, d⟩ := (R1.tm τ.length _ _ (by rw [List.getElem?_append_right (Nat.le_refl _), Nat.sub_self]; rfl)).1
    have R2 := R1.drop (List.prefix_append τ _)
    have e : dropT τ.length o a = none := by unfold dropT; rw [ho]; show (if τ.length < τ.length then _ else none) = none; rw [if_neg (Nat.lt_irrefl _)]
    exact .inl ⟨_, _, rfl, SqL.of hH, q _ _ (.fx _) (dropT_le _) R2 (runs_list fun o' H' L => ⟨_, SqL.of (L.keep _ _ e hH).2, (d.mono (dropT_le τ.length)).mono L⟩) h⟩
  · obtain ⟨rfl, z⟩ := z
    split at h
    · rename_i ds e
      obtain ⟨w, e1, a, xs, rfl, ho, hH, d⟩ := R1.sl _ _ e
      rw [z] at e1; cases e1
      refine .inl ⟨_, _, rfl, SqL.of hH, q _ o (.sl _ ds ds) .refl R1 ⟨_, z, runs_list fun o' H' ⟨l, b, ys, e2, h1, h2, h3⟩ => ?_⟩ h⟩
      cases e2; exact ⟨ys, SqL.of h2, h3⟩
    · rename_i ds e
      obtain ⟨w, e1, _, a, xs, rfl, ho, hH, d⟩ := R1.sl _ _ e
      rw [z] at e1; cases e1
      refine .inl ⟨_, _, rfl, SqL.of hH, q _ o (.sl _ ds ds) .refl R1 ⟨_, z, runs_list fun o' H' ⟨l, b, ys, e2, h1, h2, h3⟩ => ?_⟩ h⟩
      cases e2; exact ⟨ys, SqL.of h2, h3⟩
    · rename_i ds e
      obtain ⟨w, e1, a, xs, rfl, hl, d⟩ := R1.sl _ _ e
      rw [z] at e1; cases e1
      exact .inl ⟨_, _, rfl, hl.sq, q _ o (.fx _) .refl R1 (runs_list fun o' H' L => ⟨_, (hl.mono L).sq, d.mono L⟩) h⟩
    · rename_i ds e
      obtain ⟨w, e1, _, a, xs, rfl, hl, d⟩ := R1.sl _ _ e
      rw [z] at e1; cases e1
      exact .inl ⟨_, _, rfl, hl.sq, q _ o (.fx _) .refl R1 (runs_list fun o' H' L => ⟨_, (hl.mono L).sq, d.mono L⟩) h⟩
    · rename_i p v0 ds e
      obtain ⟨e1, _, a, xs, rfl, ho, hH, d⟩ := R1.sl _ _ e
      rw [z] at e1; cases e1
      refine .inl ⟨_, _, rfl, SqL.of hH, q _ o (.hs _ p _ ds ds) .refl R1 (runs_list fun o' H' ⟨l, b, ys, e2, h1, h2, h3⟩ => ?_) h⟩
      cases e2; exact ⟨ys, SqL.of h2, h3⟩
    · exact h.elim
  · obtain ⟨rfl, z⟩ := z
    cases z
    exact .inr (.inr ⟨_, rfl, q _ o (.fx _) .refl R1 runs_str h⟩)
  · exact h.elim
theorem di_seq {tg : Expr} (h : DE X c e t) : DI X c tg e (iSeq t) := piImp (pi_any h) fun σ H R hh => by
  obtain ⟨o, ρ, τ, Q, R0, hh, q⟩ := hh
  exact ⟨o, ρ, τ, _, R0, hh, fun v1 H1 o1 r1 ρ1 τ1 L1 R1 z1 h1 => src_ok R1 z1 h1 fun J o' s L R' ok hs => q J H1 o' ρ1 s (L1.trans L) R' ok hs⟩

/-! ### range -/
def gRng (lo : Int) (n : Nat) : List D := (List.range n).map fun (i : Nat) => D.int (lo + (i : Int))
theorem runs_rng {lo : Int} {n : Nat} {C : Own → Hp → Prop} : Runs K (Itr lo n) (gRng lo n) C := fun o H _ mu => by
  refine ⟨fun i d e => ?_, by show n ≤ _; simp [gRng]⟩
  unfold gRng at e
  rw [List.getElem?_map] at e
  by_cases hi : i < n
  · rw [List.getElem?_range hi] at e
    cases e
    refine ⟨hi, fun x H' y => ?_⟩
    obtain ⟨rfl, rfl⟩ := y
    exact ⟨.refl, .int _⟩
  · rw [List.getElem?_eq_none (by simpa using hi)] at e; cases e
def iRg1 (ta : TL) : TSrc := fun ρ k => ta ρ fun rs ρ1 => match rs with
  | [.im (.int j)] => j < 2 ^ 62 ∧ -(2 ^ 62) ≤ j ∧ k (.fx (gRng 0 j.toNat)) ρ1
  | _ => False
def iRg2 (ta : TL) : TSrc := fun ρ k => ta ρ fun rs ρ1 => match rs with
  | [.im (.int i), .im (.int j)] => (-(2 ^ 62) ≤ i ∧ i < 2 ^ 62 ∧ -(2 ^ 62) ≤ j ∧ j < 2 ^ 62) ∧ k (.fx (gRng i (j - i).toNat)) ρ1
  | _ => False
section
variable {tg : Expr} {p : Pos} {tl : TL}
theorem di_rng1 (hg : Gl X "range") (hm : X.mg "range" = none) (ha : DA X c [a] tl) (hs : starEach [a] X.env = [(false, eval a X.env)] := by rfl) : DI X c tg (.Call (.Name "range" p) [a] [] pos) (iRg1 tl) :=
  piImp (pi_range1 hg hm ha hs) fun σ H R hh => by
    obtain ⟨o, ρ, τ, Q, R0, hh, q⟩ := hh
    refine ⟨o, ρ, τ, _, R0, hh, fun vs H1 o1 rs ρ1 τ1 L1 R1 z1 h1 => ?_⟩
    split at h1
    · cases z1 with
      | cons z t =>
        cases t
        obtain ⟨rfl, z⟩ := z
        cases z
        exact ⟨_, rfl, h1.2.1, h1.1, q _ H1 o1 ρ1 (.fx _) L1 R1 runs_rng h1.2.2⟩
    · exact h1.elim
theorem di_rng2 (hg : Gl X "range") (hm : X.mg "range" = none) (ha : DA X c [a, b] tl) (hs : starEach [a, b] X.env = [(false, eval a X.env), (false, eval b X.env)] := by rfl) (hs2 : starEach [b] X.env = [(false, eval b X.env)] := by rfl) :
    DI X c tg (.Call (.Name "range" p) [a, b] [] pos) (iRg2 tl) :=
  piImp (pi_range2 hg hm ha hs hs2) fun σ H R hh => by
    obtain ⟨o, ρ, τ, Q, R0, hh, q⟩ := hh
    refine ⟨o, ρ, τ, _, R0, hh, fun vs H1 o1 rs ρ1 τ1 L1 R1 z1 h1 => ?_⟩
    split at h1
    · cases z1 with
      | cons z t =>
        cases t with
        | cons z2 t2 =>
          cases t2
          obtain ⟨rfl, z⟩ := z
          obtain ⟨rfl, z2⟩ := z2
          cases z
          cases z2
          exact ⟨_, _, rfl, h1.1, q _ H1 o1 ρ1 (.fx _) L1 R1 runs_rng h1.2⟩
    · exact h1.elim
end
end
end Y
namespace Y
open PySem PySem.Spec L2

section
variable {K : PySem.W.Frag} {c : Cc} {o o' : Own} {σ σ' : St} {H H' : Hp} {ρ ρ' : Env} {τ τ' τ0 τ1 : List (V × M)} {X : Cx} {e a b : Expr} {es : List Expr} {pos : Pos} {t u : TX} {P : EndP} {D' : Ends}
/-! ### for -/
/-- the turns over ds; gd: what holds between two turns -/
def loopS (b : Bd) (t : TSX) (gd : Env → Prop) (P : EndP) : List D → Env → Prop
  | [], ρ => gd ρ ∧ P.nx ρ
  | d :: ds, ρ => gd ρ ∧ bnd b d ρ fun ρ1 => t { P with nx := loopS b t gd P ds, ct := loopS b t gd P ds, bk := P.nx } ρ1
theorem loop_ok {J : It} {ds : List D} {bd : Bd} {t : TSX} {gd : Env → Prop} {C : Own → Hp → Prop} {o1 : Own} {H1 : Hp} (hr : Runs K J ds C) (hc : ∀ o' σ' H' ρ', Le o1 H1 o' H' → Rep K c o' σ' H' ρ' [] → gd ρ' → C o' H')
    (R0 : Rep K c o1 σ H1 ρ []) (w : Ways K c o1 H1 P D') (h : loopS bd t gd P ds ρ) :
    ∃ W : Nat → Nat → St → Hp → Prop, (∃ m, W 0 m σ H1) ∧ ∀ i m σ H, W i m σ H →
      (J.stop i H ∧ D'.nx σ H) ∨ (J.go i H ∧ ∃ N : St → Hp → Prop, (∀ σ' H', N σ' H' → ∃ m', m' < m ∧ W (i + 1) m' σ' H') ∧ ∀ x H', J.yld i H x H' → bd.tg K x σ H' fun σ2 H2 => TSo K c t { D' with nx := N, ct := N, bk := D'.nx } σ2 H2) := by
  refine ⟨fun i m σ H => m = ds.length - i ∧ i ≤ ds.length ∧ ∃ o ρ, Le o1 H1 o H ∧ Rep K c o σ H ρ [] ∧ loopS bd t gd P (ds.drop i) ρ, ⟨ds.length, by simp, Nat.zero_le _, o1, ρ, .refl, R0, by simpa using h⟩, ?_⟩
  rintro i m σ H ⟨rfl, hi, o, ρ, L, R, h⟩
  by_cases hlt : i < ds.length
  · have e : ds.drop i = ds[i] :: ds.drop (i + 1) := List.drop_eq_getElem_cons hlt
    rw [e] at h
    obtain ⟨hg, h⟩ := h
    obtain ⟨go, yl⟩ := (hr o H (hc o σ H ρ L R hg) R.mu).1 i ds[i] (by simp [hlt])
    refine .inr ⟨go, fun σ' H' => ∃ o' ρ', Le o1 H1 o' H' ∧ Rep K c o' σ' H' ρ' [] ∧ loopS bd t gd P (ds.drop (i + 1)) ρ', fun σ' H' ⟨o', ρ', L', R', h'⟩ => ⟨ds.length - (i + 1), by omega, rfl, hlt, o', ρ', L', R', h'⟩, fun x H' y => ?_⟩
    obtain ⟨g, dx⟩ := yl x H' y
    refine bnd_ok (R.grow g) dx h fun σ' ρ' R' _ hf => ?_
    have L2 : Le o1 H1 o H' := L.trans (g.le R.mu)
    refine ⟨o, ρ', _, R', hf, ⟨fun σ2 H2 o2 ρ2 L3 R3 q => ⟨o2, ρ2, L2.trans L3, R3, q⟩, w.rt.le L2, ?_, fun σ2 H2 o2 ρ2 L3 R3 q => ⟨o2, ρ2, L2.trans L3, R3, q⟩⟩⟩
    exact w.nx.le L2
  · have e : i = ds.length := by omega
    subst e
    rw [List.drop_length] at h
    exact .inl ⟨(hr o H (hc o σ H ρ L R h.1) R.mu).2, w.nx σ H o ρ L R h.2⟩
def Sl.isP : Sl → Bool
  | .pa _ => true
  | _ => false
/-- the slot's object is walked: it is read, not changed -/
theorem Rep.hide (R0 : Rep K c o σ H ρ τ) {i : Nat} {s : Sl} {m : M} (e : ρ[i]? = some s) (em : s.m! = some m) : ∃ v, σ[i]? = some (some v) ∧ Rep K c (relL (.s i) (.h i) o) σ H (ρ.set i (.hd s.isP v m)) τ := by
  have L : Le o H (relL (.s i) (.h i) o) H := relL_le (by intro z; cases z)
  have k := R0.sl i s e
  have R1 := R0.move i (.h i)
  have go : ∀ (p : Bool) (v : V), σ[i]? = some (some v) → (p = true → c.pv[i]? = some v) → IsM K o H (.s i) v m → Rep K c (relL (.s i) (.h i) o) σ H (ρ.set i (.hd p v m)) τ := fun p v hv hp q => by
    refine ⟨fun j s' z => ?_, R1.tm, R1.mu, R1.le, by rw [List.length_set]; exact R0.ln⟩
    by_cases hj : i = j
    · subst hj
      rw [List.getElem?_set_self (List.getElem?_eq_some_iff.mp e).1] at z; cases z
      exact ⟨hv, hp, q.mono L fun a y => ⟨relL_same y, rfl⟩⟩
    · rw [List.getElem?_set_ne hj] at z
      exact R1.sl j s' (by rw [List.getElem?_set_ne hj]; exact z)
  cases s with
  | no => cases em
  | lo z => cases em; obtain ⟨v, hv, q⟩ := k; exact ⟨v, hv, go false v hv (fun z => by cases z) q⟩
  | pa z => cases em; obtain ⟨v, hv, hp, q⟩ := k; exact ⟨v, hv, go true v hv (fun _ => hp) q⟩
  | hd p v z => cases em
/-- .. no more -/
theorem Rep.unhide (R0 : Rep K c o σ H ρ τ) {i : Nat} {p : Bool} {v : V} {m : M} (e : ρ[i]? = some (.hd p v m)) : Rep K c (relL (.h i) (.s i) o) σ H (ρ.set i (if p then .pa m else .lo m)) τ ∧ Le o H (relL (.h i) (.s i) o) H := by
  have L : Le o H (relL (.h i) (.s i) o) H := relL_le (by intro z; cases z)
  obtain ⟨hv, hp, q⟩ := R0.sl i _ e
  refine ⟨⟨fun j s' z => ?_, fun j w m' z => ⟨(R0.tm j w m' z).1.mono L fun a q => ⟨relL_other (by intro z; cases z) q, rfl⟩, (R0.tm j w m' z).2⟩, relL_mu R0.mu, R0.le.trans L, by rw [List.length_set]; exact R0.ln⟩, L⟩
  by_cases hj : i = j
  · subst hj
    rw [List.getElem?_set_self (List.getElem?_eq_some_iff.mp e).1] at z; cases z
    have q' : IsM K (relL (.h i) (.s i) o) H (.s i) v m := q.mono L fun a y => ⟨relL_same y, rfl⟩
    cases p with
    | true => exact ⟨v, hv, hp rfl, q'⟩
    | false => exact ⟨v, hv, q'⟩
  · rw [List.getElem?_set_ne hj] at z
    exact (R0.sl j s' z).mono L (fun a q => ⟨relL_other (by intro z; cases z) q, rfl⟩) fun a q => ⟨relL_other (by intro z; injection z with z; exact hj z.symm) q, rfl⟩
def backS (i : Nat) (s : Sl) (v : V) (m : M) (f : Env → Prop) : Env → Prop := fun ρ => ρ[i]? = some (.hd s.isP v m) ∧ f (ρ.set i s)
def sFor (ti : TSrc) (b : Bd) (t : TSX) : TSX := fun P ρ => ti ρ fun src ρ1 => match src with
  | .fx ds => loopS b t (fun _ => True) P ds ρ1
  | .sl i es ds => match ρ1[i]? with
    | some s => match s.m! with
      | some m => m = .ls es ∧ ∀ v, loopS b t (fun ρ => ρ[i]? = some (.hd s.isP v m)) { P with nx := backS i s v m P.nx } ds (ρ1.set i (.hd s.isP v m))
      | none => False
    | none => False
  | .hs i p v es ds => loopS b t (fun ρ => ρ[i]? = some (.hd p v (.ls es))) P ds ρ1
theorem ds_for {tg iter : Expr} {body : List Stmt} {ti : TSrc} {bd : Bd} {t : TSX} (hp : PassesOwn (model X.prog X.w) X.A X.env X.xe) (hc : X.calm = true) (hi : DI X c tg iter ti) (hg : PG X tg (bd.tg X.K)) (hb : DSs X c body t)
    (hs : ∀ x, foldedSetIterable iter X.env x = pure x := by intro _; rfl) : DS X c (.For tg iter body [] pos) (sFor ti bd t) :=
  psImp (ps_for hp hc hi hg hb hs) fun D σ H h => by
    obtain ⟨o, ρ, P, R0, h, w⟩ := h
    refine ⟨o, ρ, [], _, R0, h, fun J H1 o1 ρ1 src L1 R1 ok h1 => ?_⟩
    cases src with
    | fx ds =>
      exact loop_ok (C := fun o' H' => Le o1 H1 o' H') ok (fun o' σ' H' ρ' L R _ => L) R1 (w.le L1) h1
    | sl i es ds =>
      obtain ⟨v0, hv0, ok⟩ := ok
      have h1 : (match ρ1[i]? with
        | some s => match s.m! with
          | some m => m = .ls es ∧ ∀ v, loopS bd t (fun ρ => ρ[i]? = some (.hd s.isP v m)) { P with nx := backS i s v m P.nx } ds (ρ1.set i (.hd s.isP v m))
          | none => False
        | none => False) := h1
      split at h1
      · rename_i s e
        split at h1
        · rename_i m em
          obtain ⟨rfl, h1⟩ := h1
          obtain ⟨v, hv, R2⟩ := R1.hide e em
          rw [hv0] at hv; cases hv
          have L2 : Le o1 H1 (relL (.s i) (.h i) o1) H1 := relL_le (by intro z; cases z)
          refine loop_ok (P := { P with nx := backS i s v0 (.ls es) P.nx }) (C := fun o' H' => ∃ l, IsM X.K o' H' l v0 (.ls es)) ok (fun o' σ' H' ρ' L R g => ?_) R2 ⟨fun σ' H' o' ρ' L R q => ?_, (w.le (L1.trans L2)).rt, (w.le (L1.trans L2)).bk, (w.le (L1.trans L2)).ct⟩ (h1 v0)
          · obtain ⟨_, _, q⟩ := R.sl i _ g
            exact ⟨_, q⟩
          · obtain ⟨q1, q2⟩ := q
            obtain ⟨R3, L3⟩ := R.unhide q1
            refine w.nx σ' H' _ _ (L1.trans (L2.trans (L.trans L3))) R3 ?_
            cases s with
            | pa z => cases em; exact q2
            | lo z => cases em; exact q2
            | no => cases em
            | hd _ _ _ => cases em
        · exact h1.elim
      · exact h1.elim
    | hs i p v es ds =>
      refine loop_ok (C := fun o' H' => ∃ l, IsM X.K o' H' l v (.ls es)) ok (fun o' σ' H' ρ' L R g => ?_) R1 (w.le L1) h1
      obtain ⟨_, _, q⟩ := R.sl i _ g
      exact ⟨_, q⟩

/-! ### while -/
def whileS (q : TQ) (t : TSX) (P : EndP) : Nat → Env → Prop
  | 0, _ => False
  | n + 1, ρ => q ρ fun b ρ1 => if b = true then t { P with nx := whileS q t P n, ct := whileS q t P n, bk := P.nx } ρ1 else P.nx ρ1
def sWhile (q : TQ) (t : TSX) : TSX := fun P ρ => ∃ n, whileS q t P n ρ
theorem ds_while {cond : Expr} {body : List Stmt} {q : TQ} {t : TSX} (hp : PassesOwn (model X.prog X.w) X.A X.env X.xe) (hc : DT X c cond q) (hb : DSs X c body t) : DS X c (.While cond body [] pos) (sWhile q t) :=
  psImp (ps_while hp hc hb) fun D σ H h => by
    obtain ⟨o, ρ, P, R0, ⟨n, h⟩, w⟩ := h
    refine ⟨fun m σ' H' => ∃ o' ρ', Le o H o' H' ∧ Rep X.K c o' σ' H' ρ' [] ∧ whileS q t P m ρ', ⟨n, o, ρ, .refl, R0, h⟩, fun m σ' H' ⟨o', ρ', L, R, h⟩ => ?_⟩
    cases m with
    | zero => exact h.elim
    | succ m =>
      refine ⟨o', ρ', [], _, R, h, fun b H2 o2 ρ2 L2 R2 h2 => ?_⟩
      cases b with
      | false => exact w.nx σ' H2 o2 ρ2 (L.trans L2) R2 h2
      | true =>
        refine ⟨fun σ3 H3 => ∃ o3 ρ3, Le o H o3 H3 ∧ Rep X.K c o3 σ3 H3 ρ3 [] ∧ whileS q t P m ρ3, fun σ3 H3 h3 => ⟨m, Nat.lt_succ_self _, h3⟩, ?_⟩
        have L3 := L.trans L2
        exact ⟨o2, ρ2, _, R2, h2, ⟨fun σ3 H3 o3 ρ3 L4 R4 q => ⟨o3, ρ3, L3.trans L4, R4, q⟩, w.rt.le L3, w.nx.le L3, fun σ3 H3 o3 ρ3 L4 R4 q => ⟨o3, ρ3, L3.trans L4, R4, q⟩⟩⟩

/-! ### a, b = e -/
def sUnp (b : Bd) (t : TX) : TSX := fun P ρ => t ρ fun r ρ1 => match r with
  | .im d => bnd b d ρ1 P.nx
  | _ => False
theorem ds_unp {tg : Expr} {bd : Bd} (h : DE X c e t) (hg : PG X tg (bd.tg X.K)) (hs : swapsWithSole [tg] e pos.line X.env = pure false := by rfl) (hw : swappedStores [tg] e X.env = pure none := by rfl)
    (h1 : (assignEach [tg] X.env).map (·.2) = [assign tg X.env] := by rfl) : DS X c (.Assign [tg] e pos) (sUnp bd t) :=
  psImp (ps_asg h hg hs hw h1) fun D σ H h => by
    obtain ⟨o, ρ, P, R0, h, w⟩ := h
    refine ⟨o, ρ, [], _, R0, h, fun v H1 o1 r1 ρ1 τ1 L1 R1 z1 h1 => ?_⟩
    split at h1
    · obtain ⟨rfl, z⟩ := z1
      exact bnd_ok R1 z h1 fun σ' ρ' R _ hf => w.nx σ' H1 o1 ρ' L1 R hf
    · exact h1.elim
end
end Y
namespace Y
open PySem PySem.Spec L2

section
variable {K : PySem.W.Frag} {c : Cc} {o o' : Own} {σ σ' : St} {H H' : Hp} {ρ ρ' : Env} {τ τ' τ0 τ1 : List (V × M)} {X : Cx} {e a b : Expr} {es : List Expr} {pos : Pos} {t u : TX} {P : EndP} {D' : Ends}
/-! ### comprehensions -/
def wipeE (ρ : Env) : List Nat → Env
  | [] => ρ
  | v :: vs => (wipeE ρ vs).set v .no
def keepS : Option Sl → Sl
  | some (.lo (.im d)) => .lo (.im d)
  | some (.pa (.im d)) => .pa (.im d)
  | _ => .no
def restE (ρ0 ρ : Env) : List Nat → Env
  | [] => ρ
  | v :: vs => (restE ρ0 ρ vs).set v (keepS ρ0[v]?)
theorem wipe_idem {vs : List Nat} : wipe (wipe σ vs) vs = wipe σ vs := by
  apply List.ext_getElem?
  intro j
  by_cases hj : j ∈ vs
  · by_cases hl : j < σ.length
    · rw [wipe_at hj hl, wipe_at hj (by rw [wipe_length]; exact hl)]
    · rw [List.getElem?_eq_none (by rw [wipe_length, wipe_length]; omega), List.getElem?_eq_none (by rw [wipe_length]; omega)]
  · rw [wipe_out hj]
theorem wipeE_length : ∀ vs : List Nat, (wipeE ρ vs).length = ρ.length
  | [] => rfl
  | v :: vs => by unfold wipeE; rw [List.length_set, wipeE_length vs]
theorem wipeE_at {i : Nat} {s : Sl} : ∀ {vs : List Nat}, (wipeE ρ vs)[i]? = some s → s = .no ∨ (i ∉ vs ∧ ρ[i]? = some s)
  | [], h => .inr ⟨by simp, h⟩
  | v :: vs, h => by
    unfold wipeE at h
    by_cases hi : v = i
    · subst hi
      by_cases hv : v < (wipeE ρ vs).length
      · rw [List.getElem?_set_self hv] at h; cases h; exact .inl rfl
      · rw [List.getElem?_eq_none (by simpa using hv)] at h; cases h
    · rw [List.getElem?_set_ne hi] at h
      rcases wipeE_at h with q | ⟨q1, q2⟩
      · exact .inl q
      · exact .inr ⟨by simp only [List.mem_cons, not_or]; exact ⟨fun z => hi z.symm, q1⟩, q2⟩
theorem SlOk.st {i : Nat} (h : σ'[i]? = σ[i]?) : ∀ {s : Sl}, SlOk K c o σ H i s → SlOk K c o σ' H i s
  | .no, _ => trivial
  | .lo _, ⟨v, e, q⟩ => ⟨v, h.trans e, q⟩
  | .pa _, ⟨v, e, f, q⟩ => ⟨v, h.trans e, f, q⟩
  | .hd _ _ _, ⟨e, f, q⟩ => ⟨h.trans e, f, q⟩
theorem Rep.wipe (R0 : Rep K c o σ H ρ τ) (vs : List Nat) : Rep K c o (L2.wipe σ vs) H (wipeE ρ vs) τ :=
  ⟨fun i s e => by
    rcases wipeE_at e with rfl | ⟨hi, e⟩
    · exact trivial
    · exact (R0.sl i s e).st (wipe_out hi), R0.tm, R0.mu, R0.le, by rw [wipeE_length, wipe_length]; exact R0.ln⟩
theorem SlOk.unwipe {vs : List Nat} {i : Nat} : ∀ {s : Sl}, SlOk K c o (L2.wipe σ vs) H i s → SlOk K c o σ H i s
  | .no, _ => trivial
  | .lo _, ⟨v, e, q⟩ => ⟨v, (wipe_some e).1, q⟩
  | .pa _, ⟨v, e, f, q⟩ => ⟨v, (wipe_some e).1, f, q⟩
  | .hd _ _ _, ⟨e, f, q⟩ => ⟨(wipe_some e).1, f, q⟩
theorem Rep.setS (R0 : Rep K c o σ H ρ τ) {i : Nat} {s : Sl} (h : SlOk K c o σ H i s) : Rep K c o σ H (ρ.set i s) τ := by
  refine ⟨fun j s' z => ?_, R0.tm, R0.mu, R0.le, by rw [List.length_set]; exact R0.ln⟩
  by_cases hj : i = j
  · subst hj
    by_cases hl : i < ρ.length
    · rw [List.getElem?_set_self hl] at z; cases z; exact h
    · rw [List.getElem?_eq_none (by simpa using hl)] at z; cases z
  · rw [List.getElem?_set_ne hj] at z
    exact R0.sl j s' z
theorem keepS_ok {ρ0 : Env} {o0 : Own} {H0 : Hp} {τ2 : List (V × M)} (R0 : Rep K c o0 σ H0 ρ0 τ2) (L : Le o0 H0 o H) (v : Nat) : SlOk K c o σ H v (keepS ρ0[v]?) := by
  unfold keepS
  split
  · rename_i d e
    obtain ⟨w, e1, q⟩ := R0.sl v _ e
    exact ⟨w, e1, Dat.mono L q⟩
  · rename_i d e
    obtain ⟨w, e1, e2, q⟩ := R0.sl v _ e
    exact ⟨w, e1, e2, Dat.mono L q⟩
  · exact trivial
theorem Rep.rest {ρ0 : Env} {o0 : Own} {H0 : Hp} {τ2 : List (V × M)} (R0 : Rep K c o0 σ H0 ρ0 τ2) (L : Le o0 H0 o H) {vs : List Nat} (R : Rep K c o (L2.wipe σ vs) H ρ τ) : Rep K c o σ H (restE ρ0 ρ vs) τ := by
  have R1 : Rep K c o σ H ρ τ := ⟨fun i s e => (R.sl i s e).unwipe, R.tm, R.mu, R.le, by rw [R.ln, wipe_length]⟩
  clear R
  have all : ∀ ws : List Nat, Rep K c o σ H (restE ρ0 ρ ws) τ := by
    intro ws
    induction ws with
    | nil => exact R1
    | cons v ws ih => exact ih.setS (keepS_ok R0 L v)
  exact all vs
theorem rest_out {ρ0 : Env} {i : Nat} : ∀ {vs : List Nat}, i ∉ vs → (restE ρ0 ρ vs)[i]? = ρ[i]?
  | [], _ => rfl
  | v :: vs, h => by
    unfold restE
    rw [List.getElem?_set_ne (fun z => h (by rw [z]; exact List.mem_cons_self)), rest_out fun z => h (List.mem_cons_of_mem _ z)]
/-- the last temporary is changed -/
theorem Rep.setT {a : Addr} {m m' : M} {u : HO} (R0 : Rep K c o σ H ρ (τ ++ [(.ref a, m)])) (ho : o a = some (.t τ.length)) (hu : Mut (some u)) (hm : m'.own = true) (h : IsM K o (upd H a u) (.t τ.length) (.ref a) m') :
    Rep K c o σ (upd H a u) ρ (τ ++ [(.ref a, m')]) ∧ Le o H o (upd H a u) := by
  have ne : ∀ b l, o b = some l → l ≠ .t τ.length → b ≠ a := fun b l q z w => by subst w; rw [ho] at q; cases q; exact z rfl
  have L : Le o H o (upd H a u) := ⟨fun b w q f => ⟨q, by rw [upd_ne (fun z => by subst z; rw [ho] at q; cases q)]; exact f⟩, fun b q => ⟨q, upd_ne (ne b _ q (by intro z; cases z))⟩⟩
  have kp : ∀ l, l ≠ .t τ.length → ∀ b, o b = some l → o b = some l ∧ upd H a u b = H b := fun l z b q => ⟨q, upd_ne (ne b l q z)⟩
  refine ⟨⟨fun j s' q => (R0.sl j s' q).mono L (kp _ (by intro z; cases z)) (kp _ (by intro z; cases z)), fun j v m2 q => ?_, fun b l q => ?_, R0.le.trans L, R0.ln⟩, L⟩
  · by_cases hj : j < τ.length
    · rw [List.getElem?_append_left hj] at q
      have k := R0.tm j v m2 (by rw [List.getElem?_append_left hj]; exact q)
      exact ⟨k.1.mono L (kp _ (by intro z; injection z with z; omega)), k.2⟩
    · rw [List.getElem?_append_right (by omega)] at q
      have e0 : j - τ.length = 0 := by
        cases e : j - τ.length with
        | zero => rfl
        | succ n => rw [e] at q; simp at q
      rw [e0] at q
      have e2 : j = τ.length := by omega
      subst e2
      simp at q
      obtain ⟨rfl, rfl⟩ := q
      exact ⟨h, hm⟩
  · by_cases z : b = a
    · subst z; rw [upd_same]; exact hu
    · rw [upd_ne z]; exact R0.mu b l q
def compL (b : Bd) (tq : TQ) (te : TX) (vs : List Nat) (gd : Env → Prop) (k : List D → Env → Prop) : List D → List D → Env → Prop
  | [], acc, ρ => gd ρ ∧ k acc ρ
  | d :: ds, acc, ρ => gd ρ ∧ bnd b d ρ fun ρ1 => tq ρ1 fun ok ρ2 =>
    if ok = true then tFrz (lCons te lNil) (fun xs ρ3 => match xs with
      | [x] => acc.length < sizeLine ∧ compL b tq te vs gd k ds (acc ++ [x]) (wipeE ρ3 vs)
      | _ => False) ρ2
    else compL b tq te vs gd k ds acc (wipeE ρ2 vs)
theorem comp_ok {J : It} {ds : List D} {bd : Bd} {tq : TQ} {te : TX} {vs : List Nat} {gd : Env → Prop} {k : List D → Env → Prop} {C : Own → Hp → Prop} {o1 : Own} {H1 : Hp} {Qd : Hp → Prop} {L : Addr} {acc0 : List D} (hr : Runs K J ds C) (hvs : ∀ i ∈ bd.slots, i ∈ vs)
    (hc : ∀ o' H' ρ' τ', Le o1 H1 o' H' → Rep K c o' (L2.wipe σ vs) H' ρ' τ' → gd ρ' → C o' H') (R0 : Rep K c o1 (L2.wipe σ vs) H1 ρ (τ ++ [(.ref L, .ls acc0)]))
    (h : compL bd tq te vs gd k ds acc0 ρ)
    (q : ∀ o' H' ρ' acc, Le o1 H1 o' H' → Rep K c o' (L2.wipe σ vs) H' ρ' (τ ++ [(.ref L, .ls acc)]) → gd ρ' → k acc ρ' → Qd H') :
    ∃ W : Nat → Nat → Hp → Prop, (∃ m, W 0 m H1) ∧ ∀ i m H, W i m H →
      (J.stop i H ∧ Qd H) ∨ (J.go i H ∧ ∃ Nx : Hp → Prop, (∀ H', Nx H' → ∃ m', m' < m ∧ W (i + 1) m' H') ∧ ∀ x H', J.yld i H x H' → bd.tg K x (L2.wipe σ vs) H' fun σ2 H2 => L2.wipe σ2 vs = L2.wipe σ vs ∧
        TTo K c tq σ2 H2 fun b H3 => if b = true then TEo K c te σ2 H3 fun y H4 => ∃ acc, H4 L = some (.lst acc) ∧ acc.length < sizeLine ∧ Nx (upd H4 L (.lst (acc ++ [y]))) else Nx H3) := by
  refine ⟨fun i m H => m = ds.length - i ∧ i ≤ ds.length ∧ ∃ o ρ acc, Le o1 H1 o H ∧ Rep K c o (L2.wipe σ vs) H ρ (τ ++ [(.ref L, .ls acc)]) ∧ compL bd tq te vs gd k (ds.drop i) acc ρ,
    ⟨ds.length, by simp, Nat.zero_le _, o1, ρ, acc0, .refl, R0, by simpa using h⟩, ?_⟩
  rintro i m H ⟨rfl, hi, o, ρ, acc, Lo, R, h⟩
  by_cases hlt : i < ds.length
  · have e : ds.drop i = ds[i] :: ds.drop (i + 1) := List.drop_eq_getElem_cons hlt
    rw [e] at h
    obtain ⟨hg, h⟩ := h
    obtain ⟨go, yl⟩ := (hr o H (hc o H ρ _ Lo R hg) R.mu).1 i ds[i] (by simp [hlt])
    refine .inr ⟨go, fun H' => ∃ o' ρ' acc', Le o1 H1 o' H' ∧ Rep K c o' (L2.wipe σ vs) H' ρ' (τ ++ [(.ref L, .ls acc')]) ∧ compL bd tq te vs gd k (ds.drop (i + 1)) acc' ρ',
      fun H' ⟨o', ρ', acc', L', R', h'⟩ => ⟨ds.length - (i + 1), by omega, rfl, hlt, o', ρ', acc', L', R', h'⟩, fun x H' y => ?_⟩
    obtain ⟨g, dx⟩ := yl x H' y
    refine bnd_ok (R.grow g) dx h fun σ' ρ' R' hw hf => ?_
    have hw' : L2.wipe σ' vs = L2.wipe σ vs := by rw [hw vs hvs, wipe_idem]
    have L2' : Le o1 H1 o H' := Lo.trans (g.le R.mu)
    refine ⟨hw', o, ρ', _, _, R', hf, fun b H3 o3 ρ3 L3 R3 h3 => ?_⟩
    cases b with
    | false =>
      have R4 := R3.wipe vs
      rw [hw'] at R4
      exact ⟨o3, _, acc, L2'.trans L3, R4, h3⟩
    | true =>
      rw [if_pos rfl]
      refine frz1 R3 h3 fun y H4 o4 d ρ4 L4 R4 dy h4 => ?_
      obtain ⟨h5, h4⟩ := (show acc.length < sizeLine ∧ compL bd tq te vs gd k (ds.drop (i + 1)) (acc ++ [d]) (wipeE ρ4 vs) from h4)
      obtain ⟨⟨ad, xs, e1, e2, e3, e4⟩, _⟩ := R4.tm τ.length (.ref L) (.ls acc) (by simp)
      cases e1
      have Lm : Le o4 H4 o4 (upd H4 L (.lst (xs ++ [y]))) :=
        ⟨fun b w qq f => ⟨qq, by rw [upd_ne (fun z => by subst z; rw [e2] at qq; cases qq)]; exact f⟩, fun b qq => ⟨qq, upd_ne (fun z => by subst z; rw [e2] at qq; cases qq)⟩⟩
      obtain ⟨R5, L5⟩ := R4.setT (m' := .ls (acc ++ [d])) (u := .lst (xs ++ [y])) e2 trivial rfl ⟨L, _, rfl, e2, upd_same, (e4.append (.cons dy .nil)).mono Lm⟩
      have R6 := R5.wipe vs
      rw [hw'] at R6
      exact ⟨xs, e3, by rw [e4.length]; exact h5, o4, _, _, L2'.trans (L3.trans (L4.trans L5)), R6, h4⟩
  · have e : i = ds.length := by omega
    subst e
    rw [List.drop_length] at h
    exact .inl ⟨(hr o H (hc o H ρ _ Lo R h.1) R.mu).2, q o H ρ acc Lo R h.1 h.2⟩
def tLcX (ti : TSrc) (b : Bd) (tq : TQ) (te : TX) (vs : List Nat) : TX := fun ρ Q => ti ρ fun src ρ1 => match src with
  | .fx ds => compL b tq te vs (fun _ => True) (fun acc ρ' => Q (.tm (.ls acc)) (restE ρ1 ρ' vs)) ds [] (wipeE ρ1 vs)
  | .sl i es ds => match ρ1[i]? with
    | some s => match s.m! with
      | some m => m = .ls es ∧ ∀ v, compL b tq te vs (fun ρ => ρ[i]? = some (.hd s.isP v m)) (fun acc ρ' => Q (.tm (.ls acc)) ((restE ρ1 ρ' vs).set i s)) ds [] (wipeE (ρ1.set i (.hd s.isP v m)) vs)
      | none => False
    | none => False
  | .hs i p v es ds => compL b tq te vs (fun ρ => ρ[i]? = some (.hd p v (.ls es))) (fun acc ρ' => Q (.tm (.ls acc)) (restE ρ1 ρ' vs)) ds [] (wipeE ρ1 vs)
theorem up_back {s : Sl} {m : M} (h : s.m! = some m) : (if s.isP then Sl.pa m else .lo m) = s := by
  cases s with
  | no => cases h
  | lo z => cases h; rfl
  | pa z => cases h; rfl
  | hd p v z => cases h
theorem lc_of {ti : TSrc} {bd : Bd} {tq : TQ} {te : TX} {vs : List Nat} {k : VK} (hvs : ∀ i ∈ bd.slots, i ∈ vs) (h : TEo K c (tLcX ti bd tq te vs) σ H k) : tLc (TIo K c ti) (bd.tg K) (TTo K c tq) (TEo K c te) vs σ H k := by
  obtain ⟨o, ρ, τ, Q, R0, h, q⟩ := h
  refine ⟨o, ρ, τ, _, R0, h, fun J H1 o1 ρ1 src L1 R1 ok h1 => ?_⟩
  intro L hL
  have push : ∀ {o2 : Own} {ρ2 : Env}, Rep K c o2 σ H1 ρ2 τ → Rep K c (fun b => if b = L then some (.t τ.length) else o2 b) σ (upd H1 L (.lst [])) ρ2 (τ ++ [(.ref L, .ls [])]) ∧ Le o2 H1 (fun b => if b = L then some (.t τ.length) else o2 b) (upd H1 L (.lst [])) := fun {o2 ρ2} R2 =>
    R2.push (m := .ls []) (u := .lst []) hL trivial rfl ⟨L, [], rfl, by simp, upd_same, .nil⟩
  cases src with
  | fx ds =>
    obtain ⟨R2, L2'⟩ := push R1
    refine comp_ok (C := fun o' H' => Le o1 H1 o' H') ok hvs (fun o' H' ρ' τ' L' R' _ => L2'.trans L') (R2.wipe vs) h1 fun o' H' ρ' acc L' R' _ hk => ?_
    exact q _ H' o' (.tm (.ls acc)) _ _ (L1.trans (L2'.trans L')) (Rep.rest R1 (L2'.trans L') R') rfl hk
  | sl i es ds =>
    obtain ⟨v0, hv0, ok⟩ := ok
    have h1 : (match ρ1[i]? with
      | some s => match s.m! with
        | some m => m = .ls es ∧ ∀ v, compL bd tq te vs (fun ρ => ρ[i]? = some (.hd s.isP v m)) (fun acc ρ' => Q (.tm (.ls acc)) ((restE ρ1 ρ' vs).set i s)) ds [] (wipeE (ρ1.set i (.hd s.isP v m)) vs)
        | none => False
      | none => False) := h1
    split at h1
    · rename_i s e
      split at h1
      · rename_i m em
        obtain ⟨rfl, h1⟩ := h1
        obtain ⟨v, hv, R2⟩ := R1.hide e em
        rw [hv0] at hv; cases hv
        have L2' : Le o1 H1 (relL (.s i) (.h i) o1) H1 := relL_le (by intro z; cases z)
        obtain ⟨R3, L3⟩ := push R2
        refine comp_ok (C := fun o' H' => ∃ l, IsM K o' H' l v0 (.ls es)) ok hvs (fun o' H' ρ' τ' L' R' g => ?_) (R3.wipe vs) (h1 v0) fun o' H' ρ' acc L' R' g hk => ?_
        · obtain ⟨_, _, q⟩ := R'.sl i _ g
          exact ⟨_, q⟩
        · obtain ⟨hw, _, _⟩ := R'.sl i _ g
          have hi := (wipe_some hw).2
          have R4 := Rep.rest R1 (L2'.trans (L3.trans L')) R'
          obtain ⟨R5, L5⟩ := R4.unhide (i := i) (p := s.isP) (v := v0) (m := .ls es) (by rw [rest_out hi]; exact g)
          rw [up_back em] at R5
          exact q _ H' _ (.tm (.ls acc)) _ _ (L1.trans (L2'.trans (L3.trans (L'.trans L5)))) R5 rfl hk
      · exact h1.elim
    · exact h1.elim
  | hs i p v es ds =>
    obtain ⟨R2, L2'⟩ := push R1
    refine comp_ok (C := fun o' H' => ∃ l, IsM K o' H' l v (.ls es)) ok hvs (fun o' H' ρ' τ' L' R' g => ?_) (R2.wipe vs) h1 fun o' H' ρ' acc L' R' _ hk => ?_
    · obtain ⟨_, _, q⟩ := R'.sl i _ g
      exact ⟨_, q⟩
    · exact q _ H' o' (.tm (.ls acc)) _ _ (L1.trans (L2'.trans L')) (Rep.rest R1 (L2'.trans L') R') rfl hk
def DQs (X : Cx) (c : Cc) (ifs : List Expr) (t : TQ) : Prop := PTs X ifs (TTo X.K c t)
def qYes : TQ := fun ρ Q => Q true ρ
theorem ptsImp {ifs : List Expr} {t t' : TT} (h : PTs X ifs t) (f : ∀ σ H k, t' σ H k → t σ H k) : PTs X ifs t' := ⟨fun pins s σ H Q I q => h.run pins s σ H Q I (f _ _ _ q)⟩
theorem dq_nil : DQs X c [] qYes := ptsImp pts_nil fun σ H k ⟨o, ρ, τ, Q, R0, h, q⟩ => q true H o ρ .refl R0 h
theorem dq_one {cond : Expr} {tq : TQ} (h : DT X c cond tq) : DQs X c [cond] tq := pts_one h
section
variable {elt tg iter : Expr} {ifs : List Expr} {scope : Scope} {own : List (Str × Nat)} {ti : TSrc} {bd : Bd} {tq : TQ} {te : TX}
theorem de_lc (hc : X.calm = true) (hN : X.N.Nodup) (hi : DI X c tg iter ti) (ok : blkC X.N X.env.scope scope own = true)
    (hg : ∀ (s : Shared) (H : Hp) (C : Addr) (cl : List (Str × Addr)) (fp : List Addr), PG (X.blk s H scope (compEnvC scope cl C X.env) fp) tg (bd.tg X.K))
    (ht : ∀ (s : Shared) (H : Hp) (C : Addr) (cl : List (Str × Addr)) (fp : List Addr), DQs (X.blk s H scope (compEnvC scope cl C X.env) fp) c ifs tq)
    (he : ∀ (s : Shared) (H : Hp) (C : Addr) (cl : List (Str × Addr)) (fp : List Addr), DE (X.blk s H scope (compEnvC scope cl C X.env) fp) c elt te)
    (hvs : ∀ i ∈ bd.slots, i ∈ own.map (·.2) := by decide) (hs : ∀ x, foldedSetIterable iter X.env x = pure x := by intro _; rfl) : DE X c (.ListComp elt [⟨tg, iter, ifs, 0⟩] scope pos) (tLcX ti bd tq te (own.map (·.2))) :=
  peImp (pe_lc (tt := TTo X.K c tq) (te := TEo X.K c te) hc hN hi (blkOk_by ok) hg ht he hs) fun σ H k h => lc_of hvs h
theorem ds_setLc {i : Nat} {y : Str} {py spos : Pos} (hc : X.calm = true) (hN : X.N.Nodup) (hsw : swapsWith (.ListComp elt [⟨tg, iter, ifs, 0⟩] scope pos) (some (.Name y py)) spos.line X.env = pure true) (hi : DI X c tg iter ti) (ok : blkC X.N X.env.scope scope own = true)
    (hg : ∀ (s : Shared) (H : Hp) (C : Addr) (cl : List (Str × Addr)) (fp : List Addr), PG (X.blk s H scope (compEnvC scope cl C X.env) fp) tg (bd.tg X.K))
    (ht : ∀ (s : Shared) (H : Hp) (C : Addr) (cl : List (Str × Addr)) (fp : List Addr), DQs (X.blk s H scope (compEnvC scope cl C X.env) fp) c ifs tq)
    (he : ∀ (s : Shared) (H : Hp) (C : Addr) (cl : List (Str × Addr)) (fp : List Addr), DE (X.blk s H scope (compEnvC scope cl C X.env) fp) c elt te)
    (hy : X.N[i]? = some y := by rfl) (hyl : X.env.scope.names.lookup y = some .local := by rfl) (hvs : ∀ i ∈ bd.slots, i ∈ own.map (·.2) := by decide) (hs : ∀ x, foldedSetIterable iter X.env x = pure x := by intro _; rfl) :
    DS X c (.Assign [.Name y py] (.ListComp elt [⟨tg, iter, ifs, 0⟩] scope pos) spos) (sAsg i (tLcX ti bd tq te (own.map (·.2)))) :=
  psImp (ps_setLc (tt := TTo X.K c tq) (te := TEo X.K c te) hc hN hy hyl hsw hi (blkOk_by ok) hg ht he hs) fun D σ H h => lc_of hvs (sAsg_of h)
end
end
end Y
namespace Y
open PySem PySem.Spec L2

/-! ### calls of the text's own defs -/
def Keep (o : Own) (H : Hp) (o' : Own) (H' : Hp) : Prop := ∀ b u, o b = none → H b = some u → o' b = none ∧ H' b = some u
section
variable {K : PySem.W.Frag} {o o' : Own} {H H' : Hp} {l l' : Lb} {v : V}
mutual
theorem Dat.monoK (L : Keep o H o' H') : ∀ {v : V} {d : D}, Dat K o H v d → Dat K o' H' v d
  | _, _, .non => .non
  | _, _, .bl b => .bl b
  | _, _, .int b => .int b
  | _, _, .str b => .str b
  | _, _, .raw b => .raw b
  | _, _, .tup h r => .tup (L _ _ h.1 h.2) (Dats.monoK L r)
  | _, _, .lst e h r => .lst (L _ _ e h).1 (L _ _ e h).2 (Dats.monoK L r)
theorem Dats.monoK (L : Keep o H o' H') : ∀ {v : List V} {d : List D}, Dats K o H v d → Dats K o' H' v d
  | _, _, .nil => .nil
  | _, _, .cons a r => .cons (Dat.monoK L a) (Dats.monoK L r)
end
theorem Kvs.monoK {κ : Type} (L : Keep o H o' H') {ks : List (κ × V)} {kvs : List (κ × D)} (h : Kvs K o H ks kvs) : Kvs K o' H' ks kvs :=
  Paired.mapP h fun _ _ z => ⟨z.1, z.2.monoK L⟩
/-- data, or an object that is owned -/
def M.fit : M → Bool
  | .im _ => true
  | m => m.own
theorem IsM.monoK (L : Keep o H o' H') (h : ∀ a, o a = some l → o' a = some l' ∧ H' a = H a) : ∀ {m : M}, m.fit = true → IsM K o H l v m → IsM K o' H' l' v m
  | .im _, _, q => Dat.monoK L q
  | .ls _, _, ⟨a, xs, e, f, g, q⟩ => ⟨a, xs, e, (h a f).1, (h a f).2.trans g, q.monoK L⟩
  | .rd _, _, ⟨a, xs, e, f, g, q⟩ => ⟨a, xs, e, (h a f).1, (h a f).2.trans g, q.monoK L⟩
  | .dk _, _, ⟨a, xs, e, f, g, q⟩ => ⟨a, xs, e, (h a f).1, (h a f).2.trans g, Kvs.monoK L q⟩
  | .dt _, _, ⟨a, xs, e, f, g, q⟩ => ⟨a, xs, e, (h a f).1, (h a f).2.trans g, Kvs.monoK L q⟩
end

/-- what a def promises: its parameters' data and objects; what it hands back, and what its parameters' objects are then -/
abbrev TF := List M → (M → List (Option M) → Prop) → Prop
structure ArgsOk (K : PySem.W.Frag) (o : Own) (H : Hp) (vs : List V) (ms : List M) : Prop where
  len : vs.length = ms.length
  at_ : ∀ (i : Nat) v m, vs[i]? = some v → ms[i]? = some m → IsM K o H (.s i) v m
  mu : ∀ a l, o a = some l → Mut (H a)
def FinOk (K : PySem.W.Frag) (o : Own) (H : Hp) (vs : List V) (fin : List (Option M)) : Prop := ∀ (i : Nat) v m, vs[i]? = some v → fin[i]? = some (some m) → IsM K o H (.s i) v m
def spD (K : PySem.W.Frag) (F : TF) (n : Nat) : Sp := fun vs H Q _ => ∃ o ms G, vs.length = n ∧ ArgsOk K o H vs ms ∧ F ms G ∧
  ∀ v H' o' m fin, Le o H o' H' → (∀ a l, o' a = some l → Mut (H' a)) → IsM K o' H' (.t 0) v m → FinOk K o' H' vs fin → G m fin → Q v H'

/-! ### at a call -/
def argS : Option Sl → Option M
  | some (.lo m) => some m
  | some (.pa m) => some m
  | some (.hd _ _ (.ls ds)) => some (.sq ds)
  | _ => none
def argM (ρ : Env) : R → Option M
  | .im d => some (.im d)
  | .tm m => some m
  | .sl i => argS ρ[i]?
def argMs (ρ : Env) : List R → Option (List M)
  | [] => some []
  | r :: rs => match argM ρ r, argMs ρ rs with
    | some m, some ms => some (m :: ms)
    | _, _ => none
def slots : List R → List Nat
  | [] => []
  | .sl i :: rs => i :: slots rs
  | _ :: rs => slots rs
def putS (f : Option M) : Option Sl → Option Sl
  | some (.lo m) => if m.own = true then some (match f with
      | some m' => if m'.fit = true then .lo m' else .no
      | none => .no) else none
  | some (.pa m) => if m.own = true then some (match f with
      | some m' => if m'.fit = true then .pa m' else .no
      | none => .no) else none
  | _ => none
def stepB (i : Nat) (f : Option M) (ρ : Env) : Env := match putS f ρ[i]? with
  | some s => ρ.set i s
  | none => ρ
def putB : List R → List (Option M) → Env → Env
  | .sl i :: rs, fs, ρ => putB rs fs.tail (stepB i fs.head?.join ρ)
  | _ :: rs, fs, ρ => putB rs fs.tail ρ
  | [], _, ρ => ρ
def tCall (F : TF) (n : Nat) (ta : TL) : TX := fun ρ Q => ta ρ fun rs ρ1 => match argMs ρ1 rs with
  | some ms => rs.length = n ∧ (slots rs).Nodup ∧ F ms fun m fin => m.fit = true ∧ Q m.res (putB rs fin ρ1)
  | none => False
/-- which argument an object is: its label tells -/
def labIx : List R → Nat → Nat → Lb → Option Nat
  | [], _, _, _ => none
  | .sl i :: rs, n, k, l => if l = .s i then some k else labIx rs n (k + 1) l
  | .tm _ :: rs, n, k, l => if l = .t n then some k else labIx rs (n + 1) (k + 1) l
  | .im _ :: rs, n, k, l => labIx rs n (k + 1) l
def ownC (rs : List R) (n : Nat) (o : Own) : Own := fun a => match o a with
  | none => none
  | some l => match labIx rs n 0 l with
    | some k => some (.s k)
    | none => some .x
def ownB (rs : List R) (n : Nat) (o o' : Own) : Own := fun a => match o' a with
  | none => none
  | some .x => o a
  | some (.s k) => match rs[k]? with
    | some (.sl i) => some (.s i)
    | _ => none
  | some (.t 0) => some (.t n)
  | _ => none
theorem labIx_ge : ∀ {rs : List R} {n k : Nat} {l : Lb} {j : Nat}, labIx rs n k l = some j → k ≤ j
  | .sl i :: rs, n, k, l, j, h => by
    unfold labIx at h
    split at h
    · cases h; exact Nat.le_refl _
    · exact Nat.le_of_succ_le (labIx_ge h)
  | .tm _ :: rs, n, k, l, j, h => by
    unfold labIx at h
    split at h
    · cases h; exact Nat.le_refl _
    · exact Nat.le_of_succ_le (labIx_ge h)
  | .im _ :: rs, n, k, l, j, h => by
    unfold labIx at h
    exact Nat.le_of_succ_le (labIx_ge h)
theorem labIx_s {i : Nat} : ∀ {rs : List R} {n k : Nat}, i ∉ slots rs → labIx rs n k (.s i) = none
  | [], _, _, _ => rfl
  | .sl j :: rs, n, k, h => by
    have h1 : i ≠ j := fun e => h (by rw [e]; exact List.mem_cons_self)
    have h2 : i ∉ slots rs := fun m => h (List.mem_cons_of_mem _ m)
    unfold labIx
    rw [if_neg (by intro z; injection z with z; exact h1 z), labIx_s h2]
  | .tm _ :: rs, n, k, h => by unfold labIx; rw [if_neg (by intro z; cases z)]; exact labIx_s h
  | .im _ :: rs, n, k, h => by unfold labIx; exact labIx_s h
theorem labIx_lt {j : Nat} : ∀ {rs : List R} {n k : Nat}, j < n → labIx rs n k (.t j) = none
  | [], _, _, _ => rfl
  | .sl _ :: rs, n, k, h => by unfold labIx; rw [if_neg (by intro z; cases z)]; exact labIx_lt h
  | .tm _ :: rs, n, k, h => by unfold labIx; rw [if_neg (by intro z; injection z with z; omega)]; exact labIx_lt (by omega)
  | .im _ :: rs, n, k, h => by unfold labIx; exact labIx_lt h
theorem labIx_h {i : Nat} : ∀ {rs : List R} {n k : Nat}, labIx rs n k (.h i) = none
  | [], _, _ => rfl
  | .sl _ :: rs, n, k => by unfold labIx; rw [if_neg (by intro z; cases z)]; exact labIx_h
  | .tm _ :: rs, n, k => by unfold labIx; rw [if_neg (by intro z; cases z)]; exact labIx_h
  | .im _ :: rs, n, k => by unfold labIx; exact labIx_h
theorem labIx_x : ∀ {rs : List R} {n k : Nat}, labIx rs n k .x = none
  | [], _, _ => rfl
  | .sl _ :: rs, n, k => by unfold labIx; rw [if_neg (by intro z; cases z)]; exact labIx_x
  | .tm _ :: rs, n, k => by unfold labIx; rw [if_neg (by intro z; cases z)]; exact labIx_x
  | .im _ :: rs, n, k => by unfold labIx; exact labIx_x
theorem mem_slots {i : Nat} : ∀ {rs : List R}, R.sl i ∈ rs → i ∈ slots rs
  | [], h => by cases h
  | .sl j :: rs, h => by
    rcases List.mem_cons.mp h with e | h
    · cases e; exact List.mem_cons_self
    · exact List.mem_cons_of_mem _ (mem_slots h)
  | .tm m :: rs, h => by
    rcases List.mem_cons.mp h with e | h
    · cases e
    · exact mem_slots (rs := rs) h
  | .im d :: rs, h => by
    rcases List.mem_cons.mp h with e | h
    · cases e
    · exact mem_slots (rs := rs) h
section
variable {K : PySem.W.Frag} {c : Cc} {o o' : Own} {σ σ' : St} {H H' : Hp} {ρ ρ' : Env} {τ τ' τ0 τ1 : List (V × M)} {X : Cx} {e a b : Expr} {es : List Expr} {pos : Pos} {t u : TX} {P : EndP} {D' : Ends}
theorem ownC_le {rs : List R} {n : Nat} : Le o H (ownC rs n o) H :=
  ⟨fun b u e f => ⟨by unfold ownC; rw [e], f⟩, fun b e => ⟨by unfold ownC; rw [e]; simp only [labIx_x], rfl⟩⟩
/-- the arguments, as the callee sees them -/
theorem args_ok {rsA : List R} {n : Nat} (R0 : Rep K c o σ H ρ τ) : ∀ {vs : List V} {rs : List R} {ms : List M} {τ0 τ1 : List (V × M)} {k : Nat}, RelRs K o H σ vs rs τ0 τ1 → τ1 <+: τ → argMs ρ rs = some ms → (slots rs).Nodup →
    (∀ l, labIx rs τ0.length k l ≠ none → labIx rsA n 0 l = labIx rs τ0.length k l) → ∀ (j : Nat) v m, vs[j]? = some v → ms[j]? = some m → IsM K (ownC rsA n o) H (.s (k + j)) v m
  | _, _, ms, _, _, k, .nil, _, e, _, _ => fun j v m e1 e2 => by simp at e1
  | _, _, ms, τ0, τ1, k, .cons (v := v0) (vs := vs) (r := r) (rs := rs) (τ1 := τ2) z zs, p, e, nd, A => fun j v m e1 e2 => by
    unfold argMs at e
    split at e
    · rename_i m0 ms0 em ems
      cases e
      have L : Le o H (ownC rsA n o) H := ownC_le
      cases j with
      | zero =>
        simp at e1 e2
        subst e1 e2
        rw [Nat.add_zero]
        cases r with
        | im d => cases em; exact Dat.mono L z.2
        | tm m1 =>
          cases em
          have e3 : τ2 = τ0 ++ [(v0, m0)] := z
          obtain ⟨w, hw⟩ := zs.pre.trans p
          have q : IsM K o H (.t τ0.length) v0 m0 := (R0.tm τ0.length v0 m0 (by rw [← hw, e3]; simp)).1
          refine q.mono L fun a ho => ⟨?_, rfl⟩
          have f : labIx (.tm m0 :: rs) τ0.length k (.t τ0.length) = some k := by unfold labIx; rw [if_pos rfl]
          have g := A (.t τ0.length) (by rw [f]; intro z; cases z)
          unfold ownC; rw [ho]; simp only [g, f]
        | sl i =>
          obtain ⟨_, hs⟩ := z
          have f : labIx (.sl i :: rs) τ0.length k (.s i) = some k := by unfold labIx; rw [if_pos rfl]
          have g := A (.s i) (by rw [f]; intro z; cases z)
          have em : argS ρ[i]? = some m0 := em
          unfold argS at em
          split at em
          · rename_i m1 es
            cases em
            obtain ⟨w, e3, q⟩ := R0.sl i _ es
            rw [hs] at e3; cases e3
            exact q.mono L fun a ho => ⟨by unfold ownC; rw [ho]; simp only [g, f], rfl⟩
          · rename_i m1 es
            cases em
            obtain ⟨w, e3, _, q⟩ := R0.sl i _ es
            rw [hs] at e3; cases e3
            exact q.mono L fun a ho => ⟨by unfold ownC; rw [ho]; simp only [g, f], rfl⟩
          · rename_i p1 w1 ds es
            cases em
            obtain ⟨e3, _, ad, xs, rfl, q1, q2, q3⟩ := R0.sl i _ es
            rw [hs] at e3; cases e3
            refine ⟨ad, xs, rfl, .inl ⟨.inr ?_, .inl q2⟩, q3.mono L⟩
            unfold ownC; rw [q1]; simp only [labIx_h]
          · cases em
      | succ j =>
        have e1' : vs[j]? = some v := by simpa using e1
        have e2' : ms0[j]? = some m := by simpa using e2
        have nd' : (slots rs).Nodup := by
          cases r with
          | im d => exact nd
          | tm m1 => exact nd
          | sl i => exact (List.nodup_cons.mp nd).2
        have A' : ∀ l, labIx rs τ2.length (k + 1) l ≠ none → labIx rsA n 0 l = labIx rs τ2.length (k + 1) l := fun l hl => by
          cases r with
          | im d =>
            have e3 : τ2 = τ0 := z.1
            subst e3
            have f : labIx (.im d :: rs) τ2.length k l = labIx rs τ2.length (k + 1) l := rfl
            rw [← f] at hl ⊢
            exact A l hl
          | tm m1 =>
            have e3 : τ2 = τ0 ++ [(v0, m1)] := z
            have e4 : τ2.length = τ0.length + 1 := by rw [e3]; simp
            rw [e4] at hl ⊢
            have ne : l ≠ .t τ0.length := fun z => by subst z; exact hl (labIx_lt (Nat.lt_succ_self _))
            have f : labIx (.tm m1 :: rs) τ0.length k l = labIx rs (τ0.length + 1) (k + 1) l := by
              conv => lhs; unfold labIx
              rw [if_neg ne]
            rw [← f] at hl ⊢
            exact A l hl
          | sl i =>
            have e3 : τ2 = τ0 := z.1
            subst e3
            have ne : l ≠ .s i := fun z => by subst z; exact hl (labIx_s (List.nodup_cons.mp nd).1)
            have f : labIx (.sl i :: rs) τ2.length k l = labIx rs τ2.length (k + 1) l := by
              conv => lhs; unfold labIx
              rw [if_neg ne]
            rw [← f] at hl ⊢
            exact A l hl
        have q := args_ok R0 (k := k + 1) zs p ems nd' A' j v m e1' e2'
        have e5 : k + 1 + j = k + (j + 1) := by omega
        rw [e5] at q
        exact q
    · cases e
theorem argMs_length : ∀ {rs : List R} {ms : List M}, argMs ρ rs = some ms → ms.length = rs.length
  | [], _, e => by simp [argMs] at e; subst e; rfl
  | r :: rs, _, e => by
    unfold argMs at e
    split at e
    · rename_i m ms _ e2
      cases e
      rw [List.length_cons, List.length_cons, argMs_length e2]
    · cases e
theorem ownC_mu {rs : List R} {n : Nat} (mu : ∀ a l, o a = some l → Mut (H a)) : ∀ a l, ownC rs n o a = some l → Mut (H a) := fun a l e => by
  unfold ownC at e
  split at e
  · cases e
  · rename_i l' h; exact mu a _ h
/-- behind the call -/
theorem ownB_mu {rs : List R} {n : Nat} (mu : ∀ a l, o' a = some l → Mut (H' a)) : ∀ a l, ownB rs n o o' a = some l → Mut (H' a) := fun a l e => by
  unfold ownB at e
  split at e
  · cases e
  · rename_i h; exact mu a _ h
  · rename_i k h; exact mu a _ h
  · rename_i h; exact mu a _ h
  · cases e
theorem ownB_le {rs : List R} {n : Nat} (L : Le (ownC rs n o) H o' H') : Le o H (ownB rs n o o') H' :=
  ⟨fun b u e f => by
    obtain ⟨e1, f1⟩ := L.keep b u (by unfold ownC; rw [e]) f
    exact ⟨by unfold ownB; rw [e1], f1⟩,
   fun b e => by
    obtain ⟨e1, f1⟩ := L.ext b (by unfold ownC; rw [e]; simp only [labIx_x])
    exact ⟨by unfold ownB; rw [e1]; exact e, f1⟩⟩
theorem ownB_keep {rs : List R} {n : Nat} : Keep o' H' (ownB rs n o o') H' := fun b u e f => ⟨by unfold ownB; rw [e], f⟩
theorem ownB_other {rs : List R} {n : Nat} (L : Le (ownC rs n o) H o' H') {l : Lb} (h : labIx rs n 0 l = none) {a : Addr} (e : o a = some l) : ownB rs n o o' a = some l ∧ H' a = H a := by
  obtain ⟨e1, f1⟩ := L.ext a (by unfold ownC; rw [e]; simp only [h])
  exact ⟨by unfold ownB; rw [e1]; exact e, f1⟩
theorem back_ok {rsA : List R} {n : Nat} {oc : Own} (R0 : Rep K c o σ H ρ τ) (L : Le (ownC rsA n o) H oc H') : ∀ {vs : List V} {rs : List R} {fs : List (Option M)} {τ0 τ1 : List (V × M)} {k : Nat} {ρc : Env}, RelRs K o H σ vs rs τ0 τ1 → (slots rs).Nodup →
    (∀ j r, rs[j]? = some r → rsA[k + j]? = some r) → (∀ (j : Nat) v m, vs[j]? = some v → fs[j]? = some (some m) → IsM K oc H' (.s (k + j)) v m) → ρc.length = ρ.length →
    (∀ j, (j ∈ slots rs → ρc[j]? = ρ[j]?) ∧ (j ∉ slots rs → ∀ s, ρc[j]? = some s → SlOk K c (ownB rsA n o oc) σ H' j s)) →
    (putB rs fs ρc).length = ρ.length ∧ ∀ j s, (putB rs fs ρc)[j]? = some s → SlOk K c (ownB rsA n o oc) σ H' j s
  | _, _, fs, _, _, k, ρc, .nil, nd, hr, hf, hl, hP => ⟨hl, fun j s q => (hP j).2 (by simp [slots]) s q⟩
  | _, _, fs, τ0, τ1, k, ρc, .cons (v := v0) (vs := vs) (r := r) (rs := rs) (τ1 := τ2) z zs, nd, hr, hf, hl, hP => by
    have hf' : ∀ (j : Nat) v m, vs[j]? = some v → fs.tail[j]? = some (some m) → IsM K oc H' (.s (k + 1 + j)) v m := fun j v m e1 e2 => by
      cases fs with
      | nil => simp at e2
      | cons f fs' =>
        have := hf (j + 1) v m (by simpa using e1) (by simpa using e2)
        rw [show k + 1 + j = k + (j + 1) by omega]; exact this
    have tl : ∀ {ρ2 : Env}, (slots rs).Nodup → ρ2.length = ρ.length →
        (∀ j, (j ∈ slots rs → ρ2[j]? = ρ[j]?) ∧ (j ∉ slots rs → ∀ s, ρ2[j]? = some s → SlOk K c (ownB rsA n o oc) σ H' j s)) → (putB rs fs.tail ρ2).length = ρ.length ∧ ∀ j s, (putB rs fs.tail ρ2)[j]? = some s → SlOk K c (ownB rsA n o oc) σ H' j s :=
      fun {ρ2} nd2 h2 h3 => back_ok R0 L (k := k + 1) zs nd2 (fun j r' e => by have := hr (j + 1) r' (by simpa using e); rw [show k + 1 + j = k + (j + 1) by omega]; exact this) hf' h2 h3
    cases r with
    | im d => exact tl nd hl hP
    | tm m1 => exact tl nd hl hP
    | sl i =>
      obtain ⟨_, hs⟩ := z
      have ndi := List.nodup_cons.mp nd
      have hi : ρc[i]? = ρ[i]? := (hP i).1 List.mem_cons_self
      have hrk : rsA[k]? = some (.sl i) := hr 0 _ rfl
      have LB : Le o H (ownB rsA n o oc) H' := ownB_le L
      have hq : ∀ m, fs.head?.join = some m → IsM K oc H' (.s k) v0 m := fun m e => by
        cases fs with
        | nil => cases e
        | cons f fs' => exact hf 0 v0 m rfl (by simpa using e)
      have fin1 : ∀ m', fs.head?.join = some m' → m'.fit = true → IsM K (ownB rsA n o oc) H' (.s i) v0 m' := fun m' ef hfit =>
        (hq m' ef).monoK ownB_keep (fun a q => ⟨by unfold ownB; rw [q]; simp only [hrk], rfl⟩) hfit
      have nown : ∀ m, ¬ m.own = true → IsM K o H (.s i) v0 m → IsM K (ownB rsA n o oc) H' (.s i) v0 m := fun m hm q => by
        cases m with
        | im d => exact Dat.mono LB q
        | sq ds => obtain ⟨ad, xs, e1, e2, e3⟩ := q; exact ⟨ad, xs, e1, e2.mono LB, e3.mono LB⟩
        | ls ds => exact absurd rfl hm
        | rd ds => exact absurd rfl hm
        | dk ds => exact absurd rfl hm
        | dt ds => exact absurd rfl hm
      refine tl ndi.2 ?_ fun j => ⟨fun hj => ?_, fun hj s e => ?_⟩
      · unfold stepB
        split
        · rw [List.length_set]; exact hl
        · exact hl
      · have ne : i ≠ j := fun z => by subst z; exact ndi.1 hj
        have q := (hP j).1 (List.mem_cons_of_mem _ hj)
        unfold stepB
        split
        · rw [List.getElem?_set_ne ne]; exact q
        · exact q
      · by_cases ne : i = j
        · subst ne
          unfold stepB at e
          rw [hi] at e
          cases es : ρ[i]? with
          | none =>
            rw [es] at e
            simp only [putS] at e
            rw [hi, es] at e; cases e
          | some s0 =>
            have k0 := R0.sl i s0 es
            have hlt : i < ρc.length := by rw [hl]; exact (List.getElem?_eq_some_iff.mp es).1
            rw [es] at e
            cases s0 with
            | no => simp only [putS] at e; rw [hi, es] at e; cases e; exact trivial
            | hd p w m =>
              simp only [putS] at e; rw [hi, es] at e; cases e
              obtain ⟨e1, e2, q⟩ := k0
              exact ⟨e1, e2, q.mono LB fun a q => ownB_other L labIx_h q⟩
            | lo m =>
              obtain ⟨w, e1, q⟩ := k0
              rw [hs] at e1; cases e1
              by_cases hm : m.own = true
              · simp only [putS, hm, if_true] at e
                rw [List.getElem?_set_self hlt] at e
                cases e
                split
                · rename_i m' ef
                  split
                  · rename_i hfit; exact ⟨v0, hs, fin1 m' ef hfit⟩
                  · exact trivial
                · exact trivial
              · simp only [putS, hm, Bool.false_eq_true, if_false] at e
                rw [hi, es] at e; cases e
                exact ⟨v0, hs, nown m hm q⟩
            | pa m =>
              obtain ⟨w, e1, e2, q⟩ := k0
              rw [hs] at e1; cases e1
              by_cases hm : m.own = true
              · simp only [putS, hm, if_true] at e
                rw [List.getElem?_set_self hlt] at e
                cases e
                split
                · rename_i m' ef
                  split
                  · rename_i hfit; exact ⟨v0, hs, e2, fin1 m' ef hfit⟩
                  · exact trivial
                · exact trivial
              · simp only [putS, hm, Bool.false_eq_true, if_false] at e
                rw [hi, es] at e; cases e
                exact ⟨v0, hs, e2, nown m hm q⟩
        · have q := (hP j).2 (by simp only [slots, List.mem_cons, not_or]; exact ⟨fun z => ne z.symm, hj⟩) s
          unfold stepB at e
          split at e
          · rw [List.getElem?_set_ne ne] at e; exact q e
          · exact q e
section
variable {F : TF} {n k : Nat} {f : Addr} {fd : FuncData} {ps : List Str} {x : Str} {p : Pos} {ta : TL}
theorem tCall_of {kk : VK} (h : TEo K c (tCall F n ta) σ H kk) : L2.tCall (spD K F n) [] E0 (TAo K c ta) σ H kk := by
  obtain ⟨o, ρ, τ, Q, R0, h, q⟩ := h
  refine ⟨o, ρ, τ, _, R0, h, fun vs H1 o1 rs ρ1 τ1 L1 R1 z1 h1 => ?_⟩
  show spD K F n (vs ++ []) H1 kk E0
  rw [List.append_nil]
  split at h1
  · rename_i ms em
    obtain ⟨hn, nd, hF⟩ := h1
    have A := args_ok (rsA := rs) (n := τ.length) R1 (k := 0) z1 List.prefix_rfl em nd (fun l _ => rfl)
    refine ⟨ownC rs τ.length o1, ms, _, z1.length.trans hn, ⟨by rw [argMs_length em, z1.length], fun i v m e1 e2 => by have := A i v m e1 e2; rwa [Nat.zero_add] at this, ownC_mu R1.mu⟩, hF, fun v H2 o2 m fin L2 mu2 im fo hG => ?_⟩
    obtain ⟨hfit, hG⟩ := hG
    have LB : Le o1 H1 (ownB rs τ.length o1 o2) H2 := ownB_le L2
    obtain ⟨b1, b2⟩ := back_ok (rsA := rs) (n := τ.length) (oc := o2) R1 L2 (k := 0) (fs := fin) (ρc := ρ1) z1 nd (fun j r e => by rw [Nat.zero_add]; exact e) (fun j v m e1 e2 => by rw [Nat.zero_add]; exact fo j v m e1 e2) rfl
      fun j => ⟨fun _ => rfl, fun hj s e => (R1.sl j s e).mono LB (fun a q => ownB_other L2 (labIx_s hj) q) fun a q => ownB_other L2 labIx_h q⟩
    obtain ⟨tt, htt⟩ := z1.pre
    have RB : Rep K c (ownB rs τ.length o1 o2) σ H2 (putB rs fin ρ1) τ := by
      refine ⟨b2, fun j w m' e => ?_, ownB_mu mu2, R1.le.trans LB, by rw [b1]; exact R1.ln⟩
      have hj : j < τ.length := (List.getElem?_eq_some_iff.mp e).1
      have q := R1.tm j w m' (by rw [← htt, List.getElem?_append_left hj]; exact e)
      exact ⟨q.1.mono LB fun a z => ownB_other L2 (labIx_lt hj) z, q.2⟩
    have io : IsM K (ownB rs τ.length o1 o2) H2 (.t τ.length) v m := im.monoK ownB_keep (fun a z => ⟨by unfold ownB; rw [z]; rfl, rfl⟩) hfit
    have own : m.own = true → m.res = .tm m → kk v H2 := fun e1 e2 => by
      rw [e2] at hG
      refine q v H2 _ (.tm m) _ (τ ++ [(v, m)]) (L1.trans LB) ⟨RB.sl, fun j w m' e => ?_, RB.mu, RB.le, RB.ln⟩ rfl hG
      by_cases hj : j < τ.length
      · rw [List.getElem?_append_left hj] at e; exact RB.tm j w m' e
      · rw [List.getElem?_append_right (by omega)] at e
        have e0 : j - τ.length = 0 := by
          cases y : j - τ.length with
          | zero => rfl
          | succ y' => rw [y] at e; simp at e
        rw [e0] at e
        have e3 : j = τ.length := by omega
        subst e3
        simp at e
        obtain ⟨rfl, rfl⟩ := e
        exact ⟨io, e1⟩
    cases m with
    | im d => exact q v H2 _ (.im d) _ τ (L1.trans LB) RB ⟨rfl, io⟩ hG
    | sq ds => cases hfit
    | ls ds => exact own rfl rfl
    | rd ds => exact own rfl rfl
    | dk ds => exact own rfl rfl
    | dt ds => exact own rfl rfl
  · exact h1.elim
theorem de_call (G : FnOk X.prog X.w X.K X.mg X.base CX0 k f fd ps (spD X.K F n)) (hr : Room k X.A) (hg : Gl X x) (hm : X.mg x = some (.ref f)) (hk : PySem.W.keepIn X.K (.ref f) = true) (hb : Binds X.K fd ps [])
    (ha : DA X c (e :: es) ta) (hdb : (x == ("__debug__" : Str)) = false := by decide) (he : starEach (e :: es) X.env = (false, eval e X.env) :: starEach es X.env := by rfl) (hpl : (backTo pos (starEach es X.env)).any (·.1) = false := by rfl) :
    DE X c (.Call (.Name x p) (e :: es) [] pos) (tCall F n ta) := peImp (pe_call G hr hg hm hk hb .nil pass0 ha hdb he hpl) fun σ H k h => tCall_of h
end

/-! ### a def, by its body -/
def Sl.fin : Sl → Option M
  | .pa m => some m
  | .hd true _ m => some m
  | _ => none
def fins (n : Nat) (ρ : Env) : List (Option M) := (ρ.take n).map Sl.fin
def envOf (N n : Nat) (ms : List M) : Env := ms.map Sl.pa ++ List.replicate (N - n) .no
def unH (o : Own) : Own := fun a => match o a with
  | some (.h i) => some (.s i)
  | l => l
theorem unH_le : Le o H (unH o) H := ⟨fun b u e f => ⟨by unfold unH; rw [e], f⟩, fun b e => ⟨by unfold unH; rw [e], rfl⟩⟩
theorem rep_start {vs : List V} {ms : List M} {N : List Str} (h : ArgsOk K o H vs ms) : Rep K ⟨o, H, vs⟩ o (L2.start N vs) H (envOf N.length vs.length ms) [] := by
  refine ⟨fun i s e => ?_, fun j v m e => by simp at e, h.mu, .refl, by unfold envOf L2.start; simp [h.len]⟩
  unfold envOf at e
  by_cases hi : i < ms.length
  · rw [List.getElem?_append_left (by simpa using hi), List.getElem?_map, List.getElem?_eq_getElem hi] at e
    cases e
    have hv : i < vs.length := by rw [h.len]; exact hi
    refine ⟨vs[i], ?_, List.getElem?_eq_getElem hv, h.at_ i _ _ (List.getElem?_eq_getElem hv) (List.getElem?_eq_getElem hi)⟩
    unfold L2.start
    rw [List.getElem?_append_left (by simpa using hv), List.getElem?_map, List.getElem?_eq_getElem hv]; rfl
  · rw [List.getElem?_append_right (by simpa using hi), List.getElem?_replicate] at e
    split at e
    · cases e; exact trivial
    · cases e
theorem fins_ok {vs : List V} {oo : Own} {H0 : Hp} (R0 : Rep K ⟨oo, H0, vs⟩ o σ H ρ []) (n : Nat) : FinOk K (unH o) H vs (fins n ρ) := fun i v m e1 e2 => by
  unfold fins at e2
  rw [List.getElem?_map, List.getElem?_take] at e2
  split at e2
  · cases es : ρ[i]? with
    | none => rw [es] at e2; cases e2
    | some s =>
      rw [es] at e2
      have k := R0.sl i s es
      cases s with
      | no => cases e2
      | lo m => cases e2
      | pa m' =>
        cases e2
        obtain ⟨w, _, e3, q⟩ := k
        rw [e1] at e3; cases e3
        exact q.mono unH_le fun a z => ⟨by unfold unH; rw [z], rfl⟩
      | hd p w m' =>
        cases p with
        | false => cases e2
        | true =>
          cases e2
          obtain ⟨_, e3, q⟩ := k
          have e3 := e3 rfl
          rw [e1] at e3; cases e3
          exact q.mono unH_le fun a z => ⟨by unfold unH; rw [z], rfl⟩
  · cases e2
/-- what the body is to do -/
def Body (F : TF) (N n : Nat) (T : TSX) : Prop := ∀ ms G, ms.length = n → F ms G → T { nx := fun ρ => G (.im .non) (fins n ρ), rt := fun m ρ => G m (fins n ρ) } (envOf N n ms)
theorem fn_ok {Pg : Program} {w : World} {mg : Str → Option Value} {base : Heap} {x qual : Str} {st : Stmt} {f : Addr} {fd : FuncData} {N ps : List Str} {k : Nat} {F : TF} {T : TSX} (Fu : Fun K x qual st f fd) (S : FnScope N ps (defScope st)) (hB : Body F N.length ps.length T)
    (hbody : ∀ (cdv : Value) (A : Around) (outer : List PySem.Env) (s : Shared) (H : Hp) (E : XK) (c : Cc), Room k (A.deeper (PyProof.Rows.envOfC qual (defScope st) s.heap.objs.size f cdv)) → DSs (cxOf CX0 Pg w K mg base N qual (defScope st) f cdv A outer s H E).nox c (defBody st) T) :
    FnOk Pg w K mg base CX0 (k + 1) f fd ps (spD K F ps.length) := by
  refine Fu.ok S (fun vs H Q E h => h.choose_spec.choose_spec.choose_spec.1) fun cdv A outer s H vs Q E hr h => ?_
  obtain ⟨o, ms, G, hl, ha, hF, q⟩ := h
  refine ⟨_, hbody cdv A outer s H E ⟨o, H, vs⟩ hr, ?_⟩
  have R0 : Rep K ⟨o, H, vs⟩ o (L2.start N vs) H (envOf N.length ps.length ms) [] := by have := rep_start (N := N) ha; rw [hl] at this; exact this
  refine ⟨o, _, _, R0, hB ms G (by rw [← ha.len]; exact hl) hF, ⟨fun σ' H' o' ρ' L R hG => ?_, fun v σ' H' o' ρ' m L R im hG => ?_, fun _ _ _ _ _ _ z => z.elim, fun _ _ _ _ _ _ z => z.elim⟩⟩
  · exact q .non H' (unH o') (.im .non) _ (L.trans unH_le) (fun a l e => by unfold unH at e; split at e; exact R.mu a _ (by assumption); exact R.mu a _ e) .non (fins_ok R _) hG
  · exact q v H' (unH o') m _ (L.trans unH_le) (fun a l e => by unfold unH at e; split at e; exact R.mu a _ (by assumption); exact R.mu a _ e) (im.mono unH_le fun a z => ⟨by unfold unH; rw [z], rfl⟩) (fins_ok R _) hG
end
end Y
namespace Y
open PySem PySem.Spec L2

/-! ### a def where the top has put it -/
structure DefAt (K : PySem.W.Frag) (mg : Str → Option Value) (name : Str) (st : Stmt) (ps : List Str) where
  f : Addr
  fd : FuncData
  fu : Fun K name name st f fd
  mg : mg name = some (.ref f)
  bd : Binds K fd ps []
def FnD (Pg : Program) (w : World) (K : PySem.W.Frag) (mg : Str → Option Value) (base : Heap) {name : Str} {st : Stmt} {ps : List Str} (D : DefAt K mg name st ps) (k : Nat) (F : TF) : Prop := FnOk Pg w K mg base CX0 k D.f D.fd ps (spD K F ps.length)
theorem FnD.mono {Pg : Program} {w : World} {K : PySem.W.Frag} {mg : Str → Option Value} {base : Heap} {name : Str} {st : Stmt} {ps : List Str} {D : DefAt K mg name st ps} {j k : Nat} {F : TF} (h : FnD Pg w K mg base D j F) (l : j ≤ k) : FnD Pg w K mg base D k F := FnOk.mono h l
/-- a weaker promise -/
theorem FnD.imp {Pg : Program} {w : World} {K : PySem.W.Frag} {mg : Str → Option Value} {base : Heap} {name : Str} {st : Stmt} {ps : List Str} {D : DefAt K mg name st ps} {k : Nat} {F F' : TF} (h : FnD Pg w K mg base D k F) (i : ∀ ms G, F' ms G → F ms G) : FnD Pg w K mg base D k F' :=
  FnOk.imp h fun vs H Q E ⟨o, ms, G, a, b, c, d⟩ => ⟨o, ms, G, a, b, i ms G c, d⟩
theorem hu1 {k : Nat} {A : Around} (r : Room k A) : A.units + 1 < cLine := by have := r.un; omega
theorem hu64 {k : Nat} {A : Around} (r : Room k A) : A.units + 64 < cLine := by have := r.un; omega
theorem hu65 {k : Nat} {A : Around} (r : Room k A) : A.units + 65 < cLine := by have := r.un; omega
theorem hu80 {k : Nat} {A : Around} (r : Room k A) : A.units + 80 < cLine := by have := r.un; omega

section
variable {K : PySem.W.Frag} {c : Cc} {o o' : Own} {σ σ' : St} {H H' : Hp} {ρ ρ' : Env} {τ τ' τ0 τ1 : List (V × M)} {X : Cx} {e a b : Expr} {es : List Expr} {pos : Pos} {t u : TX} {P : EndP} {D' : Ends}
/-! ### dicts made -/
def tNewK : TX := fun ρ Q => Q (.tm (.dk [])) ρ
def tNewT : TX := fun ρ Q => Q (.tm (.dt [])) ρ
theorem de_newK : DE X c (.Dict [] [] pos) tNewK := peImp pe_dnewK fun σ H k ⟨o, ρ, τ, Q, R0, h, q⟩ => fun p hp => by
  obtain ⟨o', τ', L, R', z⟩ := R0.made (m := .dk []) List.prefix_rfl (.new hp) ⟨p, [], rfl, hp, rfl, .nil⟩
  exact q _ _ o' _ ρ τ' L R' z h
theorem de_newT : DE X c (.Dict [] [] pos) tNewT := peImp pe_dnewT fun σ H k ⟨o, ρ, τ, Q, R0, h, q⟩ => fun p hp => by
  obtain ⟨o', τ', L, R', z⟩ := R0.made (m := .dt []) List.prefix_rfl (.new hp) ⟨p, [], rfl, hp, rfl, .nil⟩
  exact q _ _ o' _ ρ τ' L R' z h
/-- -e -/
def tNeg (t : TX) : TX := fun ρ Q => t ρ fun r ρ1 => match r with
  | .im (.int i) => Q (.im (.int (-i))) ρ1
  | _ => False
theorem de_neg (h : DE X c e t) : DE X c (.UnaryOp .USub e pos) (tNeg t) := peImp (pe_un un_neg h) fun σ H k h => by
  obtain ⟨o, ρ, τ, Q, R0, h, q⟩ := h
  refine ⟨o, ρ, τ, _, R0, h, fun v1 H1 o1 r1 ρ1 τ1 L1 R1 z1 h1 => ?_⟩
  split at h1
  · obtain ⟨rfl, z⟩ := z1
    cases z
    exact ⟨_, rfl, q _ H1 o1 (.im _) ρ1 _ L1 R1 ⟨rfl, .int _⟩ h1⟩
  · exact h1.elim
/-- dict(d) of a dict with keys ints and texts -/
def gDict : GC := fun ms G => match ms with
  | [.dk kvs] => G (.dk kvs)
  | _ => False
theorem dict_ok : CallG X (.type "dict") gDict := by
  refine callG call_dictD fun vs H k h => ?_
  obtain ⟨o, ms, G, mu, v1, h, q⟩ := h
  unfold gDict at h
  split at h
  · obtain ⟨v, rfl, w1⟩ := pv1 v1
    obtain ⟨l, a, ks, rfl, _, ha, kv⟩ := w1
    exact ⟨a, ks, rfl, .inl ha, fun p hp => q _ _ (.dk _) (.new hp) ⟨p, ks, rfl, hp, rfl, kv⟩ h⟩
  · exact h.elim
/-! ### a, b = x, y -/
def sPar (i j : Nat) (ta : TL) : TSX := fun P ρ => tFrz ta (fun ds ρ1 => match ds with
  | [x, y] => P.nx ((ρ1.set i (.lo (.im x))).set j (.lo (.im y)))
  | _ => False) ρ
end
end Y
namespace Y
open PySem PySem.Spec L2

/-! ### sorted -/
noncomputable def sortD (ds : List D) : List D := ds.mergeSort (PySem.W.dataLe false D.py)
def CanSort (ds : List D) : Prop := PySem.W.AllAlike (ds.map D.py) ∧ PySem.W.Sortable (ds.map D.py) ∧ ∀ d ∈ ds, D.ok 64 d = true
def kD : Key → D
  | .inl i => .int i
  | .inr s => .str s
def gSorted : GC := fun ms G => match ms with
  | [.dt kvs] => CanSort (kvs.map fun p => .tup (p.1.map kD)) ∧ G (.ls (sortD (kvs.map fun p => .tup (p.1.map kD))))
  | [.dk kvs] => CanSort (kvs.map fun p => kD p.1) ∧ G (.ls (sortD (kvs.map fun p => kD p.1)))
  | [m] => match m.lq? with
    | some ds => CanSort ds ∧ G (.ls (sortD ds))
    | none => False
  | _ => False
section
variable {X : Cx} {pins : List (Addr × Obj)} {σ : St} {H H' : Hp} {s : Shared} {K : PySem.W.Frag} {o : Own}
theorem Dats.all_dp {xs : List V} {ds : List D} (h : Dats K o H xs ds) (k : ∀ d ∈ ds, D.ok 64 d = true) : ∀ p ∈ xs.zip ds, Dat K o H p.1 p.2 ∧ Dp K H p.1 p.2.py := by
  induction xs generalizing ds with
  | nil => intro p hp; simp at hp
  | cons x xs ih =>
    cases h with
    | cons a t =>
      intro p hp
      rcases List.mem_cons.mp hp with rfl | hp
      · exact ⟨a, a.dp (k _ List.mem_cons_self)⟩
      · exact ih t (fun d hd => k d (List.mem_cons_of_mem _ hd)) p hp
theorem Dats.of_zip : ∀ {zs : List (V × D)}, (∀ p ∈ zs, Dat K o H p.1 p.2) → Dats K o H (zs.map (·.1)) (zs.map (·.2))
  | [], _ => .nil
  | z :: zs, h => .cons (h z List.mem_cons_self) (Dats.of_zip fun p hp => h p (List.mem_cons_of_mem _ hp))
theorem each_zip {R : Value → V × D → Prop} : ∀ {xs : List V} {us : List Value} {ds : List D}, Vals xs us → xs.length = ds.length → (∀ p ∈ xs.zip ds, ∀ u, RelV p.1 u → R u p) → PySem.W.EachIs R us (xs.zip ds)
  | _, _, [], .nil, _, _ => .nil
  | _, _, d :: ds, .cons r t, hl, h => .cons (h _ (by simp) _ r) (each_zip t (by simpa using hl) fun p hp => h p (by simp [hp]))
theorem each_vals {R : Value → V × D → Prop} (f : ∀ u p, R u p → RelV p.1 u) : ∀ {us : List Value} {zs : List (V × D)}, PySem.W.EachIs R us zs → Vals (zs.map (·.1)) us
  | _, _, .nil => .nil
  | _, _, .cons r t => .cons (f _ _ r) (each_vals f t)
/-- what stands behind the sort -/
theorem sort_fin {xs : List V} {ds : List D} (hl : xs.length = ds.length) (out : List Value) (e : PySem.W.EachIs (fun u p => RelV p.1 u ∧ p ∈ xs.zip ds) out ((xs.zip ds).mergeSort (PySem.W.dataLe false fun p => p.2.py))) (dd : ∀ p ∈ xs.zip ds, Dat K o H p.1 p.2) :
    ∃ ys, Vals ys out ∧ ys.length = ds.length ∧ Dats K o H ys (sortD ds) := by
  refine ⟨_, each_vals (fun u p h => h.1) e, ?_, ?_⟩
  · rw [List.length_map, List.length_mergeSort, List.length_zip, hl, Nat.min_self]
  · have q : sortD ds = ((xs.zip ds).mergeSort (PySem.W.dataLe false fun p => p.2.py)).map (·.2) := by
      unfold sortD
      rw [PySem.W.sort_maps (r := PySem.W.dataLe false fun p : V × D => p.2.py) (s := PySem.W.dataLe false D.py) (f := fun p : V × D => p.2) (l := xs.zip ds) (fun _ _ _ _ => rfl)]
      congr 1
      exact (List.map_snd_zip (by omega)).symm
    rw [q]
    exact Dats.of_zip fun p hp => dd p (List.mem_mergeSort.mp hp)
theorem zip_py {xs : List V} {ds : List D} (hl : xs.length = ds.length) : (xs.zip ds).map (fun p => p.2.py) = ds.map D.py := by
  have e : (xs.zip ds).map (fun p => p.2.py) = ((xs.zip ds).map Prod.snd).map D.py := by rw [List.map_map]; rfl
  rw [e, List.map_snd_zip (by omega)]
theorem sorted_list (hu : X.A.units + 80 < cLine) : CallR X (.builtin "sorted") (fun vs H k => ∃ a xs ds o, vs = [.ref a] ∧ SqL X.K H a xs ∧ Dats X.K o H xs ds ∧ CanSort ds ∧
    ∀ p ys, H p = none → ys.length = ds.length → Dats X.K o H ys (sortD ds) → k (.ref p) (upd H p (.lst ys))) := by
  intro pins s σ H vs us Q I r h
  obtain ⟨a, xs, ds, o, rfl, hs, hd, ⟨c1, c2, c3⟩, q⟩ := h
  obtain ⟨its, rv, hl, hz⟩ := I.list hs
  rw [Vals.ref1 r]
  have dp := hd.all_dp c3
  have er : PySem.W.EachIs (fun v (b : V × D) => ∃ as, Reads s.heap v b.2.py as) its (xs.zip ds) := each_zip rv hd.length fun p hp u ru => (Dp.reads I _ _ _ (dp p hp).2 ru)
  have e : PySem.W.EachIs (fun u (p : V × D) => RelV p.1 u ∧ p ∈ xs.zip ds) its (xs.zip ds) := each_zip rv hd.length fun p hp u ru => ⟨ru, hp⟩
  have hlz : (xs.zip ds).length = ds.length := by rw [List.length_zip, hd.length, Nat.min_self]
  refine PySem.W.sorted_data (enc := fun p : V × D => p.2.py) hl.isList e er (by rw [zip_py hd.length]; exact c1) (by rw [zip_py hd.length]; exact c2) (by rw [hlz, ← hd.length]; exact hz) (fun b hb => ?_) fun out ho eo => ?_
  · have := (D.ok_lay 64 b.2 (c3 b.2 (List.of_mem_zip hb).2)).2
    omega
  · obtain ⟨ys, hv, hly, hdy⟩ := sort_fin hd.length out eo fun p hp => (dp p hp).1
    obtain ⟨ep, he'⟩ := PyProof.Rows.sortedAll_at s.heap its out.toArray
    refine ⟨.ref _, upd H (s.heap.objs.size + 1) (.lst ys), I.laid (t' := s.toks) (fun _ _ => PyProof.Rows.sortedAll_old) (Nat.le_succ _) ⟨by rw [hly, ← hd.length]; exact hz, out, ep, hv, he'⟩, rfl, q _ ys (I.hok.fresh (Nat.le_succ _)) hly hdy⟩
/-- sorted(d), by the keys that a walk over d gives -/
theorem sorted_src {T : String} {r d : Addr} {n : Nat} {P : Nat → Value → Prop} {OK : Heap → Prop} {xs : List V} {ds : List D} {Q : Value → Shared → Prop} {E : Value → Shared → Prop} (S : PySem.W.KdlSrc X.prog X.w T r d n P OK) (hc : X.calm = true) (hu : X.A.units + 80 < cLine) (I : Inv X pins σ H s) (hok : OK s.heap) (hn : n ≤ sizeLine) (hnd : ds.length = n) (hd : Dats X.K o H xs ds) (cs : CanSort ds)
    (hi : ∀ acc : Array Value, PySem.ItemsOf P acc n → Vals xs acc.toList)
    (q : ∀ p ys s', H p = none → ys.length = ds.length → Dats X.K o H ys (sortD ds) → Inv X pins σ (upd H p (.lst ys)) s' → Q (.ref p) s') :
    wpAny (model X.prog X.w) X.A (call (.builtin "sorted") [.ref r]) Q E s := by
  obtain ⟨c1, c2, c3⟩ := cs
  refine Calls.call_function_entry PyProof.Rows.kind_sorted PyProof.Rows.plain_sorted PyProof.Rows.entry_sorted (PyProof.Rows.args_sorted1 _) ?_
  unfold Builtin.«sorted»
  refine wpAny_bind (m := checkCount "sorted" 1 1 _) (wpAny_pure ?_)
  refine wpAny_bind (PySem.W.kdu_collect (A := X.A.in1) S (I.ok.hd hc) hok hn fun h' tk acc hk hacc => ?_)
  have rv := hi acc hacc
  have I1 : Inv X pins σ H { s with heap := h', toks := tk } := I.kept hk
  have dp := hd.all_dp c3
  have hlz : (xs.zip ds).length = ds.length := by rw [List.length_zip, hd.length, Nat.min_self]
  have hal : acc.toList.length = ds.length := by rw [← rv.length, hd.length]
  refine wpAny_bind (wpAny_newList ?_ (by rw [hal, hnd]; exact hn))
  have hoL : (h'.push (PyProof.Rows.seqObj "list" acc.toList.toArray 0)).get? h'.objs.size = some (PyProof.Rows.seqObj "list" acc.toList.toArray 0) := Heap.get?_push_size _ rfl
  show wpAny _ _ _ _ _ { s with heap := h'.push (PyProof.Rows.seqObj "list" acc.toList.toArray 0), toks := tk }
  have er : PySem.W.EachIs (fun v (b : V × D) => ∃ as, Reads (h'.push (PyProof.Rows.seqObj "list" acc.toList.toArray 0)) v b.2.py as ∧ h'.objs.size ∉ as) acc.toList (xs.zip ds) := each_zip rv hd.length fun p hp u ru => by
    obtain ⟨as, ra⟩ := Dp.reads I1 _ _ _ (dp p hp).2 ru
    refine ⟨as, PyProof.Rows.Reads.keeps (fun b u e => Heap.get?_push_of_some _ e) ra, fun hm => ?_⟩
    obtain ⟨u, hu⟩ := PyProof.On.reads_mem_get ra _ hm
    exact absurd (Heap.lt_size hu) (Nat.lt_irrefl _)
  have e : PySem.W.EachIs (fun u (p : V × D) => RelV p.1 u ∧ p ∈ xs.zip ds) acc.toList (xs.zip ds) := each_zip rv hd.length fun p hp u ru => ⟨ru, hp⟩
  refine wpAny_bind (wpAny_holding (PySem.W.list_sort_data (enc := fun p : V × D => p.2.py) (s := { s with heap := h'.push (PyProof.Rows.seqObj "list" acc.toList.toArray 0), toks := tk }) hoL e er (by rw [zip_py hd.length]; exact c1) (by rw [zip_py hd.length]; exact c2) (by rw [hlz, hnd]; exact hn) (fun b hb => ?_) fun out ho eo => ?_))
  · have := (D.ok_lay 64 b.2 (c3 b.2 (List.of_mem_zip hb).2)).2
    show X.A.in1.units + 1 + _ < _
    have h1 : X.A.in1.units = X.A.units + 1 := rfl
    omega
  · obtain ⟨ys, hv, hly, hdy⟩ := sort_fin hd.length out eo fun p hp => (dp p hp).1
    obtain ⟨e', he'⟩ := PyProof.Rows.sortedHeap_at (vs := acc.toList) (out := out.toArray) hoL
    refine wpAny_pure ⟨_, rfl, q h'.objs.size ys _ (I1.hok.fresh (Nat.le_refl _)) hly hdy (I1.laid (t' := tk) (fun b u e => ?_) (Nat.le_refl _)
      (show ObjOk X.prog X.w _ _ _ (.lst ys) from ⟨by rw [hly, hnd]; exact hn, out, e', hv, he'⟩))⟩
    have hb : b < h'.objs.size := Heap.lt_size e
    rw [PyProof.Rows.sortedHeap_old (Nat.ne_of_lt hb) (by show b < (h'.objs.push _).size; rw [Array.size_push]; exact Nat.lt_succ_of_lt hb)]
    exact Heap.get?_push_of_some _ e
/-- items that a walk has collected, told one by one -/
theorem items_of {P : Nat → Value → Prop} {xs : List V} {n : Nat} (hl : xs.length = n) (f : ∀ (k : Nat) (x : V) (u : Value), xs[k]? = some x → P k u → RelV x u) (acc : Array Value) (h : PySem.ItemsOf P acc n) : Vals xs acc.toList :=
  vals_of_at (by rw [hl, Array.length_toList]; exact h.1.symm) fun k x u hx hu => f k x u hx (h.2 k u (by simpa using hu))
theorem sorted_dk (hc : X.calm = true) (hu : X.A.units + 80 < cLine) : CallR X (.builtin "sorted") (fun vs H k => ∃ a kvs ds o, vs = [.ref a] ∧ H a = some (.dK kvs) ∧ Dats X.K o H (kvs.map fun p => kV p.1) ds ∧ CanSort ds ∧
    ∀ p ys, H p = none → ys.length = ds.length → Dats X.K o H ys (sortD ds) → k (.ref p) (upd H p (.lst ys))) := by
  rintro pins s σ H xs us Q I rel ⟨d, kvs, ds, o, rfl, hd, dats, cs, fin⟩
  obtain ⟨len, own, ent, pairs, obj⟩ := (show ObjOk X.prog X.w H s.heap d (.dK kvs) from I.hok d _ hd)
  obtain ⟨age, stands⟩ := obj.dictAt
  have same : kvs.length = ent.length := pairs.length
  rw [Vals.ref1 rel]
  refine sorted_src (PySem.W.kdl_dict (knd := mixKind X.prog X.w) (kvs := ent) (ep := age) own) hc hu I stands (same ▸ len) (by rw [← same, ← dats.length, List.length_map]) dats cs (items_of (by rw [List.length_map, same]) fun j x u hx hp => ?_) fun p ys s' hp hy dy I' => ⟨.ref p, _, I', rfl, fin p ys hp hy dy⟩
  obtain ⟨key, val, at_, is_⟩ := hp
  have kj : (kvs.map fun q => q.1)[j]? = some key := by
    rw [show (kvs.map fun q => q.1) = ent.map (·.1) from KV.keys pairs, List.getElem?_map, at_]
    rfl
  rw [List.getElem?_map] at hx kj
  obtain ⟨q, hq, rfl⟩ := Option.map_eq_some_iff.mp hx
  rw [hq] at kj
  have kj : q.1 = key := Option.some.inj kj
  rw [kj]
  exact keyIs_rel is_
theorem sorted_dt (hc : X.calm = true) (hu : X.A.units + 80 < cLine) : CallR X (.builtin "sorted") (fun vs H k => ∃ a kvs ds o, vs = [.ref a] ∧ H a = some (.dT kvs) ∧ (∀ bs, IsKeys H kvs bs → Dats X.K o H (bs.map V.ref) ds) ∧ CanSort ds ∧
    ∀ p ys, H p = none → ys.length = ds.length → Dats X.K o H ys (sortD ds) → k (.ref p) (upd H p (.lst ys))) := by
  rintro pins s σ H xs us Q I rel ⟨d, kvs, ds, o, rfl, hd, dats, cs, fin⟩
  obtain ⟨len, own, trip, pairs, ob, ents, age, at_, exact_, data, told, nod⟩ := (show ObjOk X.prog X.w H s.heap d (.dT kvs) from I.hok d _ hd)
  have dats := dats _ (isKeys_of pairs)
  have n1 : ents.size = trip.length := size_of_entries told
  have n2 : kvs.length = trip.length := pairs.length
  rw [Vals.ref1 rel]
  refine sorted_src (kdl_raw own exact_ data) hc hu I at_ (by rw [n1, ← n2]; exact len) (by rw [n1, ← dats.length, List.length_map, List.length_map]) dats cs (items_of (by rw [List.length_map, List.length_map, n1]) fun j x u hx hp => ?_) fun p ys s' hp hy dy I' => ⟨.ref p, _, I', rfl, fin p ys hp hy dy⟩
  obtain ⟨en, hen, rfl⟩ := hp
  rw [List.getElem?_map, List.getElem?_map] at hx
  have toldj := entry_at told j
  rw [hen] at toldj
  cases tj : trip[j]? with
  | none => rw [tj] at hx; simp at hx
  | some t =>
    rw [tj] at hx toldj
    have hx : some (V.ref t.2.1) = some x := hx
    cases hx
    have toldj : some en = some (entryOfKey (tupleKind (mixKind X.prog X.w)) t) := toldj
    cases toldj
    rfl
theorem dat_key {k : Key} : Dat K o H (kV k) (kD k) := by
  cases k with
  | inl i => exact .int i
  | inr s => exact .str s
theorem dats_key : ∀ {ks : List Key}, Dats K o H (ks.map kV) (ks.map kD)
  | [] => .nil
  | _ :: _ => .cons dat_key dats_key
theorem dats_keys {kvs : List (Key × V)} {kds : List (Key × D)} (h : Kvs K o H kvs kds) : Dats K o H (kvs.map fun p => kV p.1) (kds.map fun p => kD p.1) := by
  induction h with
  | nil => exact .nil
  | cons a t ih => refine .cons ?_ ih; show Dat K o H (kV _) (kD _); rw [a.1]; exact dat_key
theorem dats_tkeys (mu : ∀ a l, o a = some l → Mut (H a)) {kvs : List (List Key × V)} {kds : List (List Key × D)} (h : Kvs K o H kvs kds) : ∀ {bs : List Addr}, IsKeys H kvs bs → Dats K o H (bs.map V.ref) (kds.map fun p => .tup (p.1.map kD)) := by
  induction h with
  | nil => intro bs hb; cases hb; exact .nil
  | cons a t ih =>
    intro bs hb
    cases hb with
    | @cons _ b _ _ h1 h2 =>
      refine .cons (.tup (xs := _) ⟨?_, h1⟩ ?_) (ih h2)
      · cases e : o b with
        | none => rfl
        | some l => have := mu b l e; rw [h1] at this; exact this.elim
      · rw [a.1]; exact dats_key
theorem sorted_ok (hc : X.calm = true) (hu : X.A.units + 80 < cLine) : CallG X (.builtin "sorted") gSorted := by
  refine callG ((sorted_list hu).or ((sorted_dk hc hu).or (sorted_dt hc hu))) fun vs H k h => ?_
  obtain ⟨o, ms, G, mu, v1, h, q⟩ := h
  unfold gSorted at h
  split at h
  · obtain ⟨v, rfl, w1⟩ := pv1 v1
    obtain ⟨l, a, ks, rfl, _, ha, kv⟩ := w1
    exact .inr (.inr ⟨a, ks, _, o, rfl, ha, fun bs hb => dats_tkeys mu kv hb, h.1, fun p ys hp _ hd => q _ _ (.ls _) (.new hp) ⟨p, ys, rfl, hp, rfl, hd⟩ h.2⟩)
  · obtain ⟨v, rfl, w1⟩ := pv1 v1
    obtain ⟨l, a, ks, rfl, _, ha, kv⟩ := w1
    exact .inr (.inl ⟨a, ks, _, o, rfl, ha, dats_keys kv, h.1, fun p ys hp _ hd => q _ _ (.ls _) (.new hp) ⟨p, ys, rfl, hp, rfl, hd⟩ h.2⟩)
  · obtain ⟨v, rfl, w1⟩ := pv1 v1
    split at h
    · rename_i ds e
      obtain ⟨a, xs, rfl, ht, dd⟩ := w1.lq e
      exact .inl ⟨a, xs, ds, o, rfl, ht, dd, h.1, fun p ys hp _ hd => q _ _ (.ls _) (.new hp) ⟨p, ys, rfl, hp, rfl, hd⟩ h.2⟩
    · exact h.elim
  · exact h.elim
end
end Y
namespace Y
open PySem PySem.Spec L2

/-! ### == of dicts by what they hold -/
def eqKvs (ka kb : List (Key × D)) : Bool := ka.length == kb.length && ka.all fun p => match getK kb p.1 with
  | some e => D.eqv p.2 e
  | none => false
def gEqs2 (neg : Bool) : G2 := fun m n G => match m, n with
  | .dk ka, .dk kb => (∀ p ∈ ka, D.ok 62 p.2 = true) ∧ (∀ p ∈ kb, D.ok 62 p.2 = true) ∧ neg = false ∧ G (.im (.bl (eqKvs ka kb)))
  | m, n => gEqs neg m n G
section
variable {X : Cx} {pins : List (Addr × Obj)} {σ : St} {H H' : Hp} {s : Shared} {K : PySem.W.Frag} {o o' : Own} {c : Cc} {ρ ρ' : Env} {τ τ' τ0 τ1 : List (V × M)}
theorem dat_eqP (I : Inv X pins σ H s) {A : Around} (hu : A.units + 62 < cLine) {x y : V} {v u : Value} {d e : D} (hd : Dat X.K o H x d) (he : Dat X.K o H y e) (kd : D.ok 62 d = true) (ke : D.ok 62 e = true) (rx : RelV x v) (ry : RelV y u) : SeqAt.EqP X.prog X.w A s v u (D.eqv d e) := by
  obtain ⟨as, r1⟩ := Dp.reads I _ _ _ (hd.dp kd) rx
  obtain ⟨bs, r2⟩ := Dp.reads I _ _ _ (he.dp ke) ry
  have q1 := D.ok_lay 62 d kd
  have q2 := D.ok_lay 62 e ke
  exact (SeqAt.eqAt_reads _ _ A s _ _ _ _ r1 r2 q1.1 q2.1 (by have := Nat.min_le_left d.py.depth e.py.depth; omega)).eqP
theorem dat_hits (I : Inv X pins σ H s) {A : Around} (hu : A.units + 62 < cLine) {kb : List (Key × D)} {ls : List (Key × V)} {vb : List (Key × Value)} (hb : Kvs X.K o H ls kb) (kbok : ∀ p ∈ kb, D.ok 62 p.2 = true) (rb : KV ls vb) {ka : List (Key × D)} {ks : List (Key × V)} {va : List (Key × Value)}
    (ha : Kvs X.K o H ks ka) (kaok : ∀ p ∈ ka, D.ok 62 p.2 = true) (ra : KV ks va) : PySem.W.KeqHitsP X.prog X.w A s vb va (ka.all fun p => match getK kb p.1 with
      | some e => D.eqv p.2 e
      | none => false) := by
  induction ha generalizing va with
  | nil => cases ra; exact .nil
  | @cons p q ps qs h t ih =>
    cases ra with
    | @cons _ r _ rs h2 t2 =>
      have ihh := ih (fun p' hp => kaok p' (List.mem_cons_of_mem _ hp)) t2
      have e1 : r.1 = p.1 := h2.1.symm
      have rr : RelO (valV ls p.1) (valueAt vb p.1) := rb.val p.1
      have rd : RelD X.K o H (valV ls p.1) (getK kb p.1) := hb.val p.1
      rw [List.all_cons]
      rw [← h.1]
      obtain ⟨rk, rv⟩ := r
      have e1' : rk = p.1 := e1
      subst e1'
      cases hk : getK kb p.1 with
      | none =>
        rw [hk] at rd
        have hv : valV ls p.1 = none := by
          cases z : valV ls p.1 with
          | none => rfl
          | some u => rw [z] at rd; exact rd.elim
        rw [hv] at rr
        have hn : valueAt vb p.1 = none := by
          cases z : valueAt vb p.1 with
          | none => rfl
          | some u => rw [z] at rr; exact absurd rr (by intro q; first | exact q.elim | cases q)
        exact .miss hn
      | some e =>
        rw [hk] at rd
        cases z : valV ls p.1 with
        | none => rw [z] at rd; exact rd.elim
        | some u =>
          rw [z] at rd rr
          obtain ⟨y, hy, ry⟩ := rr.some_of
          have hm : D.ok 62 e = true := by
            unfold getK at hk
            obtain ⟨kv, hf, rfl⟩ := Option.map_eq_some_iff.mp hk
            exact kbok kv (List.mem_of_find?_eq_some hf)
          exact .hit hy (dat_eqP I hu h.2 rd (kaok q List.mem_cons_self) hm h2.2 ry) ihh
theorem op_eqK (hu : X.A.units + 64 < cLine) : OpR X (compareOp .Eq) (fun x y H Q => ∃ a b ks ls ka kb o, x = .ref a ∧ y = .ref b ∧ H a = some (.dK ks) ∧ H b = some (.dK ls) ∧ Kvs X.K o H ks ka ∧ Kvs X.K o H ls kb ∧ (∀ p ∈ ka, D.ok 62 p.2 = true) ∧ (∀ p ∈ kb, D.ok 62 p.2 = true) ∧
    Q (.bl (eqKvs ka kb)) H) := by
  rintro pins s σ H _ _ _ _ Q I rx ry ⟨a, b, ks, ls, ka, kb, o, rfl, rfl, ha, hb, k1, k2, o1, o2, q⟩
  obtain rfl := rx
  obtain rfl := ry
  have da0 := I.hok a _ ha
  have db0 := I.hok b _ hb
  obtain ⟨_, ya, va, ra, da⟩ := da0
  obtain ⟨_, yb, vb, rb, db⟩ := db0
  refine PySem.W.rcP_dicts (knd := mixKind X.prog X.w) ya yb da db (by omega) (fun _ => dat_hits I (A := X.A.in1) (by show X.A.units + 1 + 62 < cLine; omega) k2 o2 rb k1 o1 ra) _ _ ?_
  refine ⟨.bl _, H, I, ?_, q⟩
  show _ = Value.bool _
  unfold eqKvs
  rw [show va.length = ka.length by rw [← ra.length, k1.length], show vb.length = kb.length by rw [← rb.length, k2.length]]
theorem eq2_ok (hu : X.A.units + 64 < cLine) : OpG X (compareOp .Eq) (gEqs2 false) := by
  rintro pins s σ H x y v u Q I rx ry ⟨o, m1, m2, G, mu, v1, v2, h, q⟩
  unfold gEqs2 at h
  split at h
  · obtain ⟨l1, a, ks, rfl, _, ha, kv⟩ := v1
    obtain ⟨l2, b, ls, rfl, _, hb, lv⟩ := v2
    exact op_eqK hu pins s σ H _ _ v u Q I rx ry ⟨a, b, ks, ls, _, _, o, rfl, rfl, ha, hb, kv, lv, h.1, h.2.1, qim q (.bl _) h.2.2.2⟩
  · exact eq_ok hu pins s σ H x y v u Q I rx ry ⟨o, m1, m2, G, mu, v1, v2, h, q⟩

/-! ### displays -/
/-- a temporary's object is changed -/
theorem Rep.mutT {a : Addr} {m0 : M} (R0 : Rep K c o σ H ρ (τ ++ [(.ref a, m0)])) {m : M} {u : HO} (ho : o a = some (.t τ.length)) (hu : Mut (some u)) (hm : m.own = true)
    (h : IsM K o (upd H a u) (.t τ.length) (.ref a) m) : Rep K c o σ (upd H a u) ρ (τ ++ [(.ref a, m)]) ∧ Le o H o (upd H a u) := by
  have ne : ∀ b l, o b = some l → l ≠ .t τ.length → b ≠ a := fun b l q z w => by subst w; rw [ho] at q; cases q; exact z rfl
  have L : Le o H o (upd H a u) := ⟨fun b w q f => ⟨q, by rw [upd_ne (fun z => by subst z; rw [ho] at q; cases q)]; exact f⟩, fun b q => ⟨q, upd_ne (ne b _ q (by intro z; cases z))⟩⟩
  have kp : ∀ l, l ≠ .t τ.length → ∀ b, o b = some l → o b = some l ∧ upd H a u b = H b := fun l z b q => ⟨q, upd_ne (ne b l q z)⟩
  refine ⟨⟨fun j s' q => (R0.sl j s' q).mono L (kp _ (by intro z; cases z)) (kp _ (by intro z; cases z)), fun j v m' q => ?_, fun b l q => ?_, R0.le.trans L, R0.ln⟩, L⟩
  · by_cases hj : j < τ.length
    · rw [List.getElem?_append_left hj] at q
      have q' := R0.tm j v m' (by rw [List.getElem?_append_left hj]; exact q)
      exact ⟨q'.1.mono L (kp _ (by intro z; injection z with z; omega)), q'.2⟩
    · rw [List.getElem?_append_right (by omega)] at q
      have hz : j - τ.length = 0 := by
        cases w : j - τ.length with
        | zero => rfl
        | succ n => rw [w] at q; simp at q
      rw [hz] at q
      have e2 : j = τ.length := by omega
      subst e2
      simp at q
      obtain ⟨rfl, rfl⟩ := q
      exact ⟨h, hm⟩
  · by_cases z : b = a
    · subst z; rw [upd_same]; exact hu
    · rw [upd_ne z]; exact R0.mu b l q
def pairUp : List V → List (V × V)
  | x :: y :: r => (x, y) :: pairUp r
  | _ => []
structure DPs (X : Cx) (c : Cc) (pos : Pos) (keys : List (Option Expr)) (values : List Expr) (tl : TL) : Prop where
  ex : ∃ trs, PPs X pos keys values trs ∧ ∀ σ H Q, TAo X.K c tl σ H (fun vs H' => Q (pairUp vs) H') → tPairs trs σ H Q
theorem dps_nil {pos : Pos} : DPs X c pos [] [] lNil := ⟨[], pps_nil, fun σ H Q ⟨o, ρ, τ, Q', R0, h, q⟩ => q [] H o [] ρ τ .refl R0 .nil h⟩
theorem dps_cons {pos : Pos} {k v : Expr} {ks : List (Option Expr)} {vs : List Expr} {tk tv : TX} {tl : TL} (hk : DE X c k tk) (hv : DE X c v tv) (hr : DPs X c pos ks vs tl) : DPs X c pos (some k :: ks) (v :: vs) (lCons tk (lCons tv tl)) := by
  obtain ⟨trs, h1, h2⟩ := hr
  refine ⟨(TEo X.K c tk, TEo X.K c tv) :: trs, pps_cons hk hv h1, fun σ H Q ⟨o, ρ, τ, Q', R0, h, q⟩ => ?_⟩
  refine ⟨o, ρ, τ, _, R0, h, fun v1 H1 o1 r1 ρ1 τ1 L1 R1 z1 h1 => ⟨o1, ρ1, τ1, _, R1, h1, fun v2 H2 o2 r2 ρ2 τ2 L2 R2 z2 h2b => h2 _ _ _ ⟨o2, ρ2, τ2, _, R2, h2b, fun vs H3 o3 rs ρ3 τ3 L3 R3 z3 h3 => ?_⟩⟩⟩
  exact q (v1 :: v2 :: vs) H3 o3 _ ρ3 τ3 (L1.trans (L2.trans L3)) R3 (.cons (z1.mono (L2.trans L3)) (.cons (z2.mono L3) z3)) h3

def pairG {κ : Type} (f : D → Option κ) : List D → Option (List (κ × D))
  | [] => some []
  | k :: d :: r => match f k, pairG f r with
    | some k, some kvs => some ((k, d) :: kvs)
    | _, _ => none
  | _ => none
def D.tkey? : D → Option (List Key)
  | .tup ds => D.keys? ds
  | _ => none
def putAll {κ : Type} [DecidableEq κ] (kvs more : List (κ × D)) : List (κ × D) := more.foldl (fun acc kv => putD acc kv.1 kv.2) kvs
def tDspK (tl : TL) : TX := fun ρ Q => tFrz tl (fun ds ρ1 => match pairG D.key? ds with
  | some kvs => kvs.length ≤ 15 ∧ Q (.tm (.dk (putAll [] kvs))) ρ1
  | none => False) ρ
def tDspT (tl : TL) : TX := fun ρ Q => tFrz tl (fun ds ρ1 => match pairG D.tkey? ds with
  | some kvs => kvs.length ≤ 15 ∧ Q (.tm (.dt (putAll [] kvs))) ρ1
  | none => False) ρ
theorem frzN {f : List D → Env → Prop} {tl : TL} {k : List V → Hp → Prop} (R0 : Rep K c o σ H ρ τ) (h : tFrz tl f ρ)
    (q : ∀ vs H' o' ds ρ', Le o H o' H' → Rep K c o' σ H' ρ' τ → Dats K o' H' vs ds → f ds ρ' → k vs H') : TAo K c tl σ H k := by
  refine ⟨o, ρ, τ, _, R0, h, fun v H1 o1 r ρ1 τ1 L1 R1 z1 h1 => ?_⟩
  split at h1
  · rename_i ds ρ2 e
    have R2 := R1.drop z1.pre
    have els := z1.els (ρ0 := ρ1) (base := τ.length) (Nat.le_refl _) (fun j v m e => (R1.tm j v m e).1)
    obtain ⟨o', L, R3, dd⟩ := froz_ok R2 els e
    exact q v H1 o' _ ρ2 (L1.trans ((dropT_le _).trans L)) R3 dd h1
  · exact h1.elim
theorem Kvs.putAll {κ : Type} [DecidableEq κ] {ks ls : List (κ × V)} {kvs lvs : List (κ × D)} (h : Kvs K o H ks kvs) (g : Kvs K o H ls lvs) : Kvs K o H (ls.foldl (fun acc kv => putK acc kv.1 kv.2) ks) (Y.putAll kvs lvs) := by
  unfold Kvs at g
  induction g generalizing ks kvs with
  | nil => exact h
  | @cons p q ps qs a t ih =>
    have e : Kvs K o H (putK ks p.1 p.2) (putD kvs q.1 q.2) := by rw [← a.1]; exact h.put p.1 a.2
    exact ih e
theorem dspK_pairs : ∀ {vs : List V} {ds : List D} {kvs : List (Key × D)}, Dats K o H vs ds → pairG D.key? ds = some kvs → ∃ ks : List (Key × V), pairUp vs = ks.map (fun kv => (kV kv.1, kv.2)) ∧ Kvs K o H ks kvs ∧ ks.length = kvs.length
  | _, [], _, .nil, e => by simp [pairG] at e; subst e; exact ⟨[], rfl, .nil, rfl⟩
  | _, [_], _, .cons _ .nil, e => by simp [pairG] at e
  | _, k :: d :: r, _, .cons a (.cons b t), e => by
    unfold pairG at e
    split at e
    · rename_i k' kvs e1 e2
      cases e
      obtain ⟨ks, h1, h2, h3⟩ := dspK_pairs t e2
      refine ⟨(k', _) :: ks, ?_, .cons ⟨rfl, b⟩ h2, by simp [h3]⟩
      rw [a.key e1]
      simp only [pairUp, List.map_cons, h1]
    · cases e
theorem le_of_upd {p : Addr} {u w : HO} {o1 : Own} {H1 : Hp} (hp : H p = none) (mu : ∀ a l, o a = some l → Mut (H a)) (L : Le (fun b => if b = p then some (.t τ.length) else o b) (upd H p u) o1 H1) : Le o H o1 H1 := by
  have ne : ∀ b w, H b = some w → b ≠ p := fun b w e => ne_of_none e hp
  refine ⟨fun b w e f => L.keep b w (by show (if b = p then _ else o b) = none; rw [if_neg (ne b w f)]; exact e) (by rw [upd_ne (ne b w f)]; exact f), fun b e => ?_⟩
  obtain ⟨w, q⟩ := mut_some (mu b _ e)
  obtain ⟨e1, e2⟩ := L.ext b (by show (if b = p then _ else o b) = _; rw [if_neg (ne b w q)]; exact e)
  exact ⟨e1, e2.trans (upd_ne (ne b w q))⟩
section
variable {keys : List (Option Expr)} {values : List Expr} {pos : Pos} {tl : TL}
theorem de_dspK (h : DPs X c pos keys values tl) (hall : keys.all (·.isSome) = true := by rfl) (hl : keys.length = values.length := by rfl) (h0 : keys ≠ [] := by exact List.cons_ne_nil _ _) (h15 : keys.length ≤ 15 := by decide) : DE X c (.Dict keys values pos) (tDspK tl) := by
  obtain ⟨trs, h1, h2⟩ := h
  refine peImp (pe_disp h1 hall hl h0 h15) fun σ H k ⟨o, ρ, τ, Q, R0, h, q⟩ => fun p hp => ?_
  obtain ⟨R1, L1⟩ := R0.push (m := .dk []) (u := .dK []) hp trivial rfl ⟨p, [], rfl, by simp, upd_same, .nil⟩
  refine h2 _ _ _ (frzN R1 h fun vs H2 o2 ds ρ2 L2 R2 dd hf => ?_)
  split at hf
  · rename_i kvs e
    obtain ⟨ks, e1, kk, kl⟩ := dspK_pairs dd e
    obtain ⟨⟨a, xs, ea, ho, hH, hx⟩, _⟩ := R2.tm τ.length (.ref p) (.dk []) (by simp)
    cases ea
    cases hx
    refine ⟨hH, ks, e1, by rw [kl]; exact hf.1, ?_⟩
    have L3 : Le o2 H2 o2 (upd H2 p (.dK (mergeK [] ks))) := ⟨fun b w q f => ⟨q, by rw [upd_ne (fun z => by subst z; rw [ho] at q; cases q)]; exact f⟩, fun b q => ⟨q, upd_ne (fun z => by subst z; rw [ho] at q; cases q)⟩⟩
    obtain ⟨R3, L3⟩ := R2.mutT (m := .dk (putAll [] kvs)) (u := .dK (mergeK [] ks)) ho trivial rfl ⟨p, _, rfl, ho, upd_same, Kvs.mono L3 (Kvs.putAll .nil kk)⟩
    exact q _ _ o2 (.tm _) ρ2 _ (L1.trans (L2.trans L3)) R3 rfl hf.2
  · exact hf.elim

/-- {(..): v, ..}; the new dict stands empty while the pairs are made -/
def mergeT (kvs more : List (List Key × V)) : List (List Key × V) := more.foldl (fun acc kv => putK acc kv.1 kv.2) kvs
def tDispT (trs : List (TE × TE)) : TE := fun σ H Q => ∀ p, H p = none → tPairs trs σ (upd H p (.dT [])) fun ps H2 => H2 p = some (.dT []) ∧ ∃ kvs : List (List Key × V), Paired (fun (x : V × V) (y : List Key × V) => ∃ b, x = (V.ref b, y.2) ∧ H2 b = some (.tup (y.1.map kV))) ps kvs ∧ kvs.length ≤ 15 ∧
  Q (.ref p) (upd H2 p (.dT (mergeT [] kvs)))
theorem carriesT {P : Program} {w : World} {h : Heap} (ok : HOk P w H h) {ps : List (V × V)} {kvs : List (List Key × V)} (hp : Paired (fun (x : V × V) (y : List Key × V) => ∃ b, x = (V.ref b, y.2) ∧ H b = some (.tup (y.1.map kV))) ps kvs) : ∀ {ws : List (Value × Value)}, VV ps ws → ∃ rs, CarriesH (tupleKind (mixKind P w)) h ws rs ∧ KT H kvs rs := by
  induction hp with
  | nil => intro ws r; cases r; exact ⟨[], trivial, .nil⟩
  | @cons x y xs ys a t ih =>
    intro ws r
    cases r with
    | @cons _ w1 _ ws h1 h2 =>
      obtain ⟨rs, c1, c2⟩ := ih h2
      obtain ⟨b, rfl, hb⟩ := a
      obtain ⟨k1, k2⟩ := w1
      have e : k1 = Value.ref b := h1.1
      subst e
      exact ⟨(y.1, b, k2) :: rs, ⟨rfl, rfl, key_of ok hb, c1⟩, .cons ⟨rfl, hb, h1.2⟩ c2⟩
theorem KT.merge {kvs : List (List Key × V)} {xs : List (List Key × Addr × Value)} (r : KT H kvs xs) : ∀ {more : List (List Key × V)} {rs : List (List Key × Addr × Value)}, KT H more rs → KT H (mergeT kvs more) (storedAllH xs rs) := by
  intro more rs g
  induction g generalizing kvs xs with
  | nil => exact r
  | @cons p q ps qs a t ih =>
    have e : KT H (putK kvs p.1 p.2) (storedH xs q.1 q.2.1 q.2.2) := by rw [← a.1]; exact r.put p.1 a.2.1 a.2.2
    exact ih e
theorem length_mergeT (more : List (List Key × V)) : ∀ kvs : List (List Key × V), (mergeT kvs more).length ≤ kvs.length + more.length := by
  induction more with
  | nil => exact fun kvs => Nat.le_refl kvs.length
  | cons p r ih =>
    intro kvs
    refine Nat.le_trans (ih (putK kvs p.1 p.2)) ?_
    have := length_putK kvs p.1 p.2
    simp only [List.length_cons]; omega
/-- a dict with tuple keys is written anew -/
theorem dt_write {pins : List (Addr × Obj)} {σ : St} {s : Shared} {a : Addr} {k0 ks : List (List Key × V)} {rs : List (List Key × Addr × Value)} {h' : Heap} {tk : Tok} (I : Inv X pins σ H s) (e : H a = some (.dT k0))
    (hz : ks.length ≤ sizeLine) (rk : KT H ks rs) (hs : Heap.SameBut a s.heap h') (dd : h'.DictOfH (tupleKind (mixKind X.prog X.w)) a rs) : Inv X pins σ (upd H a (.dT ks)) { s with heap := h', toks := tk } := by
  have up : KT (upd H a (.dT ks)) ks rs := rk.keeps fun c ys z => (upd_ne fun w => by rw [w, e] at z; cases z).trans z
  obtain ⟨ob, es, ep, g1, g2, g3, g4, _, g5⟩ := dd
  exact d_write I (by rw [e]; trivial) hs ⟨ob, g1⟩ ⟨hz, (dt_of I.hok e).2.1, rs, up, ob, es, ep, g1, g2, g3, g4, g5⟩
theorem pe_dispT {trs : List (TE × TE)} (hu : X.A.units + 1 < cLine) (h : PPs X pos keys values trs) (hall : keys.all (·.isSome) = true) (hl : keys.length = values.length) (h0 : keys ≠ [])
    (h15 : keys.length ≤ 15) : PE X (.Dict keys values pos) (tDispT trs) := by
  constructor
  intro pins s σ H Q I q
  have I1 := I.laid (a := s.heap.objs.size) (o := .dT []) (h' := s.heap.push { cls := .type "dict", data := .dict #[] }) (t' := s.toks) (fun _ _ q => Heap.get?_push_of_some _ q) (Nat.le_refl _) (dt_empty s.heap I.big)
  have hpl := pairTrees_length keys values X.env pos hall hl
  have hne : pairTrees keys values X.env pos ≠ [] := fun he => h0 (List.length_eq_zero_iff.mp (by rw [← hpl, he]; rfl))
  rw [arm_eval_Dict, zip_pairTrees keys values X.env pos hall hl, dictDisplay_pairs _ hne (by omega)]
  refine wpAny_bind (wpAny_standAt (wpAny_bind (wpAny_subDictH (knd := tupleKind (mixKind X.prog X.w)) (by show X.A.units < cLine; omega) (by omega) (thn (h.run pins _ σ _ _ I1 (q _ (I.hok.fresh (Nat.le_refl _)))) ?_))))
  rintro ws s2 ⟨ps, H2, I2, rel, e, kvs, ep, lk, q2⟩
  obtain ⟨rs, cr, rk⟩ := carriesT I2.hok ep rel
  obtain ⟨_, _, _, r0, d0⟩ := dt_of I2.hok e
  cases r0
  refine ⟨rs, cr, d0, fun h' tk dd' hs => wpAny_pure ⟨.ref s.heap.objs.size, _, dt_write I2 e ?_ (KT.merge .nil rk) hs dd', rfl, q2⟩⟩
  have := length_mergeT kvs []
  rw [sizeLine_eq]; simp only [List.length_nil] at this; omega
theorem dspT_pairs : ∀ {vs : List V} {ds : List D} {kvs : List (List Key × D)}, Dats K o H vs ds → pairG D.tkey? ds = some kvs → ∃ ks : List (List Key × V), Paired (fun (x : V × V) (y : List Key × V) => ∃ b, x = (V.ref b, y.2) ∧ H b = some (.tup (y.1.map kV))) (pairUp vs) ks ∧ Kvs K o H ks kvs ∧ ks.length = kvs.length
  | _, [], _, .nil, e => by simp [pairG] at e; subst e; exact ⟨[], .nil, .nil, rfl⟩
  | _, [_], _, .cons _ .nil, e => by simp [pairG] at e
  | _, k :: d :: r, _, .cons a (.cons b t), e => by
    unfold pairG at e
    split at e
    · rename_i k' kvs e1 e2
      cases e
      obtain ⟨ks, h1, h2, h3⟩ := dspT_pairs t e2
      unfold D.tkey? at e1
      split at e1
      · cases a with
        | tup tt rr =>
          refine ⟨(k', _) :: ks, .cons ⟨_, rfl, ?_⟩ h1, .cons ⟨rfl, b⟩ h2, by simp [h3]⟩
          rw [← rr.keys e1]; exact tt.2
      · cases e1
    · cases e
theorem de_dspT (hu : X.A.units + 1 < cLine) (h : DPs X c pos keys values tl) (hall : keys.all (·.isSome) = true := by rfl) (hl : keys.length = values.length := by rfl) (h0 : keys ≠ [] := by exact List.cons_ne_nil _ _) (h15 : keys.length ≤ 15 := by decide) : DE X c (.Dict keys values pos) (tDspT tl) := by
  obtain ⟨trs, h1, h2⟩ := h
  refine peImp (pe_dispT hu h1 hall hl h0 h15) fun σ H k ⟨o, ρ, τ, Q, R0, h, q⟩ => fun p hp => ?_
  obtain ⟨R1, L1⟩ := R0.push (m := .dt []) (u := .dT []) hp trivial rfl ⟨p, [], rfl, by simp, upd_same, .nil⟩
  refine h2 _ _ _ (frzN R1 h fun vs H2 o2 ds ρ2 L2 R2 dd hf => ?_)
  split at hf
  · rename_i kvs e
    obtain ⟨ks, e1, kk, kl⟩ := dspT_pairs dd e
    obtain ⟨⟨a, xs, ea, ho, hH, hx⟩, _⟩ := R2.tm τ.length (.ref p) (.dt []) (by simp)
    cases ea
    cases hx
    refine ⟨hH, ks, e1, by rw [kl]; exact hf.1, ?_⟩
    have L3 : Le o2 H2 o2 (upd H2 p (.dT (mergeT [] ks))) := ⟨fun b w q f => ⟨q, by rw [upd_ne (fun z => by subst z; rw [ho] at q; cases q)]; exact f⟩, fun b q => ⟨q, upd_ne (fun z => by subst z; rw [ho] at q; cases q)⟩⟩
    obtain ⟨R3, L3⟩ := R2.mutT (m := .dt (putAll [] kvs)) (u := .dT (mergeT [] ks)) ho trivial rfl ⟨p, _, rfl, ho, upd_same, Kvs.mono L3 (Kvs.putAll .nil kk)⟩
    exact q _ _ o2 (.tm _) ρ2 _ (L1.trans (L2.trans L3)) R3 rfl hf.2
  · exact hf.elim
end
end
end Y
namespace Y
open PySem PySem.Spec L2
/-! ### the plain side: one statement at a time, what follows kept folded -/
theorem seq_step {t u : TSX} {P : EndP} {ρ : Env} (h : ∀ R, R = u P → t { P with nx := R } ρ) : sSeq t u P ρ := h _ rfl
theorem loop_step {b : Bd} {t : TSX} {gd : Env → Prop} {P : EndP} {d : D} {ds : List D} {ρ : Env} (g : gd ρ) (h : ∀ L, L = loopS b t gd P ds → bnd b d ρ fun ρ1 => t { P with nx := L, ct := L, bk := P.nx } ρ1) : loopS b t gd P (d :: ds) ρ := ⟨g, h _ rfl⟩
theorem while_step {q : TQ} {t : TSX} {P : EndP} {n : Nat} {ρ : Env} (h : ∀ L, L = whileS q t P n → q ρ fun b ρ1 => if b = true then t { P with nx := L, ct := L, bk := P.nx } ρ1 else P.nx ρ1) : whileS q t P (n + 1) ρ := h _ rfl
theorem comp_step {b : Bd} {tq : TQ} {te : TX} {vs : List Nat} {gd : Env → Prop} {k : List D → Env → Prop} {d : D} {ds acc : List D} {ρ : Env} (g : gd ρ) (h : ∀ L, L = compL b tq te vs gd k ds → bnd b d ρ fun ρ1 => tq ρ1 fun ok ρ2 =>
    if ok = true then tFrz (lCons te lNil) (fun xs ρ3 => match xs with
      | [x] => acc.length < sizeLine ∧ L (acc ++ [x]) (wipeE ρ3 vs)
      | _ => False) ρ2
    else L acc (wipeE ρ2 vs)) : compL b tq te vs gd k (d :: ds) acc ρ := ⟨g, h _ rfl⟩
/-! what a call leaves in a slot -/
theorem putS_lo_ls_ls {a : List D} {b : List D} : putS (some (.ls b)) (some (.lo (.ls a))) = some (.lo (.ls b)) := rfl
theorem putS_lo_ls_dk {a : List D} {b : List (Key × D)} : putS (some (.dk b)) (some (.lo (.ls a))) = some (.lo (.dk b)) := rfl
theorem putS_lo_ls_dt {a : List D} {b : List (List Key × D)} : putS (some (.dt b)) (some (.lo (.ls a))) = some (.lo (.dt b)) := rfl
theorem putS_lo_ls_no {a : List D} : putS none (some (.lo (.ls a))) = some .no := rfl
theorem putS_pa_ls_ls {a : List D} {b : List D} : putS (some (.ls b)) (some (.pa (.ls a))) = some (.pa (.ls b)) := rfl
theorem putS_pa_ls_dk {a : List D} {b : List (Key × D)} : putS (some (.dk b)) (some (.pa (.ls a))) = some (.pa (.dk b)) := rfl
theorem putS_pa_ls_dt {a : List D} {b : List (List Key × D)} : putS (some (.dt b)) (some (.pa (.ls a))) = some (.pa (.dt b)) := rfl
theorem putS_pa_ls_no {a : List D} : putS none (some (.pa (.ls a))) = some .no := rfl
theorem putS_lo_rd_ls {a : List D} {b : List D} : putS (some (.ls b)) (some (.lo (.rd a))) = some (.lo (.ls b)) := rfl
theorem putS_lo_rd_dk {a : List D} {b : List (Key × D)} : putS (some (.dk b)) (some (.lo (.rd a))) = some (.lo (.dk b)) := rfl
theorem putS_lo_rd_dt {a : List D} {b : List (List Key × D)} : putS (some (.dt b)) (some (.lo (.rd a))) = some (.lo (.dt b)) := rfl
theorem putS_lo_rd_no {a : List D} : putS none (some (.lo (.rd a))) = some .no := rfl
theorem putS_pa_rd_ls {a : List D} {b : List D} : putS (some (.ls b)) (some (.pa (.rd a))) = some (.pa (.ls b)) := rfl
theorem putS_pa_rd_dk {a : List D} {b : List (Key × D)} : putS (some (.dk b)) (some (.pa (.rd a))) = some (.pa (.dk b)) := rfl
theorem putS_pa_rd_dt {a : List D} {b : List (List Key × D)} : putS (some (.dt b)) (some (.pa (.rd a))) = some (.pa (.dt b)) := rfl
theorem putS_pa_rd_no {a : List D} : putS none (some (.pa (.rd a))) = some .no := rfl
theorem putS_lo_dk_ls {a : List (Key × D)} {b : List D} : putS (some (.ls b)) (some (.lo (.dk a))) = some (.lo (.ls b)) := rfl
theorem putS_lo_dk_dk {a : List (Key × D)} {b : List (Key × D)} : putS (some (.dk b)) (some (.lo (.dk a))) = some (.lo (.dk b)) := rfl
theorem putS_lo_dk_dt {a : List (Key × D)} {b : List (List Key × D)} : putS (some (.dt b)) (some (.lo (.dk a))) = some (.lo (.dt b)) := rfl
theorem putS_lo_dk_no {a : List (Key × D)} : putS none (some (.lo (.dk a))) = some .no := rfl
theorem putS_pa_dk_ls {a : List (Key × D)} {b : List D} : putS (some (.ls b)) (some (.pa (.dk a))) = some (.pa (.ls b)) := rfl
theorem putS_pa_dk_dk {a : List (Key × D)} {b : List (Key × D)} : putS (some (.dk b)) (some (.pa (.dk a))) = some (.pa (.dk b)) := rfl
theorem putS_pa_dk_dt {a : List (Key × D)} {b : List (List Key × D)} : putS (some (.dt b)) (some (.pa (.dk a))) = some (.pa (.dt b)) := rfl
theorem putS_pa_dk_no {a : List (Key × D)} : putS none (some (.pa (.dk a))) = some .no := rfl
theorem putS_lo_dt_ls {a : List (List Key × D)} {b : List D} : putS (some (.ls b)) (some (.lo (.dt a))) = some (.lo (.ls b)) := rfl
theorem putS_lo_dt_dk {a : List (List Key × D)} {b : List (Key × D)} : putS (some (.dk b)) (some (.lo (.dt a))) = some (.lo (.dk b)) := rfl
theorem putS_lo_dt_dt {a : List (List Key × D)} {b : List (List Key × D)} : putS (some (.dt b)) (some (.lo (.dt a))) = some (.lo (.dt b)) := rfl
theorem putS_lo_dt_no {a : List (List Key × D)} : putS none (some (.lo (.dt a))) = some .no := rfl
theorem putS_pa_dt_ls {a : List (List Key × D)} {b : List D} : putS (some (.ls b)) (some (.pa (.dt a))) = some (.pa (.ls b)) := rfl
theorem putS_pa_dt_dk {a : List (List Key × D)} {b : List (Key × D)} : putS (some (.dk b)) (some (.pa (.dt a))) = some (.pa (.dk b)) := rfl
theorem putS_pa_dt_dt {a : List (List Key × D)} {b : List (List Key × D)} : putS (some (.dt b)) (some (.pa (.dt a))) = some (.pa (.dt b)) := rfl
theorem putS_pa_dt_no {a : List (List Key × D)} : putS none (some (.pa (.dt a))) = some .no := rfl
theorem putS_lo_im {a : D} {f : Option M} : putS f (some (.lo (.im a))) = none := rfl
theorem putS_lo_sq {a : List D} {f : Option M} : putS f (some (.lo (.sq a))) = none := rfl
theorem putS_pa_im {a : D} {f : Option M} : putS f (some (.pa (.im a))) = none := rfl
theorem putS_pa_sq {a : List D} {f : Option M} : putS f (some (.pa (.sq a))) = none := rfl
theorem gRng_zero (lo : Int) : gRng lo 0 = [] := rfl
theorem gRng_succ (lo : Int) (n : Nat) : gRng lo (n + 1) = .int lo :: gRng (lo + 1) n := by
  unfold gRng
  rw [List.range_succ_eq_map, List.map_cons, List.map_map]
  congr 1
  · simp
  · apply List.map_congr_left; intro i _; simp; omega
/-- small factors -/
theorem log2_lt {i : Int} (k : Nat) (h1 : -(2 ^ k) < i) (h2 : i < 2 ^ k) (hk : 0 < k) : i.natAbs.log2 < k := by
  by_cases z : i.natAbs = 0
  · rw [z]; simpa using hk
  · rw [Nat.log2_lt z]
    have e : ((2 : Int) ^ k) = ((2 ^ k : Nat) : Int) := by norm_cast
    rw [e] at h1 h2
    omega
theorem cMul {i j : Int} (a : -(2 ^ 64) < i ∧ i < 2 ^ 64) (b : -(2 ^ 64) < j ∧ j < 2 ^ 64) : CMulW i j := by
  have h1 := log2_lt 64 a.1 a.2 (by decide)
  have h2 := log2_lt 64 b.1 b.2 (by decide)
  unfold CMulW; omega
theorem cDiv {i j : Int} (b : 0 < j ∧ j < 2 ^ 64) : CDivW i j := by
  have h2 := log2_lt (i := j) 64 (by omega) b.2 (by decide)
  exact ⟨b.1, by omega⟩
/-- an index that stands -/
theorem atI_ok {α : Type} {xs : List α} {i : Int} (h0 : 0 ≤ i) (h : i < xs.length) : ∃ x, atI xs i = some x ∧ xs[i.toNat]? = some x := by
  refine ⟨xs[i.toNat]'(by omega), ?_, List.getElem?_eq_getElem (by omega)⟩
  unfold atI ixN
  rw [if_pos h0, if_pos h]
  exact List.getElem?_eq_getElem (by omega)
theorem ixN_ok {n : Nat} {i : Int} (h0 : 0 ≤ i) (h : i < n) : ixN n i = some i.toNat := by unfold ixN; rw [if_pos h0, if_pos h]
theorem atI_map {α β : Type} (f : α → β) (xs : List α) (i : Int) : atI (xs.map f) i = (atI xs i).map f := by
  unfold atI
  rw [List.length_map]
  cases ixN xs.length i with
  | none => rfl
  | some j => exact List.getElem?_map

/-! ### comprehensions that leave the environment as it is -/
theorem comp_fix {α : Type} {b : Bd} {tq : TQ} {te : TX} {vs : List Nat} {gd : Env → Prop} {k : List D → Env → Prop} {ρ : Env} (g : α → D) (f : α → Option D) (hg : gd ρ) : ∀ (xs : List α) (acc : List D),
    (∀ x ∈ xs, ∀ (acc : List D) (L : List D → Env → Prop), acc.length < sizeLine → (match f x with
      | some y => L (acc ++ [y]) ρ
      | none => L acc ρ) → bnd b (g x) ρ fun ρ1 => tq ρ1 fun ok ρ2 => if ok = true then tFrz (lCons te lNil) (fun xs ρ3 => match xs with
        | [x] => acc.length < sizeLine ∧ L (acc ++ [x]) (wipeE ρ3 vs)
        | _ => False) ρ2 else L acc (wipeE ρ2 vs)) →
    acc.length + xs.length ≤ sizeLine → k (acc ++ xs.filterMap f) ρ → compL b tq te vs gd k (xs.map g) acc ρ := by
  intro xs
  induction xs with
  | nil => intro acc _ _ h; rw [List.filterMap_nil, List.append_nil] at h; exact ⟨hg, h⟩
  | cons x xs ih =>
    intro acc st hl h
    rw [List.length_cons] at hl
    refine ⟨hg, st x List.mem_cons_self acc _ (by omega) ?_⟩
    cases e : f x with
    | some y =>
      refine ih _ (fun z hz => st z (List.mem_cons_of_mem _ hz)) (by rw [List.length_append, List.length_singleton]; omega) ?_
      rw [List.filterMap_cons, e] at h
      rw [List.append_assoc]; exact h
    | none =>
      refine ih _ (fun z hz => st z (List.mem_cons_of_mem _ hz)) (by omega) ?_
      rw [List.filterMap_cons, e] at h
      exact h
end Y
namespace Y
open PySem PySem.Spec L2
/-! ### the law's def, called with a list of ints -/
theorem hsp_of {F : TF} (hF : ∀ (ns : List Int) (G : M → List (Option M) → Prop), ns.length ≤ 63 → (∀ fin, G (.im (.bl true)) fin) → F [.sq (ns.map D.int)] G) (K : PySem.W.Frag) (H : Hp) (a : Addr) (ns : List Int) (hl : ns.length ≤ 63) (_ : Only H) (hS : SqL K H a (ns.map V.int)) :
    spD K F 1 [.ref a] H (fun v _ => v = .bl true) fun _ _ _ => False := by
  refine ⟨fun _ => none, [.sq (ns.map D.int)], fun m _ => m = .im (.bl true), rfl, ⟨rfl, fun i v m e1 e2 => ?_, fun a l e => by cases e⟩, hF ns _ hl fun _ => rfl, fun v H' o' m fin _ _ i _ e => ?_⟩
  · cases i with
    | zero =>
      cases e1; cases e2
      refine ⟨a, ns.map V.int, rfl, ?_, Dats.of_ints ns⟩
      rcases hS with h | h
      · exact .inl ⟨.inl rfl, h⟩
      · exact .inr h
    | succ i => simp at e1
  · subst e
    cases (show Dat K o' H' v (.bl true) from i)
    rfl
theorem walkY {l : PySem.W.OpenLaw} {q : Program} {loose : List Str} {XP : (Str → Option Value) → Heap → Prop} {YP : World → Heap → Prop} {d : DefRec} {K : Params → PySem.W.Frag} {F : TF} (hn : l.most = some 63) (hdf : d.params.defaults = [])
    (hF : ∀ (ns : List Int) (G : M → List (Option M) → Prop), ns.length ≤ 63 → (∀ fin, G (.im (.bl true)) fin) → F [.sq (ns.map D.int)] G)
    (hY : ∀ (w : World) (h : Heap), YP w h → (K w.params).In h)
    (Fk : ∀ (w : World) (mg : Str → Option Value) (fa : Addr) (h : Heap), (K w.params).In h → h.Ns mainGlobals mg → mg d.name = some (.ref fa) →
      ∃ fd : FuncData, (∀ (s : Shared) (u : Value), BindsTo s fd ⟨[u], []⟩ [("script", u)]) ∧ ∀ base : Heap, (K w.params).In base → base.Ns mainGlobals mg → FnOk l.prog w (K w.params) mg base CX0 65 fa fd ["script"] (spD (K w.params) F 1)) :
    PySem.W.WalkO q loose XP YP l.row.toRowW d [] (fun f vs => PySem.call f vs) :=
  L2.walk_of (n := 63) (k := 65) (x := "script") (CX := fun _ => CX0) (sp := fun w => spD (K w.params) F 1) hn (by decide) hdf ⟨rfl, by decide, by decide⟩ hY Fk (fun w H a ns h1 h2 h3 => hsp_of hF (K w.params) H a ns h1 h2 h3) fun _ _ _ _ _ z => z
/-- a promise that nobody calls on -/
theorem fn_never {Pg : Program} {w : World} {K : PySem.W.Frag} {mg : Str → Option Value} {base : Heap} {name : Str} {st : Stmt} {ps : List Str} {Df : DefAt K mg name st ps} {k : Nat} {F : TF} (h : ∀ ms G, ¬ F ms G) : FnD Pg w K mg base Df k F :=
  ⟨fun vs H Q E ⟨o, ms, G, hl, _⟩ => hl, fun A outer s H args us vs Q E _ _ _ _ ⟨o, ms, G, _, _, hf, _⟩ => (h ms G hf).elim⟩
end Y
namespace Y
open PySem PySem.Spec L2
/-! ### enumerate(t), t anything that the library knows how to begin -/
set_option maxHeartbeats 2000000 in
theorem enum_newV {v : Value} {o : Obj} {H : Heap → Prop} (B : Begins v o H) :
    Meets (Builtin.«enumerate.__new__» ⟨[.type "enumerate", v], []⟩) (fun _ R s => H s.heap ∧
      R (.ok (.ret (.ref (s.heap.push o).objs.size))) { s with heap := (s.heap.push o).push { cls := .type "enumerate", data := .fields #[.none, .bool false, .ref s.heap.objs.size, rawInt 0, .none, .none] } }) := by
  refine .of_wp fun prog w A R st hyp => ?_
  obtain ⟨heap, gens, drawn, toks, os⟩ := st
  obtain ⟨pre, post⟩ := hyp
  have hsub := sub_enumerate
  have start : ∀ {A2 : Around} {X2 Q2 : Value → Shared → Prop}, Q2 (.ref heap.objs.size) ⟨heap.push o, gens, drawn, toks, os⟩ →
      wpAny (model prog w) A2 (pyIter v) Q2 X2 ⟨heap, gens, drawn, toks, os⟩ := fun {A2 X2 Q2} k => B.iter prog w A2 X2 _ Q2 pre k
  wp_walk
  apply wpAny_stack_any
  intro stack
  apply wpAny_pure
  split
  case h_1 c _ _ _ _ _ => cases hc : (c == Value.type "enumerate") <;> (wp_walk using start; exact ⟨_, rfl, post⟩)
  all_goals (wp_walk using start; exact ⟨_, rfl, post⟩)
theorem enum_callV {prog : Program} {w : World} {A : Around} {E Q : Value → Shared → Prop} {s : Shared} {v : Value} {o : Obj} {H : Heap → Prop} (B : Begins v o H) (pre : H s.heap)
    (k : ∀ h', IsEnum h' (s.heap.objs.size + 1) s.heap.objs.size 0 .none → h'.get? s.heap.objs.size = some o → h'.objs.size = s.heap.objs.size + 2 →
      (∀ b u, s.heap.get? b = some u → h'.get? b = some u) → Q (.ref (s.heap.objs.size + 1)) { s with heap := h' }) : wpAny (model prog w) A (call (.type "enumerate") [v]) Q E s := by
  have n1 : (s.heap.push o).objs.size = s.heap.objs.size + 1 := by rw [Heap.size_push]
  refine callType_new F.called_enumerate (by decide) (F.typeCall_enumerate_1 v) (F.newCall_enumerate_1 v) (fun ob => F.args_object_init_2 ob v) F.entry_enumerate_new (enum_newV B) ⟨pre, ?_⟩
  generalize hcell : ({ cls := .type "enumerate", data := .fields #[.none, .bool false, .ref s.heap.objs.size, rawInt 0, .none, .none] } : Obj) = cell
  have free : cell.isFreed = false := by rw [← hcell]; rfl
  have at1 : ((s.heap.push o).push cell).get? (s.heap.objs.size + 1) = some cell := by rw [← n1]; exact Heap.get?_push_size _ free
  have isE : IsEnum ((s.heap.push o).push cell) (s.heap.objs.size + 1) s.heap.objs.size 0 .none := by rw [← hcell] at at1 ⊢; exact at1
  show _ ∧ Q (.ref (s.heap.push o).objs.size) _
  rw [n1]
  exact ⟨⟨cell, at1, by rw [← hcell]⟩, k _ isE (Heap.get?_push_of_some _ (Heap.get?_push_size s.heap B.free)) (by rw [Heap.size_push, n1]) fun b u hb => Heap.get?_push_of_some _ (Heap.get?_push_of_some _ hb)⟩
/-- the tuple at a: each item in a new pair -/
def IteT (K : PySem.W.Frag) (a : Addr) : It where
  go := fun i H => ∃ (xs : List V) (x : V), SqT K H a xs ∧ xs[i]? = some x
  yld := fun i H v H' => ∃ T x, v = .ref T ∧ H T = none ∧ H' = upd H T (.tup [.int (i : Nat), x]) ∧ ∀ xs, SqT K H a xs → xs[i]? = some x
  stop := fun i H => ∃ xs : List V, SqT K H a xs ∧ xs.length = i
/-- how the two new objects stand at the i-th turn -/
def EnT (a e it : Addr) (i : Nat) (h : Heap) : Prop := (∃ old, IsEnum h e it ((i : Nat) : Int) old) ∧ h.IsTupleIter it a i ∧ e ≠ it ∧ a ≠ it ∧ a ≠ e
theorem EnT.keep {a e it : Addr} {i : Nat} {h h' : Heap} (z : EnT a e it i h) (k : ∀ b, b = e ∨ b = it → ∀ u, h.get? b = some u → h'.get? b = some u) : EnT a e it i h' := by
  obtain ⟨⟨old, z1⟩, z2, z3⟩ := z
  exact ⟨⟨old, k e (.inl rfl) _ z1⟩, z2.at fun u => k it (.inr rfl) u, z3⟩
theorem EnT.objs {a e it : Addr} {i : Nat} {h : Heap} (z : EnT a e it i h) : (∃ u, h.get? e = some u ∧ ∀ v, u.data ≠ .cell v) ∧ ∃ u, h.get? it = some u ∧ ∀ v, u.data ≠ .cell v := by
  obtain ⟨⟨old, z1⟩, ⟨u, z2, _, z4⟩, _⟩ := z
  refine ⟨⟨_, z1, fun v => by simp⟩, u, z2, fun v q => by rw [z4] at q; cases q⟩
theorem turn_enumT {P : Program} {w : World} {K : PySem.W.Frag} {elts : List Expr} {kk : Nat} {tpos : Pos} (a e it : Addr) : Turn P w K (.Tuple elts kk tpos) (IteT K a) [e, it] e (EnT a e it) := by
  refine ⟨by simp, fun i h z b hb => ?_, fun i h h' z k => z.keep fun b hb => k b (by simpa using hb), ?_, ?_, fun A i s Q E z q => z.1.elim fun old z1 => wpAny_pyIter_enum z1 q⟩
  · rcases List.mem_cons.mp hb with rfl | hb
    · exact z.objs.1
    · rw [List.mem_singleton.mp hb]; exact z.objs.2
  · rintro X rfl rfl rfl calm i pins s σ H E I own z ⟨xs, x, sq, at_⟩
    obtain ⟨⟨old, z1⟩, z2, ne, ai, ae⟩ := z
    obtain ⟨items, rel, tup, _⟩ := I.tuple sq
    obtain ⟨u, hu, ru⟩ := rel.get at_
    have ilt : i < items.toArray.size := by have := (List.getElem?_eq_some_iff.mp hu).1; simpa using this
    have W := WalksT.enumerateD (Draws.tuple (prog := X.prog) (w := X.w) (A := X.A.in1) (I.ok.hd calm) it a ai items.toArray) e ne (by simp [ne, ae.symm]) (by simp)
    refine W.item i s _ E ilt ⟨⟨old, z1⟩, z2, tup⟩ fun T vals h1 tk ⟨t, y, hy, hv⟩ hT isT mid kp1 => ?_
    have yu : y = u := by
      have : items[i]? = some y := by simpa using hy
      exact Option.some.inj (this.symm.trans hu)
    subst hv yu
    refine ⟨_, rfl, W.go elts kk tpos i T { s with heap := h1, toks := tk } _ E mid fun h2 st2 kp2 => ?_⟩
    have Tn : T ∉ [e, it] := W.apart i T h1 mid
    obtain ⟨ob, o1, o2, o3⟩ := isT
    have T2 : h2.IsTuple T #[.int i t, y] := ⟨ob, kp2 T ob Tn o1, o2, o3⟩
    have kp : ∀ b u, b ∉ [e, it] → s.heap.get? b = some u → h2.get? b = some u := fun b u hb q => kp2 b u hb (kp1 b u hb q)
    have made : ObjOk X.prog X.w (upd H T (.tup [.int (i : Nat), x])) h2 T (.tup [.int (i : Nat), x]) := ⟨by show 2 ≤ sizeLine; decide, _, .cons ⟨t, rfl⟩ (.cons ru .nil), T2⟩
    have I2 := I.turnedNew (t' := tk) (ch := [e, it]) (fun b u hb q => kp b u hb q) own hT made
    obtain ⟨⟨old2, e2⟩, i2, _⟩ := st2
    refine ⟨.ref T, _, I2, rfl, ⟨T, x, rfl, I.hok.fresh hT, rfl, fun ys hs => I.tuple_inj sq hs ▸ at_⟩, ⟨⟨old2, e2⟩, i2, ne, ai, ae⟩, fun b hb => ?_⟩
    have bT : b ≠ T := fun q => Tn (q ▸ hb)
    rw [upd_ne bT]
    exact (own b hb).1
  · rintro X rfl rfl rfl calm i pins s σ H E I own z ⟨xs, sq, rfl⟩
    obtain ⟨⟨old, z1⟩, z2, ne, ai, ae⟩ := z
    obtain ⟨items, rel, tup, _⟩ := I.tuple sq
    have W := WalksT.enumerateD (Draws.tuple (prog := X.prog) (w := X.w) (A := X.A.in1) (I.ok.hd calm) it a ai items.toArray) e ne (by simp [ne, ae.symm]) (by simp)
    have len : items.toArray.size = xs.length := by rw [List.size_toArray]; exact rel.length.symm
    rw [← len] at z1 z2
    exact W.done s _ E ⟨⟨old, z1⟩, z2, tup⟩ fun h1 tk kp => ⟨rfl, I.turnedL (t' := tk) (ch := [e, it]) (fun b u hb q => kp b u hb q) own⟩
def iEnA (K : PySem.W.Frag) (ta : TA) : TI := fun σ H R => ta σ H fun vs H1 => ∃ a xs, vs = [.ref a] ∧ ((SqL K H1 a xs ∧ R (Ite K a) H1) ∨ (SqT K H1 a xs ∧ R (IteT K a) H1))
theorem pi_enA {X : Cx} {e : Expr} {ta : TA} {p pos tpos : Pos} {elts : List Expr} {kk : Nat} (hg : Gl X "enumerate") (hm : X.mg "enumerate" = none) (ha : PA X [e] ta) (hs : starEach [e] X.env = [(false, eval e X.env)] := by rfl) :
    PI X (.Tuple elts kk tpos) (.Call (.Name "enumerate" p) [e] [] pos) (iEnA X.K ta) := by
  constructor
  intro pins s σ H R I h
  refine PyProof.Rows.Call_ (ld_blt I hg hm PyProof.Rows.boot_enumerate (PyProof.Rows.callWith_type1 (thn (ha.run pos pins s σ H _ I h) ?_) hs rfl))
  rintro us s1 ⟨vs, H1, I1, rel, a, xs, rfl, way⟩
  rw [Vals.ref1 rel]
  let n := s1.heap.objs.size
  have two : ∀ b ∈ [n + 1, n], FpOk X pins H1 b := by
    intro b hb
    have up : n ≤ b := by simp at hb; omega
    exact I1.fpOk up (I1.hok.fresh up)
  rcases way with ⟨sq, q⟩ | ⟨sq, q⟩
  · obtain ⟨items, _, flat, _⟩ := I1.list sq
    exact call_enumerate_list flat.isList fun h2 isE at_ _ kp => wpAny_pyIter_enum isE
      ⟨n + 1, [n + 1, n], _, _, H1, rfl, I1.kept (t' := s1.toks) kp, turn_enum a (n + 1) n, ⟨⟨_, isE⟩, at_, Nat.succ_ne_self n⟩, two, q⟩
  · obtain ⟨items, _, tup, _⟩ := I1.tuple sq
    have old : a < n := by obtain ⟨u, hu, _⟩ := id tup; exact Heap.lt_size hu
    exact enum_callV (begins_tuple a items.toArray) tup fun h2 isE at_ _ kp => wpAny_pyIter_enum isE
      ⟨n + 1, [n + 1, n], _, _, H1, rfl, I1.kept (t' := s1.toks) kp, turn_enumT a (n + 1) n, ⟨⟨_, isE⟩, ⟨_, at_, rfl, rfl⟩, Nat.succ_ne_self n, Nat.ne_of_lt old, Nat.ne_of_lt (Nat.lt_succ_of_lt old)⟩, two, q⟩
section
variable {K : PySem.W.Frag} {c : Cc} {o o' : Own} {σ σ' : St} {H H' : Hp} {ρ ρ' : Env} {τ τ' τ0 τ1 : List (V × M)} {X : Cx} {e a b : Expr} {es elts : List Expr} {pos p tpos : Pos} {t u : TX} {kk : Nat}
/-! ### enumerate, zip, over data that is fixed -/
def gEnm (lo : Int) : List D → List D
  | [] => []
  | d :: ds => .tup [.int lo, d] :: gEnm (lo + 1) ds
theorem gEnm_at : ∀ {ds : List D} {lo : Int} {i : Nat}, (gEnm lo ds)[i]? = (ds[i]?).map fun d => D.tup [.int (lo + (i : Int)), d]
  | [], lo, i => by simp [gEnm]
  | d :: ds, lo, 0 => by simp [gEnm]
  | d :: ds, lo, i + 1 => by
    rw [gEnm, List.getElem?_cons_succ, gEnm_at, List.getElem?_cons_succ]
    congr 1
    funext d
    have e : lo + 1 + (i : Int) = lo + ((i + 1 : Nat) : Int) := by omega
    rw [e]
theorem gEnm_length : ∀ {ds : List D} {lo : Int}, (gEnm lo ds).length = ds.length
  | [], _ => rfl
  | d :: ds, lo => by rw [gEnm, List.length_cons, gEnm_length, List.length_cons]
theorem new_tup {T : Addr} {x : V} {d : D} {i : Int} (mu : ∀ a l, o a = some l → Mut (H a)) (hT : H T = none) (h : Dat K o H x d) : Grow H (upd H T (.tup [.int i, x])) ∧ Dat K o (upd H T (.tup [.int i, x])) (.ref T) (.tup [.int i, d]) := by
  have g : Grow H (upd H T (.tup [.int i, x])) := .new hT
  have oT : o T = none := by
    cases e : o T with
    | none => rfl
    | some l => have := mu T l e; rw [hT] at this; exact this.elim
  exact ⟨g, .tup ⟨oT, upd_same⟩ (.cons (.int i) (.cons (h.mono (g.le mu)) .nil))⟩
theorem runs_enL {ad : Addr} {ds : List D} {C : Own → Hp → Prop} (h : ∀ o H, C o H → ∃ xs, SqL K H ad xs ∧ Dats K o H xs ds) : Runs K (Ite K ad) (gEnm 0 ds) C := fun o H hc mu => by
  obtain ⟨xs, h1, h2⟩ := h o H hc
  refine ⟨fun i d e => ?_, ⟨xs, h1, by rw [gEnm_length, h2.length]; exact Nat.le_refl _⟩⟩
  rw [gEnm_at] at e
  obtain ⟨d', e1, rfl⟩ := Option.map_eq_some_iff.mp e
  obtain ⟨v, ev, dv⟩ := h2.get e1
  refine ⟨⟨xs, v, h1, ev⟩, fun x H' y => ?_⟩
  obtain ⟨T, x', rfl, hT, rfl, hy⟩ := y
  have := hy xs h1
  rw [ev] at this; cases this
  rw [Int.zero_add]
  exact new_tup mu hT dv
theorem runs_enT {ad : Addr} {ds : List D} {C : Own → Hp → Prop} (h : ∀ o H, C o H → ∃ xs, SqT K H ad xs ∧ Dats K o H xs ds) : Runs K (IteT K ad) (gEnm 0 ds) C := fun o H hc mu => by
  obtain ⟨xs, h1, h2⟩ := h o H hc
  refine ⟨fun i d e => ?_, ⟨xs, h1, by rw [gEnm_length, h2.length]⟩⟩
  rw [gEnm_at] at e
  obtain ⟨d', e1, rfl⟩ := Option.map_eq_some_iff.mp e
  obtain ⟨v, ev, dv⟩ := h2.get e1
  refine ⟨⟨xs, v, h1, ev⟩, fun x H' y => ?_⟩
  obtain ⟨T, x', rfl, hT, rfl, hy⟩ := y
  have := hy xs h1
  rw [ev] at this; cases this
  rw [Int.zero_add]
  exact new_tup mu hT dv
/-- what enumerate walks: as srcOf -/
def enmOf (r : R) (ρ : Env) (k : Src → Env → Prop) : Prop := match r with
  | .im (.tup ds) => k (.fx (gEnm 0 ds)) ρ
  | .im (.lst ds) => k (.fx (gEnm 0 ds)) ρ
  | .tm (.ls ds) => k (.fx (gEnm 0 ds)) ρ
  | .sl i => match ρ[i]? with
    | some (.lo (.ls ds)) => k (.sl i ds (gEnm 0 ds)) ρ
    | some (.pa (.ls ds)) => k (.sl i ds (gEnm 0 ds)) ρ
    | some (.lo (.sq ds)) => k (.fx (gEnm 0 ds)) ρ
    | some (.pa (.sq ds)) => k (.fx (gEnm 0 ds)) ρ
    | some (.hd p v (.ls ds)) => k (.hs i p v ds (gEnm 0 ds)) ρ
    | _ => False
  | _ => False
def iEnm (ta : TL) : TSrc := fun ρ k => ta ρ fun rs ρ1 => match rs with
  | [r] => enmOf r ρ1 k
  | _ => False
theorem en_ok {v : V} {r : R} {ti : Src → Env → Prop} {R' : It → Hp → Prop} (R1 : Rep K c o σ H ρ τ') (z : RelR K o H σ v r τ τ') (h : enmOf r ρ ti)
    (q : ∀ J o' s, Le o H o' H → Rep K c o' σ H ρ τ → SrcOk K J o' H σ s → ti s ρ → R' J H) :
    ∃ ad xs, v = .ref ad ∧ ((SqL K H ad xs ∧ R' (Ite K ad) H) ∨ (SqT K H ad xs ∧ R' (IteT K ad) H)) := by
  unfold enmOf at h
  split at h
  · obtain ⟨rfl, z⟩ := z
    cases z with
    | tup t d => exact ⟨_, _, rfl, .inr ⟨t.sq, q _ o (.fx _) .refl R1 (runs_enT fun o' H' L => ⟨_, (t.mono L).sq, d.mono L⟩) h⟩⟩
  · obtain ⟨rfl, z⟩ := z
    cases z with
    | lst a b d => exact ⟨_, _, rfl, .inl ⟨SqL.of b, q _ o (.fx _) .refl R1 (runs_enL fun o' H' L => ⟨_, SqL.of (L.keep _ _ a b).2, d.mono L⟩) h⟩⟩
  · have z : τ' = τ ++ [(v, _)] := z
    subst z
    obtain ⟨a, xs, rfl, ho, hH, d⟩ := (R1.tm τ.length _ _ (by rw [List.getElem?_append_right (Nat.le_refl _), Nat.sub_self]; rfl)).1
    have R2 := R1.drop (List.prefix_append τ _)
    have e : dropT τ.length o a = none := by unfold dropT; rw [ho]; show (if τ.length < τ.length then _ else none) = none; rw [if_neg (Nat.lt_irrefl _)]
    exact ⟨_, _, rfl, .inl ⟨SqL.of hH, q _ _ (.fx _) (dropT_le _) R2 (runs_enL fun o' H' L => ⟨_, SqL.of (L.keep _ _ e hH).2, (d.mono (dropT_le τ.length)).mono L⟩) h⟩⟩
  · obtain ⟨rfl, z⟩ := z
    split at h
    · rename_i ds e
      obtain ⟨w, e1, a, xs, rfl, ho, hH, d⟩ := R1.sl _ _ e
      rw [z] at e1; cases e1
      refine ⟨_, _, rfl, .inl ⟨SqL.of hH, q _ o (.sl _ ds _) .refl R1 ⟨_, z, runs_enL fun o' H' ⟨l, b, ys, e2, h1, h2, h3⟩ => ?_⟩ h⟩⟩
      cases e2; exact ⟨ys, SqL.of h2, h3⟩
    · rename_i ds e
      obtain ⟨w, e1, _, a, xs, rfl, ho, hH, d⟩ := R1.sl _ _ e
      rw [z] at e1; cases e1
      refine ⟨_, _, rfl, .inl ⟨SqL.of hH, q _ o (.sl _ ds _) .refl R1 ⟨_, z, runs_enL fun o' H' ⟨l, b, ys, e2, h1, h2, h3⟩ => ?_⟩ h⟩⟩
      cases e2; exact ⟨ys, SqL.of h2, h3⟩
    · rename_i ds e
      obtain ⟨w, e1, a, xs, rfl, hl, d⟩ := R1.sl _ _ e
      rw [z] at e1; cases e1
      exact ⟨_, _, rfl, .inl ⟨hl.sq, q _ o (.fx _) .refl R1 (runs_enL fun o' H' L => ⟨_, (hl.mono L).sq, d.mono L⟩) h⟩⟩
    · rename_i ds e
      obtain ⟨w, e1, _, a, xs, rfl, hl, d⟩ := R1.sl _ _ e
      rw [z] at e1; cases e1
      exact ⟨_, _, rfl, .inl ⟨hl.sq, q _ o (.fx _) .refl R1 (runs_enL fun o' H' L => ⟨_, (hl.mono L).sq, d.mono L⟩) h⟩⟩
    · rename_i p v0 ds e
      obtain ⟨e1, _, a, xs, rfl, ho, hH, d⟩ := R1.sl _ _ e
      rw [z] at e1; cases e1
      refine ⟨_, _, rfl, .inl ⟨SqL.of hH, q _ o (.hs _ p _ ds _) .refl R1 (runs_enL fun o' H' ⟨l, b, ys, e2, h1, h2, h3⟩ => ?_) h⟩⟩
      cases e2; exact ⟨ys, SqL.of h2, h3⟩
    · exact h.elim
  · exact h.elim
theorem di_enm {ta : TL} (hg : Gl X "enumerate") (hm : X.mg "enumerate" = none) (ha : DA X c [e] ta) (hs : starEach [e] X.env = [(false, eval e X.env)] := by rfl) : DI X c (.Tuple elts kk tpos) (.Call (.Name "enumerate" p) [e] [] pos) (iEnm ta) :=
  piImp (pi_enA hg hm ha hs) fun σ H R hh => by
    obtain ⟨o, ρ, τ, Q, R0, hh, q⟩ := hh
    refine ⟨o, ρ, τ, _, R0, hh, fun vs H1 o1 rs ρ1 τ1 L1 R1 z1 h1 => ?_⟩
    split at h1
    · cases z1 with
      | cons z t =>
        cases t
        obtain ⟨ad, xs, e, w⟩ := en_ok (R' := fun J H => R J H) R1 z h1 fun J o' s L R' ok hs => q J H1 o' ρ1 s (L1.trans L) R' ok hs
        exact ⟨ad, xs, by rw [e], w⟩
    · exact h1.elim
/-! ### what nobody reaches -/
def sDead : TSX := fun _ _ => False
theorem ds_dead {st : Stmt} : DS X c st sDead := ⟨fun pins s σ H D I ⟨o, ρ, P, _, h, _⟩ => h.elim⟩
end
end Y
namespace Y
open PySem PySem.Spec L2
/-! ### data without booleans: == is sameness -/
mutual
def D.std : D → Bool
  | .non => true
  | .bl _ => false
  | .int _ => true
  | .str _ => true
  | .tup ds => D.stds ds
  | .lst ds => D.stds ds
  | .raw _ => false
def D.stds : List D → Bool
  | [] => true
  | d :: ds => d.std && D.stds ds
end
theorem D.stds_all : ∀ ds : List D, D.stds ds = ds.all D.std
  | [] => rfl
  | d :: ds => by simp only [D.stds, List.all_cons]; rw [D.stds_all ds]
mutual
theorem eqv_std : ∀ d e : D, d.std = true → e.std = true → (D.eqv d e = true ↔ d = e)
  | .non, e, _, k => by cases e <;> simp_all [D.eqv, D.py, PyData.eqv, D.std]
  | .int i, e, _, k => by cases e <;> simp_all [D.eqv, D.py, PyData.eqv, D.std]
  | .str i, e, _, k => by cases e <;> simp_all [D.eqv, D.py, PyData.eqv, D.std]
  | .tup ds, .tup es, h, k => by
    have := eqvs_std ds es (by simpa [D.std] using h) (by simpa [D.std] using k)
    simpa [D.eqv, D.py, PyData.eqv] using this
  | .lst ds, .lst es, h, k => by
    have := eqvs_std ds es (by simpa [D.std] using h) (by simpa [D.std] using k)
    simpa [D.eqv, D.py, PyData.eqv] using this
  | .tup ds, .non, h, k => by simp [D.eqv, D.py, PyData.eqv]
  | .tup ds, .int _, h, k => by simp [D.eqv, D.py, PyData.eqv]
  | .tup ds, .str _, h, k => by simp [D.eqv, D.py, PyData.eqv]
  | .tup ds, .lst _, h, k => by simp [D.eqv, D.py, PyData.eqv]
  | .lst ds, .non, h, k => by simp [D.eqv, D.py, PyData.eqv]
  | .lst ds, .int _, h, k => by simp [D.eqv, D.py, PyData.eqv]
  | .lst ds, .str _, h, k => by simp [D.eqv, D.py, PyData.eqv]
  | .lst ds, .tup _, h, k => by simp [D.eqv, D.py, PyData.eqv]
  | .tup _, .bl _, _, k => by simp [D.std] at k
  | .tup _, .raw _, _, k => by simp [D.std] at k
  | .lst _, .bl _, _, k => by simp [D.std] at k
  | .lst _, .raw _, _, k => by simp [D.std] at k
  | .bl _, _, h, _ => by simp [D.std] at h
  | .raw _, _, h, _ => by simp [D.std] at h
theorem eqvs_std : ∀ ds es : List D, D.stds ds = true → D.stds es = true → (PyData.eqvAll (D.pys ds) (D.pys es) = true ↔ ds = es)
  | [], [], _, _ => by simp [D.pys, PyData.eqvAll]
  | [], _ :: _, _, _ => by simp [D.pys, PyData.eqvAll]
  | _ :: _, [], _, _ => by simp [D.pys, PyData.eqvAll]
  | d :: ds, e :: es, h, k => by
    simp only [D.stds, Bool.and_eq_true] at h k
    have h1 := eqv_std d e h.1 k.1
    have h2 := eqvs_std ds es h.2 k.2
    simp only [D.pys, PyData.eqvAll, Bool.and_eq_true, List.cons.injEq]
    exact ⟨fun z => ⟨h1.mp z.1, h2.mp z.2⟩, fun z => ⟨h1.mpr z.1, h2.mpr z.2⟩⟩
end
section
variable {α : Type} [DecidableEq α] {g : α → D}
/-- a way to write things as data: no booleans, nothing written alike -/
structure Code (g : α → D) : Prop where
  std : ∀ a, (g a).std = true
  inj : ∀ a b, g a = g b → a = b
theorem Code.eqv (h : Code g) (a b : α) : D.eqv (g a) (g b) = decide (a = b) := by
  have e := eqv_std (g a) (g b) (h.std a) (h.std b)
  by_cases z : a = b
  · subst z; rw [decide_eq_true rfl]; exact e.mpr rfl
  · rw [decide_eq_false z]
    cases q : D.eqv (g a) (g b) with
    | false => rfl
    | true => exact absurd (h.inj _ _ (e.mp q)) z
theorem Code.any (h : Code g) (xs : List α) (a : α) : ((xs.map g).any fun z => D.eqv z (g a)) = decide (a ∈ xs) := by
  induction xs with
  | nil => rfl
  | cons x xs ih =>
    rw [List.map_cons, List.any_cons, ih, h.eqv]
    by_cases e : x = a
    · subst e; simp
    · simp [e]
      exact fun z => absurd z.symm e
theorem Code.inj_map (h : Code g) : ∀ {xs ys : List α}, xs.map g = ys.map g → xs = ys
  | [], [], _ => rfl
  | [], _ :: _, e => by cases e
  | _ :: _, [], e => by cases e
  | x :: xs, y :: ys, e => by
    rw [List.map_cons, List.map_cons] at e
    injection e with e1 e2
    rw [h.inj _ _ e1, Code.inj_map h e2]
theorem Code.stds (h : Code g) (xs : List α) : D.stds (xs.map g) = true := by
  rw [D.stds_all, List.all_eq_true]
  intro d hd
  obtain ⟨a, _, rfl⟩ := List.mem_map.mp hd
  exact h.std a
end
/-! ### an index that is written out -/
section
variable {α : Type} {a b c d e f g : α} {l : List α}
theorem atI_c0 : atI (a :: l) 0 = some a := by obtain ⟨x, h, h2⟩ := atI_ok (xs := a :: l) (i := 0) (by omega) (by simp <;> omega); rw [h]; simpa using h2.symm
theorem atI_c1 : atI (a :: b :: l) 1 = some b := by obtain ⟨x, h, h2⟩ := atI_ok (xs := a :: b :: l) (i := 1) (by omega) (by simp <;> omega); rw [h]; simpa using h2.symm
theorem atI_c2 : atI (a :: b :: c :: l) 2 = some c := by obtain ⟨x, h, h2⟩ := atI_ok (xs := a :: b :: c :: l) (i := 2) (by omega) (by simp <;> omega); rw [h]; simpa using h2.symm
theorem atI_c3 : atI (a :: b :: c :: d :: l) 3 = some d := by obtain ⟨x, h, h2⟩ := atI_ok (xs := a :: b :: c :: d :: l) (i := 3) (by omega) (by simp <;> omega); rw [h]; simpa using h2.symm
theorem atI_c4 : atI (a :: b :: c :: d :: e :: l) 4 = some e := by obtain ⟨x, h, h2⟩ := atI_ok (xs := a :: b :: c :: d :: e :: l) (i := 4) (by omega) (by simp <;> omega); rw [h]; simpa using h2.symm
theorem atI_c5 : atI (a :: b :: c :: d :: e :: f :: l) 5 = some f := by obtain ⟨x, h, h2⟩ := atI_ok (xs := a :: b :: c :: d :: e :: f :: l) (i := 5) (by omega) (by simp <;> omega); rw [h]; simpa using h2.symm
end
end Y
namespace Y
open PySem PySem.Spec L2
section
variable {Pg : Program} {w : World} {K : PySem.W.Frag} {mg : Str → Option Value} {base : Heap}
/-! printed by gen.py -/
abbrev pr : Program := PySem.Challenge.pw_wherewritten_k63_reach
def topS (i : Nat) : Stmt := pr.main.body.getD i (.Pass ⟨0, 0, 0, 0⟩)

/-! ### reach -/
abbrev st_reach : Stmt := topS 2
theorem sc_reach : FnScope ["artifacts", "main", "found", "waiting", "module", "shift", "uses", "other", "level"] ["artifacts", "main"] (defScope st_reach) := ⟨rfl, rfl, rfl, by decide +kernel, rfl, by decide +kernel, by decide +kernel⟩
def b_reach_2 : TSX :=
    sIf (tAndQ (tTst (tBin (gLe) (tBin gAdd (tNm 5) (tNm 8)) (tIm (.int 3)))) (tTst (tBin (gIns true) (tTp (lCons (tNm 7) (lCons (tBin gAdd (tNm 5) (tNm 8)) (lNil)))) (tNm 2)))) (sSeq (sSetI 2 (tTp (lCons (tNm 7) (lCons (tBin gAdd (tNm 5) (tNm 8)) (lNil)))) (tIm (.bl true)))
    (sDrop (tMt gApp 3 (lCons (tTp (lCons (tNm 7) (lCons (tBin gAdd (tNm 5) (tNm 8)) (lNil)))) (lNil))))) (sNil)
def b_reach_1 : TSX :=
    sSeq (sUnp (.many [4, 5]) (tMt gPop 3 lNil))
    (sSeq (sAsg 6 (tIfX (tTst (tBin (gIns false) (tNm 4) (tNm 0))) (tBin gIx (tBin gIx (tNm 0) (tNm 4)) (tIm (.int 2))) (tTp (lNil))))
    (sFor (iSeq (tNm 6)) (.many [7, 8]) (b_reach_2)))
def t_reach : TSX :=
    sSeq (sAsg 2 (tDspT (lCons (tTp (lCons (tNm 1) (lCons (tIm (.int 0)) (lNil)))) (lCons (tIm (.bl true)) (lNil)))))
    (sSeq (sAsg 3 (tLs (lCons (tTp (lCons (tNm 1) (lCons (tIm (.int 0)) (lNil)))) (lNil))))
    (sSeq (sWhile (tTru (tNm 3)) (b_reach_1))
    (sRet (tCl (gSorted) (lCons (tNm 2) (lNil))))))
theorem ok_reach {k : Nat} {F : TF} (Ds : DefAt K mg "reach" st_reach ["artifacts", "main"]) (z_sorted : mg "sorted" = none) {gt_MOST_SHIFT : Tok} (g_MOST_SHIFT : mg "MOST_SHIFT" = some (.int 3 gt_MOST_SHIFT))
    (hB : Body F 9 2 (t_reach)) : FnD Pg w K mg base Ds (k + 1) F := by
  refine fn_ok Ds.fu sc_reach hB fun cdv A outer s H E c hr => ?_
  have nd := sc_reach.nd
  exact ds_cons (ds_set (i := 2) nd (de_dspT (hu1 hr) (dps_cons (de_tup (da_cons (de_var 1) (da_cons (de_int) (da_nil)))) (de_bl) (dps_nil))))
    (ds_cons (ds_set (i := 3) nd (de_lst (da_cons (de_tup (da_cons (de_var 1) (da_cons (de_int) (da_nil)))) (da_nil))))
    (ds_cons (ds_while PassesOwn.never (dt_tru (de_var 3)) (ds_cons (ds_unp (bd := .many [4, 5]) (de_mt0 3 PySem.F.plainAttrs_list PySem.F.slot_list_pop PySem.F.type_list_pop pop_ok) (pg_tup rfl (pgs_cons (pg_name (i := 4) nd rfl (by first | exact Or.inl rfl | exact Or.inr rfl)) (pgs_cons (pg_name (i := 5) nd rfl (by first | exact Or.inl rfl | exact Or.inr rfl)) (pgs_nil)))))
    (ds_cons (ds_set (i := 6) nd (de_if (dt_cmp (in_ok (hu65 hr)) (de_var 4) (de_var 0)) (de_ix (hu1 hr) (de_ix (hu1 hr) (de_var 0) (de_var 4)) (de_int)) (de_tup (da_nil))))
    (ds_one (ds_for (bd := .many [7, 8]) PassesOwn.never rfl (di_seq (de_var 6)) (pg_tup rfl (pgs_cons (pg_name (i := 7) nd rfl (by first | exact Or.inl rfl | exact Or.inr rfl)) (pgs_cons (pg_name (i := 8) nd rfl (by first | exact Or.inl rfl | exact Or.inr rfl)) (pgs_nil)))) (ds_one (ds_if (dw_pt (dw_and (dt_cmp (le_ok) (de_op add_ok (de_var 5) (de_var 8)) (de_glob (v := .int 3) (by rfl) g_MOST_SHIFT ⟨_, rfl⟩ (fun _ _ => .int _))) (dw_and1 (dt_cmp (notin_ok (hu65 hr)) (de_tup (da_cons (de_var 7) (da_cons (de_op add_ok (de_var 5) (de_var 8)) (da_nil)))) (de_var 2))))) (ds_cons (ds_setI 2 (hu1 hr) (de_bl) (de_tup (da_cons (de_var 7) (da_cons (de_op add_ok (de_var 5) (de_var 8)) (da_nil)))))
    (ds_one (ds_expr (de_mt 3 PySem.F.plainAttrs_list PySem.F.slot_list_append PySem.F.type_list_append app_ok (da_cons (de_tup (da_cons (de_var 7) (da_cons (de_op add_ok (de_var 5) (de_var 8)) (da_nil)))) (da_nil)))))) (ds_nil))))))))
    (ds_one (ds_ret (de_callB (sorted_ok rfl (hu80 hr)) (by rfl) z_sorted (by decide +kernel) (da_cons (de_var 2) (da_nil)))))))

/-! ### _law_draws -/
abbrev st__law_draws : Stmt := topS 4
theorem sc__law_draws : FnScope ["script", "count", "cells", "found", "mixed", "k", "j", "cell", "again"] ["script", "count"] (defScope st__law_draws) := ⟨rfl, rfl, rfl, by decide +kernel, rfl, by decide +kernel, by decide +kernel⟩
def b__law_draws_1 : TSX :=
    sSeq (sAsg 6 (tBin gMod (tNm 5) (tCl (gLen) (lCons (tNm 2) (lNil)))))
    (sSeq (sAsg 7 (tBin gIx (tNm 2) (tNm 6)))
    (sSeq (sAsg 4 (tBin gMod (tCl (gInt) (lCons (tBin gAdd (tBin gAdd (tBin gAdd (tBin gMul (tNm 4) (tIm (.int 48271))) (tBin gMul (tBin gMod (tCl (gInt) (lCons (tNm 7) (lNil))) (tIm (.int 1000003))) (tIm (.int 69621)))) (tBin gMul (tNm 5) (tIm (.int 7919)))) (tIm (.int 11))) (lNil))) (tIm (.int 2147483647))))
    (sSeq (sAsg 8 (tBin gMod (tCl (gInt) (lCons (tBin gAdd (tBin gAdd (tBin gMul (tNm 4) (tNm 4)) (tBin gMul (tIm (.int 31)) (tNm 4))) (tNm 5)) (lNil))) (tIm (.int 1000003))))
    (sIf (tTst (tBin (gGe) (tNm 7) (tBin gPow (tIm (.int 10)) (tIm (.int 18))))) (sSeq (sDrop (tMt gApp 3 (lCons (tBin gMod (tCl (gInt) (lCons (tNm 7) (lNil))) (tIm (.int 1000))) (lNil))))
    (sSetI 2 (tNm 6) (tBin gDiv (tNm 7) (tIm (.int 1000))))) (sDrop (tMt gApp 3 (lCons (tBin gMod (tCl (gInt) (lCons (tNm 8) (lNil))) (tIm (.int 1000))) (lNil))))))))
def t__law_draws : TSX :=
    sSeq (sAsg 2 (tCl (gList) (lCons (tNm 0) (lNil))))
    (sSeq (sIf (tTst (tBin (gEqs2 false) (tCl (gLen) (lCons (tNm 2) (lNil))) (tIm (.int 0)))) (sAsg 2 (tLs (lCons (tIm (.int 7)) (lNil)))) (sNil))
    (sSeq (sAsg 3 (tLs (lNil)))
    (sSeq (sAsg 4 (tIm (.int 12345)))
    (sSeq (sFor (iRg1 (lCons (tNm 1) (lNil))) (.one 5) (b__law_draws_1))
    (sSeq (sDrop (tMt gRev 3 lNil))
    (sRet (tNm 3)))))))
theorem ok__law_draws {k : Nat} {F : TF} (Ds : DefAt K mg "_law_draws" st__law_draws ["script", "count"]) (z_list : mg "list" = none) (z_len : mg "len" = none) (z_range : mg "range" = none) (z_int : mg "int" = none)
    (hB : Body F 9 2 (t__law_draws)) : FnD Pg w K mg base Ds (k + 1) F := by
  refine fn_ok Ds.fu sc__law_draws hB fun cdv A outer s H E c hr => ?_
  have nd := sc__law_draws.nd
  exact ds_cons (ds_set (i := 2) nd (de_callT (list_ok) (by rfl) z_list (by decide +kernel) (da_cons (de_var 0) (da_nil))))
    (ds_cons (ds_if (dt_cmp (eq2_ok (hu64 hr)) (de_callB (len_ok) (by rfl) z_len (by decide +kernel) (da_cons (de_var 2) (da_nil))) (de_int)) (ds_one (ds_set (i := 2) nd (de_lst (da_cons (de_int) (da_nil))))) (ds_nil))
    (ds_cons (ds_set (i := 3) nd (de_lst (da_nil)))
    (ds_cons (ds_set (i := 4) nd (de_int))
    (ds_cons (ds_for (bd := .one 5) PassesOwn.never rfl (di_rng1 (by rfl) z_range (da_cons (de_var 1) (da_nil))) (pg_name (i := 5) nd rfl (by first | exact Or.inl rfl | exact Or.inr rfl)) (ds_cons (ds_set (i := 6) nd (de_op mod_ok (de_var 5) (de_callB (len_ok) (by rfl) z_len (by decide +kernel) (da_cons (de_var 2) (da_nil)))))
    (ds_cons (ds_set (i := 7) nd (de_ix (hu1 hr) (de_var 2) (de_var 6)))
    (ds_cons (ds_set (i := 4) nd (de_op mod_ok (de_callT (int_ok) (by rfl) z_int (by decide +kernel) (da_cons (de_op add_ok (de_op add_ok (de_op add_ok (de_op mul_ok (de_var 4) (de_int)) (de_op mul_ok (de_op mod_ok (de_callT (int_ok) (by rfl) z_int (by decide +kernel) (da_cons (de_var 7) (da_nil))) (de_int)) (de_int))) (de_op mul_ok (de_var 5) (de_int))) (de_int)) (da_nil))) (de_int)))
    (ds_cons (ds_set (i := 8) nd (de_op mod_ok (de_callT (int_ok) (by rfl) z_int (by decide +kernel) (da_cons (de_op add_ok (de_op add_ok (de_op mul_ok (de_var 4) (de_var 4)) (de_op mul_ok (de_int) (de_var 4))) (de_var 5)) (da_nil))) (de_int)))
    (ds_one (ds_if (dt_cmp (ge_ok) (de_var 7) (de_op pow_ok (de_int) (de_int))) (ds_cons (ds_expr (de_mt 3 PySem.F.plainAttrs_list PySem.F.slot_list_append PySem.F.type_list_append app_ok (da_cons (de_op mod_ok (de_callT (int_ok) (by rfl) z_int (by decide +kernel) (da_cons (de_var 7) (da_nil))) (de_int)) (da_nil))))
    (ds_one (ds_setI 2 (hu1 hr) (de_op div_ok (de_var 7) (de_int)) (de_var 6)))) (ds_one (ds_expr (de_mt 3 PySem.F.plainAttrs_list PySem.F.slot_list_append PySem.F.type_list_append app_ok (da_cons (de_op mod_ok (de_callT (int_ok) (by rfl) z_int (by decide +kernel) (da_cons (de_var 8) (da_nil))) (de_int)) (da_nil))))))))))))
    (ds_cons (ds_expr (de_mt0 3 PySem.F.plainAttrs_list PySem.F.slot_list_reverse PySem.F.type_list_reverse rev_ok))
    (ds_one (ds_ret (de_var 3))))))))

/-! ### _law_take -/
abbrev st__law_take : Stmt := topS 5
theorem sc__law_take : FnScope ["draws", "limit"] ["draws", "limit"] (defScope st__law_take) := ⟨rfl, rfl, rfl, by decide +kernel, rfl, by decide +kernel, by decide +kernel⟩
def t__law_take : TSX :=
    sSeq (sIf (tTst (tBin (gEqs2 false) (tCl (gLen) (lCons (tNm 0) (lNil))) (tIm (.int 0)))) (sRet (tIm (.int 0))) (sNil))
    (sRet (tBin gMod (tCl (gInt) (lCons (tMt gPop 0 lNil) (lNil))) (tNm 1)))
theorem ok__law_take {k : Nat} {F : TF} (Ds : DefAt K mg "_law_take" st__law_take ["draws", "limit"]) (z_len : mg "len" = none) (z_int : mg "int" = none)
    (hB : Body F 2 2 (t__law_take)) : FnD Pg w K mg base Ds (k + 1) F := by
  refine fn_ok Ds.fu sc__law_take hB fun cdv A outer s H E c hr => ?_
  have nd := sc__law_take.nd
  exact ds_cons (ds_if (dt_cmp (eq2_ok (hu64 hr)) (de_callB (len_ok) (by rfl) z_len (by decide +kernel) (da_cons (de_var 0) (da_nil))) (de_int)) (ds_one (ds_ret (de_int))) (ds_nil))
    (ds_one (ds_ret (de_op mod_ok (de_callT (int_ok) (by rfl) z_int (by decide +kernel) (da_cons (de_mt0 0 PySem.F.plainAttrs_list PySem.F.slot_list_pop PySem.F.type_list_pop pop_ok) (da_nil))) (de_var 1))))

/-! ### _law_same -/
abbrev st__law_same : Stmt := topS 6
theorem sc__law_same : FnScope ["found", "due", "k"] ["found", "due"] (defScope st__law_same) := ⟨rfl, rfl, rfl, by decide +kernel, rfl, by decide +kernel, by decide +kernel⟩
def t__law_same (F__law_same : TF) : TSX :=
    sSeq (sIf (tTst (tBin (gIs false) (tNm 1) (tIm .non))) (sRet (tBin (gIs false) (tNm 0) (tIm .non))) (sNil))
    (sSeq (sIf (tTru (tCl (gIsi) (lCons (tNm 1) (lCons (tIm (.raw (.ty "bool"))) (lNil))))) (sRet (tAndX (tCl (gIsi) (lCons (tNm 0) (lCons (tIm (.raw (.ty "bool"))) (lNil)))) (tBin (gEqs2 false) (tNm 0) (tNm 1)))) (sNil))
    (sSeq (sIf (tTru (tCl (gIsi) (lCons (tNm 1) (lCons (tIm (.raw (.ty "int"))) (lNil))))) (sRet (tAndX (tCl (gIsi) (lCons (tNm 0) (lCons (tIm (.raw (.ty "int"))) (lNil)))) (tAndX (tNotX (tCl (gIsi) (lCons (tNm 0) (lCons (tIm (.raw (.ty "bool"))) (lNil))))) (tBin (gEqs2 false) (tNm 0) (tNm 1))))) (sNil))
    (sSeq (sIf (tTru (tCl (gIsi) (lCons (tNm 1) (lCons (tIm (.raw (.ty "str"))) (lNil))))) (sRet (tAndX (tCl (gIsi) (lCons (tNm 0) (lCons (tIm (.raw (.ty "str"))) (lNil)))) (tBin (gEqs2 false) (tNm 0) (tNm 1)))) (sNil))
    (sSeq (sIf (tOrQ (tTst (tBin (gEqs true) (tCl (gIsi) (lCons (tNm 1) (lCons (tIm (.raw (.ty "tuple"))) (lNil)))) (tCl (gIsi) (lCons (tNm 0) (lCons (tIm (.raw (.ty "tuple"))) (lNil)))))) (tTst (tBin (gEqs true) (tCl (gIsi) (lCons (tNm 1) (lCons (tIm (.raw (.ty "list"))) (lNil)))) (tCl (gIsi) (lCons (tNm 0) (lCons (tIm (.raw (.ty "list"))) (lNil))))))) (sRet (tIm (.bl false))) (sNil))
    (sRet (tAndX (tBin (gEqs2 false) (tCl (gLen) (lCons (tNm 0) (lNil))) (tCl (gLen) (lCons (tNm 1) (lNil)))) (tCl (gAll fun bs => bs.all id) (lCons (tLcX (iRg1 (lCons (tCl (gLen) (lCons (tNm 1) (lNil))) (lNil))) (.one 2) (qYes) (tCall F__law_same 2 (lCons (tBin gIx (tNm 0) (tNm 2)) (lCons (tBin gIx (tNm 1) (tNm 2)) (lNil)))) [2]) (lNil)))))))))
theorem ok__law_same {k : Nat} {F : TF} (Ds : DefAt K mg "_law_same" st__law_same ["found", "due"]) (z_bool : mg "bool" = none) (z_isinstance : mg "isinstance" = none) (z_int : mg "int" = none) (z_str : mg "str" = none) (z_tuple : mg "tuple" = none) (z_list : mg "list" = none) (z_len : mg "len" = none) (z_range : mg "range" = none) (z_all : mg "all" = none) {F__law_same : TF} {k__law_same : Nat} (G__law_same : FnD Pg w K mg base Ds k__law_same F__law_same) (h__law_same : k__law_same ≤ k)
    (hB : Body F 3 2 (t__law_same F__law_same)) : FnD Pg w K mg base Ds (k + 1) F := by
  refine fn_ok Ds.fu sc__law_same hB fun cdv A outer s H E c hr => ?_
  have nd := sc__law_same.nd
  exact ds_cons (ds_if (dt_cmp (is_ok) (de_var 1) (de_non)) (ds_one (ds_ret (de_cmp (is_ok) (de_var 0) (de_non)))) (ds_nil))
    (ds_cons (ds_if (dt_tru (de_callB (isi_ok) (by rfl) z_isinstance (by decide +kernel) (da_cons (de_var 1) (da_cons (de_bltn (v := .ty "bool") (by rfl) z_bool (by decide +kernel) rfl) (da_nil))))) (ds_one (ds_ret (de_and (de_callB (isi_ok) (by rfl) z_isinstance (by decide +kernel) (da_cons (de_var 0) (da_cons (de_bltn (v := .ty "bool") (by rfl) z_bool (by decide +kernel) rfl) (da_nil)))) (de_one (de_cmp (eq2_ok (hu64 hr)) (de_var 0) (de_var 1)))))) (ds_nil))
    (ds_cons (ds_if (dt_tru (de_callB (isi_ok) (by rfl) z_isinstance (by decide +kernel) (da_cons (de_var 1) (da_cons (de_bltn (v := .ty "int") (by rfl) z_int (by decide +kernel) rfl) (da_nil))))) (ds_one (ds_ret (de_and (de_callB (isi_ok) (by rfl) z_isinstance (by decide +kernel) (da_cons (de_var 0) (da_cons (de_bltn (v := .ty "int") (by rfl) z_int (by decide +kernel) rfl) (da_nil)))) (de_and (de_not (de_callB (isi_ok) (by rfl) z_isinstance (by decide +kernel) (da_cons (de_var 0) (da_cons (de_bltn (v := .ty "bool") (by rfl) z_bool (by decide +kernel) rfl) (da_nil))))) (de_one (de_cmp (eq2_ok (hu64 hr)) (de_var 0) (de_var 1))))))) (ds_nil))
    (ds_cons (ds_if (dt_tru (de_callB (isi_ok) (by rfl) z_isinstance (by decide +kernel) (da_cons (de_var 1) (da_cons (de_bltn (v := .ty "str") (by rfl) z_str (by decide +kernel) rfl) (da_nil))))) (ds_one (ds_ret (de_and (de_callB (isi_ok) (by rfl) z_isinstance (by decide +kernel) (da_cons (de_var 0) (da_cons (de_bltn (v := .ty "str") (by rfl) z_str (by decide +kernel) rfl) (da_nil)))) (de_one (de_cmp (eq2_ok (hu64 hr)) (de_var 0) (de_var 1)))))) (ds_nil))
    (ds_cons (ds_if (dw_pt (dw_or (dt_cmp (ne_ok (hu64 hr)) (de_callB (isi_ok) (by rfl) z_isinstance (by decide +kernel) (da_cons (de_var 1) (da_cons (de_bltn (v := .ty "tuple") (by rfl) z_tuple (by decide +kernel) rfl) (da_nil)))) (de_callB (isi_ok) (by rfl) z_isinstance (by decide +kernel) (da_cons (de_var 0) (da_cons (de_bltn (v := .ty "tuple") (by rfl) z_tuple (by decide +kernel) rfl) (da_nil))))) (dw_or1 (dt_cmp (ne_ok (hu64 hr)) (de_callB (isi_ok) (by rfl) z_isinstance (by decide +kernel) (da_cons (de_var 1) (da_cons (de_bltn (v := .ty "list") (by rfl) z_list (by decide +kernel) rfl) (da_nil)))) (de_callB (isi_ok) (by rfl) z_isinstance (by decide +kernel) (da_cons (de_var 0) (da_cons (de_bltn (v := .ty "list") (by rfl) z_list (by decide +kernel) rfl) (da_nil)))))))) (ds_one (ds_ret (de_bl))) (ds_nil))
    (ds_one (ds_ret (de_and (de_cmp (eq2_ok (hu64 hr)) (de_callB (len_ok) (by rfl) z_len (by decide +kernel) (da_cons (de_var 0) (da_nil))) (de_callB (len_ok) (by rfl) z_len (by decide +kernel) (da_cons (de_var 1) (da_nil)))) (de_one (de_callB (all_ok rfl) (by rfl) z_all (by decide +kernel) (da_cons (de_lc (own := [("k", 2)]) (bd := .one 2) rfl nd (di_rng1 (by rfl) z_range (da_cons (de_callB (len_ok) (by rfl) z_len (by decide +kernel) (da_cons (de_var 1) (da_nil))) (da_nil))) (by kernel_rfl) (fun _ _ _ _ _ => pg_name (i := 2) nd rfl (by first | exact Or.inl rfl | exact Or.inr rfl)) (fun _ _ _ _ _ => dq_nil) (fun _ _ _ _ _ => de_call G__law_same (hr.mono h__law_same) (by rfl) Ds.mg Ds.fu.kp Ds.bd (da_cons (de_ix (hu1 hr) (de_var 0) (de_var 2)) (da_cons (de_ix (hu1 hr) (de_var 1) (de_var 2)) (da_nil))))) (da_nil)))))))))))

/-! ### law -/
abbrev st_law : Stmt := topS 7
theorem sc_law : FnScope ["script", "draws", "names", "artifacts", "k", "uses", "j", "main", "due", "turn", "module", "shift", "other", "level", "copy"] ["script"] (defScope st_law) := ⟨rfl, rfl, rfl, by decide +kernel, rfl, by decide +kernel, by decide +kernel⟩
def b_law_2 (F__law_draws : TF) (F__law_take : TF) (F_reach : TF) (F__law_same : TF) : TSX :=
    sDrop (tMt gApp 5 (lCons (tTp (lCons (tBin gIx (tBin gAdd (tSlc (tNm 2) (pNo) (pSo (tNm 4))) (tLs (lCons (tIm (.str "mx")) (lCons (tIm (.str "my")) (lNil))))) (tCall F__law_take 2 (lCons (tNm 1) (lCons (tBin gAdd (tNm 4) (tIm (.int 2))) (lNil))))) (lCons (tBin gIx (tTp (lCons (tIm (.int 0)) (lCons (tIm (.int 0)) (lCons (tIm (.int 1)) (lCons (tIm (.int 2)) (lCons (tIm (.int 3)) (lNil))))))) (tCall F__law_take 2 (lCons (tNm 1) (lCons (tIm (.int 5)) (lNil))))) (lNil)))) (lNil)))
def b_law_1 (F__law_draws : TF) (F__law_take : TF) (F_reach : TF) (F__law_same : TF) : TSX :=
    sSeq (sAsg 5 (tLs (lNil)))
    (sSeq (sFor (iRg1 (lCons (tCall F__law_take 2 (lCons (tNm 1) (lCons (tIm (.int 5)) (lNil)))) (lNil))) (.one 6) (b_law_2 F__law_draws F__law_take F_reach F__law_same))
    (sIf (tTst (tBin (gGt) (tCall F__law_take 2 (lCons (tNm 1) (lCons (tIm (.int 9)) (lNil)))) (tIm (.int 0)))) (sSetI 3 (tBin gIx (tNm 2) (tNm 4)) (tTp (lCons (tIm (.str "module")) (lCons (tBin gIx (tNm 2) (tNm 4)) (lCons (tCl (gTuple) (lCons (tNm 5) (lNil))) (lCons (tTp (lNil)) (lCons (tTp (lNil)) (lCons (tTp (lNil)) (lNil))))))))) (sNil)))
def b_law_5 (F__law_draws : TF) (F__law_take : TF) (F_reach : TF) (F__law_same : TF) : TSX :=
    sIf (tAndQ (tTst (tBin (gLt) (tBin gAdd (tNm 11) (tNm 13)) (tIm (.int 4)))) (tTst (tBin (gIns true) (tTp (lCons (tNm 12) (lCons (tBin gAdd (tNm 11) (tNm 13)) (lNil)))) (tNm 8)))) (sDrop (tMt gApp 8 (lCons (tTp (lCons (tNm 12) (lCons (tBin gAdd (tNm 11) (tNm 13)) (lNil)))) (lNil)))) (sNil)
def b_law_4 (F__law_draws : TF) (F__law_take : TF) (F_reach : TF) (F__law_same : TF) : TSX :=
    sFor (iSeq (tIfX (tTst (tBin (gIns false) (tNm 10) (tNm 3))) (tBin gIx (tBin gIx (tNm 3) (tNm 10)) (tIm (.int 2))) (tTp (lNil)))) (.many [12, 13]) (b_law_5 F__law_draws F__law_take F_reach F__law_same)
def b_law_3 (F__law_draws : TF) (F__law_take : TF) (F_reach : TF) (F__law_same : TF) : TSX :=
    sFor (iSeq (tCl (gList) (lCons (tNm 8) (lNil)))) (.many [10, 11]) (b_law_4 F__law_draws F__law_take F_reach F__law_same)
def t_law (F__law_draws : TF) (F__law_take : TF) (F_reach : TF) (F__law_same : TF) : TSX :=
    sSeq (sAsg 1 (tCall F__law_draws 2 (lCons (tNm 0) (lCons (tIm (.int 300)) (lNil)))))
    (sSeq (sAsg 2 (tSlc (tLs (lCons (tIm (.str "ma")) (lCons (tIm (.str "mb")) (lCons (tIm (.str "mc")) (lCons (tIm (.str "md")) (lCons (tIm (.str "me")) (lCons (tIm (.str "mf")) (lCons (tIm (.str "mg")) (lCons (tIm (.str "mh")) (lCons (tIm (.str "mi")) (lCons (tIm (.str "mj")) (lCons (tIm (.str "mk")) (lCons (tIm (.str "ml")) (lNil)))))))))))))) (pNo) (pSo (tBin gAdd (tIm (.int 1)) (tCall F__law_take 2 (lCons (tNm 1) (lCons (tIm (.int 12)) (lNil))))))))
    (sSeq (sAsg 3 tNewK)
    (sSeq (sFor (iRg1 (lCons (tCl (gLen) (lCons (tNm 2) (lNil))) (lNil))) (.one 4) (b_law_1 F__law_draws F__law_take F_reach F__law_same))
    (sSeq (sAsg 7 (tBin gIx (tBin gAdd (tNm 2) (tLs (lCons (tIm (.str "mx")) (lNil)))) (tCall F__law_take 2 (lCons (tNm 1) (lCons (tBin gAdd (tCl (gLen) (lCons (tNm 2) (lNil))) (tIm (.int 1))) (lNil))))))
    (sSeq (sAsg 8 (tLs (lCons (tTp (lCons (tNm 7) (lCons (tIm (.int 0)) (lNil)))) (lNil))))
    (sSeq (sFor (iRg1 (lCons (tBin gAdd (tBin gMul (tIm (.int 4)) (tCl (gLen) (lCons (tNm 2) (lNil)))) (tIm (.int 12))) (lNil))) (.one 9) (b_law_3 F__law_draws F__law_take F_reach F__law_same))
    (sSeq (sAsg 14 (tCl (gDict) (lCons (tNm 3) (lNil))))
    (sRet (tAndX (tCall F__law_same 2 (lCons (tCall F_reach 2 (lCons (tNm 14) (lCons (tNm 7) (lNil)))) (lCons (tCl (gSorted) (lCons (tNm 8) (lNil))) (lNil)))) (tBin (gEqs2 false) (tNm 14) (tNm 3)))))))))))
theorem ok_law {k : Nat} {F : TF} (Ds : DefAt K mg "law" st_law ["script"]) (z_range : mg "range" = none) (z_len : mg "len" = none) (z_tuple : mg "tuple" = none) (z_list : mg "list" = none) (z_dict : mg "dict" = none) (z_sorted : mg "sorted" = none) {F__law_draws : TF} {k__law_draws : Nat} (D__law_draws : DefAt K mg "_law_draws" st__law_draws ["script", "count"]) (G__law_draws : FnD Pg w K mg base D__law_draws k__law_draws F__law_draws) (h__law_draws : k__law_draws ≤ k) {F__law_take : TF} {k__law_take : Nat} (D__law_take : DefAt K mg "_law_take" st__law_take ["draws", "limit"]) (G__law_take : FnD Pg w K mg base D__law_take k__law_take F__law_take) (h__law_take : k__law_take ≤ k) {F_reach : TF} {k_reach : Nat} (D_reach : DefAt K mg "reach" st_reach ["artifacts", "main"]) (G_reach : FnD Pg w K mg base D_reach k_reach F_reach) (h_reach : k_reach ≤ k) {F__law_same : TF} {k__law_same : Nat} (D__law_same : DefAt K mg "_law_same" st__law_same ["found", "due"]) (G__law_same : FnD Pg w K mg base D__law_same k__law_same F__law_same) (h__law_same : k__law_same ≤ k)
    (hB : Body F 15 1 (t_law F__law_draws F__law_take F_reach F__law_same)) : FnD Pg w K mg base Ds (k + 1) F := by
  refine fn_ok Ds.fu sc_law hB fun cdv A outer s H E c hr => ?_
  have nd := sc_law.nd
  exact ds_cons (ds_set (i := 1) nd (de_call G__law_draws (hr.mono h__law_draws) (by rfl) D__law_draws.mg D__law_draws.fu.kp D__law_draws.bd (da_cons (de_var 0) (da_cons (de_int) (da_nil)))))
    (ds_cons (ds_set (i := 2) nd (de_slice (de_lst (da_cons (de_str) (da_cons (de_str) (da_cons (de_str) (da_cons (de_str) (da_cons (de_str) (da_cons (de_str) (da_cons (de_str) (da_cons (de_str) (da_cons (de_str) (da_cons (de_str) (da_cons (de_str) (da_cons (de_str) (da_nil)))))))))))))) (do_no) (do_so (de_op add_ok (de_int) (de_call G__law_take (hr.mono h__law_take) (by rfl) D__law_take.mg D__law_take.fu.kp D__law_take.bd (da_cons (de_var 1) (da_cons (de_int) (da_nil))))))))
    (ds_cons (ds_set (i := 3) nd de_newK)
    (ds_cons (ds_for (bd := .one 4) PassesOwn.never rfl (di_rng1 (by rfl) z_range (da_cons (de_callB (len_ok) (by rfl) z_len (by decide +kernel) (da_cons (de_var 2) (da_nil))) (da_nil))) (pg_name (i := 4) nd rfl (by first | exact Or.inl rfl | exact Or.inr rfl)) (ds_cons (ds_set (i := 5) nd (de_lst (da_nil)))
    (ds_cons (ds_for (bd := .one 6) PassesOwn.never rfl (di_rng1 (by rfl) z_range (da_cons (de_call G__law_take (hr.mono h__law_take) (by rfl) D__law_take.mg D__law_take.fu.kp D__law_take.bd (da_cons (de_var 1) (da_cons (de_int) (da_nil)))) (da_nil))) (pg_name (i := 6) nd rfl (by first | exact Or.inl rfl | exact Or.inr rfl)) (ds_one (ds_expr (de_mt 5 PySem.F.plainAttrs_list PySem.F.slot_list_append PySem.F.type_list_append app_ok (da_cons (de_tup (da_cons (de_ix (hu1 hr) (de_op add_ok (de_slice (de_var 2) (do_no) (do_so (de_var 4))) (de_lst (da_cons (de_str) (da_cons (de_str) (da_nil))))) (de_call G__law_take (hr.mono h__law_take) (by rfl) D__law_take.mg D__law_take.fu.kp D__law_take.bd (da_cons (de_var 1) (da_cons (de_op add_ok (de_var 4) (de_int)) (da_nil))))) (da_cons (de_ix (hu1 hr) (de_tup (da_cons (de_int) (da_cons (de_int) (da_cons (de_int) (da_cons (de_int) (da_cons (de_int) (da_nil))))))) (de_call G__law_take (hr.mono h__law_take) (by rfl) D__law_take.mg D__law_take.fu.kp D__law_take.bd (da_cons (de_var 1) (da_cons (de_int) (da_nil))))) (da_nil)))) (da_nil))))))
    (ds_one (ds_if (dt_cmp (gt_ok) (de_call G__law_take (hr.mono h__law_take) (by rfl) D__law_take.mg D__law_take.fu.kp D__law_take.bd (da_cons (de_var 1) (da_cons (de_int) (da_nil)))) (de_int)) (ds_one (ds_setI 3 (hu1 hr) (de_tup (da_cons (de_str) (da_cons (de_ix (hu1 hr) (de_var 2) (de_var 4)) (da_cons (de_callT (tuple_ok) (by rfl) z_tuple (by decide +kernel) (da_cons (de_var 5) (da_nil))) (da_cons (de_tup (da_nil)) (da_cons (de_tup (da_nil)) (da_cons (de_tup (da_nil)) (da_nil)))))))) (de_ix (hu1 hr) (de_var 2) (de_var 4)))) (ds_nil))))))
    (ds_cons (ds_set (i := 7) nd (de_ix (hu1 hr) (de_op add_ok (de_var 2) (de_lst (da_cons (de_str) (da_nil)))) (de_call G__law_take (hr.mono h__law_take) (by rfl) D__law_take.mg D__law_take.fu.kp D__law_take.bd (da_cons (de_var 1) (da_cons (de_op add_ok (de_callB (len_ok) (by rfl) z_len (by decide +kernel) (da_cons (de_var 2) (da_nil))) (de_int)) (da_nil))))))
    (ds_cons (ds_set (i := 8) nd (de_lst (da_cons (de_tup (da_cons (de_var 7) (da_cons (de_int) (da_nil)))) (da_nil))))
    (ds_cons (ds_for (bd := .one 9) PassesOwn.never rfl (di_rng1 (by rfl) z_range (da_cons (de_op add_ok (de_op mul_ok (de_int) (de_callB (len_ok) (by rfl) z_len (by decide +kernel) (da_cons (de_var 2) (da_nil)))) (de_int)) (da_nil))) (pg_name (i := 9) nd rfl (by first | exact Or.inl rfl | exact Or.inr rfl)) (ds_one (ds_for (bd := .many [10, 11]) PassesOwn.never rfl (di_seq (de_callT (list_ok) (by rfl) z_list (by decide +kernel) (da_cons (de_var 8) (da_nil)))) (pg_tup rfl (pgs_cons (pg_name (i := 10) nd rfl (by first | exact Or.inl rfl | exact Or.inr rfl)) (pgs_cons (pg_name (i := 11) nd rfl (by first | exact Or.inl rfl | exact Or.inr rfl)) (pgs_nil)))) (ds_one (ds_for (bd := .many [12, 13]) PassesOwn.never rfl (di_seq (de_if (dt_cmp (in_ok (hu65 hr)) (de_var 10) (de_var 3)) (de_ix (hu1 hr) (de_ix (hu1 hr) (de_var 3) (de_var 10)) (de_int)) (de_tup (da_nil)))) (pg_tup rfl (pgs_cons (pg_name (i := 12) nd rfl (by first | exact Or.inl rfl | exact Or.inr rfl)) (pgs_cons (pg_name (i := 13) nd rfl (by first | exact Or.inl rfl | exact Or.inr rfl)) (pgs_nil)))) (ds_one (ds_if (dw_pt (dw_and (dt_cmp (lt_ok) (de_op add_ok (de_var 11) (de_var 13)) (de_int)) (dw_and1 (dt_cmp (notin_ok (hu65 hr)) (de_tup (da_cons (de_var 12) (da_cons (de_op add_ok (de_var 11) (de_var 13)) (da_nil)))) (de_var 8))))) (ds_one (ds_expr (de_mt 8 PySem.F.plainAttrs_list PySem.F.slot_list_append PySem.F.type_list_append app_ok (da_cons (de_tup (da_cons (de_var 12) (da_cons (de_op add_ok (de_var 11) (de_var 13)) (da_nil)))) (da_nil))))) (ds_nil))))))))
    (ds_cons (ds_set (i := 14) nd (de_callT (dict_ok) (by rfl) z_dict (by decide +kernel) (da_cons (de_var 3) (da_nil))))
    (ds_one (ds_ret (de_and (de_call G__law_same (hr.mono h__law_same) (by rfl) D__law_same.mg D__law_same.fu.kp D__law_same.bd (da_cons (de_call G_reach (hr.mono h_reach) (by rfl) D_reach.mg D_reach.fu.kp D_reach.bd (da_cons (de_var 14) (da_cons (de_var 7) (da_nil)))) (da_cons (de_callB (sorted_ok rfl (hu80 hr)) (by rfl) z_sorted (by decide +kernel) (da_cons (de_var 8) (da_nil))) (da_nil)))) (de_one (de_cmp (eq2_ok (hu64 hr)) (de_var 14) (de_var 3)))))))))))))

/-! ### what the top holds -/
structure Top (K : PySem.W.Frag) (mg : Str → Option Value) where
  D_reach : DefAt K mg "reach" st_reach ["artifacts", "main"]
  D__law_draws : DefAt K mg "_law_draws" st__law_draws ["script", "count"]
  D__law_take : DefAt K mg "_law_take" st__law_take ["draws", "limit"]
  D__law_same : DefAt K mg "_law_same" st__law_same ["found", "due"]
  D_law : DefAt K mg "law" st_law ["script"]
  z_sorted : mg "sorted" = none
  z_list : mg "list" = none
  z_len : mg "len" = none
  z_range : mg "range" = none
  z_int : mg "int" = none
  z_bool : mg "bool" = none
  z_isinstance : mg "isinstance" = none
  z_str : mg "str" = none
  z_tuple : mg "tuple" = none
  z_all : mg "all" = none
  z_dict : mg "dict" = none
  gt_MOST_SHIFT : Tok
  g_MOST_SHIFT : mg "MOST_SHIFT" = some (.int 3 gt_MOST_SHIFT)
  bl : ∀ (s : Shared) (v : Value), BindsTo s D_law.fd ⟨[v], []⟩ [("script", v)]
def tp_mk {K : PySem.W.Frag} {h : Heap} {mg : Str → Option Value} (X : K.In h) (G : h.Ns mainGlobals mg)
    {f0 : Addr} {od0 an0 : Option Addr} {sl0 : Array (Option Value)} {oc0 kV0 dc0 pm0 cd0 ct0 : Value}
    (a0 : PySem.W.nsIn K mainGlobals "reach" = some (some (.ref f0))) (l0 : K.lookup f0 = some ⟨oc0, od0, .func (PySem.W.fnOf "reach" "reach" (defArgs st_reach) (defBody st_reach) (defScope st_reach) .none kV0 dc0 pm0 an0 cd0 ct0), sl0⟩) (c0 : PySem.W.codeIn K cd0 "reach" = true) (k0 : PySem.W.keepIn K (.ref f0) = true)
    {f1 : Addr} {od1 an1 : Option Addr} {sl1 : Array (Option Value)} {oc1 kV1 dc1 pm1 cd1 ct1 : Value}
    (a1 : PySem.W.nsIn K mainGlobals "_law_draws" = some (some (.ref f1))) (l1 : K.lookup f1 = some ⟨oc1, od1, .func (PySem.W.fnOf "_law_draws" "_law_draws" (defArgs st__law_draws) (defBody st__law_draws) (defScope st__law_draws) .none kV1 dc1 pm1 an1 cd1 ct1), sl1⟩) (c1 : PySem.W.codeIn K cd1 "_law_draws" = true) (k1 : PySem.W.keepIn K (.ref f1) = true)
    {f2 : Addr} {od2 an2 : Option Addr} {sl2 : Array (Option Value)} {oc2 kV2 dc2 pm2 cd2 ct2 : Value}
    (a2 : PySem.W.nsIn K mainGlobals "_law_take" = some (some (.ref f2))) (l2 : K.lookup f2 = some ⟨oc2, od2, .func (PySem.W.fnOf "_law_take" "_law_take" (defArgs st__law_take) (defBody st__law_take) (defScope st__law_take) .none kV2 dc2 pm2 an2 cd2 ct2), sl2⟩) (c2 : PySem.W.codeIn K cd2 "_law_take" = true) (k2 : PySem.W.keepIn K (.ref f2) = true)
    {f3 : Addr} {od3 an3 : Option Addr} {sl3 : Array (Option Value)} {oc3 kV3 dc3 pm3 cd3 ct3 : Value}
    (a3 : PySem.W.nsIn K mainGlobals "_law_same" = some (some (.ref f3))) (l3 : K.lookup f3 = some ⟨oc3, od3, .func (PySem.W.fnOf "_law_same" "_law_same" (defArgs st__law_same) (defBody st__law_same) (defScope st__law_same) .none kV3 dc3 pm3 an3 cd3 ct3), sl3⟩) (c3 : PySem.W.codeIn K cd3 "_law_same" = true) (k3 : PySem.W.keepIn K (.ref f3) = true)
    {f4 : Addr} {od4 an4 : Option Addr} {sl4 : Array (Option Value)} {oc4 kV4 dc4 pm4 cd4 ct4 : Value}
    (a4 : PySem.W.nsIn K mainGlobals "law" = some (some (.ref f4))) (l4 : K.lookup f4 = some ⟨oc4, od4, .func (PySem.W.fnOf "law" "law" (defArgs st_law) (defBody st_law) (defScope st_law) .none kV4 dc4 pm4 an4 cd4 ct4), sl4⟩) (c4 : PySem.W.codeIn K cd4 "law" = true) (k4 : PySem.W.keepIn K (.ref f4) = true)
    (z0 : PySem.W.nsIn K mainGlobals "sorted" = some none)
    (z1 : PySem.W.nsIn K mainGlobals "list" = some none)
    (z2 : PySem.W.nsIn K mainGlobals "len" = some none)
    (z3 : PySem.W.nsIn K mainGlobals "range" = some none)
    (z4 : PySem.W.nsIn K mainGlobals "int" = some none)
    (z5 : PySem.W.nsIn K mainGlobals "bool" = some none)
    (z6 : PySem.W.nsIn K mainGlobals "isinstance" = some none)
    (z7 : PySem.W.nsIn K mainGlobals "str" = some none)
    (z8 : PySem.W.nsIn K mainGlobals "tuple" = some none)
    (z9 : PySem.W.nsIn K mainGlobals "all" = some none)
    (z10 : PySem.W.nsIn K mainGlobals "dict" = some none)
    {gt0 : Tok} (vv0 : PySem.W.nsIn K mainGlobals "MOST_SHIFT" = some (some (.int 3 gt0)))
    : Top K mg where
  D_reach := ⟨_, _, fun_mk (st := st_reach) l0 c0 k0, PySem.W.mg_of X G a0, (fun_mk (st := st_reach) l0 c0 k0).binds (ps := ["artifacts", "main"]) fun _ _ _ _ _ _ us hl => match us, hl with | [_, _], _ => rfl⟩
  D__law_draws := ⟨_, _, fun_mk (st := st__law_draws) l1 c1 k1, PySem.W.mg_of X G a1, (fun_mk (st := st__law_draws) l1 c1 k1).binds (ps := ["script", "count"]) fun _ _ _ _ _ _ us hl => match us, hl with | [_, _], _ => rfl⟩
  D__law_take := ⟨_, _, fun_mk (st := st__law_take) l2 c2 k2, PySem.W.mg_of X G a2, (fun_mk (st := st__law_take) l2 c2 k2).binds (ps := ["draws", "limit"]) fun _ _ _ _ _ _ us hl => match us, hl with | [_, _], _ => rfl⟩
  D__law_same := ⟨_, _, fun_mk (st := st__law_same) l3 c3 k3, PySem.W.mg_of X G a3, (fun_mk (st := st__law_same) l3 c3 k3).binds (ps := ["found", "due"]) fun _ _ _ _ _ _ us hl => match us, hl with | [_, _], _ => rfl⟩
  D_law := ⟨_, _, fun_mk (st := st_law) l4 c4 k4, PySem.W.mg_of X G a4, (fun_mk (st := st_law) l4 c4 k4).binds (ps := ["script"]) fun _ _ _ _ _ _ us hl => match us, hl with | [_], _ => rfl⟩
  z_sorted := PySem.W.mg_none_of X G z0
  z_list := PySem.W.mg_none_of X G z1
  z_len := PySem.W.mg_none_of X G z2
  z_range := PySem.W.mg_none_of X G z3
  z_int := PySem.W.mg_none_of X G z4
  z_bool := PySem.W.mg_none_of X G z5
  z_isinstance := PySem.W.mg_none_of X G z6
  z_str := PySem.W.mg_none_of X G z7
  z_tuple := PySem.W.mg_none_of X G z8
  z_all := PySem.W.mg_none_of X G z9
  z_dict := PySem.W.mg_none_of X G z10
  gt_MOST_SHIFT := gt0
  g_MOST_SHIFT := PySem.W.mg_of X G vv0
  bl := fun s v => .of_eq rfl
theorem go_reach (T : Top K mg) {k : Nat} {F : TF}  (hB : Body F 9 2 (t_reach)) : FnD Pg w K mg base T.D_reach (k + 1) F := ok_reach T.D_reach T.z_sorted T.g_MOST_SHIFT hB
theorem go__law_draws (T : Top K mg) {k : Nat} {F : TF}  (hB : Body F 9 2 (t__law_draws)) : FnD Pg w K mg base T.D__law_draws (k + 1) F := ok__law_draws T.D__law_draws T.z_list T.z_len T.z_range T.z_int hB
theorem go__law_take (T : Top K mg) {k : Nat} {F : TF}  (hB : Body F 2 2 (t__law_take)) : FnD Pg w K mg base T.D__law_take (k + 1) F := ok__law_take T.D__law_take T.z_len T.z_int hB
theorem go__law_same (T : Top K mg) {k : Nat} {F : TF} {F__law_same : TF} {k__law_same : Nat} (G__law_same : FnD Pg w K mg base T.D__law_same k__law_same F__law_same) (h__law_same : k__law_same ≤ k) (hB : Body F 3 2 (t__law_same F__law_same)) : FnD Pg w K mg base T.D__law_same (k + 1) F := ok__law_same T.D__law_same T.z_bool T.z_isinstance T.z_int T.z_str T.z_tuple T.z_list T.z_len T.z_range T.z_all G__law_same h__law_same hB
theorem go_law (T : Top K mg) {k : Nat} {F : TF} {F__law_draws : TF} {k__law_draws : Nat} (G__law_draws : FnD Pg w K mg base T.D__law_draws k__law_draws F__law_draws) (h__law_draws : k__law_draws ≤ k) {F__law_take : TF} {k__law_take : Nat} (G__law_take : FnD Pg w K mg base T.D__law_take k__law_take F__law_take) (h__law_take : k__law_take ≤ k) {F_reach : TF} {k_reach : Nat} (G_reach : FnD Pg w K mg base T.D_reach k_reach F_reach) (h_reach : k_reach ≤ k) {F__law_same : TF} {k__law_same : Nat} (G__law_same : FnD Pg w K mg base T.D__law_same k__law_same F__law_same) (h__law_same : k__law_same ≤ k) (hB : Body F 15 1 (t_law F__law_draws F__law_take F_reach F__law_same)) : FnD Pg w K mg base T.D_law (k + 1) F := ok_law T.D_law T.z_range T.z_len T.z_tuple T.z_list T.z_dict T.z_sorted T.D__law_draws G__law_draws h__law_draws T.D__law_take G__law_take h__law_take T.D_reach G_reach h_reach T.D__law_same G__law_same h__law_same hB
end
end Y
namespace Y
set_option hygiene false
open PySem PySem.Spec L2
local macro_rules | `(tactic| walk_at "y") => `(tactic| dsimp only [sNil, sBk, sCt, sDrop, sIf, asg, sAsg, sRet, sRetN, tIm, tNm, tBin, w2, vw, Sl.m?, tTst, tTru, M.tru, tAndQ, tOrQ, tNotQ, tAndX, tOrX, tNotX, tIfX, lNil, lCons, tFrz, froz, tTp, tLs, tCl, vws, tMt, Sl.m!, Sl.up, M.res, gLen, gInt, gAdd, gSub, gMul, gDiv, gMod, gPow, gII, gI0, gEqs, gEqs2, gIx, gPop, gApp, gRev, gExt, gTuple, gList, gDict, gIs, gIsi, gAll, gIns, gSorted, gSl, M.lq?, M.lst?, M.sq?, M.dat?, M.isNon, gLt, gLe, gGt, gGe, sFor, iSeq, srcOf, iEnm, enmOf, iRg1, iRg2, bnd, setAll, backS, Sl.isP, tSlc, pNo, pSo, sSetI, hasM, setM, tDspK, tDspT, pairG, D.key?, D.keys?, D.tkey?, putAll, tNewK, tNewT, tNeg, sUnp, tCall, argMs, argM, argS, slots, putB, stepB, putS_lo_ls_ls, putS_lo_ls_dk, putS_lo_ls_dt, putS_lo_ls_no, putS_pa_ls_ls, putS_pa_ls_dk, putS_pa_ls_dt, putS_pa_ls_no, putS_lo_rd_ls, putS_lo_rd_dk, putS_lo_rd_dt, putS_lo_rd_no, putS_pa_rd_ls, putS_pa_rd_dk, putS_pa_rd_dt, putS_pa_rd_no, putS_lo_dk_ls, putS_lo_dk_dk, putS_lo_dk_dt, putS_lo_dk_no, putS_pa_dk_ls, putS_pa_dk_dk, putS_pa_dk_dt, putS_pa_dk_no, putS_lo_dt_ls, putS_lo_dt_dk, putS_lo_dt_dt, putS_lo_dt_no, putS_pa_dt_ls, putS_pa_dt_dk, putS_pa_dt_dt, putS_pa_dt_no, putS_lo_im, putS_lo_sq, putS_pa_im, putS_pa_sq, M.own, M.fit, fins, Sl.fin, envOf, tLcX, compL, wipeE, restE, keepS, qYes, kD, dGet, List.getElem?_cons_zero, List.getElem?_cons_succ, List.getElem?_nil, List.set_cons_zero, List.set_cons_succ, List.map_cons, List.map_nil, List.take_succ_cons, List.take_zero, List.length_cons, List.length_nil, List.head?_cons, List.tail_cons, Option.join_some, List.cons_append, List.nil_append, List.replicate])
local macro_rules | `(tactic| walk_at "n") => `(tactic| ((try dsimp only); refine seq_step fun R hR => ?_; walk_at "y"))
local macro_rules | `(tactic| walk_at "i") => `(tactic| simp only [Bool.false_xor, Bool.true_xor, Bool.not_true, Bool.not_false, Bool.false_eq_true, reduceIte, isiT, M.ty, String.reduceBEq, Bool.or_false, Bool.false_or, Bool.and_false, Bool.and_true, Bool.true_and, Bool.false_and, Bool.or_true, List.mem_cons, true_or, or_true, true_and, and_true, String.reduceEq, decide_true, decide_false])
local macro_rules | `(tactic| walk_at "s") => `(tactic| (subst hR; walk_at "n"))
local macro_rules | `(tactic| walk_at "z") => `(tactic| (simp only [List.map_cons, List.map_nil, atI_c0, atI_c1, atI_c2, atI_c3, atI_c4, atI_c5]; (try walk_at "y")))
def DrawsOk (ds : List Int) : Prop := ∀ d ∈ ds, 0 ≤ d ∧ d < 1000
def F_take : TF := fun ms G => ∃ (ds : List Int) (lim : Int), ms = [.ls (ds.map D.int), .im (.int lim)] ∧ 0 < lim ∧ DrawsOk ds ∧
  ∀ (r : Int) (ds' : List Int), 0 ≤ r → r < lim → DrawsOk ds' → ds'.length ≤ ds.length → G (.im (.int r)) [some (.ls (ds'.map D.int)), some (.im (.int lim))]
theorem body_take : Body F_take 2 2 t__law_take := by
  rintro ms G hl ⟨ds, lim, rfl, h0, hd, q⟩
  show t__law_take _ [Sl.pa (.ls (ds.map D.int)), Sl.pa (.im (.int lim))]
  unfold t__law_take
  walk_at "n"
  rw [Bool.false_xor, List.length_map]
  by_cases e : ds = []
  · subst e
    rw [if_pos (by rfl)]
    exact q 0 [] (by omega) h0 hd (Nat.le_refl _)
  · rw [if_neg (by cases ds with | nil => exact absurd rfl e | cons a t => simp; omega)]
    obtain ⟨d, hdl⟩ : ∃ d, ds.getLast? = some d := ⟨_, List.getLast?_eq_some_getLast e⟩
    subst hR
    walk_at "y"
    refine ⟨trivial, ?_⟩
    rw [List.getLast?_map, hdl, List.map_dropLast.symm]
    have hm := Int.emod_nonneg d (b := lim) (by omega)
    have hm2 := Int.emod_lt_of_pos d h0
    refine ⟨h0, q _ ds.dropLast hm hm2 (fun x hx => hd x (List.dropLast_subset _ hx)) (by simp)⟩
theorem DrawsOk.snoc {ds : List Int} (h : DrawsOk ds) (x : Int) : DrawsOk (ds ++ [x % 1000]) := fun d hd => by
  rcases List.mem_append.mp hd with hd | hd
  · exact h d hd
  · rw [List.mem_singleton.mp hd]; exact ⟨Int.emod_nonneg _ (by omega), Int.emod_lt_of_pos _ (by omega)⟩
theorem loop_draws {P : EndP} {ns : List Int} {a : M} : ∀ (n : Nat) (lo : Int) (cells found : List Int) (mixed : Int) (s5 s6 s7 s8 : Sl), 0 ≤ lo → lo + n ≤ 1000 → cells ≠ [] → cells.length ≤ 1000000 → DrawsOk found → found.length = lo → 0 ≤ mixed → mixed < 2147483647 →
    (∀ (cells' found' : List Int) (mixed' : Int) (s5 s6 s7 s8 : Sl), DrawsOk found' → found'.length = lo + n → P.nx [Sl.pa (.sq (ns.map D.int)), Sl.pa a, .lo (.ls (cells'.map D.int)), .lo (.ls (found'.map D.int)), .lo (.im (.int mixed')), s5, s6, s7, s8]) →
    loopS (.one 5) b__law_draws_1 (fun _ => True) P (gRng lo n) [Sl.pa (.sq (ns.map D.int)), Sl.pa a, .lo (.ls (cells.map D.int)), .lo (.ls (found.map D.int)), .lo (.im (.int mixed)), s5, s6, s7, s8] := by
  intro n
  induction n with
  | zero =>
    intro lo cells found mixed s5 s6 s7 s8 h1 h2 h3 h4 h5 h6 h7 h8 q
    exact ⟨trivial, q cells found mixed s5 s6 s7 s8 h5 (by omega)⟩
  | succ n ih =>
    intro lo cells found mixed s5 s6 s7 s8 h1 h2 h3 h4 h5 h6 h7 h8 q
    rw [gRng_succ]
    refine loop_step trivial fun L hL => ?_
    have hlen : 0 < (cells.length : Int) := by have := List.length_pos_iff.mpr h3; omega
    have m1 := Int.emod_nonneg lo (b := (cells.length : Int)) (by omega)
    have m2 := Int.emod_lt_of_pos lo hlen
    unfold b__law_draws_1
    walk_at "y"
    walk_at "n"
    rw [List.length_map]
    refine ⟨hlen, ?_⟩
    subst hR
    walk_at "n"
    obtain ⟨cc, hc, _⟩ := atI_ok m1 m2
    rw [atI_map, hc]
    subst hR
    walk_at "n"
    refine ⟨cMul (by omega) (by omega), by omega, cMul (by have := Int.emod_nonneg cc (b := 1000003) (by omega); have := Int.emod_lt_of_pos cc (b := 1000003) (by omega); omega) (by omega), cMul (by omega) (by omega), by omega, ?_⟩
    generalize hm : (mixed * 48271 + cc % 1000003 * 69621 + lo * 7919 + 11) % 2147483647 = mx
    have x1 : 0 ≤ mx := by rw [← hm]; exact Int.emod_nonneg _ (by omega)
    have x2 : mx < 2147483647 := by rw [← hm]; exact Int.emod_lt_of_pos _ (by omega)
    subst hR
    walk_at "n"
    refine ⟨cMul (by omega) (by omega), cMul (by omega) (by omega), by omega, ?_⟩
    generalize (mx * mx + 31 * mx + lo) % 1000003 = ag
    subst hR
    walk_at "y"
    refine ⟨⟨by omega, by decide, by decide⟩, ?_⟩
    have hfl : (found.map D.int).length < sizeLine := by rw [List.length_map, sizeLine_eq]; omega
    have fin : ∀ (cs : List Int) (y : Int), cs.length = cells.length → L [Sl.pa (.sq (ns.map D.int)), Sl.pa a, .lo (.ls (cs.map D.int)), .lo (.ls (found.map D.int ++ [D.int (y % 1000)])), .lo (.im (.int mx)), .lo (.im (.int lo)), .lo (.im (.int (lo % ↑cells.length))), .lo (.im (.int cc)), .lo (.im (.int ag))] := fun cs y hcs => by
      rw [hL, show found.map D.int ++ [D.int (y % 1000)] = (found ++ [y % 1000]).map D.int by simp]
      refine ih (lo + 1) cs (found ++ [y % 1000]) mx _ _ _ _ (by omega) (by omega) (fun z => by rw [z] at hcs; simp at hcs; omega) (by omega) (h5.snoc y) (by simp; omega) x1 x2 fun c' f' m' t5 t6 t7 t8 d1 d2 => q c' f' m' t5 t6 t7 t8 d1 (by omega)
    split
    · walk_at "n"
      refine ⟨trivial, by omega, hfl, ?_⟩
      subst hR
      walk_at "y"
      refine ⟨cDiv (by omega), trivial, ?_⟩
      rw [List.length_map, ixN_ok m1 m2]
      walk_at "y"
      rw [← List.map_set]
      exact fin _ cc (by simp)
    · exact ⟨trivial, by omega, hfl, fin cells ag rfl⟩
def F_draws : TF := fun ms G => ∃ (ns : List Int) (n : Nat), ms = [.sq (ns.map D.int), .im (.int n)] ∧ n ≤ 1000 ∧ ns.length ≤ 1000000 ∧
  ∀ (ds' : List Int), DrawsOk ds' → ds'.length = n → G (.ls (ds'.map D.int)) [some (.sq (ns.map D.int)), some (.im (.int n))]
theorem body_draws : Body F_draws 9 2 t__law_draws := by
  rintro ms G hl ⟨ns, n, rfl, hn, hl, q⟩
  show t__law_draws _ [Sl.pa (.sq (ns.map D.int)), Sl.pa (.im (.int n)), .no, .no, .no, .no, .no, .no, .no]
  unfold t__law_draws
  walk_at "n"
  subst hR
  walk_at "n"
  have go : ∀ cells : List Int, cells ≠ [] → cells.length ≤ 1000000 → R [Sl.pa (.sq (ns.map D.int)), Sl.pa (.im (.int n)), .lo (.ls (cells.map D.int)), .no, .no, .no, .no, .no, .no] := by
    intro cells hc hcl
    subst hR
    walk_at "n"
    refine ⟨by rw [sizeLine_eq]; omega, ?_⟩
    subst hR
    walk_at "n"
    subst hR
    walk_at "n"
    refine ⟨by omega, by omega, ?_⟩
    refine loop_draws (found := []) _ _ cells 12345 _ _ _ _ (by omega) (by omega) hc hcl (fun d hd => by cases hd) rfl (by omega) (by omega) fun c' f' m' t5 t6 t7 t8 d1 d2 => ?_
    subst hR
    walk_at "n"
    refine ⟨trivial, ?_⟩
    subst hR
    walk_at "y"
    rw [← List.map_reverse]
    exact q _ (fun d hd => d1 d (List.mem_reverse.mp hd)) (by simp at d2 ⊢; omega)
  split
  · exact ⟨by rw [sizeLine_eq]; omega, go [7] (by simp) (by simp)⟩
  · rename_i hz
    exact go ns (fun e => hz (by rw [e]; rfl)) hl
end Y
namespace Y
set_option hygiene false
open PySem PySem.Spec L2
local macro_rules | `(tactic| walk_at "y") => `(tactic| dsimp only [sNil, sBk, sCt, sDrop, sIf, asg, sAsg, sRet, sRetN, tIm, tNm, tBin, w2, vw, Sl.m?, tTst, tTru, M.tru, tAndQ, tOrQ, tNotQ, tAndX, tOrX, tNotX, tIfX, lNil, lCons, tFrz, froz, tTp, tLs, tCl, vws, tMt, Sl.m!, Sl.up, M.res, gLen, gInt, gAdd, gSub, gMul, gDiv, gMod, gPow, gII, gI0, gEqs, gEqs2, gIx, gPop, gApp, gRev, gExt, gTuple, gList, gDict, gIs, gIsi, gAll, gIns, gSorted, gSl, M.lq?, M.lst?, M.sq?, M.dat?, M.isNon, gLt, gLe, gGt, gGe, sFor, iSeq, srcOf, iEnm, enmOf, iRg1, iRg2, bnd, setAll, backS, Sl.isP, tSlc, pNo, pSo, sSetI, hasM, setM, tDspK, tDspT, pairG, D.key?, D.keys?, D.tkey?, putAll, tNewK, tNewT, tNeg, sUnp, tCall, argMs, argM, argS, slots, putB, stepB, putS_lo_ls_ls, putS_lo_ls_dk, putS_lo_ls_dt, putS_lo_ls_no, putS_pa_ls_ls, putS_pa_ls_dk, putS_pa_ls_dt, putS_pa_ls_no, putS_lo_rd_ls, putS_lo_rd_dk, putS_lo_rd_dt, putS_lo_rd_no, putS_pa_rd_ls, putS_pa_rd_dk, putS_pa_rd_dt, putS_pa_rd_no, putS_lo_dk_ls, putS_lo_dk_dk, putS_lo_dk_dt, putS_lo_dk_no, putS_pa_dk_ls, putS_pa_dk_dk, putS_pa_dk_dt, putS_pa_dk_no, putS_lo_dt_ls, putS_lo_dt_dk, putS_lo_dt_dt, putS_lo_dt_no, putS_pa_dt_ls, putS_pa_dt_dk, putS_pa_dt_dt, putS_pa_dt_no, putS_lo_im, putS_lo_sq, putS_pa_im, putS_pa_sq, M.own, M.fit, fins, Sl.fin, envOf, tLcX, compL, wipeE, restE, keepS, qYes, kD, dGet, List.getElem?_cons_zero, List.getElem?_cons_succ, List.getElem?_nil, List.set_cons_zero, List.set_cons_succ, List.map_cons, List.map_nil, List.take_succ_cons, List.take_zero, List.length_cons, List.length_nil, List.head?_cons, List.tail_cons, Option.join_some, List.cons_append, List.nil_append, List.replicate])
local macro_rules | `(tactic| walk_at "n") => `(tactic| ((try dsimp only); refine seq_step fun R hR => ?_; walk_at "y"))
local macro_rules | `(tactic| walk_at "i") => `(tactic| simp only [Bool.false_xor, Bool.true_xor, Bool.not_true, Bool.not_false, Bool.false_eq_true, reduceIte, isiT, M.ty, String.reduceBEq, Bool.or_false, Bool.false_or, Bool.and_false, Bool.and_true, Bool.true_and, Bool.false_and, Bool.or_true, List.mem_cons, true_or, or_true, true_and, and_true, String.reduceEq, decide_true, decide_false])
local macro_rules | `(tactic| walk_at "s") => `(tactic| (subst hR; walk_at "n"))
local macro_rules | `(tactic| walk_at "z") => `(tactic| (simp only [List.map_cons, List.map_nil, atI_c0, atI_c1, atI_c2, atI_c3, atI_c4, atI_c5]; (try walk_at "y")))
mutual
def D.sane : Nat → D → Bool
  | 0, _ => false
  | _ + 1, .raw _ => false
  | n + 1, .tup ds => decide (ds.length ≤ 100000) && D.sanes n ds
  | n + 1, .lst ds => decide (ds.length ≤ 100000) && D.sanes n ds
  | _ + 1, _ => true
def D.sanes : Nat → List D → Bool
  | _, [] => true
  | n, d :: ds => D.sane n d && D.sanes n ds
end
theorem D.sanes_all (n : Nat) : ∀ ds : List D, D.sanes n ds = ds.all (D.sane n)
  | [] => rfl
  | d :: ds => by simp only [D.sanes, List.all_cons]; rw [D.sanes_all n ds]
def F_same (n : Nat) : TF := fun ms G => ∃ m, ms = [m, m] ∧ (match m with
  | .im d => D.sane n d = true
  | .ls ds => D.sane n (.lst ds) = true
  | _ => False) ∧ ∀ fin, G (.im (.bl true)) fin
theorem bls_rep : ∀ n : Nat, D.bls? (List.replicate n (.bl true)) = some (List.replicate n true)
  | 0 => rfl
  | n + 1 => by rw [List.replicate_succ, List.replicate_succ]; unfold D.bls?; rw [bls_rep n]; rfl
theorem same_comp {n : Nat} {m : M} {ds : List D} {k : List D → Env → Prop} (hm : (∃ d, m = .im d) ∨ ∃ ds, m = .ls ds) (hix : ∀ (i : Int) x (G : M → Prop), atI ds i = some x → G (.im x) → gIx m (.im (.int i)) G) (hs : ∀ x ∈ ds, D.sane n x = true) (hl : ds.length ≤ 100000)
    (q : k (List.replicate ds.length (.bl true)) [Sl.pa m, Sl.pa m, .no]) : ∀ (j lo : Nat), lo + j = ds.length →
    compL (.one 2) qYes (tCall (F_same n) 2 (lCons (tBin gIx (tNm 0) (tNm 2)) (lCons (tBin gIx (tNm 1) (tNm 2)) lNil))) [2] (fun _ => True) k (gRng lo j) (List.replicate lo (.bl true)) [Sl.pa m, Sl.pa m, .no] := by
  intro j
  induction j with
  | zero =>
    intro lo e
    rw [← e] at q
    exact ⟨trivial, q⟩
  | succ j ih =>
    intro lo e
    rw [gRng_succ]
    refine comp_step trivial fun L hL => ?_
    obtain ⟨x, hx, hx2⟩ := atI_ok (xs := ds) (i := (lo : Int)) (by omega) (by omega)
    have mem : x ∈ ds := List.mem_of_getElem? hx2
    dsimp only [bnd, qYes, List.set_cons_succ, List.set_cons_zero]
    rw [if_pos rfl]
    have go : tFrz (lCons (tCall (F_same n) 2 (lCons (tBin gIx (tNm 0) (tNm 2)) (lCons (tBin gIx (tNm 1) (tNm 2)) lNil))) lNil) (fun xs ρ3 => match xs with
      | [x] => (List.replicate lo (D.bl true)).length < sizeLine ∧ L (List.replicate lo (D.bl true) ++ [x]) (wipeE ρ3 [2])
      | _ => False) [Sl.pa m, Sl.pa m, .lo (.im (.int lo))] := by
      have fin : (List.replicate lo (D.bl true)).length < sizeLine ∧ L (List.replicate lo (D.bl true) ++ [.bl true]) [Sl.pa m, Sl.pa m, .no] := by
        refine ⟨by simp [sizeLine_eq]; omega, ?_⟩
        rw [← List.replicate_succ', hL]
        exact ih (lo + 1) (by omega)
      rcases hm with ⟨d, rfl⟩ | ⟨es, rfl⟩
      · dsimp only [tFrz, lCons, tCall, tBin, tNm, w2, vw, Sl.m?, List.getElem?_cons_zero, List.getElem?_cons_succ, lNil]
        refine hix _ x _ hx (hix _ x _ hx ?_)
        exact ⟨rfl, List.nodup_nil, .im x, rfl, hs x mem, fun _ => ⟨rfl, fin⟩⟩
      · dsimp only [tFrz, lCons, tCall, tBin, tNm, w2, vw, Sl.m?, List.getElem?_cons_zero, List.getElem?_cons_succ, lNil]
        refine hix _ x _ hx (hix _ x _ hx ?_)
        exact ⟨rfl, List.nodup_nil, .im x, rfl, hs x mem, fun _ => ⟨rfl, fin⟩⟩
    exact go
theorem all_rep (n : Nat) : (List.replicate n true).all id = true := by simp
theorem body_same (n : Nat) : Body (F_same (n + 1)) 3 2 (t__law_same (F_same n)) := by
  rintro ms G hl ⟨m, rfl, hm, q⟩
  show t__law_same _ _ [Sl.pa m, Sl.pa m, .no]
  unfold t__law_same
  have o1 : ∀ b, D.ok 64 (.bl b) = true := fun b => rfl
  have e1 : ∀ b, (!(D.bl b).eqv (D.bl b)) = false := fun b => by cases b <;> rfl
  cases m with
  | im d =>
    cases d with
    | non =>
      walk_at "n"
      walk_at "i"
      exact q _
    | bl b =>
      walk_at "n"; walk_at "i"
      walk_at "s"; walk_at "i"
      rw [show (D.bl b).eqv (D.bl b) = true by cases b <;> rfl]
      exact ⟨o1 _, o1 _, q _⟩
    | int i =>
      walk_at "n"; walk_at "i"
      walk_at "s"; walk_at "i"
      walk_at "s"; walk_at "i"
      exact q _
    | str z =>
      walk_at "n"; walk_at "i"
      walk_at "s"; walk_at "i"
      walk_at "s"; walk_at "i"
      walk_at "s"; walk_at "i"
      exact q _
    | tup ds =>
      simp only [D.sane, D.sanes_all, Bool.and_eq_true, decide_eq_true_eq, List.all_eq_true] at hm
      walk_at "n"; walk_at "i"
      walk_at "s"; walk_at "i"
      walk_at "s"; walk_at "i"
      walk_at "s"; walk_at "i"
      walk_at "s"; walk_at "i"
      subst hR; walk_at "y"
      refine ⟨o1 _, o1 _, ?_⟩
      rw [if_neg (by rw [e1]; decide)]
      refine ⟨o1 _, o1 _, ?_⟩
      rw [if_neg (by rw [e1]; decide), if_pos (by simp)]
      refine ⟨by omega, by omega, ?_⟩
      exact same_comp (m := .im (.tup ds)) (.inl ⟨_, rfl⟩) (fun i x G h g => by dsimp only [gIx]; rw [h]; exact g) hm.2 hm.1 (by
        walk_at "y"
        rw [bls_rep]; dsimp only; rw [all_rep]
        exact q _) _ 0 (by simp)
    | lst ds =>
      simp only [D.sane, D.sanes_all, Bool.and_eq_true, decide_eq_true_eq, List.all_eq_true] at hm
      walk_at "n"; walk_at "i"
      walk_at "s"; walk_at "i"
      walk_at "s"; walk_at "i"
      walk_at "s"; walk_at "i"
      walk_at "s"; walk_at "i"
      subst hR; walk_at "y"
      refine ⟨o1 _, o1 _, ?_⟩
      rw [if_neg (by rw [e1]; decide)]
      refine ⟨o1 _, o1 _, ?_⟩
      rw [if_neg (by rw [e1]; decide), if_pos (by simp)]
      refine ⟨by omega, by omega, ?_⟩
      exact same_comp (m := .im (.lst ds)) (.inl ⟨_, rfl⟩) (fun i x G h g => by dsimp only [gIx, M.lq?]; rw [h]; exact g) hm.2 hm.1 (by
        walk_at "y"
        rw [bls_rep]; dsimp only; rw [all_rep]
        exact q _) _ 0 (by simp)
    | raw v => simp [D.sane] at hm
  | ls ds =>
    simp only [D.sane, D.sanes_all, Bool.and_eq_true, decide_eq_true_eq, List.all_eq_true] at hm
    walk_at "n"; walk_at "i"
    walk_at "s"; walk_at "i"
    walk_at "s"; walk_at "i"
    walk_at "s"; walk_at "i"
    walk_at "s"; walk_at "i"
    subst hR; walk_at "y"
    refine ⟨o1 _, o1 _, ?_⟩
    rw [if_neg (by rw [e1]; decide)]
    refine ⟨o1 _, o1 _, ?_⟩
    rw [if_neg (by rw [e1]; decide), if_pos (by simp)]
    refine ⟨by omega, by omega, ?_⟩
    exact same_comp (m := .ls ds) (.inr ⟨_, rfl⟩) (fun i x G h g => by dsimp only [gIx, M.lq?]; rw [h]; exact g) hm.2 hm.1 (by
      walk_at "y"
      rw [bls_rep]; dsimp only; rw [all_rep]
      exact q _) _ 0 (by simp)
  | _ => exact hm.elim
end Y
namespace Y
set_option hygiene false
open PySem PySem.Spec L2
local macro_rules | `(tactic| walk_at "y") => `(tactic| dsimp only [sNil, sBk, sCt, sDrop, sIf, asg, sAsg, sRet, sRetN, tIm, tNm, tBin, w2, vw, Sl.m?, tTst, tTru, M.tru, tAndQ, tOrQ, tNotQ, tAndX, tOrX, tNotX, tIfX, lNil, lCons, tFrz, froz, tTp, tLs, tCl, vws, tMt, Sl.m!, Sl.up, M.res, gLen, gInt, gAdd, gSub, gMul, gDiv, gMod, gPow, gII, gI0, gEqs, gEqs2, gIx, gPop, gApp, gRev, gExt, gTuple, gList, gDict, gIs, gIsi, gAll, gIns, gSorted, gSl, M.lq?, M.lst?, M.sq?, M.dat?, M.isNon, gLt, gLe, gGt, gGe, sFor, iSeq, srcOf, iEnm, enmOf, iRg1, iRg2, bnd, setAll, backS, Sl.isP, tSlc, pNo, pSo, sSetI, hasM, setM, tDspK, tDspT, pairG, D.key?, D.keys?, D.tkey?, putAll, tNewK, tNewT, tNeg, sUnp, tCall, argMs, argM, argS, slots, putB, stepB, putS_lo_ls_ls, putS_lo_ls_dk, putS_lo_ls_dt, putS_lo_ls_no, putS_pa_ls_ls, putS_pa_ls_dk, putS_pa_ls_dt, putS_pa_ls_no, putS_lo_rd_ls, putS_lo_rd_dk, putS_lo_rd_dt, putS_lo_rd_no, putS_pa_rd_ls, putS_pa_rd_dk, putS_pa_rd_dt, putS_pa_rd_no, putS_lo_dk_ls, putS_lo_dk_dk, putS_lo_dk_dt, putS_lo_dk_no, putS_pa_dk_ls, putS_pa_dk_dk, putS_pa_dk_dt, putS_pa_dk_no, putS_lo_dt_ls, putS_lo_dt_dk, putS_lo_dt_dt, putS_lo_dt_no, putS_pa_dt_ls, putS_pa_dt_dk, putS_pa_dt_dt, putS_pa_dt_no, putS_lo_im, putS_lo_sq, putS_pa_im, putS_pa_sq, M.own, M.fit, fins, Sl.fin, envOf, tLcX, compL, wipeE, restE, keepS, qYes, kD, dGet, List.getElem?_cons_zero, List.getElem?_cons_succ, List.getElem?_nil, List.set_cons_zero, List.set_cons_succ, List.map_cons, List.map_nil, List.take_succ_cons, List.take_zero, List.length_cons, List.length_nil, List.head?_cons, List.tail_cons, Option.join_some, List.cons_append, List.nil_append, List.replicate])
local macro_rules | `(tactic| walk_at "n") => `(tactic| ((try dsimp only); refine seq_step fun R hR => ?_; walk_at "y"))
local macro_rules | `(tactic| walk_at "i") => `(tactic| simp only [Bool.false_xor, Bool.true_xor, Bool.not_true, Bool.not_false, Bool.false_eq_true, reduceIte, isiT, M.ty, String.reduceBEq, Bool.or_false, Bool.false_or, Bool.and_false, Bool.and_true, Bool.true_and, Bool.false_and, Bool.or_true, List.mem_cons, true_or, or_true, true_and, and_true, String.reduceEq, decide_true, decide_false])
local macro_rules | `(tactic| walk_at "s") => `(tactic| (subst hR; walk_at "n"))
local macro_rules | `(tactic| walk_at "z") => `(tactic| (simp only [List.map_cons, List.map_nil, atI_c0, atI_c1, atI_c2, atI_c3, atI_c4, atI_c5]; (try walk_at "y")))
/-! ### what can be reached -/
abbrev Node := Str × Int
abbrev Uses := List (Str × List (Str × Int))
def usesOf (kvs : Uses) (m : Str) : List (Str × Int) := match kvs.find? (fun p => decide (p.1 = m)) with
  | some p => p.2
  | none => []
inductive Rch (kvs : Uses) (a : Node) : Node → Prop
  | refl : Rch kvs a a
  | step {b : Node} {ol : Str × Int} : Rch kvs a b → ol ∈ usesOf kvs b.1 → b.2 + ol.2 ≤ 3 → Rch kvs a (ol.1, b.2 + ol.2)
def ClosedN (kvs : Uses) (S : List Node) : Prop := ∀ b ∈ S, ∀ ol ∈ usesOf kvs b.1, b.2 + ol.2 ≤ 3 → (ol.1, b.2 + ol.2) ∈ S
theorem closed_all {kvs : Uses} {S : List Node} {a nd : Node} (h : ClosedN kvs S) (ha : a ∈ S) (r : Rch kvs a nd) : nd ∈ S := by
  induction r with
  | refl => exact ha
  | step _ m l ih => exact h _ ih _ m l
def univ (U : List Str) : List Node := U.flatMap fun s => [(s, 0), (s, 1), (s, 2), (s, 3)]
theorem univ_length (U : List Str) : (univ U).length = 4 * U.length := by
  induction U with
  | nil => rfl
  | cons a t ih => unfold univ at ih ⊢; rw [List.flatMap_cons, List.length_append, ih]; simp; omega
theorem mem_univ {U : List Str} {nd : Node} : nd ∈ univ U ↔ nd.1 ∈ U ∧ 0 ≤ nd.2 ∧ nd.2 ≤ 3 := by
  obtain ⟨s, i⟩ := nd
  unfold univ
  rw [List.mem_flatMap]
  constructor
  · rintro ⟨t, ht, h⟩
    simp at h
    rcases h with ⟨rfl, rfl⟩ | ⟨rfl, rfl⟩ | ⟨rfl, rfl⟩ | ⟨rfl, rfl⟩ <;> (refine ⟨ht, ?_, ?_⟩ <;> simp)
  · rintro ⟨h1, h2, h3⟩
    refine ⟨s, h1, ?_⟩
    simp
    omega
theorem nodup_le {α : Type} [DecidableEq α] : ∀ {S V : List α}, S.Nodup → (∀ a ∈ S, a ∈ V) → S.length ≤ V.length
  | [], _, _, _ => Nat.zero_le _
  | a :: S, V, hn, h => by
    have h1 := h a List.mem_cons_self
    have hn' := List.nodup_cons.mp hn
    have h2 := nodup_le (S := S) (V := V.erase a) hn'.2 fun b hb => (List.mem_erase_of_ne (fun e => hn'.1 (by rw [← e]; exact hb))).mpr (h b (List.mem_cons_of_mem _ hb))
    rw [List.length_erase_of_mem h1] at h2
    have h3 := List.length_pos_of_mem h1
    rw [List.length_cons]; omega
def nD (nd : Node) : D := .tup [.str nd.1, .int nd.2]
def nK (nd : Node) : List Key := [.inr nd.1, .inl nd.2]
def UsesOk (kvs : Uses) (U : List Str) : Prop := ∀ p ∈ kvs, p.2.length ≤ 1000 ∧ ∀ ol ∈ p.2, ol.1 ∈ U ∧ 0 ≤ ol.2 ∧ ol.2 ≤ 3
theorem usesOf_ok {kvs : Uses} {U : List Str} (h : UsesOk kvs U) (m : Str) : (usesOf kvs m).length ≤ 1000 ∧ ∀ ol ∈ usesOf kvs m, ol.1 ∈ U ∧ 0 ≤ ol.2 ∧ ol.2 ≤ 3 := by
  unfold usesOf
  split
  · rename_i p e
    exact h p (List.mem_of_find?_eq_some e)
  · exact ⟨by simp, fun ol ho => by cases ho⟩
theorem rch_univ {kvs : Uses} {U : List Str} {a : Node} (h : UsesOk kvs U) (ha : a ∈ univ U) {nd : Node} (r : Rch kvs a nd) : nd ∈ univ U := by
  induction r with
  | refl => exact ha
  | @step b ol _ m l ih =>
    have h1 := (usesOf_ok h b.1).2 ol m
    have h2 := mem_univ.mp ih
    exact mem_univ.mpr ⟨h1.1, by show 0 ≤ b.2 + ol.2; omega, l⟩

/-! ### sorted lists of nodes -/
theorem alike_node (a b : Node) : PySem.W.alike (nD a).py (nD b).py = true := by simp [nD, D.py, D.pys, PySem.W.alike, PySem.W.alikeAll]
theorem ok_node {a : Node} (h : PyData.strOk a.1 = true) : D.ok 64 (nD a) = true := by
  simp [nD, D.ok, D.oks, h]
theorem canSort_nodes {S : List Node} (h : ∀ a ∈ S, PyData.strOk a.1 = true) : CanSort (S.map nD) := by
  refine ⟨?_, ?_, ?_⟩
  · rw [List.map_map]; exact PySem.W.AllAlike.of fun b b' => alike_node b b'
  · rw [List.map_map]; exact PySem.W.Sortable.tuples fun b => ⟨.str b.1, [.int b.2], by simp [nD, D.py, D.pys]⟩
  · intro d hd
    obtain ⟨a, ha, rfl⟩ := List.mem_map.mp hd
    exact ok_node (h a ha)
theorem str_ext' {x y : Str} (h : x.cps.toList = y.cps.toList) : x = y := by
  cases x; cases y; congr 1; exact Array.toList_inj.mp h
theorem anti_node {a b : Node} (h1 : PySem.W.dataLe false D.py (nD a) (nD b) = true) (h2 : PySem.W.dataLe false D.py (nD b) (nD a) = true) : a = b := by
  have e : ∀ p q : Node, PySem.W.dataLe false D.py (nD p) (nD q) = !PySem.W.dataLt (.tuple [.str q.1, .int q.2]) (.tuple [.str p.1, .int p.2]) := fun p q => by
    rw [PySem.W.dataLe_eq]; simp [nD, D.py, D.pys]
  rw [e, PySem.W.dataLt_pair (by simp [PySem.W.alike]) (by simp [PySem.W.alike]), PySem.W.dataLt_str, PySem.W.dataLt_int] at h1 h2
  obtain ⟨x, i⟩ := a
  obtain ⟨y, j⟩ := b
  simp only [PyData.eqv, beq_iff_eq] at h1 h2
  by_cases hxy : x = y
  · subst hxy
    rw [if_pos rfl] at h1 h2
    by_cases hij : i = j
    · rw [hij]
    · rw [if_neg (fun z => hij z.symm)] at h1
      rw [if_neg hij] at h2
      simp at h1 h2
      omega
  · rw [if_neg (fun z => hxy z.symm)] at h1
    rw [if_neg hxy] at h2
    simp only [Bool.not_eq_true', decide_eq_false_iff_not] at h1 h2
    exact absurd (str_ext' (List.le_antisymm (List.not_lt.mp h1) (List.not_lt.mp h2))) hxy
theorem sort_nodes {S T : List Node} (hs : S.Nodup) (ht : T.Nodup) (h : ∀ a, a ∈ S ↔ a ∈ T) : sortD (S.map nD) = sortD (T.map nD) := by
  have p : S.Perm T := (List.perm_ext_iff_of_nodup hs ht).mpr h
  have tot := PySem.W.sortLe_total (PyProof.Rows.listOrd PyProof.Rows.itemOrd) false fun d : D => PySem.W.keyToks d.py
  have p2 : (sortD (S.map nD)).Perm (sortD (T.map nD)) := (List.mergeSort_perm _ _).trans ((p.map nD).trans (List.mergeSort_perm _ _).symm)
  refine List.Perm.eq_of_pairwise (le := fun a b => PySem.W.dataLe false D.py a b = true) ?_ (PySem.W.sort_pairwise tot _) (PySem.W.sort_pairwise tot _) p2
  intro a b ha hb h1 h2
  obtain ⟨x, _, rfl⟩ := List.mem_map.mp (List.mem_mergeSort.mp ha)
  obtain ⟨y, _, rfl⟩ := List.mem_map.mp (List.mem_mergeSort.mp hb)
  rw [anti_node h1 h2]
end Y
namespace Y
set_option hygiene false
open PySem PySem.Spec L2
local macro_rules | `(tactic| walk_at "y") => `(tactic| dsimp only [sNil, sBk, sCt, sDrop, sIf, asg, sAsg, sRet, sRetN, tIm, tNm, tBin, w2, vw, Sl.m?, tTst, tTru, M.tru, tAndQ, tOrQ, tNotQ, tAndX, tOrX, tNotX, tIfX, lNil, lCons, tFrz, froz, tTp, tLs, tCl, vws, tMt, Sl.m!, Sl.up, M.res, gLen, gInt, gAdd, gSub, gMul, gDiv, gMod, gPow, gII, gI0, gEqs, gEqs2, gIx, gPop, gApp, gRev, gExt, gTuple, gList, gDict, gIs, gIsi, gAll, gIns, gSorted, gSl, M.lq?, M.lst?, M.sq?, M.dat?, M.isNon, gLt, gLe, gGt, gGe, sFor, iSeq, srcOf, iEnm, enmOf, iRg1, iRg2, bnd, setAll, backS, Sl.isP, tSlc, pNo, pSo, sSetI, hasM, setM, tDspK, tDspT, pairG, D.key?, D.keys?, D.tkey?, putAll, tNewK, tNewT, tNeg, sUnp, tCall, argMs, argM, argS, slots, putB, stepB, putS_lo_ls_ls, putS_lo_ls_dk, putS_lo_ls_dt, putS_lo_ls_no, putS_pa_ls_ls, putS_pa_ls_dk, putS_pa_ls_dt, putS_pa_ls_no, putS_lo_rd_ls, putS_lo_rd_dk, putS_lo_rd_dt, putS_lo_rd_no, putS_pa_rd_ls, putS_pa_rd_dk, putS_pa_rd_dt, putS_pa_rd_no, putS_lo_dk_ls, putS_lo_dk_dk, putS_lo_dk_dt, putS_lo_dk_no, putS_pa_dk_ls, putS_pa_dk_dk, putS_pa_dk_dt, putS_pa_dk_no, putS_lo_dt_ls, putS_lo_dt_dk, putS_lo_dt_dt, putS_lo_dt_no, putS_pa_dt_ls, putS_pa_dt_dk, putS_pa_dt_dt, putS_pa_dt_no, putS_lo_im, putS_lo_sq, putS_pa_im, putS_pa_sq, M.own, M.fit, fins, Sl.fin, envOf, tLcX, compL, wipeE, restE, keepS, qYes, kD, dGet, List.getElem?_cons_zero, List.getElem?_cons_succ, List.getElem?_nil, List.set_cons_zero, List.set_cons_succ, List.map_cons, List.map_nil, List.take_succ_cons, List.take_zero, List.length_cons, List.length_nil, List.head?_cons, List.tail_cons, Option.join_some, List.cons_append, List.nil_append, List.replicate])
local macro_rules | `(tactic| walk_at "n") => `(tactic| ((try dsimp only); refine seq_step fun R hR => ?_; walk_at "y"))
local macro_rules | `(tactic| walk_at "i") => `(tactic| simp only [Bool.false_xor, Bool.true_xor, Bool.not_true, Bool.not_false, Bool.false_eq_true, reduceIte, isiT, M.ty, String.reduceBEq, Bool.or_false, Bool.false_or, Bool.and_false, Bool.and_true, Bool.true_and, Bool.false_and, Bool.or_true, List.mem_cons, true_or, or_true, true_and, and_true, String.reduceEq, decide_true, decide_false])
local macro_rules | `(tactic| walk_at "s") => `(tactic| (subst hR; walk_at "n"))
local macro_rules | `(tactic| walk_at "z") => `(tactic| (simp only [List.map_cons, List.map_nil, atI_c0, atI_c1, atI_c2, atI_c3, atI_c4, atI_c5]; (try walk_at "y")))
def uD (ol : Str × Int) : D := .tup [.str ol.1, .int ol.2]
def artV (p : Str × List (Str × Int)) : D := .tup [.str "module", .str p.1, .tup (p.2.map uD), .tup [], .tup [], .tup []]
def artD (kvs : Uses) : List (Key × D) := kvs.map fun p => (.inr p.1, artV p)
def fndD (S : List Node) : List (List Key × D) := S.map fun nd => (nK nd, .bl true)
theorem getK_art (kvs : Uses) (m : Str) : getK (artD kvs) (.inr m) = (kvs.find? fun p => decide (p.1 = m)).map artV := by
  unfold getK artD
  rw [List.find?_map, Option.map_map]
  have e : ((fun kv : Key × D => decide (kv.1 = .inr m)) ∘ fun p : Str × List (Str × Int) => ((.inr p.1 : Key), artV p)) = fun p => decide (p.1 = m) := by
    funext p
    simp
  rw [e]
  rfl
theorem nK_inj {a b : Node} : nK a = nK b ↔ a = b := by
  obtain ⟨x, i⟩ := a
  obtain ⟨y, j⟩ := b
  simp [nK]
theorem getK_fnd (S : List Node) (nd : Node) : (getK (fndD S) (nK nd)).isSome = decide (nd ∈ S) := by
  unfold getK fndD
  rw [Option.isSome_map]
  induction S with
  | nil => rfl
  | cons x S ih =>
    rw [List.map_cons, List.find?_cons]
    by_cases e : x = nd
    · subst e; simp
    · have e2 : ¬ nK x = nK nd := fun z => e (nK_inj.mp z)
      simp only [e2, decide_false]
      rw [ih]
      simp
      exact fun z => absurd z.symm e
theorem any_fnd (S : List Node) (nd : Node) : ((fndD S).any fun kv => decide (kv.1 = nK nd)) = decide (nd ∈ S) := by
  unfold fndD
  induction S with
  | nil => rfl
  | cons x S ih =>
    rw [List.map_cons, List.any_cons, ih]
    by_cases e : x = nd
    · subst e; simp
    · have e2 : ¬ nK x = nK nd := fun z => e (nK_inj.mp z)
      simp [e2]
      exact fun z => absurd z.symm e
theorem putD_fnd {S : List Node} {nd : Node} (h : nd ∉ S) : putD (fndD S) (nK nd) (.bl true) = fndD (S ++ [nd]) := by
  unfold putD
  rw [if_neg (by rw [any_fnd]; simp [h])]
  unfold fndD; rw [List.map_append]; rfl
def stepN (sh : Int) : List (Str × Int) → List Node × List Node → List Node × List Node
  | [], p => p
  | ol :: r, (S, W) => if sh + ol.2 ≤ 3 ∧ (ol.1, sh + ol.2) ∉ S then stepN sh r (S ++ [(ol.1, sh + ol.2)], W ++ [(ol.1, sh + ol.2)]) else stepN sh r (S, W)
theorem loop_reach2 {P : EndP} {s0 s1 s4 s6 : Sl} {sh : Int} : ∀ (us : List (Str × Int)) (S W : List Node) (s7 s8 : Sl), S.length + us.length ≤ 100000 → W.length + us.length ≤ 100000 →
    (∀ s7 s8, P.nx [s0, s1, .lo (.dt (fndD (stepN sh us (S, W)).1)), .lo (.ls ((stepN sh us (S, W)).2.map nD)), s4, .lo (.im (.int sh)), s6, s7, s8]) →
    loopS (.many [7, 8]) b_reach_2 (fun _ => True) P (us.map uD) [s0, s1, .lo (.dt (fndD S)), .lo (.ls (W.map nD)), s4, .lo (.im (.int sh)), s6, s7, s8] := by
  intro us
  induction us with
  | nil => intro S W s7 s8 _ _ q; exact ⟨trivial, q s7 s8⟩
  | cons ol us ih =>
    intro S W s7 s8 hS hW q
    refine loop_step trivial fun L hL => ?_
    unfold b_reach_2 uD
    walk_at "y"
    refine ⟨rfl, ?_⟩
    have hg := getK_fnd S (ol.1, sh + ol.2)
    have skip : ¬ (sh + ol.2 ≤ 3 ∧ (ol.1, sh + ol.2) ∉ S) → L [s0, s1, .lo (.dt (fndD S)), .lo (.ls (W.map nD)), s4, .lo (.im (.int sh)), s6, .lo (.im (.str ol.1)), .lo (.im (.int ol.2))] := fun hc => by
      rw [hL]
      refine ih S W _ _ (by simp at hS; omega) (by simp at hW; omega) fun t7 t8 => ?_
      have := q t7 t8
      rw [stepN, if_neg hc] at this
      exact this
    by_cases h3 : sh + ol.2 ≤ 3
    · rw [if_pos (by simpa using h3)]
      refine ⟨by rw [sizeLine_eq]; omega, ?_⟩
      rw [show (getK (fndD S) [Sum.inr ol.fst, Sum.inl (sh + ol.snd)]).isSome = decide ((ol.1, sh + ol.2) ∈ S) from hg, Bool.true_xor]
      by_cases hm : (ol.1, sh + ol.2) ∈ S
      · rw [if_neg (by simp [hm])]
        exact skip fun z => z.2 hm
      · rw [if_pos (by simp [hm])]
        walk_at "n"
        refine ⟨trivial, by rw [sizeLine_eq]; omega, by unfold fndD; rw [List.length_map, sizeLine_eq]; simp at hS; omega, ?_⟩
        rw [show putD (fndD S) [Sum.inr ol.fst, Sum.inl (sh + ol.snd)] (D.bl true) = fndD (S ++ [(ol.1, sh + ol.2)]) from putD_fnd hm]
        subst hR
        walk_at "y"
        refine ⟨trivial, by rw [sizeLine_eq]; omega, by rw [List.length_map, sizeLine_eq]; simp at hW; omega, ?_⟩
        rw [show List.map nD W ++ [D.tup [D.str ol.fst, D.int (sh + ol.snd)]] = (W ++ [(ol.1, sh + ol.2)]).map nD by simp [nD], hL]
        refine ih (S ++ [(ol.1, sh + ol.2)]) (W ++ [(ol.1, sh + ol.2)]) _ _ (by simp at hS ⊢; omega) (by simp at hW ⊢; omega) fun t7 t8 => ?_
        have := q t7 t8
        rw [stepN, if_pos ⟨h3, hm⟩] at this
        exact this
    · rw [if_neg (by simpa using h3), if_neg (by decide)]
      exact skip fun z => h3 z.1
theorem stepN_spec (sh : Int) : ∀ (us : List (Str × Int)) (S W : List Node), ∃ A, stepN sh us (S, W) = (S ++ A, W ++ A) ∧ (S.Nodup → (S ++ A).Nodup) ∧ (∀ nd ∈ A, ∃ ol ∈ us, sh + ol.2 ≤ 3 ∧ nd = (ol.1, sh + ol.2)) ∧ ∀ ol ∈ us, sh + ol.2 ≤ 3 → (ol.1, sh + ol.2) ∈ S ++ A
  | [], S, W => ⟨[], by simp [stepN], by simp, fun nd h => by (cases h), fun ol h => by (cases h)⟩
  | ol :: us, S, W => by
    by_cases h : sh + ol.2 ≤ 3 ∧ (ol.1, sh + ol.2) ∉ S
    · obtain ⟨A, e, h1, h2, h3⟩ := stepN_spec sh us (S ++ [(ol.1, sh + ol.2)]) (W ++ [(ol.1, sh + ol.2)])
      refine ⟨(ol.1, sh + ol.2) :: A, by rw [stepN, if_pos h, e]; simp, fun hn => ?_, fun nd hnd => ?_, fun ol' ho hl => ?_⟩
      · have := h1 (List.nodup_append.mpr ⟨hn, by simp, fun a ha b hb => by rw [List.mem_singleton.mp hb]; exact fun z => h.2 (z ▸ ha)⟩)
        simpa using this
      · rcases List.mem_cons.mp hnd with rfl | hnd
        · exact ⟨ol, List.mem_cons_self, h.1, rfl⟩
        · obtain ⟨o, a, b, c⟩ := h2 nd hnd
          exact ⟨o, List.mem_cons_of_mem _ a, b, c⟩
      · rcases List.mem_cons.mp ho with rfl | ho
        · simp
        · have := h3 ol' ho hl
          simpa using this
    · obtain ⟨A, e, h1, h2, h3⟩ := stepN_spec sh us S W
      refine ⟨A, by rw [stepN, if_neg h, e], h1, fun nd hnd => ?_, fun ol' ho hl => ?_⟩
      · obtain ⟨o, a, b, c⟩ := h2 nd hnd
        exact ⟨o, List.mem_cons_of_mem _ a, b, c⟩
      · rcases List.mem_cons.mp ho with rfl | ho
        · have : (ol'.1, sh + ol'.2) ∈ S := Classical.byContradiction fun z => h ⟨hl, z⟩
          exact List.mem_append.mpr (.inl this)
        · exact h3 ol' ho hl
theorem loop_reach1 {P : EndP} {s1 : Sl} {kvs : Uses} {U : List Str} {a : Node} (hU : UsesOk kvs U) (hl : U.length ≤ 14) (ha : a ∈ univ U) (q : ∀ (S : List Node) (s4 s5 s6 s7 s8 : Sl), S.Nodup → (∀ nd, nd ∈ S ↔ Rch kvs a nd) → P.nx [Sl.pa (.dk (artD kvs)), s1, .lo (.dt (fndD S)), .lo (.ls []), s4, s5, s6, s7, s8]) :
    ∀ (n : Nat) (S W : List Node) (s4 s5 s6 s7 s8 : Sl), 2 * (4 * U.length - S.length) + W.length < n → S.Nodup → a ∈ S → W.length ≤ S.length → (∀ nd ∈ W, nd ∈ S) → (∀ nd ∈ S, Rch kvs a nd) →
    (∀ b ∈ S, b ∉ W → ∀ ol ∈ usesOf kvs b.1, b.2 + ol.2 ≤ 3 → (ol.1, b.2 + ol.2) ∈ S) →
    whileS (tTru (tNm 3)) b_reach_1 P n [Sl.pa (.dk (artD kvs)), s1, .lo (.dt (fndD S)), .lo (.ls (W.map nD)), s4, s5, s6, s7, s8] := by
  intro n
  induction n with
  | zero => intro S W s4 s5 s6 s7 s8 h; omega
  | succ n ih =>
    intro S W s4 s5 s6 s7 s8 hn hS haS hWS hW hr hc
    refine while_step fun L hL => ?_
    walk_at "y"
    have hSl : S.length ≤ 4 * U.length := by rw [← univ_length]; exact nodup_le hS fun b hb => rch_univ hU ha (hr b hb)
    rcases List.eq_nil_or_concat W with rfl | ⟨W0, nd, rfl⟩
    · rw [if_neg (by simp)]
      exact q S s4 s5 s6 s7 s8 hS fun nd => ⟨hr nd, closed_all (fun b hb ol ho hl => hc b hb (by simp) ol ho hl) haS⟩
    · rw [if_pos (by simp)]
      rw [List.concat_eq_append] at hn hWS hW hc ⊢
      have hnd : nd ∈ S := hW nd (by simp)
      have huo := usesOf_ok hU nd.1
      have hnu := mem_univ.mp (rch_univ hU ha (hr nd hnd))
      unfold b_reach_1
      walk_at "n"
      rw [List.map_append, List.map_cons, List.map_nil, List.getLast?_concat, List.dropLast_concat]
      refine ⟨trivial, rfl, ?_⟩
      subst hR
      walk_at "n"
      rw [getK_art]
      have fin : R [Sl.pa (.dk (artD kvs)), s1, .lo (.dt (fndD S)), .lo (.ls (W0.map nD)), .lo (.im (.str nd.1)), .lo (.im (.int nd.2)), .lo (.im (.tup ((usesOf kvs nd.1).map uD))), s7, s8] := by
        subst hR
        walk_at "y"
        refine loop_reach2 _ S W0 _ _ (by omega) (by simp at hWS; omega) fun t7 t8 => ?_
        obtain ⟨A, e, h1, h2, h3⟩ := stepN_spec nd.2 (usesOf kvs nd.1) S W0
        rw [e]
        have hr' : ∀ b ∈ S ++ A, Rch kvs a b := fun b hb => by
          rcases List.mem_append.mp hb with hb | hb
          · exact hr b hb
          · obtain ⟨ol, a1, a2, rfl⟩ := h2 b hb
            exact .step (hr nd hnd) a1 a2
        have hSl' : (S ++ A).length ≤ 4 * U.length := by rw [← univ_length]; exact nodup_le (h1 hS) fun b hb => rch_univ hU ha (hr' b hb)
        dsimp only
        rw [hL]
        refine ih (S ++ A) (W0 ++ A) _ _ _ _ _ (by simp at hn hSl' ⊢; omega) (h1 hS) (List.mem_append.mpr (.inl haS)) (by simp at hWS ⊢; omega) (fun b hb => ?_) hr' fun b hb hnb ol ho hl => ?_
        · rcases List.mem_append.mp hb with hb | hb
          · exact List.mem_append.mpr (.inl (hW b (by simp [hb])))
          · exact List.mem_append.mpr (.inr hb)
        · rcases List.mem_append.mp hb with hb | hb
          · by_cases hbn : b = nd
            · subst hbn; exact h3 ol ho hl
            · refine List.mem_append.mpr (.inl (hc b hb (fun z => ?_) ol ho hl))
              rcases List.mem_append.mp z with z | z
              · exact hnb (List.mem_append.mpr (.inl z))
              · exact hbn (List.mem_singleton.mp z)
          · exact absurd (List.mem_append.mpr (.inr hb)) hnb
      unfold usesOf at fin
      cases hf : kvs.find? (fun p => decide (p.1 = nd.1)) with
      | none =>
        rw [hf] at fin
        rw [if_neg (by simp)]
        exact ⟨by rw [sizeLine_eq]; omega, fin⟩
      | some p =>
        rw [hf] at fin
        rw [if_pos (by simp)]
        exact fin

def F_reach : TF := fun ms G => ∃ (kvs : Uses) (main : Str) (U : List Str), ms = [.dk (artD kvs), .im (.str main)] ∧ UsesOk kvs U ∧ U.length ≤ 14 ∧ (∀ s ∈ U, PyData.strOk s = true) ∧ main ∈ U ∧
  ∀ S : List Node, S.Nodup → (∀ nd, nd ∈ S ↔ Rch kvs (main, 0) nd) → G (.ls (sortD (S.map nD))) [some (.dk (artD kvs)), some (.im (.str main))]
theorem body_reach : Body F_reach 9 2 t_reach := by
  rintro ms G hl ⟨kvs, main, U, rfl, hU, hUl, hs, hm, q⟩
  show t_reach _ [Sl.pa (.dk (artD kvs)), Sl.pa (.im (.str main)), .no, .no, .no, .no, .no, .no, .no]
  have ha : (main, 0) ∈ univ U := mem_univ.mpr ⟨hm, Int.le_refl 0, by show (0 : Int) ≤ 3; decide⟩
  unfold t_reach
  walk_at "n"
  refine ⟨by rw [sizeLine_eq]; omega, by decide, ?_⟩
  rw [show List.foldl (fun acc kv => putD acc kv.fst kv.snd) [] [(([Sum.inr main, Sum.inl 0] : List Key), D.bl true)] = fndD [(main, 0)] from rfl]
  subst hR
  walk_at "n"
  refine ⟨by rw [sizeLine_eq]; omega, by rw [sizeLine_eq]; omega, ?_⟩
  rw [show [D.tup [D.str main, D.int 0]] = [((main, 0) : Node)].map nD from rfl]
  subst hR
  walk_at "n"
  refine ⟨2 * (4 * U.length) + 2, loop_reach1 hU hUl ha (fun S s4 s5 s6 s7 s8 hS hr => ?_) _ _ _ _ _ _ _ _ (by simp; omega) (by simp) (by simp) (by simp) (fun _ h => h) (fun nd h => by rw [List.mem_singleton.mp h]; exact .refl) (fun b hb hn => absurd hb hn)⟩
  subst hR
  walk_at "y"
  have e : (fndD S).map (fun p => D.tup (p.1.map kD)) = S.map nD := by unfold fndD; rw [List.map_map]; rfl
  rw [e]
  exact ⟨canSort_nodes fun b hb => hs _ (mem_univ.mp (rch_univ hU ha ((hr b).mp hb))).1, q S hS hr⟩
end Y
namespace Y
set_option hygiene false
open PySem PySem.Spec L2
local macro_rules | `(tactic| walk_at "y") => `(tactic| dsimp only [sNil, sBk, sCt, sDrop, sIf, asg, sAsg, sRet, sRetN, tIm, tNm, tBin, w2, vw, Sl.m?, tTst, tTru, M.tru, tAndQ, tOrQ, tNotQ, tAndX, tOrX, tNotX, tIfX, lNil, lCons, tFrz, froz, tTp, tLs, tCl, vws, tMt, Sl.m!, Sl.up, M.res, gLen, gInt, gAdd, gSub, gMul, gDiv, gMod, gPow, gII, gI0, gEqs, gEqs2, gIx, gPop, gApp, gRev, gExt, gTuple, gList, gDict, gIs, gIsi, gAll, gIns, gSorted, gSl, M.lq?, M.lst?, M.sq?, M.dat?, M.isNon, gLt, gLe, gGt, gGe, sFor, iSeq, srcOf, iEnm, enmOf, iRg1, iRg2, bnd, setAll, backS, Sl.isP, tSlc, pNo, pSo, sSetI, hasM, setM, tDspK, tDspT, pairG, D.key?, D.keys?, D.tkey?, putAll, tNewK, tNewT, tNeg, sUnp, tCall, argMs, argM, argS, slots, putB, stepB, putS_lo_ls_ls, putS_lo_ls_dk, putS_lo_ls_dt, putS_lo_ls_no, putS_pa_ls_ls, putS_pa_ls_dk, putS_pa_ls_dt, putS_pa_ls_no, putS_lo_rd_ls, putS_lo_rd_dk, putS_lo_rd_dt, putS_lo_rd_no, putS_pa_rd_ls, putS_pa_rd_dk, putS_pa_rd_dt, putS_pa_rd_no, putS_lo_dk_ls, putS_lo_dk_dk, putS_lo_dk_dt, putS_lo_dk_no, putS_pa_dk_ls, putS_pa_dk_dk, putS_pa_dk_dt, putS_pa_dk_no, putS_lo_dt_ls, putS_lo_dt_dk, putS_lo_dt_dt, putS_lo_dt_no, putS_pa_dt_ls, putS_pa_dt_dk, putS_pa_dt_dt, putS_pa_dt_no, putS_lo_im, putS_lo_sq, putS_pa_im, putS_pa_sq, M.own, M.fit, fins, Sl.fin, envOf, tLcX, compL, wipeE, restE, keepS, qYes, kD, dGet, List.getElem?_cons_zero, List.getElem?_cons_succ, List.getElem?_nil, List.set_cons_zero, List.set_cons_succ, List.map_cons, List.map_nil, List.take_succ_cons, List.take_zero, List.length_cons, List.length_nil, List.head?_cons, List.tail_cons, Option.join_some, List.cons_append, List.nil_append, List.replicate])
local macro_rules | `(tactic| walk_at "n") => `(tactic| ((try dsimp only); refine seq_step fun R hR => ?_; walk_at "y"))
local macro_rules | `(tactic| walk_at "i") => `(tactic| simp only [Bool.false_xor, Bool.true_xor, Bool.not_true, Bool.not_false, Bool.false_eq_true, reduceIte, isiT, M.ty, String.reduceBEq, Bool.or_false, Bool.false_or, Bool.and_false, Bool.and_true, Bool.true_and, Bool.false_and, Bool.or_true, List.mem_cons, true_or, or_true, true_and, and_true, String.reduceEq, decide_true, decide_false])
local macro_rules | `(tactic| walk_at "s") => `(tactic| (subst hR; walk_at "n"))
local macro_rules | `(tactic| walk_at "z") => `(tactic| (simp only [List.map_cons, List.map_nil, atI_c0, atI_c1, atI_c2, atI_c3, atI_c4, atI_c5]; (try walk_at "y")))
def NAMES : List Str := ["ma", "mb", "mc", "md", "me", "mf", "mg", "mh", "mi", "mj", "mk", "ml"]
/-! ### plain facts -/
theorem cutD_to {α : Type} (xs : List α) (n : Nat) : cutD xs none (some (n : Int)) = xs.take n := by
  unfold cutD
  rw [HT.sIx_nat, HT.sIx_none, List.drop_zero, Nat.sub_zero, ← List.take_eq_take_min]
theorem eqv_node (a b : Node) : D.eqv (nD a) (nD b) = decide (a = b) := by
  obtain ⟨x, i⟩ := a
  obtain ⟨y, j⟩ := b
  simp [D.eqv, nD, D.py, D.pys, PyData.eqv, PyData.eqvAll]
  by_cases h1 : x = y <;> by_cases h2 : i = j <;> simp [h1, h2]
theorem any_nodes (S : List Node) (nd : Node) : ((S.map nD).any fun z => D.eqv z (nD nd)) = decide (nd ∈ S) := by
  induction S with
  | nil => rfl
  | cons x S ih =>
    rw [List.map_cons, List.any_cons, ih, eqv_node]
    by_cases e : x = nd
    · subst e; simp
    · simp [e]
      exact fun z => absurd z.symm e
theorem oks_nodes {S : List Node} (h : ∀ a ∈ S, PyData.strOk a.1 = true) : D.oks 63 (S.map nD) = true := by
  rw [D.oks_all, List.all_eq_true]
  intro d hd
  obtain ⟨a, ha, rfl⟩ := List.mem_map.mp hd
  simp [nD, D.ok, D.oks, h a ha]
def putU (kvs : Uses) (m : Str) (us : List (Str × Int)) : Uses := if (kvs.any fun p => decide (p.1 = m)) = true then kvs.map (fun p => if p.1 = m then (m, us) else p) else kvs ++ [(m, us)]
theorem putD_art (kvs : Uses) (m : Str) (us : List (Str × Int)) : putD (artD kvs) (.inr m) (artV (m, us)) = artD (putU kvs m us) := by
  unfold putD putU artD
  rw [List.any_map]
  have e : ((fun kv : Key × D => decide (kv.1 = .inr m)) ∘ fun p : Str × List (Str × Int) => ((.inr p.1 : Key), artV p)) = fun p => decide (p.1 = m) := by funext p; simp
  rw [e]
  split
  · rw [List.map_map, List.map_map]
    apply List.map_congr_left
    intro p _
    by_cases h : p.1 = m
    · subst h; simp
    · simp [h]
  · rw [List.map_append]; rfl
theorem mem_putU {kvs : Uses} {m : Str} {us : List (Str × Int)} {p : Str × List (Str × Int)} (h : p ∈ putU kvs m us) : p ∈ kvs ∨ p = (m, us) := by
  unfold putU at h
  split at h
  · obtain ⟨q, hq, e⟩ := List.mem_map.mp h
    by_cases z : q.1 = m
    · rw [if_pos z] at e; exact .inr e.symm
    · rw [if_neg z] at e; exact .inl (e ▸ hq)
  · rcases List.mem_append.mp h with h | h
    · exact .inl h
    · exact .inr (List.mem_singleton.mp h)
theorem putU_keys {kvs : Uses} {m : Str} {us : List (Str × Int)} (h : (kvs.map (·.1)).Nodup) : ((putU kvs m us).map (·.1)).Nodup := by
  unfold putU
  split
  · have e : (kvs.map fun p => if p.1 = m then (m, us) else p).map (·.1) = kvs.map (·.1) := by
      rw [List.map_map]
      apply List.map_congr_left
      intro p _
      by_cases z : p.1 = m
      · simp [z]
      · simp [z]
    rw [e]; exact h
  · rename_i hn
    rw [List.map_append, List.map_cons, List.map_nil]
    refine List.nodup_append.mpr ⟨h, by simp, fun a ha b hb z => ?_⟩
    rw [List.mem_singleton.mp hb] at z
    obtain ⟨p, hp, rfl⟩ := List.mem_map.mp ha
    exact hn (List.any_eq_true.mpr ⟨p, hp, by simpa using z⟩)
theorem putU_length (kvs : Uses) (m : Str) (us : List (Str × Int)) : (putU kvs m us).length ≤ kvs.length + 1 := by
  unfold putU; split <;> simp
theorem getK_self : ∀ {kvs : List (Key × D)}, (kvs.map (·.1)).Nodup → ∀ p ∈ kvs, getK kvs p.1 = some p.2
  | q :: kvs, h, p, hp => by
    unfold getK
    rw [List.find?_cons]
    rw [List.map_cons, List.nodup_cons] at h
    rcases List.mem_cons.mp hp with rfl | hp
    · simp
    · have ne : ¬ q.1 = p.1 := fun z => h.1 (z ▸ List.mem_map_of_mem hp)
      simp only [ne, decide_false]
      exact getK_self h.2 p hp
theorem eqKvs_self {kvs : List (Key × D)} (h : (kvs.map (·.1)).Nodup) (ok : ∀ p ∈ kvs, D.ok 62 p.2 = true) : eqKvs kvs kvs = true := by
  unfold eqKvs
  rw [Bool.and_eq_true, List.all_eq_true]
  refine ⟨by simp, fun p hp => ?_⟩
  rw [getK_self h p hp]
  exact SeqAt.eqv_refl _ (D.ok_lay 62 _ (ok p hp)).1
def passN (kvs : Uses) : List Node → List Node → List Node
  | [], S => S
  | b :: T, S => passN kvs T (stepN b.2 (usesOf kvs b.1) (S, [])).1
theorem pass_spec (kvs : Uses) : ∀ (T S : List Node), ∃ A, passN kvs T S = S ++ A ∧ (S.Nodup → (S ++ A).Nodup) ∧ (∀ nd ∈ A, ∃ b ∈ T, ∃ ol ∈ usesOf kvs b.1, b.2 + ol.2 ≤ 3 ∧ nd = (ol.1, b.2 + ol.2)) ∧ ∀ b ∈ T, ∀ ol ∈ usesOf kvs b.1, b.2 + ol.2 ≤ 3 → (ol.1, b.2 + ol.2) ∈ S ++ A
  | [], S => ⟨[], by simp [passN], by simp, fun nd h => by (cases h), fun b h => by (cases h)⟩
  | b :: T, S => by
    obtain ⟨A, e, h1, h2, h3⟩ := stepN_spec b.2 (usesOf kvs b.1) S []
    obtain ⟨B, e', g1, g2, g3⟩ := pass_spec kvs T (S ++ A)
    refine ⟨A ++ B, by rw [passN, e, e', List.append_assoc], fun hn => by rw [← List.append_assoc]; exact g1 (h1 hn), fun nd hnd => ?_, fun c hc ol ho hl => ?_⟩
    · rcases List.mem_append.mp hnd with hnd | hnd
      · obtain ⟨ol, x1, x2, x3⟩ := h2 nd hnd
        exact ⟨b, List.mem_cons_self, ol, x1, x2, x3⟩
      · obtain ⟨c, hc, r⟩ := g2 nd hnd
        exact ⟨c, List.mem_cons_of_mem _ hc, r⟩
    · rw [← List.append_assoc]
      rcases List.mem_cons.mp hc with rfl | hc
      · exact List.mem_append.mpr (.inl (h3 ol ho hl))
      · exact g3 c hc ol ho hl
theorem strOk_names : ∀ s ∈ NAMES ++ (["mx", "my"] : List Str), PyData.strOk s = true := by decide +kernel
section
variable {Fs : TF}
abbrev bL (f : TF → TF → TF → TF → TSX) (Fs : TF) : TSX := f F_draws F_take F_reach Fs
/-- the inmost loop of due -/
theorem loop_law5 {P : EndP} {s0 s1 s2 s3 s4 s5 s6 s7 s9 s10 s14 : Sl} {sh : Int} {U : List Str} (hs : ∀ s ∈ U, PyData.strOk s = true) : ∀ (us : List (Str × Int)) (S W : List Node) (s12 s13 : Sl), (∀ a ∈ S, a.1 ∈ U) → (∀ ol ∈ us, ol.1 ∈ U) → S.length + us.length ≤ 100000 →
    (∀ s12 s13, P.nx [s0, s1, s2, s3, s4, s5, s6, s7, .lo (.ls ((stepN sh us (S, W)).1.map nD)), s9, s10, .lo (.im (.int sh)), s12, s13, s14]) →
    loopS (.many [12, 13]) (bL b_law_5 Fs) (fun _ => True) P (us.map uD) [s0, s1, s2, s3, s4, s5, s6, s7, .lo (.ls (S.map nD)), s9, s10, .lo (.im (.int sh)), s12, s13, s14] := by
  intro us
  induction us with
  | nil => intro S W s12 s13 _ _ _ q; exact ⟨trivial, q s12 s13⟩
  | cons ol us ih =>
    intro S W s12 s13 hS hus hl q
    refine loop_step trivial fun L hL => ?_
    unfold bL b_law_5 uD
    walk_at "y"
    refine ⟨rfl, ?_⟩
    have skip : ¬ (sh + ol.2 ≤ 3 ∧ (ol.1, sh + ol.2) ∉ S) → L [s0, s1, s2, s3, s4, s5, s6, s7, .lo (.ls (S.map nD)), s9, s10, .lo (.im (.int sh)), .lo (.im (.str ol.1)), .lo (.im (.int ol.2)), s14] := fun hc => by
      rw [hL]
      refine ih S W _ _ hS (fun o ho => hus o (List.mem_cons_of_mem _ ho)) (by simp at hl; omega) fun t7 t8 => ?_
      have := q t7 t8
      rw [stepN, if_neg hc] at this
      exact this
    have ho := hus ol List.mem_cons_self
    by_cases h3 : sh + ol.2 ≤ 3
    · rw [if_pos (by simp; omega)]
      refine ⟨by rw [sizeLine_eq]; omega, ok_node (a := (ol.1, sh + ol.2)) (hs _ ho), oks_nodes fun a ha => hs _ (hS a ha), ?_⟩
      rw [show ((S.map nD).any fun z => z.eqv (D.tup [D.str ol.fst, D.int (sh + ol.snd)])) = decide ((ol.1, sh + ol.2) ∈ S) from any_nodes S (ol.1, sh + ol.2), Bool.true_xor]
      by_cases hm : (ol.1, sh + ol.2) ∈ S
      · rw [if_neg (by simp [hm])]
        exact skip fun z => z.2 hm
      · rw [if_pos (by simp [hm])]
        refine ⟨trivial, by rw [sizeLine_eq]; omega, by rw [List.length_map, sizeLine_eq]; simp at hl; omega, ?_⟩
        rw [show List.map nD S ++ [D.tup [D.str ol.fst, D.int (sh + ol.snd)]] = (S ++ [(ol.1, sh + ol.2)]).map nD by simp [nD], hL]
        refine ih (S ++ [(ol.1, sh + ol.2)]) (W ++ [(ol.1, sh + ol.2)]) _ _ (fun a ha => ?_) (fun o ho => hus o (List.mem_cons_of_mem _ ho)) (by simp at hl ⊢; omega) fun t7 t8 => ?_
        · rcases List.mem_append.mp ha with ha | ha
          · exact hS a ha
          · rw [List.mem_singleton.mp ha]; exact ho
        · have := q t7 t8
          rw [stepN, if_pos ⟨h3, hm⟩] at this
          exact this
    · rw [if_neg (by simp; omega), if_neg (by decide)]
      exact skip fun z => h3 z.1

/-- one walk over what is due -/
theorem loop_law4 {P : EndP} {s0 s1 s2 s4 s5 s6 s7 s9 s14 : Sl} {kvs : Uses} {U : List Str} (hU : UsesOk kvs U) (hs : ∀ s ∈ U, PyData.strOk s = true) : ∀ (T S : List Node) (s10 s11 s12 s13 : Sl), (∀ a ∈ T, a.1 ∈ U) → (∀ a ∈ S, a ∈ univ U) → S.Nodup → (∀ a ∈ T, a ∈ univ U) → 4 * U.length ≤ 1000 →
    (∀ s10 s11 s12 s13, P.nx [s0, s1, s2, .lo (.dk (artD kvs)), s4, s5, s6, s7, .lo (.ls ((passN kvs T S).map nD)), s9, s10, s11, s12, s13, s14]) →
    loopS (.many [10, 11]) (bL b_law_4 Fs) (fun _ => True) P (T.map nD) [s0, s1, s2, .lo (.dk (artD kvs)), s4, s5, s6, s7, .lo (.ls (S.map nD)), s9, s10, s11, s12, s13, s14] := by
  intro T
  induction T with
  | nil => intro S s10 s11 s12 s13 _ _ _ _ _ q; exact ⟨trivial, q s10 s11 s12 s13⟩
  | cons b T ih =>
    intro S s10 s11 s12 s13 hT hS hSn hTu hUl q
    refine loop_step trivial fun L hL => ?_
    have huo := usesOf_ok hU b.1
    unfold bL b_law_4 nD
    walk_at "y"
    refine ⟨rfl, ?_⟩
    rw [getK_art]
    have hSl : S.length ≤ 1000 := by have := nodup_le hSn hS; rw [univ_length] at this; omega
    have fin : loopS (.many [12, 13]) (bL b_law_5 Fs) (fun _ => True) { nx := L, rt := P.rt, bk := P.nx, ct := L } ((usesOf kvs b.1).map uD) [s0, s1, s2, .lo (.dk (artD kvs)), s4, s5, s6, s7, .lo (.ls (S.map nD)), s9, .lo (.im (.str b.1)), .lo (.im (.int b.2)), s12, s13, s14] := by
      refine loop_law5 hs _ S [] _ _ (fun a ha => (mem_univ.mp (hS a ha)).1) (fun o ho => (huo.2 o ho).1) (by omega) fun t12 t13 => ?_
      obtain ⟨A, e, h1, h2, h3⟩ := stepN_spec b.2 (usesOf kvs b.1) S []
      dsimp only
      rw [hL]
      have hb := mem_univ.mp (hTu b List.mem_cons_self)
      refine ih _ _ _ _ _ (fun a ha => hT a (List.mem_cons_of_mem _ ha)) (fun a ha => ?_) (by rw [e]; exact h1 hSn) (fun a ha => hTu a (List.mem_cons_of_mem _ ha)) hUl fun t10 t11 t12 t13 => q t10 t11 t12 t13
      rw [e] at ha
      rcases List.mem_append.mp ha with ha | ha
      · exact hS a ha
      · obtain ⟨ol, x1, x2, rfl⟩ := h2 a ha
        have := huo.2 ol x1
        exact mem_univ.mpr ⟨this.1, by show 0 ≤ b.2 + ol.2; omega, x2⟩
    unfold usesOf at fin
    cases hf : kvs.find? (fun p => decide (p.1 = b.1)) with
    | none =>
      rw [hf] at fin
      rw [if_neg (by simp)]
      exact ⟨by rw [sizeLine_eq]; omega, fin⟩
    | some p =>
      rw [hf] at fin
      rw [if_pos (by simp)]
      exact fin
/-- what is due, all told -/
theorem loop_law3 {P : EndP} {s0 s1 s2 s4 s5 s6 s7 s14 : Sl} {kvs : Uses} {U : List Str} {a : Node} (hU : UsesOk kvs U) (hs : ∀ s ∈ U, PyData.strOk s = true) (hl : 4 * U.length ≤ 1000) (ha : a ∈ univ U) : ∀ (n : Nat) (lo : Int) (S : List Node) (s9 s10 s11 s12 s13 : Sl), S.Nodup → a ∈ S → (∀ nd ∈ S, Rch kvs a nd) →
    (ClosedN kvs S ∨ 4 * U.length < n + S.length) →
    (∀ (S : List Node) (s9 s10 s11 s12 s13 : Sl), S.Nodup → (∀ nd, nd ∈ S ↔ Rch kvs a nd) → P.nx [s0, s1, s2, .lo (.dk (artD kvs)), s4, s5, s6, s7, .lo (.ls (S.map nD)), s9, s10, s11, s12, s13, s14]) →
    loopS (.one 9) (bL b_law_3 Fs) (fun _ => True) P (gRng lo n) [s0, s1, s2, .lo (.dk (artD kvs)), s4, s5, s6, s7, .lo (.ls (S.map nD)), s9, s10, s11, s12, s13, s14] := by
  intro n
  induction n with
  | zero =>
    intro lo S s9 s10 s11 s12 s13 hS haS hr hc q
    have hSl : S.length ≤ 4 * U.length := by rw [← univ_length]; exact nodup_le hS fun b hb => rch_univ hU ha (hr b hb)
    have cl : ClosedN kvs S := hc.elim id fun z => by omega
    exact ⟨trivial, q S _ _ _ _ _ hS fun nd => ⟨hr nd, closed_all cl haS⟩⟩
  | succ n ih =>
    intro lo S s9 s10 s11 s12 s13 hS haS hr hc q
    rw [gRng_succ]
    refine loop_step trivial fun L hL => ?_
    have hu : ∀ b ∈ S, b ∈ univ U := fun b hb => rch_univ hU ha (hr b hb)
    unfold bL b_law_3
    walk_at "y"
    refine loop_law4 hU hs S S _ _ _ _ (fun b hb => (mem_univ.mp (hu b hb)).1) hu hS hu hl fun t10 t11 t12 t13 => ?_
    obtain ⟨A, e, h1, h2, h3⟩ := pass_spec kvs S S
    rw [e]
    dsimp only
    rw [hL]
    have hr' : ∀ b ∈ S ++ A, Rch kvs a b := fun b hb => by
      rcases List.mem_append.mp hb with hb | hb
      · exact hr b hb
      · obtain ⟨c, hc, ol, x1, x2, rfl⟩ := h2 b hb
        exact .step (hr c hc) x1 x2
    refine ih _ _ _ _ _ _ _ (h1 hS) (List.mem_append.mpr (.inl haS)) hr' ?_ q
    cases A with
    | nil =>
      rw [List.append_nil] at h3 ⊢
      exact .inl h3
    | cons x A =>
      rcases hc with hc | hc
      · obtain ⟨c, hcS, ol, x1, x2, hx⟩ := h2 x List.mem_cons_self
        have hxS : x ∈ S := hx ▸ hc c hcS ol x1 x2
        exact absurd rfl ((List.nodup_append.mp (h1 hS)).2.2 x hxS x List.mem_cons_self)
      · exact .inr (by simp; omega)
end
end Y
namespace Y
set_option hygiene false
open PySem PySem.Spec L2
local macro_rules | `(tactic| walk_at "y") => `(tactic| dsimp only [sNil, sBk, sCt, sDrop, sIf, asg, sAsg, sRet, sRetN, tIm, tNm, tBin, w2, vw, Sl.m?, tTst, tTru, M.tru, tAndQ, tOrQ, tNotQ, tAndX, tOrX, tNotX, tIfX, lNil, lCons, tFrz, froz, tTp, tLs, tCl, vws, tMt, Sl.m!, Sl.up, M.res, gLen, gInt, gAdd, gSub, gMul, gDiv, gMod, gPow, gII, gI0, gEqs, gEqs2, gIx, gPop, gApp, gRev, gExt, gTuple, gList, gDict, gIs, gIsi, gAll, gIns, gSorted, gSl, M.lq?, M.lst?, M.sq?, M.dat?, M.isNon, gLt, gLe, gGt, gGe, sFor, iSeq, srcOf, iEnm, enmOf, iRg1, iRg2, bnd, setAll, backS, Sl.isP, tSlc, pNo, pSo, sSetI, hasM, setM, tDspK, tDspT, pairG, D.key?, D.keys?, D.tkey?, putAll, tNewK, tNewT, tNeg, sUnp, tCall, argMs, argM, argS, slots, putB, stepB, putS_lo_ls_ls, putS_lo_ls_dk, putS_lo_ls_dt, putS_lo_ls_no, putS_pa_ls_ls, putS_pa_ls_dk, putS_pa_ls_dt, putS_pa_ls_no, putS_lo_rd_ls, putS_lo_rd_dk, putS_lo_rd_dt, putS_lo_rd_no, putS_pa_rd_ls, putS_pa_rd_dk, putS_pa_rd_dt, putS_pa_rd_no, putS_lo_dk_ls, putS_lo_dk_dk, putS_lo_dk_dt, putS_lo_dk_no, putS_pa_dk_ls, putS_pa_dk_dk, putS_pa_dk_dt, putS_pa_dk_no, putS_lo_dt_ls, putS_lo_dt_dk, putS_lo_dt_dt, putS_lo_dt_no, putS_pa_dt_ls, putS_pa_dt_dk, putS_pa_dt_dt, putS_pa_dt_no, putS_lo_im, putS_lo_sq, putS_pa_im, putS_pa_sq, M.own, M.fit, fins, Sl.fin, envOf, tLcX, compL, wipeE, restE, keepS, qYes, kD, dGet, List.getElem?_cons_zero, List.getElem?_cons_succ, List.getElem?_nil, List.set_cons_zero, List.set_cons_succ, List.map_cons, List.map_nil, List.take_succ_cons, List.take_zero, List.length_cons, List.length_nil, List.head?_cons, List.tail_cons, Option.join_some, List.cons_append, List.nil_append, List.replicate])
local macro_rules | `(tactic| walk_at "n") => `(tactic| ((try dsimp only); refine seq_step fun R hR => ?_; walk_at "y"))
local macro_rules | `(tactic| walk_at "i") => `(tactic| simp only [Bool.false_xor, Bool.true_xor, Bool.not_true, Bool.not_false, Bool.false_eq_true, reduceIte, isiT, M.ty, String.reduceBEq, Bool.or_false, Bool.false_or, Bool.and_false, Bool.and_true, Bool.true_and, Bool.false_and, Bool.or_true, List.mem_cons, true_or, or_true, true_and, and_true, String.reduceEq, decide_true, decide_false])
local macro_rules | `(tactic| walk_at "s") => `(tactic| (subst hR; walk_at "n"))
local macro_rules | `(tactic| walk_at "z") => `(tactic| (simp only [List.map_cons, List.map_nil, atI_c0, atI_c1, atI_c2, atI_c3, atI_c4, atI_c5]; (try walk_at "y")))
section
variable {Fs : TF}
abbrev MXY : List Str := ["mx", "my"]
def UsOk (us : List (Str × Int)) (U : List Str) : Prop := ∀ ol ∈ us, ol.1 ∈ U ∧ 0 ≤ ol.2 ∧ ol.2 ≤ 3
theorem loop_law2 {P : EndP} {s0 s3 s7 s8 s9 s10 s11 s12 s13 s14 : Sl} {nms : List Str} {k : Nat} (hk : k < nms.length) (hN : nms.length ≤ 12) : ∀ (n : Nat) (lo : Int) (ds : List Int) (us : List (Str × Int)) (s6 : Sl), DrawsOk ds → UsOk us (nms ++ MXY) → us.length + n ≤ 1000 →
    (∀ (ds : List Int) (us' : List (Str × Int)) (s6 : Sl), DrawsOk ds → UsOk us' (nms ++ MXY) → us'.length ≤ us.length + n → P.nx [s0, .lo (.ls (ds.map D.int)), .lo (.ls (nms.map D.str)), s3, .lo (.im (.int k)), .lo (.ls (us'.map uD)), s6, s7, s8, s9, s10, s11, s12, s13, s14]) →
    loopS (.one 6) (bL b_law_2 Fs) (fun _ => True) P (gRng lo n) [s0, .lo (.ls (ds.map D.int)), .lo (.ls (nms.map D.str)), s3, .lo (.im (.int k)), .lo (.ls (us.map uD)), s6, s7, s8, s9, s10, s11, s12, s13, s14] := by
  intro n
  induction n with
  | zero => intro lo ds us s6 hd hu hl q; exact ⟨trivial, q ds us s6 hd hu (by omega)⟩
  | succ n ih =>
    intro lo ds us s6 hd hu hl q
    rw [gRng_succ]
    refine loop_step trivial fun L hL => ?_
    unfold bL b_law_2
    walk_at "y"
    refine ⟨trivial, by rw [sizeLine_eq]; omega, ?_⟩
    rw [cutD_to, ← List.map_take]
    refine ⟨by rw [sizeLine_eq]; simp; omega, rfl, by simp, ds, (k : Int) + 2, rfl, by omega, hd, fun r ds1 r0 r1 hd1 _ => ⟨rfl, ?_⟩⟩
    walk_at "y"
    have e1 : (nms.take k).map D.str ++ [D.str "mx", D.str "my"] = (nms.take k ++ MXY).map D.str := by simp
    rw [e1, atI_map]
    obtain ⟨nm, hnm, hnm2⟩ := atI_ok (xs := nms.take k ++ MXY) r0 (by simp; omega)
    rw [hnm]
    refine ⟨by rw [sizeLine_eq]; omega, rfl, by simp, ds1, 5, rfl, by omega, hd1, fun r2 ds2 q0 q1 hd2 _ => ⟨rfl, ?_⟩⟩
    walk_at "y"
    have hnU : nm ∈ nms ++ MXY := by
      rcases List.mem_append.mp (List.mem_of_getElem? hnm2) with h | h
      · exact List.mem_append.mpr (.inl (List.mem_of_mem_take h))
      · exact List.mem_append.mpr (.inr h)
    obtain ⟨l, hl0, hl1, hl2⟩ : ∃ l : Int, atI [D.int 0, D.int 0, D.int 1, D.int 2, D.int 3] r2 = some (D.int l) ∧ 0 ≤ l ∧ l ≤ 3 := by
      obtain h | h | h | h | h : r2 = 0 ∨ r2 = 1 ∨ r2 = 2 ∨ r2 = 3 ∨ r2 = 4 := by omega
      · subst h; exact ⟨0, rfl, by omega, by omega⟩
      · subst h; exact ⟨0, rfl, by omega, by omega⟩
      · subst h; exact ⟨1, rfl, by omega, by omega⟩
      · subst h; exact ⟨2, rfl, by omega, by omega⟩
      · subst h; exact ⟨3, rfl, by omega, by omega⟩
    rw [hl0]
    refine ⟨by rw [sizeLine_eq]; omega, by rw [List.length_map, sizeLine_eq]; omega, ?_⟩
    rw [show us.map uD ++ [D.tup [D.str nm, D.int l]] = (us ++ [(nm, l)]).map uD by simp [uD], hL]
    refine ih _ ds2 (us ++ [(nm, l)]) _ hd2 (fun o ho => ?_) (by simp; omega) fun d' u' t6 g1 g2 g3 => q d' u' t6 g1 g2 (by simp at g3; omega)
    rcases List.mem_append.mp ho with ho | ho
    · exact hu o ho
    · rw [List.mem_singleton.mp ho]; exact ⟨hnU, hl1, hl2⟩
theorem loop_law1 {P : EndP} {s0 s7 s8 s9 s10 s11 s12 s13 s14 : Sl} {nms : List Str} (hN : nms.length ≤ 12) : ∀ (n lo : Nat) (ds : List Int) (kvs : Uses) (s4 s5 s6 : Sl), lo + n = nms.length → DrawsOk ds → UsesOk kvs (nms ++ MXY) → (kvs.map (·.1)).Nodup → kvs.length ≤ lo → (∀ p ∈ kvs, p.1 ∈ nms) →
    (∀ (ds : List Int) (kvs : Uses) (s4 s5 s6 : Sl), DrawsOk ds → UsesOk kvs (nms ++ MXY) → (kvs.map (·.1)).Nodup → kvs.length ≤ 12 → (∀ p ∈ kvs, p.1 ∈ nms) → P.nx [s0, .lo (.ls (ds.map D.int)), .lo (.ls (nms.map D.str)), .lo (.dk (artD kvs)), s4, s5, s6, s7, s8, s9, s10, s11, s12, s13, s14]) →
    loopS (.one 4) (bL b_law_1 Fs) (fun _ => True) P (gRng lo n) [s0, .lo (.ls (ds.map D.int)), .lo (.ls (nms.map D.str)), .lo (.dk (artD kvs)), s4, s5, s6, s7, s8, s9, s10, s11, s12, s13, s14] := by
  intro n
  induction n with
  | zero => intro lo ds kvs s4 s5 s6 h1 h2 h3 h4 h5 h6 q; exact ⟨trivial, q ds kvs s4 s5 s6 h2 h3 h4 (by omega) h6⟩
  | succ n ih =>
    intro lo ds kvs s4 s5 s6 h1 h2 h3 h4 h5 h6 q
    rw [gRng_succ]
    refine loop_step trivial fun L hL => ?_
    unfold bL b_law_1
    walk_at "y"
    walk_at "n"
    refine ⟨by rw [sizeLine_eq]; omega, ?_⟩
    subst hR
    walk_at "n"
    refine ⟨rfl, by simp, ds, 5, rfl, by omega, h2, fun r ds1 r0 r1 hd1 _ => ⟨rfl, ?_⟩⟩
    walk_at "y"
    refine ⟨by omega, by omega, ?_⟩
    refine loop_law2 (k := lo) (us := []) (by omega) hN _ _ ds1 _ hd1 (fun o ho => by cases ho) (by simp; omega) fun ds2 us t6 hd2 hus hul => ?_
    subst hR
    walk_at "y"
    refine ⟨rfl, by simp, ds2, 9, rfl, by omega, hd2, fun r2 ds3 q0 q1 hd3 _ => ⟨rfl, ?_⟩⟩
    walk_at "y"
    obtain ⟨nm, hnm, hnm2⟩ := atI_ok (xs := nms) (i := (lo : Int)) (by omega) (by omega)
    have hmem : nm ∈ nms := List.mem_of_getElem? hnm2
    have nx : ∀ (kvs' : Uses) (t3 t5 t6 : Sl), UsesOk kvs' (nms ++ MXY) → (kvs'.map (·.1)).Nodup → kvs'.length ≤ lo + 1 → (∀ p ∈ kvs', p.1 ∈ nms) →
        L [s0, .lo (.ls (ds3.map D.int)), .lo (.ls (nms.map D.str)), .lo (.dk (artD kvs')), t3, t5, t6, s7, s8, s9, s10, s11, s12, s13, s14] := fun kvs' t3 t5 t6 g1 g2 g3 g4 => by
      rw [hL]
      exact ih (lo + 1) ds3 kvs' t3 t5 t6 (by omega) hd3 g1 g2 g3 g4 q
    by_cases hr2 : 0 < r2
    · rw [if_pos (by simpa using hr2), atI_map, hnm]
      refine ⟨by omega, by omega, by omega, by rw [sizeLine_eq]; omega, trivial, ?_⟩
      refine ⟨by unfold artD; rw [List.length_map, sizeLine_eq]; omega, ?_⟩
      rw [show D.tup [D.str (Str.ofString "module"), D.str nm, D.tup (us.map uD), D.tup [], D.tup [], D.tup []] = artV (nm, us) from rfl, putD_art]
      refine nx _ _ _ _ (fun p hp => ?_) (putU_keys h4) (by have := putU_length kvs nm us; omega) (fun p hp => ?_)
      · rcases mem_putU hp with hp | rfl
        · exact h3 p hp
        · exact ⟨by show us.length ≤ 1000; simp at hul; omega, hus⟩
      · rcases mem_putU hp with hp | rfl
        · exact h6 p hp
        · exact hmem
    · rw [if_neg (by simpa using hr2)]
      exact nx kvs _ _ _ h3 h4 (by omega) h6
end

def F_law : TF := fun ms G => ∃ ns : List Int, ms = [.sq (ns.map D.int)] ∧ ns.length ≤ 1000000 ∧ ∀ fin, G (.im (.bl true)) fin
theorem strOk_sub {nms : List Str} (h : ∀ s ∈ nms, s ∈ NAMES) : ∀ s ∈ nms ++ MXY, PyData.strOk s = true := fun s hs => by
  rcases List.mem_append.mp hs with hs | hs
  · exact strOk_names s (List.mem_append.mpr (.inl (h s hs)))
  · exact strOk_names s (List.mem_append.mpr (.inr hs))
theorem artD_keys {kvs : Uses} (h : (kvs.map (·.1)).Nodup) : ((artD kvs).map (·.1)).Nodup := by
  unfold artD List.Nodup at *
  rw [List.map_map, List.pairwise_map]
  rw [List.pairwise_map] at h
  exact h.imp fun {a b} hab z => hab (Sum.inr.inj z)
theorem ok_artV {p : Str × List (Str × Int)} (h1 : PyData.strOk p.1 = true) (h2 : ∀ ol ∈ p.2, PyData.strOk ol.1 = true) : D.ok 62 (artV p) = true := by
  have e : D.oks 60 (p.2.map uD) = true := by
    rw [D.oks_all, List.all_eq_true]
    intro d hd
    obtain ⟨a, ha, rfl⟩ := List.mem_map.mp hd
    simp [uD, D.ok, D.oks, h2 a ha]
  have e2 : PyData.strOk (Str.ofString "module") = true := by decide +kernel
  simp [artV, D.ok, D.oks, h1, e, e2]
theorem sane_nodes {S : List Node} (h : S.length ≤ 100000) : D.sane 3 (.lst (sortD (S.map nD))) = true := by
  have e : (sortD (S.map nD)).length = S.length := by unfold sortD; rw [List.length_mergeSort, List.length_map]
  simp only [D.sane, e, D.sanes_all, Bool.and_eq_true, decide_eq_true_eq, List.all_eq_true]
  refine ⟨h, fun d hd => ?_⟩
  obtain ⟨a, _, rfl⟩ := List.mem_map.mp (List.mem_mergeSort.mp hd)
  simp [nD, D.sane, D.sanes]
theorem body_law : Body F_law 15 1 (t_law F_draws F_take F_reach (F_same 3)) := by
  rintro ms G hl ⟨ns, rfl, hns, q⟩
  show t_law _ _ _ _ _ [Sl.pa (.sq (ns.map D.int)), .no, .no, .no, .no, .no, .no, .no, .no, .no, .no, .no, .no, .no, .no]
  unfold t_law
  walk_at "n"
  refine ⟨rfl, by simp, ns, 300, rfl, by omega, hns, fun ds hd hdl => ⟨rfl, ?_⟩⟩
  walk_at "y"
  subst hR
  walk_at "n"
  refine ⟨by rw [sizeLine_eq]; omega, rfl, by simp, ds, 12, rfl, by omega, hd, fun r ds1 r0 r1 hd1 _ => ⟨rfl, ?_⟩⟩
  walk_at "y"
  obtain ⟨n, rfl⟩ := Int.eq_ofNat_of_zero_le r0
  have hcut : cutD (NAMES.map D.str) none (some (1 + (n : Int))) = (NAMES.take (1 + n)).map D.str := by
    rw [show (1 + (n : Int)) = ((1 + n : Nat) : Int) by omega, cutD_to, List.map_take]
  rw [show ([D.str (Str.ofString "ma"), D.str (Str.ofString "mb"), D.str (Str.ofString "mc"), D.str (Str.ofString "md"), D.str (Str.ofString "me"), D.str (Str.ofString "mf"), D.str (Str.ofString "mg"), D.str (Str.ofString "mh"), D.str (Str.ofString "mi"), D.str (Str.ofString "mj"), D.str (Str.ofString "mk"), D.str (Str.ofString "ml")]) = NAMES.map D.str from rfl, hcut]
  have hnN : ∀ s ∈ NAMES.take (1 + n), s ∈ NAMES := fun s h => List.mem_of_mem_take h
  have hnl : (NAMES.take (1 + n)).length = 1 + n := by rw [List.length_take]; have : NAMES.length = 12 := rfl; omega
  generalize NAMES.take (1 + n) = nms at hnN hnl
  have hs := strOk_sub hnN
  subst hR
  walk_at "n"
  subst hR
  walk_at "n"
  rw [List.length_map]
  refine ⟨by omega, by omega, ?_⟩
  refine loop_law1 (Fs := F_same 3) (kvs := []) (by omega) _ 0 ds1 _ _ _ (by simp) hd1 (fun p h => by cases h) (by simp) (by simp) (fun p h => by cases h) fun ds2 kvs t4 t5 t6 hd2 hU hkn hkl hkm => ?_
  subst hR
  walk_at "n"
  refine ⟨by rw [sizeLine_eq]; omega, by rw [List.length_map, sizeLine_eq]; simp; omega, rfl, by simp, ds2, (nms.map D.str).length + 1, rfl, by omega, hd2, fun r ds3 r0 r1 hd3 _ => ⟨rfl, ?_⟩⟩
  walk_at "y"
  rw [List.length_map] at r1
  rw [show nms.map D.str ++ [D.str (Str.ofString "mx")] = (nms ++ (["mx"] : List Str)).map D.str by simp, atI_map]
  obtain ⟨mn, hmn, hmn2⟩ := atI_ok (xs := nms ++ (["mx"] : List Str)) r0 (by simp; omega)
  rw [hmn]
  have hmU : mn ∈ nms ++ MXY := by
    rcases List.mem_append.mp (List.mem_of_getElem? hmn2) with h | h
    · exact List.mem_append.mpr (.inl h)
    · exact List.mem_append.mpr (.inr (by rw [List.mem_singleton.mp h]; simp))
  have hUl : (nms ++ MXY).length = n + 3 := by simp; omega
  have hau : ((mn, 0) : Node) ∈ univ (nms ++ MXY) := mem_univ.mpr ⟨hmU, Int.le_refl 0, by show (0 : Int) ≤ 3; decide⟩
  show R _
  subst hR
  walk_at "n"
  refine ⟨by rw [sizeLine_eq]; omega, by rw [sizeLine_eq]; omega, ?_⟩
  rw [show [D.tup [D.str mn, D.int 0]] = [((mn, 0) : Node)].map nD from rfl]
  subst hR
  walk_at "n"
  rw [List.length_map]
  refine ⟨cMul (by omega) (by omega), by omega, by omega, ?_⟩
  refine loop_law3 (Fs := F_same 3) hU hs (by omega) hau _ _ _ _ _ _ _ _ (by simp) (by simp) (fun nd h => by rw [List.mem_singleton.mp h]; exact .refl) (.inr (by simp; omega)) fun S t9 t10 t11 t12 t13 hS hSr => ?_
  subst hR
  walk_at "n"
  subst hR
  walk_at "y"
  refine ⟨rfl, by simp, kvs, mn, nms ++ MXY, rfl, hU, by omega, hs, hmU, fun S' hS' hSr' => ⟨rfl, ?_⟩⟩
  walk_at "y"
  have hSu : ∀ b ∈ S, b ∈ univ (nms ++ MXY) := fun b hb => rch_univ hU hau ((hSr b).mp hb)
  have hSl : S.length ≤ 4 * (n + 3) := by rw [← hUl, ← univ_length]; exact nodup_le hS hSu
  refine ⟨canSort_nodes fun b hb => hs _ (mem_univ.mp (hSu b hb)).1, rfl, by simp, .ls (sortD (S.map nD)), ?_, sane_nodes (by omega), fun fin => ⟨rfl, ?_⟩⟩
  · rw [sort_nodes hS' hS fun b => (hSr' b).trans (hSr b).symm]
  · have okk : ∀ p ∈ artD kvs, D.ok 62 p.2 = true := fun p hp => by
      obtain ⟨x, hx, rfl⟩ := List.mem_map.mp hp
      exact ok_artV (hs _ (List.mem_append.mpr (.inl (hkm x hx)))) fun ol ho => hs _ ((hU x hx).2 ol ho).1
    walk_at "y"
    refine ⟨okk, okk, rfl, ?_⟩
    rw [eqKvs_self (artD_keys hkn) okk]
    exact q _
end Y
namespace Y
set_option hygiene false
open PySem PySem.Spec L2
local macro_rules | `(tactic| walk_at "y") => `(tactic| dsimp only [sNil, sBk, sCt, sDrop, sIf, asg, sAsg, sRet, sRetN, tIm, tNm, tBin, w2, vw, Sl.m?, tTst, tTru, M.tru, tAndQ, tOrQ, tNotQ, tAndX, tOrX, tNotX, tIfX, lNil, lCons, tFrz, froz, tTp, tLs, tCl, vws, tMt, Sl.m!, Sl.up, M.res, gLen, gInt, gAdd, gSub, gMul, gDiv, gMod, gPow, gII, gI0, gEqs, gEqs2, gIx, gPop, gApp, gRev, gExt, gTuple, gList, gDict, gIs, gIsi, gAll, gIns, gSorted, gSl, M.lq?, M.lst?, M.sq?, M.dat?, M.isNon, gLt, gLe, gGt, gGe, sFor, iSeq, srcOf, iEnm, enmOf, iRg1, iRg2, bnd, setAll, backS, Sl.isP, tSlc, pNo, pSo, sSetI, hasM, setM, tDspK, tDspT, pairG, D.key?, D.keys?, D.tkey?, putAll, tNewK, tNewT, tNeg, sUnp, tCall, argMs, argM, argS, slots, putB, stepB, putS_lo_ls_ls, putS_lo_ls_dk, putS_lo_ls_dt, putS_lo_ls_no, putS_pa_ls_ls, putS_pa_ls_dk, putS_pa_ls_dt, putS_pa_ls_no, putS_lo_rd_ls, putS_lo_rd_dk, putS_lo_rd_dt, putS_lo_rd_no, putS_pa_rd_ls, putS_pa_rd_dk, putS_pa_rd_dt, putS_pa_rd_no, putS_lo_dk_ls, putS_lo_dk_dk, putS_lo_dk_dt, putS_lo_dk_no, putS_pa_dk_ls, putS_pa_dk_dk, putS_pa_dk_dt, putS_pa_dk_no, putS_lo_dt_ls, putS_lo_dt_dk, putS_lo_dt_dt, putS_lo_dt_no, putS_pa_dt_ls, putS_pa_dt_dk, putS_pa_dt_dt, putS_pa_dt_no, putS_lo_im, putS_lo_sq, putS_pa_im, putS_pa_sq, M.own, M.fit, fins, Sl.fin, envOf, tLcX, compL, wipeE, restE, keepS, qYes, kD, dGet, List.getElem?_cons_zero, List.getElem?_cons_succ, List.getElem?_nil, List.set_cons_zero, List.set_cons_succ, List.map_cons, List.map_nil, List.take_succ_cons, List.take_zero, List.length_cons, List.length_nil, List.head?_cons, List.tail_cons, Option.join_some, List.cons_append, List.nil_append, List.replicate])
local macro_rules | `(tactic| walk_at "n") => `(tactic| ((try dsimp only); refine seq_step fun R hR => ?_; walk_at "y"))
local macro_rules | `(tactic| walk_at "i") => `(tactic| simp only [Bool.false_xor, Bool.true_xor, Bool.not_true, Bool.not_false, Bool.false_eq_true, reduceIte, isiT, M.ty, String.reduceBEq, Bool.or_false, Bool.false_or, Bool.and_false, Bool.and_true, Bool.true_and, Bool.false_and, Bool.or_true, List.mem_cons, true_or, or_true, true_and, and_true, String.reduceEq, decide_true, decide_false])
local macro_rules | `(tactic| walk_at "s") => `(tactic| (subst hR; walk_at "n"))
local macro_rules | `(tactic| walk_at "z") => `(tactic| (simp only [List.map_cons, List.map_nil, atI_c0, atI_c1, atI_c2, atI_c3, atI_c4, atI_c5]; (try walk_at "y")))
theorem law_start (ns : List Int) (G : M → List (Option M) → Prop) (h : ns.length ≤ 63) (q : ∀ fin, G (.im (.bl true)) fin) : F_law [.sq (ns.map D.int)] G := ⟨ns, rfl, by omega, q⟩
theorem law_all {Pg : Program} {w : World} {K : PySem.W.Frag} {mg : Str → Option Value} {base : Heap} (T : Top K mg) : FnD Pg w K mg base T.D_law 65 F_law := by
  have g1 : FnD Pg w K mg base T.D__law_draws 1 F_draws := go__law_draws T body_draws
  have g2 : FnD Pg w K mg base T.D__law_take 1 F_take := go__law_take T body_take
  have g3 : FnD Pg w K mg base T.D_reach 1 F_reach := go_reach T body_reach
  have s0 : FnD Pg w K mg base T.D__law_same 0 (F_same 0) := fn_never fun ms G ⟨m, _, h, _⟩ => by
    cases m with
    | im d => simp [D.sane] at h
    | ls ds => simp [D.sane] at h
    | _ => exact h.elim
  have s1 : FnD Pg w K mg base T.D__law_same 1 (F_same 1) := go__law_same T s0 (Nat.le_refl _) (body_same 0)
  have s2 : FnD Pg w K mg base T.D__law_same 2 (F_same 2) := go__law_same T s1 (Nat.le_refl _) (body_same 1)
  have s3 : FnD Pg w K mg base T.D__law_same 3 (F_same 3) := go__law_same T s2 (Nat.le_refl _) (body_same 2)
  exact go_law T g1 (by omega) g2 (by omega) g3 (by omega) s3 (by omega) body_law
theorem law_join {Pg : Program} {w : World} {K : PySem.W.Frag} {mg : Str → Option Value} {fa : Addr} {h : Heap} (KX : K.In h) (hmg : mg "law" = some (.ref fa)) (T : Top K mg) :
    ∃ fd : FuncData, (∀ (s : Shared) (u : Value), BindsTo s fd ⟨[u], []⟩ [("script", u)]) ∧ ∀ base : Heap, K.In base → base.Ns mainGlobals mg → FnOk Pg w K mg base CX0 65 fa fd ["script"] (spD K F_law 1) := by
  have e := hmg.symm.trans T.D_law.mg
  cases e
  exact ⟨_, T.bl, fun base _ _ => law_all T⟩
end Y
open PySem PySem.W PyProof.Rows
set_option maxRecDepth 100000 in
set_option maxHeartbeats 0 in
theorem PySem.Challenge.cw_wherewritten_k63_reach_holds : PySem.Challenge.rw_wherewritten_k63_reach.Holds := by
  w_on; o_law; k_head; (case hw => w_witness2)
  k_fill
  refine Y.walkY (l := PySem.Challenge.rw_wherewritten_k63_reach) (F := Y.F_law) rfl rfl Y.law_start (fun w h Y => PySem.W.kIn_of Y) ?F
  case F =>
    intro w mg fa h KX G hmg
    refine' Y.law_join KX hmg (Y.tp_mk KX G ?a0 ?l0 ?c0 ?k0 ?a1 ?l1 ?c1 ?k1 ?a2 ?l2 ?c2 ?k2 ?a3 ?l3 ?c3 ?k3 ?a4 ?l4 ?c4 ?k4 ?z0 ?z1 ?z2 ?z3 ?z4 ?z5 ?z6 ?z7 ?z8 ?z9 ?z10 ?vv0)
    (case a0 => k_is); (case l0 => k_is); (case c0 => k_is); (case k0 => k_is)
    (case a1 => k_is); (case l1 => k_is); (case c1 => k_is); (case k1 => k_is)
    (case a2 => k_is); (case l2 => k_is); (case c2 => k_is); (case k2 => k_is)
    (case a3 => k_is); (case l3 => k_is); (case c3 => k_is); (case k3 => k_is)
    (case a4 => k_is); (case l4 => k_is); (case c4 => k_is); (case k4 => k_is)
    (case z0 => k_is); (case z1 => k_is); (case z2 => k_is); (case z3 => k_is)
    (case z4 => k_is); (case z5 => k_is); (case z6 => k_is); (case z7 => k_is)
    (case z8 => k_is); (case z9 => k_is); (case z10 => k_is); (case vv0 => k_is)
