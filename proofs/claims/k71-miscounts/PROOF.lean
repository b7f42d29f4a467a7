import PyProof.Rows.All
import Wide.All
import OpenK.AllK
import Wide.FinOn
import HandS.ForMost
import HandS.TupAny
import HandS.Deep
import HandS.Wide
import HandS.Flow
import HandS.Style
import HandS.IsInst
import HandS.Codes
import HandS.WordsDict
import HandS.Small
import HandS.More
import KE.SortData
import HandS.Conv
import HandS.DeepEq
import KE.KDictDisplayH
import HandS.Ends
import HandS.Zip
import KE.GoesMore
import KE.GoesEnum
import HandS.DictComp
import HandS.WrittenGet
import PySem.Challenge.RW_wherewritten_k71_miscounts
set_option Elab.async false
set_option linter.all false
set_option maxRecDepth 100000
set_option maxHeartbeats 4000000
namespace Y
open PySem PySem.Spec L2

/-- data that nobody changes any more -/
inductive D where
  | non | bl (b : Bool) | int (i : Int) | str (x : Str) | tup (ds : List D) | lst (ds : List D) | raw (v : V)
/-- a label: a slot of the body, a temporary, a slot whose object is walked now, another's -/
inductive Lb where
  | s (i : Nat) | t (j : Nat) | h (i : Nat) | x
  deriving DecidableEq
abbrev Own := Addr → Option Lb
/-- what a slot holds: data, or an object that it alone owns; sq: a list that is only read -/
inductive M where
  | im (d : D) | ls (ds : List D) | sq (ds : List D) | rd (ds : List D) | dk (kvs : List (Key × D)) | dt (kvs : List (List Key × D))
inductive Sl where
  | no | lo (m : M) | pa (m : M) | hd (p : Bool) (v : V) (m : M)
inductive R where
  | im (d : D) | tm (m : M) | sl (i : Nat)

def Tp (_K : PySem.W.Frag) (o : Own) (H : Hp) (a : Addr) (xs : List V) : Prop := o a = none ∧ H a = some (.tup xs)
def Lq (K : PySem.W.Frag) (o : Own) (H : Hp) (a : Addr) (xs : List V) : Prop :=
  ((o a = none ∨ o a = some .x) ∧ Rd H a (.lst xs)) ∨
    ∃ (u : Obj) (its : Array Value) (n : Nat), K.lookup a = some u ∧ u.cls = .type "list" ∧ u.dict = none ∧ u.data = .seq its n ∧ its.size ≤ sizeLine ∧ Vals xs its.toList
mutual
inductive Dat (K : PySem.W.Frag) (o : Own) (H : Hp) : V → D → Prop
  | non : Dat K o H .non .non
  | bl (b : Bool) : Dat K o H (.bl b) (.bl b)
  | int (i : Int) : Dat K o H (.int i) (.int i)
  | str (x : Str) : Dat K o H (.str x) (.str x)
  | raw (v : V) : Dat K o H v (.raw v)
  | tup {a : Addr} {xs : List V} {ds : List D} : Tp K o H a xs → Dats K o H xs ds → Dat K o H (.ref a) (.tup ds)
  | lst {a : Addr} {xs : List V} {ds : List D} : o a = none → H a = some (.lst xs) → Dats K o H xs ds → Dat K o H (.ref a) (.lst ds)
inductive Dats (K : PySem.W.Frag) (o : Own) (H : Hp) : List V → List D → Prop
  | nil : Dats K o H [] []
  | cons {v : V} {vs : List V} {d : D} {ds : List D} : Dat K o H v d → Dats K o H vs ds → Dats K o H (v :: vs) (d :: ds)
end
abbrev Kvs {κ : Type} (K : PySem.W.Frag) (o : Own) (H : Hp) : List (κ × V) → List (κ × D) → Prop := Paired fun (p : κ × V) (q : κ × D) => p.1 = q.1 ∧ Dat K o H p.2 q.2

def IsM (K : PySem.W.Frag) (o : Own) (H : Hp) (l : Lb) (v : V) : M → Prop
  | .im d => Dat K o H v d
  | .ls ds => ∃ a xs, v = .ref a ∧ o a = some l ∧ H a = some (.lst xs) ∧ Dats K o H xs ds
  | .sq ds => ∃ a xs, v = .ref a ∧ Lq K o H a xs ∧ Dats K o H xs ds
  | .rd ds => ∃ a xs, v = .ref a ∧ o a = some l ∧ H a = some (.lst xs) ∧ Dats K o H xs ds
  | .dk kvs => ∃ a ks, v = .ref a ∧ o a = some l ∧ H a = some (.dK ks) ∧ Kvs K o H ks kvs
  | .dt kvs => ∃ a ks, v = .ref a ∧ o a = some l ∧ H a = some (.dT ks) ∧ Kvs K o H ks kvs
def Vw (K : PySem.W.Frag) (o : Own) (H : Hp) (v : V) (m : M) : Prop := ∃ l, IsM K o H l v m
def M.own : M → Bool
  | .ls _ => true | .dk _ => true | .dt _ => true | .rd _ => true | _ => false
def M.res : M → R
  | .im d => .im d
  | m => .tm m
def Sl.m? : Sl → Option M
  | .no => none | .lo m => some m | .pa m => some m
  | .hd _ _ (.ls ds) => some (.rd ds)
  | .hd _ _ _ => none

/-- what is not labelled stays; what is another's stays -/
structure Le (o : Own) (H : Hp) (o' : Own) (H' : Hp) : Prop where
  keep : ∀ b u, o b = none → H b = some u → o' b = none ∧ H' b = some u
  ext : ∀ b, o b = some .x → o' b = some .x ∧ H' b = H b
theorem Le.refl {o : Own} {H : Hp} : Le o H o H := ⟨fun _ _ a b => ⟨a, b⟩, fun _ a => ⟨a, rfl⟩⟩
theorem Le.trans {o o1 o2 : Own} {H H1 H2 : Hp} (a : Le o H o1 H1) (b : Le o1 H1 o2 H2) : Le o H o2 H2 :=
  ⟨fun c u e f => let ⟨e1, f1⟩ := a.keep c u e f; b.keep c u e1 f1, fun c e => let ⟨e1, f1⟩ := a.ext c e; let ⟨e2, f2⟩ := b.ext c e1; ⟨e2, f2.trans f1⟩⟩
section
variable {K : PySem.W.Frag} {o o' : Own} {H H' : Hp} {l l' : Lb} {v : V}
theorem Tp.mono (L : Le o H o' H') {a : Addr} {xs : List V} (h : Tp K o H a xs) : Tp K o' H' a xs := L.keep _ _ h.1 h.2
theorem Lq.mono (L : Le o H o' H') {a : Addr} {xs : List V} (h : Lq K o H a xs) : Lq K o' H' a xs := by
  rcases h with ⟨e | e, h⟩ | h
  · rcases h with h | ⟨u, h⟩
    · exact .inl ⟨.inl (L.keep _ _ e h).1, .inl (L.keep _ _ e h).2⟩
    · exact .inl ⟨.inl (L.keep _ _ e h).1, .inr ⟨u, (L.keep _ _ e h).2⟩⟩
  · obtain ⟨e1, e2⟩ := L.ext _ e
    refine .inl ⟨.inr e1, ?_⟩
    unfold Rd at h ⊢
    rw [e2]; exact h
  · exact .inr h
theorem Tp.sq {a : Addr} {xs : List V} (h : Tp K o H a xs) : SqT K H a xs := SqT.of h.2
theorem Lq.sq {a : Addr} {xs : List V} (h : Lq K o H a xs) : SqL K H a xs := by
  rcases h with ⟨_, h⟩ | h
  · exact .inl h
  · exact .inr h
mutual
theorem Dat.mono (L : Le o H o' H') : ∀ {v : V} {d : D}, Dat K o H v d → Dat K o' H' v d
  | _, _, .non => .non
  | _, _, .bl b => .bl b
  | _, _, .int b => .int b
  | _, _, .str b => .str b
  | _, _, .raw b => .raw b
  | _, _, .tup h r => .tup (h.mono L) (Dats.mono L r)
  | _, _, .lst e h r => .lst (L.keep _ _ e h).1 (L.keep _ _ e h).2 (Dats.mono L r)
theorem Dats.mono (L : Le o H o' H') : ∀ {v : List V} {d : List D}, Dats K o H v d → Dats K o' H' v d
  | _, _, .nil => .nil
  | _, _, .cons a r => .cons (Dat.mono L a) (Dats.mono L r)
end
theorem Kvs.mono {κ : Type} (L : Le o H o' H') {ks : List (κ × V)} {kvs : List (κ × D)} (h : Kvs K o H ks kvs) : Kvs K o' H' ks kvs :=
  Paired.mapP h fun _ _ z => ⟨z.1, z.2.mono L⟩
theorem IsM.mono (L : Le o H o' H') (h : ∀ a, o a = some l → o' a = some l' ∧ H' a = H a) : ∀ {m : M}, IsM K o H l v m → IsM K o' H' l' v m
  | .im _, q => Dat.mono L q
  | .ls _, ⟨a, xs, e, f, g, q⟩ => ⟨a, xs, e, (h a f).1, (h a f).2.trans g, q.mono L⟩
  | .sq _, ⟨a, xs, e, f, q⟩ => ⟨a, xs, e, f.mono L, q.mono L⟩
  | .rd _, ⟨a, xs, e, f, g, q⟩ => ⟨a, xs, e, (h a f).1, (h a f).2.trans g, q.mono L⟩
  | .dk _, ⟨a, xs, e, f, g, q⟩ => ⟨a, xs, e, (h a f).1, (h a f).2.trans g, Kvs.mono L q⟩
  | .dt _, ⟨a, xs, e, f, g, q⟩ => ⟨a, xs, e, (h a f).1, (h a f).2.trans g, Kvs.mono L q⟩
theorem Dats.length : ∀ {v : List V} {d : List D}, Dats K o H v d → v.length = d.length
  | _, _, .nil => rfl
  | _, _, .cons _ r => congrArg (· + 1) r.length
theorem Dats.append : ∀ {v w : List V} {d e : List D}, Dats K o H v d → Dats K o H w e → Dats K o H (v ++ w) (d ++ e)
  | _, _, _, _, .nil, s => s
  | _, _, _, _, .cons a r, s => .cons a (r.append s)
theorem Dats.get : ∀ {v : List V} {d : List D} {i : Nat} {x : D}, Dats K o H v d → d[i]? = some x → ∃ u, v[i]? = some u ∧ Dat K o H u x
  | _, _, 0, _, .cons a _, rfl => ⟨_, rfl, a⟩
  | _, _, _ + 1, _, .cons _ r, e => r.get e
theorem Dats.getV : ∀ {v : List V} {d : List D} {i : Nat} {u : V}, Dats K o H v d → v[i]? = some u → ∃ x, d[i]? = some x ∧ Dat K o H u x
  | _, _, 0, _, .cons a _, rfl => ⟨_, rfl, a⟩
  | _, _, _ + 1, _, .cons _ r, e => r.getV e
theorem Dats.take : ∀ {v : List V} {d : List D} (n : Nat), Dats K o H v d → Dats K o H (v.take n) (d.take n)
  | _, _, 0, _ => .nil
  | _, _, _ + 1, .nil => .nil
  | _, _, n + 1, .cons a r => .cons a (r.take n)
theorem Dats.drop : ∀ {v : List V} {d : List D} (n : Nat), Dats K o H v d → Dats K o H (v.drop n) (d.drop n)
  | _, _, 0, r => r
  | _, _, _ + 1, .nil => .nil
  | _, _, n + 1, .cons _ r => r.drop n
theorem Dats.set {u : V} {x : D} (q : Dat K o H u x) : ∀ {v : List V} {d : List D} (i : Nat), Dats K o H v d → Dats K o H (v.set i u) (d.set i x)
  | _, _, _, .nil => .nil
  | _, _, 0, .cons _ r => .cons q r
  | _, _, i + 1, .cons a r => .cons a (r.set q i)
theorem Dats.reverse {v : List V} {d : List D} (h : Dats K o H v d) : Dats K o H v.reverse d.reverse := by
  induction v generalizing d with
  | nil => cases h; exact .nil
  | cons x r ih =>
    cases h with
    | cons a t => rw [List.reverse_cons, List.reverse_cons]; exact (ih t).append (.cons a .nil)
theorem Dats.dropLast {v : List V} {d : List D} (h : Dats K o H v d) : Dats K o H v.dropLast d.dropLast := by
  rw [List.dropLast_eq_take, List.dropLast_eq_take, h.length]; exact h.take _
theorem Dats.ints : ∀ {v : List V} {ns : List Int}, Dats K o H v (ns.map D.int) → v = ns.map V.int
  | _, [], h => by cases h; rfl
  | _, n :: ns, h => by
    cases h with
    | cons a r => cases a; rw [Dats.ints r]; rfl
theorem Dats.of_ints : ∀ (ns : List Int), Dats K o H (ns.map V.int) (ns.map D.int)
  | [] => .nil
  | n :: ns => .cons (.int n) (Dats.of_ints ns)
theorem Dats.bls : ∀ {v : List V} {ns : List Bool}, Dats K o H v (ns.map D.bl) → v = ns.map V.bl
  | _, [], h => by cases h; rfl
  | _, n :: ns, h => by
    cases h with
    | cons a r => cases a; rw [Dats.bls r]; rfl
end

/-! ### the state of a body -/
structure Cc where
  o0 : Own
  H0 : Hp
  pv : List V
def SlOk (K : PySem.W.Frag) (c : Cc) (o : Own) (σ : St) (H : Hp) (i : Nat) : Sl → Prop
  | .no => True
  | .lo m => ∃ v, σ[i]? = some (some v) ∧ IsM K o H (.s i) v m
  | .pa m => ∃ v, σ[i]? = some (some v) ∧ c.pv[i]? = some v ∧ IsM K o H (.s i) v m
  | .hd p v m => σ[i]? = some (some v) ∧ (p = true → c.pv[i]? = some v) ∧ IsM K o H (.h i) v m
abbrev Env := List Sl
structure Rep (K : PySem.W.Frag) (c : Cc) (o : Own) (σ : St) (H : Hp) (ρ : Env) (τ : List (V × M)) : Prop where
  sl : ∀ i s, ρ[i]? = some s → SlOk K c o σ H i s
  tm : ∀ j v m, τ[j]? = some (v, m) → IsM K o H (.t j) v m ∧ m.own = true
  mu : ∀ a l, o a = some l → Mut (H a)
  le : Le c.o0 c.H0 o H
  ln : ρ.length = σ.length
def vw (ρ : Env) : R → Option M
  | .im d => some (.im d)
  | .tm m => some m
  | .sl i => match ρ[i]? with
    | some s => s.m?
    | none => none
def RelR (K : PySem.W.Frag) (o : Own) (H : Hp) (σ : St) (v : V) (r : R) (τ τ' : List (V × M)) : Prop :=
  match r with
  | .im d => τ' = τ ∧ Dat K o H v d
  | .tm m => τ' = τ ++ [(v, m)]
  | .sl i => τ' = τ ∧ σ[i]? = some (some v)

section
variable {K : PySem.W.Frag} {c : Cc} {o o' : Own} {σ : St} {H H' : Hp} {ρ : Env} {τ τ' τ0 τ1 : List (V × M)} {v : V} {r : R} {m : M}
theorem SlOk.mono (L : Le o H o' H') {i : Nat} (h : ∀ a, o a = some (.s i) → o' a = some (.s i) ∧ H' a = H a) (hh : ∀ a, o a = some (.h i) → o' a = some (.h i) ∧ H' a = H a) : ∀ {s : Sl}, SlOk K c o σ H i s → SlOk K c o' σ H' i s
  | .no, _ => trivial
  | .lo _, ⟨v, e, q⟩ => ⟨v, e, q.mono L h⟩
  | .pa _, ⟨v, e, f, q⟩ => ⟨v, e, f, q.mono L h⟩
  | .hd _ _ _, ⟨e, f, q⟩ => ⟨e, f, q.mono L hh⟩
theorem SlOk.of {i : Nat} {s : Sl} (h : SlOk K c o σ H i s) (e : s.m? = some m) : ∃ v, σ[i]? = some (some v) ∧ Vw K o H v m := by
  cases s with
  | no => cases e
  | lo z => cases e; obtain ⟨v, a, q⟩ := h; exact ⟨v, a, _, q⟩
  | pa z => cases e; obtain ⟨v, a, _, q⟩ := h; exact ⟨v, a, _, q⟩
  | hd p v z =>
    obtain ⟨a, _, q⟩ := h
    cases z with
    | ls ds => cases e; exact ⟨v, a, _, q⟩
    | _ => cases e
theorem Rep.vw_ok (R0 : Rep K c o σ H ρ τ) (h : RelR K o H σ v r τ0 τ1) (p : τ1 <+: τ) (e : vw ρ r = some m) : Vw K o H v m := by
  cases r with
  | im d => cases e; exact ⟨.x, h.2⟩
  | tm z =>
    cases e
    have q : τ1 = τ0 ++ [(v, m)] := h
    subst q
    obtain ⟨t, rfl⟩ := p
    exact ⟨_, (R0.tm τ0.length v m (by simp)).1⟩
  | sl i =>
    obtain ⟨_, hs⟩ := h
    unfold vw at e
    cases q : ρ[i]? with
    | none => simp only [q] at e; cases e
    | some s =>
      simp only [q] at e
      obtain ⟨w, hw, z⟩ := (R0.sl i s q).of e
      rw [hs] at hw; cases hw
      exact z
theorem RelR.mono (L : Le o H o' H') (h : RelR K o H σ v r τ τ') : RelR K o' H' σ v r τ τ' := by
  cases r with
  | im d => exact ⟨h.1, h.2.mono L⟩
  | tm z => exact h
  | sl i => exact h
theorem RelR.pre (h : RelR K o H σ v r τ τ') : τ <+: τ' := by
  cases r with
  | im d => rw [h.1]; exact List.prefix_rfl
  | tm z =>
    have q : τ' = τ ++ [(v, z)] := h
    rw [q]; exact List.prefix_append _ _
  | sl i => rw [h.1]; exact List.prefix_rfl
/-- only objects are added -/
def Grow (H H' : Hp) : Prop := ∀ b u, H b = some u → H' b = some u
theorem Grow.refl : Grow H H := fun _ _ h => h
theorem Grow.new {p : Addr} {u : HO} (h : H p = none) : Grow H (upd H p u) := fun b w e => by rw [upd_ne (ne_of_none e h)]; exact e
theorem mut_some (h : Mut (H v1)) : ∃ u, H v1 = some u := by
  cases e : H v1 with
  | none => rw [e] at h; exact h.elim
  | some u => exact ⟨u, rfl⟩
theorem Grow.le (g : Grow H H') (mu : ∀ a l, o a = some l → Mut (H a)) : Le o H o H' :=
  ⟨fun b u e f => ⟨e, g b u f⟩, fun b e => ⟨e, by obtain ⟨u, q⟩ := mut_some (mu b _ e); rw [q]; exact g b u q⟩⟩
theorem Grow.mu (g : Grow H H') (mu : ∀ a l, o a = some l → Mut (H a)) : ∀ a l, o a = some l → Mut (H' a) := fun a l e => by
  obtain ⟨u, q⟩ := mut_some (mu a l e)
  have := mu a l e
  rw [g a u q, ← q]; exact this
theorem Grow.at (g : Grow H H') (mu : ∀ a l, o a = some l → Mut (H a)) : ∀ a l, o a = some l → H' a = H a := fun a l e => by
  obtain ⟨u, q⟩ := mut_some (mu a l e)
  rw [g a u q, q]
theorem Rep.grow (R0 : Rep K c o σ H ρ τ) (g : Grow H H') : Rep K c o σ H' ρ τ :=
  ⟨fun i s e => (R0.sl i s e).mono (g.le R0.mu) (fun a q => ⟨q, g.at R0.mu a _ q⟩) fun a q => ⟨q, g.at R0.mu a _ q⟩, fun j v m e => ⟨(R0.tm j v m e).1.mono (g.le R0.mu) fun a q => ⟨q, g.at R0.mu a _ q⟩, (R0.tm j v m e).2⟩, g.mu R0.mu,
    R0.le.trans (g.le R0.mu), R0.ln⟩
theorem Rep.fresh (R0 : Rep K c o σ H ρ τ) {p : Addr} (h : H p = none) : o p = none := by
  cases e : o p with
  | none => rfl
  | some l => have := R0.mu p l e; rw [h] at this; exact this.elim
/-- the temporaries from n on are let go: their objects are data now -/
def dropT (n : Nat) (o : Own) : Own := fun a => match o a with
  | some (.t j) => if j < n then some (.t j) else none
  | l => l
theorem dropT_le (n : Nat) : Le o H (dropT n o) H :=
  ⟨fun b u e f => ⟨by unfold dropT; rw [e], f⟩, fun b e => ⟨by unfold dropT; rw [e], rfl⟩⟩
theorem dropT_s {n i : Nat} {a : Addr} (h : o a = some (.s i)) : dropT n o a = some (.s i) := by unfold dropT; rw [h]
theorem dropT_h {n i : Nat} {a : Addr} (h : o a = some (.h i)) : dropT n o a = some (.h i) := by unfold dropT; rw [h]
theorem dropT_t {n j : Nat} {a : Addr} (h : o a = some (.t j)) (k : j < n) : dropT n o a = some (.t j) := by unfold dropT; rw [h]; simp [k]
theorem dropT_some {n : Nat} {a : Addr} {l : Lb} (h : dropT n o a = some l) : o a = some l := by
  unfold dropT at h
  split at h
  · rename_i j e
    split at h
    · rw [e]; exact h
    · cases h
  · exact h
theorem Rep.drop (R0 : Rep K c o σ H ρ τ) (p : τ0 <+: τ) : Rep K c (dropT τ0.length o) σ H ρ τ0 := by
  obtain ⟨t, rfl⟩ := p
  refine ⟨fun i s e => (R0.sl i s e).mono (dropT_le _) (fun a q => ⟨dropT_s q, rfl⟩) fun a q => ⟨dropT_h q, rfl⟩, fun j v m e => ?_, fun a l e => R0.mu a l (dropT_some e), R0.le.trans (dropT_le _), R0.ln⟩
  have hj : j < τ0.length := (List.getElem?_eq_some_iff.mp e).1
  have q := R0.tm j v m (by rw [List.getElem?_append_left hj]; exact e)
  exact ⟨q.1.mono (dropT_le _) fun a z => ⟨dropT_t z hj, rfl⟩, q.2⟩
/-- one more temporary -/
theorem Rep.push (R0 : Rep K c o σ H ρ τ) {p : Addr} {u : HO} (hp : H p = none) (hu : Mut (some u)) (hm : m.own = true)
    (h : IsM K (fun b => if b = p then some (.t τ.length) else o b) (upd H p u) (.t τ.length) (.ref p) m) :
    Rep K c (fun b => if b = p then some (.t τ.length) else o b) σ (upd H p u) ρ (τ ++ [(.ref p, m)]) ∧ Le o H (fun b => if b = p then some (.t τ.length) else o b) (upd H p u) := by
  have ne : ∀ b w, H b = some w → b ≠ p := fun b w e => ne_of_none e hp
  have neo : ∀ b l, o b = some l → b ≠ p := fun b l e => by obtain ⟨w, q⟩ := mut_some (R0.mu b l e); exact ne b w q
  have L : Le o H (fun b => if b = p then some (.t τ.length) else o b) (upd H p u) :=
    ⟨fun b w e f => ⟨by show (if b = p then _ else o b) = none; rw [if_neg (ne b w f)]; exact e, by rw [upd_ne (ne b w f)]; exact f⟩,
     fun b e => ⟨by show (if b = p then _ else o b) = _; rw [if_neg (neo b _ e)]; exact e, upd_ne (neo b _ e)⟩⟩
  have kp : ∀ l a, o a = some l → (if a = p then some (.t τ.length) else o a) = some l ∧ upd H p u a = H a := fun l a e => ⟨by rw [if_neg (neo a _ e)]; exact e, upd_ne (neo a _ e)⟩
  refine ⟨⟨fun i s e => (R0.sl i s e).mono L (kp _) (kp _), fun j v m' e => ?_, fun a l e => ?_, R0.le.trans L, R0.ln⟩, L⟩
  · by_cases hj : j < τ.length
    · rw [List.getElem?_append_left hj] at e
      exact ⟨(R0.tm j v m' e).1.mono L (kp _), (R0.tm j v m' e).2⟩
    · rw [List.getElem?_append_right (by omega)] at e
      have hz : j - τ.length = 0 := by
        cases q : j - τ.length with
        | zero => rfl
        | succ n => rw [q] at e; simp at e
      rw [hz] at e
      have e2 : j = τ.length := by omega
      subst e2
      simp at e
      obtain ⟨rfl, rfl⟩ := e
      exact ⟨h, hm⟩
  · by_cases q : a = p
    · subst q; rw [upd_same]; exact hu
    · have e : (if a = p then some (.t τ.length) else o a) = some l := e
      rw [if_neg q] at e
      rw [upd_ne q]
      exact R0.mu a l e
/-- a result: data, or a new object -/
def NewM (K : PySem.W.Frag) (o : Own) (H H' : Hp) (v : V) : M → Prop
  | .im d => Dat K o H' v d
  | .ls ds => ∃ p xs, v = .ref p ∧ H p = none ∧ H' = upd H p (.lst xs) ∧ Dats K o H xs ds
  | .dk kvs => ∃ p ks, v = .ref p ∧ H p = none ∧ H' = upd H p (.dK ks) ∧ Kvs K o H ks kvs
  | .dt kvs => ∃ p ks, v = .ref p ∧ H p = none ∧ H' = upd H p (.dT ks) ∧ Kvs K o H ks kvs
  | .sq _ => False
  | .rd _ => False
/-- behind an operation that only makes: temporaries of the operands are let go -/
theorem Rep.made (R0 : Rep K c o σ H ρ τ) (p : τ0 <+: τ) (g : Grow H H') (h : NewM K o H H' v m) :
    ∃ o' τ', Le o H o' H' ∧ Rep K c o' σ H' ρ τ' ∧ RelR K o' H' σ v m.res τ0 τ' := by
  have R1 := R0.drop p
  have L1 : Le o H (dropT τ0.length o) H := dropT_le _
  cases m with
  | im d =>
    have h : Dat K o H' v d := h
    refine ⟨dropT τ0.length o, τ0, L1.trans (g.le R1.mu), R1.grow g, rfl, h.mono (dropT_le _)⟩
  | sq ds => exact h.elim
  | rd ds => exact h.elim
  | ls ds =>
    obtain ⟨a, xs, rfl, ha, rfl, q⟩ := h
    have ne : ∀ b w, H b = some w → b ≠ a := fun b w e => ne_of_none e ha
    have neo : ∀ b l, dropT τ0.length o b = some l → b ≠ a := fun b l e => by obtain ⟨w, q⟩ := mut_some (R1.mu b l e); exact ne b w q
    have L : Le (dropT τ0.length o) H (fun b => if b = a then some (.t τ0.length) else dropT τ0.length o b) (upd H a (.lst xs)) :=
      ⟨fun b w e f => ⟨by show (if b = a then _ else _) = none; rw [if_neg (ne b w f)]; exact e, by rw [upd_ne (ne b w f)]; exact f⟩,
       fun b e => ⟨by show (if b = a then _ else _) = _; rw [if_neg (neo b _ e)]; exact e, upd_ne (neo b _ e)⟩⟩
    obtain ⟨R2, _⟩ := R1.push (m := .ls ds) (u := .lst xs) ha trivial rfl ⟨a, xs, rfl, by simp, upd_same, (q.mono L1).mono L⟩
    exact ⟨_, _, L1.trans L, R2, rfl⟩
  | dk kvs =>
    obtain ⟨a, xs, rfl, ha, rfl, q⟩ := h
    have ne : ∀ b w, H b = some w → b ≠ a := fun b w e => ne_of_none e ha
    have neo : ∀ b l, dropT τ0.length o b = some l → b ≠ a := fun b l e => by obtain ⟨w, q⟩ := mut_some (R1.mu b l e); exact ne b w q
    have L : Le (dropT τ0.length o) H (fun b => if b = a then some (.t τ0.length) else dropT τ0.length o b) (upd H a (.dK xs)) :=
      ⟨fun b w e f => ⟨by show (if b = a then _ else _) = none; rw [if_neg (ne b w f)]; exact e, by rw [upd_ne (ne b w f)]; exact f⟩,
       fun b e => ⟨by show (if b = a then _ else _) = _; rw [if_neg (neo b _ e)]; exact e, upd_ne (neo b _ e)⟩⟩
    obtain ⟨R2, _⟩ := R1.push (m := .dk kvs) (u := .dK xs) ha trivial rfl ⟨a, xs, rfl, by simp, upd_same, Kvs.mono L (Kvs.mono L1 q)⟩
    exact ⟨_, _, L1.trans L, R2, rfl⟩
  | dt kvs =>
    obtain ⟨a, xs, rfl, ha, rfl, q⟩ := h
    have ne : ∀ b w, H b = some w → b ≠ a := fun b w e => ne_of_none e ha
    have neo : ∀ b l, dropT τ0.length o b = some l → b ≠ a := fun b l e => by obtain ⟨w, q⟩ := mut_some (R1.mu b l e); exact ne b w q
    have L : Le (dropT τ0.length o) H (fun b => if b = a then some (.t τ0.length) else dropT τ0.length o b) (upd H a (.dT xs)) :=
      ⟨fun b w e f => ⟨by show (if b = a then _ else _) = none; rw [if_neg (ne b w f)]; exact e, by rw [upd_ne (ne b w f)]; exact f⟩,
       fun b e => ⟨by show (if b = a then _ else _) = _; rw [if_neg (neo b _ e)]; exact e, upd_ne (neo b _ e)⟩⟩
    obtain ⟨R2, _⟩ := R1.push (m := .dt kvs) (u := .dT xs) ha trivial rfl ⟨a, xs, rfl, by simp, upd_same, Kvs.mono L (Kvs.mono L1 q)⟩
    exact ⟨_, _, L1.trans L, R2, rfl⟩
end
end Y
namespace Y
open PySem PySem.Spec L2

/-! ### data as the library's -/
mutual
def D.py : D → PyData
  | .non => .none
  | .bl b => .bool b
  | .int i => .int i
  | .str x => .str x
  | .tup ds => .tuple (D.pys ds)
  | .lst ds => .list (D.pys ds)
  | .raw _ => .dict []
def D.pys : List D → List PyData
  | [] => []
  | d :: ds => d.py :: D.pys ds
end
mutual
def D.ok : Nat → D → Bool
  | _, .non => true
  | _, .bl _ => true
  | _, .int _ => true
  | _, .str x => PyData.strOk x
  | 0, .tup _ => false
  | n + 1, .tup ds => D.oks n ds
  | 0, .lst _ => false
  | n + 1, .lst ds => D.oks n ds
  | _, .raw _ => false
def D.oks : Nat → List D → Bool
  | _, [] => true
  | n, d :: ds => D.ok n d && D.oks n ds
end
theorem D.pys_map : ∀ ds : List D, D.pys ds = ds.map D.py
  | [] => rfl
  | d :: ds => by simp only [D.pys, List.map_cons]; rw [D.pys_map ds]
theorem D.oks_all (n : Nat) : ∀ ds : List D, D.oks n ds = ds.all (D.ok n)
  | [] => rfl
  | d :: ds => by simp only [D.oks, List.all_cons]; rw [D.oks_all n ds]
mutual
theorem D.ok_lay : ∀ (n : Nat) (d : D), D.ok n d = true → d.py.canLay0 = true ∧ d.py.depth ≤ n
  | n, .non, _ => by simp [D.py, PyData.canLay0, PyData.depth]
  | n, .bl _, _ => by simp [D.py, PyData.canLay0, PyData.depth]
  | n, .int _, _ => by simp [D.py, PyData.canLay0, PyData.depth]
  | n, .str x, h => by
    have h : PyData.strOk x = true := by simpa [D.ok] using h
    simp [D.py, PyData.canLay0, PyData.depth, h]
  | 0, .tup _, h => by simp [D.ok] at h
  | n + 1, .tup ds, h => by
    have h : D.oks n ds = true := by simpa [D.ok] using h
    have q := D.oks_lay n ds h
    simp only [D.py, PyData.canLay0, PyData.depth]
    exact ⟨q.1, by omega⟩
  | 0, .lst _, h => by simp [D.ok] at h
  | n + 1, .lst ds, h => by
    have h : D.oks n ds = true := by simpa [D.ok] using h
    have q := D.oks_lay n ds h
    simp only [D.py, PyData.canLay0, PyData.depth]
    exact ⟨q.1, by omega⟩
  | n, .raw _, h => by simp [D.ok] at h
theorem D.oks_lay : ∀ (n : Nat) (ds : List D), D.oks n ds = true → PyData.canLayAll0 (D.pys ds) = true ∧ PyData.depthAll (D.pys ds) ≤ n
  | n, [], _ => by simp [D.pys, PyData.canLayAll0, PyData.depthAll]
  | n, d :: ds, h => by
    simp only [D.oks, Bool.and_eq_true] at h
    have a := D.ok_lay n d h.1
    have b := D.oks_lay n ds h.2
    simp only [D.pys, PyData.canLayAll0, PyData.depthAll, Bool.and_eq_true]
    exact ⟨⟨a.1, b.1⟩, by omega⟩
end
theorem D.ok_shaped {d : D} (h : D.ok 64 d = true) : SeqAt.shaped d.py = true := by
  have q := D.ok_lay 64 d h
  unfold SeqAt.shaped
  rw [q.1, decide_eq_true q.2]; rfl
def D.eqv (d e : D) : Bool := PyData.eqv d.py e.py

section
variable {K : PySem.W.Frag} {o o' : Own} {H H' : Hp} {l l' : Lb} {v : V}
mutual
theorem Dat.dp : ∀ {n : Nat} {v : V} {d : D}, Dat K o H v d → D.ok n d = true → Dp K H v d.py
  | _, _, _, .non, _ => by simp only [D.py]; exact .non
  | _, _, _, .bl b, _ => by simp only [D.py]; exact .bl b
  | _, _, _, .int b, _ => by simp only [D.py]; exact .int b
  | _, _, _, .str b, _ => by simp only [D.py]; exact .str b
  | _, _, _, .raw b, h => by simp [D.ok] at h
  | 0, _, _, .tup _ _, h => by simp [D.ok] at h
  | n + 1, _, _, .tup h r, q => by
    simp only [D.py]
    exact .tup h.sq (Dats.dp r (by simpa [D.ok] using q))
  | 0, _, _, .lst _ _ _, h => by simp [D.ok] at h
  | n + 1, _, _, .lst e h r, q => by
    simp only [D.py]
    exact .lst (SqL.of h) (Dats.dp r (by simpa [D.ok] using q))
theorem Dats.dp : ∀ {n : Nat} {v : List V} {d : List D}, Dats K o H v d → D.oks n d = true → DpAll K H v (D.pys d)
  | _, _, _, .nil, _ => by simp only [D.pys]; exact .nil
  | n, _, _, .cons a r, h => by
    simp only [D.oks, Bool.and_eq_true] at h
    simp only [D.pys]
    exact .cons (Dat.dp a h.1) (Dats.dp r h.2)
end
def M.dat? : M → Option D
  | .im d => some d
  | .ls ds => some (.lst ds)
  | .sq ds => some (.lst ds)
  | .rd ds => some (.lst ds)
  | _ => none
theorem Vw.dp {m : M} {d : D} (h : Vw K o H v m) (e : m.dat? = some d) (k : D.ok 64 d = true) : Dp K H v d.py := by
  obtain ⟨l, h⟩ := h
  cases m with
  | im x => cases e; exact Dat.dp h k
  | ls ds =>
    cases e
    obtain ⟨a, xs, rfl, _, g, q⟩ := h
    simp only [D.py]
    exact .lst (SqL.of g) (Dats.dp (n := 63) q (by simpa [D.ok] using k))
  | sq ds =>
    cases e
    obtain ⟨a, xs, rfl, g, q⟩ := h
    simp only [D.py]
    exact .lst g.sq (Dats.dp (n := 63) q (by simpa [D.ok] using k))
  | rd ds =>
    cases e
    obtain ⟨a, xs, rfl, _, g, q⟩ := h
    simp only [D.py]
    exact .lst (SqL.of g) (Dats.dp (n := 63) q (by simpa [D.ok] using k))
  | dk _ => cases e
  | dt _ => cases e
/-- a list, by its items -/
def M.lst? : M → Option (List D)
  | .ls ds => some ds
  | .rd ds => some ds
  | .im (.lst ds) => some ds
  | _ => none
theorem Vw.lst {m : M} {ds : List D} (h : Vw K o H v m) (e : m.lst? = some ds) : ∃ a xs, v = .ref a ∧ H a = some (.lst xs) ∧ Dats K o H xs ds := by
  obtain ⟨l, h⟩ := h
  cases m with
  | im x =>
    cases x with
    | lst es => cases e; cases (show Dat K o H v (.lst ds) from h) with | lst e h' r => exact ⟨_, _, rfl, h', r⟩
    | _ => cases e
  | ls es => cases e; obtain ⟨a, xs, rfl, _, g, q⟩ := h; exact ⟨a, xs, rfl, g, q⟩
  | rd es => cases e; obtain ⟨a, xs, rfl, _, g, q⟩ := h; exact ⟨a, xs, rfl, g, q⟩
  | _ => cases e
/-- .. that is only read -/
def M.lq? : M → Option (List D)
  | .ls ds => some ds
  | .sq ds => some ds
  | .rd ds => some ds
  | .im (.lst ds) => some ds
  | _ => none
theorem Vw.lq {m : M} {ds : List D} (h : Vw K o H v m) (e : m.lq? = some ds) : ∃ a xs, v = .ref a ∧ SqL K H a xs ∧ Dats K o H xs ds := by
  cases m with
  | im x =>
    obtain ⟨a, xs, e1, e2, e3⟩ := Vw.lst (m := .im x) (ds := ds) h (by cases x <;> first | exact e | cases e)
    exact ⟨a, xs, e1, SqL.of e2, e3⟩
  | ls es => cases e; obtain ⟨l, a, xs, rfl, _, g, q⟩ := h; exact ⟨a, xs, rfl, SqL.of g, q⟩
  | sq es => cases e; obtain ⟨l, a, xs, rfl, g, q⟩ := h; exact ⟨a, xs, rfl, g.sq, q⟩
  | rd es => cases e; obtain ⟨l, a, xs, rfl, _, g, q⟩ := h; exact ⟨a, xs, rfl, SqL.of g, q⟩
  | _ => cases e
theorem Vw.tup {ds : List D} (h : Vw K o H v (.im (.tup ds))) : ∃ a xs, v = .ref a ∧ Tp K o H a xs ∧ Dats K o H xs ds := by
  obtain ⟨l, h⟩ := h
  cases (show Dat K o H v (.tup ds) from h) with
  | tup a r => exact ⟨_, _, rfl, a, r⟩
theorem Vw.int {i : Int} (h : Vw K o H v (.im (.int i))) : v = .int i := by
  obtain ⟨l, h⟩ := h; cases (show Dat K o H v (.int i) from h); rfl
theorem Vw.bl {i : Bool} (h : Vw K o H v (.im (.bl i))) : v = .bl i := by
  obtain ⟨l, h⟩ := h; cases (show Dat K o H v (.bl i) from h); rfl
theorem Vw.str {i : Str} (h : Vw K o H v (.im (.str i))) : v = .str i := by
  obtain ⟨l, h⟩ := h; cases (show Dat K o H v (.str i) from h); rfl
theorem Vw.non (h : Vw K o H v (.im .non)) : v = .non := by
  obtain ⟨l, h⟩ := h; cases (show Dat K o H v .non from h); rfl
theorem Vw.mono (L : Le o H o' H') (h : ∀ a l, o a = some l → o' a = some l ∧ H' a = H a) {m : M} (q : Vw K o H v m) : Vw K o' H' v m :=
  let ⟨l, z⟩ := q; ⟨l, z.mono L fun a e => h a l e⟩
end

/-! ### the judgements over data -/
abbrev TX := Env → (R → Env → Prop) → Prop
abbrev TQ := Env → (Bool → Env → Prop) → Prop
abbrev TL := Env → (List R → Env → Prop) → Prop
def TEo (K : PySem.W.Frag) (c : Cc) (t : TX) : TE := fun σ H k => ∃ o ρ τ Q, Rep K c o σ H ρ τ ∧ t ρ Q ∧
  ∀ v H' o' r ρ' τ', Le o H o' H' → Rep K c o' σ H' ρ' τ' → RelR K o' H' σ v r τ τ' → Q r ρ' → k v H'
def TTo (K : PySem.W.Frag) (c : Cc) (t : TQ) : TT := fun σ H k => ∃ o ρ τ Q, Rep K c o σ H ρ τ ∧ t ρ Q ∧
  ∀ b H' o' ρ', Le o H o' H' → Rep K c o' σ H' ρ' τ → Q b ρ' → k b H'
inductive RelRs (K : PySem.W.Frag) (o : Own) (H : Hp) (σ : St) : List V → List R → List (V × M) → List (V × M) → Prop
  | nil {τ} : RelRs K o H σ [] [] τ τ
  | cons {v vs r rs τ τ1 τ'} : RelR K o H σ v r τ τ1 → RelRs K o H σ vs rs τ1 τ' → RelRs K o H σ (v :: vs) (r :: rs) τ τ'
def TAo (K : PySem.W.Frag) (c : Cc) (t : TL) : TA := fun σ H k => ∃ o ρ τ Q, Rep K c o σ H ρ τ ∧ t ρ Q ∧
  ∀ vs H' o' rs ρ' τ', Le o H o' H' → Rep K c o' σ H' ρ' τ' → RelRs K o' H' σ vs rs τ τ' → Q rs ρ' → k vs H'
def DE (X : Cx) (c : Cc) (e : Expr) (t : TX) : Prop := PE X e (TEo X.K c t)
def DT (X : Cx) (c : Cc) (e : Expr) (t : TQ) : Prop := PT X e (TTo X.K c t)
def DW (X : Cx) (c : Cc) (e : Expr) (t : TQ) : Prop := PW X e (TTo X.K c t)
def DA (X : Cx) (c : Cc) (es : List Expr) (t : TL) : Prop := PA X es (TAo X.K c t)
theorem peImp {X : Cx} {e : Expr} {t t' : TE} (h : PE X e t) (f : ∀ σ H k, t' σ H k → t σ H k) : PE X e t' := ⟨fun pins s σ H Q I q => h.run pins s σ H Q I (f _ _ _ q)⟩
theorem ptImp {X : Cx} {e : Expr} {t t' : TT} (h : PT X e t) (f : ∀ σ H k, t' σ H k → t σ H k) : PT X e t' := ⟨fun pins s σ H Q I q => h.run pins s σ H Q I (f _ _ _ q)⟩
theorem pwImp {X : Cx} {e : Expr} {t t' : TT} (h : PW X e t) (f : ∀ σ H k, t' σ H k → t σ H k) : PW X e t' := ⟨fun wh pins s σ H Q I q => h.run wh pins s σ H Q I (f _ _ _ q)⟩
theorem paImp {X : Cx} {e : List Expr} {t t' : TA} (h : PA X e t) (f : ∀ σ H k, t' σ H k → t σ H k) : PA X e t' := ⟨fun pos pins s σ H Q I q => h.run pos pins s σ H Q I (f _ _ _ q)⟩

section
variable {K : PySem.W.Frag} {c : Cc} {o o' : Own} {σ : St} {H H' : Hp} {ρ : Env} {τ τ' τ0 τ1 : List (V × M)}
theorem RelRs.mono (L : Le o H o' H') : ∀ {vs rs τ τ'}, RelRs K o H σ vs rs τ τ' → RelRs K o' H' σ vs rs τ τ'
  | _, _, _, _, .nil => .nil
  | _, _, _, _, .cons a r => .cons (a.mono L) (RelRs.mono L r)
theorem RelRs.pre : ∀ {vs rs τ τ'}, RelRs K o H σ vs rs τ τ' → τ <+: τ'
  | _, _, _, _, .nil => List.prefix_rfl
  | _, _, _, _, .cons a r => a.pre.trans r.pre
theorem RelRs.length : ∀ {vs rs τ τ'}, RelRs K o H σ vs rs τ τ' → vs.length = rs.length
  | _, _, _, _, .nil => rfl
  | _, _, _, _, .cons _ r => congrArg (· + 1) r.length
end

/-! ### names and constants -/
section
variable {X : Cx} {c : Cc} {e a b : Expr} {es : List Expr} {pos : Pos} {t ta tb : TX}
def tIm (d : D) : TX := fun ρ Q => Q (.im d) ρ
def tNm (i : Nat) : TX := fun ρ Q => match ρ[i]? with
  | some s => match s.m? with
    | some (.im d) => Q (.im d) ρ
    | some _ => Q (.sl i) ρ
    | none => False
  | none => False
theorem de_var (i : Nat) {x : Str} (hN : X.N[i]? = some x := by rfl) (hv : Vis X.env.scope x := by first | exact Or.inl rfl | exact Or.inr (Or.inl rfl) | exact Or.inr (Or.inr rfl)) (hd : (x == ("__debug__" : Str)) = false := by decide)
    (hcd : (x == ("__classdict__" : Str)) = false := by decide) : DE X c (.Name x pos) (tNm i) := by
  refine peImp (pe_var (i := i) hN hv hd hcd) fun σ H k h => ?_
  obtain ⟨o, ρ, τ, Q, R0, h, q⟩ := h
  unfold tNm at h
  split at h
  · rename_i s hs
    split at h
    · rename_i d hm
      obtain ⟨v, e, _, z⟩ := (R0.sl i s hs).of hm
      exact ⟨v, e, q v H o (.im d) ρ τ .refl R0 ⟨rfl, z⟩ h⟩
    · rename_i m _ hm
      obtain ⟨v, e, z⟩ := (R0.sl i s hs).of hm
      exact ⟨v, e, q v H o (.sl i) ρ τ .refl R0 ⟨rfl, e⟩ h⟩
    · exact h.elim
  · exact h.elim
theorem de_c {d : D} {v : V} (h : PE X e (tC v)) (hd : ∀ o H, Dat X.K o H v d) : DE X c e (tIm d) := peImp h fun σ H k ⟨o, ρ, τ, Q, R0, h, q⟩ => q v H o (.im d) ρ τ .refl R0 ⟨rfl, hd o H⟩ h
theorem de_int {i j pos} : DE X c (.Constant (.int i) j pos) (tIm (.int i)) := de_c pe_int fun _ _ => .int i
theorem de_bl {i j pos} : DE X c (.Constant (.bool i) j pos) (tIm (.bl i)) := de_c pe_bl fun _ _ => .bl i
theorem de_non {j pos} : DE X c (.Constant .none j pos) (tIm .non) := de_c pe_non fun _ _ => .non
theorem de_str {i j pos} : DE X c (.Constant (.str i) j pos) (tIm (.str i)) := de_c pe_str fun _ _ => .str i
/-- a global name: an int, a text, a def, a class -/
theorem de_glob {x : Str} {v : V} {u : Value} {d : D} (hg : Gl X x) (hm : X.mg x = some u) (r : RelV v u) (hd : ∀ o H, Dat X.K o H v d) (hdb : (x == ("__debug__" : Str)) = false := by decide) : DE X c (.Name x pos) (tIm d) :=
  de_c (pe_glob hg hm r hdb) hd
theorem de_bltn {x : Str} {v : V} {u : Value} (hg : Gl X x) (hm : X.mg x = none) (hv : bootBuiltins x = some u) (r : RelV v u) (hn : x ≠ "__name__" := by decide) (hdb : (x == ("__debug__" : Str)) = false := by decide) : DE X c (.Name x pos) (tIm (.raw v)) :=
  de_c (pe_bltn hg hm hv r hn hdb) fun _ _ => .raw v

/-! ### operations on two values -/
abbrev G2 := M → M → (M → Prop) → Prop
def rOp (K : PySem.W.Frag) (g : G2) : R2 := fun x y H k => ∃ o m1 m2 G, (∀ a l, o a = some l → Mut (H a)) ∧ Vw K o H x m1 ∧ Vw K o H y m2 ∧ g m1 m2 G ∧ ∀ v H' m, Grow H H' → NewM K o H H' v m → G m → k v H'
def w2 (ρ : Env) (r1 r2 : R) (f : M → M → Prop) : Prop := match vw ρ r1, vw ρ r2 with
  | some m1, some m2 => f m1 m2
  | _, _ => False
def tBin (g : G2) (ta tb : TX) : TX := fun ρ Q => ta ρ fun r1 ρ1 => tb ρ1 fun r2 ρ2 => w2 ρ2 r1 r2 fun m1 m2 => g m1 m2 fun m => Q m.res ρ2
theorem tBin_of {K : PySem.W.Frag} {g : G2} {σ : St} {H : Hp} {k : VK} (h : TEo K c (tBin g ta tb) σ H k) : tOp (rOp K g) (TEo K c ta) (TEo K c tb) σ H k := by
  obtain ⟨o, ρ, τ, Q, R0, h, q⟩ := h
  refine ⟨o, ρ, τ, _, R0, h, fun v1 H1 o1 r1 ρ1 τ1 L1 R1 z1 h1 => ?_⟩
  refine ⟨o1, ρ1, τ1, _, R1, h1, fun v2 H2 o2 r2 ρ2 τ2 L2 R2 z2 h2 => ?_⟩
  unfold w2 at h2
  split at h2
  · rename_i m1 m2 e1 e2
    have y1 := R2.vw_ok (z1.mono L2) z2.pre e1
    have y2 := R2.vw_ok z2 List.prefix_rfl e2
    refine ⟨o2, m1, m2, _, R2.mu, y1, y2, h2, fun v H' m g1 nm hm => ?_⟩
    obtain ⟨o', τ', L, R', z⟩ := R2.made (z1.pre.trans z2.pre) g1 nm
    exact q v H' o' _ ρ2 τ' (L1.trans (L2.trans L)) R' z hm
  · exact h2.elim
def OpG (X : Cx) (f : Value → Value → Sem Value) (g : G2) : Prop := OpR X f (rOp X.K g)
theorem opG {f : Value → Value → Sem Value} {g : G2} {r : R2} (h : OpR X f r) (i : ∀ x y H k, rOp X.K g x y H k → r x y H k) : OpG X f g := fun pins s σ H x y v u Q I rx ry q => h pins s σ H x y v u Q I rx ry (i _ _ _ _ q)
theorem de_op {op : Operator} {g : G2} (ho : OpG X (binaryOp op) g) (ha : DE X c a ta) (hb : DE X c b tb) : DE X c (.BinOp a op b pos) (tBin g ta tb) :=
  peImp (pe_op ho ha hb) fun _ _ _ h => tBin_of h
theorem de_cmp {op : CmpOp} {g : G2} (ho : OpG X (compareOp op) g) (ha : DE X c a ta) (hb : DE X c b tb) (hm : behindInMarks op b = false := by first | exact nomark _ | rfl) : DE X c (.Compare a [op] [b] pos) (tBin g ta tb) :=
  peImp (pe_cmpR ho ha hb hm) fun _ _ _ h => tBin_of h
/-- a value that is a bool, as a test -/
def tTst (t : TX) : TQ := fun ρ Q => t ρ fun r ρ1 => match r with
  | .im (.bl b) => Q b ρ1
  | _ => False
theorem tTst_of {K : PySem.W.Frag} {σ : St} {H : Hp} {k : Bool → Hp → Prop} (h : TTo K c (tTst t) σ H k) : tTest (TEo K c t) σ H k := by
  obtain ⟨o, ρ, τ, Q, R0, h, q⟩ := h
  refine ⟨o, ρ, τ, _, R0, h, fun v1 H1 o1 r1 ρ1 τ1 L1 R1 z1 h1 => ?_⟩
  split at h1
  · rename_i b
    obtain ⟨rfl, z⟩ := z1
    cases z
    exact ⟨b, rfl, q b H1 o1 ρ1 L1 R1 h1⟩
  · exact h1.elim
theorem dt_cmp {op : CmpOp} {g : G2} (ho : OpG X (compareOp op) g) (ha : DE X c a ta) (hb : DE X c b tb) (hm : behindInMarks op b = false := by first | exact nomark _ | rfl) : DT X c (.Compare a [op] [b] pos) (tTst (tBin g ta tb)) :=
  ptImp (pt_cmpR ho ha hb hm) fun σ H k h => by
    obtain ⟨o, ρ, τ, Q, R0, h, q⟩ := h
    refine tBin_of ⟨o, ρ, τ, _, R0, h, fun v1 H1 o1 r1 ρ1 τ1 L1 R1 z1 h1 => ?_⟩
    split at h1
    · rename_i b
      obtain ⟨rfl, z⟩ := z1
      cases z
      exact ⟨b, rfl, q b H1 o1 ρ1 L1 R1 h1⟩
    · exact h1.elim
theorem dt_val (h : DE X c e t) (he : ∀ whole, isTrue e X.env whole = (do let v ← whole; standAt e.pos; holding [v] (truthy v)) := by intro _; rfl) : DT X c e (tTst t) := ptImp (pt_val h he) fun _ _ _ h => tTst_of h

/-! ### truth -/
def M.tru : M → Option Bool
  | .im .non => some false
  | .im (.bl b) => some b
  | .im (.int i) => some (i != 0)
  | .im (.tup ds) => some (!ds.isEmpty)
  | .im (.lst ds) => some (!ds.isEmpty)
  | .ls ds => some (!ds.isEmpty)
  | .sq ds => some (!ds.isEmpty)
  | .rd ds => some (!ds.isEmpty)
  | .dk kvs => some (!kvs.isEmpty)
  | _ => none
theorem Dats.empty {K : PySem.W.Frag} {o : Own} {H : Hp} {xs : List V} {ds : List D} (h : Dats K o H xs ds) : ds.isEmpty = xs.isEmpty := by cases h <;> rfl
theorem Vw.tru {K : PySem.W.Frag} {o : Own} {H : Hp} {v : V} {m : M} {b : Bool} (h : Vw K o H v m) (e : m.tru = some b) : TruV K v H b := by
  cases m with
  | im d =>
    cases d with
    | non => cases e; rw [h.non]; rfl
    | bl b => cases e; rw [h.bl]; rfl
    | int b => cases e; rw [h.int]; rfl
    | str b => cases e
    | raw b => cases e
    | tup ds => cases e; obtain ⟨a, xs, rfl, g, q⟩ := h.tup; exact .inr (.inl ⟨xs, g.sq, by rw [q.empty]⟩)
    | lst ds => cases e; obtain ⟨a, xs, rfl, g, q⟩ := h.lst rfl; exact .inl ⟨xs, SqL.of g, by rw [q.empty]⟩
  | ls ds => cases e; obtain ⟨a, xs, rfl, g, q⟩ := h.lq rfl; exact .inl ⟨xs, g, by rw [q.empty]⟩
  | sq ds => cases e; obtain ⟨a, xs, rfl, g, q⟩ := h.lq rfl; exact .inl ⟨xs, g, by rw [q.empty]⟩
  | rd ds => cases e; obtain ⟨a, xs, rfl, g, q⟩ := h.lq rfl; exact .inl ⟨xs, g, by rw [q.empty]⟩
  | dk kvs => cases e; obtain ⟨l, a, ks, rfl, _, g, q⟩ := h; exact .inr (.inr ⟨ks, g, by cases q <;> rfl⟩)
  | dt kvs => cases e
def tTru (t : TX) : TQ := fun ρ Q => t ρ fun r ρ1 => match vw ρ1 r with
  | some m => match m.tru with
    | some b => Q b ρ1
    | none => False
  | none => False
theorem dt_tru (h : DE X c e t) (he : ∀ whole, isTrue e X.env whole = (do let v ← whole; standAt e.pos; holding [v] (truthy v)) := by intro _; rfl) : DT X c e (tTru t) :=
  ptImp (pt_truth h he) fun σ H k h => by
    obtain ⟨o, ρ, τ, Q, R0, h, q⟩ := h
    refine ⟨o, ρ, τ, _, R0, h, fun v1 H1 o1 r1 ρ1 τ1 L1 R1 z1 h1 => ?_⟩
    split at h1
    · rename_i m hm
      split at h1
      · rename_i b hb
        have R2 := R1.drop z1.pre
        exact ⟨b, Vw.tru (R1.vw_ok z1 List.prefix_rfl hm) hb, q b H1 _ ρ1 (L1.trans (dropT_le _)) R2 h1⟩
      · exact h1.elim
    · exact h1.elim

/-! ### and, or, not, if else -/
variable {tq tr : TQ} {rest : List Expr} {tc : TX}
def tAndQ (t u : TQ) : TQ := fun ρ Q => t ρ fun b ρ1 => if b = true then u ρ1 Q else Q false ρ1
def tOrQ (t u : TQ) : TQ := fun ρ Q => t ρ fun b ρ1 => if b = true then Q true ρ1 else u ρ1 Q
def tNotQ (t : TQ) : TQ := fun ρ Q => t ρ fun b ρ1 => Q (!b) ρ1
theorem dw_pt (h : DW X c e tq) : DT X c e tq := PW.pt h
theorem dw_and1 (h : DT X c a tq) : DW X c (.BoolOp .And [a] pos) tq := pw_and1 h
theorem dw_or1 (h : DT X c a tq) : DW X c (.BoolOp .Or [a] pos) tq := pw_or1 h
theorem dw_and (h : DT X c a tq) (h2 : DW X c (.BoolOp .And (b :: rest) pos) tr) : DW X c (.BoolOp .And (a :: b :: rest) pos) (tAndQ tq tr) :=
  pwImp (pw_and h h2) fun σ H k h => by
    obtain ⟨o, ρ, τ, Q, R0, h, q⟩ := h
    refine ⟨o, ρ, τ, _, R0, h, fun b1 H1 o1 ρ1 L1 R1 h1 => ?_⟩
    cases b1 with
    | true => exact ⟨o1, ρ1, τ, _, R1, h1, fun b2 H2 o2 ρ2 L2 R2 h2 => q b2 H2 o2 ρ2 (L1.trans L2) R2 h2⟩
    | false => exact q false H1 o1 ρ1 L1 R1 h1
theorem dw_or (h : DT X c a tq) (h2 : DW X c (.BoolOp .Or (b :: rest) pos) tr) : DW X c (.BoolOp .Or (a :: b :: rest) pos) (tOrQ tq tr) :=
  pwImp (pw_or h h2) fun σ H k h => by
    obtain ⟨o, ρ, τ, Q, R0, h, q⟩ := h
    refine ⟨o, ρ, τ, _, R0, h, fun b1 H1 o1 ρ1 L1 R1 h1 => ?_⟩
    cases b1 with
    | false => exact ⟨o1, ρ1, τ, _, R1, h1, fun b2 H2 o2 ρ2 L2 R2 h2 => q b2 H2 o2 ρ2 (L1.trans L2) R2 h2⟩
    | true => exact q true H1 o1 ρ1 L1 R1 h1
theorem dt_not (h : DT X c a tq) : DT X c (.UnaryOp .Not a pos) (tNotQ tq) :=
  ptImp (pt_not h) fun σ H k h => by
    obtain ⟨o, ρ, τ, Q, R0, h, q⟩ := h
    exact ⟨o, ρ, τ, _, R0, h, fun b1 H1 o1 ρ1 L1 R1 h1 => q _ H1 o1 ρ1 L1 R1 h1⟩
/-- as values: bools but the last -/
def tAndX (t u : TX) : TX := fun ρ Q => tTst t ρ fun b ρ1 => if b = true then u ρ1 Q else Q (.im (.bl false)) ρ1
def tOrX (t u : TX) : TX := fun ρ Q => tTst t ρ fun b ρ1 => if b = true then Q (.im (.bl true)) ρ1 else u ρ1 Q
def tNotX (t : TX) : TX := fun ρ Q => tTst t ρ fun b ρ1 => Q (.im (.bl (!b))) ρ1
theorem de_one {op : BoolOp} (h : DE X c a t) : DE X c (.BoolOp op [a] pos) t := pe_one h
theorem de_and (h : DE X c a t) (h2 : DE X c (.BoolOp .And (b :: rest) pos) tc) : DE X c (.BoolOp .And (a :: b :: rest) pos) (tAndX t tc) :=
  peImp (pe_and h h2) fun σ H k h => by
    obtain ⟨o, ρ, τ, Q, R0, h, q⟩ := h
    refine ⟨o, ρ, τ, _, R0, h, fun v1 H1 o1 r1 ρ1 τ1 L1 R1 z1 h1 => ?_⟩
    split at h1
    · rename_i b1
      obtain ⟨rfl, z⟩ := z1
      cases z
      refine ⟨b1, rfl, ?_⟩
      cases b1 with
      | true => exact ⟨o1, ρ1, _, _, R1, h1, fun v2 H2 o2 r2 ρ2 τ2 L2 R2 z2 h2 => q v2 H2 o2 r2 ρ2 τ2 (L1.trans L2) R2 z2 h2⟩
      | false => exact q _ H1 o1 (.im (.bl false)) ρ1 _ L1 R1 ⟨rfl, .bl false⟩ h1
    · exact h1.elim
theorem de_or (h : DE X c a t) (h2 : DE X c (.BoolOp .Or (b :: rest) pos) tc) : DE X c (.BoolOp .Or (a :: b :: rest) pos) (tOrX t tc) :=
  peImp (pe_or h h2) fun σ H k h => by
    obtain ⟨o, ρ, τ, Q, R0, h, q⟩ := h
    refine ⟨o, ρ, τ, _, R0, h, fun v1 H1 o1 r1 ρ1 τ1 L1 R1 z1 h1 => ?_⟩
    split at h1
    · rename_i b1
      obtain ⟨rfl, z⟩ := z1
      cases z
      refine ⟨b1, rfl, ?_⟩
      cases b1 with
      | false => exact ⟨o1, ρ1, _, _, R1, h1, fun v2 H2 o2 r2 ρ2 τ2 L2 R2 z2 h2 => q v2 H2 o2 r2 ρ2 τ2 (L1.trans L2) R2 z2 h2⟩
      | true => exact q _ H1 o1 (.im (.bl true)) ρ1 _ L1 R1 ⟨rfl, .bl true⟩ h1
    · exact h1.elim
theorem de_not (h : DE X c a t) : DE X c (.UnaryOp .Not a pos) (tNotX t) :=
  peImp (pe_not h) fun σ H k h => by
    obtain ⟨o, ρ, τ, Q, R0, h, q⟩ := h
    refine ⟨o, ρ, τ, _, R0, h, fun v1 H1 o1 r1 ρ1 τ1 L1 R1 z1 h1 => ?_⟩
    split at h1
    · rename_i b1
      obtain ⟨rfl, z⟩ := z1
      cases z
      exact ⟨b1, rfl, q _ H1 o1 (.im (.bl (!b1))) ρ1 _ L1 R1 ⟨rfl, .bl _⟩ h1⟩
    · exact h1.elim
def tIfX (q : TQ) (t u : TX) : TX := fun ρ Q => q ρ fun b ρ1 => if b = true then t ρ1 Q else u ρ1 Q
theorem de_if (hq : DT X c e tq) (ha : DE X c a ta) (hb : DE X c b tb) : DE X c (.IfExp e a b pos) (tIfX tq ta tb) :=
  peImp (pe_ifExp hq ha hb) fun σ H k h => by
    obtain ⟨o, ρ, τ, Q, R0, h, q⟩ := h
    refine ⟨o, ρ, τ, _, R0, h, fun b1 H1 o1 ρ1 L1 R1 h1 => ?_⟩
    cases b1 with
    | true => exact ⟨o1, ρ1, τ, _, R1, h1, fun v2 H2 o2 r2 ρ2 τ2 L2 R2 z2 h2 => q v2 H2 o2 r2 ρ2 τ2 (L1.trans L2) R2 z2 h2⟩
    | false => exact ⟨o1, ρ1, τ, _, R1, h1, fun v2 H2 o2 r2 ρ2 τ2 L2 R2 z2 h2 => q v2 H2 o2 r2 ρ2 τ2 (L1.trans L2) R2 z2 h2⟩

/-! ### argument lists -/
def lNil : TL := fun ρ Q => Q [] ρ
def lCons (t : TX) (u : TL) : TL := fun ρ Q => t ρ fun r ρ1 => u ρ1 fun rs ρ2 => Q (r :: rs) ρ2
theorem da_nil : DA X c [] lNil := paImp pa_nil fun σ H k ⟨o, ρ, τ, Q, R0, h, q⟩ => q [] H o [] ρ τ .refl R0 .nil h
theorem da_cons {u : TL} (ha : DE X c e t) (hr : DA X c es u) (hs : starEach (e :: es) X.env = (false, eval e X.env) :: starEach es X.env := by rfl) : DA X c (e :: es) (lCons t u) :=
  paImp (pa_cons ha hr hs) fun σ H k ⟨o, ρ, τ, Q, R0, h, q⟩ =>
    ⟨o, ρ, τ, _, R0, h, fun v1 H1 o1 r1 ρ1 τ1 L1 R1 z1 h1 => ⟨o1, ρ1, τ1, _, R1, h1, fun vs H2 o2 rs ρ2 τ2 L2 R2 z2 h2 => q _ H2 o2 _ ρ2 τ2 (L1.trans L2) R2 (.cons (z1.mono L2) z2) h2⟩⟩
end
end Y
namespace Y
open PySem PySem.Spec L2

section
variable {K : PySem.W.Frag} {c : Cc} {o o' : Own} {σ : St} {H H' : Hp} {ρ : Env} {τ τ' τ0 τ1 : List (V × M)} {X : Cx}
theorem own_none (mu : ∀ a l, o a = some l → Mut (H a)) {p : Addr} (h : H p = none) : o p = none := by
  cases e : o p with
  | none => rfl
  | some l => have := mu p l e; rw [h] at this; exact this.elim
theorem newTup (mu : ∀ a l, o a = some l → Mut (H a)) {p : Addr} {xs : List V} {ds : List D} (h : H p = none) (d : Dats K o H xs ds) : Dat K o (upd H p (.tup xs)) (.ref p) (.tup ds) :=
  .tup ⟨own_none mu h, upd_same⟩ (d.mono ((Grow.new h).le mu))

theorem qim {k : VK} {G : M → Prop} (q : ∀ v H' m, Grow H H' → NewM K o H H' v m → G m → k v H') {v : V} {d : D} (a : Dat K o H v d) (b : G (.im d)) : k v H := q v H (.im d) .refl a b
/-! ### + -/
def gAdd : G2 := fun m n G => match m, n with
  | .im (.int i), .im (.int j) => G (.im (.int (i + j)))
  | .im (.str x), .im (.str y) => x.length + y.length ≤ sizeLine ∧ G (.im (.str (x ++ y)))
  | .im (.tup a), .im (.tup b) => a.length + b.length ≤ sizeLine ∧ G (.im (.tup (a ++ b)))
  | m, n => match m.lst?, n.lst? with
    | some a, some b => a.length + b.length ≤ sizeLine ∧ G (.ls (a ++ b))
    | _, _ => False
theorem add_ok : OpG X (binaryOp .Add) gAdd := by
  refine opG ((op_add.or op_add_str).or (op_catA.or op_cat)) fun x y H k h => ?_
  obtain ⟨o, m1, m2, G, mu, v1, v2, h, q⟩ := h
  unfold gAdd at h
  split at h
  · rename_i i j
    exact .inl (.inl ⟨i, j, v1.int, v2.int, qim q (.int _) h⟩)
  · rename_i i j
    exact .inl (.inr ⟨i, j, v1.str, v2.str, h.1, qim q (.str _) h.2⟩)
  · rename_i as bs
    obtain ⟨a, xs, rfl, ta, da⟩ := v1.tup
    obtain ⟨b, ys, rfl, tb, db⟩ := v2.tup
    refine .inr (.inl ⟨a, b, xs, ys, rfl, rfl, ta.sq, tb.sq, by rw [da.length, db.length]; exact h.1, fun e => ?_, fun e1 e2 => ?_, fun _ _ p hp => ?_⟩)
    · subst e; cases da
      exact q (.ref b) H (.im (.tup bs)) .refl (.tup tb db) h.2
    · subst e2; cases db
      refine q (.ref a) H (.im (.tup as)) .refl (.tup ta da) (by have := h.2; rwa [List.append_nil] at this)
    · exact q (.ref p) _ (.im (.tup (as ++ bs))) (.new hp) (newTup mu hp (da.append db)) h.2
  · split at h
    · rename_i as bs e1 e2
      obtain ⟨a, xs, rfl, ta, da⟩ := v1.lst e1
      obtain ⟨b, ys, rfl, tb, db⟩ := v2.lst e2
      refine .inr (.inr ⟨a, b, xs, ys, rfl, rfl, ta, tb, by rw [da.length, db.length]; exact h.1, fun p hp => ?_⟩)
      exact q (.ref p) _ (.ls (as ++ bs)) (.new hp) ⟨p, _, rfl, hp, rfl, da.append db⟩ h.2
    · exact h.elim
/-! ### other arithmetic -/
def gII (C : Int → Int → Prop) (f : Int → Int → D) : G2 := fun m n G => match m, n with
  | .im (.int i), .im (.int j) => C i j ∧ G (.im (f i j))
  | _, _ => False
def gI0 (f : Int → Int → D) : G2 := fun m n G => match m, n with
  | .im (.int i), .im (.int j) => G (.im (f i j))
  | _, _ => False
theorem opII {f : Value → Value → Sem Value} {C : Int → Int → Prop} {g : Int → Int → Int} (h : OpR X f (rI C fun i j => .int (g i j))) : OpG X f (gII C fun i j => .int (g i j)) := by
  refine opG h fun x y H k h => ?_
  obtain ⟨o, m1, m2, G, mu, v1, v2, h, q⟩ := h
  unfold gII at h
  split at h
  · rename_i i j
    exact ⟨i, j, v1.int, v2.int, h.1, qim q (.int _) h.2⟩
  · exact h.elim
theorem opI0' {f : Value → Value → Sem Value} {g : Int → Int → Int} (h : OpR X f (rI0 fun i j => .int (g i j))) : OpG X f (gI0 fun i j => .int (g i j)) := by
  refine opG h fun x y H k h => ?_
  obtain ⟨o, m1, m2, G, mu, v1, v2, h, q⟩ := h
  unfold gI0 at h
  split at h
  · rename_i i j
    exact ⟨i, j, v1.int, v2.int, qim q (.int _) h⟩
  · exact h.elim
theorem opIB {f : Value → Value → Sem Value} {g : Int → Int → Bool} (h : OpR X f (rI0 fun i j => .bl (g i j))) : OpG X f (gI0 fun i j => .bl (g i j)) := by
  refine opG h fun x y H k h => ?_
  obtain ⟨o, m1, m2, G, mu, v1, v2, h, q⟩ := h
  unfold gI0 at h
  split at h
  · rename_i i j
    exact ⟨i, j, v1.int, v2.int, qim q (.bl _) h⟩
  · exact h.elim
def gSub : G2 := gI0 fun i j => .int (i - j)
def gMul : G2 := gII CMulW fun i j => .int (i * j)
def gDiv : G2 := gII CDivW fun i j => .int (i / j)
def gMod : G2 := gII (fun _ j => 0 < j) fun i j => .int (i % j)
def gPow : G2 := gII CPow fun i j => .int (i ^ j.toNat)
def gLt : G2 := gI0 fun i j => .bl (decide (i < j))
def gLe : G2 := gI0 fun i j => .bl (decide (i ≤ j))
def gGt : G2 := gI0 fun i j => .bl (decide (j < i))
def gGe : G2 := gI0 fun i j => .bl (decide (j ≤ i))
theorem sub_ok : OpG X (binaryOp .Sub) gSub := opI0' op_sub
theorem mul_ok : OpG X (binaryOp .Mult) gMul := opII op_mulW
theorem div_ok : OpG X (binaryOp .FloorDiv) gDiv := opII op_fdivW
theorem mod_ok : OpG X (binaryOp .Mod) gMod := opII op_mod
theorem pow_ok : OpG X (binaryOp .Pow) gPow := opII op_pow
theorem lt_ok : OpG X (compareOp .Lt) gLt := opIB op_lt
theorem le_ok : OpG X (compareOp .LtE) gLe := opIB op_le
theorem gt_ok : OpG X (compareOp .Gt) gGt := opIB op_gt
theorem ge_ok : OpG X (compareOp .GtE) gGe := opIB op_ge

/-! ### == and != -/
def gEqs (neg : Bool) : G2 := fun m n G => match m, n with
  | .im (.int i), .im (.int j) => G (.im (.bl (neg ^^ decide (i = j))))
  | .im (.str i), .im (.str j) => G (.im (.bl (neg ^^ decide (i = j))))
  | m, n => match m.dat?, n.dat? with
    | some d, some e => D.ok 64 d = true ∧ D.ok 64 e = true ∧ G (.im (.bl (neg ^^ D.eqv d e)))
    | _, _ => False
theorem eq_ok (hu : X.A.units + 64 < cLine) : OpG X (compareOp .Eq) (gEqs false) := by
  refine opG (op_eq.or (op_eqD hu)) fun x y H k h => ?_
  obtain ⟨o, m1, m2, G, mu, v1, v2, h, q⟩ := h
  unfold gEqs at h
  split at h
  · rename_i i j
    refine .inl ?_
    rw [v1.int, v2.int]
    refine ⟨rfl, ?_⟩
    rw [show decide (V.int i = V.int j) = decide (i = j) by rw [dec_int]; exact Bool.beq_eq_decide_eq _ _]
    exact qim q (.bl _) (by simpa using h)
  · rename_i i j
    refine .inl ?_
    rw [v1.str, v2.str]
    refine ⟨rfl, ?_⟩
    rw [show decide (V.str i = V.str j) = decide (i = j) by rw [dec_str]; exact Bool.beq_eq_decide_eq _ _]
    exact qim q (.bl _) (by simpa using h)
  · split at h
    · rename_i d e e1 e2
      refine .inr ⟨d.py, e.py, v1.dp e1 h.1, v2.dp e2 h.2.1, D.ok_shaped h.1, D.ok_shaped h.2.1, ?_⟩
      exact qim q (.bl _) (by have := h.2.2; rwa [Bool.false_xor] at this)
    · exact h.elim
theorem ne_ok (hu : X.A.units + 64 < cLine) : OpG X (compareOp .NotEq) (gEqs true) := by
  refine opG (op_ne.or (op_neD hu)) fun x y H k h => ?_
  obtain ⟨o, m1, m2, G, mu, v1, v2, h, q⟩ := h
  unfold gEqs at h
  split at h
  · rename_i i j
    refine .inl ?_
    rw [v1.int, v2.int]
    refine ⟨rfl, ?_⟩
    rw [show decide (V.int i = V.int j) = decide (i = j) by rw [dec_int]; exact Bool.beq_eq_decide_eq _ _]
    exact qim q (.bl _) (by simpa using h)
  · rename_i i j
    refine .inl ?_
    rw [v1.str, v2.str]
    refine ⟨rfl, ?_⟩
    rw [show decide (V.str i = V.str j) = decide (i = j) by rw [dec_str]; exact Bool.beq_eq_decide_eq _ _]
    exact qim q (.bl _) (by simpa using h)
  · split at h
    · rename_i d e e1 e2
      refine .inr ⟨d.py, e.py, v1.dp e1 h.1, v2.dp e2 h.2.1, D.ok_shaped h.1, D.ok_shaped h.2.1, ?_⟩
      exact qim q (.bl _) (by have := h.2.2; rwa [Bool.true_xor] at this)
    · exact h.elim

/-! ### is None, is True -/
def M.isNon : M → Option Bool
  | .im .non => some true
  | .im (.raw _) => none
  | _ => some false
theorem Vw.isNon {v : V} {m : M} {b : Bool} (h : Vw K o H v m) (e : m.isNon = some b) : decide (v = .non) = b := by
  cases m with
  | im d =>
    cases d with
    | non => cases e; rw [h.non]; rfl
    | bl z => cases e; rw [h.bl]; rfl
    | int z => cases e; rw [h.int]; rfl
    | str z => cases e; rw [h.str]; rfl
    | raw _ => cases e
    | tup ds => cases e; obtain ⟨a, xs, rfl, _⟩ := h.tup; rfl
    | lst ds => cases e; obtain ⟨a, xs, rfl, _⟩ := h.lst rfl; rfl
  | ls ds => cases e; obtain ⟨a, xs, rfl, _⟩ := h.lq rfl; rfl
  | sq ds => cases e; obtain ⟨a, xs, rfl, _⟩ := h.lq rfl; rfl
  | rd ds => cases e; obtain ⟨a, xs, rfl, _⟩ := h.lq rfl; rfl
  | dk kvs => cases e; obtain ⟨l, a, ks, rfl, _⟩ := h; rfl
  | dt kvs => cases e; obtain ⟨l, a, ks, rfl, _⟩ := h; rfl
def gIs (neg : Bool) : G2 := fun m n G => match m, n with
  | .im (.bl i), .im (.bl j) => G (.im (.bl (neg ^^ decide (i = j))))
  | m, .im .non => match m.isNon with
    | some b => G (.im (.bl (neg ^^ b)))
    | none => False
  | _, _ => False
theorem is_ok : OpG X (compareOp .Is) (gIs false) := by
  refine opG (op_isN.or op_isBl) fun x y H k h => ?_
  obtain ⟨o, m1, m2, G, mu, v1, v2, h, q⟩ := h
  unfold gIs at h
  split at h
  · rename_i i j
    exact .inr ⟨i, j, v1.bl, v2.bl, qim q (.bl _) (by rwa [Bool.false_xor] at h)⟩
  · split at h
    · rename_i b e
      refine .inl ⟨v2.non, ?_⟩
      rw [v1.isNon e]
      exact qim q (.bl _) (by rwa [Bool.false_xor] at h)
    · exact h.elim
  · exact h.elim
theorem isnot_ok : OpG X (compareOp .IsNot) (gIs true) := by
  refine opG (op_notN.or op_notBl) fun x y H k h => ?_
  obtain ⟨o, m1, m2, G, mu, v1, v2, h, q⟩ := h
  unfold gIs at h
  split at h
  · rename_i i j
    exact .inr ⟨i, j, v1.bl, v2.bl, qim q (.bl _) (by rwa [Bool.true_xor] at h)⟩
  · split at h
    · rename_i b e
      refine .inl ⟨v2.non, ?_⟩
      rw [v1.isNon e]
      exact qim q (.bl _) (by rwa [Bool.true_xor] at h)
    · exact h.elim
  · exact h.elim

/-! ### dicts: keys -/
def D.key? : D → Option Key
  | .int i => some (.inl i)
  | .str x => some (.inr x)
  | _ => none
def D.keys? : List D → Option (List Key)
  | [] => some []
  | d :: ds => match d.key?, D.keys? ds with
    | some k, some ks => some (k :: ks)
    | _, _ => none
theorem Dat.key {v : V} {d : D} {k : Key} (h : Dat K o H v d) (e : d.key? = some k) : v = kV k := by
  cases d with
  | int i => cases e; cases h; rfl
  | str i => cases e; cases h; rfl
  | _ => cases e
theorem Dats.keys : ∀ {vs : List V} {ds : List D} {ks : List Key}, Dats K o H vs ds → D.keys? ds = some ks → vs = ks.map kV
  | _, _, _, .nil, e => by simp [D.keys?] at e; subst e; rfl
  | _, _, _, .cons a r, e => by
    unfold D.keys? at e
    split at e
    · rename_i k ks e1 e2
      cases e
      rw [a.key e1, Dats.keys r e2]; rfl
    · cases e
section
variable {κ : Type} [DecidableEq κ]
def getK (kvs : List (κ × D)) (k : κ) : Option D := (kvs.find? fun kv => decide (kv.1 = k)).map (·.2)
def putD (kvs : List (κ × D)) (k : κ) (d : D) : List (κ × D) := if (kvs.any fun kv => decide (kv.1 = k)) = true then kvs.map (fun kv => if kv.1 = k then (kv.1, d) else kv) else kvs ++ [(k, d)]
def RelD (K : PySem.W.Frag) (o : Own) (H : Hp) : Option V → Option D → Prop
  | some v, some d => Dat K o H v d
  | none, none => True
  | _, _ => False
theorem Kvs.val {ks : List (κ × V)} {kvs : List (κ × D)} (h : Kvs K o H ks kvs) (k : κ) : RelD K o H (valV ks k) (getK kvs k) := by
  unfold Kvs at h
  induction h with
  | nil => exact trivial
  | @cons p q ps qs a t ih =>
    by_cases e : p.1 = k
    · have e2 : q.1 = k := a.1 ▸ e
      simp only [valV, getK, List.find?_cons, e, e2, decide_true, Option.map_some]
      exact a.2
    · have e2 : ¬ q.1 = k := a.1 ▸ e
      simp only [valV, getK, List.find?_cons, e, e2, decide_false] at ih ⊢
      exact ih
theorem Kvs.any {ks : List (κ × V)} {kvs : List (κ × D)} (h : Kvs K o H ks kvs) (k : κ) : (ks.any fun kv => decide (kv.1 = k)) = kvs.any fun kv => decide (kv.1 = k) := by
  unfold Kvs at h
  induction h with
  | nil => rfl
  | @cons p q ps qs a t ih => rw [List.any_cons, List.any_cons, ih, a.1]
theorem Kvs.append {ks ls : List (κ × V)} {kvs lvs : List (κ × D)} (h : Kvs K o H ks kvs) (g : Kvs K o H ls lvs) : Kvs K o H (ks ++ ls) (kvs ++ lvs) := by
  unfold Kvs at h
  induction h with
  | nil => exact g
  | cons a t ih => exact .cons a ih
theorem Kvs.put {ks : List (κ × V)} {kvs : List (κ × D)} (h : Kvs K o H ks kvs) (k : κ) {v : V} {d : D} (r : Dat K o H v d) : Kvs K o H (putK ks k v) (putD kvs k d) := by
  unfold putK putD
  rw [h.any k]
  split
  · rename_i hh
    clear hh
    unfold Kvs at h
    induction h with
    | nil => exact .nil
    | @cons p q ps qs a t ih =>
      refine .cons ?_ ih
      show (if p.1 = k then (p.1, v) else p).1 = (if q.1 = k then (q.1, d) else q).1 ∧ Dat K o H (if p.1 = k then (p.1, v) else p).2 (if q.1 = k then (q.1, d) else q).2
      rw [← a.1]
      by_cases e : p.1 = k
      · rw [if_pos e, if_pos e]; exact ⟨rfl, r⟩
      · rw [if_neg e, if_neg e]; exact a
  · exact h.append (.cons ⟨rfl, r⟩ .nil)
theorem Kvs.length {ks : List (κ × V)} {kvs : List (κ × D)} (h : Kvs K o H ks kvs) : ks.length = kvs.length := Paired.length h
end
/-- a dict at a key: what it holds -/
def dGet (m : M) (d : D) : Option (Option D) := match m, d with
  | .dk kvs, d => match d.key? with
    | some k => some (getK kvs k)
    | none => none
  | .dt kvs, .tup ds => match D.keys? ds with
    | some k => some (getK kvs k)
    | none => none
  | _, _ => none
theorem dGet_ok {x y : V} {m : M} {d : D} {r : Option D} (h : Vw K o H x m) (g : Dat K o H y d) (e : dGet m d = some r) : ∃ a w, x = .ref a ∧ DGet H a y w ∧ RelD K o H w r := by
  unfold dGet at e
  split at e
  · rename_i kvs
    split at e
    · rename_i k ek
      cases e
      obtain ⟨l, a, ks, rfl, _, ha, q⟩ := h
      rw [g.key ek]
      exact ⟨a, _, rfl, DGet.k ha, q.val k⟩
    · cases e
  · rename_i kvs ds
    split at e
    · rename_i k ek
      cases e
      obtain ⟨l, a, ks, rfl, _, ha, q⟩ := h
      cases g with
      | tup t r =>
        have z := r.keys ek
        subst z
        exact ⟨a, _, rfl, DGet.t ha t.2, q.val k⟩
    · cases e
  · cases e
end

/-! ### in -/
def gIns (neg : Bool) : G2 := fun m n G => match n with
  | .dk kvs => match m with
    | .im d => match dGet (.dk kvs) d with
      | some r => G (.im (.bl (neg ^^ r.isSome)))
      | none => False
    | _ => False
  | .dt kvs => match m with
    | .im d => match dGet (.dt kvs) d with
      | some r => G (.im (.bl (neg ^^ r.isSome)))
      | none => False
    | _ => False
  | .im (.str x) => match m with
    | .im (.str y) => G (.im (.bl (neg ^^ !(Builtin.Str.occurrences x y 0 x.length 1).isEmpty)))
    | _ => False
  | .im (.tup ds) => match m with
    | .im d => D.ok 64 d = true ∧ D.oks 63 ds = true ∧ G (.im (.bl (neg ^^ ds.any fun z => z.eqv d)))
    | _ => False
  | n => match n.lq? with
    | some ds => match m with
      | .im d => D.ok 64 d = true ∧ D.oks 63 ds = true ∧ G (.im (.bl (neg ^^ ds.any fun z => z.eqv d)))
      | _ => False
    | none => False
section
variable {X : Cx}
def rInT (K : PySem.W.Frag) (neg : Bool) : R2 := fun x y H Q => ∃ d ds, Dp K H x d ∧ Dp K H y (.tuple ds) ∧ SeqAt.shaped d = true ∧ SeqAt.shaped (.tuple ds) = true ∧ Q (.bl (neg ^^ ds.any fun z => PyData.eqv z d)) H
theorem op_inT (hu : X.A.units + 65 < cLine) : OpR X (compareOp .In) (rInT X.K false) := fun _ _ _ H _ _ _ _ _ I rx ry ⟨d, ds, hd, he, sd, se, q⟩ =>
  let ⟨_, e1⟩ := Dp.reads I (.tuple ds) _ _ he ry
  let ⟨_, e2⟩ := Dp.reads I d _ _ hd rx
  SeqAt.in_tuple_reads e1 e2 (SeqAt.canLay_of_shaped se) (SeqAt.canLay_of_shaped sd) (PyProof.Rows.room_in_shaped sd hu) ⟨.bl _, H, I, rfl, by rwa [Bool.false_xor] at q⟩
theorem op_notInT (hu : X.A.units + 65 < cLine) : OpR X (compareOp .NotIn) (rInT X.K true) := fun _ _ _ H _ _ _ _ _ I rx ry ⟨d, ds, hd, he, sd, se, q⟩ =>
  let ⟨_, e1⟩ := Dp.reads I (.tuple ds) _ _ he ry
  let ⟨_, e2⟩ := Dp.reads I d _ _ hd rx
  SeqAt.notIn_tuple_reads e1 e2 (SeqAt.canLay_of_shaped se) (SeqAt.canLay_of_shaped sd) (PyProof.Rows.room_in_shaped sd hu) ⟨.bl _, H, I, rfl, by rwa [Bool.true_xor] at q⟩
def rDin (neg : Bool) : R2 := fun y x H Q => ∃ a w, x = .ref a ∧ DGet H a y w ∧ Q (.bl (neg ^^ w.isSome)) H
theorem op_din (hu : X.A.units + 1 < cLine) : OpR X (compareOp .In) (rDin false) := by
  rintro pins s σ H x _ v _ Q I rx ry ⟨a, w, rfl, g, q⟩
  obtain rfl := ry
  exact d_in hu I g rx fun s3 I3 => ⟨.bl w.isSome, H, I3, rfl, by rwa [Bool.false_xor] at q⟩
theorem op_dnotin (hu : X.A.units + 1 < cLine) : OpR X (compareOp .NotIn) (rDin true) := by
  rintro pins s σ H x _ v _ Q I rx ry ⟨a, w, rfl, g, q⟩
  obtain rfl := ry
  exact d_notIn hu I g rx fun s3 I3 => ⟨.bl (!w.isSome), H, I3, rfl, by rwa [Bool.true_xor] at q⟩
theorem any_eqv {d : D} : ∀ ds : List D, ((D.pys ds).any fun z => PyData.eqv z d.py) = ds.any fun z => z.eqv d
  | [] => rfl
  | e :: ds => by simp only [D.pys, List.any_cons, D.eqv]; rw [any_eqv ds]; rfl
theorem RelD.some_eq {K : PySem.W.Frag} {o : Own} {H : Hp} {w : Option V} {r : Option D} (h : RelD K o H w r) : w.isSome = r.isSome := by
  cases w <;> cases r <;> first | rfl | exact h.elim
theorem ins_ok {neg : Bool} {op : CmpOp} (h1 : OpR X (compareOp op) (rDin neg)) (h2 : OpR X (compareOp op) (fun x y H Q => ∃ i j, x = .str i ∧ y = .str j ∧ Q (.bl (neg ^^ !(Builtin.Str.occurrences j i 0 j.length 1).isEmpty)) H))
    (h3 : OpR X (compareOp op) (rInT X.K neg)) (h4 : OpR X (compareOp op) (fun x y H Q => ∃ d ds, Dp X.K H x d ∧ Dp X.K H y (.list ds) ∧ SeqAt.shaped d = true ∧ SeqAt.shaped (.list ds) = true ∧ Q (.bl (neg ^^ ds.any fun z => PyData.eqv z d)) H)) :
    OpG X (compareOp op) (gIns neg) := by
  refine opG ((h1.or h2).or (h3.or h4)) fun x y H k h => ?_
  obtain ⟨o, m1, m2, G, mu, v1, v2, h, q⟩ := h
  unfold gIns at h
  split at h
  · split at h
    · split at h
      · rename_i r e
        obtain ⟨l, g⟩ := v1
        obtain ⟨a, w, rfl, z, rd⟩ := dGet_ok v2 g e
        refine .inl (.inl ⟨a, w, rfl, z, ?_⟩)
        rw [rd.some_eq]
        exact qim q (.bl _) h
      · exact h.elim
    · exact h.elim
  · split at h
    · split at h
      · rename_i r e
        obtain ⟨l, g⟩ := v1
        obtain ⟨a, w, rfl, z, rd⟩ := dGet_ok v2 g e
        refine .inl (.inl ⟨a, w, rfl, z, ?_⟩)
        rw [rd.some_eq]
        exact qim q (.bl _) h
      · exact h.elim
    · exact h.elim
  · split at h
    · rename_i x' y'
      exact .inl (.inr ⟨_, _, v1.str, v2.str, qim q (.bl _) h⟩)
    · exact h.elim
  · rename_i ds
    split at h
    · rename_i d
      obtain ⟨h1, h2, h⟩ := h
      have e2 : D.ok 64 (.tup ds) = true := by simp only [D.ok]; exact h2
      have p2 := v2.dp (d := .tup ds) rfl e2
      simp only [D.py] at p2
      refine .inr (.inl ⟨d.py, D.pys ds, v1.dp rfl h1, p2, D.ok_shaped h1, by have := D.ok_shaped e2; simpa only [D.py] using this, ?_⟩)
      rw [any_eqv]
      exact qim q (.bl _) h
    · exact h.elim
  · split at h
    · rename_i ds e
      split at h
      · rename_i d
        obtain ⟨h1, h2, h⟩ := h
        have e2 : D.ok 64 (.lst ds) = true := by simp only [D.ok]; exact h2
        obtain ⟨a, xs, rfl, g, r⟩ := v2.lq e
        have p2 : Dp X.K H (.ref a) (D.lst ds).py := by simp only [D.py]; exact .lst g (r.dp h2)
        simp only [D.py] at p2
        refine .inr (.inr ⟨d.py, D.pys ds, v1.dp rfl h1, p2, D.ok_shaped h1, by have := D.ok_shaped e2; simpa only [D.py] using this, ?_⟩)
        rw [any_eqv]
        exact qim q (.bl _) h
      · exact h.elim
    · exact h.elim
theorem in_ok (hu : X.A.units + 65 < cLine) : OpG X (compareOp .In) (gIns false) := by
  refine ins_ok (op_din (by omega)) ?_ (op_inT hu) ?_
  · intro pins s σ H x y v u Q I rx ry ⟨i, j, a, b, q⟩
    exact op_in_str pins s σ H x y v u Q I rx ry ⟨i, j, a, b, by rwa [Bool.false_xor] at q⟩
  · intro pins s σ H x y v u Q I rx ry ⟨i, j, a, b, c, d, q⟩
    exact op_inD hu pins s σ H x y v u Q I rx ry ⟨i, j, a, b, c, d, by rwa [Bool.false_xor] at q⟩
theorem notin_ok (hu : X.A.units + 65 < cLine) : OpG X (compareOp .NotIn) (gIns true) := by
  refine ins_ok (op_dnotin (by omega)) ?_ (op_notInT hu) ?_
  · intro pins s σ H x y v u Q I rx ry ⟨i, j, a, b, q⟩
    exact op_notIn_str pins s σ H x y v u Q I rx ry ⟨i, j, a, b, by rwa [Bool.true_xor] at q⟩
  · intro pins s σ H x y v u Q I rx ry ⟨i, j, a, b, c, d, q⟩
    exact op_notInD hu pins s σ H x y v u Q I rx ry ⟨i, j, a, b, c, d, by rwa [Bool.true_xor] at q⟩
end
end Y
namespace Y
open PySem PySem.Spec L2

section
variable {K : PySem.W.Frag} {c : Cc} {o o' : Own} {σ : St} {H H' : Hp} {ρ ρ' : Env} {τ τ' τ0 τ1 : List (V × M)} {X : Cx} {e a b : Expr} {es : List Expr} {pos : Pos} {t ta tb : TX}
/-! ### what is put into a tuple or a list becomes data -/
def froz : Env → List R → Option (List D × Env)
  | ρ, [] => some ([], ρ)
  | ρ, .im d :: rs => match froz ρ rs with
    | some (ds, ρ') => some (d :: ds, ρ')
    | none => none
  | ρ, .tm (.ls es) :: rs => match froz ρ rs with
    | some (ds, ρ') => some (.lst es :: ds, ρ')
    | none => none
  | ρ, .sl i :: rs => match ρ[i]? with
    | some s => match s.m? with
      | some (.ls es) => match froz (ρ.set i .no) rs with
        | some (ds, ρ') => some (.lst es :: ds, ρ')
        | none => none
      | _ => none
    | none => none
  | _, _ => none
/-- an item once the temporaries are let go -/
def ElR (K : PySem.W.Frag) (o : Own) (H : Hp) (σ : St) (v : V) : R → Prop
  | .im d => Dat K o H v d
  | .tm (.ls es) => Dat K o H v (.lst es)
  | .tm _ => True
  | .sl i => σ[i]? = some (some v)
theorem ElR.mono (L : Le o H o' H') {v : V} : ∀ {r : R}, ElR K o H σ v r → ElR K o' H' σ v r
  | .im _, h => Dat.mono L h
  | .tm (.ls _), h => Dat.mono L h
  | .tm (.im _), _ => trivial
  | .tm (.sq _), _ => trivial
  | .tm (.rd _), _ => trivial
  | .tm (.dk _), _ => trivial
  | .tm (.dt _), _ => trivial
  | .sl _, h => h
theorem RelRs.els {ρ0 : Env} {base : Nat} : ∀ {vs rs τ τ1}, RelRs K o H σ vs rs τ τ1 → base ≤ τ.length → (∀ j v m, τ1[j]? = some (v, m) → IsM K o H (.t j) v m) → Paired (ElR K (dropT base o) H σ) vs rs
  | _, _, _, _, .nil, _, _ => .nil
  | _, _, _, _, .cons (v := v) (r := r) (τ := τ) (τ1 := τ1) a t, hb, h => by
    have hb2 : base ≤ τ1.length := Nat.le_trans hb a.pre.length_le
    refine .cons ?_ (RelRs.els (ρ0 := ρ0) t hb2 h)
    cases r with
    | im d => exact a.2.mono (dropT_le _)
    | sl i => exact a.2
    | tm m =>
      have e : τ1 = τ ++ [(v, m)] := a
      obtain ⟨w, hw⟩ := t.pre
      have q : IsM K o H (.t τ.length) v m := h τ.length v m (by rw [← hw, e]; simp)
      cases m with
      | ls ds =>
        obtain ⟨ad, xs, rfl, ho, hH, dd⟩ := q
        refine Dat.lst ?_ hH (dd.mono (dropT_le _))
        unfold dropT
        rw [ho]
        show (if τ.length < base then _ else none) = none
        rw [if_neg (by omega)]
      | im _ => trivial
      | sq _ => trivial
      | rd _ => trivial
      | dk _ => trivial
      | dt _ => trivial
theorem SlOk.ofS {i : Nat} {s : Sl} {es : List D} (h : SlOk K c o σ H i s) (e : s.m? = some (.ls es)) : ∃ v, σ[i]? = some (some v) ∧ IsM K o H (.s i) v (.ls es) := by
  cases s with
  | no => cases e
  | lo z => cases e; obtain ⟨v, a, q⟩ := h; exact ⟨v, a, q⟩
  | pa z => cases e; obtain ⟨v, a, _, q⟩ := h; exact ⟨v, a, q⟩
  | hd p v z =>
    cases z with
    | ls ds => cases e
    | _ => cases e
/-- a slot's object is let go -/
def unS (i : Nat) (o : Own) : Own := fun a => if o a = some (.s i) then none else o a
theorem unS_le (i : Nat) : Le o H (unS i o) H := ⟨fun b u e f => ⟨by unfold unS; rw [e]; simp, f⟩, fun b e => ⟨by unfold unS; rw [e]; simp, rfl⟩⟩
theorem Rep.unslot (R0 : Rep K c o σ H ρ τ) (i : Nat) : Rep K c (unS i o) σ H (ρ.set i .no) τ := by
  refine ⟨fun j s e => ?_, fun j v m e => ⟨(R0.tm j v m e).1.mono (unS_le i) fun a q => ⟨by unfold unS; rw [q]; simp, rfl⟩, (R0.tm j v m e).2⟩, fun a l e => ?_, R0.le.trans (unS_le i), by rw [List.length_set]; exact R0.ln⟩
  · by_cases hj : i = j
    · subst hj
      by_cases hl : i < ρ.length
      · rw [List.getElem?_set_self hl] at e; cases e; exact trivial
      · rw [List.getElem?_eq_none (by simpa using hl)] at e; cases e
    · rw [List.getElem?_set_ne hj] at e
      refine (R0.sl j s e).mono (unS_le i) (fun a q => ⟨?_, rfl⟩) fun a q => ⟨by unfold unS; rw [q]; simp, rfl⟩
      unfold unS; rw [q]
      rw [if_neg (by intro z; injection z with z; injection z with z; exact hj z.symm)]
  · unfold unS at e
    split at e
    · cases e
    · exact R0.mu a l e
theorem froz_ok : ∀ {vs : List V} {rs : List R} {o : Own} {ρ ρ' : Env} {ds : List D}, Rep K c o σ H ρ τ → Paired (ElR K o H σ) vs rs → froz ρ rs = some (ds, ρ') →
    ∃ o', Le o H o' H ∧ Rep K c o' σ H ρ' τ ∧ Dats K o' H vs ds
  | _, _, o, ρ, _, _, R0, .nil, e => by simp [froz] at e; obtain ⟨rfl, rfl⟩ := e; exact ⟨o, .refl, R0, .nil⟩
  | _, r :: rs, o, ρ, _, _, R0, .cons a t, e => by
    unfold froz at e
    split at e
    · rename_i hh; cases hh
    · rename_i ρ0 d rs' hh
      cases hh
      split at e
      · rename_i ds' ρ1 e1
        cases e
        obtain ⟨o', L, R1, dd⟩ := froz_ok R0 t e1
        exact ⟨o', L, R1, .cons (Dat.mono L a) dd⟩
      · cases e
    · rename_i ρ0 es' rs' hh
      cases hh
      split at e
      · rename_i ds' ρ1 e1
        cases e
        obtain ⟨o', L, R1, dd⟩ := froz_ok R0 t e1
        exact ⟨o', L, R1, .cons (Dat.mono L (show Dat K o H _ (.lst es') from a)) dd⟩
      · cases e
    · rename_i ρ0 i rs' hh
      cases hh
      split at e
      · rename_i s hs
        split at e
        · rename_i es' hm
          split at e
          · rename_i ds' ρ1 e1
            cases e
            obtain ⟨v, hv, z⟩ := (R0.sl i s hs).ofS hm
            have hv2 : σ[i]? = some (some _) := a
            rw [hv2] at hv; cases hv
            have R1 := R0.unslot i
            have L1 : Le o H (unS i o) H := unS_le i
            obtain ⟨o', L, R2, dd⟩ := froz_ok R1 (Paired.mapP t fun _ _ q => q.mono L1) e1
            obtain ⟨ad, xs, rfl, ho, hH, dz⟩ := z
            refine ⟨o', L1.trans L, R2, .cons ?_ dd⟩
            refine Dat.mono L (.lst ?_ hH (dz.mono L1))
            unfold unS
            rw [ho]; simp
          · cases e
        · cases e
      · cases e
    · cases e
def tFrz (ta : TL) (f : List D → Env → Prop) : Env → Prop := fun ρ => ta ρ fun rs ρ1 => match froz ρ1 rs with
  | some (ds, ρ2) => f ds ρ2
  | none => False
def tTp (ta : TL) : TX := fun ρ Q => tFrz ta (fun ds ρ2 => ds.length ≤ sizeLine ∧ Q (.im (.tup ds)) ρ2) ρ
def tLs (ta : TL) : TX := fun ρ Q => tFrz ta (fun ds ρ2 => ds.length ≤ sizeLine ∧ Q (.tm (.ls ds)) ρ2) ρ
theorem tFrz_of {ta : TL} {f : List D → Env → Prop} {k : List V → Hp → Prop} (R0 : Rep K c o σ H ρ τ) (h : tFrz ta f ρ)
    (q : ∀ vs H' o' ds ρ', Le o H o' H' → Rep K c o' σ H' ρ' τ → Dats K o' H' vs ds → f ds ρ' → k vs H') : TAo K c ta σ H k := by
  refine ⟨o, ρ, τ, _, R0, h, fun vs H1 o1 rs ρ1 τ1 L1 R1 z1 h1 => ?_⟩
  split at h1
  · rename_i ds ρ2 e
    have R2 := R1.drop z1.pre
    have els := z1.els (ρ0 := ρ1) (base := τ.length) (Nat.le_refl _) (fun j v m e => (R1.tm j v m e).1)
    obtain ⟨o', L, R3, dd⟩ := froz_ok R2 els e
    exact q vs H1 o' ds ρ2 (L1.trans ((dropT_le _).trans L)) R3 dd h1
  · exact h1.elim
theorem de_tup {x1} {ta : TL} (h : DA X c es ta) : DE X c (.Tuple es x1 pos) (tTp ta) := peImp (pe_tup h) fun σ H k h => by
  obtain ⟨o, ρ, τ, Q, R0, h, q⟩ := h
  refine tFrz_of R0 h fun vs H1 o1 ds ρ1 L1 R1 dd h1 => ?_
  refine ⟨by rw [dd.length]; exact h1.1, fun p hp => ?_⟩
  exact q _ _ o1 (.im (.tup ds)) ρ1 τ (L1.trans ((Grow.new hp).le R1.mu)) (R1.grow (.new hp)) ⟨rfl, newTup R1.mu hp dd⟩ h1.2
theorem de_lst {ta : TL} (h : DA X c es ta) : DE X c (.List es pos) (tLs ta) := peImp (pe_lst h) fun σ H k h => by
  obtain ⟨o, ρ, τ, Q, R0, h, q⟩ := h
  refine tFrz_of R0 h fun vs H1 o1 ds ρ1 L1 R1 dd h1 => ?_
  refine ⟨by rw [dd.length]; exact h1.1, fun p hp => ?_⟩
  obtain ⟨o', τ', L, R', z⟩ := R1.made (m := .ls ds) List.prefix_rfl (.new hp) ⟨p, vs, rfl, hp, rfl, dd⟩
  exact q _ _ o' _ ρ1 τ' (L1.trans L) R' z h1.2

/-! ### subscripts -/
def atD {α : Type} (xs : List α) (i : Int) : Option α := atI xs i
theorem atI_D {vs : List V} {ds : List D} {i : Int} {d : D} (h : Dats K o H vs ds) (e : atI ds i = some d) : ∃ v, atI vs i = some v ∧ Dat K o H v d := by
  unfold atI at e ⊢
  rw [h.length]
  cases q : ixN ds.length i with
  | none => rw [q] at e; cases e
  | some j => rw [q] at e; exact h.get e
def gIx : G2 := fun m n G => match m, n with
  | .dk kvs, .im d => match dGet (.dk kvs) d with
    | some (some r) => G (.im r)
    | _ => False
  | .dt kvs, .im d => match dGet (.dt kvs) d with
    | some (some r) => G (.im r)
    | _ => False
  | .im (.tup ds), .im (.int i) => match atI ds i with
    | some d => G (.im d)
    | none => False
  | .im (.str x), .im (.int i) => x.length ≤ sizeLine ∧ match atI x.cps.toList i with
    | some ch => G (.im (.str ⟨#[ch]⟩))
    | none => False
  | m, .im (.int i) => match m.lq? with
    | some ds => match atI ds i with
      | some d => G (.im d)
      | none => False
    | none => False
  | _, _ => False
def rDgt : R2 := fun x y H Q => ∃ a v, x = .ref a ∧ DGet H a y (some v) ∧ Q v H
theorem ix_dict (hu : X.A.units + 1 < cLine) : IxR X rDgt := by
  rintro value slice pins s σ H _ y _ u Q I rx ry ⟨a, w, rfl, g, q⟩ hs
  obtain rfl := rx
  exact PyProof.Rows.tail_any (dict_typeIs I g) PySem.F.slot_dict_getitem.lookup (d_getItem hu I g ry fun w' s3 I3 rw' => ⟨w, H, I3, rw', q⟩) hs
theorem RelD.get {w : Option V} {d : D} (h : RelD K o H w (some d)) : ∃ v, w = some v ∧ Dat K o H v d := by
  cases w with
  | none => exact h.elim
  | some v => exact ⟨v, rfl, h⟩
theorem ix_ok (hu : X.A.units + 1 < cLine) : IxR X (rOp X.K gIx) := by
  have B := (ix_dict hu).or (ix_list.or (ix_tup.or ix_str))
  refine fun value slice pins s σ H x y v u Q I rx ry h hs => B value slice pins s σ H x y v u Q I rx ry ?_ hs
  obtain ⟨o, m1, m2, G, mu, v1, v2, h, q⟩ := h
  unfold gIx at h
  split at h
  · split at h
    · rename_i r e
      obtain ⟨l, g⟩ := v2
      obtain ⟨a, w, rfl, z, rd⟩ := dGet_ok v1 g e
      obtain ⟨w', rfl, dw⟩ := rd.get
      exact .inl ⟨a, w', rfl, z, qim q dw h⟩
    · exact h.elim
  · split at h
    · rename_i r e
      obtain ⟨l, g⟩ := v2
      obtain ⟨a, w, rfl, z, rd⟩ := dGet_ok v1 g e
      obtain ⟨w', rfl, dw⟩ := rd.get
      exact .inl ⟨a, w', rfl, z, qim q dw h⟩
    · exact h.elim
  · split at h
    · rename_i d e
      obtain ⟨a, xs, rfl, ht, dd⟩ := v1.tup
      obtain ⟨w, ew, dw⟩ := atI_D dd e
      exact .inr (.inr (.inl ⟨a, xs, _, w, rfl, v2.int, ht.sq, ew, qim q dw h⟩))
    · exact h.elim
  · obtain ⟨h0, h⟩ := h
    split at h
    · rename_i d e
      exact .inr (.inr (.inr ⟨_, _, _, v1.str, v2.int, h0, e, qim q (.str _) h⟩))
    · exact h.elim
  · split at h
    · rename_i ds el
      split at h
      · rename_i d e
        obtain ⟨a, xs, rfl, ht, dd⟩ := v1.lq el
        obtain ⟨w, ew, dw⟩ := atI_D dd e
        exact .inr (.inl ⟨a, xs, _, w, rfl, v2.int, ht, ew, qim q dw h⟩)
      · exact h.elim
    · exact h.elim
  · exact h.elim
theorem de_ix (hu : X.A.units + 1 < cLine) (ha : DE X c a ta) (hb : DE X c b tb) (hs : PlainIx b := by intro _ _; rfl) : DE X c (.Subscript a b pos) (tBin gIx ta tb) :=
  peImp (pe_ix (ix_ok hu) ha hb hs) fun _ _ _ h => tBin_of h

/-! ### slices -/
abbrev TP' := Env → (Option Int → Env → Prop) → Prop
def TOo (K : PySem.W.Frag) (c : Cc) (t : TP') : TO := fun σ H k => ∃ o ρ τ Q, Rep K c o σ H ρ τ ∧ t ρ Q ∧ ∀ i H' o' ρ', Le o H o' H' → Rep K c o' σ H' ρ' τ → Q i ρ' → k i H'
def DO (X : Cx) (c : Cc) (e : Option Expr) (t : TP') : Prop := PO X e (TOo X.K c t)
theorem poImp {e : Option Expr} {t t' : TO} (h : PO X e t) (f : ∀ σ H k, t' σ H k → t σ H k) : PO X e t' := ⟨fun pins s σ H Q I q => h.run pins s σ H Q I (f _ _ _ q)⟩
def pNo : TP' := fun ρ Q => Q none ρ
def pSo (t : TX) : TP' := fun ρ Q => t ρ fun r ρ1 => match r with
  | .im (.int i) => Q (some i) ρ1
  | _ => False
theorem do_no : DO X c none pNo := poImp po_none fun σ H k ⟨o, ρ, τ, Q, R0, h, q⟩ => q none H o ρ .refl R0 h
theorem do_so (h : DE X c e t) : DO X c (some e) (pSo t) := poImp (po_some h) fun σ H k h => by
  obtain ⟨o, ρ, τ, Q, R0, h, q⟩ := h
  refine ⟨o, ρ, τ, _, R0, h, fun v1 H1 o1 r1 ρ1 τ1 L1 R1 z1 h1 => ?_⟩
  split at h1
  · obtain ⟨rfl, z⟩ := z1
    cases z
    exact ⟨_, rfl, q _ H1 o1 ρ1 L1 R1 h1⟩
  · exact h1.elim
def cutD {α : Type} (xs : List α) (lo hi : Option Int) : List α := (xs.drop (HT.sIx xs.length 0 lo)).take (HT.sIx xs.length xs.length hi - HT.sIx xs.length 0 lo)
theorem Dats.cut {vs : List V} {ds : List D} (h : Dats K o H vs ds) (lo hi : Option Int) : Dats K o H (cutV vs lo hi) (cutD ds lo hi) := by
  unfold cutV cutD
  rw [h.length]
  exact (h.drop _).take _
abbrev G3 := M → Option Int → Option Int → (M → Prop) → Prop
def gSl : G3 := fun m lo hi G => match m with
  | .im (.tup ds) => G (.im (.tup (cutD ds lo hi)))
  | .im (.str x) => x.length ≤ sizeLine ∧ G (.im (.str (Txt.slice x lo hi)))
  | m => match m.lq? with
    | some ds => G (.ls (cutD ds lo hi))
    | none => False
def rSlO (K : PySem.W.Frag) (g : G3) : V → Option Int → Option Int → Hp → VK → Prop := fun x lo hi H k => ∃ o m G, (∀ a l, o a = some l → Mut (H a)) ∧ Vw K o H x m ∧ g m lo hi G ∧ ∀ v H' m', Grow H H' → NewM K o H H' v m' → G m' → k v H'
theorem cut_whole {α : Type} {xs : List α} {lo hi : Option Int} (h : HT.sIx xs.length 0 lo = 0 ∧ HT.sIx xs.length xs.length hi = xs.length) : cutD xs lo hi = xs := by
  unfold cutD
  rw [h.1, h.2]
  simp
theorem sl_ok : SlR X (rSlO X.K gSl) := by
  have B := (sl_tupA (X := X)).or (sl_list.or C8.sl_txt)
  intro pins s σ H x v vl vu lo hi sl Q I rx hs pl pu h
  refine B pins s σ H x v vl vu lo hi sl Q I rx hs pl pu ?_
  obtain ⟨o, m, G, mu, v1, h, q⟩ := h
  unfold gSl at h
  split at h
  · rename_i ds
    obtain ⟨a, xs, rfl, ht, dd⟩ := v1.tup
    refine .inl ⟨a, xs, rfl, ht.sq, fun w => ?_, fun _ p hp => ?_⟩
    · refine qim q (d := .tup ds) (.tup ht dd) ?_
      rw [dd.length] at w
      rwa [cut_whole w] at h
    · exact q _ _ (.im (.tup (cutD ds lo hi))) (.new hp) (newTup mu hp (dd.cut lo hi)) h
  · exact .inr (.inr ⟨_, v1.str, h.1, qim q (.str _) h.2⟩)
  · split at h
    · rename_i ds e
      obtain ⟨a, xs, rfl, ht, dd⟩ := v1.lq e
      exact .inr (.inl ⟨a, xs, rfl, ht, fun p hp => q _ _ (.ls (cutD ds lo hi)) (.new hp) ⟨p, _, rfl, hp, rfl, dd.cut lo hi⟩ h⟩)
    · exact h.elim
def tSlc (t : TX) (tl th : TP') : TX := fun ρ Q => t ρ fun r ρ1 => tl ρ1 fun lo ρ2 => th ρ2 fun hi ρ3 => match vw ρ3 r with
  | some m => gSl m lo hi fun m' => Q m'.res ρ3
  | none => False
theorem de_slice {lo hi : Option Expr} {tl th : TP'} {p2 : Pos} (h : DE X c e t) (hl : DO X c lo tl) (hh : DO X c hi th) : DE X c (.Subscript e (.Slice lo hi none p2) pos) (tSlc t tl th) :=
  peImp (pe_slice sl_ok h hl hh) fun σ H k h => by
    obtain ⟨o, ρ, τ, Q, R0, h, q⟩ := h
    refine ⟨o, ρ, τ, _, R0, h, fun v1 H1 o1 r1 ρ1 τ1 L1 R1 z1 h1 => ?_⟩
    refine ⟨o1, ρ1, τ1, _, R1, h1, fun i H2 o2 ρ2 L2 R2 h2 => ?_⟩
    refine ⟨o2, ρ2, τ1, _, R2, h2, fun j H3 o3 ρ3 L3 R3 h3 => ?_⟩
    split at h3
    · rename_i m e
      have y1 := R3.vw_ok (z1.mono (L2.trans L3)) List.prefix_rfl e
      refine ⟨o3, m, _, R3.mu, y1, h3, fun v H' m' g nm hm => ?_⟩
      obtain ⟨o', τ', L, R', z⟩ := R3.made z1.pre g nm
      exact q v H' o' _ ρ3 τ' (L1.trans (L2.trans (L3.trans L))) R' z hm
    · exact h3.elim

/-! ### calls of built-ins -/
def vws (ρ : Env) : List R → Option (List M)
  | [] => some []
  | r :: rs => match vw ρ r, vws ρ rs with
    | some m, some ms => some (m :: ms)
    | _, _ => none
theorem RelRs.vws (R0 : Rep K c o σ H ρ τ) : ∀ {vs rs τ0 τ1 ms}, RelRs K o H σ vs rs τ0 τ1 → τ1 <+: τ → Y.vws ρ rs = some ms → Paired (Vw K o H) vs ms
  | _, _, _, _, _, .nil, _, e => by simp [Y.vws] at e; subst e; exact .nil
  | _, _, _, _, _, .cons a t, p, e => by
    unfold Y.vws at e
    split at e
    · rename_i m ms e1 e2
      cases e
      exact .cons (R0.vw_ok a (t.pre.trans p) e1) (RelRs.vws R0 t p e2)
    · cases e
abbrev GC := List M → (M → Prop) → Prop
def rCl (K : PySem.W.Frag) (g : GC) : List V → Hp → VK → Prop := fun vs H k => ∃ o ms G, (∀ a l, o a = some l → Mut (H a)) ∧ Paired (Vw K o H) vs ms ∧ g ms G ∧ ∀ v H' m, Grow H H' → NewM K o H H' v m → G m → k v H'
def tCl (g : GC) (ta : TL) : TX := fun ρ Q => ta ρ fun rs ρ1 => match vws ρ1 rs with
  | some ms => g ms fun m => Q m.res ρ1
  | none => False
def CallG (X : Cx) (f : Value) (g : GC) : Prop := CallR X f (rCl X.K g)
theorem callG {f : Value} {g : GC} {r : List V → Hp → VK → Prop} (h : CallR X f r) (i : ∀ vs H k, rCl X.K g vs H k → r vs H k) : CallG X f g := fun pins s σ H xs us Q I rs q => h pins s σ H xs us Q I rs (i _ _ _ q)
theorem tCl_of {g : GC} {ta : TL} {k : VK} (h : TEo K c (tCl g ta) σ H k) : tCB (rCl K g) (TAo K c ta) σ H k := by
  obtain ⟨o, ρ, τ, Q, R0, h, q⟩ := h
  refine ⟨o, ρ, τ, _, R0, h, fun vs H1 o1 rs ρ1 τ1 L1 R1 z1 h1 => ?_⟩
  split at h1
  · rename_i ms e
    refine ⟨o1, ms, _, R1.mu, RelRs.vws R1 z1 List.prefix_rfl e, h1, fun v H' m g nm hm => ?_⟩
    obtain ⟨o', τ', L, R', z⟩ := R1.made z1.pre g nm
    exact q v H' o' _ ρ1 τ' (L1.trans L) R' z hm
  · exact h1.elim
section
variable {x : Str} {p : Pos} {id T : String} {g : GC} {tl : TL}
theorem de_callB (hc : CallG X (.builtin id) g) (hg : Gl X x) (hm : X.mg x = none) (hv : bootBuiltins x = some (.builtin id)) (ha : DA X c (e :: es) tl) (hn : x ≠ "__name__" := by decide) (hdb : (x == ("__debug__" : Str)) = false := by decide)
    (he : starEach (e :: es) X.env = (false, eval e X.env) :: starEach es X.env := by rfl) (hpl : (backTo pos (starEach es X.env)).any (·.1) = false := by rfl) : DE X c (.Call (.Name x p) (e :: es) [] pos) (tCl g tl) :=
  peImp (pe_callB hc hg hm hv ha hn hdb he hpl) fun _ _ _ h => tCl_of h
theorem de_callT (hc : CallG X (.type T) g) (hg : Gl X x) (hm : X.mg x = none) (hv : bootBuiltins x = some (.type T)) (ha : DA X c (e :: es) tl) (hn : x ≠ "__name__" := by decide) (hdb : (x == ("__debug__" : Str)) = false := by decide)
    (he : starEach (e :: es) X.env = (false, eval e X.env) :: starEach es X.env := by rfl) (hpl : (backTo pos (starEach es X.env)).any (·.1) = false := by rfl) : DE X c (.Call (.Name x p) (e :: es) [] pos) (tCl g tl) :=
  peImp (pe_callTy hc hg hm hv ha hn hdb he hpl) fun _ _ _ h => tCl_of h
end
theorem pv1 {vs : List V} {m : M} (h : Paired (Vw K o H) vs [m]) : ∃ v, vs = [v] ∧ Vw K o H v m := by
  cases h with | cons a t => cases t; exact ⟨_, rfl, a⟩
theorem pv2 {vs : List V} {m n : M} (h : Paired (Vw K o H) vs [m, n]) : ∃ v w, vs = [v, w] ∧ Vw K o H v m ∧ Vw K o H w n := by
  cases h with | cons a t => cases t with | cons b t => cases t; exact ⟨_, _, rfl, a, b⟩

/-- len -/
def gLen : GC := fun ms G => match ms with
  | [.im (.tup ds)] => G (.im (.int ds.length))
  | [.im (.str x)] => x.length ≤ sizeLine ∧ G (.im (.int x.length))
  | [.dk kvs] => G (.im (.int kvs.length))
  | [m] => match m.lq? with
    | some ds => G (.im (.int ds.length))
    | none => False
  | _ => False
theorem len_ok : CallG X (.builtin "len") gLen := by
  refine callG (call_len_seq.or (call_len_str.or call_lenD)) fun vs H k h => ?_
  obtain ⟨o, ms, G, mu, v1, h, q⟩ := h
  unfold gLen at h
  split at h
  · obtain ⟨v, rfl, w1⟩ := pv1 v1
    obtain ⟨a, xs, rfl, ht, dd⟩ := w1.tup
    exact .inl ⟨a, xs, rfl, .inr ht.sq, qim q (.int _) (by rw [dd.length]; exact h)⟩
  · obtain ⟨v, rfl, w1⟩ := pv1 v1
    exact .inr (.inl ⟨_, by rw [w1.str], h.1, qim q (.int _) h.2⟩)
  · obtain ⟨v, rfl, w1⟩ := pv1 v1
    obtain ⟨l, a, ks, rfl, _, ha, kv⟩ := w1
    exact .inr (.inr ⟨a, ks, rfl, ha, qim q (.int _) (by rw [kv.length]; exact h)⟩)
  · obtain ⟨v, rfl, w1⟩ := pv1 v1
    split at h
    · rename_i ds e
      obtain ⟨a, xs, rfl, ht, dd⟩ := w1.lq e
      exact .inl ⟨a, xs, rfl, .inl ht, qim q (.int _) (by rw [dd.length]; exact h)⟩
    · exact h.elim
  · exact h.elim
/-- int(n), abs(n) -/
def gInt : GC := fun ms G => match ms with
  | [.im (.int i)] => G (.im (.int i))
  | [.im (.bl b)] => G (.im (.int (if b then 1 else 0)))
  | _ => False
theorem int_ok : CallG X (.type "int") gInt := by
  refine callG call_int1 fun vs H k h => ?_
  obtain ⟨o, ms, G, mu, v1, h, q⟩ := h
  unfold gInt at h
  split at h
  · obtain ⟨v, rfl, w1⟩ := pv1 v1
    exact .inl ⟨_, by rw [w1.int], qim q (.int _) h⟩
  · obtain ⟨v, rfl, w1⟩ := pv1 v1
    exact .inr ⟨_, by rw [w1.bl], qim q (.int _) h⟩
  · exact h.elim
def gAbs : GC := fun ms G => match ms with
  | [.im (.int i)] => G (.im (.int (if i < 0 then -i else i)))
  | _ => False
theorem abs_ok : CallG X (.builtin "abs") gAbs := by
  refine callG call_abs fun vs H k h => ?_
  obtain ⟨o, ms, G, mu, v1, h, q⟩ := h
  unfold gAbs at h
  split at h
  · obtain ⟨v, rfl, w1⟩ := pv1 v1
    exact ⟨_, by rw [w1.int], qim q (.int _) h⟩
  · exact h.elim
/-- list(x), tuple(x) -/
def M.sq? : M → Option (List D)
  | .im (.tup ds) => some ds
  | m => m.lq?
def gList : GC := fun ms G => match ms with
  | [m] => match m.sq? with
    | some ds => G (.ls ds)
    | none => False
  | _ => False
theorem Vw.sq {v : V} {m : M} {ds : List D} (h : Vw K o H v m) (e : m.sq? = some ds) : ∃ a xs, v = .ref a ∧ (SqL K H a xs ∨ SqT K H a xs) ∧ Dats K o H xs ds := by
  unfold M.sq? at e
  split at e
  · cases e
    obtain ⟨a, xs, rfl, ht, dd⟩ := h.tup
    exact ⟨a, xs, rfl, .inr ht.sq, dd⟩
  · obtain ⟨a, xs, rfl, ht, dd⟩ := h.lq e
    exact ⟨a, xs, rfl, .inl ht, dd⟩
theorem list_ok : CallG X (.type "list") gList := by
  refine callG call_list_of fun vs H k h => ?_
  obtain ⟨o, ms, G, mu, v1, h, q⟩ := h
  unfold gList at h
  split at h
  · obtain ⟨v, rfl, w1⟩ := pv1 v1
    split at h
    · rename_i ds e
      obtain ⟨a, xs, rfl, ht, dd⟩ := w1.sq e
      exact ⟨a, xs, rfl, ht, fun l hl => q _ _ (.ls ds) (.new hl) ⟨l, xs, rfl, hl, rfl, dd⟩ h⟩
    · exact h.elim
  · exact h.elim
def gTuple : GC := fun ms G => match ms with
  | [m] => match m.sq? with
    | some ds => G (.im (.tup ds))
    | none => False
  | _ => False
theorem tuple_ok : CallG X (.type "tuple") gTuple := by
  refine callG call_tuple_of fun vs H k h => ?_
  obtain ⟨o, ms, G, mu, v1, h, q⟩ := h
  unfold gTuple at h
  split at h
  · obtain ⟨v, rfl, w1⟩ := pv1 v1
    split at h
    · rename_i ds e
      unfold M.sq? at e
      split at e
      · cases e
        obtain ⟨a, xs, rfl, ht, dd⟩ := w1.tup
        exact ⟨a, xs, rfl, .inr ⟨ht.sq, qim q (.tup ht dd) h⟩⟩
      · obtain ⟨a, xs, rfl, ht, dd⟩ := w1.lq e
        exact ⟨a, xs, rfl, .inl ⟨ht, fun l hl => q _ _ (.im (.tup ds)) (.new hl) (newTup mu hl dd) h⟩⟩
    · exact h.elim
  · exact h.elim
/-- all, any -/
def D.bls? : List D → Option (List Bool)
  | [] => some []
  | .bl b :: ds => (D.bls? ds).map (b :: ·)
  | _ => none
theorem D.bls_eq : ∀ {ds : List D} {bs : List Bool}, D.bls? ds = some bs → ds = bs.map D.bl
  | [], _, e => by cases e; rfl
  | d :: ds, bs, e => by
    unfold D.bls? at e
    split at e
    · rename_i hh; cases hh
    · rename_i b ds' hh
      cases hh
      cases q : D.bls? ds with
      | none => rw [q] at e; cases e
      | some cs => rw [q] at e; cases e; rw [D.bls_eq q]; rfl
    · cases e
theorem D.bls_map : ∀ bs : List Bool, D.bls? (bs.map D.bl) = some bs
  | [] => rfl
  | b :: bs => by simp only [List.map_cons, D.bls?]; rw [D.bls_map bs]; rfl
def gAll (f : List Bool → Bool) : GC := fun ms G => match ms with
  | [m] => match m.lq? with
    | some ds => match D.bls? ds with
      | some bs => G (.im (.bl (f bs)))
      | none => False
    | none => False
  | _ => False
theorem all_ok (hc : X.calm = true) : CallG X (.builtin "all") (gAll fun bs => bs.all id) := by
  refine callG (cr_all hc) fun vs H k h => ?_
  obtain ⟨o, ms, G, mu, v1, h, q⟩ := h
  unfold gAll at h
  split at h
  · obtain ⟨v, rfl, w1⟩ := pv1 v1
    split at h
    · rename_i ds e
      split at h
      · rename_i bs eb
        obtain ⟨a, xs, rfl, ht, dd⟩ := w1.lq e
        have e2 := D.bls_eq eb
        subst e2
        have e3 := dd.bls
        subst e3
        exact ⟨a, bs, rfl, ht, qim q (.bl _) h⟩
      · exact h.elim
    · exact h.elim
  · exact h.elim
theorem any_ok (hc : X.calm = true) : CallG X (.builtin "any") (gAll fun bs => bs.any id) := by
  refine callG (cr_any hc) fun vs H k h => ?_
  obtain ⟨o, ms, G, mu, v1, h, q⟩ := h
  unfold gAll at h
  split at h
  · obtain ⟨v, rfl, w1⟩ := pv1 v1
    split at h
    · rename_i ds e
      split at h
      · rename_i bs eb
        obtain ⟨a, xs, rfl, ht, dd⟩ := w1.lq e
        have e2 := D.bls_eq eb
        subst e2
        have e3 := dd.bls
        subst e3
        exact ⟨a, bs, rfl, ht, qim q (.bl _) h⟩
      · exact h.elim
    · exact h.elim
  · exact h.elim
/-- isinstance(x, T), T a built-in class -/
def tyNames : List String := ["NoneType", "bool", "int", "str", "tuple", "list", "dict"]
def isiT (a b : String) : Bool := a == b || (a == "bool" && b == "int")
theorem isi_kit : ∀ a ∈ tyNames, ∀ b ∈ ["bool", "int", "str", "tuple", "list", "dict"], kitB a b = some (isiT a b) := by decide +kernel
def M.ty : M → Option String
  | .im .non => some "NoneType"
  | .im (.bl _) => some "bool"
  | .im (.int _) => some "int"
  | .im (.str _) => some "str"
  | .im (.tup _) => some "tuple"
  | .im (.lst _) => some "list"
  | .ls _ => some "list"
  | .rd _ => some "list"
  | .dk _ => some "dict"
  | .dt _ => some "dict"
  | _ => none
theorem Vw.ty {v : V} {m : M} {n : String} (h : Vw K o H v m) (e : m.ty = some n) : TyX K H v (.type n) ∧ n ∈ tyNames := by
  cases m with
  | im d =>
    cases d with
    | non => cases e; rw [h.non]; exact ⟨.base .non, by decide⟩
    | bl z => cases e; rw [h.bl]; exact ⟨.base (.bl _), by decide⟩
    | int z => cases e; rw [h.int]; exact ⟨.base (.int _), by decide⟩
    | str z => cases e; rw [h.str]; exact ⟨.base (.str _), by decide⟩
    | raw _ => cases e
    | tup ds => cases e; obtain ⟨a, xs, rfl, ht, _⟩ := h.tup; exact ⟨.base (.tup ht.2), by decide⟩
    | lst ds => cases e; obtain ⟨a, xs, rfl, ht, _⟩ := h.lst rfl; exact ⟨.base (.lst ht), by decide⟩
  | ls ds => cases e; obtain ⟨a, xs, rfl, ht, _⟩ := h.lst rfl; exact ⟨.base (.lst ht), by decide⟩
  | sq ds => cases e
  | rd ds => cases e; obtain ⟨a, xs, rfl, ht, _⟩ := h.lst rfl; exact ⟨.base (.lst ht), by decide⟩
  | dk kvs => cases e; obtain ⟨l, a, ks, rfl, _, ha, _⟩ := h; exact ⟨.base (.dK ha), by decide⟩
  | dt kvs => cases e; obtain ⟨l, a, ks, rfl, _, ha, _⟩ := h; exact ⟨.base (.dT ha), by decide⟩
def gIsi : GC := fun ms G => match ms with
  | [m, .im (.raw (.ty n))] => match m.ty with
    | some a => n ∈ ["bool", "int", "str", "tuple", "list", "dict"] ∧ G (.im (.bl (isiT a n)))
    | none => False
  | _ => False
theorem isi_ok : CallG X (.builtin "isinstance") gIsi := by
  refine callG call_isi fun vs H k h => ?_
  obtain ⟨o, ms, G, mu, v1, h, q⟩ := h
  unfold gIsi at h
  split at h
  · obtain ⟨v, w, rfl, w1, w2⟩ := pv2 v1
    split at h
    · rename_i a e
      obtain ⟨t1, t2⟩ := w1.ty e
      obtain ⟨l, w2⟩ := w2
      cases (show Dat X.K o H w (.raw _) from w2)
      exact ⟨v, _, _, _, _, rfl, .ty _, t1, isi_kit a t2 _ h.1, qim q (.bl _) h.2⟩
    · exact h.elim
  · exact h.elim
end
end Y
namespace Y
open PySem PySem.Spec L2

/-! ### statements -/
structure EndP where
  nx : Env → Prop
  rt : M → Env → Prop
  bk : Env → Prop := fun _ => False
  ct : Env → Prop := fun _ => False
abbrev TSX := EndP → Env → Prop
/-- the way on: from a state that is wanted to what the statement is to reach -/
def Way (K : PySem.W.Frag) (c : Cc) (o : Own) (H : Hp) (f : Env → Prop) (g : St → Hp → Prop) : Prop :=
  ∀ σ' H' o' ρ', Le o H o' H' → Rep K c o' σ' H' ρ' [] → f ρ' → g σ' H'
def WayR (K : PySem.W.Frag) (c : Cc) (o : Own) (H : Hp) (f : M → Env → Prop) (g : VK) : Prop :=
  ∀ v σ' H' o' ρ' m, Le o H o' H' → Rep K c o' σ' H' ρ' [] → IsM K o' H' (.t 0) v m → f m ρ' → g v H'
structure Ways (K : PySem.W.Frag) (c : Cc) (o : Own) (H : Hp) (P : EndP) (D : Ends) : Prop where
  nx : Way K c o H P.nx D.nx
  rt : WayR K c o H P.rt D.rt
  bk : Way K c o H P.bk D.bk
  ct : Way K c o H P.ct D.ct
def TSo (K : PySem.W.Frag) (c : Cc) (t : TSX) : TS := fun D σ H => ∃ o ρ P, Rep K c o σ H ρ [] ∧ t P ρ ∧ Ways K c o H P D
def DS (X : Cx) (c : Cc) (st : Stmt) (t : TSX) : Prop := PS X st (TSo X.K c t)
def DSs (X : Cx) (c : Cc) (st : List Stmt) (t : TSX) : Prop := PSs X st (TSo X.K c t)
theorem psImp {X : Cx} {st : Stmt} {t t' : TS} (h : PS X st t) (f : ∀ D σ H, t' D σ H → t D σ H) : PS X st t' := ⟨fun pins s σ H D I q => h.run pins s σ H D I (f _ _ _ q)⟩
theorem pssImp {X : Cx} {st : List Stmt} {t t' : TS} (h : PSs X st t) (f : ∀ D σ H, t' D σ H → t D σ H) : PSs X st t' := ⟨fun pins s σ H D I q => h.run pins s σ H D I (f _ _ _ q)⟩

section
variable {K : PySem.W.Frag} {c : Cc} {o o' : Own} {σ σ' : St} {H H' : Hp} {ρ ρ' : Env} {τ τ' τ0 τ1 : List (V × M)} {X : Cx} {e a b : Expr} {es : List Expr} {pos : Pos} {t u : TX} {P : EndP} {D : Ends}
theorem Way.le {f : Env → Prop} {g : St → Hp → Prop} (w : Way K c o H f g) (L : Le o H o' H') : Way K c o' H' f g := fun σ2 H2 o2 ρ2 L2 R q => w σ2 H2 o2 ρ2 (L.trans L2) R q
theorem WayR.le {f : M → Env → Prop} {g : VK} (w : WayR K c o H f g) (L : Le o H o' H') : WayR K c o' H' f g := fun v σ2 H2 o2 ρ2 m L2 R i q => w v σ2 H2 o2 ρ2 m (L.trans L2) R i q
theorem Ways.le (w : Ways K c o H P D) (L : Le o H o' H') : Ways K c o' H' P D := ⟨w.nx.le L, w.rt.le L, w.bk.le L, w.ct.le L⟩
theorem Rep.forget (R0 : Rep K c o σ H ρ τ) : Rep K c o σ H ρ [] := ⟨R0.sl, fun j v m e => by simp at e, R0.mu, R0.le, R0.ln⟩

def sNil : TSX := fun P ρ => P.nx ρ
def sSeq (t u : TSX) : TSX := fun P ρ => t { P with nx := u P } ρ
theorem ds_nil : DSs X c [] sNil := pssImp pss_nil fun D σ H ⟨o, ρ, P, R0, h, w⟩ => w.nx σ H o ρ .refl R0 h
theorem ds_cons {s : Stmt} {ss : List Stmt} {t u : TSX} (h1 : DS X c s t) (h2 : DSs X c ss u) : DSs X c (s :: ss) (sSeq t u) :=
  pssImp (pss_cons h1 h2) fun D σ H ⟨o, ρ, P, R0, h, w⟩ =>
    ⟨o, ρ, _, R0, h, ⟨fun σ' H' o' ρ' L R q => ⟨o', ρ', P, R, q, w.le L⟩, w.rt, w.bk, w.ct⟩⟩
theorem ds_one {s : Stmt} {t : TSX} (h1 : DS X c s t) : DSs X c [s] t := pss_one h1
def sBk : TSX := fun P ρ => P.bk ρ
def sCt : TSX := fun P ρ => P.ct ρ
theorem ds_pass : DS X c (.Pass pos) sNil := psImp ps_pass fun D σ H ⟨o, ρ, P, R0, h, w⟩ => w.nx σ H o ρ .refl R0 h
theorem ds_break : DS X c (.Break pos) sBk := psImp ps_break fun D σ H ⟨o, ρ, P, R0, h, w⟩ => w.bk σ H o ρ .refl R0 h
theorem ds_continue : DS X c (.Continue pos) sCt := psImp ps_continue fun D σ H ⟨o, ρ, P, R0, h, w⟩ => w.ct σ H o ρ .refl R0 h
def sDrop (t : TX) : TSX := fun P ρ => t ρ fun _ ρ1 => P.nx ρ1
theorem ds_expr (h : DE X c e t) (hs : swapsWith e none pos.line X.env = pure false := by rfl) : DS X c (.Expr e pos) (sDrop t) :=
  psImp (ps_expr h hs) fun D σ H ⟨o, ρ, P, R0, h, w⟩ => ⟨o, ρ, [], _, R0, h, fun v H' o' r ρ' τ' L R z q => w.nx σ H' o' ρ' L R.forget q⟩
def sIf (q : TQ) (t u : TSX) : TSX := fun P ρ => q ρ fun b ρ1 => if b = true then t P ρ1 else u P ρ1
theorem ds_if {cond : Expr} {as bs : List Stmt} {q : TQ} {t u : TSX} (hc : DT X c cond q) (ha : DSs X c as t) (hb : DSs X c bs u) : DS X c (.If cond as bs pos) (sIf q t u) :=
  psImp (ps_if hc ha hb) fun D σ H ⟨o, ρ, P, R0, h, w⟩ => ⟨o, ρ, [], _, R0, h, fun b H' o' ρ' L R q => by
    cases b with
    | true => exact ⟨o', ρ', P, R, q, w.le L⟩
    | false => exact ⟨o', ρ', P, R, q, w.le L⟩⟩

/-! ### labels changed -/
def relL (l l' : Lb) (o : Own) : Own := fun a => if o a = some l then some l' else o a
theorem relL_le {l l' : Lb} (h : l ≠ .x) : Le o H (relL l l' o) H :=
  ⟨fun b u e f => ⟨by unfold relL; rw [e]; simp, f⟩, fun b e => ⟨by unfold relL; rw [e, if_neg (by intro z; cases z; exact h rfl)], rfl⟩⟩
theorem relL_other {l l' k : Lb} (h : k ≠ l) {a : Addr} (e : o a = some k) : relL l l' o a = some k := by
  unfold relL; rw [e, if_neg (by intro z; cases z; exact h rfl)]
theorem relL_same {l l' : Lb} {a : Addr} (e : o a = some l) : relL l l' o a = some l' := by unfold relL; rw [if_pos e]
theorem relL_mu {l l' : Lb} (mu : ∀ a l, o a = some l → Mut (H a)) : ∀ a k, relL l l' o a = some k → Mut (H a) := fun a k e => by
  unfold relL at e
  split at e
  · rename_i q; exact mu a _ q
  · exact mu a _ e
/-- a slot's object goes to another label; the slot is empty -/
theorem Rep.move (R0 : Rep K c o σ H ρ τ) (i : Nat) (l' : Lb) : Rep K c (relL (.s i) l' o) σ H (ρ.set i .no) τ := by
  have L : Le o H (relL (.s i) l' o) H := relL_le (by intro z; cases z)
  refine ⟨fun j s e => ?_, fun j v m e => ⟨(R0.tm j v m e).1.mono L fun a q => ⟨relL_other (by intro z; cases z) q, rfl⟩, (R0.tm j v m e).2⟩, relL_mu R0.mu, R0.le.trans L, by rw [List.length_set]; exact R0.ln⟩
  by_cases hj : i = j
  · subst hj
    by_cases hl : i < ρ.length
    · rw [List.getElem?_set_self hl] at e; cases e; exact trivial
    · rw [List.getElem?_eq_none (by simpa using hl)] at e; cases e
  · rw [List.getElem?_set_ne hj] at e
    exact (R0.sl j s e).mono L (fun a q => ⟨relL_other (by intro z; injection z with z; exact hj z.symm) q, rfl⟩) fun a q => ⟨relL_other (by intro z; cases z) q, rfl⟩
/-- the last temporary's object goes to a label of a slot -/
theorem Rep.takeT (R0 : Rep K c o σ H ρ (τ ++ [(v, m)])) (l' : Lb) : Rep K c (relL (.t τ.length) l' o) σ H ρ τ ∧ IsM K (relL (.t τ.length) l' o) H l' v m := by
  have L : Le o H (relL (.t τ.length) l' o) H := relL_le (by intro z; cases z)
  refine ⟨⟨fun j s e => (R0.sl j s e).mono L (fun a q => ⟨relL_other (by intro z; cases z) q, rfl⟩) fun a q => ⟨relL_other (by intro z; cases z) q, rfl⟩, fun j w m' e => ?_, relL_mu R0.mu, R0.le.trans L, R0.ln⟩, ?_⟩
  · have hj : j < τ.length := (List.getElem?_eq_some_iff.mp e).1
    have q := R0.tm j w m' (by rw [List.getElem?_append_left hj]; exact e)
    exact ⟨q.1.mono L fun a z => ⟨relL_other (by intro w; injection w with w; omega) z, rfl⟩, q.2⟩
  · exact (R0.tm τ.length v m (by simp)).1.mono L fun a z => ⟨relL_same z, rfl⟩
/-- a slot is set -/
theorem Rep.set (R0 : Rep K c o σ H ρ τ) {i : Nat} {v : V} {s : Sl} (h : SlOk K c o (σ.set i (some v)) H i s ∨ ¬ i < ρ.length) : Rep K c o (σ.set i (some v)) H (ρ.set i s) τ := by
  refine ⟨fun j s' e => ?_, R0.tm, R0.mu, R0.le, by rw [List.length_set, List.length_set]; exact R0.ln⟩
  by_cases hj : i = j
  · subst hj
    rcases h with h | h
    · by_cases hl : i < ρ.length
      · rw [List.getElem?_set_self hl] at e; cases e; exact h
      · rw [List.getElem?_eq_none (by simpa using hl)] at e; cases e
    · rw [List.getElem?_eq_none (by simpa using h)] at e; cases e
  · rw [List.getElem?_set_ne hj] at e
    have q := R0.sl j s' e
    have es : (σ.set i (some v))[j]? = σ[j]? := List.getElem?_set_ne hj
    cases s' with
    | no => exact trivial
    | lo m => obtain ⟨w, e1, z⟩ := q; exact ⟨w, by rw [es]; exact e1, z⟩
    | pa m => obtain ⟨w, e1, e2, z⟩ := q; exact ⟨w, by rw [es]; exact e1, e2, z⟩
    | hd p w m => obtain ⟨e1, e2, z⟩ := q; exact ⟨by rw [es]; exact e1, e2, z⟩
theorem set_at {i : Nat} {v w : V} (h : σ[i]? = some (some w)) : (σ.set i (some v))[i]? = some (some v) := by
  have hl : i < σ.length := (List.getElem?_eq_some_iff.mp h).1
  rw [List.getElem?_set_self hl]
/-- a slot that holds something stands within the frame's slots -/
theorem Rep.asg (R0 : Rep K c o σ H ρ τ) {i : Nat} {v : V} {m : M} (h : IsM K o H (.s i) v m) : Rep K c o (σ.set i (some v)) H (ρ.set i (.lo m)) τ := by
  refine R0.set ?_
  by_cases q : i < ρ.length
  · exact .inl ⟨v, by rw [List.getElem?_set_self (by rw [← R0.ln]; exact q)], h⟩
  · exact .inr q
/-- a name is given a value: data; a new object; another name's object, which that name loses -/
def asg (i : Nat) (r : R) (ρ : Env) (k : Env → Prop) : Prop := match r with
  | .im d => k (ρ.set i (.lo (.im d)))
  | .tm m => k (ρ.set i (.lo m))
  | .sl j => match ρ[j]? with
    | some (.lo (.sq ds)) => k (ρ.set i (.lo (.sq ds)))
    | some (.pa (.sq ds)) => k (ρ.set i (.lo (.sq ds)))
    | some (.lo m) => k ((ρ.set j .no).set i (.lo m))
    | some (.pa m) => k ((ρ.set j .no).set i (.lo m))
    | _ => False
theorem asg_ok (R0 : Rep K c o σ H ρ τ') {i : Nat} {v : V} {r : R} {f : Env → Prop} (z : RelR K o H σ v r τ τ') (h : asg i r ρ f) (q : ∀ o' ρ', Le o H o' H → Rep K c o' (σ.set i (some v)) H ρ' τ → f ρ' → D.nx (σ.set i (some v)) H) : D.nx (σ.set i (some v)) H := by
  unfold asg at h
  split at h
  · obtain ⟨rfl, z⟩ := z
    exact q o _ .refl (R0.asg (m := .im _) z) h
  · have z : τ' = τ ++ [(v, _)] := z
    subst z
    obtain ⟨R1, i1⟩ := R0.takeT (.s i)
    exact q _ _ (relL_le (by intro z; cases z)) (R1.asg i1) h
  · rename_i j
    obtain ⟨rfl, z⟩ := z
    split at h
    · rename_i ds e
      obtain ⟨w, e1, q1⟩ := R0.sl _ _ e
      rw [z] at e1; cases e1
      exact q o _ .refl (R0.asg (m := .sq ds) q1) h
    · rename_i ds e
      obtain ⟨w, e1, e2, q1⟩ := R0.sl _ _ e
      rw [z] at e1; cases e1
      exact q o _ .refl (R0.asg (m := .sq ds) q1) h
    · rename_i m _ e
      obtain ⟨w, e1, q1⟩ := R0.sl _ _ e
      rw [z] at e1; cases e1
      refine q _ _ (relL_le (l := .s j) (l' := .s i) (by intro z; cases z)) ((R0.move j (.s i)).asg (m := m) (q1.mono (relL_le (by intro z; cases z)) fun a y => ⟨relL_same y, rfl⟩)) h
    · rename_i m _ e
      obtain ⟨w, e1, e2, q1⟩ := R0.sl _ _ e
      rw [z] at e1; cases e1
      refine q _ _ (relL_le (l := .s j) (l' := .s i) (by intro z; cases z)) ((R0.move j (.s i)).asg (m := m) (q1.mono (relL_le (by intro z; cases z)) fun a y => ⟨relL_same y, rfl⟩)) h
    · exact h.elim
def sAsg (i : Nat) (t : TX) : TSX := fun P ρ => t ρ fun r ρ1 => asg i r ρ1 P.nx
theorem sAsg_of {i : Nat} {t : TX} (h : TSo K c (sAsg i t) D σ H) : tAsg (TEo K c t) (gName i) D σ H := by
  obtain ⟨o, ρ, P, R0, h, w⟩ := h
  refine ⟨o, ρ, [], _, R0, h, fun v H1 o1 r1 ρ1 τ1 L1 R1 z1 h1 => ?_⟩
  exact asg_ok R1 z1 h1 fun o' ρ' L R q => w.nx _ _ o' ρ' (L1.trans L) R q
theorem ds_set {i : Nat} {x : Str} {pos' : Pos} (hN : X.N.Nodup) (h : DE X c e t) (hi : X.N[i]? = some x := by rfl) (hx : Loc X.env.scope x := by first | exact Or.inl rfl | exact Or.inr rfl) (hs : swapsWith e (some (.Name x pos')) pos.line X.env = pure false := by rfl)
    (hf : X.fn x = true ∨ X.env.scope.names.lookup x = some .local := by first | exact .inl rfl | exact .inr rfl | assumption) : DS X c (.Assign [.Name x pos'] e pos) (sAsg i t) :=
  psImp (ps_set hN hi hx h hs hf) fun _ _ _ h => sAsg_of h
def sRet (t : TX) : TSX := fun P ρ => t ρ fun r ρ1 => match r with
  | .im d => P.rt (.im d) ρ1
  | .tm m => P.rt m ρ1
  | .sl j => match ρ1[j]? with
    | some (.lo m) => P.rt m (ρ1.set j .no)
    | some (.pa m) => P.rt m (ρ1.set j .no)
    | _ => False
theorem ds_ret (h : DE X c e t) : DS X c (.Return (some e) pos) (sRet t) := psImp (ps_ret h) fun D σ H h => by
  obtain ⟨o, ρ, P, R0, h, w⟩ := h
  refine ⟨o, ρ, [], _, R0, h, fun v H1 o1 r1 ρ1 τ1 L1 R1 z1 h1 => ?_⟩
  split at h1
  · obtain ⟨rfl, z⟩ := z1
    exact w.rt v σ H1 o1 ρ1 (.im _) L1 R1 z h1
  · rename_i m
    have z : τ1 = [] ++ [(v, m)] := z1
    subst z
    exact w.rt v σ H1 o1 ρ1 m L1 R1.forget (R1.tm 0 v m rfl).1 h1
  · rename_i j
    obtain ⟨rfl, z⟩ := z1
    split at h1
    · rename_i m e
      obtain ⟨w', e1, q1⟩ := R1.sl _ _ e
      rw [z] at e1; cases e1
      exact w.rt v σ H1 _ _ m (L1.trans (relL_le (l := .s j) (l' := .t 0) (by intro z; cases z))) (R1.move j (.t 0)) (q1.mono (relL_le (by intro z; cases z)) fun a y => ⟨relL_same y, rfl⟩) h1
    · rename_i m e
      obtain ⟨w', e1, e2, q1⟩ := R1.sl _ _ e
      rw [z] at e1; cases e1
      exact w.rt v σ H1 _ _ m (L1.trans (relL_le (l := .s j) (l' := .t 0) (by intro z; cases z))) (R1.move j (.t 0)) (q1.mono (relL_le (by intro z; cases z)) fun a y => ⟨relL_same y, rfl⟩) h1
    · exact h1.elim
def sRetN : TSX := fun P ρ => P.rt (.im .non) ρ
theorem ds_retN : DS X c (.Return none pos) sRetN := psImp ps_retN fun D σ H ⟨o, ρ, P, R0, h, w⟩ => w.rt .non σ H o ρ (.im .non) .refl R0 .non h
end
end Y
namespace Y
open PySem PySem.Spec L2

section
variable {K : PySem.W.Frag} {c : Cc} {o o' : Own} {σ σ' : St} {H H' : Hp} {ρ ρ' : Env} {τ τ' τ0 τ1 : List (V × M)} {X : Cx} {e a b : Expr} {es : List Expr} {pos : Pos} {t u : TX} {P : EndP} {D' : Ends}
/-! ### a slot's object is changed -/
def Sl.up : Sl → M → Sl
  | .pa _, m => .pa m
  | _, m => .lo m
/-- what a slot owns -/
def Sl.m! : Sl → Option M
  | .lo m => some m
  | .pa m => some m
  | _ => none
theorem SlOk.of! {i : Nat} {s : Sl} {m : M} (h : SlOk K c o σ H i s) (e : s.m! = some m) : ∃ v, σ[i]? = some (some v) ∧ IsM K o H (.s i) v m := by
  cases s with
  | no => cases e
  | lo z => cases e; exact h
  | pa z => cases e; obtain ⟨v, a, _, q⟩ := h; exact ⟨v, a, q⟩
  | hd p v z => cases e
theorem Rep.mut1 (R0 : Rep K c o σ H ρ τ) {i : Nat} {s : Sl} {m0 m : M} {a : Addr} {u : HO} (e : ρ[i]? = some s) (hs : s.m! = some m0) (hv : σ[i]? = some (some (.ref a))) (ho : o a = some (.s i)) (hu : Mut (some u))
    (h : IsM K o (upd H a u) (.s i) (.ref a) m) : Rep K c o σ (upd H a u) (ρ.set i (s.up m)) τ ∧ Le o H o (upd H a u) := by
  have ne : ∀ b l, o b = some l → l ≠ .s i → b ≠ a := fun b l q z w => by subst w; rw [ho] at q; cases q; exact z rfl
  have L : Le o H o (upd H a u) := ⟨fun b w q f => ⟨q, by rw [upd_ne (fun z => by subst z; rw [ho] at q; cases q)]; exact f⟩, fun b q => ⟨q, upd_ne (ne b _ q (by intro z; cases z))⟩⟩
  have kp : ∀ l, l ≠ .s i → ∀ b, o b = some l → o b = some l ∧ upd H a u b = H b := fun l z b q => ⟨q, upd_ne (ne b l q z)⟩
  refine ⟨⟨fun j s' q => ?_, fun j v m' q => ⟨(R0.tm j v m' q).1.mono L (kp _ (by intro z; cases z)), (R0.tm j v m' q).2⟩, fun b l q => ?_, R0.le.trans L, by rw [List.length_set]; exact R0.ln⟩, L⟩
  · by_cases hj : i = j
    · subst hj
      have hl : i < ρ.length := (List.getElem?_eq_some_iff.mp e).1
      rw [List.getElem?_set_self hl] at q; cases q
      have k := R0.sl i s e
      cases s with
      | no => cases hs
      | lo z => exact ⟨_, hv, h⟩
      | pa z => obtain ⟨v, a1, a2, _⟩ := k; rw [hv] at a1; cases a1; exact ⟨_, hv, a2, h⟩
      | hd p v z => cases hs
    · rw [List.getElem?_set_ne hj] at q
      exact (R0.sl j s' q).mono L (kp _ (by intro z; injection z with z; exact hj z.symm)) (kp _ (by intro z; cases z))
  · by_cases z : b = a
    · subst z; rw [upd_same]; exact hu
    · rw [upd_ne z]; exact R0.mu b l q

/-! ### methods of a list that change it -/
abbrev GM := List D → List D → (D → List D → Prop) → Prop
def rMt (K : PySem.W.Frag) (g : GM) : V → List V → Hp → VK → Prop := fun x vs H Q => ∃ l xs ds es o G, x = .ref l ∧ H l = some (.lst xs) ∧ Dats K o H xs ds ∧ Dats K o H vs es ∧ g ds es G ∧
  ∀ y d xs' ds', Dat K o H y d → Dats K o H xs' ds' → G d ds' → Q y (upd H l (.lst xs'))
def MtG (X : Cx) (id : String) (g : GM) : Prop := MtR X id (rMt X.K g)
theorem mtG {id : String} {g : GM} {r : V → List V → Hp → VK → Prop} (h : MtR X id r) (i : ∀ x vs H k, rMt X.K g x vs H k → r x vs H k) : MtG X id g := fun pins s σ H x xs v us Q I rx rs q => h pins s σ H x xs v us Q I rx rs (i _ _ _ _ q)
def gApp : GM := fun ds es G => match es with
  | [d] => ds.length < sizeLine ∧ G .non (ds ++ [d])
  | _ => False
theorem app_ok : MtG X "list.append" gApp := by
  refine mtG mt_append fun x vs H k h => ?_
  obtain ⟨l, xs, ds, es, o, G, rfl, hl, d1, d2, h, q⟩ := h
  unfold gApp at h
  split at h
  · cases d2 with | cons a t => cases t; exact ⟨l, xs, _, rfl, rfl, hl, by rw [d1.length]; exact h.1, q _ _ _ _ .non (d1.append (.cons a .nil)) h.2⟩
  · exact h.elim
def gExt : GM := fun ds es G => match es with
  | [.lst zs] => ds.length + zs.length ≤ sizeLine ∧ G .non (ds ++ zs)
  | _ => False
theorem ext_ok : MtG X "list.extend" gExt := by
  refine mtG mt_extend fun x vs H k h => ?_
  obtain ⟨l, xs, ds, es, o, G, rfl, hl, d1, d2, h, q⟩ := h
  unfold gExt at h
  split at h
  · cases d2 with
    | cons a t =>
      cases t
      cases a with
      | lst a1 a2 a3 => exact ⟨l, _, xs, _, rfl, rfl, hl, a2, by rw [d1.length, a3.length]; exact h.1, q _ _ _ _ .non (d1.append a3) h.2⟩
  · exact h.elim
def gPop : GM := fun ds es G => match es with
  | [] => match ds.getLast? with
    | some d => G d ds.dropLast
    | none => False
  | _ => False
theorem pop_ok : MtG X "list.pop" gPop := by
  refine mtG mt_pop fun x vs H k h => ?_
  obtain ⟨l, xs, ds, es, o, G, rfl, hl, d1, d2, h, q⟩ := h
  unfold gPop at h
  split at h
  · cases d2
    split at h
    · rename_i d e
      rw [List.getLast?_eq_getElem?] at e
      obtain ⟨w, e2, dw⟩ := d1.get e
      rw [← d1.length] at e2
      exact ⟨l, xs, w, rfl, rfl, hl, e2, q _ _ _ _ dw d1.dropLast h⟩
    · exact h.elim
  · exact h.elim
def gRev : GM := fun ds es G => match es with
  | [] => G .non ds.reverse
  | _ => False
theorem rev_ok : MtG X "list.reverse" gRev := by
  refine mtG mt_reverse fun x vs H k h => ?_
  obtain ⟨l, xs, ds, es, o, G, rfl, hl, d1, d2, h, q⟩ := h
  unfold gRev at h
  split at h
  · cases d2; exact ⟨l, xs, rfl, rfl, hl, q _ _ _ _ .non d1.reverse h⟩
  · exact h.elim
/-- x.m(..) of a name's own list -/
def tMt (g : GM) (i : Nat) (ta : TL) : TX := fun ρ Q => (match ρ[i]? with
  | some s => match s.m! with
    | some (.ls _) => True
    | _ => False
  | none => False) ∧ tFrz ta (fun ds ρ1 => match ρ1[i]? with
    | some s => match s.m! with
      | some (.ls xs) => g xs ds fun d xs' => Q (.im d) (ρ1.set i (s.up (.ls xs')))
      | _ => False
    | none => False) ρ
theorem tMt_of {g : GM} {i : Nat} {ta : TL} {k : VK} (h : TEo K c (tMt g i ta) σ H k) : tBM K "list" (rMt K g) (tVar i) (TAo K c ta) σ H k := by
  obtain ⟨o, ρ, τ, Q, R0, ⟨h0, h⟩, q⟩ := h
  split at h0
  · rename_i s e
    split at h0
    · rename_i xs em
      obtain ⟨v, hv, ⟨a, ys, rfl, ho, hH, dd⟩⟩ := (R0.sl i s e).of! em
      refine ⟨_, hv, .inl ⟨rfl, ys, SqL.of hH⟩, ?_⟩
      refine tFrz_of R0 h fun vs H1 o1 ds ρ1 L1 R1 d1 h1 => ?_
      split at h1
      · rename_i s' e'
        split at h1
        · rename_i zs em'
          obtain ⟨v', hv', ⟨a', ys', rfl, ho', hH', dd'⟩⟩ := (R1.sl i s' e').of! em'
          rw [hv] at hv'; cases hv'
          refine ⟨a, ys', zs, ds, o1, _, rfl, hH', dd', d1, h1, fun y d xs' ds' dy dxs hG => ?_⟩
          have L : Le o1 H1 o1 (upd H1 a (.lst xs')) := (R1.mut1 (m := .rd []) (u := .lst []) e' em' hv ho' trivial ⟨a, [], rfl, ho', upd_same, .nil⟩).2 |> fun _ => by
            refine ⟨fun b w q f => ⟨q, by rw [upd_ne (fun z => by subst z; rw [ho'] at q; cases q)]; exact f⟩, fun b q => ⟨q, upd_ne (fun z => by subst z; rw [ho'] at q; cases q)⟩⟩
          obtain ⟨R2, L2⟩ := R1.mut1 (m := .ls ds') (u := .lst xs') e' em' hv ho' trivial ⟨a, xs', rfl, ho', upd_same, dxs.mono L⟩
          exact q y _ o1 (.im d) _ τ (L1.trans L2) R2 ⟨rfl, dy.mono L2⟩ hG
        · exact h1.elim
      · exact h1.elim
    · exact h0.elim
  · exact h0.elim
section
variable {name : Str} {x : Str} {px apos cpos : Pos} {id : String} {g : GM} {ta : TL}
theorem de_mt (i : Nat) (pa : PySem.PlainAttrs "list") (slot : PySem.Slot "list" name id) (hty : typeOf (.builtin id) = pure (.type "method_descriptor")) (hm : MtG X id g) (ha : DA X c (e :: es) ta)
    (hN : X.N[i]? = some x := by rfl) (hv : Vis X.env.scope x := by first | exact Or.inl rfl | exact Or.inr (Or.inl rfl) | exact Or.inr (Or.inr rfl))
    (hbase : attributeBase (.Name x px) name X.env (eval (.Name x px) X.env) = eval (.Name x px) X.env := by rfl)
    (hfew : ((backTo cpos (starEach (e :: es) X.env)).all (fun x => !x.1) && (backToKw cpos (keywordEach [] X.env)).all (fun x => x.1.isSome)
      && decide ((e :: es).length + ([] : List Keyword).length + (if ([] : List Keyword).isEmpty then 0 else 1) < 30)) = true := by rfl)
    (hline : (apos.endLine == cpos.line) = true := by rfl) (hs : starEach (e :: es) X.env = (false, eval e X.env) :: starEach es X.env := by rfl) (hplain : (backTo cpos (starEach es X.env)).any (·.1) = false := by rfl)
    (hd : (x == ("__debug__" : Str)) = false := by decide) (hcd : (x == ("__classdict__" : Str)) = false := by decide) :
    DE X c (.Call (.Attribute (.Name x px) name apos) (e :: es) [] cpos) (tMt g i ta) :=
  peImp (pe_bm pa slot hty hm (pe_var (i := i) hN hv hd hcd) ha hbase hfew hline hs hplain) fun _ _ _ h => tMt_of h
theorem de_mt0 (i : Nat) (pa : PySem.PlainAttrs "list") (slot : PySem.Slot "list" name id) (hty : typeOf (.builtin id) = pure (.type "method_descriptor")) (hm : MtG X id g)
    (hN : X.N[i]? = some x := by rfl) (hv : Vis X.env.scope x := by first | exact Or.inl rfl | exact Or.inr (Or.inl rfl) | exact Or.inr (Or.inr rfl))
    (hbase : attributeBase (.Name x px) name X.env (eval (.Name x px) X.env) = eval (.Name x px) X.env := by rfl) (hline : (apos.endLine == cpos.line) = true := by rfl)
    (hd : (x == ("__debug__" : Str)) = false := by decide) (hcd : (x == ("__classdict__" : Str)) = false := by decide) :
    DE X c (.Call (.Attribute (.Name x px) name apos) [] [] cpos) (tMt g i lNil) :=
  peImp (pe_bm0 pa slot hty hm (pe_var (i := i) hN hv hd hcd) hbase hline) fun σ H k h => by
    obtain ⟨v, hv, ty, q⟩ := tMt_of h
    refine ⟨v, hv, ty, ?_⟩
    obtain ⟨o, ρ, τ, Q, R0, h, q⟩ := q
    exact q [] H o [] ρ τ .refl R0 .nil h
end

/-! ### x[k] = v of a name's own list or dict -/
def setM (m : M) (k v : D) (G : M → Prop) : Prop := match m, k with
  | .ls ds, .int i => match ixN ds.length i with
    | some j => G (.ls (ds.set j v))
    | none => False
  | .dk kvs, k => match k.key? with
    | some k => kvs.length < sizeLine ∧ G (.dk (putD kvs k v))
    | none => False
  | .dt kvs, .tup ks => match D.keys? ks with
    | some k => kvs.length < sizeLine ∧ G (.dt (putD kvs k v))
    | none => False
  | _, _ => False
theorem PSet.or {t t' : TSet} (h : PSet X t) (h' : PSet X t') : PSet X (fun o i v H Q => t o i v H Q ∨ t' o i v H Q) := by
  intro pins s σ H o i v ov iv u Q I ro ri rv q
  rcases q with q | q
  · exact h pins s σ H o i v ov iv u Q I ro ri rv q
  · exact h' pins s σ H o i v ov iv u Q I ro ri rv q
theorem le_mut {a : Addr} {i : Nat} {w : HO} (ho : o a = some (.s i)) : Le o H o (upd H a w) :=
  ⟨fun b w q f => ⟨q, by rw [upd_ne (fun z => by subst z; rw [ho] at q; cases q)]; exact f⟩, fun b q => ⟨q, upd_ne (fun z => by subst z; rw [ho] at q; cases q)⟩⟩
theorem setM_ok (R0 : Rep K c o σ H ρ τ) {i : Nat} {s : Sl} {m : M} {v vk vx : V} {dk dx : D} {G : M → Prop} {Q : Hp → Prop} (e : ρ[i]? = some s) (em : s.m! = some m) (hv : σ[i]? = some (some v)) (d1 : Dat K o H vk dk) (d2 : Dat K o H vx dx) (h : setM m dk dx G)
    (q : ∀ H' m', Rep K c o σ H' (ρ.set i (s.up m')) τ → Le o H o H' → G m' → Q H') : rSetL v vk vx H Q ∨ rSetD v vk vx H Q := by
  obtain ⟨v', hv', z⟩ := (R0.sl i s e).of! em
  rw [hv] at hv'; cases hv'
  unfold setM at h
  split at h
  · rename_i ds j
    split at h
    · rename_i n en
      obtain ⟨a, xs, rfl, ho, hH, dd⟩ := z
      cases d1
      refine .inl ⟨a, xs, j, n, rfl, rfl, hH, by rw [dd.length]; exact en, ?_⟩
      obtain ⟨R1, L1⟩ := R0.mut1 (m := .ls (ds.set n dx)) (u := .lst (xs.set n vx)) e em hv ho trivial ⟨a, _, rfl, ho, upd_same, (dd.set d2 n).mono (le_mut ho)⟩
      exact q _ _ R1 L1 h
    · exact h.elim
  · rename_i kvs
    split at h
    · rename_i ky ek
      obtain ⟨a, ks, rfl, ho, hH, dd⟩ := z
      have ek' := d1.key ek
      subst ek'
      refine .inr ⟨a, _, rfl, DPut.k hH (by rw [dd.length]; exact h.1), ?_⟩
      obtain ⟨R1, L1⟩ := R0.mut1 (m := .dk (putD kvs ky dx)) (u := .dK (putK ks ky vx)) e em hv ho trivial ⟨a, _, rfl, ho, upd_same, Kvs.mono (le_mut ho) (dd.put ky d2)⟩
      exact q _ _ R1 L1 h.2
    · exact h.elim
  · rename_i kvs ks'
    split at h
    · rename_i ky ek
      obtain ⟨a, ks, rfl, ho, hH, dd⟩ := z
      cases d1 with
      | tup t r =>
        have ek' := r.keys ek
        subst ek'
        refine .inr ⟨a, _, rfl, DPut.t hH t.2 (by rw [dd.length]; exact h.1), ?_⟩
        obtain ⟨R1, L1⟩ := R0.mut1 (m := .dt (putD kvs ky dx)) (u := .dT (putK ks ky vx)) e em hv ho trivial ⟨a, _, rfl, ho, upd_same, Kvs.mono (le_mut ho) (dd.put ky d2)⟩
        exact q _ _ R1 L1 h.2
    · exact h.elim
  · exact h.elim
def hasM (ρ : Env) (i : Nat) : Prop := match ρ[i]? with
  | some s => match s.m! with
    | some _ => True
    | none => False
  | none => False
theorem hasM_at {ρ : Env} {i : Nat} (R0 : Rep K c o σ H ρ τ) (h : hasM ρ i) : ∃ y, σ[i]? = some (some y) := by
  unfold hasM at h
  split at h
  · rename_i s e
    split at h
    · rename_i m em
      obtain ⟨v, hv, _⟩ := (R0.sl i s e).of! em
      exact ⟨v, hv⟩
    · exact h.elim
  · exact h.elim
def sSetI (i : Nat) (tk tv : TX) : TSX := fun P ρ => tFrz (lCons tv lNil) (fun ds ρ1 => match ds with
  | [d] => hasM ρ1 i ∧ tk ρ1 fun rk ρ2 => match rk with
    | .im k => match ρ2[i]? with
      | some s => match s.m! with
        | some m => setM m k d fun m' => P.nx (ρ2.set i (s.up m'))
        | none => False
      | none => False
    | _ => False
  | _ => False) ρ
theorem frz1 {f : List D → Env → Prop} {t : TX} {k : VK} (R0 : Rep K c o σ H ρ τ) (h : tFrz (lCons t lNil) f ρ)
    (q : ∀ v H' o' d ρ', Le o H o' H' → Rep K c o' σ H' ρ' τ → Dat K o' H' v d → f [d] ρ' → k v H') : TEo K c t σ H k := by
  refine ⟨o, ρ, τ, _, R0, h, fun v H1 o1 r ρ1 τ1 L1 R1 z1 h1 => ?_⟩
  have h1 : match froz ρ1 [r] with
    | some (ds, ρ2) => f ds ρ2
    | none => False := h1
  split at h1
  · rename_i ds ρ2 e
    have R2 := R1.drop z1.pre
    have els := (RelRs.cons z1 .nil).els (ρ0 := ρ1) (base := τ.length) (Nat.le_refl _) (fun j v m e => (R1.tm j v m e).1)
    obtain ⟨o', L, R3, dd⟩ := froz_ok R2 els e
    cases dd with
    | cons a t => cases t; exact q v H1 o' _ ρ2 (L1.trans ((dropT_le _).trans L)) R3 a h1
  · exact h1.elim
theorem ds_setI (i : Nat) {x : Str} {px ppos : Pos} {tk tv : TX} (hu : X.A.units + 1 < cLine) (hv : DE X c e tv) (hk : DE X c a tk) (hN : X.N[i]? = some x := by rfl) (hvis : Vis X.env.scope x := by first | exact Or.inl rfl | exact Or.inr (Or.inl rfl) | exact Or.inr (Or.inr rfl))
    (hs : swapsWithSole [.Subscript (.Name x px) a ppos] e pos.line X.env = pure false := by rfl) (hw : swappedStores [.Subscript (.Name x px) a ppos] e X.env = pure none := by rfl)
    (h1 : (assignEach [.Subscript (.Name x px) a ppos] X.env).map (·.2) = [assign (.Subscript (.Name x px) a ppos) X.env] := by rfl)
    (hsub : ∀ v, assign (.Subscript (.Name x px) a ppos) X.env v = (do
      let ov ← holding [v] (eval (.Name x px) X.env)
      let iv ← holding [v, ov] (eval a X.env)
      standAt ppos
      holding [v, ov, iv] (setItem ov iv v)
      release [v, ov, iv] []) := by intro _; rfl)
    (hd : (x == ("__debug__" : Str)) = false := by decide) (hcd : (x == ("__classdict__" : Str)) = false := by decide) : DS X c (.Assign [.Subscript (.Name x px) a ppos] e pos) (sSetI i tk tv) :=
  psImp (ps_asg hv (pg_sub (pe_var (i := i) hN hvis hd hcd) hk (PSet.or set_list (set_dict hu)) hsub) hs hw h1) fun D σ H h => by
    obtain ⟨o, ρ, P, R0, h, w⟩ := h
    refine frz1 R0 h fun v H1 o1 d ρ1 L1 R1 d1 h1 => ?_
    obtain ⟨h0, h1⟩ := (show hasM ρ1 i ∧ tk ρ1 fun rk ρ2 => match rk with
      | .im k => match ρ2[i]? with
        | some s => match s.m! with
          | some m => setM m k d fun m' => P.nx (ρ2.set i (s.up m'))
          | none => False
        | none => False
      | _ => False from h1)
    obtain ⟨y, hy⟩ := hasM_at R1 h0
    refine ⟨y, hy, o1, ρ1, [], _, R1, h1, fun v2 H2 o2 r2 ρ2 τ2 L2 R2 z2 h2 => ?_⟩
    split at h2
    · obtain ⟨rfl, z2⟩ := z2
      split at h2
      · rename_i s es
        split at h2
        · rename_i m em
          exact setM_ok (Q := fun H3 => D.nx σ H3) R2 es em hy z2 (d1.mono L2) h2 fun H3 m' R3 L3 hG => w.nx _ _ _ _ (L1.trans (L2.trans L3)) R3 hG
        · exact h2.elim
      · exact h2.elim
    · exact h2.elim
end
end Y
namespace Y
open PySem PySem.Spec L2

section
variable {K : PySem.W.Frag} {c : Cc} {o o' : Own} {σ σ' : St} {H H' : Hp} {ρ ρ' : Env} {τ τ' τ0 τ1 : List (V × M)} {X : Cx} {e a b : Expr} {es : List Expr} {pos : Pos} {t u : TX} {P : EndP} {D' : Ends}
/-! ### targets -/
inductive Bd where
  | one (i : Nat) | many (is : List Nat)
def gNms : List Nat → TGs
  | [] => gNil
  | i :: is => gCons (gName i) (gNms is)
def Bd.tg (K : PySem.W.Frag) : Bd → TG
  | .one i => gName i
  | .many is => gTup K is.length (gNms is)
def Bd.slots : Bd → List Nat
  | .one i => [i]
  | .many is => is
def setAll (ρ : Env) : List Nat → List D → Env
  | i :: is, d :: ds => setAll (ρ.set i (.lo (.im d))) is ds
  | _, _ => ρ
def bnd (b : Bd) (d : D) (ρ : Env) (k : Env → Prop) : Prop := match b with
  | .one i => k (ρ.set i (.lo (.im d)))
  | .many is => match d with
    | .tup ds => ds.length = is.length ∧ k (setAll ρ is ds)
    | _ => False
theorem wipe_at {i : Nat} : ∀ {vs : List Nat}, i ∈ vs → i < σ.length → (wipe σ vs)[i]? = some none
  | v :: vs, h, l => by
    unfold wipe
    by_cases e : v = i
    · subst e; rw [List.getElem?_set_self (by rw [wipe_length]; exact l)]
    · rw [List.getElem?_set_ne e]
      rcases List.mem_cons.mp h with h | h
      · exact absurd h.symm e
      · exact wipe_at h l
theorem wipe_set {i : Nat} {x : Option V} {vs : List Nat} (h : i ∈ vs) : wipe (σ.set i x) vs = wipe σ vs := by
  apply List.ext_getElem?
  intro j
  by_cases hj : j ∈ vs
  · by_cases hl : j < σ.length
    · rw [wipe_at hj hl, wipe_at hj (by rw [List.length_set]; exact hl)]
    · rw [List.getElem?_eq_none (by rw [wipe_length, List.length_set]; omega), List.getElem?_eq_none (by rw [wipe_length]; omega)]
  · rw [wipe_out hj, wipe_out hj, List.getElem?_set_ne (fun e => hj (by rw [← e]; exact h))]
theorem setAll_ok : ∀ {is : List Nat} {ds : List D} {vs : List V} {σ : St} {ρ : Env}, Rep K c o σ H ρ τ → Dats K o H vs ds → ds.length = is.length → {f : Env → Prop} → f (setAll ρ is ds) → {k : St → Hp → Prop} →
    (∀ σ' ρ', Rep K c o σ' H ρ' τ → (∀ ws, (∀ i ∈ is, i ∈ ws) → wipe σ' ws = wipe σ ws) → f ρ' → k σ' H) → gNms is vs σ H k
  | [], [], _, σ, ρ, R0, .nil, _, f, h, k, q => ⟨rfl, q σ ρ R0 (fun _ _ => rfl) h⟩
  | i :: is, d :: ds, _, σ, ρ, R0, .cons (v := v) (vs := vs) a r, hl, f, h, k, q => by
    refine ⟨v, vs, rfl, ?_⟩
    show gNms is vs (σ.set i (some v)) H k
    refine setAll_ok (R0.asg (i := i) (m := .im d) a) r (Nat.succ.inj hl) h fun σ' ρ' R w hf => q σ' ρ' R (fun ws hw => ?_) hf
    rw [w ws (fun j hj => hw j (List.mem_cons_of_mem _ hj)), wipe_set (hw i List.mem_cons_self)]
theorem bnd_ok {bd : Bd} {v : V} {d : D} {f : Env → Prop} {k : St → Hp → Prop} (R0 : Rep K c o σ H ρ τ) (hd : Dat K o H v d) (h : bnd bd d ρ f)
    (q : ∀ σ' ρ', Rep K c o σ' H ρ' τ → (∀ ws, (∀ i ∈ bd.slots, i ∈ ws) → wipe σ' ws = wipe σ ws) → f ρ' → k σ' H) : bd.tg K v σ H k := by
  cases bd with
  | one i => exact q _ _ (R0.asg (m := .im d) hd) (fun ws hw => wipe_set (hw i (by simp [Bd.slots]))) h
  | many is =>
    unfold bnd at h
    simp only at h
    split at h
    · cases hd with
      | tup t r =>
        refine ⟨_, _, rfl, t.sq, by rw [r.length]; exact h.1, ?_⟩
        exact setAll_ok R0 r h.1 h.2 q
    · exact h.elim

/-! ### what is walked -/
inductive Src where
  | fx (ds : List D) | sl (i : Nat) (es ds : List D) | hs (i : Nat) (p : Bool) (v : V) (es ds : List D)
/-- the iterator yields what stands in ds, wherever C holds -/
def Runs (K : PySem.W.Frag) (J : It) (ds : List D) (C : Own → Hp → Prop) : Prop := ∀ o H, C o H → (∀ a l, o a = some l → Mut (H a)) →
  (∀ (i : Nat) d, ds[i]? = some d → J.go i H ∧ ∀ x H', J.yld i H x H' → Grow H H' ∧ Dat K o H' x d) ∧ J.stop ds.length H
def SrcOk (K : PySem.W.Frag) (J : It) (o : Own) (H : Hp) (σ : St) : Src → Prop
  | .fx ds => Runs K J ds fun o' H' => Le o H o' H'
  | .sl i es ds => ∃ v, σ[i]? = some (some v) ∧ Runs K J ds fun o' H' => ∃ l, IsM K o' H' l v (.ls es)
  | .hs i p v es ds => Runs K J ds fun o' H' => ∃ l, IsM K o' H' l v (.ls es)
abbrev TSrc := Env → (Src → Env → Prop) → Prop
def TIo (K : PySem.W.Frag) (c : Cc) (ti : TSrc) : TI := fun σ H R => ∃ o ρ τ Q, Rep K c o σ H ρ τ ∧ ti ρ Q ∧ ∀ J H' o' ρ' s, Le o H o' H' → Rep K c o' σ H' ρ' τ → SrcOk K J o' H' σ s → Q s ρ' → R J H'
def DI (X : Cx) (c : Cc) (tg iter : Expr) (ti : TSrc) : Prop := PI X tg iter (TIo X.K c ti)
theorem piImp {tg iter : Expr} {wi wi' : TI} (h : PI X tg iter wi) (f : ∀ σ H R, wi' σ H R → wi σ H R) : PI X tg iter wi' := ⟨fun pins s σ H R I q => h.run pins s σ H R I (f _ _ _ q)⟩
theorem PI.or {tg iter : Expr} {wi wi' : TI} (h : PI X tg iter wi) (h' : PI X tg iter wi') : PI X tg iter (fun σ H R => wi σ H R ∨ wi' σ H R) := ⟨fun pins s σ H R I q => by
  rcases q with q | q
  · exact h.run pins s σ H R I q
  · exact h'.run pins s σ H R I q⟩
theorem runs_list {ad : Addr} {ds : List D} {C : Own → Hp → Prop} (h : ∀ o H, C o H → ∃ xs, SqL K H ad xs ∧ Dats K o H xs ds) : Runs K (Itl K ad) ds C := fun o H hc mu => by
  obtain ⟨xs, h1, h2⟩ := h o H hc
  refine ⟨fun i d e => ?_, ⟨xs, h1, by rw [h2.length]; exact Nat.le_refl _⟩⟩
  obtain ⟨v, ev, dv⟩ := h2.get e
  refine ⟨⟨xs, v, h1, ev⟩, fun x H' y => ?_⟩
  obtain ⟨rfl, y⟩ := y
  have := y xs h1
  rw [ev] at this; cases this
  exact ⟨.refl, dv⟩
theorem runs_tup {ad : Addr} {xs : List V} {ds : List D} {C : Own → Hp → Prop} (h : ∀ o H, C o H → SqT K H ad xs ∧ Dats K o H xs ds) : Runs K (Itt K ad) ds C := fun o H hc mu => by
  obtain ⟨h1, h2⟩ := h o H hc
  refine ⟨fun i d e => ?_, ⟨xs, h1, by rw [h2.length]; exact Nat.le_refl _⟩⟩
  obtain ⟨v, ev, dv⟩ := h2.get e
  refine ⟨⟨xs, v, h1, ev⟩, fun x H' y => ?_⟩
  obtain ⟨rfl, y⟩ := y
  have := y xs h1
  rw [ev] at this; cases this
  exact ⟨.refl, dv⟩
/-- for .. in x: x data, a new list, a name's own list (which stays while it is walked), a list that is only read -/
def srcOf (r : R) (ρ : Env) (k : Src → Env → Prop) : Prop := match r with
  | .im (.tup ds) => k (.fx ds) ρ
  | .im (.lst ds) => k (.fx ds) ρ
  | .tm (.ls ds) => k (.fx ds) ρ
  | .sl i => match ρ[i]? with
    | some (.lo (.ls ds)) => k (.sl i ds ds) ρ
    | some (.pa (.ls ds)) => k (.sl i ds ds) ρ
    | some (.lo (.sq ds)) => k (.fx ds) ρ
    | some (.pa (.sq ds)) => k (.fx ds) ρ
    | some (.hd p v (.ls ds)) => k (.hs i p v ds ds) ρ
    | _ => False
  | .im (.str z) => k (.fx (z.cps.toList.map fun n => D.str ⟨#[n]⟩)) ρ
  | _ => False
def iAny (K : PySem.W.Frag) (tl : TE) : TI := fun σ H R => tl σ H fun x H1 => (∃ ad xs, x = .ref ad ∧ SqL K H1 ad xs ∧ R (Itl K ad) H1) ∨ (∃ ad xs, x = .ref ad ∧ SqT K H1 ad xs ∧ R (Itt K ad) H1) ∨ ∃ z, x = .str z ∧ R (Its z) H1
theorem pi_any {tg l : Expr} {tl : TE} (hl : PE X l tl) : PI X tg l (iAny X.K tl) := by
  constructor
  intro pins s σ H R I h
  refine thn (hl.run pins s σ H _ I h) ?_
  rintro v s1 ⟨x, H1, I1, r1, q⟩
  rcases q with ⟨ad, xs, rfl, hq, q⟩ | ⟨ad, xs, rfl, hq, q⟩ | ⟨z, rfl, q⟩
  · cases r1
    obtain ⟨its, rv, p, hz⟩ := I1.list hq
    exact wpAny_pyIter_list p.isList (pi_one (tk := s1.toks) I1 _ (turn_list ad _) ⟨_, Heap.get?_push_size _ rfl, rfl, rfl⟩ q)
  · cases r1
    obtain ⟨its, rv, p, hz⟩ := I1.tuple hq
    exact wpAny_pyIter_tuple (show s1.heap.IsTuple ad its.toArray from p) (pi_one (tk := s1.toks) I1 _ (turn_tuple ad _) ⟨_, Heap.get?_push_size _ rfl, rfl, rfl⟩ q)
  · obtain ⟨t, rfl⟩ := r1
    cases ha : z.cps.all (· < 128)
    · exact PySem.wpAny_pyIter_wide ha (pi_one (tk := s1.toks) I1 _ (turn_str _ z t "str_iterator" (.inr rfl)) ⟨_, Heap.get?_push_size _ rfl, rfl, rfl⟩ q)
    · exact PySem.wpAny_pyIter_ascii ha (pi_one (tk := s1.toks) I1 _ (turn_str _ z t "str_ascii_iterator" (.inl rfl)) ⟨_, Heap.get?_push_size _ rfl, rfl, rfl⟩ q)
def iSeq (t : TX) : TSrc := fun ρ k => t ρ fun r ρ1 => srcOf r ρ1 k
theorem runs_str {z : Str} {C : Own → Hp → Prop} : Runs K (Its z) (z.cps.toList.map fun n => D.str ⟨#[n]⟩) C := fun o H _ mu => by
  refine ⟨fun i d e => ?_, by show z.cps.size ≤ _; simp⟩
  rw [List.getElem?_map] at e
  cases q : z.cps.toList[i]? with
  | none => rw [q] at e; cases e
  | some n =>
    rw [q] at e; cases e
    have q2 : z.cps[i]? = some n := by simpa using q
    refine ⟨(Array.getElem?_eq_some_iff.mp q2).1, fun x H' y => ?_⟩
    obtain ⟨rfl, n', e', rfl⟩ := y
    rw [q2] at e'; cases e'
    exact ⟨.refl, .str _⟩
theorem src_ok {v : V} {r : R} {ti : Src → Env → Prop} {R' : It → Hp → Prop} (R1 : Rep K c o σ H ρ τ') (z : RelR K o H σ v r τ τ') (h : srcOf r ρ ti)
    (q : ∀ J o' s, Le o H o' H → Rep K c o' σ H ρ τ → SrcOk K J o' H σ s → ti s ρ → R' J H) :
    (∃ ad xs, v = .ref ad ∧ SqL K H ad xs ∧ R' (Itl K ad) H) ∨ (∃ ad xs, v = .ref ad ∧ SqT K H ad xs ∧ R' (Itt K ad) H) ∨ ∃ z, v = .str z ∧ R' (Its z) H := by
  unfold srcOf at h
  split at h
  · obtain ⟨rfl, z⟩ := z
    cases z with
    | tup t d => exact .inr (.inl ⟨_, _, rfl, t.sq, q _ o (.fx _) .refl R1 (runs_tup fun o' H' L => ⟨(t.mono L).sq, d.mono L⟩) h⟩)
  · obtain ⟨rfl, z⟩ := z
    cases z with
    | lst a b d => exact .inl ⟨_, _, rfl, SqL.of b, q _ o (.fx _) .refl R1 (runs_list fun o' H' L => ⟨_, SqL.of (L.keep _ _ a b).2, d.mono L⟩) h⟩
  · have z : τ' = τ ++ [(v, _)] := z
    subst z
    obtain ⟨a, xs, rfl, ho, hH, d⟩ := (R1.tm τ.length _ _ (by rw [List.getElem?_append_right (Nat.le_refl _), Nat.sub_self]; rfl)).1
    have R2 := R1.drop (List.prefix_append τ _)
    have e : dropT τ.length o a = none := by unfold dropT; rw [ho]; show (if τ.length < τ.length then _ else none) = none; rw [if_neg (Nat.lt_irrefl _)]
    exact .inl ⟨_, _, rfl, SqL.of hH, q _ _ (.fx _) (dropT_le _) R2 (runs_list fun o' H' L => ⟨_, SqL.of (L.keep _ _ e hH).2, (d.mono (dropT_le τ.length)).mono L⟩) h⟩
  · obtain ⟨rfl, z⟩ := z
    split at h
    · rename_i ds e
      obtain ⟨w, e1, a, xs, rfl, ho, hH, d⟩ := R1.sl _ _ e
      rw [z] at e1; cases e1
      refine .inl ⟨_, _, rfl, SqL.of hH, q _ o (.sl _ ds ds) .refl R1 ⟨_, z, runs_list fun o' H' ⟨l, b, ys, e2, h1, h2, h3⟩ => ?_⟩ h⟩
      cases e2; exact ⟨ys, SqL.of h2, h3⟩
    · rename_i ds e
      obtain ⟨w, e1, _, a, xs, rfl, ho, hH, d⟩ := R1.sl _ _ e
      rw [z] at e1; cases e1
      refine .inl ⟨_, _, rfl, SqL.of hH, q _ o (.sl _ ds ds) .refl R1 ⟨_, z, runs_list fun o' H' ⟨l, b, ys, e2, h1, h2, h3⟩ => ?_⟩ h⟩
      cases e2; exact ⟨ys, SqL.of h2, h3⟩
    · rename_i ds e
      obtain ⟨w, e1, a, xs, rfl, hl, d⟩ := R1.sl _ _ e
      rw [z] at e1; cases e1
      exact .inl ⟨_, _, rfl, hl.sq, q _ o (.fx _) .refl R1 (runs_list fun o' H' L => ⟨_, (hl.mono L).sq, d.mono L⟩) h⟩
    · rename_i ds e
      obtain ⟨w, e1, _, a, xs, rfl, hl, d⟩ := R1.sl _ _ e
      rw [z] at e1; cases e1
      exact .inl ⟨_, _, rfl, hl.sq, q _ o (.fx _) .refl R1 (runs_list fun o' H' L => ⟨_, (hl.mono L).sq, d.mono L⟩) h⟩
    · rename_i p v0 ds e
      obtain ⟨e1, _, a, xs, rfl, ho, hH, d⟩ := R1.sl _ _ e
      rw [z] at e1; cases e1
      refine .inl ⟨_, _, rfl, SqL.of hH, q _ o (.hs _ p _ ds ds) .refl R1 (runs_list fun o' H' ⟨l, b, ys, e2, h1, h2, h3⟩ => ?_) h⟩
      cases e2; exact ⟨ys, SqL.of h2, h3⟩
    · exact h.elim
  · obtain ⟨rfl, z⟩ := z
    cases z
    exact .inr (.inr ⟨_, rfl, q _ o (.fx _) .refl R1 runs_str h⟩)
  · exact h.elim
theorem di_seq {tg : Expr} (h : DE X c e t) : DI X c tg e (iSeq t) := piImp (pi_any h) fun σ H R hh => by
  obtain ⟨o, ρ, τ, Q, R0, hh, q⟩ := hh
  exact ⟨o, ρ, τ, _, R0, hh, fun v1 H1 o1 r1 ρ1 τ1 L1 R1 z1 h1 => src_ok R1 z1 h1 fun J o' s L R' ok hs => q J H1 o' ρ1 s (L1.trans L) R' ok hs⟩

/-! ### range -/
def gRng (lo : Int) (n : Nat) : List D := (List.range n).map fun (i : Nat) => D.int (lo + (i : Int))
theorem runs_rng {lo : Int} {n : Nat} {C : Own → Hp → Prop} : Runs K (Itr lo n) (gRng lo n) C := fun o H _ mu => by
  refine ⟨fun i d e => ?_, by show n ≤ _; simp [gRng]⟩
  unfold gRng at e
  rw [List.getElem?_map] at e
  by_cases hi : i < n
  · rw [List.getElem?_range hi] at e
    cases e
    refine ⟨hi, fun x H' y => ?_⟩
    obtain ⟨rfl, rfl⟩ := y
    exact ⟨.refl, .int _⟩
  · rw [List.getElem?_eq_none (by simpa using hi)] at e; cases e
def iRg1 (ta : TL) : TSrc := fun ρ k => ta ρ fun rs ρ1 => match rs with
  | [.im (.int j)] => j < 2 ^ 62 ∧ -(2 ^ 62) ≤ j ∧ k (.fx (gRng 0 j.toNat)) ρ1
  | _ => False
def iRg2 (ta : TL) : TSrc := fun ρ k => ta ρ fun rs ρ1 => match rs with
  | [.im (.int i), .im (.int j)] => (-(2 ^ 62) ≤ i ∧ i < 2 ^ 62 ∧ -(2 ^ 62) ≤ j ∧ j < 2 ^ 62) ∧ k (.fx (gRng i (j - i).toNat)) ρ1
  | _ => False
section
variable {tg : Expr} {p : Pos} {tl : TL}
theorem di_rng1 (hg : Gl X "range") (hm : X.mg "range" = none) (ha : DA X c [a] tl) (hs : starEach [a] X.env = [(false, eval a X.env)] := by rfl) : DI X c tg (.Call (.Name "range" p) [a] [] pos) (iRg1 tl) :=
  piImp (pi_range1 hg hm ha hs) fun σ H R hh => by
    obtain ⟨o, ρ, τ, Q, R0, hh, q⟩ := hh
    refine ⟨o, ρ, τ, _, R0, hh, fun vs H1 o1 rs ρ1 τ1 L1 R1 z1 h1 => ?_⟩
    split at h1
    · cases z1 with
      | cons z t =>
        cases t
        obtain ⟨rfl, z⟩ := z
        cases z
        exact ⟨_, rfl, h1.2.1, h1.1, q _ H1 o1 ρ1 (.fx _) L1 R1 runs_rng h1.2.2⟩
    · exact h1.elim
theorem di_rng2 (hg : Gl X "range") (hm : X.mg "range" = none) (ha : DA X c [a, b] tl) (hs : starEach [a, b] X.env = [(false, eval a X.env), (false, eval b X.env)] := by rfl) (hs2 : starEach [b] X.env = [(false, eval b X.env)] := by rfl) :
    DI X c tg (.Call (.Name "range" p) [a, b] [] pos) (iRg2 tl) :=
  piImp (pi_range2 hg hm ha hs hs2) fun σ H R hh => by
    obtain ⟨o, ρ, τ, Q, R0, hh, q⟩ := hh
    refine ⟨o, ρ, τ, _, R0, hh, fun vs H1 o1 rs ρ1 τ1 L1 R1 z1 h1 => ?_⟩
    split at h1
    · cases z1 with
      | cons z t =>
        cases t with
        | cons z2 t2 =>
          cases t2
          obtain ⟨rfl, z⟩ := z
          obtain ⟨rfl, z2⟩ := z2
          cases z
          cases z2
          exact ⟨_, _, rfl, h1.1, q _ H1 o1 ρ1 (.fx _) L1 R1 runs_rng h1.2⟩
    · exact h1.elim
end
end
end Y
namespace Y
open PySem PySem.Spec L2

section
variable {K : PySem.W.Frag} {c : Cc} {o o' : Own} {σ σ' : St} {H H' : Hp} {ρ ρ' : Env} {τ τ' τ0 τ1 : List (V × M)} {X : Cx} {e a b : Expr} {es : List Expr} {pos : Pos} {t u : TX} {P : EndP} {D' : Ends}
/-! ### for -/
/-- the turns over ds; gd: what holds between two turns -/
def loopS (b : Bd) (t : TSX) (gd : Env → Prop) (P : EndP) : List D → Env → Prop
  | [], ρ => gd ρ ∧ P.nx ρ
  | d :: ds, ρ => gd ρ ∧ bnd b d ρ fun ρ1 => t { P with nx := loopS b t gd P ds, ct := loopS b t gd P ds, bk := P.nx } ρ1
theorem loop_ok {J : It} {ds : List D} {bd : Bd} {t : TSX} {gd : Env → Prop} {C : Own → Hp → Prop} {o1 : Own} {H1 : Hp} (hr : Runs K J ds C) (hc : ∀ o' σ' H' ρ', Le o1 H1 o' H' → Rep K c o' σ' H' ρ' [] → gd ρ' → C o' H')
    (R0 : Rep K c o1 σ H1 ρ []) (w : Ways K c o1 H1 P D') (h : loopS bd t gd P ds ρ) :
    ∃ W : Nat → Nat → St → Hp → Prop, (∃ m, W 0 m σ H1) ∧ ∀ i m σ H, W i m σ H →
      (J.stop i H ∧ D'.nx σ H) ∨ (J.go i H ∧ ∃ N : St → Hp → Prop, (∀ σ' H', N σ' H' → ∃ m', m' < m ∧ W (i + 1) m' σ' H') ∧ ∀ x H', J.yld i H x H' → bd.tg K x σ H' fun σ2 H2 => TSo K c t { D' with nx := N, ct := N, bk := D'.nx } σ2 H2) := by
  refine ⟨fun i m σ H => m = ds.length - i ∧ i ≤ ds.length ∧ ∃ o ρ, Le o1 H1 o H ∧ Rep K c o σ H ρ [] ∧ loopS bd t gd P (ds.drop i) ρ, ⟨ds.length, by simp, Nat.zero_le _, o1, ρ, .refl, R0, by simpa using h⟩, ?_⟩
  rintro i m σ H ⟨rfl, hi, o, ρ, L, R, h⟩
  by_cases hlt : i < ds.length
  · have e : ds.drop i = ds[i] :: ds.drop (i + 1) := List.drop_eq_getElem_cons hlt
    rw [e] at h
    obtain ⟨hg, h⟩ := h
    obtain ⟨go, yl⟩ := (hr o H (hc o σ H ρ L R hg) R.mu).1 i ds[i] (by simp [hlt])
    refine .inr ⟨go, fun σ' H' => ∃ o' ρ', Le o1 H1 o' H' ∧ Rep K c o' σ' H' ρ' [] ∧ loopS bd t gd P (ds.drop (i + 1)) ρ', fun σ' H' ⟨o', ρ', L', R', h'⟩ => ⟨ds.length - (i + 1), by omega, rfl, hlt, o', ρ', L', R', h'⟩, fun x H' y => ?_⟩
    obtain ⟨g, dx⟩ := yl x H' y
    refine bnd_ok (R.grow g) dx h fun σ' ρ' R' _ hf => ?_
    have L2 : Le o1 H1 o H' := L.trans (g.le R.mu)
    refine ⟨o, ρ', _, R', hf, ⟨fun σ2 H2 o2 ρ2 L3 R3 q => ⟨o2, ρ2, L2.trans L3, R3, q⟩, w.rt.le L2, ?_, fun σ2 H2 o2 ρ2 L3 R3 q => ⟨o2, ρ2, L2.trans L3, R3, q⟩⟩⟩
    exact w.nx.le L2
  · have e : i = ds.length := by omega
    subst e
    rw [List.drop_length] at h
    exact .inl ⟨(hr o H (hc o σ H ρ L R h.1) R.mu).2, w.nx σ H o ρ L R h.2⟩
def Sl.isP : Sl → Bool
  | .pa _ => true
  | _ => false
/-- the slot's object is walked: it is read, not changed -/
theorem Rep.hide (R0 : Rep K c o σ H ρ τ) {i : Nat} {s : Sl} {m : M} (e : ρ[i]? = some s) (em : s.m! = some m) : ∃ v, σ[i]? = some (some v) ∧ Rep K c (relL (.s i) (.h i) o) σ H (ρ.set i (.hd s.isP v m)) τ := by
  have L : Le o H (relL (.s i) (.h i) o) H := relL_le (by intro z; cases z)
  have k := R0.sl i s e
  have R1 := R0.move i (.h i)
  have go : ∀ (p : Bool) (v : V), σ[i]? = some (some v) → (p = true → c.pv[i]? = some v) → IsM K o H (.s i) v m → Rep K c (relL (.s i) (.h i) o) σ H (ρ.set i (.hd p v m)) τ := fun p v hv hp q => by
    refine ⟨fun j s' z => ?_, R1.tm, R1.mu, R1.le, by rw [List.length_set]; exact R0.ln⟩
    by_cases hj : i = j
    · subst hj
      rw [List.getElem?_set_self (List.getElem?_eq_some_iff.mp e).1] at z; cases z
      exact ⟨hv, hp, q.mono L fun a y => ⟨relL_same y, rfl⟩⟩
    · rw [List.getElem?_set_ne hj] at z
      exact R1.sl j s' (by rw [List.getElem?_set_ne hj]; exact z)
  cases s with
  | no => cases em
  | lo z => cases em; obtain ⟨v, hv, q⟩ := k; exact ⟨v, hv, go false v hv (fun z => by cases z) q⟩
  | pa z => cases em; obtain ⟨v, hv, hp, q⟩ := k; exact ⟨v, hv, go true v hv (fun _ => hp) q⟩
  | hd p v z => cases em
/-- .. no more -/
theorem Rep.unhide (R0 : Rep K c o σ H ρ τ) {i : Nat} {p : Bool} {v : V} {m : M} (e : ρ[i]? = some (.hd p v m)) : Rep K c (relL (.h i) (.s i) o) σ H (ρ.set i (if p then .pa m else .lo m)) τ ∧ Le o H (relL (.h i) (.s i) o) H := by
  have L : Le o H (relL (.h i) (.s i) o) H := relL_le (by intro z; cases z)
  obtain ⟨hv, hp, q⟩ := R0.sl i _ e
  refine ⟨⟨fun j s' z => ?_, fun j w m' z => ⟨(R0.tm j w m' z).1.mono L fun a q => ⟨relL_other (by intro z; cases z) q, rfl⟩, (R0.tm j w m' z).2⟩, relL_mu R0.mu, R0.le.trans L, by rw [List.length_set]; exact R0.ln⟩, L⟩
  by_cases hj : i = j
  · subst hj
    rw [List.getElem?_set_self (List.getElem?_eq_some_iff.mp e).1] at z; cases z
    have q' : IsM K (relL (.h i) (.s i) o) H (.s i) v m := q.mono L fun a y => ⟨relL_same y, rfl⟩
    cases p with
    | true => exact ⟨v, hv, hp rfl, q'⟩
    | false => exact ⟨v, hv, q'⟩
  · rw [List.getElem?_set_ne hj] at z
    exact (R0.sl j s' z).mono L (fun a q => ⟨relL_other (by intro z; cases z) q, rfl⟩) fun a q => ⟨relL_other (by intro z; injection z with z; exact hj z.symm) q, rfl⟩
def backS (i : Nat) (s : Sl) (v : V) (m : M) (f : Env → Prop) : Env → Prop := fun ρ => ρ[i]? = some (.hd s.isP v m) ∧ f (ρ.set i s)
def sFor (ti : TSrc) (b : Bd) (t : TSX) : TSX := fun P ρ => ti ρ fun src ρ1 => match src with
  | .fx ds => loopS b t (fun _ => True) P ds ρ1
  | .sl i es ds => match ρ1[i]? with
    | some s => match s.m! with
      | some m => m = .ls es ∧ ∀ v, loopS b t (fun ρ => ρ[i]? = some (.hd s.isP v m)) { P with nx := backS i s v m P.nx } ds (ρ1.set i (.hd s.isP v m))
      | none => False
    | none => False
  | .hs i p v es ds => loopS b t (fun ρ => ρ[i]? = some (.hd p v (.ls es))) P ds ρ1
theorem ds_for {tg iter : Expr} {body : List Stmt} {ti : TSrc} {bd : Bd} {t : TSX} (hp : PassesOwn (model X.prog X.w) X.A X.env X.xe) (hc : X.calm = true) (hi : DI X c tg iter ti) (hg : PG X tg (bd.tg X.K)) (hb : DSs X c body t)
    (hs : ∀ x, foldedSetIterable iter X.env x = pure x := by intro _; rfl) : DS X c (.For tg iter body [] pos) (sFor ti bd t) :=
  psImp (ps_for hp hc hi hg hb hs) fun D σ H h => by
    obtain ⟨o, ρ, P, R0, h, w⟩ := h
    refine ⟨o, ρ, [], _, R0, h, fun J H1 o1 ρ1 src L1 R1 ok h1 => ?_⟩
    cases src with
    | fx ds =>
      exact loop_ok (C := fun o' H' => Le o1 H1 o' H') ok (fun o' σ' H' ρ' L R _ => L) R1 (w.le L1) h1
    | sl i es ds =>
      obtain ⟨v0, hv0, ok⟩ := ok
      have h1 : (match ρ1[i]? with
        | some s => match s.m! with
          | some m => m = .ls es ∧ ∀ v, loopS bd t (fun ρ => ρ[i]? = some (.hd s.isP v m)) { P with nx := backS i s v m P.nx } ds (ρ1.set i (.hd s.isP v m))
          | none => False
        | none => False) := h1
      split at h1
      · rename_i s e
        split at h1
        · rename_i m em
          obtain ⟨rfl, h1⟩ := h1
          obtain ⟨v, hv, R2⟩ := R1.hide e em
          rw [hv0] at hv; cases hv
          have L2 : Le o1 H1 (relL (.s i) (.h i) o1) H1 := relL_le (by intro z; cases z)
          refine loop_ok (P := { P with nx := backS i s v0 (.ls es) P.nx }) (C := fun o' H' => ∃ l, IsM X.K o' H' l v0 (.ls es)) ok (fun o' σ' H' ρ' L R g => ?_) R2 ⟨fun σ' H' o' ρ' L R q => ?_, (w.le (L1.trans L2)).rt, (w.le (L1.trans L2)).bk, (w.le (L1.trans L2)).ct⟩ (h1 v0)
          · obtain ⟨_, _, q⟩ := R.sl i _ g
            exact ⟨_, q⟩
          · obtain ⟨q1, q2⟩ := q
            obtain ⟨R3, L3⟩ := R.unhide q1
            refine w.nx σ' H' _ _ (L1.trans (L2.trans (L.trans L3))) R3 ?_
            cases s with
            | pa z => cases em; exact q2
            | lo z => cases em; exact q2
            | no => cases em
            | hd _ _ _ => cases em
        · exact h1.elim
      · exact h1.elim
    | hs i p v es ds =>
      refine loop_ok (C := fun o' H' => ∃ l, IsM X.K o' H' l v (.ls es)) ok (fun o' σ' H' ρ' L R g => ?_) R1 (w.le L1) h1
      obtain ⟨_, _, q⟩ := R.sl i _ g
      exact ⟨_, q⟩

/-! ### while -/
def whileS (q : TQ) (t : TSX) (P : EndP) : Nat → Env → Prop
  | 0, _ => False
  | n + 1, ρ => q ρ fun b ρ1 => if b = true then t { P with nx := whileS q t P n, ct := whileS q t P n, bk := P.nx } ρ1 else P.nx ρ1
def sWhile (q : TQ) (t : TSX) : TSX := fun P ρ => ∃ n, whileS q t P n ρ
theorem ds_while {cond : Expr} {body : List Stmt} {q : TQ} {t : TSX} (hp : PassesOwn (model X.prog X.w) X.A X.env X.xe) (hc : DT X c cond q) (hb : DSs X c body t) : DS X c (.While cond body [] pos) (sWhile q t) :=
  psImp (ps_while hp hc hb) fun D σ H h => by
    obtain ⟨o, ρ, P, R0, ⟨n, h⟩, w⟩ := h
    refine ⟨fun m σ' H' => ∃ o' ρ', Le o H o' H' ∧ Rep X.K c o' σ' H' ρ' [] ∧ whileS q t P m ρ', ⟨n, o, ρ, .refl, R0, h⟩, fun m σ' H' ⟨o', ρ', L, R, h⟩ => ?_⟩
    cases m with
    | zero => exact h.elim
    | succ m =>
      refine ⟨o', ρ', [], _, R, h, fun b H2 o2 ρ2 L2 R2 h2 => ?_⟩
      cases b with
      | false => exact w.nx σ' H2 o2 ρ2 (L.trans L2) R2 h2
      | true =>
        refine ⟨fun σ3 H3 => ∃ o3 ρ3, Le o H o3 H3 ∧ Rep X.K c o3 σ3 H3 ρ3 [] ∧ whileS q t P m ρ3, fun σ3 H3 h3 => ⟨m, Nat.lt_succ_self _, h3⟩, ?_⟩
        have L3 := L.trans L2
        exact ⟨o2, ρ2, _, R2, h2, ⟨fun σ3 H3 o3 ρ3 L4 R4 q => ⟨o3, ρ3, L3.trans L4, R4, q⟩, w.rt.le L3, w.nx.le L3, fun σ3 H3 o3 ρ3 L4 R4 q => ⟨o3, ρ3, L3.trans L4, R4, q⟩⟩⟩

/-! ### a, b = e -/
def sUnp (b : Bd) (t : TX) : TSX := fun P ρ => t ρ fun r ρ1 => match r with
  | .im d => bnd b d ρ1 P.nx
  | _ => False
theorem ds_unp {tg : Expr} {bd : Bd} (h : DE X c e t) (hg : PG X tg (bd.tg X.K)) (hs : swapsWithSole [tg] e pos.line X.env = pure false := by rfl) (hw : swappedStores [tg] e X.env = pure none := by rfl)
    (h1 : (assignEach [tg] X.env).map (·.2) = [assign tg X.env] := by rfl) : DS X c (.Assign [tg] e pos) (sUnp bd t) :=
  psImp (ps_asg h hg hs hw h1) fun D σ H h => by
    obtain ⟨o, ρ, P, R0, h, w⟩ := h
    refine ⟨o, ρ, [], _, R0, h, fun v H1 o1 r1 ρ1 τ1 L1 R1 z1 h1 => ?_⟩
    split at h1
    · obtain ⟨rfl, z⟩ := z1
      exact bnd_ok R1 z h1 fun σ' ρ' R _ hf => w.nx σ' H1 o1 ρ' L1 R hf
    · exact h1.elim
end
end Y
namespace Y
open PySem PySem.Spec L2

section
variable {K : PySem.W.Frag} {c : Cc} {o o' : Own} {σ σ' : St} {H H' : Hp} {ρ ρ' : Env} {τ τ' τ0 τ1 : List (V × M)} {X : Cx} {e a b : Expr} {es : List Expr} {pos : Pos} {t u : TX} {P : EndP} {D' : Ends}
/-! ### comprehensions -/
def wipeE (ρ : Env) : List Nat → Env
  | [] => ρ
  | v :: vs => (wipeE ρ vs).set v .no
def keepS : Option Sl → Sl
  | some (.lo (.im d)) => .lo (.im d)
  | some (.pa (.im d)) => .pa (.im d)
  | _ => .no
def restE (ρ0 ρ : Env) : List Nat → Env
  | [] => ρ
  | v :: vs => (restE ρ0 ρ vs).set v (keepS ρ0[v]?)
theorem wipe_idem {vs : List Nat} : wipe (wipe σ vs) vs = wipe σ vs := by
  apply List.ext_getElem?
  intro j
  by_cases hj : j ∈ vs
  · by_cases hl : j < σ.length
    · rw [wipe_at hj hl, wipe_at hj (by rw [wipe_length]; exact hl)]
    · rw [List.getElem?_eq_none (by rw [wipe_length, wipe_length]; omega), List.getElem?_eq_none (by rw [wipe_length]; omega)]
  · rw [wipe_out hj]
theorem wipeE_length : ∀ vs : List Nat, (wipeE ρ vs).length = ρ.length
  | [] => rfl
  | v :: vs => by unfold wipeE; rw [List.length_set, wipeE_length vs]
theorem wipeE_at {i : Nat} {s : Sl} : ∀ {vs : List Nat}, (wipeE ρ vs)[i]? = some s → s = .no ∨ (i ∉ vs ∧ ρ[i]? = some s)
  | [], h => .inr ⟨by simp, h⟩
  | v :: vs, h => by
    unfold wipeE at h
    by_cases hi : v = i
    · subst hi
      by_cases hv : v < (wipeE ρ vs).length
      · rw [List.getElem?_set_self hv] at h; cases h; exact .inl rfl
      · rw [List.getElem?_eq_none (by simpa using hv)] at h; cases h
    · rw [List.getElem?_set_ne hi] at h
      rcases wipeE_at h with q | ⟨q1, q2⟩
      · exact .inl q
      · exact .inr ⟨by simp only [List.mem_cons, not_or]; exact ⟨fun z => hi z.symm, q1⟩, q2⟩
theorem SlOk.st {i : Nat} (h : σ'[i]? = σ[i]?) : ∀ {s : Sl}, SlOk K c o σ H i s → SlOk K c o σ' H i s
  | .no, _ => trivial
  | .lo _, ⟨v, e, q⟩ => ⟨v, h.trans e, q⟩
  | .pa _, ⟨v, e, f, q⟩ => ⟨v, h.trans e, f, q⟩
  | .hd _ _ _, ⟨e, f, q⟩ => ⟨h.trans e, f, q⟩
theorem Rep.wipe (R0 : Rep K c o σ H ρ τ) (vs : List Nat) : Rep K c o (L2.wipe σ vs) H (wipeE ρ vs) τ :=
  ⟨fun i s e => by
    rcases wipeE_at e with rfl | ⟨hi, e⟩
    · exact trivial
    · exact (R0.sl i s e).st (wipe_out hi), R0.tm, R0.mu, R0.le, by rw [wipeE_length, wipe_length]; exact R0.ln⟩
theorem SlOk.unwipe {vs : List Nat} {i : Nat} : ∀ {s : Sl}, SlOk K c o (L2.wipe σ vs) H i s → SlOk K c o σ H i s
  | .no, _ => trivial
  | .lo _, ⟨v, e, q⟩ => ⟨v, (wipe_some e).1, q⟩
  | .pa _, ⟨v, e, f, q⟩ => ⟨v, (wipe_some e).1, f, q⟩
  | .hd _ _ _, ⟨e, f, q⟩ => ⟨(wipe_some e).1, f, q⟩
theorem Rep.setS (R0 : Rep K c o σ H ρ τ) {i : Nat} {s : Sl} (h : SlOk K c o σ H i s) : Rep K c o σ H (ρ.set i s) τ := by
  refine ⟨fun j s' z => ?_, R0.tm, R0.mu, R0.le, by rw [List.length_set]; exact R0.ln⟩
  by_cases hj : i = j
  · subst hj
    by_cases hl : i < ρ.length
    · rw [List.getElem?_set_self hl] at z; cases z; exact h
    · rw [List.getElem?_eq_none (by simpa using hl)] at z; cases z
  · rw [List.getElem?_set_ne hj] at z
    exact R0.sl j s' z
theorem keepS_ok {ρ0 : Env} {o0 : Own} {H0 : Hp} {τ2 : List (V × M)} (R0 : Rep K c o0 σ H0 ρ0 τ2) (L : Le o0 H0 o H) (v : Nat) : SlOk K c o σ H v (keepS ρ0[v]?) := by
  unfold keepS
  split
  · rename_i d e
    obtain ⟨w, e1, q⟩ := R0.sl v _ e
    exact ⟨w, e1, Dat.mono L q⟩
  · rename_i d e
    obtain ⟨w, e1, e2, q⟩ := R0.sl v _ e
    exact ⟨w, e1, e2, Dat.mono L q⟩
  · exact trivial
theorem Rep.rest {ρ0 : Env} {o0 : Own} {H0 : Hp} {τ2 : List (V × M)} (R0 : Rep K c o0 σ H0 ρ0 τ2) (L : Le o0 H0 o H) {vs : List Nat} (R : Rep K c o (L2.wipe σ vs) H ρ τ) : Rep K c o σ H (restE ρ0 ρ vs) τ := by
  have R1 : Rep K c o σ H ρ τ := ⟨fun i s e => (R.sl i s e).unwipe, R.tm, R.mu, R.le, by rw [R.ln, wipe_length]⟩
  clear R
  have all : ∀ ws : List Nat, Rep K c o σ H (restE ρ0 ρ ws) τ := by
    intro ws
    induction ws with
    | nil => exact R1
    | cons v ws ih => exact ih.setS (keepS_ok R0 L v)
  exact all vs
theorem rest_out {ρ0 : Env} {i : Nat} : ∀ {vs : List Nat}, i ∉ vs → (restE ρ0 ρ vs)[i]? = ρ[i]?
  | [], _ => rfl
  | v :: vs, h => by
    unfold restE
    rw [List.getElem?_set_ne (fun z => h (by rw [z]; exact List.mem_cons_self)), rest_out fun z => h (List.mem_cons_of_mem _ z)]
/-- the last temporary is changed -/
theorem Rep.setT {a : Addr} {m m' : M} {u : HO} (R0 : Rep K c o σ H ρ (τ ++ [(.ref a, m)])) (ho : o a = some (.t τ.length)) (hu : Mut (some u)) (hm : m'.own = true) (h : IsM K o (upd H a u) (.t τ.length) (.ref a) m') :
    Rep K c o σ (upd H a u) ρ (τ ++ [(.ref a, m')]) ∧ Le o H o (upd H a u) := by
  have ne : ∀ b l, o b = some l → l ≠ .t τ.length → b ≠ a := fun b l q z w => by subst w; rw [ho] at q; cases q; exact z rfl
  have L : Le o H o (upd H a u) := ⟨fun b w q f => ⟨q, by rw [upd_ne (fun z => by subst z; rw [ho] at q; cases q)]; exact f⟩, fun b q => ⟨q, upd_ne (ne b _ q (by intro z; cases z))⟩⟩
  have kp : ∀ l, l ≠ .t τ.length → ∀ b, o b = some l → o b = some l ∧ upd H a u b = H b := fun l z b q => ⟨q, upd_ne (ne b l q z)⟩
  refine ⟨⟨fun j s' q => (R0.sl j s' q).mono L (kp _ (by intro z; cases z)) (kp _ (by intro z; cases z)), fun j v m2 q => ?_, fun b l q => ?_, R0.le.trans L, R0.ln⟩, L⟩
  · by_cases hj : j < τ.length
    · rw [List.getElem?_append_left hj] at q
      have k := R0.tm j v m2 (by rw [List.getElem?_append_left hj]; exact q)
      exact ⟨k.1.mono L (kp _ (by intro z; injection z with z; omega)), k.2⟩
    · rw [List.getElem?_append_right (by omega)] at q
      have e0 : j - τ.length = 0 := by
        cases e : j - τ.length with
        | zero => rfl
        | succ n => rw [e] at q; simp at q
      rw [e0] at q
      have e2 : j = τ.length := by omega
      subst e2
      simp at q
      obtain ⟨rfl, rfl⟩ := q
      exact ⟨h, hm⟩
  · by_cases z : b = a
    · subst z; rw [upd_same]; exact hu
    · rw [upd_ne z]; exact R0.mu b l q
def compL (b : Bd) (tq : TQ) (te : TX) (vs : List Nat) (gd : Env → Prop) (k : List D → Env → Prop) : List D → List D → Env → Prop
  | [], acc, ρ => gd ρ ∧ k acc ρ
  | d :: ds, acc, ρ => gd ρ ∧ bnd b d ρ fun ρ1 => tq ρ1 fun ok ρ2 =>
    if ok = true then tFrz (lCons te lNil) (fun xs ρ3 => match xs with
      | [x] => acc.length < sizeLine ∧ compL b tq te vs gd k ds (acc ++ [x]) (wipeE ρ3 vs)
      | _ => False) ρ2
    else compL b tq te vs gd k ds acc (wipeE ρ2 vs)
theorem comp_ok {J : It} {ds : List D} {bd : Bd} {tq : TQ} {te : TX} {vs : List Nat} {gd : Env → Prop} {k : List D → Env → Prop} {C : Own → Hp → Prop} {o1 : Own} {H1 : Hp} {Qd : Hp → Prop} {L : Addr} {acc0 : List D} (hr : Runs K J ds C) (hvs : ∀ i ∈ bd.slots, i ∈ vs)
    (hc : ∀ o' H' ρ' τ', Le o1 H1 o' H' → Rep K c o' (L2.wipe σ vs) H' ρ' τ' → gd ρ' → C o' H') (R0 : Rep K c o1 (L2.wipe σ vs) H1 ρ (τ ++ [(.ref L, .ls acc0)]))
    (h : compL bd tq te vs gd k ds acc0 ρ)
    (q : ∀ o' H' ρ' acc, Le o1 H1 o' H' → Rep K c o' (L2.wipe σ vs) H' ρ' (τ ++ [(.ref L, .ls acc)]) → gd ρ' → k acc ρ' → Qd H') :
    ∃ W : Nat → Nat → Hp → Prop, (∃ m, W 0 m H1) ∧ ∀ i m H, W i m H →
      (J.stop i H ∧ Qd H) ∨ (J.go i H ∧ ∃ Nx : Hp → Prop, (∀ H', Nx H' → ∃ m', m' < m ∧ W (i + 1) m' H') ∧ ∀ x H', J.yld i H x H' → bd.tg K x (L2.wipe σ vs) H' fun σ2 H2 => L2.wipe σ2 vs = L2.wipe σ vs ∧
        TTo K c tq σ2 H2 fun b H3 => if b = true then TEo K c te σ2 H3 fun y H4 => ∃ acc, H4 L = some (.lst acc) ∧ acc.length < sizeLine ∧ Nx (upd H4 L (.lst (acc ++ [y]))) else Nx H3) := by
  refine ⟨fun i m H => m = ds.length - i ∧ i ≤ ds.length ∧ ∃ o ρ acc, Le o1 H1 o H ∧ Rep K c o (L2.wipe σ vs) H ρ (τ ++ [(.ref L, .ls acc)]) ∧ compL bd tq te vs gd k (ds.drop i) acc ρ,
    ⟨ds.length, by simp, Nat.zero_le _, o1, ρ, acc0, .refl, R0, by simpa using h⟩, ?_⟩
  rintro i m H ⟨rfl, hi, o, ρ, acc, Lo, R, h⟩
  by_cases hlt : i < ds.length
  · have e : ds.drop i = ds[i] :: ds.drop (i + 1) := List.drop_eq_getElem_cons hlt
    rw [e] at h
    obtain ⟨hg, h⟩ := h
    obtain ⟨go, yl⟩ := (hr o H (hc o H ρ _ Lo R hg) R.mu).1 i ds[i] (by simp [hlt])
    refine .inr ⟨go, fun H' => ∃ o' ρ' acc', Le o1 H1 o' H' ∧ Rep K c o' (L2.wipe σ vs) H' ρ' (τ ++ [(.ref L, .ls acc')]) ∧ compL bd tq te vs gd k (ds.drop (i + 1)) acc' ρ',
      fun H' ⟨o', ρ', acc', L', R', h'⟩ => ⟨ds.length - (i + 1), by omega, rfl, hlt, o', ρ', acc', L', R', h'⟩, fun x H' y => ?_⟩
    obtain ⟨g, dx⟩ := yl x H' y
    refine bnd_ok (R.grow g) dx h fun σ' ρ' R' hw hf => ?_
    have hw' : L2.wipe σ' vs = L2.wipe σ vs := by rw [hw vs hvs, wipe_idem]
    have L2' : Le o1 H1 o H' := Lo.trans (g.le R.mu)
    refine ⟨hw', o, ρ', _, _, R', hf, fun b H3 o3 ρ3 L3 R3 h3 => ?_⟩
    cases b with
    | false =>
      have R4 := R3.wipe vs
      rw [hw'] at R4
      exact ⟨o3, _, acc, L2'.trans L3, R4, h3⟩
    | true =>
      rw [if_pos rfl]
      refine frz1 R3 h3 fun y H4 o4 d ρ4 L4 R4 dy h4 => ?_
      obtain ⟨h5, h4⟩ := (show acc.length < sizeLine ∧ compL bd tq te vs gd k (ds.drop (i + 1)) (acc ++ [d]) (wipeE ρ4 vs) from h4)
      obtain ⟨⟨ad, xs, e1, e2, e3, e4⟩, _⟩ := R4.tm τ.length (.ref L) (.ls acc) (by simp)
      cases e1
      have Lm : Le o4 H4 o4 (upd H4 L (.lst (xs ++ [y]))) :=
        ⟨fun b w qq f => ⟨qq, by rw [upd_ne (fun z => by subst z; rw [e2] at qq; cases qq)]; exact f⟩, fun b qq => ⟨qq, upd_ne (fun z => by subst z; rw [e2] at qq; cases qq)⟩⟩
      obtain ⟨R5, L5⟩ := R4.setT (m' := .ls (acc ++ [d])) (u := .lst (xs ++ [y])) e2 trivial rfl ⟨L, _, rfl, e2, upd_same, (e4.append (.cons dy .nil)).mono Lm⟩
      have R6 := R5.wipe vs
      rw [hw'] at R6
      exact ⟨xs, e3, by rw [e4.length]; exact h5, o4, _, _, L2'.trans (L3.trans (L4.trans L5)), R6, h4⟩
  · have e : i = ds.length := by omega
    subst e
    rw [List.drop_length] at h
    exact .inl ⟨(hr o H (hc o H ρ _ Lo R h.1) R.mu).2, q o H ρ acc Lo R h.1 h.2⟩
def tLcX (ti : TSrc) (b : Bd) (tq : TQ) (te : TX) (vs : List Nat) : TX := fun ρ Q => ti ρ fun src ρ1 => match src with
  | .fx ds => compL b tq te vs (fun _ => True) (fun acc ρ' => Q (.tm (.ls acc)) (restE ρ1 ρ' vs)) ds [] (wipeE ρ1 vs)
  | .sl i es ds => match ρ1[i]? with
    | some s => match s.m! with
      | some m => m = .ls es ∧ ∀ v, compL b tq te vs (fun ρ => ρ[i]? = some (.hd s.isP v m)) (fun acc ρ' => Q (.tm (.ls acc)) ((restE ρ1 ρ' vs).set i s)) ds [] (wipeE (ρ1.set i (.hd s.isP v m)) vs)
      | none => False
    | none => False
  | .hs i p v es ds => compL b tq te vs (fun ρ => ρ[i]? = some (.hd p v (.ls es))) (fun acc ρ' => Q (.tm (.ls acc)) (restE ρ1 ρ' vs)) ds [] (wipeE ρ1 vs)
theorem up_back {s : Sl} {m : M} (h : s.m! = some m) : (if s.isP then Sl.pa m else .lo m) = s := by
  cases s with
  | no => cases h
  | lo z => cases h; rfl
  | pa z => cases h; rfl
  | hd p v z => cases h
theorem lc_of {ti : TSrc} {bd : Bd} {tq : TQ} {te : TX} {vs : List Nat} {k : VK} (hvs : ∀ i ∈ bd.slots, i ∈ vs) (h : TEo K c (tLcX ti bd tq te vs) σ H k) : tLc (TIo K c ti) (bd.tg K) (TTo K c tq) (TEo K c te) vs σ H k := by
  obtain ⟨o, ρ, τ, Q, R0, h, q⟩ := h
  refine ⟨o, ρ, τ, _, R0, h, fun J H1 o1 ρ1 src L1 R1 ok h1 => ?_⟩
  intro L hL
  have push : ∀ {o2 : Own} {ρ2 : Env}, Rep K c o2 σ H1 ρ2 τ → Rep K c (fun b => if b = L then some (.t τ.length) else o2 b) σ (upd H1 L (.lst [])) ρ2 (τ ++ [(.ref L, .ls [])]) ∧ Le o2 H1 (fun b => if b = L then some (.t τ.length) else o2 b) (upd H1 L (.lst [])) := fun {o2 ρ2} R2 =>
    R2.push (m := .ls []) (u := .lst []) hL trivial rfl ⟨L, [], rfl, by simp, upd_same, .nil⟩
  cases src with
  | fx ds =>
    obtain ⟨R2, L2'⟩ := push R1
    refine comp_ok (C := fun o' H' => Le o1 H1 o' H') ok hvs (fun o' H' ρ' τ' L' R' _ => L2'.trans L') (R2.wipe vs) h1 fun o' H' ρ' acc L' R' _ hk => ?_
    exact q _ H' o' (.tm (.ls acc)) _ _ (L1.trans (L2'.trans L')) (Rep.rest R1 (L2'.trans L') R') rfl hk
  | sl i es ds =>
    obtain ⟨v0, hv0, ok⟩ := ok
    have h1 : (match ρ1[i]? with
      | some s => match s.m! with
        | some m => m = .ls es ∧ ∀ v, compL bd tq te vs (fun ρ => ρ[i]? = some (.hd s.isP v m)) (fun acc ρ' => Q (.tm (.ls acc)) ((restE ρ1 ρ' vs).set i s)) ds [] (wipeE (ρ1.set i (.hd s.isP v m)) vs)
        | none => False
      | none => False) := h1
    split at h1
    · rename_i s e
      split at h1
      · rename_i m em
        obtain ⟨rfl, h1⟩ := h1
        obtain ⟨v, hv, R2⟩ := R1.hide e em
        rw [hv0] at hv; cases hv
        have L2' : Le o1 H1 (relL (.s i) (.h i) o1) H1 := relL_le (by intro z; cases z)
        obtain ⟨R3, L3⟩ := push R2
        refine comp_ok (C := fun o' H' => ∃ l, IsM K o' H' l v0 (.ls es)) ok hvs (fun o' H' ρ' τ' L' R' g => ?_) (R3.wipe vs) (h1 v0) fun o' H' ρ' acc L' R' g hk => ?_
        · obtain ⟨_, _, q⟩ := R'.sl i _ g
          exact ⟨_, q⟩
        · obtain ⟨hw, _, _⟩ := R'.sl i _ g
          have hi := (wipe_some hw).2
          have R4 := Rep.rest R1 (L2'.trans (L3.trans L')) R'
          obtain ⟨R5, L5⟩ := R4.unhide (i := i) (p := s.isP) (v := v0) (m := .ls es) (by rw [rest_out hi]; exact g)
          rw [up_back em] at R5
          exact q _ H' _ (.tm (.ls acc)) _ _ (L1.trans (L2'.trans (L3.trans (L'.trans L5)))) R5 rfl hk
      · exact h1.elim
    · exact h1.elim
  | hs i p v es ds =>
    obtain ⟨R2, L2'⟩ := push R1
    refine comp_ok (C := fun o' H' => ∃ l, IsM K o' H' l v (.ls es)) ok hvs (fun o' H' ρ' τ' L' R' g => ?_) (R2.wipe vs) h1 fun o' H' ρ' acc L' R' _ hk => ?_
    · obtain ⟨_, _, q⟩ := R'.sl i _ g
      exact ⟨_, q⟩
    · exact q _ H' o' (.tm (.ls acc)) _ _ (L1.trans (L2'.trans L')) (Rep.rest R1 (L2'.trans L') R') rfl hk
def DQs (X : Cx) (c : Cc) (ifs : List Expr) (t : TQ) : Prop := PTs X ifs (TTo X.K c t)
def qYes : TQ := fun ρ Q => Q true ρ
theorem ptsImp {ifs : List Expr} {t t' : TT} (h : PTs X ifs t) (f : ∀ σ H k, t' σ H k → t σ H k) : PTs X ifs t' := ⟨fun pins s σ H Q I q => h.run pins s σ H Q I (f _ _ _ q)⟩
theorem dq_nil : DQs X c [] qYes := ptsImp pts_nil fun σ H k ⟨o, ρ, τ, Q, R0, h, q⟩ => q true H o ρ .refl R0 h
theorem dq_one {cond : Expr} {tq : TQ} (h : DT X c cond tq) : DQs X c [cond] tq := pts_one h
section
variable {elt tg iter : Expr} {ifs : List Expr} {scope : Scope} {own : List (Str × Nat)} {ti : TSrc} {bd : Bd} {tq : TQ} {te : TX}
theorem de_lc (hc : X.calm = true) (hN : X.N.Nodup) (hi : DI X c tg iter ti) (ok : blkC X.N X.env.scope scope own = true)
    (hg : ∀ (s : Shared) (H : Hp) (C : Addr) (cl : List (Str × Addr)) (fp : List Addr), PG (X.blk s H scope (compEnvC scope cl C X.env) fp) tg (bd.tg X.K))
    (ht : ∀ (s : Shared) (H : Hp) (C : Addr) (cl : List (Str × Addr)) (fp : List Addr), DQs (X.blk s H scope (compEnvC scope cl C X.env) fp) c ifs tq)
    (he : ∀ (s : Shared) (H : Hp) (C : Addr) (cl : List (Str × Addr)) (fp : List Addr), DE (X.blk s H scope (compEnvC scope cl C X.env) fp) c elt te)
    (hvs : ∀ i ∈ bd.slots, i ∈ own.map (·.2) := by decide) (hs : ∀ x, foldedSetIterable iter X.env x = pure x := by intro _; rfl) : DE X c (.ListComp elt [⟨tg, iter, ifs, 0⟩] scope pos) (tLcX ti bd tq te (own.map (·.2))) :=
  peImp (pe_lc (tt := TTo X.K c tq) (te := TEo X.K c te) hc hN hi (blkOk_by ok) hg ht he hs) fun σ H k h => lc_of hvs h
theorem ds_setLc {i : Nat} {y : Str} {py spos : Pos} (hc : X.calm = true) (hN : X.N.Nodup) (hsw : swapsWith (.ListComp elt [⟨tg, iter, ifs, 0⟩] scope pos) (some (.Name y py)) spos.line X.env = pure true) (hi : DI X c tg iter ti) (ok : blkC X.N X.env.scope scope own = true)
    (hg : ∀ (s : Shared) (H : Hp) (C : Addr) (cl : List (Str × Addr)) (fp : List Addr), PG (X.blk s H scope (compEnvC scope cl C X.env) fp) tg (bd.tg X.K))
    (ht : ∀ (s : Shared) (H : Hp) (C : Addr) (cl : List (Str × Addr)) (fp : List Addr), DQs (X.blk s H scope (compEnvC scope cl C X.env) fp) c ifs tq)
    (he : ∀ (s : Shared) (H : Hp) (C : Addr) (cl : List (Str × Addr)) (fp : List Addr), DE (X.blk s H scope (compEnvC scope cl C X.env) fp) c elt te)
    (hy : X.N[i]? = some y := by rfl) (hyl : X.env.scope.names.lookup y = some .local := by rfl) (hvs : ∀ i ∈ bd.slots, i ∈ own.map (·.2) := by decide) (hs : ∀ x, foldedSetIterable iter X.env x = pure x := by intro _; rfl) :
    DS X c (.Assign [.Name y py] (.ListComp elt [⟨tg, iter, ifs, 0⟩] scope pos) spos) (sAsg i (tLcX ti bd tq te (own.map (·.2)))) :=
  psImp (ps_setLc (tt := TTo X.K c tq) (te := TEo X.K c te) hc hN hy hyl hsw hi (blkOk_by ok) hg ht he hs) fun D σ H h => lc_of hvs (sAsg_of h)
end
end
end Y
namespace Y
open PySem PySem.Spec L2

/-! ### calls of the text's own defs -/
def Keep (o : Own) (H : Hp) (o' : Own) (H' : Hp) : Prop := ∀ b u, o b = none → H b = some u → o' b = none ∧ H' b = some u
section
variable {K : PySem.W.Frag} {o o' : Own} {H H' : Hp} {l l' : Lb} {v : V}
mutual
theorem Dat.monoK (L : Keep o H o' H') : ∀ {v : V} {d : D}, Dat K o H v d → Dat K o' H' v d
  | _, _, .non => .non
  | _, _, .bl b => .bl b
  | _, _, .int b => .int b
  | _, _, .str b => .str b
  | _, _, .raw b => .raw b
  | _, _, .tup h r => .tup (L _ _ h.1 h.2) (Dats.monoK L r)
  | _, _, .lst e h r => .lst (L _ _ e h).1 (L _ _ e h).2 (Dats.monoK L r)
theorem Dats.monoK (L : Keep o H o' H') : ∀ {v : List V} {d : List D}, Dats K o H v d → Dats K o' H' v d
  | _, _, .nil => .nil
  | _, _, .cons a r => .cons (Dat.monoK L a) (Dats.monoK L r)
end
theorem Kvs.monoK {κ : Type} (L : Keep o H o' H') {ks : List (κ × V)} {kvs : List (κ × D)} (h : Kvs K o H ks kvs) : Kvs K o' H' ks kvs :=
  Paired.mapP h fun _ _ z => ⟨z.1, z.2.monoK L⟩
/-- data, or an object that is owned -/
def M.fit : M → Bool
  | .im _ => true
  | m => m.own
theorem IsM.monoK (L : Keep o H o' H') (h : ∀ a, o a = some l → o' a = some l' ∧ H' a = H a) : ∀ {m : M}, m.fit = true → IsM K o H l v m → IsM K o' H' l' v m
  | .im _, _, q => Dat.monoK L q
  | .ls _, _, ⟨a, xs, e, f, g, q⟩ => ⟨a, xs, e, (h a f).1, (h a f).2.trans g, q.monoK L⟩
  | .rd _, _, ⟨a, xs, e, f, g, q⟩ => ⟨a, xs, e, (h a f).1, (h a f).2.trans g, q.monoK L⟩
  | .dk _, _, ⟨a, xs, e, f, g, q⟩ => ⟨a, xs, e, (h a f).1, (h a f).2.trans g, Kvs.monoK L q⟩
  | .dt _, _, ⟨a, xs, e, f, g, q⟩ => ⟨a, xs, e, (h a f).1, (h a f).2.trans g, Kvs.monoK L q⟩
end

/-- what a def promises: its parameters' data and objects; what it hands back, and what its parameters' objects are then -/
abbrev TF := List M → (M → List (Option M) → Prop) → Prop
structure ArgsOk (K : PySem.W.Frag) (o : Own) (H : Hp) (vs : List V) (ms : List M) : Prop where
  len : vs.length = ms.length
  at_ : ∀ (i : Nat) v m, vs[i]? = some v → ms[i]? = some m → IsM K o H (.s i) v m
  mu : ∀ a l, o a = some l → Mut (H a)
def FinOk (K : PySem.W.Frag) (o : Own) (H : Hp) (vs : List V) (fin : List (Option M)) : Prop := ∀ (i : Nat) v m, vs[i]? = some v → fin[i]? = some (some m) → IsM K o H (.s i) v m
def spD (K : PySem.W.Frag) (F : TF) (n : Nat) : Sp := fun vs H Q _ => ∃ o ms G, vs.length = n ∧ ArgsOk K o H vs ms ∧ F ms G ∧
  ∀ v H' o' m fin, Le o H o' H' → (∀ a l, o' a = some l → Mut (H' a)) → IsM K o' H' (.t 0) v m → FinOk K o' H' vs fin → G m fin → Q v H'

/-! ### at a call -/
def argS : Option Sl → Option M
  | some (.lo m) => some m
  | some (.pa m) => some m
  | some (.hd _ _ (.ls ds)) => some (.sq ds)
  | _ => none
def argM (ρ : Env) : R → Option M
  | .im d => some (.im d)
  | .tm m => some m
  | .sl i => argS ρ[i]?
def argMs (ρ : Env) : List R → Option (List M)
  | [] => some []
  | r :: rs => match argM ρ r, argMs ρ rs with
    | some m, some ms => some (m :: ms)
    | _, _ => none
def slots : List R → List Nat
  | [] => []
  | .sl i :: rs => i :: slots rs
  | _ :: rs => slots rs
def putS (f : Option M) : Option Sl → Option Sl
  | some (.lo m) => if m.own = true then some (match f with
      | some m' => if m'.fit = true then .lo m' else .no
      | none => .no) else none
  | some (.pa m) => if m.own = true then some (match f with
      | some m' => if m'.fit = true then .pa m' else .no
      | none => .no) else none
  | _ => none
def stepB (i : Nat) (f : Option M) (ρ : Env) : Env := match putS f ρ[i]? with
  | some s => ρ.set i s
  | none => ρ
def putB : List R → List (Option M) → Env → Env
  | .sl i :: rs, fs, ρ => putB rs fs.tail (stepB i fs.head?.join ρ)
  | _ :: rs, fs, ρ => putB rs fs.tail ρ
  | [], _, ρ => ρ
def tCall (F : TF) (n : Nat) (ta : TL) : TX := fun ρ Q => ta ρ fun rs ρ1 => match argMs ρ1 rs with
  | some ms => rs.length = n ∧ (slots rs).Nodup ∧ F ms fun m fin => m.fit = true ∧ Q m.res (putB rs fin ρ1)
  | none => False
/-- which argument an object is: its label tells -/
def labIx : List R → Nat → Nat → Lb → Option Nat
  | [], _, _, _ => none
  | .sl i :: rs, n, k, l => if l = .s i then some k else labIx rs n (k + 1) l
  | .tm _ :: rs, n, k, l => if l = .t n then some k else labIx rs (n + 1) (k + 1) l
  | .im _ :: rs, n, k, l => labIx rs n (k + 1) l
def ownC (rs : List R) (n : Nat) (o : Own) : Own := fun a => match o a with
  | none => none
  | some l => match labIx rs n 0 l with
    | some k => some (.s k)
    | none => some .x
def ownB (rs : List R) (n : Nat) (o o' : Own) : Own := fun a => match o' a with
  | none => none
  | some .x => o a
  | some (.s k) => match rs[k]? with
    | some (.sl i) => some (.s i)
    | _ => none
  | some (.t 0) => some (.t n)
  | _ => none
theorem labIx_ge : ∀ {rs : List R} {n k : Nat} {l : Lb} {j : Nat}, labIx rs n k l = some j → k ≤ j
  | .sl i :: rs, n, k, l, j, h => by
    unfold labIx at h
    split at h
    · cases h; exact Nat.le_refl _
    · exact Nat.le_of_succ_le (labIx_ge h)
  | .tm _ :: rs, n, k, l, j, h => by
    unfold labIx at h
    split at h
    · cases h; exact Nat.le_refl _
    · exact Nat.le_of_succ_le (labIx_ge h)
  | .im _ :: rs, n, k, l, j, h => by
    unfold labIx at h
    exact Nat.le_of_succ_le (labIx_ge h)
theorem labIx_s {i : Nat} : ∀ {rs : List R} {n k : Nat}, i ∉ slots rs → labIx rs n k (.s i) = none
  | [], _, _, _ => rfl
  | .sl j :: rs, n, k, h => by
    have h1 : i ≠ j := fun e => h (by rw [e]; exact List.mem_cons_self)
    have h2 : i ∉ slots rs := fun m => h (List.mem_cons_of_mem _ m)
    unfold labIx
    rw [if_neg (by intro z; injection z with z; exact h1 z), labIx_s h2]
  | .tm _ :: rs, n, k, h => by unfold labIx; rw [if_neg (by intro z; cases z)]; exact labIx_s h
  | .im _ :: rs, n, k, h => by unfold labIx; exact labIx_s h
theorem labIx_lt {j : Nat} : ∀ {rs : List R} {n k : Nat}, j < n → labIx rs n k (.t j) = none
  | [], _, _, _ => rfl
  | .sl _ :: rs, n, k, h => by unfold labIx; rw [if_neg (by intro z; cases z)]; exact labIx_lt h
  | .tm _ :: rs, n, k, h => by unfold labIx; rw [if_neg (by intro z; injection z with z; omega)]; exact labIx_lt (by omega)
  | .im _ :: rs, n, k, h => by unfold labIx; exact labIx_lt h
theorem labIx_h {i : Nat} : ∀ {rs : List R} {n k : Nat}, labIx rs n k (.h i) = none
  | [], _, _ => rfl
  | .sl _ :: rs, n, k => by unfold labIx; rw [if_neg (by intro z; cases z)]; exact labIx_h
  | .tm _ :: rs, n, k => by unfold labIx; rw [if_neg (by intro z; cases z)]; exact labIx_h
  | .im _ :: rs, n, k => by unfold labIx; exact labIx_h
theorem labIx_x : ∀ {rs : List R} {n k : Nat}, labIx rs n k .x = none
  | [], _, _ => rfl
  | .sl _ :: rs, n, k => by unfold labIx; rw [if_neg (by intro z; cases z)]; exact labIx_x
  | .tm _ :: rs, n, k => by unfold labIx; rw [if_neg (by intro z; cases z)]; exact labIx_x
  | .im _ :: rs, n, k => by unfold labIx; exact labIx_x
theorem mem_slots {i : Nat} : ∀ {rs : List R}, R.sl i ∈ rs → i ∈ slots rs
  | [], h => by cases h
  | .sl j :: rs, h => by
    rcases List.mem_cons.mp h with e | h
    · cases e; exact List.mem_cons_self
    · exact List.mem_cons_of_mem _ (mem_slots h)
  | .tm m :: rs, h => by
    rcases List.mem_cons.mp h with e | h
    · cases e
    · exact mem_slots (rs := rs) h
  | .im d :: rs, h => by
    rcases List.mem_cons.mp h with e | h
    · cases e
    · exact mem_slots (rs := rs) h
section
variable {K : PySem.W.Frag} {c : Cc} {o o' : Own} {σ σ' : St} {H H' : Hp} {ρ ρ' : Env} {τ τ' τ0 τ1 : List (V × M)} {X : Cx} {e a b : Expr} {es : List Expr} {pos : Pos} {t u : TX} {P : EndP} {D' : Ends}
theorem ownC_le {rs : List R} {n : Nat} : Le o H (ownC rs n o) H :=
  ⟨fun b u e f => ⟨by unfold ownC; rw [e], f⟩, fun b e => ⟨by unfold ownC; rw [e]; simp only [labIx_x], rfl⟩⟩
/-- the arguments, as the callee sees them -/
theorem args_ok {rsA : List R} {n : Nat} (R0 : Rep K c o σ H ρ τ) : ∀ {vs : List V} {rs : List R} {ms : List M} {τ0 τ1 : List (V × M)} {k : Nat}, RelRs K o H σ vs rs τ0 τ1 → τ1 <+: τ → argMs ρ rs = some ms → (slots rs).Nodup →
    (∀ l, labIx rs τ0.length k l ≠ none → labIx rsA n 0 l = labIx rs τ0.length k l) → ∀ (j : Nat) v m, vs[j]? = some v → ms[j]? = some m → IsM K (ownC rsA n o) H (.s (k + j)) v m
  | _, _, ms, _, _, k, .nil, _, e, _, _ => fun j v m e1 e2 => by simp at e1
  | _, _, ms, τ0, τ1, k, .cons (v := v0) (vs := vs) (r := r) (rs := rs) (τ1 := τ2) z zs, p, e, nd, A => fun j v m e1 e2 => by
    unfold argMs at e
    split at e
    · rename_i m0 ms0 em ems
      cases e
      have L : Le o H (ownC rsA n o) H := ownC_le
      cases j with
      | zero =>
        simp at e1 e2
        subst e1 e2
        rw [Nat.add_zero]
        cases r with
        | im d => cases em; exact Dat.mono L z.2
        | tm m1 =>
          cases em
          have e3 : τ2 = τ0 ++ [(v0, m0)] := z
          obtain ⟨w, hw⟩ := zs.pre.trans p
          have q : IsM K o H (.t τ0.length) v0 m0 := (R0.tm τ0.length v0 m0 (by rw [← hw, e3]; simp)).1
          refine q.mono L fun a ho => ⟨?_, rfl⟩
          have f : labIx (.tm m0 :: rs) τ0.length k (.t τ0.length) = some k := by unfold labIx; rw [if_pos rfl]
          have g := A (.t τ0.length) (by rw [f]; intro z; cases z)
          unfold ownC; rw [ho]; simp only [g, f]
        | sl i =>
          obtain ⟨_, hs⟩ := z
          have f : labIx (.sl i :: rs) τ0.length k (.s i) = some k := by unfold labIx; rw [if_pos rfl]
          have g := A (.s i) (by rw [f]; intro z; cases z)
          have em : argS ρ[i]? = some m0 := em
          unfold argS at em
          split at em
          · rename_i m1 es
            cases em
            obtain ⟨w, e3, q⟩ := R0.sl i _ es
            rw [hs] at e3; cases e3
            exact q.mono L fun a ho => ⟨by unfold ownC; rw [ho]; simp only [g, f], rfl⟩
          · rename_i m1 es
            cases em
            obtain ⟨w, e3, _, q⟩ := R0.sl i _ es
            rw [hs] at e3; cases e3
            exact q.mono L fun a ho => ⟨by unfold ownC; rw [ho]; simp only [g, f], rfl⟩
          · rename_i p1 w1 ds es
            cases em
            obtain ⟨e3, _, ad, xs, rfl, q1, q2, q3⟩ := R0.sl i _ es
            rw [hs] at e3; cases e3
            refine ⟨ad, xs, rfl, .inl ⟨.inr ?_, .inl q2⟩, q3.mono L⟩
            unfold ownC; rw [q1]; simp only [labIx_h]
          · cases em
      | succ j =>
        have e1' : vs[j]? = some v := by simpa using e1
        have e2' : ms0[j]? = some m := by simpa using e2
        have nd' : (slots rs).Nodup := by
          cases r with
          | im d => exact nd
          | tm m1 => exact nd
          | sl i => exact (List.nodup_cons.mp nd).2
        have A' : ∀ l, labIx rs τ2.length (k + 1) l ≠ none → labIx rsA n 0 l = labIx rs τ2.length (k + 1) l := fun l hl => by
          cases r with
          | im d =>
            have e3 : τ2 = τ0 := z.1
            subst e3
            have f : labIx (.im d :: rs) τ2.length k l = labIx rs τ2.length (k + 1) l := rfl
            rw [← f] at hl ⊢
            exact A l hl
          | tm m1 =>
            have e3 : τ2 = τ0 ++ [(v0, m1)] := z
            have e4 : τ2.length = τ0.length + 1 := by rw [e3]; simp
            rw [e4] at hl ⊢
            have ne : l ≠ .t τ0.length := fun z => by subst z; exact hl (labIx_lt (Nat.lt_succ_self _))
            have f : labIx (.tm m1 :: rs) τ0.length k l = labIx rs (τ0.length + 1) (k + 1) l := by
              conv => lhs; unfold labIx
              rw [if_neg ne]
            rw [← f] at hl ⊢
            exact A l hl
          | sl i =>
            have e3 : τ2 = τ0 := z.1
            subst e3
            have ne : l ≠ .s i := fun z => by subst z; exact hl (labIx_s (List.nodup_cons.mp nd).1)
            have f : labIx (.sl i :: rs) τ2.length k l = labIx rs τ2.length (k + 1) l := by
              conv => lhs; unfold labIx
              rw [if_neg ne]
            rw [← f] at hl ⊢
            exact A l hl
        have q := args_ok R0 (k := k + 1) zs p ems nd' A' j v m e1' e2'
        have e5 : k + 1 + j = k + (j + 1) := by omega
        rw [e5] at q
        exact q
    · cases e
theorem argMs_length : ∀ {rs : List R} {ms : List M}, argMs ρ rs = some ms → ms.length = rs.length
  | [], _, e => by simp [argMs] at e; subst e; rfl
  | r :: rs, _, e => by
    unfold argMs at e
    split at e
    · rename_i m ms _ e2
      cases e
      rw [List.length_cons, List.length_cons, argMs_length e2]
    · cases e
theorem ownC_mu {rs : List R} {n : Nat} (mu : ∀ a l, o a = some l → Mut (H a)) : ∀ a l, ownC rs n o a = some l → Mut (H a) := fun a l e => by
  unfold ownC at e
  split at e
  · cases e
  · rename_i l' h; exact mu a _ h
/-- behind the call -/
theorem ownB_mu {rs : List R} {n : Nat} (mu : ∀ a l, o' a = some l → Mut (H' a)) : ∀ a l, ownB rs n o o' a = some l → Mut (H' a) := fun a l e => by
  unfold ownB at e
  split at e
  · cases e
  · rename_i h; exact mu a _ h
  · rename_i k h; exact mu a _ h
  · rename_i h; exact mu a _ h
  · cases e
theorem ownB_le {rs : List R} {n : Nat} (L : Le (ownC rs n o) H o' H') : Le o H (ownB rs n o o') H' :=
  ⟨fun b u e f => by
    obtain ⟨e1, f1⟩ := L.keep b u (by unfold ownC; rw [e]) f
    exact ⟨by unfold ownB; rw [e1], f1⟩,
   fun b e => by
    obtain ⟨e1, f1⟩ := L.ext b (by unfold ownC; rw [e]; simp only [labIx_x])
    exact ⟨by unfold ownB; rw [e1]; exact e, f1⟩⟩
theorem ownB_keep {rs : List R} {n : Nat} : Keep o' H' (ownB rs n o o') H' := fun b u e f => ⟨by unfold ownB; rw [e], f⟩
theorem ownB_other {rs : List R} {n : Nat} (L : Le (ownC rs n o) H o' H') {l : Lb} (h : labIx rs n 0 l = none) {a : Addr} (e : o a = some l) : ownB rs n o o' a = some l ∧ H' a = H a := by
  obtain ⟨e1, f1⟩ := L.ext a (by unfold ownC; rw [e]; simp only [h])
  exact ⟨by unfold ownB; rw [e1]; exact e, f1⟩
theorem back_ok {rsA : List R} {n : Nat} {oc : Own} (R0 : Rep K c o σ H ρ τ) (L : Le (ownC rsA n o) H oc H') : ∀ {vs : List V} {rs : List R} {fs : List (Option M)} {τ0 τ1 : List (V × M)} {k : Nat} {ρc : Env}, RelRs K o H σ vs rs τ0 τ1 → (slots rs).Nodup →
    (∀ j r, rs[j]? = some r → rsA[k + j]? = some r) → (∀ (j : Nat) v m, vs[j]? = some v → fs[j]? = some (some m) → IsM K oc H' (.s (k + j)) v m) → ρc.length = ρ.length →
    (∀ j, (j ∈ slots rs → ρc[j]? = ρ[j]?) ∧ (j ∉ slots rs → ∀ s, ρc[j]? = some s → SlOk K c (ownB rsA n o oc) σ H' j s)) →
    (putB rs fs ρc).length = ρ.length ∧ ∀ j s, (putB rs fs ρc)[j]? = some s → SlOk K c (ownB rsA n o oc) σ H' j s
  | _, _, fs, _, _, k, ρc, .nil, nd, hr, hf, hl, hP => ⟨hl, fun j s q => (hP j).2 (by simp [slots]) s q⟩
  | _, _, fs, τ0, τ1, k, ρc, .cons (v := v0) (vs := vs) (r := r) (rs := rs) (τ1 := τ2) z zs, nd, hr, hf, hl, hP => by
    have hf' : ∀ (j : Nat) v m, vs[j]? = some v → fs.tail[j]? = some (some m) → IsM K oc H' (.s (k + 1 + j)) v m := fun j v m e1 e2 => by
      cases fs with
      | nil => simp at e2
      | cons f fs' =>
        have := hf (j + 1) v m (by simpa using e1) (by simpa using e2)
        rw [show k + 1 + j = k + (j + 1) by omega]; exact this
    have tl : ∀ {ρ2 : Env}, (slots rs).Nodup → ρ2.length = ρ.length →
        (∀ j, (j ∈ slots rs → ρ2[j]? = ρ[j]?) ∧ (j ∉ slots rs → ∀ s, ρ2[j]? = some s → SlOk K c (ownB rsA n o oc) σ H' j s)) → (putB rs fs.tail ρ2).length = ρ.length ∧ ∀ j s, (putB rs fs.tail ρ2)[j]? = some s → SlOk K c (ownB rsA n o oc) σ H' j s :=
      fun {ρ2} nd2 h2 h3 => back_ok R0 L (k := k + 1) zs nd2 (fun j r' e => by have := hr (j + 1) r' (by simpa using e); rw [show k + 1 + j = k + (j + 1) by omega]; exact this) hf' h2 h3
    cases r with
    | im d => exact tl nd hl hP
    | tm m1 => exact tl nd hl hP
    | sl i =>
      obtain ⟨_, hs⟩ := z
      have ndi := List.nodup_cons.mp nd
      have hi : ρc[i]? = ρ[i]? := (hP i).1 List.mem_cons_self
      have hrk : rsA[k]? = some (.sl i) := hr 0 _ rfl
      have LB : Le o H (ownB rsA n o oc) H' := ownB_le L
      have hq : ∀ m, fs.head?.join = some m → IsM K oc H' (.s k) v0 m := fun m e => by
        cases fs with
        | nil => cases e
        | cons f fs' => exact hf 0 v0 m rfl (by simpa using e)
      have fin1 : ∀ m', fs.head?.join = some m' → m'.fit = true → IsM K (ownB rsA n o oc) H' (.s i) v0 m' := fun m' ef hfit =>
        (hq m' ef).monoK ownB_keep (fun a q => ⟨by unfold ownB; rw [q]; simp only [hrk], rfl⟩) hfit
      have nown : ∀ m, ¬ m.own = true → IsM K o H (.s i) v0 m → IsM K (ownB rsA n o oc) H' (.s i) v0 m := fun m hm q => by
        cases m with
        | im d => exact Dat.mono LB q
        | sq ds => obtain ⟨ad, xs, e1, e2, e3⟩ := q; exact ⟨ad, xs, e1, e2.mono LB, e3.mono LB⟩
        | ls ds => exact absurd rfl hm
        | rd ds => exact absurd rfl hm
        | dk ds => exact absurd rfl hm
        | dt ds => exact absurd rfl hm
      refine tl ndi.2 ?_ fun j => ⟨fun hj => ?_, fun hj s e => ?_⟩
      · unfold stepB
        split
        · rw [List.length_set]; exact hl
        · exact hl
      · have ne : i ≠ j := fun z => by subst z; exact ndi.1 hj
        have q := (hP j).1 (List.mem_cons_of_mem _ hj)
        unfold stepB
        split
        · rw [List.getElem?_set_ne ne]; exact q
        · exact q
      · by_cases ne : i = j
        · subst ne
          unfold stepB at e
          rw [hi] at e
          cases es : ρ[i]? with
          | none =>
            rw [es] at e
            simp only [putS] at e
            rw [hi, es] at e; cases e
          | some s0 =>
            have k0 := R0.sl i s0 es
            have hlt : i < ρc.length := by rw [hl]; exact (List.getElem?_eq_some_iff.mp es).1
            rw [es] at e
            cases s0 with
            | no => simp only [putS] at e; rw [hi, es] at e; cases e; exact trivial
            | hd p w m =>
              simp only [putS] at e; rw [hi, es] at e; cases e
              obtain ⟨e1, e2, q⟩ := k0
              exact ⟨e1, e2, q.mono LB fun a q => ownB_other L labIx_h q⟩
            | lo m =>
              obtain ⟨w, e1, q⟩ := k0
              rw [hs] at e1; cases e1
              by_cases hm : m.own = true
              · simp only [putS, hm, if_true] at e
                rw [List.getElem?_set_self hlt] at e
                cases e
                split
                · rename_i m' ef
                  split
                  · rename_i hfit; exact ⟨v0, hs, fin1 m' ef hfit⟩
                  · exact trivial
                · exact trivial
              · simp only [putS, hm, Bool.false_eq_true, if_false] at e
                rw [hi, es] at e; cases e
                exact ⟨v0, hs, nown m hm q⟩
            | pa m =>
              obtain ⟨w, e1, e2, q⟩ := k0
              rw [hs] at e1; cases e1
              by_cases hm : m.own = true
              · simp only [putS, hm, if_true] at e
                rw [List.getElem?_set_self hlt] at e
                cases e
                split
                · rename_i m' ef
                  split
                  · rename_i hfit; exact ⟨v0, hs, e2, fin1 m' ef hfit⟩
                  · exact trivial
                · exact trivial
              · simp only [putS, hm, Bool.false_eq_true, if_false] at e
                rw [hi, es] at e; cases e
                exact ⟨v0, hs, e2, nown m hm q⟩
        · have q := (hP j).2 (by simp only [slots, List.mem_cons, not_or]; exact ⟨fun z => ne z.symm, hj⟩) s
          unfold stepB at e
          split at e
          · rw [List.getElem?_set_ne ne] at e; exact q e
          · exact q e
section
variable {F : TF} {n k : Nat} {f : Addr} {fd : FuncData} {ps : List Str} {x : Str} {p : Pos} {ta : TL}
theorem tCall_of {kk : VK} (h : TEo K c (tCall F n ta) σ H kk) : L2.tCall (spD K F n) [] E0 (TAo K c ta) σ H kk := by
  obtain ⟨o, ρ, τ, Q, R0, h, q⟩ := h
  refine ⟨o, ρ, τ, _, R0, h, fun vs H1 o1 rs ρ1 τ1 L1 R1 z1 h1 => ?_⟩
  show spD K F n (vs ++ []) H1 kk E0
  rw [List.append_nil]
  split at h1
  · rename_i ms em
    obtain ⟨hn, nd, hF⟩ := h1
    have A := args_ok (rsA := rs) (n := τ.length) R1 (k := 0) z1 List.prefix_rfl em nd (fun l _ => rfl)
    refine ⟨ownC rs τ.length o1, ms, _, z1.length.trans hn, ⟨by rw [argMs_length em, z1.length], fun i v m e1 e2 => by have := A i v m e1 e2; rwa [Nat.zero_add] at this, ownC_mu R1.mu⟩, hF, fun v H2 o2 m fin L2 mu2 im fo hG => ?_⟩
    obtain ⟨hfit, hG⟩ := hG
    have LB : Le o1 H1 (ownB rs τ.length o1 o2) H2 := ownB_le L2
    obtain ⟨b1, b2⟩ := back_ok (rsA := rs) (n := τ.length) (oc := o2) R1 L2 (k := 0) (fs := fin) (ρc := ρ1) z1 nd (fun j r e => by rw [Nat.zero_add]; exact e) (fun j v m e1 e2 => by rw [Nat.zero_add]; exact fo j v m e1 e2) rfl
      fun j => ⟨fun _ => rfl, fun hj s e => (R1.sl j s e).mono LB (fun a q => ownB_other L2 (labIx_s hj) q) fun a q => ownB_other L2 labIx_h q⟩
    obtain ⟨tt, htt⟩ := z1.pre
    have RB : Rep K c (ownB rs τ.length o1 o2) σ H2 (putB rs fin ρ1) τ := by
      refine ⟨b2, fun j w m' e => ?_, ownB_mu mu2, R1.le.trans LB, by rw [b1]; exact R1.ln⟩
      have hj : j < τ.length := (List.getElem?_eq_some_iff.mp e).1
      have q := R1.tm j w m' (by rw [← htt, List.getElem?_append_left hj]; exact e)
      exact ⟨q.1.mono LB fun a z => ownB_other L2 (labIx_lt hj) z, q.2⟩
    have io : IsM K (ownB rs τ.length o1 o2) H2 (.t τ.length) v m := im.monoK ownB_keep (fun a z => ⟨by unfold ownB; rw [z]; rfl, rfl⟩) hfit
    have own : m.own = true → m.res = .tm m → kk v H2 := fun e1 e2 => by
      rw [e2] at hG
      refine q v H2 _ (.tm m) _ (τ ++ [(v, m)]) (L1.trans LB) ⟨RB.sl, fun j w m' e => ?_, RB.mu, RB.le, RB.ln⟩ rfl hG
      by_cases hj : j < τ.length
      · rw [List.getElem?_append_left hj] at e; exact RB.tm j w m' e
      · rw [List.getElem?_append_right (by omega)] at e
        have e0 : j - τ.length = 0 := by
          cases y : j - τ.length with
          | zero => rfl
          | succ y' => rw [y] at e; simp at e
        rw [e0] at e
        have e3 : j = τ.length := by omega
        subst e3
        simp at e
        obtain ⟨rfl, rfl⟩ := e
        exact ⟨io, e1⟩
    cases m with
    | im d => exact q v H2 _ (.im d) _ τ (L1.trans LB) RB ⟨rfl, io⟩ hG
    | sq ds => cases hfit
    | ls ds => exact own rfl rfl
    | rd ds => exact own rfl rfl
    | dk ds => exact own rfl rfl
    | dt ds => exact own rfl rfl
  · exact h1.elim
theorem de_call (G : FnOk X.prog X.w X.K X.mg X.base CX0 k f fd ps (spD X.K F n)) (hr : Room k X.A) (hg : Gl X x) (hm : X.mg x = some (.ref f)) (hk : PySem.W.keepIn X.K (.ref f) = true) (hb : Binds X.K fd ps [])
    (ha : DA X c (e :: es) ta) (hdb : (x == ("__debug__" : Str)) = false := by decide) (he : starEach (e :: es) X.env = (false, eval e X.env) :: starEach es X.env := by rfl) (hpl : (backTo pos (starEach es X.env)).any (·.1) = false := by rfl) :
    DE X c (.Call (.Name x p) (e :: es) [] pos) (tCall F n ta) := peImp (pe_call G hr hg hm hk hb .nil pass0 ha hdb he hpl) fun σ H k h => tCall_of h
end

/-! ### a def, by its body -/
def Sl.fin : Sl → Option M
  | .pa m => some m
  | .hd true _ m => some m
  | _ => none
def fins (n : Nat) (ρ : Env) : List (Option M) := (ρ.take n).map Sl.fin
def envOf (N n : Nat) (ms : List M) : Env := ms.map Sl.pa ++ List.replicate (N - n) .no
def unH (o : Own) : Own := fun a => match o a with
  | some (.h i) => some (.s i)
  | l => l
theorem unH_le : Le o H (unH o) H := ⟨fun b u e f => ⟨by unfold unH; rw [e], f⟩, fun b e => ⟨by unfold unH; rw [e], rfl⟩⟩
theorem rep_start {vs : List V} {ms : List M} {N : List Str} (h : ArgsOk K o H vs ms) : Rep K ⟨o, H, vs⟩ o (L2.start N vs) H (envOf N.length vs.length ms) [] := by
  refine ⟨fun i s e => ?_, fun j v m e => by simp at e, h.mu, .refl, by unfold envOf L2.start; simp [h.len]⟩
  unfold envOf at e
  by_cases hi : i < ms.length
  · rw [List.getElem?_append_left (by simpa using hi), List.getElem?_map, List.getElem?_eq_getElem hi] at e
    cases e
    have hv : i < vs.length := by rw [h.len]; exact hi
    refine ⟨vs[i], ?_, List.getElem?_eq_getElem hv, h.at_ i _ _ (List.getElem?_eq_getElem hv) (List.getElem?_eq_getElem hi)⟩
    unfold L2.start
    rw [List.getElem?_append_left (by simpa using hv), List.getElem?_map, List.getElem?_eq_getElem hv]; rfl
  · rw [List.getElem?_append_right (by simpa using hi), List.getElem?_replicate] at e
    split at e
    · cases e; exact trivial
    · cases e
theorem fins_ok {vs : List V} {oo : Own} {H0 : Hp} (R0 : Rep K ⟨oo, H0, vs⟩ o σ H ρ []) (n : Nat) : FinOk K (unH o) H vs (fins n ρ) := fun i v m e1 e2 => by
  unfold fins at e2
  rw [List.getElem?_map, List.getElem?_take] at e2
  split at e2
  · cases es : ρ[i]? with
    | none => rw [es] at e2; cases e2
    | some s =>
      rw [es] at e2
      have k := R0.sl i s es
      cases s with
      | no => cases e2
      | lo m => cases e2
      | pa m' =>
        cases e2
        obtain ⟨w, _, e3, q⟩ := k
        rw [e1] at e3; cases e3
        exact q.mono unH_le fun a z => ⟨by unfold unH; rw [z], rfl⟩
      | hd p w m' =>
        cases p with
        | false => cases e2
        | true =>
          cases e2
          obtain ⟨_, e3, q⟩ := k
          have e3 := e3 rfl
          rw [e1] at e3; cases e3
          exact q.mono unH_le fun a z => ⟨by unfold unH; rw [z], rfl⟩
  · cases e2
/-- what the body is to do -/
def Body (F : TF) (N n : Nat) (T : TSX) : Prop := ∀ ms G, ms.length = n → F ms G → T { nx := fun ρ => G (.im .non) (fins n ρ), rt := fun m ρ => G m (fins n ρ) } (envOf N n ms)
theorem fn_ok {Pg : Program} {w : World} {mg : Str → Option Value} {base : Heap} {x qual : Str} {st : Stmt} {f : Addr} {fd : FuncData} {N ps : List Str} {k : Nat} {F : TF} {T : TSX} (Fu : Fun K x qual st f fd) (S : FnScope N ps (defScope st)) (hB : Body F N.length ps.length T)
    (hbody : ∀ (cdv : Value) (A : Around) (outer : List PySem.Env) (s : Shared) (H : Hp) (E : XK) (c : Cc), Room k (A.deeper (PyProof.Rows.envOfC qual (defScope st) s.heap.objs.size f cdv)) → DSs (cxOf CX0 Pg w K mg base N qual (defScope st) f cdv A outer s H E).nox c (defBody st) T) :
    FnOk Pg w K mg base CX0 (k + 1) f fd ps (spD K F ps.length) := by
  refine Fu.ok S (fun vs H Q E h => h.choose_spec.choose_spec.choose_spec.1) fun cdv A outer s H vs Q E hr h => ?_
  obtain ⟨o, ms, G, hl, ha, hF, q⟩ := h
  refine ⟨_, hbody cdv A outer s H E ⟨o, H, vs⟩ hr, ?_⟩
  have R0 : Rep K ⟨o, H, vs⟩ o (L2.start N vs) H (envOf N.length ps.length ms) [] := by have := rep_start (N := N) ha; rw [hl] at this; exact this
  refine ⟨o, _, _, R0, hB ms G (by rw [← ha.len]; exact hl) hF, ⟨fun σ' H' o' ρ' L R hG => ?_, fun v σ' H' o' ρ' m L R im hG => ?_, fun _ _ _ _ _ _ z => z.elim, fun _ _ _ _ _ _ z => z.elim⟩⟩
  · exact q .non H' (unH o') (.im .non) _ (L.trans unH_le) (fun a l e => by unfold unH at e; split at e; exact R.mu a _ (by assumption); exact R.mu a _ e) .non (fins_ok R _) hG
  · exact q v H' (unH o') m _ (L.trans unH_le) (fun a l e => by unfold unH at e; split at e; exact R.mu a _ (by assumption); exact R.mu a _ e) (im.mono unH_le fun a z => ⟨by unfold unH; rw [z], rfl⟩) (fins_ok R _) hG
end
end Y
namespace Y
open PySem PySem.Spec L2

/-! ### a def where the top has put it -/
structure DefAt (K : PySem.W.Frag) (mg : Str → Option Value) (name : Str) (st : Stmt) (ps : List Str) where
  f : Addr
  fd : FuncData
  fu : Fun K name name st f fd
  mg : mg name = some (.ref f)
  bd : Binds K fd ps []
def FnD (Pg : Program) (w : World) (K : PySem.W.Frag) (mg : Str → Option Value) (base : Heap) {name : Str} {st : Stmt} {ps : List Str} (D : DefAt K mg name st ps) (k : Nat) (F : TF) : Prop := FnOk Pg w K mg base CX0 k D.f D.fd ps (spD K F ps.length)
theorem FnD.mono {Pg : Program} {w : World} {K : PySem.W.Frag} {mg : Str → Option Value} {base : Heap} {name : Str} {st : Stmt} {ps : List Str} {D : DefAt K mg name st ps} {j k : Nat} {F : TF} (h : FnD Pg w K mg base D j F) (l : j ≤ k) : FnD Pg w K mg base D k F := FnOk.mono h l
/-- a weaker promise -/
theorem FnD.imp {Pg : Program} {w : World} {K : PySem.W.Frag} {mg : Str → Option Value} {base : Heap} {name : Str} {st : Stmt} {ps : List Str} {D : DefAt K mg name st ps} {k : Nat} {F F' : TF} (h : FnD Pg w K mg base D k F) (i : ∀ ms G, F' ms G → F ms G) : FnD Pg w K mg base D k F' :=
  FnOk.imp h fun vs H Q E ⟨o, ms, G, a, b, c, d⟩ => ⟨o, ms, G, a, b, i ms G c, d⟩
theorem hu1 {k : Nat} {A : Around} (r : Room k A) : A.units + 1 < cLine := by have := r.un; omega
theorem hu64 {k : Nat} {A : Around} (r : Room k A) : A.units + 64 < cLine := by have := r.un; omega
theorem hu65 {k : Nat} {A : Around} (r : Room k A) : A.units + 65 < cLine := by have := r.un; omega
theorem hu80 {k : Nat} {A : Around} (r : Room k A) : A.units + 80 < cLine := by have := r.un; omega

section
variable {K : PySem.W.Frag} {c : Cc} {o o' : Own} {σ σ' : St} {H H' : Hp} {ρ ρ' : Env} {τ τ' τ0 τ1 : List (V × M)} {X : Cx} {e a b : Expr} {es : List Expr} {pos : Pos} {t u : TX} {P : EndP} {D' : Ends}
/-! ### dicts made -/
def tNewK : TX := fun ρ Q => Q (.tm (.dk [])) ρ
def tNewT : TX := fun ρ Q => Q (.tm (.dt [])) ρ
theorem de_newK : DE X c (.Dict [] [] pos) tNewK := peImp pe_dnewK fun σ H k ⟨o, ρ, τ, Q, R0, h, q⟩ => fun p hp => by
  obtain ⟨o', τ', L, R', z⟩ := R0.made (m := .dk []) List.prefix_rfl (.new hp) ⟨p, [], rfl, hp, rfl, .nil⟩
  exact q _ _ o' _ ρ τ' L R' z h
theorem de_newT : DE X c (.Dict [] [] pos) tNewT := peImp pe_dnewT fun σ H k ⟨o, ρ, τ, Q, R0, h, q⟩ => fun p hp => by
  obtain ⟨o', τ', L, R', z⟩ := R0.made (m := .dt []) List.prefix_rfl (.new hp) ⟨p, [], rfl, hp, rfl, .nil⟩
  exact q _ _ o' _ ρ τ' L R' z h
/-- -e -/
def tNeg (t : TX) : TX := fun ρ Q => t ρ fun r ρ1 => match r with
  | .im (.int i) => Q (.im (.int (-i))) ρ1
  | _ => False
theorem de_neg (h : DE X c e t) : DE X c (.UnaryOp .USub e pos) (tNeg t) := peImp (pe_un un_neg h) fun σ H k h => by
  obtain ⟨o, ρ, τ, Q, R0, h, q⟩ := h
  refine ⟨o, ρ, τ, _, R0, h, fun v1 H1 o1 r1 ρ1 τ1 L1 R1 z1 h1 => ?_⟩
  split at h1
  · obtain ⟨rfl, z⟩ := z1
    cases z
    exact ⟨_, rfl, q _ H1 o1 (.im _) ρ1 _ L1 R1 ⟨rfl, .int _⟩ h1⟩
  · exact h1.elim
/-- dict(d) of a dict with keys ints and texts -/
def gDict : GC := fun ms G => match ms with
  | [.dk kvs] => G (.dk kvs)
  | _ => False
theorem dict_ok : CallG X (.type "dict") gDict := by
  refine callG call_dictD fun vs H k h => ?_
  obtain ⟨o, ms, G, mu, v1, h, q⟩ := h
  unfold gDict at h
  split at h
  · obtain ⟨v, rfl, w1⟩ := pv1 v1
    obtain ⟨l, a, ks, rfl, _, ha, kv⟩ := w1
    exact ⟨a, ks, rfl, .inl ha, fun p hp => q _ _ (.dk _) (.new hp) ⟨p, ks, rfl, hp, rfl, kv⟩ h⟩
  · exact h.elim
/-! ### a, b = x, y -/
def sPar (i j : Nat) (ta : TL) : TSX := fun P ρ => tFrz ta (fun ds ρ1 => match ds with
  | [x, y] => P.nx ((ρ1.set i (.lo (.im x))).set j (.lo (.im y)))
  | _ => False) ρ
end
end Y
namespace Y
open PySem PySem.Spec L2

/-! ### sorted -/
noncomputable def sortD (ds : List D) : List D := ds.mergeSort (PySem.W.dataLe false D.py)
def CanSort (ds : List D) : Prop := PySem.W.AllAlike (ds.map D.py) ∧ PySem.W.Sortable (ds.map D.py) ∧ ∀ d ∈ ds, D.ok 64 d = true
def kD : Key → D
  | .inl i => .int i
  | .inr s => .str s
def gSorted : GC := fun ms G => match ms with
  | [.dt kvs] => CanSort (kvs.map fun p => .tup (p.1.map kD)) ∧ G (.ls (sortD (kvs.map fun p => .tup (p.1.map kD))))
  | [.dk kvs] => CanSort (kvs.map fun p => kD p.1) ∧ G (.ls (sortD (kvs.map fun p => kD p.1)))
  | [m] => match m.lq? with
    | some ds => CanSort ds ∧ G (.ls (sortD ds))
    | none => False
  | _ => False
section
variable {X : Cx} {pins : List (Addr × Obj)} {σ : St} {H H' : Hp} {s : Shared} {K : PySem.W.Frag} {o : Own}
theorem Dats.all_dp {xs : List V} {ds : List D} (h : Dats K o H xs ds) (k : ∀ d ∈ ds, D.ok 64 d = true) : ∀ p ∈ xs.zip ds, Dat K o H p.1 p.2 ∧ Dp K H p.1 p.2.py := by
  induction xs generalizing ds with
  | nil => intro p hp; simp at hp
  | cons x xs ih =>
    cases h with
    | cons a t =>
      intro p hp
      rcases List.mem_cons.mp hp with rfl | hp
      · exact ⟨a, a.dp (k _ List.mem_cons_self)⟩
      · exact ih t (fun d hd => k d (List.mem_cons_of_mem _ hd)) p hp
theorem Dats.of_zip : ∀ {zs : List (V × D)}, (∀ p ∈ zs, Dat K o H p.1 p.2) → Dats K o H (zs.map (·.1)) (zs.map (·.2))
  | [], _ => .nil
  | z :: zs, h => .cons (h z List.mem_cons_self) (Dats.of_zip fun p hp => h p (List.mem_cons_of_mem _ hp))
theorem each_zip {R : Value → V × D → Prop} : ∀ {xs : List V} {us : List Value} {ds : List D}, Vals xs us → xs.length = ds.length → (∀ p ∈ xs.zip ds, ∀ u, RelV p.1 u → R u p) → PySem.W.EachIs R us (xs.zip ds)
  | _, _, [], .nil, _, _ => .nil
  | _, _, d :: ds, .cons r t, hl, h => .cons (h _ (by simp) _ r) (each_zip t (by simpa using hl) fun p hp => h p (by simp [hp]))
theorem each_vals {R : Value → V × D → Prop} (f : ∀ u p, R u p → RelV p.1 u) : ∀ {us : List Value} {zs : List (V × D)}, PySem.W.EachIs R us zs → Vals (zs.map (·.1)) us
  | _, _, .nil => .nil
  | _, _, .cons r t => .cons (f _ _ r) (each_vals f t)
/-- what stands behind the sort -/
theorem sort_fin {xs : List V} {ds : List D} (hl : xs.length = ds.length) (out : List Value) (e : PySem.W.EachIs (fun u p => RelV p.1 u ∧ p ∈ xs.zip ds) out ((xs.zip ds).mergeSort (PySem.W.dataLe false fun p => p.2.py))) (dd : ∀ p ∈ xs.zip ds, Dat K o H p.1 p.2) :
    ∃ ys, Vals ys out ∧ ys.length = ds.length ∧ Dats K o H ys (sortD ds) := by
  refine ⟨_, each_vals (fun u p h => h.1) e, ?_, ?_⟩
  · rw [List.length_map, List.length_mergeSort, List.length_zip, hl, Nat.min_self]
  · have q : sortD ds = ((xs.zip ds).mergeSort (PySem.W.dataLe false fun p => p.2.py)).map (·.2) := by
      unfold sortD
      rw [PySem.W.sort_maps (r := PySem.W.dataLe false fun p : V × D => p.2.py) (s := PySem.W.dataLe false D.py) (f := fun p : V × D => p.2) (l := xs.zip ds) (fun _ _ _ _ => rfl)]
      congr 1
      exact (List.map_snd_zip (by omega)).symm
    rw [q]
    exact Dats.of_zip fun p hp => dd p (List.mem_mergeSort.mp hp)
theorem zip_py {xs : List V} {ds : List D} (hl : xs.length = ds.length) : (xs.zip ds).map (fun p => p.2.py) = ds.map D.py := by
  have e : (xs.zip ds).map (fun p => p.2.py) = ((xs.zip ds).map Prod.snd).map D.py := by rw [List.map_map]; rfl
  rw [e, List.map_snd_zip (by omega)]
theorem sorted_list (hu : X.A.units + 80 < cLine) : CallR X (.builtin "sorted") (fun vs H k => ∃ a xs ds o, vs = [.ref a] ∧ SqL X.K H a xs ∧ Dats X.K o H xs ds ∧ CanSort ds ∧
    ∀ p ys, H p = none → ys.length = ds.length → Dats X.K o H ys (sortD ds) → k (.ref p) (upd H p (.lst ys))) := by
  intro pins s σ H vs us Q I r h
  obtain ⟨a, xs, ds, o, rfl, hs, hd, ⟨c1, c2, c3⟩, q⟩ := h
  obtain ⟨its, rv, hl, hz⟩ := I.list hs
  rw [Vals.ref1 r]
  have dp := hd.all_dp c3
  have er : PySem.W.EachIs (fun v (b : V × D) => ∃ as, Reads s.heap v b.2.py as) its (xs.zip ds) := each_zip rv hd.length fun p hp u ru => (Dp.reads I _ _ _ (dp p hp).2 ru)
  have e : PySem.W.EachIs (fun u (p : V × D) => RelV p.1 u ∧ p ∈ xs.zip ds) its (xs.zip ds) := each_zip rv hd.length fun p hp u ru => ⟨ru, hp⟩
  have hlz : (xs.zip ds).length = ds.length := by rw [List.length_zip, hd.length, Nat.min_self]
  refine PySem.W.sorted_data (enc := fun p : V × D => p.2.py) hl.isList e er (by rw [zip_py hd.length]; exact c1) (by rw [zip_py hd.length]; exact c2) (by rw [hlz, ← hd.length]; exact hz) (fun b hb => ?_) fun out ho eo => ?_
  · have := (D.ok_lay 64 b.2 (c3 b.2 (List.of_mem_zip hb).2)).2
    omega
  · obtain ⟨ys, hv, hly, hdy⟩ := sort_fin hd.length out eo fun p hp => (dp p hp).1
    obtain ⟨ep, he'⟩ := PyProof.Rows.sortedAll_at s.heap its out.toArray
    refine ⟨.ref _, upd H (s.heap.objs.size + 1) (.lst ys), I.laid (t' := s.toks) (fun _ _ => PyProof.Rows.sortedAll_old) (Nat.le_succ _) ⟨by rw [hly, ← hd.length]; exact hz, out, ep, hv, he'⟩, rfl, q _ ys (I.hok.fresh (Nat.le_succ _)) hly hdy⟩
/-- sorted(d), by the keys that a walk over d gives -/
theorem sorted_src {T : String} {r d : Addr} {n : Nat} {P : Nat → Value → Prop} {OK : Heap → Prop} {xs : List V} {ds : List D} {Q : Value → Shared → Prop} {E : Value → Shared → Prop} (S : PySem.W.KdlSrc X.prog X.w T r d n P OK) (hc : X.calm = true) (hu : X.A.units + 80 < cLine) (I : Inv X pins σ H s) (hok : OK s.heap) (hn : n ≤ sizeLine) (hnd : ds.length = n) (hd : Dats X.K o H xs ds) (cs : CanSort ds)
    (hi : ∀ acc : Array Value, PySem.ItemsOf P acc n → Vals xs acc.toList)
    (q : ∀ p ys s', H p = none → ys.length = ds.length → Dats X.K o H ys (sortD ds) → Inv X pins σ (upd H p (.lst ys)) s' → Q (.ref p) s') :
    wpAny (model X.prog X.w) X.A (call (.builtin "sorted") [.ref r]) Q E s := by
  obtain ⟨c1, c2, c3⟩ := cs
  refine Calls.call_function_entry PyProof.Rows.kind_sorted PyProof.Rows.plain_sorted PyProof.Rows.entry_sorted (PyProof.Rows.args_sorted1 _) ?_
  unfold Builtin.«sorted»
  refine wpAny_bind (m := checkCount "sorted" 1 1 _) (wpAny_pure ?_)
  refine wpAny_bind (PySem.W.kdu_collect (A := X.A.in1) S (I.ok.hd hc) hok hn fun h' tk acc hk hacc => ?_)
  have rv := hi acc hacc
  have I1 : Inv X pins σ H { s with heap := h', toks := tk } := I.kept hk
  have dp := hd.all_dp c3
  have hlz : (xs.zip ds).length = ds.length := by rw [List.length_zip, hd.length, Nat.min_self]
  have hal : acc.toList.length = ds.length := by rw [← rv.length, hd.length]
  refine wpAny_bind (wpAny_newList ?_ (by rw [hal, hnd]; exact hn))
  have hoL : (h'.push (PyProof.Rows.seqObj "list" acc.toList.toArray 0)).get? h'.objs.size = some (PyProof.Rows.seqObj "list" acc.toList.toArray 0) := Heap.get?_push_size _ rfl
  show wpAny _ _ _ _ _ { s with heap := h'.push (PyProof.Rows.seqObj "list" acc.toList.toArray 0), toks := tk }
  have er : PySem.W.EachIs (fun v (b : V × D) => ∃ as, Reads (h'.push (PyProof.Rows.seqObj "list" acc.toList.toArray 0)) v b.2.py as ∧ h'.objs.size ∉ as) acc.toList (xs.zip ds) := each_zip rv hd.length fun p hp u ru => by
    obtain ⟨as, ra⟩ := Dp.reads I1 _ _ _ (dp p hp).2 ru
    refine ⟨as, PyProof.Rows.Reads.keeps (fun b u e => Heap.get?_push_of_some _ e) ra, fun hm => ?_⟩
    obtain ⟨u, hu⟩ := PyProof.On.reads_mem_get ra _ hm
    exact absurd (Heap.lt_size hu) (Nat.lt_irrefl _)
  have e : PySem.W.EachIs (fun u (p : V × D) => RelV p.1 u ∧ p ∈ xs.zip ds) acc.toList (xs.zip ds) := each_zip rv hd.length fun p hp u ru => ⟨ru, hp⟩
  refine wpAny_bind (wpAny_holding (PySem.W.list_sort_data (enc := fun p : V × D => p.2.py) (s := { s with heap := h'.push (PyProof.Rows.seqObj "list" acc.toList.toArray 0), toks := tk }) hoL e er (by rw [zip_py hd.length]; exact c1) (by rw [zip_py hd.length]; exact c2) (by rw [hlz, hnd]; exact hn) (fun b hb => ?_) fun out ho eo => ?_))
  · have := (D.ok_lay 64 b.2 (c3 b.2 (List.of_mem_zip hb).2)).2
    show X.A.in1.units + 1 + _ < _
    have h1 : X.A.in1.units = X.A.units + 1 := rfl
    omega
  · obtain ⟨ys, hv, hly, hdy⟩ := sort_fin hd.length out eo fun p hp => (dp p hp).1
    obtain ⟨e', he'⟩ := PyProof.Rows.sortedHeap_at (vs := acc.toList) (out := out.toArray) hoL
    refine wpAny_pure ⟨_, rfl, q h'.objs.size ys _ (I1.hok.fresh (Nat.le_refl _)) hly hdy (I1.laid (t' := tk) (fun b u e => ?_) (Nat.le_refl _)
      (show ObjOk X.prog X.w _ _ _ (.lst ys) from ⟨by rw [hly, hnd]; exact hn, out, e', hv, he'⟩))⟩
    have hb : b < h'.objs.size := Heap.lt_size e
    rw [PyProof.Rows.sortedHeap_old (Nat.ne_of_lt hb) (by show b < (h'.objs.push _).size; rw [Array.size_push]; exact Nat.lt_succ_of_lt hb)]
    exact Heap.get?_push_of_some _ e
/-- items that a walk has collected, told one by one -/
theorem items_of {P : Nat → Value → Prop} {xs : List V} {n : Nat} (hl : xs.length = n) (f : ∀ (k : Nat) (x : V) (u : Value), xs[k]? = some x → P k u → RelV x u) (acc : Array Value) (h : PySem.ItemsOf P acc n) : Vals xs acc.toList :=
  vals_of_at (by rw [hl, Array.length_toList]; exact h.1.symm) fun k x u hx hu => f k x u hx (h.2 k u (by simpa using hu))
theorem sorted_dk (hc : X.calm = true) (hu : X.A.units + 80 < cLine) : CallR X (.builtin "sorted") (fun vs H k => ∃ a kvs ds o, vs = [.ref a] ∧ H a = some (.dK kvs) ∧ Dats X.K o H (kvs.map fun p => kV p.1) ds ∧ CanSort ds ∧
    ∀ p ys, H p = none → ys.length = ds.length → Dats X.K o H ys (sortD ds) → k (.ref p) (upd H p (.lst ys))) := by
  rintro pins s σ H xs us Q I rel ⟨d, kvs, ds, o, rfl, hd, dats, cs, fin⟩
  obtain ⟨len, own, ent, pairs, obj⟩ := (show ObjOk X.prog X.w H s.heap d (.dK kvs) from I.hok d _ hd)
  obtain ⟨age, stands⟩ := obj.dictAt
  have same : kvs.length = ent.length := pairs.length
  rw [Vals.ref1 rel]
  refine sorted_src (PySem.W.kdl_dict (knd := mixKind X.prog X.w) (kvs := ent) (ep := age) own) hc hu I stands (same ▸ len) (by rw [← same, ← dats.length, List.length_map]) dats cs (items_of (by rw [List.length_map, same]) fun j x u hx hp => ?_) fun p ys s' hp hy dy I' => ⟨.ref p, _, I', rfl, fin p ys hp hy dy⟩
  obtain ⟨key, val, at_, is_⟩ := hp
  have kj : (kvs.map fun q => q.1)[j]? = some key := by
    rw [show (kvs.map fun q => q.1) = ent.map (·.1) from KV.keys pairs, List.getElem?_map, at_]
    rfl
  rw [List.getElem?_map] at hx kj
  obtain ⟨q, hq, rfl⟩ := Option.map_eq_some_iff.mp hx
  rw [hq] at kj
  have kj : q.1 = key := Option.some.inj kj
  rw [kj]
  exact keyIs_rel is_
theorem sorted_dt (hc : X.calm = true) (hu : X.A.units + 80 < cLine) : CallR X (.builtin "sorted") (fun vs H k => ∃ a kvs ds o, vs = [.ref a] ∧ H a = some (.dT kvs) ∧ (∀ bs, IsKeys H kvs bs → Dats X.K o H (bs.map V.ref) ds) ∧ CanSort ds ∧
    ∀ p ys, H p = none → ys.length = ds.length → Dats X.K o H ys (sortD ds) → k (.ref p) (upd H p (.lst ys))) := by
  rintro pins s σ H xs us Q I rel ⟨d, kvs, ds, o, rfl, hd, dats, cs, fin⟩
  obtain ⟨len, own, trip, pairs, ob, ents, age, at_, exact_, data, told, nod⟩ := (show ObjOk X.prog X.w H s.heap d (.dT kvs) from I.hok d _ hd)
  have dats := dats _ (isKeys_of pairs)
  have n1 : ents.size = trip.length := size_of_entries told
  have n2 : kvs.length = trip.length := pairs.length
  rw [Vals.ref1 rel]
  refine sorted_src (kdl_raw own exact_ data) hc hu I at_ (by rw [n1, ← n2]; exact len) (by rw [n1, ← dats.length, List.length_map, List.length_map]) dats cs (items_of (by rw [List.length_map, List.length_map, n1]) fun j x u hx hp => ?_) fun p ys s' hp hy dy I' => ⟨.ref p, _, I', rfl, fin p ys hp hy dy⟩
  obtain ⟨en, hen, rfl⟩ := hp
  rw [List.getElem?_map, List.getElem?_map] at hx
  have toldj := entry_at told j
  rw [hen] at toldj
  cases tj : trip[j]? with
  | none => rw [tj] at hx; simp at hx
  | some t =>
    rw [tj] at hx toldj
    have hx : some (V.ref t.2.1) = some x := hx
    cases hx
    have toldj : some en = some (entryOfKey (tupleKind (mixKind X.prog X.w)) t) := toldj
    cases toldj
    rfl
theorem dat_key {k : Key} : Dat K o H (kV k) (kD k) := by
  cases k with
  | inl i => exact .int i
  | inr s => exact .str s
theorem dats_key : ∀ {ks : List Key}, Dats K o H (ks.map kV) (ks.map kD)
  | [] => .nil
  | _ :: _ => .cons dat_key dats_key
theorem dats_keys {kvs : List (Key × V)} {kds : List (Key × D)} (h : Kvs K o H kvs kds) : Dats K o H (kvs.map fun p => kV p.1) (kds.map fun p => kD p.1) := by
  induction h with
  | nil => exact .nil
  | cons a t ih => refine .cons ?_ ih; show Dat K o H (kV _) (kD _); rw [a.1]; exact dat_key
theorem dats_tkeys (mu : ∀ a l, o a = some l → Mut (H a)) {kvs : List (List Key × V)} {kds : List (List Key × D)} (h : Kvs K o H kvs kds) : ∀ {bs : List Addr}, IsKeys H kvs bs → Dats K o H (bs.map V.ref) (kds.map fun p => .tup (p.1.map kD)) := by
  induction h with
  | nil => intro bs hb; cases hb; exact .nil
  | cons a t ih =>
    intro bs hb
    cases hb with
    | @cons _ b _ _ h1 h2 =>
      refine .cons (.tup (xs := _) ⟨?_, h1⟩ ?_) (ih h2)
      · cases e : o b with
        | none => rfl
        | some l => have := mu b l e; rw [h1] at this; exact this.elim
      · rw [a.1]; exact dats_key
theorem sorted_ok (hc : X.calm = true) (hu : X.A.units + 80 < cLine) : CallG X (.builtin "sorted") gSorted := by
  refine callG ((sorted_list hu).or ((sorted_dk hc hu).or (sorted_dt hc hu))) fun vs H k h => ?_
  obtain ⟨o, ms, G, mu, v1, h, q⟩ := h
  unfold gSorted at h
  split at h
  · obtain ⟨v, rfl, w1⟩ := pv1 v1
    obtain ⟨l, a, ks, rfl, _, ha, kv⟩ := w1
    exact .inr (.inr ⟨a, ks, _, o, rfl, ha, fun bs hb => dats_tkeys mu kv hb, h.1, fun p ys hp _ hd => q _ _ (.ls _) (.new hp) ⟨p, ys, rfl, hp, rfl, hd⟩ h.2⟩)
  · obtain ⟨v, rfl, w1⟩ := pv1 v1
    obtain ⟨l, a, ks, rfl, _, ha, kv⟩ := w1
    exact .inr (.inl ⟨a, ks, _, o, rfl, ha, dats_keys kv, h.1, fun p ys hp _ hd => q _ _ (.ls _) (.new hp) ⟨p, ys, rfl, hp, rfl, hd⟩ h.2⟩)
  · obtain ⟨v, rfl, w1⟩ := pv1 v1
    split at h
    · rename_i ds e
      obtain ⟨a, xs, rfl, ht, dd⟩ := w1.lq e
      exact .inl ⟨a, xs, ds, o, rfl, ht, dd, h.1, fun p ys hp _ hd => q _ _ (.ls _) (.new hp) ⟨p, ys, rfl, hp, rfl, hd⟩ h.2⟩
    · exact h.elim
  · exact h.elim
end
end Y
namespace Y
open PySem PySem.Spec L2

/-! ### == of dicts by what they hold -/
def eqKvs (ka kb : List (Key × D)) : Bool := ka.length == kb.length && ka.all fun p => match getK kb p.1 with
  | some e => D.eqv p.2 e
  | none => false
def gEqs2 (neg : Bool) : G2 := fun m n G => match m, n with
  | .dk ka, .dk kb => (∀ p ∈ ka, D.ok 62 p.2 = true) ∧ (∀ p ∈ kb, D.ok 62 p.2 = true) ∧ neg = false ∧ G (.im (.bl (eqKvs ka kb)))
  | m, n => gEqs neg m n G
section
variable {X : Cx} {pins : List (Addr × Obj)} {σ : St} {H H' : Hp} {s : Shared} {K : PySem.W.Frag} {o o' : Own} {c : Cc} {ρ ρ' : Env} {τ τ' τ0 τ1 : List (V × M)}
theorem dat_eqP (I : Inv X pins σ H s) {A : Around} (hu : A.units + 62 < cLine) {x y : V} {v u : Value} {d e : D} (hd : Dat X.K o H x d) (he : Dat X.K o H y e) (kd : D.ok 62 d = true) (ke : D.ok 62 e = true) (rx : RelV x v) (ry : RelV y u) : SeqAt.EqP X.prog X.w A s v u (D.eqv d e) := by
  obtain ⟨as, r1⟩ := Dp.reads I _ _ _ (hd.dp kd) rx
  obtain ⟨bs, r2⟩ := Dp.reads I _ _ _ (he.dp ke) ry
  have q1 := D.ok_lay 62 d kd
  have q2 := D.ok_lay 62 e ke
  exact (SeqAt.eqAt_reads _ _ A s _ _ _ _ r1 r2 q1.1 q2.1 (by have := Nat.min_le_left d.py.depth e.py.depth; omega)).eqP
theorem dat_hits (I : Inv X pins σ H s) {A : Around} (hu : A.units + 62 < cLine) {kb : List (Key × D)} {ls : List (Key × V)} {vb : List (Key × Value)} (hb : Kvs X.K o H ls kb) (kbok : ∀ p ∈ kb, D.ok 62 p.2 = true) (rb : KV ls vb) {ka : List (Key × D)} {ks : List (Key × V)} {va : List (Key × Value)}
    (ha : Kvs X.K o H ks ka) (kaok : ∀ p ∈ ka, D.ok 62 p.2 = true) (ra : KV ks va) : PySem.W.KeqHitsP X.prog X.w A s vb va (ka.all fun p => match getK kb p.1 with
      | some e => D.eqv p.2 e
      | none => false) := by
  induction ha generalizing va with
  | nil => cases ra; exact .nil
  | @cons p q ps qs h t ih =>
    cases ra with
    | @cons _ r _ rs h2 t2 =>
      have ihh := ih (fun p' hp => kaok p' (List.mem_cons_of_mem _ hp)) t2
      have e1 : r.1 = p.1 := h2.1.symm
      have rr : RelO (valV ls p.1) (valueAt vb p.1) := rb.val p.1
      have rd : RelD X.K o H (valV ls p.1) (getK kb p.1) := hb.val p.1
      rw [List.all_cons]
      rw [← h.1]
      obtain ⟨rk, rv⟩ := r
      have e1' : rk = p.1 := e1
      subst e1'
      cases hk : getK kb p.1 with
      | none =>
        rw [hk] at rd
        have hv : valV ls p.1 = none := by
          cases z : valV ls p.1 with
          | none => rfl
          | some u => rw [z] at rd; exact rd.elim
        rw [hv] at rr
        have hn : valueAt vb p.1 = none := by
          cases z : valueAt vb p.1 with
          | none => rfl
          | some u => rw [z] at rr; exact absurd rr (by intro q; first | exact q.elim | cases q)
        exact .miss hn
      | some e =>
        rw [hk] at rd
        cases z : valV ls p.1 with
        | none => rw [z] at rd; exact rd.elim
        | some u =>
          rw [z] at rd rr
          obtain ⟨y, hy, ry⟩ := rr.some_of
          have hm : D.ok 62 e = true := by
            unfold getK at hk
            obtain ⟨kv, hf, rfl⟩ := Option.map_eq_some_iff.mp hk
            exact kbok kv (List.mem_of_find?_eq_some hf)
          exact .hit hy (dat_eqP I hu h.2 rd (kaok q List.mem_cons_self) hm h2.2 ry) ihh
theorem op_eqK (hu : X.A.units + 64 < cLine) : OpR X (compareOp .Eq) (fun x y H Q => ∃ a b ks ls ka kb o, x = .ref a ∧ y = .ref b ∧ H a = some (.dK ks) ∧ H b = some (.dK ls) ∧ Kvs X.K o H ks ka ∧ Kvs X.K o H ls kb ∧ (∀ p ∈ ka, D.ok 62 p.2 = true) ∧ (∀ p ∈ kb, D.ok 62 p.2 = true) ∧
    Q (.bl (eqKvs ka kb)) H) := by
  rintro pins s σ H _ _ _ _ Q I rx ry ⟨a, b, ks, ls, ka, kb, o, rfl, rfl, ha, hb, k1, k2, o1, o2, q⟩
  obtain rfl := rx
  obtain rfl := ry
  have da0 := I.hok a _ ha
  have db0 := I.hok b _ hb
  obtain ⟨_, ya, va, ra, da⟩ := da0
  obtain ⟨_, yb, vb, rb, db⟩ := db0
  refine PySem.W.rcP_dicts (knd := mixKind X.prog X.w) ya yb da db (by omega) (fun _ => dat_hits I (A := X.A.in1) (by show X.A.units + 1 + 62 < cLine; omega) k2 o2 rb k1 o1 ra) _ _ ?_
  refine ⟨.bl _, H, I, ?_, q⟩
  show _ = Value.bool _
  unfold eqKvs
  rw [show va.length = ka.length by rw [← ra.length, k1.length], show vb.length = kb.length by rw [← rb.length, k2.length]]
theorem eq2_ok (hu : X.A.units + 64 < cLine) : OpG X (compareOp .Eq) (gEqs2 false) := by
  rintro pins s σ H x y v u Q I rx ry ⟨o, m1, m2, G, mu, v1, v2, h, q⟩
  unfold gEqs2 at h
  split at h
  · obtain ⟨l1, a, ks, rfl, _, ha, kv⟩ := v1
    obtain ⟨l2, b, ls, rfl, _, hb, lv⟩ := v2
    exact op_eqK hu pins s σ H _ _ v u Q I rx ry ⟨a, b, ks, ls, _, _, o, rfl, rfl, ha, hb, kv, lv, h.1, h.2.1, qim q (.bl _) h.2.2.2⟩
  · exact eq_ok hu pins s σ H x y v u Q I rx ry ⟨o, m1, m2, G, mu, v1, v2, h, q⟩

/-! ### displays -/
/-- a temporary's object is changed -/
theorem Rep.mutT {a : Addr} {m0 : M} (R0 : Rep K c o σ H ρ (τ ++ [(.ref a, m0)])) {m : M} {u : HO} (ho : o a = some (.t τ.length)) (hu : Mut (some u)) (hm : m.own = true)
    (h : IsM K o (upd H a u) (.t τ.length) (.ref a) m) : Rep K c o σ (upd H a u) ρ (τ ++ [(.ref a, m)]) ∧ Le o H o (upd H a u) := by
  have ne : ∀ b l, o b = some l → l ≠ .t τ.length → b ≠ a := fun b l q z w => by subst w; rw [ho] at q; cases q; exact z rfl
  have L : Le o H o (upd H a u) := ⟨fun b w q f => ⟨q, by rw [upd_ne (fun z => by subst z; rw [ho] at q; cases q)]; exact f⟩, fun b q => ⟨q, upd_ne (ne b _ q (by intro z; cases z))⟩⟩
  have kp : ∀ l, l ≠ .t τ.length → ∀ b, o b = some l → o b = some l ∧ upd H a u b = H b := fun l z b q => ⟨q, upd_ne (ne b l q z)⟩
  refine ⟨⟨fun j s' q => (R0.sl j s' q).mono L (kp _ (by intro z; cases z)) (kp _ (by intro z; cases z)), fun j v m' q => ?_, fun b l q => ?_, R0.le.trans L, R0.ln⟩, L⟩
  · by_cases hj : j < τ.length
    · rw [List.getElem?_append_left hj] at q
      have q' := R0.tm j v m' (by rw [List.getElem?_append_left hj]; exact q)
      exact ⟨q'.1.mono L (kp _ (by intro z; injection z with z; omega)), q'.2⟩
    · rw [List.getElem?_append_right (by omega)] at q
      have hz : j - τ.length = 0 := by
        cases w : j - τ.length with
        | zero => rfl
        | succ n => rw [w] at q; simp at q
      rw [hz] at q
      have e2 : j = τ.length := by omega
      subst e2
      simp at q
      obtain ⟨rfl, rfl⟩ := q
      exact ⟨h, hm⟩
  · by_cases z : b = a
    · subst z; rw [upd_same]; exact hu
    · rw [upd_ne z]; exact R0.mu b l q
def pairUp : List V → List (V × V)
  | x :: y :: r => (x, y) :: pairUp r
  | _ => []
structure DPs (X : Cx) (c : Cc) (pos : Pos) (keys : List (Option Expr)) (values : List Expr) (tl : TL) : Prop where
  ex : ∃ trs, PPs X pos keys values trs ∧ ∀ σ H Q, TAo X.K c tl σ H (fun vs H' => Q (pairUp vs) H') → tPairs trs σ H Q
theorem dps_nil {pos : Pos} : DPs X c pos [] [] lNil := ⟨[], pps_nil, fun σ H Q ⟨o, ρ, τ, Q', R0, h, q⟩ => q [] H o [] ρ τ .refl R0 .nil h⟩
theorem dps_cons {pos : Pos} {k v : Expr} {ks : List (Option Expr)} {vs : List Expr} {tk tv : TX} {tl : TL} (hk : DE X c k tk) (hv : DE X c v tv) (hr : DPs X c pos ks vs tl) : DPs X c pos (some k :: ks) (v :: vs) (lCons tk (lCons tv tl)) := by
  obtain ⟨trs, h1, h2⟩ := hr
  refine ⟨(TEo X.K c tk, TEo X.K c tv) :: trs, pps_cons hk hv h1, fun σ H Q ⟨o, ρ, τ, Q', R0, h, q⟩ => ?_⟩
  refine ⟨o, ρ, τ, _, R0, h, fun v1 H1 o1 r1 ρ1 τ1 L1 R1 z1 h1 => ⟨o1, ρ1, τ1, _, R1, h1, fun v2 H2 o2 r2 ρ2 τ2 L2 R2 z2 h2b => h2 _ _ _ ⟨o2, ρ2, τ2, _, R2, h2b, fun vs H3 o3 rs ρ3 τ3 L3 R3 z3 h3 => ?_⟩⟩⟩
  exact q (v1 :: v2 :: vs) H3 o3 _ ρ3 τ3 (L1.trans (L2.trans L3)) R3 (.cons (z1.mono (L2.trans L3)) (.cons (z2.mono L3) z3)) h3

def pairG {κ : Type} (f : D → Option κ) : List D → Option (List (κ × D))
  | [] => some []
  | k :: d :: r => match f k, pairG f r with
    | some k, some kvs => some ((k, d) :: kvs)
    | _, _ => none
  | _ => none
def D.tkey? : D → Option (List Key)
  | .tup ds => D.keys? ds
  | _ => none
def putAll {κ : Type} [DecidableEq κ] (kvs more : List (κ × D)) : List (κ × D) := more.foldl (fun acc kv => putD acc kv.1 kv.2) kvs
def tDspK (tl : TL) : TX := fun ρ Q => tFrz tl (fun ds ρ1 => match pairG D.key? ds with
  | some kvs => kvs.length ≤ 15 ∧ Q (.tm (.dk (putAll [] kvs))) ρ1
  | none => False) ρ
def tDspT (tl : TL) : TX := fun ρ Q => tFrz tl (fun ds ρ1 => match pairG D.tkey? ds with
  | some kvs => kvs.length ≤ 15 ∧ Q (.tm (.dt (putAll [] kvs))) ρ1
  | none => False) ρ
theorem frzN {f : List D → Env → Prop} {tl : TL} {k : List V → Hp → Prop} (R0 : Rep K c o σ H ρ τ) (h : tFrz tl f ρ)
    (q : ∀ vs H' o' ds ρ', Le o H o' H' → Rep K c o' σ H' ρ' τ → Dats K o' H' vs ds → f ds ρ' → k vs H') : TAo K c tl σ H k := by
  refine ⟨o, ρ, τ, _, R0, h, fun v H1 o1 r ρ1 τ1 L1 R1 z1 h1 => ?_⟩
  split at h1
  · rename_i ds ρ2 e
    have R2 := R1.drop z1.pre
    have els := z1.els (ρ0 := ρ1) (base := τ.length) (Nat.le_refl _) (fun j v m e => (R1.tm j v m e).1)
    obtain ⟨o', L, R3, dd⟩ := froz_ok R2 els e
    exact q v H1 o' _ ρ2 (L1.trans ((dropT_le _).trans L)) R3 dd h1
  · exact h1.elim
theorem Kvs.putAll {κ : Type} [DecidableEq κ] {ks ls : List (κ × V)} {kvs lvs : List (κ × D)} (h : Kvs K o H ks kvs) (g : Kvs K o H ls lvs) : Kvs K o H (ls.foldl (fun acc kv => putK acc kv.1 kv.2) ks) (Y.putAll kvs lvs) := by
  unfold Kvs at g
  induction g generalizing ks kvs with
  | nil => exact h
  | @cons p q ps qs a t ih =>
    have e : Kvs K o H (putK ks p.1 p.2) (putD kvs q.1 q.2) := by rw [← a.1]; exact h.put p.1 a.2
    exact ih e
theorem dspK_pairs : ∀ {vs : List V} {ds : List D} {kvs : List (Key × D)}, Dats K o H vs ds → pairG D.key? ds = some kvs → ∃ ks : List (Key × V), pairUp vs = ks.map (fun kv => (kV kv.1, kv.2)) ∧ Kvs K o H ks kvs ∧ ks.length = kvs.length
  | _, [], _, .nil, e => by simp [pairG] at e; subst e; exact ⟨[], rfl, .nil, rfl⟩
  | _, [_], _, .cons _ .nil, e => by simp [pairG] at e
  | _, k :: d :: r, _, .cons a (.cons b t), e => by
    unfold pairG at e
    split at e
    · rename_i k' kvs e1 e2
      cases e
      obtain ⟨ks, h1, h2, h3⟩ := dspK_pairs t e2
      refine ⟨(k', _) :: ks, ?_, .cons ⟨rfl, b⟩ h2, by simp [h3]⟩
      rw [a.key e1]
      simp only [pairUp, List.map_cons, h1]
    · cases e
theorem le_of_upd {p : Addr} {u w : HO} {o1 : Own} {H1 : Hp} (hp : H p = none) (mu : ∀ a l, o a = some l → Mut (H a)) (L : Le (fun b => if b = p then some (.t τ.length) else o b) (upd H p u) o1 H1) : Le o H o1 H1 := by
  have ne : ∀ b w, H b = some w → b ≠ p := fun b w e => ne_of_none e hp
  refine ⟨fun b w e f => L.keep b w (by show (if b = p then _ else o b) = none; rw [if_neg (ne b w f)]; exact e) (by rw [upd_ne (ne b w f)]; exact f), fun b e => ?_⟩
  obtain ⟨w, q⟩ := mut_some (mu b _ e)
  obtain ⟨e1, e2⟩ := L.ext b (by show (if b = p then _ else o b) = _; rw [if_neg (ne b w q)]; exact e)
  exact ⟨e1, e2.trans (upd_ne (ne b w q))⟩
section
variable {keys : List (Option Expr)} {values : List Expr} {pos : Pos} {tl : TL}
theorem de_dspK (h : DPs X c pos keys values tl) (hall : keys.all (·.isSome) = true := by rfl) (hl : keys.length = values.length := by rfl) (h0 : keys ≠ [] := by exact List.cons_ne_nil _ _) (h15 : keys.length ≤ 15 := by decide) : DE X c (.Dict keys values pos) (tDspK tl) := by
  obtain ⟨trs, h1, h2⟩ := h
  refine peImp (pe_disp h1 hall hl h0 h15) fun σ H k ⟨o, ρ, τ, Q, R0, h, q⟩ => fun p hp => ?_
  obtain ⟨R1, L1⟩ := R0.push (m := .dk []) (u := .dK []) hp trivial rfl ⟨p, [], rfl, by simp, upd_same, .nil⟩
  refine h2 _ _ _ (frzN R1 h fun vs H2 o2 ds ρ2 L2 R2 dd hf => ?_)
  split at hf
  · rename_i kvs e
    obtain ⟨ks, e1, kk, kl⟩ := dspK_pairs dd e
    obtain ⟨⟨a, xs, ea, ho, hH, hx⟩, _⟩ := R2.tm τ.length (.ref p) (.dk []) (by simp)
    cases ea
    cases hx
    refine ⟨hH, ks, e1, by rw [kl]; exact hf.1, ?_⟩
    have L3 : Le o2 H2 o2 (upd H2 p (.dK (mergeK [] ks))) := ⟨fun b w q f => ⟨q, by rw [upd_ne (fun z => by subst z; rw [ho] at q; cases q)]; exact f⟩, fun b q => ⟨q, upd_ne (fun z => by subst z; rw [ho] at q; cases q)⟩⟩
    obtain ⟨R3, L3⟩ := R2.mutT (m := .dk (putAll [] kvs)) (u := .dK (mergeK [] ks)) ho trivial rfl ⟨p, _, rfl, ho, upd_same, Kvs.mono L3 (Kvs.putAll .nil kk)⟩
    exact q _ _ o2 (.tm _) ρ2 _ (L1.trans (L2.trans L3)) R3 rfl hf.2
  · exact hf.elim

/-- {(..): v, ..}; the new dict stands empty while the pairs are made -/
def mergeT (kvs more : List (List Key × V)) : List (List Key × V) := more.foldl (fun acc kv => putK acc kv.1 kv.2) kvs
def tDispT (trs : List (TE × TE)) : TE := fun σ H Q => ∀ p, H p = none → tPairs trs σ (upd H p (.dT [])) fun ps H2 => H2 p = some (.dT []) ∧ ∃ kvs : List (List Key × V), Paired (fun (x : V × V) (y : List Key × V) => ∃ b, x = (V.ref b, y.2) ∧ H2 b = some (.tup (y.1.map kV))) ps kvs ∧ kvs.length ≤ 15 ∧
  Q (.ref p) (upd H2 p (.dT (mergeT [] kvs)))
theorem carriesT {P : Program} {w : World} {h : Heap} (ok : HOk P w H h) {ps : List (V × V)} {kvs : List (List Key × V)} (hp : Paired (fun (x : V × V) (y : List Key × V) => ∃ b, x = (V.ref b, y.2) ∧ H b = some (.tup (y.1.map kV))) ps kvs) : ∀ {ws : List (Value × Value)}, VV ps ws → ∃ rs, CarriesH (tupleKind (mixKind P w)) h ws rs ∧ KT H kvs rs := by
  induction hp with
  | nil => intro ws r; cases r; exact ⟨[], trivial, .nil⟩
  | @cons x y xs ys a t ih =>
    intro ws r
    cases r with
    | @cons _ w1 _ ws h1 h2 =>
      obtain ⟨rs, c1, c2⟩ := ih h2
      obtain ⟨b, rfl, hb⟩ := a
      obtain ⟨k1, k2⟩ := w1
      have e : k1 = Value.ref b := h1.1
      subst e
      exact ⟨(y.1, b, k2) :: rs, ⟨rfl, rfl, key_of ok hb, c1⟩, .cons ⟨rfl, hb, h1.2⟩ c2⟩
theorem KT.merge {kvs : List (List Key × V)} {xs : List (List Key × Addr × Value)} (r : KT H kvs xs) : ∀ {more : List (List Key × V)} {rs : List (List Key × Addr × Value)}, KT H more rs → KT H (mergeT kvs more) (storedAllH xs rs) := by
  intro more rs g
  induction g generalizing kvs xs with
  | nil => exact r
  | @cons p q ps qs a t ih =>
    have e : KT H (putK kvs p.1 p.2) (storedH xs q.1 q.2.1 q.2.2) := by rw [← a.1]; exact r.put p.1 a.2.1 a.2.2
    exact ih e
theorem length_mergeT (more : List (List Key × V)) : ∀ kvs : List (List Key × V), (mergeT kvs more).length ≤ kvs.length + more.length := by
  induction more with
  | nil => exact fun kvs => Nat.le_refl kvs.length
  | cons p r ih =>
    intro kvs
    refine Nat.le_trans (ih (putK kvs p.1 p.2)) ?_
    have := length_putK kvs p.1 p.2
    simp only [List.length_cons]; omega
/-- a dict with tuple keys is written anew -/
theorem dt_write {pins : List (Addr × Obj)} {σ : St} {s : Shared} {a : Addr} {k0 ks : List (List Key × V)} {rs : List (List Key × Addr × Value)} {h' : Heap} {tk : Tok} (I : Inv X pins σ H s) (e : H a = some (.dT k0))
    (hz : ks.length ≤ sizeLine) (rk : KT H ks rs) (hs : Heap.SameBut a s.heap h') (dd : h'.DictOfH (tupleKind (mixKind X.prog X.w)) a rs) : Inv X pins σ (upd H a (.dT ks)) { s with heap := h', toks := tk } := by
  have up : KT (upd H a (.dT ks)) ks rs := rk.keeps fun c ys z => (upd_ne fun w => by rw [w, e] at z; cases z).trans z
  obtain ⟨ob, es, ep, g1, g2, g3, g4, _, g5⟩ := dd
  exact d_write I (by rw [e]; trivial) hs ⟨ob, g1⟩ ⟨hz, (dt_of I.hok e).2.1, rs, up, ob, es, ep, g1, g2, g3, g4, g5⟩
theorem pe_dispT {trs : List (TE × TE)} (hu : X.A.units + 1 < cLine) (h : PPs X pos keys values trs) (hall : keys.all (·.isSome) = true) (hl : keys.length = values.length) (h0 : keys ≠ [])
    (h15 : keys.length ≤ 15) : PE X (.Dict keys values pos) (tDispT trs) := by
  constructor
  intro pins s σ H Q I q
  have I1 := I.laid (a := s.heap.objs.size) (o := .dT []) (h' := s.heap.push { cls := .type "dict", data := .dict #[] }) (t' := s.toks) (fun _ _ q => Heap.get?_push_of_some _ q) (Nat.le_refl _) (dt_empty s.heap I.big)
  have hpl := pairTrees_length keys values X.env pos hall hl
  have hne : pairTrees keys values X.env pos ≠ [] := fun he => h0 (List.length_eq_zero_iff.mp (by rw [← hpl, he]; rfl))
  rw [arm_eval_Dict, zip_pairTrees keys values X.env pos hall hl, dictDisplay_pairs _ hne (by omega)]
  refine wpAny_bind (wpAny_standAt (wpAny_bind (wpAny_subDictH (knd := tupleKind (mixKind X.prog X.w)) (by show X.A.units < cLine; omega) (by omega) (thn (h.run pins _ σ _ _ I1 (q _ (I.hok.fresh (Nat.le_refl _)))) ?_))))
  rintro ws s2 ⟨ps, H2, I2, rel, e, kvs, ep, lk, q2⟩
  obtain ⟨rs, cr, rk⟩ := carriesT I2.hok ep rel
  obtain ⟨_, _, _, r0, d0⟩ := dt_of I2.hok e
  cases r0
  refine ⟨rs, cr, d0, fun h' tk dd' hs => wpAny_pure ⟨.ref s.heap.objs.size, _, dt_write I2 e ?_ (KT.merge .nil rk) hs dd', rfl, q2⟩⟩
  have := length_mergeT kvs []
  rw [sizeLine_eq]; simp only [List.length_nil] at this; omega
theorem dspT_pairs : ∀ {vs : List V} {ds : List D} {kvs : List (List Key × D)}, Dats K o H vs ds → pairG D.tkey? ds = some kvs → ∃ ks : List (List Key × V), Paired (fun (x : V × V) (y : List Key × V) => ∃ b, x = (V.ref b, y.2) ∧ H b = some (.tup (y.1.map kV))) (pairUp vs) ks ∧ Kvs K o H ks kvs ∧ ks.length = kvs.length
  | _, [], _, .nil, e => by simp [pairG] at e; subst e; exact ⟨[], .nil, .nil, rfl⟩
  | _, [_], _, .cons _ .nil, e => by simp [pairG] at e
  | _, k :: d :: r, _, .cons a (.cons b t), e => by
    unfold pairG at e
    split at e
    · rename_i k' kvs e1 e2
      cases e
      obtain ⟨ks, h1, h2, h3⟩ := dspT_pairs t e2
      unfold D.tkey? at e1
      split at e1
      · cases a with
        | tup tt rr =>
          refine ⟨(k', _) :: ks, .cons ⟨_, rfl, ?_⟩ h1, .cons ⟨rfl, b⟩ h2, by simp [h3]⟩
          rw [← rr.keys e1]; exact tt.2
      · cases e1
    · cases e
theorem de_dspT (hu : X.A.units + 1 < cLine) (h : DPs X c pos keys values tl) (hall : keys.all (·.isSome) = true := by rfl) (hl : keys.length = values.length := by rfl) (h0 : keys ≠ [] := by exact List.cons_ne_nil _ _) (h15 : keys.length ≤ 15 := by decide) : DE X c (.Dict keys values pos) (tDspT tl) := by
  obtain ⟨trs, h1, h2⟩ := h
  refine peImp (pe_dispT hu h1 hall hl h0 h15) fun σ H k ⟨o, ρ, τ, Q, R0, h, q⟩ => fun p hp => ?_
  obtain ⟨R1, L1⟩ := R0.push (m := .dt []) (u := .dT []) hp trivial rfl ⟨p, [], rfl, by simp, upd_same, .nil⟩
  refine h2 _ _ _ (frzN R1 h fun vs H2 o2 ds ρ2 L2 R2 dd hf => ?_)
  split at hf
  · rename_i kvs e
    obtain ⟨ks, e1, kk, kl⟩ := dspT_pairs dd e
    obtain ⟨⟨a, xs, ea, ho, hH, hx⟩, _⟩ := R2.tm τ.length (.ref p) (.dt []) (by simp)
    cases ea
    cases hx
    refine ⟨hH, ks, e1, by rw [kl]; exact hf.1, ?_⟩
    have L3 : Le o2 H2 o2 (upd H2 p (.dT (mergeT [] ks))) := ⟨fun b w q f => ⟨q, by rw [upd_ne (fun z => by subst z; rw [ho] at q; cases q)]; exact f⟩, fun b q => ⟨q, upd_ne (fun z => by subst z; rw [ho] at q; cases q)⟩⟩
    obtain ⟨R3, L3⟩ := R2.mutT (m := .dt (putAll [] kvs)) (u := .dT (mergeT [] ks)) ho trivial rfl ⟨p, _, rfl, ho, upd_same, Kvs.mono L3 (Kvs.putAll .nil kk)⟩
    exact q _ _ o2 (.tm _) ρ2 _ (L1.trans (L2.trans L3)) R3 rfl hf.2
  · exact hf.elim
end
end
end Y
namespace Y
open PySem PySem.Spec L2
/-! ### the plain side: one statement at a time, what follows kept folded -/
theorem seq_step {t u : TSX} {P : EndP} {ρ : Env} (h : ∀ R, R = u P → t { P with nx := R } ρ) : sSeq t u P ρ := h _ rfl
theorem loop_step {b : Bd} {t : TSX} {gd : Env → Prop} {P : EndP} {d : D} {ds : List D} {ρ : Env} (g : gd ρ) (h : ∀ L, L = loopS b t gd P ds → bnd b d ρ fun ρ1 => t { P with nx := L, ct := L, bk := P.nx } ρ1) : loopS b t gd P (d :: ds) ρ := ⟨g, h _ rfl⟩
theorem while_step {q : TQ} {t : TSX} {P : EndP} {n : Nat} {ρ : Env} (h : ∀ L, L = whileS q t P n → q ρ fun b ρ1 => if b = true then t { P with nx := L, ct := L, bk := P.nx } ρ1 else P.nx ρ1) : whileS q t P (n + 1) ρ := h _ rfl
theorem comp_step {b : Bd} {tq : TQ} {te : TX} {vs : List Nat} {gd : Env → Prop} {k : List D → Env → Prop} {d : D} {ds acc : List D} {ρ : Env} (g : gd ρ) (h : ∀ L, L = compL b tq te vs gd k ds → bnd b d ρ fun ρ1 => tq ρ1 fun ok ρ2 =>
    if ok = true then tFrz (lCons te lNil) (fun xs ρ3 => match xs with
      | [x] => acc.length < sizeLine ∧ L (acc ++ [x]) (wipeE ρ3 vs)
      | _ => False) ρ2
    else L acc (wipeE ρ2 vs)) : compL b tq te vs gd k (d :: ds) acc ρ := ⟨g, h _ rfl⟩
/-! what a call leaves in a slot -/
theorem putS_lo_ls_ls {a : List D} {b : List D} : putS (some (.ls b)) (some (.lo (.ls a))) = some (.lo (.ls b)) := rfl
theorem putS_lo_ls_dk {a : List D} {b : List (Key × D)} : putS (some (.dk b)) (some (.lo (.ls a))) = some (.lo (.dk b)) := rfl
theorem putS_lo_ls_dt {a : List D} {b : List (List Key × D)} : putS (some (.dt b)) (some (.lo (.ls a))) = some (.lo (.dt b)) := rfl
theorem putS_lo_ls_no {a : List D} : putS none (some (.lo (.ls a))) = some .no := rfl
theorem putS_pa_ls_ls {a : List D} {b : List D} : putS (some (.ls b)) (some (.pa (.ls a))) = some (.pa (.ls b)) := rfl
theorem putS_pa_ls_dk {a : List D} {b : List (Key × D)} : putS (some (.dk b)) (some (.pa (.ls a))) = some (.pa (.dk b)) := rfl
theorem putS_pa_ls_dt {a : List D} {b : List (List Key × D)} : putS (some (.dt b)) (some (.pa (.ls a))) = some (.pa (.dt b)) := rfl
theorem putS_pa_ls_no {a : List D} : putS none (some (.pa (.ls a))) = some .no := rfl
theorem putS_lo_rd_ls {a : List D} {b : List D} : putS (some (.ls b)) (some (.lo (.rd a))) = some (.lo (.ls b)) := rfl
theorem putS_lo_rd_dk {a : List D} {b : List (Key × D)} : putS (some (.dk b)) (some (.lo (.rd a))) = some (.lo (.dk b)) := rfl
theorem putS_lo_rd_dt {a : List D} {b : List (List Key × D)} : putS (some (.dt b)) (some (.lo (.rd a))) = some (.lo (.dt b)) := rfl
theorem putS_lo_rd_no {a : List D} : putS none (some (.lo (.rd a))) = some .no := rfl
theorem putS_pa_rd_ls {a : List D} {b : List D} : putS (some (.ls b)) (some (.pa (.rd a))) = some (.pa (.ls b)) := rfl
theorem putS_pa_rd_dk {a : List D} {b : List (Key × D)} : putS (some (.dk b)) (some (.pa (.rd a))) = some (.pa (.dk b)) := rfl
theorem putS_pa_rd_dt {a : List D} {b : List (List Key × D)} : putS (some (.dt b)) (some (.pa (.rd a))) = some (.pa (.dt b)) := rfl
theorem putS_pa_rd_no {a : List D} : putS none (some (.pa (.rd a))) = some .no := rfl
theorem putS_lo_dk_ls {a : List (Key × D)} {b : List D} : putS (some (.ls b)) (some (.lo (.dk a))) = some (.lo (.ls b)) := rfl
theorem putS_lo_dk_dk {a : List (Key × D)} {b : List (Key × D)} : putS (some (.dk b)) (some (.lo (.dk a))) = some (.lo (.dk b)) := rfl
theorem putS_lo_dk_dt {a : List (Key × D)} {b : List (List Key × D)} : putS (some (.dt b)) (some (.lo (.dk a))) = some (.lo (.dt b)) := rfl
theorem putS_lo_dk_no {a : List (Key × D)} : putS none (some (.lo (.dk a))) = some .no := rfl
theorem putS_pa_dk_ls {a : List (Key × D)} {b : List D} : putS (some (.ls b)) (some (.pa (.dk a))) = some (.pa (.ls b)) := rfl
theorem putS_pa_dk_dk {a : List (Key × D)} {b : List (Key × D)} : putS (some (.dk b)) (some (.pa (.dk a))) = some (.pa (.dk b)) := rfl
theorem putS_pa_dk_dt {a : List (Key × D)} {b : List (List Key × D)} : putS (some (.dt b)) (some (.pa (.dk a))) = some (.pa (.dt b)) := rfl
theorem putS_pa_dk_no {a : List (Key × D)} : putS none (some (.pa (.dk a))) = some .no := rfl
theorem putS_lo_dt_ls {a : List (List Key × D)} {b : List D} : putS (some (.ls b)) (some (.lo (.dt a))) = some (.lo (.ls b)) := rfl
theorem putS_lo_dt_dk {a : List (List Key × D)} {b : List (Key × D)} : putS (some (.dk b)) (some (.lo (.dt a))) = some (.lo (.dk b)) := rfl
theorem putS_lo_dt_dt {a : List (List Key × D)} {b : List (List Key × D)} : putS (some (.dt b)) (some (.lo (.dt a))) = some (.lo (.dt b)) := rfl
theorem putS_lo_dt_no {a : List (List Key × D)} : putS none (some (.lo (.dt a))) = some .no := rfl
theorem putS_pa_dt_ls {a : List (List Key × D)} {b : List D} : putS (some (.ls b)) (some (.pa (.dt a))) = some (.pa (.ls b)) := rfl
theorem putS_pa_dt_dk {a : List (List Key × D)} {b : List (Key × D)} : putS (some (.dk b)) (some (.pa (.dt a))) = some (.pa (.dk b)) := rfl
theorem putS_pa_dt_dt {a : List (List Key × D)} {b : List (List Key × D)} : putS (some (.dt b)) (some (.pa (.dt a))) = some (.pa (.dt b)) := rfl
theorem putS_pa_dt_no {a : List (List Key × D)} : putS none (some (.pa (.dt a))) = some .no := rfl
theorem putS_lo_im {a : D} {f : Option M} : putS f (some (.lo (.im a))) = none := rfl
theorem putS_lo_sq {a : List D} {f : Option M} : putS f (some (.lo (.sq a))) = none := rfl
theorem putS_pa_im {a : D} {f : Option M} : putS f (some (.pa (.im a))) = none := rfl
theorem putS_pa_sq {a : List D} {f : Option M} : putS f (some (.pa (.sq a))) = none := rfl
theorem gRng_zero (lo : Int) : gRng lo 0 = [] := rfl
theorem gRng_succ (lo : Int) (n : Nat) : gRng lo (n + 1) = .int lo :: gRng (lo + 1) n := by
  unfold gRng
  rw [List.range_succ_eq_map, List.map_cons, List.map_map]
  congr 1
  · simp
  · apply List.map_congr_left; intro i _; simp; omega
/-- small factors -/
theorem log2_lt {i : Int} (k : Nat) (h1 : -(2 ^ k) < i) (h2 : i < 2 ^ k) (hk : 0 < k) : i.natAbs.log2 < k := by
  by_cases z : i.natAbs = 0
  · rw [z]; simpa using hk
  · rw [Nat.log2_lt z]
    have e : ((2 : Int) ^ k) = ((2 ^ k : Nat) : Int) := by norm_cast
    rw [e] at h1 h2
    omega
theorem cMul {i j : Int} (a : -(2 ^ 64) < i ∧ i < 2 ^ 64) (b : -(2 ^ 64) < j ∧ j < 2 ^ 64) : CMulW i j := by
  have h1 := log2_lt 64 a.1 a.2 (by decide)
  have h2 := log2_lt 64 b.1 b.2 (by decide)
  unfold CMulW; omega
theorem cDiv {i j : Int} (b : 0 < j ∧ j < 2 ^ 64) : CDivW i j := by
  have h2 := log2_lt (i := j) 64 (by omega) b.2 (by decide)
  exact ⟨b.1, by omega⟩
/-- an index that stands -/
theorem atI_ok {α : Type} {xs : List α} {i : Int} (h0 : 0 ≤ i) (h : i < xs.length) : ∃ x, atI xs i = some x ∧ xs[i.toNat]? = some x := by
  refine ⟨xs[i.toNat]'(by omega), ?_, List.getElem?_eq_getElem (by omega)⟩
  unfold atI ixN
  rw [if_pos h0, if_pos h]
  exact List.getElem?_eq_getElem (by omega)
theorem ixN_ok {n : Nat} {i : Int} (h0 : 0 ≤ i) (h : i < n) : ixN n i = some i.toNat := by unfold ixN; rw [if_pos h0, if_pos h]
theorem atI_map {α β : Type} (f : α → β) (xs : List α) (i : Int) : atI (xs.map f) i = (atI xs i).map f := by
  unfold atI
  rw [List.length_map]
  cases ixN xs.length i with
  | none => rfl
  | some j => exact List.getElem?_map

/-! ### comprehensions that leave the environment as it is -/
theorem comp_fix {α : Type} {b : Bd} {tq : TQ} {te : TX} {vs : List Nat} {gd : Env → Prop} {k : List D → Env → Prop} {ρ : Env} (g : α → D) (f : α → Option D) (hg : gd ρ) : ∀ (xs : List α) (acc : List D),
    (∀ x ∈ xs, ∀ (acc : List D) (L : List D → Env → Prop), acc.length < sizeLine → (match f x with
      | some y => L (acc ++ [y]) ρ
      | none => L acc ρ) → bnd b (g x) ρ fun ρ1 => tq ρ1 fun ok ρ2 => if ok = true then tFrz (lCons te lNil) (fun xs ρ3 => match xs with
        | [x] => acc.length < sizeLine ∧ L (acc ++ [x]) (wipeE ρ3 vs)
        | _ => False) ρ2 else L acc (wipeE ρ2 vs)) →
    acc.length + xs.length ≤ sizeLine → k (acc ++ xs.filterMap f) ρ → compL b tq te vs gd k (xs.map g) acc ρ := by
  intro xs
  induction xs with
  | nil => intro acc _ _ h; rw [List.filterMap_nil, List.append_nil] at h; exact ⟨hg, h⟩
  | cons x xs ih =>
    intro acc st hl h
    rw [List.length_cons] at hl
    refine ⟨hg, st x List.mem_cons_self acc _ (by omega) ?_⟩
    cases e : f x with
    | some y =>
      refine ih _ (fun z hz => st z (List.mem_cons_of_mem _ hz)) (by rw [List.length_append, List.length_singleton]; omega) ?_
      rw [List.filterMap_cons, e] at h
      rw [List.append_assoc]; exact h
    | none =>
      refine ih _ (fun z hz => st z (List.mem_cons_of_mem _ hz)) (by omega) ?_
      rw [List.filterMap_cons, e] at h
      exact h
end Y
namespace Y
open PySem PySem.Spec L2
/-! ### the law's def, called with a list of ints -/
theorem hsp_of {F : TF} (hF : ∀ (ns : List Int) (G : M → List (Option M) → Prop), ns.length ≤ 63 → (∀ fin, G (.im (.bl true)) fin) → F [.sq (ns.map D.int)] G) (K : PySem.W.Frag) (H : Hp) (a : Addr) (ns : List Int) (hl : ns.length ≤ 63) (_ : Only H) (hS : SqL K H a (ns.map V.int)) :
    spD K F 1 [.ref a] H (fun v _ => v = .bl true) fun _ _ _ => False := by
  refine ⟨fun _ => none, [.sq (ns.map D.int)], fun m _ => m = .im (.bl true), rfl, ⟨rfl, fun i v m e1 e2 => ?_, fun a l e => by cases e⟩, hF ns _ hl fun _ => rfl, fun v H' o' m fin _ _ i _ e => ?_⟩
  · cases i with
    | zero =>
      cases e1; cases e2
      refine ⟨a, ns.map V.int, rfl, ?_, Dats.of_ints ns⟩
      rcases hS with h | h
      · exact .inl ⟨.inl rfl, h⟩
      · exact .inr h
    | succ i => simp at e1
  · subst e
    cases (show Dat K o' H' v (.bl true) from i)
    rfl
theorem walkY {l : PySem.W.OpenLaw} {q : Program} {loose : List Str} {XP : (Str → Option Value) → Heap → Prop} {YP : World → Heap → Prop} {d : DefRec} {K : Params → PySem.W.Frag} {F : TF} (hn : l.most = some 63) (hdf : d.params.defaults = [])
    (hF : ∀ (ns : List Int) (G : M → List (Option M) → Prop), ns.length ≤ 63 → (∀ fin, G (.im (.bl true)) fin) → F [.sq (ns.map D.int)] G)
    (hY : ∀ (w : World) (h : Heap), YP w h → (K w.params).In h)
    (Fk : ∀ (w : World) (mg : Str → Option Value) (fa : Addr) (h : Heap), (K w.params).In h → h.Ns mainGlobals mg → mg d.name = some (.ref fa) →
      ∃ fd : FuncData, (∀ (s : Shared) (u : Value), BindsTo s fd ⟨[u], []⟩ [("script", u)]) ∧ ∀ base : Heap, (K w.params).In base → base.Ns mainGlobals mg → FnOk l.prog w (K w.params) mg base CX0 65 fa fd ["script"] (spD (K w.params) F 1)) :
    PySem.W.WalkO q loose XP YP l.row.toRowW d [] (fun f vs => PySem.call f vs) :=
  L2.walk_of (n := 63) (k := 65) (x := "script") (CX := fun _ => CX0) (sp := fun w => spD (K w.params) F 1) hn (by decide) hdf ⟨rfl, by decide, by decide⟩ hY Fk (fun w H a ns h1 h2 h3 => hsp_of hF (K w.params) H a ns h1 h2 h3) fun _ _ _ _ _ z => z
/-- a promise that nobody calls on -/
theorem fn_never {Pg : Program} {w : World} {K : PySem.W.Frag} {mg : Str → Option Value} {base : Heap} {name : Str} {st : Stmt} {ps : List Str} {Df : DefAt K mg name st ps} {k : Nat} {F : TF} (h : ∀ ms G, ¬ F ms G) : FnD Pg w K mg base Df k F :=
  ⟨fun vs H Q E ⟨o, ms, G, hl, _⟩ => hl, fun A outer s H args us vs Q E _ _ _ _ ⟨o, ms, G, _, _, hf, _⟩ => (h ms G hf).elim⟩
end Y
namespace Y
open PySem PySem.Spec L2
/-! ### enumerate(t), t anything that the library knows how to begin -/
set_option maxHeartbeats 2000000 in
theorem enum_newV {v : Value} {o : Obj} {H : Heap → Prop} (B : Begins v o H) :
    Meets (Builtin.«enumerate.__new__» ⟨[.type "enumerate", v], []⟩) (fun _ R s => H s.heap ∧
      R (.ok (.ret (.ref (s.heap.push o).objs.size))) { s with heap := (s.heap.push o).push { cls := .type "enumerate", data := .fields #[.none, .bool false, .ref s.heap.objs.size, rawInt 0, .none, .none] } }) := by
  refine .of_wp fun prog w A R st hyp => ?_
  obtain ⟨heap, gens, drawn, toks, os⟩ := st
  obtain ⟨pre, post⟩ := hyp
  have hsub := sub_enumerate
  have start : ∀ {A2 : Around} {X2 Q2 : Value → Shared → Prop}, Q2 (.ref heap.objs.size) ⟨heap.push o, gens, drawn, toks, os⟩ →
      wpAny (model prog w) A2 (pyIter v) Q2 X2 ⟨heap, gens, drawn, toks, os⟩ := fun {A2 X2 Q2} k => B.iter prog w A2 X2 _ Q2 pre k
  wp_walk
  apply wpAny_stack_any
  intro stack
  apply wpAny_pure
  split
  case h_1 c _ _ _ _ _ => cases hc : (c == Value.type "enumerate") <;> (wp_walk using start; exact ⟨_, rfl, post⟩)
  all_goals (wp_walk using start; exact ⟨_, rfl, post⟩)
theorem enum_callV {prog : Program} {w : World} {A : Around} {E Q : Value → Shared → Prop} {s : Shared} {v : Value} {o : Obj} {H : Heap → Prop} (B : Begins v o H) (pre : H s.heap)
    (k : ∀ h', IsEnum h' (s.heap.objs.size + 1) s.heap.objs.size 0 .none → h'.get? s.heap.objs.size = some o → h'.objs.size = s.heap.objs.size + 2 →
      (∀ b u, s.heap.get? b = some u → h'.get? b = some u) → Q (.ref (s.heap.objs.size + 1)) { s with heap := h' }) : wpAny (model prog w) A (call (.type "enumerate") [v]) Q E s := by
  have n1 : (s.heap.push o).objs.size = s.heap.objs.size + 1 := by rw [Heap.size_push]
  refine callType_new F.called_enumerate (by decide) (F.typeCall_enumerate_1 v) (F.newCall_enumerate_1 v) (fun ob => F.args_object_init_2 ob v) F.entry_enumerate_new (enum_newV B) ⟨pre, ?_⟩
  generalize hcell : ({ cls := .type "enumerate", data := .fields #[.none, .bool false, .ref s.heap.objs.size, rawInt 0, .none, .none] } : Obj) = cell
  have free : cell.isFreed = false := by rw [← hcell]; rfl
  have at1 : ((s.heap.push o).push cell).get? (s.heap.objs.size + 1) = some cell := by rw [← n1]; exact Heap.get?_push_size _ free
  have isE : IsEnum ((s.heap.push o).push cell) (s.heap.objs.size + 1) s.heap.objs.size 0 .none := by rw [← hcell] at at1 ⊢; exact at1
  show _ ∧ Q (.ref (s.heap.push o).objs.size) _
  rw [n1]
  exact ⟨⟨cell, at1, by rw [← hcell]⟩, k _ isE (Heap.get?_push_of_some _ (Heap.get?_push_size s.heap B.free)) (by rw [Heap.size_push, n1]) fun b u hb => Heap.get?_push_of_some _ (Heap.get?_push_of_some _ hb)⟩
/-- the tuple at a: each item in a new pair -/
def IteT (K : PySem.W.Frag) (a : Addr) : It where
  go := fun i H => ∃ (xs : List V) (x : V), SqT K H a xs ∧ xs[i]? = some x
  yld := fun i H v H' => ∃ T x, v = .ref T ∧ H T = none ∧ H' = upd H T (.tup [.int (i : Nat), x]) ∧ ∀ xs, SqT K H a xs → xs[i]? = some x
  stop := fun i H => ∃ xs : List V, SqT K H a xs ∧ xs.length = i
/-- how the two new objects stand at the i-th turn -/
def EnT (a e it : Addr) (i : Nat) (h : Heap) : Prop := (∃ old, IsEnum h e it ((i : Nat) : Int) old) ∧ h.IsTupleIter it a i ∧ e ≠ it ∧ a ≠ it ∧ a ≠ e
theorem EnT.keep {a e it : Addr} {i : Nat} {h h' : Heap} (z : EnT a e it i h) (k : ∀ b, b = e ∨ b = it → ∀ u, h.get? b = some u → h'.get? b = some u) : EnT a e it i h' := by
  obtain ⟨⟨old, z1⟩, z2, z3⟩ := z
  exact ⟨⟨old, k e (.inl rfl) _ z1⟩, z2.at fun u => k it (.inr rfl) u, z3⟩
theorem EnT.objs {a e it : Addr} {i : Nat} {h : Heap} (z : EnT a e it i h) : (∃ u, h.get? e = some u ∧ ∀ v, u.data ≠ .cell v) ∧ ∃ u, h.get? it = some u ∧ ∀ v, u.data ≠ .cell v := by
  obtain ⟨⟨old, z1⟩, ⟨u, z2, _, z4⟩, _⟩ := z
  refine ⟨⟨_, z1, fun v => by simp⟩, u, z2, fun v q => by rw [z4] at q; cases q⟩
theorem turn_enumT {P : Program} {w : World} {K : PySem.W.Frag} {elts : List Expr} {kk : Nat} {tpos : Pos} (a e it : Addr) : Turn P w K (.Tuple elts kk tpos) (IteT K a) [e, it] e (EnT a e it) := by
  refine ⟨by simp, fun i h z b hb => ?_, fun i h h' z k => z.keep fun b hb => k b (by simpa using hb), ?_, ?_, fun A i s Q E z q => z.1.elim fun old z1 => wpAny_pyIter_enum z1 q⟩
  · rcases List.mem_cons.mp hb with rfl | hb
    · exact z.objs.1
    · rw [List.mem_singleton.mp hb]; exact z.objs.2
  · rintro X rfl rfl rfl calm i pins s σ H E I own z ⟨xs, x, sq, at_⟩
    obtain ⟨⟨old, z1⟩, z2, ne, ai, ae⟩ := z
    obtain ⟨items, rel, tup, _⟩ := I.tuple sq
    obtain ⟨u, hu, ru⟩ := rel.get at_
    have ilt : i < items.toArray.size := by have := (List.getElem?_eq_some_iff.mp hu).1; simpa using this
    have W := WalksT.enumerateD (Draws.tuple (prog := X.prog) (w := X.w) (A := X.A.in1) (I.ok.hd calm) it a ai items.toArray) e ne (by simp [ne, ae.symm]) (by simp)
    refine W.item i s _ E ilt ⟨⟨old, z1⟩, z2, tup⟩ fun T vals h1 tk ⟨t, y, hy, hv⟩ hT isT mid kp1 => ?_
    have yu : y = u := by
      have : items[i]? = some y := by simpa using hy
      exact Option.some.inj (this.symm.trans hu)
    subst hv yu
    refine ⟨_, rfl, W.go elts kk tpos i T { s with heap := h1, toks := tk } _ E mid fun h2 st2 kp2 => ?_⟩
    have Tn : T ∉ [e, it] := W.apart i T h1 mid
    obtain ⟨ob, o1, o2, o3⟩ := isT
    have T2 : h2.IsTuple T #[.int i t, y] := ⟨ob, kp2 T ob Tn o1, o2, o3⟩
    have kp : ∀ b u, b ∉ [e, it] → s.heap.get? b = some u → h2.get? b = some u := fun b u hb q => kp2 b u hb (kp1 b u hb q)
    have made : ObjOk X.prog X.w (upd H T (.tup [.int (i : Nat), x])) h2 T (.tup [.int (i : Nat), x]) := ⟨by show 2 ≤ sizeLine; decide, _, .cons ⟨t, rfl⟩ (.cons ru .nil), T2⟩
    have I2 := I.turnedNew (t' := tk) (ch := [e, it]) (fun b u hb q => kp b u hb q) own hT made
    obtain ⟨⟨old2, e2⟩, i2, _⟩ := st2
    refine ⟨.ref T, _, I2, rfl, ⟨T, x, rfl, I.hok.fresh hT, rfl, fun ys hs => I.tuple_inj sq hs ▸ at_⟩, ⟨⟨old2, e2⟩, i2, ne, ai, ae⟩, fun b hb => ?_⟩
    have bT : b ≠ T := fun q => Tn (q ▸ hb)
    rw [upd_ne bT]
    exact (own b hb).1
  · rintro X rfl rfl rfl calm i pins s σ H E I own z ⟨xs, sq, rfl⟩
    obtain ⟨⟨old, z1⟩, z2, ne, ai, ae⟩ := z
    obtain ⟨items, rel, tup, _⟩ := I.tuple sq
    have W := WalksT.enumerateD (Draws.tuple (prog := X.prog) (w := X.w) (A := X.A.in1) (I.ok.hd calm) it a ai items.toArray) e ne (by simp [ne, ae.symm]) (by simp)
    have len : items.toArray.size = xs.length := by rw [List.size_toArray]; exact rel.length.symm
    rw [← len] at z1 z2
    exact W.done s _ E ⟨⟨old, z1⟩, z2, tup⟩ fun h1 tk kp => ⟨rfl, I.turnedL (t' := tk) (ch := [e, it]) (fun b u hb q => kp b u hb q) own⟩
def iEnA (K : PySem.W.Frag) (ta : TA) : TI := fun σ H R => ta σ H fun vs H1 => ∃ a xs, vs = [.ref a] ∧ ((SqL K H1 a xs ∧ R (Ite K a) H1) ∨ (SqT K H1 a xs ∧ R (IteT K a) H1))
theorem pi_enA {X : Cx} {e : Expr} {ta : TA} {p pos tpos : Pos} {elts : List Expr} {kk : Nat} (hg : Gl X "enumerate") (hm : X.mg "enumerate" = none) (ha : PA X [e] ta) (hs : starEach [e] X.env = [(false, eval e X.env)] := by rfl) :
    PI X (.Tuple elts kk tpos) (.Call (.Name "enumerate" p) [e] [] pos) (iEnA X.K ta) := by
  constructor
  intro pins s σ H R I h
  refine PyProof.Rows.Call_ (ld_blt I hg hm PyProof.Rows.boot_enumerate (PyProof.Rows.callWith_type1 (thn (ha.run pos pins s σ H _ I h) ?_) hs rfl))
  rintro us s1 ⟨vs, H1, I1, rel, a, xs, rfl, way⟩
  rw [Vals.ref1 rel]
  let n := s1.heap.objs.size
  have two : ∀ b ∈ [n + 1, n], FpOk X pins H1 b := by
    intro b hb
    have up : n ≤ b := by simp at hb; omega
    exact I1.fpOk up (I1.hok.fresh up)
  rcases way with ⟨sq, q⟩ | ⟨sq, q⟩
  · obtain ⟨items, _, flat, _⟩ := I1.list sq
    exact call_enumerate_list flat.isList fun h2 isE at_ _ kp => wpAny_pyIter_enum isE
      ⟨n + 1, [n + 1, n], _, _, H1, rfl, I1.kept (t' := s1.toks) kp, turn_enum a (n + 1) n, ⟨⟨_, isE⟩, at_, Nat.succ_ne_self n⟩, two, q⟩
  · obtain ⟨items, _, tup, _⟩ := I1.tuple sq
    have old : a < n := by obtain ⟨u, hu, _⟩ := id tup; exact Heap.lt_size hu
    exact enum_callV (begins_tuple a items.toArray) tup fun h2 isE at_ _ kp => wpAny_pyIter_enum isE
      ⟨n + 1, [n + 1, n], _, _, H1, rfl, I1.kept (t' := s1.toks) kp, turn_enumT a (n + 1) n, ⟨⟨_, isE⟩, ⟨_, at_, rfl, rfl⟩, Nat.succ_ne_self n, Nat.ne_of_lt old, Nat.ne_of_lt (Nat.lt_succ_of_lt old)⟩, two, q⟩
section
variable {K : PySem.W.Frag} {c : Cc} {o o' : Own} {σ σ' : St} {H H' : Hp} {ρ ρ' : Env} {τ τ' τ0 τ1 : List (V × M)} {X : Cx} {e a b : Expr} {es elts : List Expr} {pos p tpos : Pos} {t u : TX} {kk : Nat}
/-! ### enumerate, zip, over data that is fixed -/
def gEnm (lo : Int) : List D → List D
  | [] => []
  | d :: ds => .tup [.int lo, d] :: gEnm (lo + 1) ds
theorem gEnm_at : ∀ {ds : List D} {lo : Int} {i : Nat}, (gEnm lo ds)[i]? = (ds[i]?).map fun d => D.tup [.int (lo + (i : Int)), d]
  | [], lo, i => by simp [gEnm]
  | d :: ds, lo, 0 => by simp [gEnm]
  | d :: ds, lo, i + 1 => by
    rw [gEnm, List.getElem?_cons_succ, gEnm_at, List.getElem?_cons_succ]
    congr 1
    funext d
    have e : lo + 1 + (i : Int) = lo + ((i + 1 : Nat) : Int) := by omega
    rw [e]
theorem gEnm_length : ∀ {ds : List D} {lo : Int}, (gEnm lo ds).length = ds.length
  | [], _ => rfl
  | d :: ds, lo => by rw [gEnm, List.length_cons, gEnm_length, List.length_cons]
theorem new_tup {T : Addr} {x : V} {d : D} {i : Int} (mu : ∀ a l, o a = some l → Mut (H a)) (hT : H T = none) (h : Dat K o H x d) : Grow H (upd H T (.tup [.int i, x])) ∧ Dat K o (upd H T (.tup [.int i, x])) (.ref T) (.tup [.int i, d]) := by
  have g : Grow H (upd H T (.tup [.int i, x])) := .new hT
  have oT : o T = none := by
    cases e : o T with
    | none => rfl
    | some l => have := mu T l e; rw [hT] at this; exact this.elim
  exact ⟨g, .tup ⟨oT, upd_same⟩ (.cons (.int i) (.cons (h.mono (g.le mu)) .nil))⟩
theorem runs_enL {ad : Addr} {ds : List D} {C : Own → Hp → Prop} (h : ∀ o H, C o H → ∃ xs, SqL K H ad xs ∧ Dats K o H xs ds) : Runs K (Ite K ad) (gEnm 0 ds) C := fun o H hc mu => by
  obtain ⟨xs, h1, h2⟩ := h o H hc
  refine ⟨fun i d e => ?_, ⟨xs, h1, by rw [gEnm_length, h2.length]; exact Nat.le_refl _⟩⟩
  rw [gEnm_at] at e
  obtain ⟨d', e1, rfl⟩ := Option.map_eq_some_iff.mp e
  obtain ⟨v, ev, dv⟩ := h2.get e1
  refine ⟨⟨xs, v, h1, ev⟩, fun x H' y => ?_⟩
  obtain ⟨T, x', rfl, hT, rfl, hy⟩ := y
  have := hy xs h1
  rw [ev] at this; cases this
  rw [Int.zero_add]
  exact new_tup mu hT dv
theorem runs_enT {ad : Addr} {ds : List D} {C : Own → Hp → Prop} (h : ∀ o H, C o H → ∃ xs, SqT K H ad xs ∧ Dats K o H xs ds) : Runs K (IteT K ad) (gEnm 0 ds) C := fun o H hc mu => by
  obtain ⟨xs, h1, h2⟩ := h o H hc
  refine ⟨fun i d e => ?_, ⟨xs, h1, by rw [gEnm_length, h2.length]⟩⟩
  rw [gEnm_at] at e
  obtain ⟨d', e1, rfl⟩ := Option.map_eq_some_iff.mp e
  obtain ⟨v, ev, dv⟩ := h2.get e1
  refine ⟨⟨xs, v, h1, ev⟩, fun x H' y => ?_⟩
  obtain ⟨T, x', rfl, hT, rfl, hy⟩ := y
  have := hy xs h1
  rw [ev] at this; cases this
  rw [Int.zero_add]
  exact new_tup mu hT dv
/-- what enumerate walks: as srcOf -/
def enmOf (r : R) (ρ : Env) (k : Src → Env → Prop) : Prop := match r with
  | .im (.tup ds) => k (.fx (gEnm 0 ds)) ρ
  | .im (.lst ds) => k (.fx (gEnm 0 ds)) ρ
  | .tm (.ls ds) => k (.fx (gEnm 0 ds)) ρ
  | .sl i => match ρ[i]? with
    | some (.lo (.ls ds)) => k (.sl i ds (gEnm 0 ds)) ρ
    | some (.pa (.ls ds)) => k (.sl i ds (gEnm 0 ds)) ρ
    | some (.lo (.sq ds)) => k (.fx (gEnm 0 ds)) ρ
    | some (.pa (.sq ds)) => k (.fx (gEnm 0 ds)) ρ
    | some (.hd p v (.ls ds)) => k (.hs i p v ds (gEnm 0 ds)) ρ
    | _ => False
  | _ => False
def iEnm (ta : TL) : TSrc := fun ρ k => ta ρ fun rs ρ1 => match rs with
  | [r] => enmOf r ρ1 k
  | _ => False
theorem en_ok {v : V} {r : R} {ti : Src → Env → Prop} {R' : It → Hp → Prop} (R1 : Rep K c o σ H ρ τ') (z : RelR K o H σ v r τ τ') (h : enmOf r ρ ti)
    (q : ∀ J o' s, Le o H o' H → Rep K c o' σ H ρ τ → SrcOk K J o' H σ s → ti s ρ → R' J H) :
    ∃ ad xs, v = .ref ad ∧ ((SqL K H ad xs ∧ R' (Ite K ad) H) ∨ (SqT K H ad xs ∧ R' (IteT K ad) H)) := by
  unfold enmOf at h
  split at h
  · obtain ⟨rfl, z⟩ := z
    cases z with
    | tup t d => exact ⟨_, _, rfl, .inr ⟨t.sq, q _ o (.fx _) .refl R1 (runs_enT fun o' H' L => ⟨_, (t.mono L).sq, d.mono L⟩) h⟩⟩
  · obtain ⟨rfl, z⟩ := z
    cases z with
    | lst a b d => exact ⟨_, _, rfl, .inl ⟨SqL.of b, q _ o (.fx _) .refl R1 (runs_enL fun o' H' L => ⟨_, SqL.of (L.keep _ _ a b).2, d.mono L⟩) h⟩⟩
  · have z : τ' = τ ++ [(v, _)] := z
    subst z
    obtain ⟨a, xs, rfl, ho, hH, d⟩ := (R1.tm τ.length _ _ (by rw [List.getElem?_append_right (Nat.le_refl _), Nat.sub_self]; rfl)).1
    have R2 := R1.drop (List.prefix_append τ _)
    have e : dropT τ.length o a = none := by unfold dropT; rw [ho]; show (if τ.length < τ.length then _ else none) = none; rw [if_neg (Nat.lt_irrefl _)]
    exact ⟨_, _, rfl, .inl ⟨SqL.of hH, q _ _ (.fx _) (dropT_le _) R2 (runs_enL fun o' H' L => ⟨_, SqL.of (L.keep _ _ e hH).2, (d.mono (dropT_le τ.length)).mono L⟩) h⟩⟩
  · obtain ⟨rfl, z⟩ := z
    split at h
    · rename_i ds e
      obtain ⟨w, e1, a, xs, rfl, ho, hH, d⟩ := R1.sl _ _ e
      rw [z] at e1; cases e1
      refine ⟨_, _, rfl, .inl ⟨SqL.of hH, q _ o (.sl _ ds _) .refl R1 ⟨_, z, runs_enL fun o' H' ⟨l, b, ys, e2, h1, h2, h3⟩ => ?_⟩ h⟩⟩
      cases e2; exact ⟨ys, SqL.of h2, h3⟩
    · rename_i ds e
      obtain ⟨w, e1, _, a, xs, rfl, ho, hH, d⟩ := R1.sl _ _ e
      rw [z] at e1; cases e1
      refine ⟨_, _, rfl, .inl ⟨SqL.of hH, q _ o (.sl _ ds _) .refl R1 ⟨_, z, runs_enL fun o' H' ⟨l, b, ys, e2, h1, h2, h3⟩ => ?_⟩ h⟩⟩
      cases e2; exact ⟨ys, SqL.of h2, h3⟩
    · rename_i ds e
      obtain ⟨w, e1, a, xs, rfl, hl, d⟩ := R1.sl _ _ e
      rw [z] at e1; cases e1
      exact ⟨_, _, rfl, .inl ⟨hl.sq, q _ o (.fx _) .refl R1 (runs_enL fun o' H' L => ⟨_, (hl.mono L).sq, d.mono L⟩) h⟩⟩
    · rename_i ds e
      obtain ⟨w, e1, _, a, xs, rfl, hl, d⟩ := R1.sl _ _ e
      rw [z] at e1; cases e1
      exact ⟨_, _, rfl, .inl ⟨hl.sq, q _ o (.fx _) .refl R1 (runs_enL fun o' H' L => ⟨_, (hl.mono L).sq, d.mono L⟩) h⟩⟩
    · rename_i p v0 ds e
      obtain ⟨e1, _, a, xs, rfl, ho, hH, d⟩ := R1.sl _ _ e
      rw [z] at e1; cases e1
      refine ⟨_, _, rfl, .inl ⟨SqL.of hH, q _ o (.hs _ p _ ds _) .refl R1 (runs_enL fun o' H' ⟨l, b, ys, e2, h1, h2, h3⟩ => ?_) h⟩⟩
      cases e2; exact ⟨ys, SqL.of h2, h3⟩
    · exact h.elim
  · exact h.elim
theorem di_enm {ta : TL} (hg : Gl X "enumerate") (hm : X.mg "enumerate" = none) (ha : DA X c [e] ta) (hs : starEach [e] X.env = [(false, eval e X.env)] := by rfl) : DI X c (.Tuple elts kk tpos) (.Call (.Name "enumerate" p) [e] [] pos) (iEnm ta) :=
  piImp (pi_enA hg hm ha hs) fun σ H R hh => by
    obtain ⟨o, ρ, τ, Q, R0, hh, q⟩ := hh
    refine ⟨o, ρ, τ, _, R0, hh, fun vs H1 o1 rs ρ1 τ1 L1 R1 z1 h1 => ?_⟩
    split at h1
    · cases z1 with
      | cons z t =>
        cases t
        obtain ⟨ad, xs, e, w⟩ := en_ok (R' := fun J H => R J H) R1 z h1 fun J o' s L R' ok hs => q J H1 o' ρ1 s (L1.trans L) R' ok hs
        exact ⟨ad, xs, by rw [e], w⟩
    · exact h1.elim
/-! ### what nobody reaches -/
def sDead : TSX := fun _ _ => False
theorem ds_dead {st : Stmt} : DS X c st sDead := ⟨fun pins s σ H D I ⟨o, ρ, P, _, h, _⟩ => h.elim⟩
end
end Y
namespace Y
open PySem PySem.Spec L2
/-! ### data without booleans: == is sameness -/
mutual
def D.std : D → Bool
  | .non => true
  | .bl _ => false
  | .int _ => true
  | .str _ => true
  | .tup ds => D.stds ds
  | .lst ds => D.stds ds
  | .raw _ => false
def D.stds : List D → Bool
  | [] => true
  | d :: ds => d.std && D.stds ds
end
theorem D.stds_all : ∀ ds : List D, D.stds ds = ds.all D.std
  | [] => rfl
  | d :: ds => by simp only [D.stds, List.all_cons]; rw [D.stds_all ds]
mutual
theorem eqv_std : ∀ d e : D, d.std = true → e.std = true → (D.eqv d e = true ↔ d = e)
  | .non, e, _, k => by cases e <;> simp_all [D.eqv, D.py, PyData.eqv, D.std]
  | .int i, e, _, k => by cases e <;> simp_all [D.eqv, D.py, PyData.eqv, D.std]
  | .str i, e, _, k => by cases e <;> simp_all [D.eqv, D.py, PyData.eqv, D.std]
  | .tup ds, .tup es, h, k => by
    have := eqvs_std ds es (by simpa [D.std] using h) (by simpa [D.std] using k)
    simpa [D.eqv, D.py, PyData.eqv] using this
  | .lst ds, .lst es, h, k => by
    have := eqvs_std ds es (by simpa [D.std] using h) (by simpa [D.std] using k)
    simpa [D.eqv, D.py, PyData.eqv] using this
  | .tup ds, .non, h, k => by simp [D.eqv, D.py, PyData.eqv]
  | .tup ds, .int _, h, k => by simp [D.eqv, D.py, PyData.eqv]
  | .tup ds, .str _, h, k => by simp [D.eqv, D.py, PyData.eqv]
  | .tup ds, .lst _, h, k => by simp [D.eqv, D.py, PyData.eqv]
  | .lst ds, .non, h, k => by simp [D.eqv, D.py, PyData.eqv]
  | .lst ds, .int _, h, k => by simp [D.eqv, D.py, PyData.eqv]
  | .lst ds, .str _, h, k => by simp [D.eqv, D.py, PyData.eqv]
  | .lst ds, .tup _, h, k => by simp [D.eqv, D.py, PyData.eqv]
  | .tup _, .bl _, _, k => by simp [D.std] at k
  | .tup _, .raw _, _, k => by simp [D.std] at k
  | .lst _, .bl _, _, k => by simp [D.std] at k
  | .lst _, .raw _, _, k => by simp [D.std] at k
  | .bl _, _, h, _ => by simp [D.std] at h
  | .raw _, _, h, _ => by simp [D.std] at h
theorem eqvs_std : ∀ ds es : List D, D.stds ds = true → D.stds es = true → (PyData.eqvAll (D.pys ds) (D.pys es) = true ↔ ds = es)
  | [], [], _, _ => by simp [D.pys, PyData.eqvAll]
  | [], _ :: _, _, _ => by simp [D.pys, PyData.eqvAll]
  | _ :: _, [], _, _ => by simp [D.pys, PyData.eqvAll]
  | d :: ds, e :: es, h, k => by
    simp only [D.stds, Bool.and_eq_true] at h k
    have h1 := eqv_std d e h.1 k.1
    have h2 := eqvs_std ds es h.2 k.2
    simp only [D.pys, PyData.eqvAll, Bool.and_eq_true, List.cons.injEq]
    exact ⟨fun z => ⟨h1.mp z.1, h2.mp z.2⟩, fun z => ⟨h1.mpr z.1, h2.mpr z.2⟩⟩
end
section
variable {α : Type} [DecidableEq α] {g : α → D}
/-- a way to write things as data: no booleans, nothing written alike -/
structure Code (g : α → D) : Prop where
  std : ∀ a, (g a).std = true
  inj : ∀ a b, g a = g b → a = b
theorem Code.eqv (h : Code g) (a b : α) : D.eqv (g a) (g b) = decide (a = b) := by
  have e := eqv_std (g a) (g b) (h.std a) (h.std b)
  by_cases z : a = b
  · subst z; rw [decide_eq_true rfl]; exact e.mpr rfl
  · rw [decide_eq_false z]
    cases q : D.eqv (g a) (g b) with
    | false => rfl
    | true => exact absurd (h.inj _ _ (e.mp q)) z
theorem Code.any (h : Code g) (xs : List α) (a : α) : ((xs.map g).any fun z => D.eqv z (g a)) = decide (a ∈ xs) := by
  induction xs with
  | nil => rfl
  | cons x xs ih =>
    rw [List.map_cons, List.any_cons, ih, h.eqv]
    by_cases e : x = a
    · subst e; simp
    · simp [e]
      exact fun z => absurd z.symm e
theorem Code.inj_map (h : Code g) : ∀ {xs ys : List α}, xs.map g = ys.map g → xs = ys
  | [], [], _ => rfl
  | [], _ :: _, e => by cases e
  | _ :: _, [], e => by cases e
  | x :: xs, y :: ys, e => by
    rw [List.map_cons, List.map_cons] at e
    injection e with e1 e2
    rw [h.inj _ _ e1, Code.inj_map h e2]
theorem Code.stds (h : Code g) (xs : List α) : D.stds (xs.map g) = true := by
  rw [D.stds_all, List.all_eq_true]
  intro d hd
  obtain ⟨a, _, rfl⟩ := List.mem_map.mp hd
  exact h.std a
end
/-! ### an index that is written out -/
section
variable {α : Type} {a b c d e f g : α} {l : List α}
theorem atI_c0 : atI (a :: l) 0 = some a := by obtain ⟨x, h, h2⟩ := atI_ok (xs := a :: l) (i := 0) (by omega) (by simp <;> omega); rw [h]; simpa using h2.symm
theorem atI_c1 : atI (a :: b :: l) 1 = some b := by obtain ⟨x, h, h2⟩ := atI_ok (xs := a :: b :: l) (i := 1) (by omega) (by simp <;> omega); rw [h]; simpa using h2.symm
theorem atI_c2 : atI (a :: b :: c :: l) 2 = some c := by obtain ⟨x, h, h2⟩ := atI_ok (xs := a :: b :: c :: l) (i := 2) (by omega) (by simp <;> omega); rw [h]; simpa using h2.symm
theorem atI_c3 : atI (a :: b :: c :: d :: l) 3 = some d := by obtain ⟨x, h, h2⟩ := atI_ok (xs := a :: b :: c :: d :: l) (i := 3) (by omega) (by simp <;> omega); rw [h]; simpa using h2.symm
theorem atI_c4 : atI (a :: b :: c :: d :: e :: l) 4 = some e := by obtain ⟨x, h, h2⟩ := atI_ok (xs := a :: b :: c :: d :: e :: l) (i := 4) (by omega) (by simp <;> omega); rw [h]; simpa using h2.symm
theorem atI_c5 : atI (a :: b :: c :: d :: e :: f :: l) 5 = some f := by obtain ⟨x, h, h2⟩ := atI_ok (xs := a :: b :: c :: d :: e :: f :: l) (i := 5) (by omega) (by simp <;> omega); rw [h]; simpa using h2.symm
end
end Y
namespace Y
open PySem PySem.Spec L2
section
variable {K : PySem.W.Frag} {c : Cc} {o o' : Own} {σ σ' : St} {H H' : Hp} {ρ ρ' : Env} {τ τ' τ0 τ1 : List (V × M)} {X : Cx} {e a b : Expr} {es elts : List Expr} {pos p tpos : Pos} {t u : TX} {kk : Nat}
/-! ### a, b = x, y: data or new objects -/
def R.m2 : R → Option M
  | .im d => some (.im d)
  | .tm m => some m
  | _ => none
def sPar2 (i j : Nat) (ta : TL) : TSX := fun P ρ => ta ρ fun rs ρ1 => match rs with
  | [r1, r2] => match r1.m2, r2.m2 with
    | some m1, some m2 => P.nx ((ρ1.set j (.lo m2)).set i (.lo m1))
    | _, _ => False
  | _ => False
/-- the last result goes to a slot -/
theorem take_last (R0 : Rep K c o σ H ρ τ') {v : V} {r : R} {m : M} {i : Nat} (z : RelR K o H σ v r τ τ') (e : r.m2 = some m) : ∃ o', Le o H o' H ∧ Rep K c o' (σ.set i (some v)) H (ρ.set i (.lo m)) τ := by
  cases r with
  | im d =>
    obtain ⟨rfl, z⟩ := z
    cases e
    exact ⟨o, .refl, R0.asg (m := .im d) z⟩
  | tm m' =>
    cases e
    have z : τ' = τ ++ [(v, m)] := z
    subst z
    obtain ⟨R1, i1⟩ := R0.takeT (.s i)
    exact ⟨_, relL_le (by intro z; cases z), R1.asg i1⟩
  | sl k => cases e
theorem RelR.set2 {v : V} {r : R} {m : M} {j : Nat} {w : Option V} (z : RelR K o H σ v r τ τ') (e : r.m2 = some m) : RelR K o H (σ.set j w) v r τ τ' := by
  cases r with
  | im d => exact z
  | tm m' => exact z
  | sl k => cases e
theorem ds_par {i j : Nat} {x y : Str} {ta : TL} {px py pt : Pos} {kt k2 pt2} (hc : X.calm = true) (hN : X.N.Nodup) (hij : i ≠ j) (ha : DA X c [a, b] ta) (hi : X.N[i]? = some x := by rfl) (hj : X.N[j]? = some y := by rfl)
    (hx : X.env.scope.names.lookup x = some .local := by rfl) (hy : X.env.scope.names.lookup y = some .local := by rfl)
    (hw : swappedStores [.Tuple [.Name x px, .Name y py] kt pt] (.Tuple [a, b] k2 pt2) X.env = pure (some [x, y]) := by rfl)
    (hs : swapsWithSole [.Tuple [.Name x px, .Name y py] kt pt] (.Tuple [a, b] k2 pt2) pos.line X.env = pure false := by rfl) :
    DS X c (.Assign [.Tuple [.Name x px, .Name y py] kt pt] (.Tuple [a, b] k2 pt2) pos) (sPar2 i j ta) :=
  psImp (ps_par hc hN hi hj hij hx hy ha hw hs) fun D σ H h => by
    obtain ⟨o, ρ, P, R0, h, w⟩ := h
    refine ⟨o, ρ, [], _, R0, h, fun vs H1 o1 rs ρ1 τ1 L1 R1 z1 h1 => ?_⟩
    split at h1
    · rename_i r1 r2
      split at h1
      · rename_i m1 m2 e1 e2
        cases z1 with
        | cons za t =>
          cases t with
          | cons zb t =>
            cases t
            obtain ⟨o2, L2, R2⟩ := take_last (i := j) R1 zb e2
            obtain ⟨o3, L3, R3⟩ := take_last (i := i) R2 ((za.mono L2).set2 e1) e1
            refine ⟨_, _, rfl, ?_⟩
            rw [List.set_comm _ _ hij]
            exact w.nx _ _ o3 _ (L1.trans (L2.trans L3)) R3 h1
      · exact h1.elim
    · exact h1.elim
/-! ### a op b op c -/
def tChn (g g' : G2) (ta tb tc : TX) : TX := fun ρ Q => ta ρ fun r1 ρ1 => tb ρ1 fun r2 ρ2 => w2 ρ2 r1 r2 fun m1 m2 => g m1 m2 fun m => match m with
  | .im (.bl k) => if k = true then tc ρ2 fun r3 ρ3 => w2 ρ3 r2 r3 fun m2' m3 => g' m2' m3 fun m' => Q m'.res ρ3 else Q (.im (.bl false)) ρ2
  | _ => False
theorem tChn_of {g g' : G2} {ta tb tc : TX} {k : VK} (h : TEo K c (tChn g g' ta tb tc) σ H k) : tChain (rOp K g) (rOp K g') (TEo K c ta) (TEo K c tb) (TEo K c tc) σ H k := by
  obtain ⟨o, ρ, τ, Q, R0, h, q⟩ := h
  refine ⟨o, ρ, τ, _, R0, h, fun v1 H1 o1 r1 ρ1 τ1 L1 R1 z1 h1 => ?_⟩
  refine ⟨o1, ρ1, τ1, _, R1, h1, fun v2 H2 o2 r2 ρ2 τ2 L2 R2 z2 h2 => ?_⟩
  unfold w2 at h2
  split at h2
  · rename_i m1 m2 e1 e2
    have y1 := R2.vw_ok (z1.mono L2) z2.pre e1
    have y2 := R2.vw_ok z2 List.prefix_rfl e2
    refine ⟨o2, m1, m2, _, R2.mu, y1, y2, h2, fun v H' m g1 nm hm => ?_⟩
    split at hm
    · rename_i kb
      cases (show Dat K o2 H' v (.bl kb) from nm)
      have Lg := g1.le R2.mu
      have R2' := R2.grow g1
      refine ⟨kb, rfl, ?_⟩
      cases kb with
      | false =>
        rw [if_neg (by decide)]
        rw [if_neg (by decide)] at hm
        have R3 := R2'.drop (z1.pre.trans z2.pre)
        exact q _ H' _ (.im (.bl false)) ρ2 τ (L1.trans (L2.trans (Lg.trans (dropT_le _)))) R3 ⟨rfl, .bl false⟩ hm
      | true =>
        rw [if_pos rfl]
        rw [if_pos rfl] at hm
        refine ⟨o2, ρ2, τ2, _, R2', hm, fun v3 H3 o3 r3 ρ3 τ3 L3 R3 z3 h3 => ?_⟩
        unfold w2 at h3
        split at h3
        · rename_i m2' m3 e2' e3
          have x1 := R3.vw_ok ((z2.mono Lg).mono L3) z3.pre e2'
          have x2 := R3.vw_ok z3 List.prefix_rfl e3
          refine ⟨o3, m2', m3, _, R3.mu, x1, x2, h3, fun v' H'' m' g2 nm2 hm2 => ?_⟩
          obtain ⟨o', τ', L, R', z⟩ := R3.made ((z1.pre.trans z2.pre).trans z3.pre) g2 nm2
          exact q v' H'' o' _ ρ3 τ' (L1.trans (L2.trans (Lg.trans (L3.trans L)))) R' z hm2
        · exact h3.elim
    · exact hm.elim
  · exact h2.elim
theorem de_chn {op op' : CmpOp} {g g' : G2} {ta tb tc : TX} {d : Expr} (ho : OpG X (compareOp op) g) (ho' : OpG X (compareOp op') g') (ha : DE X c a ta) (hb : DE X c b tb) (hd : DE X c d tc)
    (hm : lastMarks [op, op'] [b, d] = false := by with_unfolding_all rfl) : DE X c (.Compare a [op, op'] [b, d] pos) (tChn g g' ta tb tc) :=
  peImp (pe_chain ho ho' ha hb hd hm) fun _ _ _ h => tChn_of h
theorem dt_chn {op op' : CmpOp} {g g' : G2} {ta tb tc : TX} {d : Expr} (ho : OpG X (compareOp op) g) (ho' : OpG X (compareOp op') g') (ha : DE X c a ta) (hb : DE X c b tb) (hd : DE X c d tc)
    (hm : lastMarks [op, op'] [b, d] = false := by with_unfolding_all rfl) : DT X c (.Compare a [op, op'] [b, d] pos) (tTst (tChn g g' ta tb tc)) :=
  ptImp (pt_chain ho ho' ha hb hd hm) fun σ H k h => by
    obtain ⟨o, ρ, τ, Q, R0, h, q⟩ := h
    refine tChn_of ⟨o, ρ, τ, _, R0, h, fun v1 H1 o1 r1 ρ1 τ1 L1 R1 z1 h1 => ?_⟩
    split at h1
    · rename_i b
      obtain ⟨rfl, z⟩ := z1
      cases z
      exact ⟨b, rfl, q b H1 o1 ρ1 L1 R1 h1⟩
    · exact h1.elim
/-! ### d.get(k), d.get(k, x) -/
def M.isD : M → Bool
  | .dk _ => true
  | .dt _ => true
  | _ => false
def vwD (ρ : Env) (r : R) : Prop := match vw ρ r with
  | some m => m.isD = true
  | none => False
def getOr (m : M) (m2 : M) (x : D) (k : D → Prop) : Prop := match m2 with
  | .im d => match dGet m d with
    | some (some y) => k y
    | some none => k x
    | none => False
  | _ => False
def tGet1 (td ty : TX) : TX := fun ρ Q => td ρ fun r ρ1 => vwD ρ1 r ∧ ty ρ1 fun r2 ρ2 => w2 ρ2 r r2 fun m1 m2 => getOr m1 m2 .non fun y => Q (.im y) ρ2
def tGet2 (td ty tx : TX) : TX := fun ρ Q => td ρ fun r ρ1 => vwD ρ1 r ∧ ty ρ1 fun r2 ρ2 => tx ρ2 fun r3 ρ3 => match r3 with
  | .im x => w2 ρ3 r r2 fun m1 m2 => getOr m1 m2 x fun y => Q (.im y) ρ3
  | _ => False
theorem isD_of {v : V} {m : M} (h : Vw K o H v m) (e : m.isD = true) : ∃ a, v = .ref a ∧ IsD H a := by
  obtain ⟨l, h⟩ := h
  cases m with
  | dk kvs => obtain ⟨a, ks, rfl, _, ha, _⟩ := h; exact ⟨a, rfl, .inl ⟨ks, .inl ha⟩⟩
  | dt kvs => obtain ⟨a, ks, rfl, _, ha, _⟩ := h; exact ⟨a, rfl, .inr ⟨ks, .inl ha⟩⟩
  | _ => cases e
theorem de_get1 {td ty : TX} {apos cpos : Pos} (hu : X.A.units + 1 < cLine) (ho : DE X c a td) (he : DE X c b ty) (m : M1 X a "get" apos b cpos := by constructor <;> rfl) : DE X c (.Call (.Attribute a "get" apos) [b] [] cpos) (tGet1 td ty) :=
  peImp (pe_dget1 hu ho he m) fun σ H k h => by
    obtain ⟨o, ρ, τ, Q, R0, h, q⟩ := h
    refine ⟨o, ρ, τ, _, R0, h, fun v1 H1 o1 r1 ρ1 τ1 L1 R1 z1 h1 => ?_⟩
    obtain ⟨hd, h1⟩ := h1
    unfold vwD at hd
    split at hd
    · rename_i m0 e0
      obtain ⟨a, rfl, isd⟩ := isD_of (R1.vw_ok z1 List.prefix_rfl e0) hd
      refine ⟨a, rfl, isd, o1, ρ1, τ1, _, R1, h1, fun v2 H2 o2 r2 ρ2 τ2 L2 R2 z2 h2 => ?_⟩
      unfold w2 at h2
      split at h2
      · rename_i m1 m2 e1 e2
        have y1 := R2.vw_ok (z1.mono L2) z2.pre e1
        obtain ⟨l2, y2⟩ := R2.vw_ok z2 List.prefix_rfl e2
        unfold getOr at h2
        have R3 := R2.drop (z1.pre.trans z2.pre)
        split at h2
        · split at h2
          · rename_i y eg
            obtain ⟨a', w, ea, g, rd⟩ := dGet_ok y1 y2 eg
            cases ea
            cases w with
            | none => exact rd.elim
            | some w => exact ⟨_, g, q w H2 _ (.im y) ρ2 τ (L1.trans (L2.trans (dropT_le _))) R3 ⟨rfl, rd.mono (dropT_le _)⟩ h2⟩
          · rename_i eg
            obtain ⟨a', w, ea, g, rd⟩ := dGet_ok y1 y2 eg
            cases ea
            cases w with
            | some w => exact rd.elim
            | none => exact ⟨_, g, q .non H2 _ (.im .non) ρ2 τ (L1.trans (L2.trans (dropT_le _))) R3 ⟨rfl, .non⟩ h2⟩
          · exact h2.elim
        · exact h2.elim
      · exact h2.elim
    · exact hd.elim
theorem de_get2 {td ty tx : TX} {apos cpos : Pos} {f : Expr} (hu : X.A.units + 1 < cLine) (ho : DE X c a td) (he : DE X c b ty) (hf : DE X c f tx) (m : M2 X a "get" apos b f cpos := by constructor <;> rfl) : DE X c (.Call (.Attribute a "get" apos) [b, f] [] cpos) (tGet2 td ty tx) :=
  peImp (pe_dget2 hu ho he hf m) fun σ H k h => by
    obtain ⟨o, ρ, τ, Q, R0, h, q⟩ := h
    refine ⟨o, ρ, τ, _, R0, h, fun v1 H1 o1 r1 ρ1 τ1 L1 R1 z1 h1 => ?_⟩
    obtain ⟨hd, h1⟩ := h1
    unfold vwD at hd
    split at hd
    · rename_i m0 e0
      obtain ⟨a, rfl, isd⟩ := isD_of (R1.vw_ok z1 List.prefix_rfl e0) hd
      refine ⟨a, rfl, isd, o1, ρ1, τ1, _, R1, h1, fun v2 H2 o2 r2 ρ2 τ2 L2 R2 z2 h2 => ?_⟩
      refine ⟨o2, ρ2, τ2, _, R2, h2, fun v3 H3 o3 r3 ρ3 τ3 L3 R3 z3 h3 => ?_⟩
      split at h3
      · rename_i x
        obtain ⟨e3, dx⟩ := z3
        subst e3
        unfold w2 at h3
        split at h3
        · rename_i m1 m2 e1 e2
          have y1 := R3.vw_ok ((z1.mono L2).mono L3) z2.pre e1
          obtain ⟨l2, y2⟩ := R3.vw_ok (z2.mono L3) List.prefix_rfl e2
          unfold getOr at h3
          have R4 := R3.drop (z1.pre.trans z2.pre)
          split at h3
          · split at h3
            · rename_i y eg
              obtain ⟨a', w, ea, g, rd⟩ := dGet_ok y1 y2 eg
              cases ea
              cases w with
              | none => exact rd.elim
              | some w => exact ⟨_, g, q w H3 _ (.im y) ρ3 τ (L1.trans (L2.trans (L3.trans (dropT_le _)))) R4 ⟨rfl, rd.mono (dropT_le _)⟩ h3⟩
            · rename_i eg
              obtain ⟨a', w, ea, g, rd⟩ := dGet_ok y1 y2 eg
              cases ea
              cases w with
              | some w => exact rd.elim
              | none => exact ⟨_, g, q v3 H3 _ (.im x) ρ3 τ (L1.trans (L2.trans (L3.trans (dropT_le _)))) R4 ⟨rfl, dx.mono (dropT_le _)⟩ h3⟩
            · exact h3.elim
          · exact h3.elim
        · exact h3.elim
      · exact h3.elim
    · exact hd.elim
/-! ### [e for .. in .. if .. for .. in .. if ..] -/
theorem wipe_sub {vs vs1 : List Nat} (h : ∀ i ∈ vs1, i ∈ vs) : L2.wipe (L2.wipe σ vs1) vs = L2.wipe σ vs := by
  apply List.ext_getElem?
  intro j
  by_cases hj : j ∈ vs
  · by_cases hl : j < σ.length
    · rw [wipe_at hj (by rw [wipe_length]; exact hl), wipe_at hj hl]
    · rw [List.getElem?_eq_none (by rw [wipe_length, wipe_length]; omega), List.getElem?_eq_none (by rw [wipe_length]; omega)]
  · rw [wipe_out hj, wipe_out hj, wipe_out fun z => hj (h j z)]
def compL2 (b : Bd) (tq : TQ) (ti1 : TSrc) (b1 : Bd) (tq1 : TQ) (te : TX) (vs vs1 : List Nat) (gd : Env → Prop) (k : List D → Env → Prop) : List D → List D → Env → Prop
  | [], acc, ρ => gd ρ ∧ k acc ρ
  | d :: ds, acc, ρ => gd ρ ∧ bnd b d ρ fun ρ1 => tq ρ1 fun ok ρ2 => if ok = true then ti1 ρ2 fun src ρ3 => match src with
      | .fx ds1 => compL b1 tq1 te vs1 (fun _ => True) (fun acc' ρ4 => compL2 b tq ti1 b1 tq1 te vs vs1 gd k ds acc' (wipeE ρ4 vs)) ds1 acc (wipeE ρ3 vs1)
      | _ => False
    else compL2 b tq ti1 b1 tq1 te vs vs1 gd k ds acc (wipeE ρ2 vs)
def tLc2X (ti : TSrc) (b : Bd) (tq : TQ) (ti1 : TSrc) (b1 : Bd) (tq1 : TQ) (te : TX) (vs vs1 : List Nat) : TX := fun ρ Q => ti ρ fun src ρ1 => match src with
  | .fx ds => compL2 b tq ti1 b1 tq1 te vs vs1 (fun _ => True) (fun acc ρ' => Q (.tm (.ls acc)) (restE ρ1 ρ' vs)) ds [] (wipeE ρ1 vs)
  | _ => False
theorem comp2_ok {J : It} {ds : List D} {bd bd1 : Bd} {tq tq1 : TQ} {ti1 : TSrc} {te : TX} {vs vs1 : List Nat} {gd : Env → Prop} {k : List D → Env → Prop} {C : Own → Hp → Prop} {o1 : Own} {H1 : Hp} {Qd : Hp → Prop} {L : Addr} (hr : Runs K J ds C) (hvs : ∀ i ∈ bd.slots, i ∈ vs) (hvs1 : ∀ i ∈ bd1.slots, i ∈ vs1) (h12 : ∀ i ∈ vs1, i ∈ vs)
    (hc : ∀ o' H' ρ' τ', Le o1 H1 o' H' → Rep K c o' (L2.wipe σ vs) H' ρ' τ' → gd ρ' → C o' H') (R0 : Rep K c o1 (L2.wipe σ vs) H1 ρ (τ ++ [(.ref L, .ls [])]))
    (h : compL2 bd tq ti1 bd1 tq1 te vs vs1 gd k ds [] ρ)
    (q : ∀ o' H' ρ' acc, Le o1 H1 o' H' → Rep K c o' (L2.wipe σ vs) H' ρ' (τ ++ [(.ref L, .ls acc)]) → gd ρ' → k acc ρ' → Qd H') :
    ∃ W : Nat → Nat → Hp → Prop, (∃ m, W 0 m H1) ∧ ∀ i m H, W i m H →
      (J.stop i H ∧ Qd H) ∨ (J.go i H ∧ ∃ Nx : Hp → Prop, (∀ H', Nx H' → ∃ m', m' < m ∧ W (i + 1) m' H') ∧ ∀ x H', J.yld i H x H' → bd.tg K x (L2.wipe σ vs) H' fun σ2 H2 => L2.wipe σ2 vs = L2.wipe σ vs ∧
        TTo K c tq σ2 H2 fun b H3 => if b = true then TIo K c ti1 σ2 H3 fun J1 H4 => ∃ W1 : Nat → Nat → Hp → Prop, (∃ m, W1 0 m H4) ∧ ∀ j k H, W1 j k H →
          (J1.stop j H ∧ Nx H) ∨ (J1.go j H ∧ ∃ Nx1 : Hp → Prop, (∀ H', Nx1 H' → ∃ k', k' < k ∧ W1 (j + 1) k' H') ∧ ∀ x H', J1.yld j H x H' → bd1.tg K x (L2.wipe σ2 vs1) H' fun σ3 H5 => L2.wipe σ3 vs1 = L2.wipe σ2 vs1 ∧ TTo K c tq1 σ3 H5 fun b H6 =>
            if b = true then TEo K c te σ3 H6 fun y H7 => ∃ acc, H7 L = some (.lst acc) ∧ acc.length < sizeLine ∧ Nx1 (upd H7 L (.lst (acc ++ [y]))) else Nx1 H6)
        else Nx H3) := by
  refine ⟨fun i m H => m = ds.length - i ∧ i ≤ ds.length ∧ ∃ o ρ acc, Le o1 H1 o H ∧ Rep K c o (L2.wipe σ vs) H ρ (τ ++ [(.ref L, .ls acc)]) ∧ compL2 bd tq ti1 bd1 tq1 te vs vs1 gd k (ds.drop i) acc ρ,
    ⟨ds.length, by simp, Nat.zero_le _, o1, ρ, [], .refl, R0, by simpa using h⟩, ?_⟩
  rintro i m H ⟨rfl, hi, o, ρ, acc, Lo, R, h⟩
  by_cases hlt : i < ds.length
  · have e : ds.drop i = ds[i] :: ds.drop (i + 1) := List.drop_eq_getElem_cons hlt
    rw [e] at h
    obtain ⟨hg, h⟩ := h
    obtain ⟨go, yl⟩ := (hr o H (hc o H ρ _ Lo R hg) R.mu).1 i ds[i] (by simp [hlt])
    refine .inr ⟨go, fun H' => ∃ o' ρ' acc', Le o1 H1 o' H' ∧ Rep K c o' (L2.wipe σ vs) H' ρ' (τ ++ [(.ref L, .ls acc')]) ∧ compL2 bd tq ti1 bd1 tq1 te vs vs1 gd k (ds.drop (i + 1)) acc' ρ',
      fun H' ⟨o', ρ', acc', L', R', h'⟩ => ⟨ds.length - (i + 1), by omega, rfl, hlt, o', ρ', acc', L', R', h'⟩, fun x H' y => ?_⟩
    obtain ⟨g, dx⟩ := yl x H' y
    refine bnd_ok (R.grow g) dx h fun σ' ρ' R' hw hf => ?_
    have hw' : L2.wipe σ' vs = L2.wipe σ vs := by rw [hw vs hvs, wipe_idem]
    have L2' : Le o1 H1 o H' := Lo.trans (g.le R.mu)
    refine ⟨hw', o, ρ', _, _, R', hf, fun b H3 o3 ρ3 L3 R3 h3 => ?_⟩
    cases b with
    | false =>
      have R4 := R3.wipe vs
      rw [hw'] at R4
      exact ⟨o3, _, acc, L2'.trans L3, R4, h3⟩
    | true =>
      rw [if_pos rfl]
      refine ⟨o3, ρ3, _, _, R3, h3, fun J1 H4 o4 ρ4 src L4 R4 ok1 h4 => ?_⟩
      cases src with
      | fx ds1 =>
        refine comp_ok (C := fun o' H' => Le o4 H4 o' H') ok1 hvs1 (fun o' H' ρ' τ' L' R' _ => L') (R4.wipe vs1) h4 fun o' H' ρ' acc' L' R' _ hk => ?_
        have R6 := R'.wipe vs
        rw [wipe_sub h12, hw'] at R6
        exact ⟨o', _, acc', L2'.trans (L3.trans (L4.trans L')), R6, hk⟩
      | sl _ _ _ => exact h4.elim
      | hs _ _ _ _ _ => exact h4.elim
  · have e : i = ds.length := by omega
    subst e
    rw [List.drop_length] at h
    exact .inl ⟨(hr o H (hc o H ρ _ Lo R h.1) R.mu).2, q o H ρ acc Lo R h.1 h.2⟩
theorem lc2_of {ti ti1 : TSrc} {bd bd1 : Bd} {tq tq1 : TQ} {te : TX} {vs vs1 : List Nat} {k : VK} (hvs : ∀ i ∈ bd.slots, i ∈ vs) (hvs1 : ∀ i ∈ bd1.slots, i ∈ vs1) (h12 : ∀ i ∈ vs1, i ∈ vs) (h : TEo K c (tLc2X ti bd tq ti1 bd1 tq1 te vs vs1) σ H k) :
    tLc2 (TIo K c ti) (bd.tg K) (TTo K c tq) (TIo K c ti1) (bd1.tg K) (TTo K c tq1) (TEo K c te) vs vs1 σ H k := by
  obtain ⟨o, ρ, τ, Q, R0, h, q⟩ := h
  refine ⟨o, ρ, τ, _, R0, h, fun J H1 o1 ρ1 src L1 R1 ok h1 => ?_⟩
  intro L hL
  cases src with
  | fx ds =>
    obtain ⟨R2, L2'⟩ := R1.push (m := .ls []) (u := .lst []) hL trivial rfl ⟨L, [], rfl, by simp, upd_same, .nil⟩
    refine comp2_ok (C := fun o' H' => Le o1 H1 o' H') ok hvs hvs1 h12 (fun o' H' ρ' τ' L' R' _ => L2'.trans L') (R2.wipe vs) h1 fun o' H' ρ' acc L' R' _ hk => ?_
    exact q _ H' o' (.tm (.ls acc)) _ _ (L1.trans (L2'.trans L')) (Rep.rest R1 (L2'.trans L') R') rfl hk
  | sl _ _ _ => exact h1.elim
  | hs _ _ _ _ _ => exact h1.elim
section
variable {elt tg iter tg1 iter1 : Expr} {ifs ifs1 : List Expr} {scope : Scope} {own : List (Str × Nat)} {ti ti1 : TSrc} {bd bd1 : Bd} {tq tq1 : TQ} {te : TX}
theorem de_lc2 (vs1 : List Nat) (hc : X.calm = true) (hN : X.N.Nodup) (hi : DI X c tg iter ti) (ok : blkC X.N X.env.scope scope own = true)
    (hg : ∀ (s : Shared) (H : Hp) (C : Addr) (cl : List (Str × Addr)) (fp : List Addr), PG (X.blk s H scope (compEnvC scope cl C X.env) fp) tg (bd.tg X.K))
    (ht : ∀ (s : Shared) (H : Hp) (C : Addr) (cl : List (Str × Addr)) (fp : List Addr), DQs (X.blk s H scope (compEnvC scope cl C X.env) fp) c ifs tq)
    (hi1 : ∀ (s : Shared) (H : Hp) (C : Addr) (cl : List (Str × Addr)) (fp : List Addr), DI (X.blk s H scope (compEnvC scope cl C X.env) fp) c tg1 iter1 ti1)
    (hg1 : ∀ (s : Shared) (H : Hp) (C : Addr) (cl : List (Str × Addr)) (fp : List Addr), PG (X.blk s H scope (compEnvC scope cl C X.env) fp) tg1 (bd1.tg X.K))
    (ht1 : ∀ (s : Shared) (H : Hp) (C : Addr) (cl : List (Str × Addr)) (fp : List Addr), DQs (X.blk s H scope (compEnvC scope cl C X.env) fp) c ifs1 tq1)
    (he : ∀ (s : Shared) (H : Hp) (C : Addr) (cl : List (Str × Addr)) (fp : List Addr), DE (X.blk s H scope (compEnvC scope cl C X.env) fp) c elt te)
    (hvs : ∀ i ∈ bd.slots, i ∈ own.map (·.2) := by decide) (hvs1 : ∀ i ∈ bd1.slots, i ∈ vs1 := by decide) (h12 : ∀ i ∈ vs1, i ∈ own.map (·.2) := by decide) (hs : ∀ x, foldedSetIterable iter X.env x = pure x := by intro _; rfl) (hs1 : ∀ env x, foldedSetIterable iter1 env x = pure x := by intro _ _; rfl) :
    DE X c (.ListComp elt [⟨tg, iter, ifs, 0⟩, ⟨tg1, iter1, ifs1, 0⟩] scope pos) (tLc2X ti bd tq ti1 bd1 tq1 te (own.map (·.2)) vs1) :=
  peImp (pe_lc2 (wi1 := TIo X.K c ti1) (g1 := bd1.tg X.K) (tt := TTo X.K c tq) (tt1 := TTo X.K c tq1) (te := TEo X.K c te) hc hN hi (blkOk_by ok) h12 hg ht hi1 hg1 ht1 he hs hs1) fun σ H k h => lc2_of hvs hvs1 h12 h
theorem ds_setLc2 {i : Nat} {y : Str} {py spos : Pos} (vs1 : List Nat) (hc : X.calm = true) (hN : X.N.Nodup) (hsw : swapsWith (.ListComp elt [⟨tg, iter, ifs, 0⟩, ⟨tg1, iter1, ifs1, 0⟩] scope pos) (some (.Name y py)) spos.line X.env = pure true) (hi : DI X c tg iter ti) (ok : blkC X.N X.env.scope scope own = true)
    (hg : ∀ (s : Shared) (H : Hp) (C : Addr) (cl : List (Str × Addr)) (fp : List Addr), PG (X.blk s H scope (compEnvC scope cl C X.env) fp) tg (bd.tg X.K))
    (ht : ∀ (s : Shared) (H : Hp) (C : Addr) (cl : List (Str × Addr)) (fp : List Addr), DQs (X.blk s H scope (compEnvC scope cl C X.env) fp) c ifs tq)
    (hi1 : ∀ (s : Shared) (H : Hp) (C : Addr) (cl : List (Str × Addr)) (fp : List Addr), DI (X.blk s H scope (compEnvC scope cl C X.env) fp) c tg1 iter1 ti1)
    (hg1 : ∀ (s : Shared) (H : Hp) (C : Addr) (cl : List (Str × Addr)) (fp : List Addr), PG (X.blk s H scope (compEnvC scope cl C X.env) fp) tg1 (bd1.tg X.K))
    (ht1 : ∀ (s : Shared) (H : Hp) (C : Addr) (cl : List (Str × Addr)) (fp : List Addr), DQs (X.blk s H scope (compEnvC scope cl C X.env) fp) c ifs1 tq1)
    (he : ∀ (s : Shared) (H : Hp) (C : Addr) (cl : List (Str × Addr)) (fp : List Addr), DE (X.blk s H scope (compEnvC scope cl C X.env) fp) c elt te)
    (hy : X.N[i]? = some y := by rfl) (hyl : X.env.scope.names.lookup y = some .local := by rfl)
    (hvs : ∀ i ∈ bd.slots, i ∈ own.map (·.2) := by decide) (hvs1 : ∀ i ∈ bd1.slots, i ∈ vs1 := by decide) (h12 : ∀ i ∈ vs1, i ∈ own.map (·.2) := by decide) (hs : ∀ x, foldedSetIterable iter X.env x = pure x := by intro _; rfl) (hs1 : ∀ env x, foldedSetIterable iter1 env x = pure x := by intro _ _; rfl) :
    DS X c (.Assign [.Name y py] (.ListComp elt [⟨tg, iter, ifs, 0⟩, ⟨tg1, iter1, ifs1, 0⟩] scope pos) spos) (sAsg i (tLc2X ti bd tq ti1 bd1 tq1 te (own.map (·.2)) vs1)) :=
  psImp (ps_setLc2 (wi1 := TIo X.K c ti1) (g1 := bd1.tg X.K) (tt := TTo X.K c tq) (tt1 := TTo X.K c tq1) (te := TEo X.K c te) hc hN hy hyl hsw hi (blkOk_by ok) h12 hg ht hi1 hg1 ht1 he hs hs1) fun D σ H h => lc2_of hvs hvs1 h12 (sAsg_of h)
end
end
end Y
namespace Y
open PySem PySem.Spec L2
/-! ### {k: v for ..}: the new dict's keys ints and texts (tup = false), or tuples of them (tup = true) -/
def dcNew (tup : Bool) : HO := if tup = true then .dT [] else .dK []
def DcPut (tup : Bool) (D : Addr) (y z : V) (H : Hp) (Nx : Hp → Prop) : Prop :=
  if tup = true then ∃ kvs k b, y = .ref b ∧ H b = some (.tup (k.map kV)) ∧ H D = some (.dT kvs) ∧ kvs.length < sizeLine ∧ Nx (upd H D (.dT (putK kvs k z)))
  else ∃ kvs k, y = kV k ∧ H D = some (.dK kvs) ∧ kvs.length < sizeLine ∧ Nx (upd H D (.dK (putK kvs k z)))
theorem DcPut.run {X : Cx} {pins : List (Addr × Obj)} {σ : St} {H : Hp} {s : Shared} {tup : Bool} {D : Addr} {y z : V} {u r : Value} {Nx : Hp → Prop} {Q : Unit → Shared → Prop} {E : Value → Shared → Prop} (hu : X.A.units + 1 < cLine) (h : DcPut tup D y z H Nx)
    (I : Inv X pins σ H s) (ry : RelV y u) (rz : RelV z r) (q : ∀ s' H', Inv X pins σ H' s' → Nx H' → Q () s') : wpAny (model X.prog X.w) X.A (dictSet D u r) Q E s := by
  cases tup with
  | false =>
    obtain ⟨kvs, k, rfl, hD, hz, nx⟩ := h
    exact d_dictSet I hD hz ry rz fun s' I' => q s' _ I' nx
  | true =>
    obtain ⟨kvs, k, b, rfl, hb, hD, hz, nx⟩ := h
    cases (show u = Value.ref b from ry)
    obtain ⟨_, _, xs, rel, dd⟩ := dt_of I.hok hD
    have hx : xs.length ≤ sizeLine := by rw [← Paired.length rel]; omega
    have hl := length_putK kvs k z
    exact wpAny_dictSet_heap (hsz := hx) (by show X.A.units < cLine; omega) (key_of I.hok hb) dd fun h' d2 sb => q _ _ (dt_write I hD (by omega) (rel.put k hb rz) sb d2) nx
/-- what one turn of the loop asks -/
def DcTurn (tup : Bool) (J : It) (g : TG) (tt : TT) (tk tv : TE) (σ0 : St) (vs : List Nat) (D : Addr) (W : Nat → Nat → Hp → Prop) (Qd : Hp → Prop) : Prop := ∀ i m H, W i m H →
  (J.stop i H ∧ Qd H) ∨ (J.go i H ∧ ∃ Nx : Hp → Prop, (∀ H', Nx H' → ∃ m', m' < m ∧ W (i + 1) m' H') ∧ ∀ x H', J.yld i H x H' → g x σ0 H' fun σ2 H2 => wipe σ2 vs = σ0 ∧
    tt σ2 H2 fun b H3 => if b = true then tk σ2 H3 fun y H4 => tv σ2 H4 fun z H5 => DcPut tup D y z H5 Nx else Nx H3)
def tDcX (tup : Bool) (wi : TI) (g : TG) (tt : TT) (tk tv : TE) (vs : List Nat) : TE := fun σ H Q => wi σ H fun J H1 => ∀ D, H1 D = none →
  ∃ W : Nat → Nat → Hp → Prop, (∃ m, W 0 m (upd H1 D (dcNew tup))) ∧ DcTurn tup J g tt tk tv (wipe σ vs) vs D W (Q (.ref D))
section
variable {Z X : Cx} {pins : List (Addr × Obj)} {tup : Bool} {D it : Addr} {fp : List Addr} {tn : Nat → Heap → Prop} {J : It} {kx vx tg iter : Expr} {ifs : List Expr} {scope : Scope} {own : List (Str × Nat)} {pos : Pos} {wi : TI} {g : TG} {tt : TT} {tk tv : TE}
theorem dc_loop {R : Result → Shared → Prop} {σ0 : St} {vs : List Nat} {W : Nat → Nat → Hp → Prop} {Qd : Hp → Prop} (quiet : ∀ v s, ¬ Z.xe v s) (hu : Z.A.units + 1 < cLine) (calm : Z.calm = true) (T : Turn Z.prog Z.w Z.K tg J fp it tn)
    (mine : ∀ σ' H' s', Inv Z [] σ' H' s' → (∀ b ∈ fp, H' b = none) → ∀ b ∈ fp, FpOk Z [] H' b) (pg : PG Z tg g) (pt : PTs Z ifs tt) (pk : PE Z kx tk) (pv : PE Z vx tv) (turn : DcTurn tup J g tt tk tv σ0 vs D W Qd)
    (bye : ∀ s' H', Inv Z [] σ0 H' s' → Qd H' → R (.ok .next) s') {m : Nat} {s : Shared} {H : Hp} (I : Inv Z [] σ0 H s) (st : tn 0 s.heap) (nf : ∀ b ∈ fp, H b = none) (w0 : W 0 m H) :
    codeAny (model Z.prog Z.w) Z.A (.compLoop (.DictComp kx vx [⟨tg, iter, ifs, 0⟩] scope pos) 0 (.ref it) (.ref D) Z.env) R s := by
  let Stand : Nat → Shared → Prop := fun n s' => ∃ j H', Inv Z [] σ0 H' s' ∧ tn j s'.heap ∧ (∀ b ∈ fp, H' b = none) ∧ W j n H'
  have quiet' : ∀ {α : Type} {t : Sem α} {Q Q' : α → Shared → Prop} {E : Value → Shared → Prop} {s : Shared}, wpAny (model Z.prog Z.w) Z.A t Q Z.xe s → (∀ a s, Q a s → Q' a s) → wpAny (model Z.prog Z.w) Z.A t Q' E s :=
    fun a b => wpAny_mono a b fun v s z => (quiet v s z).elim
  refine compLoop_anyD Stand ?_ m ⟨0, H, I, st, nf, w0⟩
  rintro n sa ⟨j, Ha, Ia, sta, nfa, wa⟩
  have ours := mine _ _ _ Ia nfa
  rcases turn j n Ha wa with ⟨halt, goal⟩ | ⟨more, Nx, less, step⟩
  · refine thn (T.done Z rfl rfl rfl calm j [] sa _ Ha _ Ia ours sta halt) ?_
    rintro _ sb ⟨rfl, Ib⟩
    exact bye sb Ha Ib goal
  · refine thn (T.item Z rfl rfl rfl calm j [] sa _ Ha _ Ia ours sta more) ?_
    rintro _ sb ⟨u, rfl, next⟩
    refine thn next ?_
    rintro _ sc ⟨x, Hc, Ic, rx, yx, stc, nfc⟩
    have objs := T.obj _ _ stc
    refine quiet' (pg.run _ sc _ Hc x u _ (Ic.pinned (mine _ _ _ Ic nfc) objs) rx (step x Hc yx)) ?_
    rintro _ sd ⟨σd, Hd, Id, wd, kd⟩
    have back : ∀ {s' : Shared} {H' : Hp}, Inv Z ([] ++ pinsAt fp sc.heap) σd H' s' → Nx H' → ∃ m', m' < n ∧ Stand m' s' := by
      intro s' H' I' nx
      have kept : ∀ b ∈ fp, ∀ u, sc.heap.get? b = some u → s'.heap.get? b = some u ∧ H' b = none := fun b hb u e => by
        have := I'.pin (b, u) (by simp [mem_pinsAt hb e])
        exact ⟨this.1, this.2.1⟩
      obtain ⟨m', lt, w'⟩ := less H' nx
      have shorter : σ0.length = σd.length := by rw [← wd]; exact wipe_length σd vs
      exact ⟨m', lt, j + 1, H', I'.unpinned.weak shorter fun i v e => by rw [← wd] at e; exact (wipe_some e).1, T.keep _ _ _ stc fun b hb u e => (kept b hb u e).1,
        fun b hb => let ⟨u, e, _⟩ := objs b hb; (kept b hb u e).2, w'⟩
    refine quiet' (pt.run _ sd σd Hd _ Id kd) ?_
    rintro yes se ⟨He, Ie, ke⟩
    cases yes with
    | false => exact back Ie ke
    | true =>
      refine quiet' (pk.run _ se σd He _ Ie ke) ?_
      rintro uk sf ⟨yk, Hf, If, rk, kf⟩
      refine quiet' (pv.run _ sf σd Hf _ If kf) ?_
      rintro uv sg ⟨yv, Hg, Ig, rv, kg⟩
      exact kg.run hu Ig rk rv fun s' H' I' nx => back I' nx

theorem dcx_core {s : Shared} {σ : St} {H : Hp} {Q : VK} {pos' : Pos} {use : Option (Value → Sem Unit)} {Qf : Value → Shared → Prop} (hu : X.A.units + 1 < cLine) (calm : X.calm = true) (nd : X.N.Nodup) (I : Inv X pins σ H s) (hi : PI X tg iter wi) (ok : BlkOk X.N X.env.scope scope own)
    (hg : ∀ (s : Shared) (H : Hp) (C : Addr) (cl : List (Str × Addr)) (fp : List Addr), PG (X.blk s H scope (compEnvC scope cl C X.env) fp) tg g) (ht : ∀ (s : Shared) (H : Hp) (C : Addr) (cl : List (Str × Addr)) (fp : List Addr), PTs (X.blk s H scope (compEnvC scope cl C X.env) fp) ifs tt)
    (hk : ∀ (s : Shared) (H : Hp) (C : Addr) (cl : List (Str × Addr)) (fp : List Addr), PE (X.blk s H scope (compEnvC scope cl C X.env) fp) kx tk)
    (he : ∀ (s : Shared) (H : Hp) (C : Addr) (cl : List (Str × Addr)) (fp : List Addr), PE (X.blk s H scope (compEnvC scope cl C X.env) fp) vx tv) (plain : ∀ x, foldedSetIterable iter X.env x = pure x)
    (h : tDcX tup wi g tt tk tv (own.map (·.2)) σ H Q)
    (done : ∀ D C s' m H', Inv X pins σ H' s' → Q (.ref D) H' → s'.heap.Ns C m → FpOk X pins H' C → compPost (model X.prog X.w) X.A X.xe use Qf (.ref D) C (.ok .next) s') :
    wpAny (model X.prog X.w) X.A (comprehension (.DictComp kx vx [⟨tg, iter, ifs, 0⟩] scope pos) scope X.env pos' newDict false (eval iter X.env) use) Qf X.xe s := by
  have closed := closure_ok (scope := scope) (env := X.env) fun y hy e => I.ok.has y.1 (ok.free y hy e)
  refine wpAny_comprehension_free (use := use) rfl plain closed ok.kind (fun y hy e => (ok.uniq y hy).trans (by rw [e])) (thn (hi.run pins s σ H _ I h) fun _ s1 h1 => thn h1 ?_)
  rintro _ s2 ⟨it, fp, tn, J, H2, rfl, I2, T, st2, own2, q⟩
  refine wpAny_newObj_type (newEnv_comp ?_)
  let D := s2.heap.objs.size
  obtain ⟨W, ⟨m0, w0⟩, turn⟩ := q D (I2.hok.fresh (Nat.le_refl _))
  -- the new dict stands
  let s3 : Shared := { s2 with heap := s2.heap.push { cls := .type "dict", data := .dict #[] } }
  let H3 : Hp := upd H2 D (dcNew tup)
  let C := s3.heap.objs.size
  have up : ∀ b u, s2.heap.get? b = some u → s3.heap.get? b = some u := fun b u e => Heap.get?_push_of_some _ e
  have I3 : Inv X pins σ H3 s3 := by
    refine I2.laid (t' := s2.toks) up (Nat.le_refl _) ?_
    cases tup
    · exact dk_empty s2.heap I2.big
    · exact dt_empty s2.heap I2.big
  have below : ∀ b ∈ fp, b < D := fun b hb => let ⟨_, e, _⟩ := T.obj _ _ st2 b hb; Heap.lt_size e
  have own3 : ∀ b ∈ fp, FpOk X pins H3 b ∧ b < C := fun b hb =>
    ⟨⟨(upd_ne (Nat.ne_of_lt (below b hb))).trans (own2 b hb).1, (own2 b hb).2⟩, by show b < (s2.heap.push _).objs.size; rw [Heap.size_push]; exact Nat.lt_succ_of_lt (below b hb)⟩
  have I4 := block_start I3 ok nd own3
  let cl := cellsFrom (C + 1) scope.names (cloFrom X.env.cells scope.names [])
  let ce := compEnvC scope cl C X.env
  let Z := X.blk s3 H3 scope ce fp
  let s4 : Shared := { s3 with heap := pushCells (s3.heap.push { cls := .type "dict", data := .dict #[] }) scope.names }
  have st4 : tn 0 s4.heap := T.keep _ _ _ st2 fun b _ u e => pushCells_keeps _ _ _ _ (Heap.get?_push_of_some _ (up b u e))
  have loop : codeAny (model X.prog X.w) X.A (.compLoop (.DictComp kx vx [⟨tg, iter, ifs, 0⟩] scope pos) 0 (.ref it) (.ref D) ce) (compPost (model X.prog X.w) X.A X.xe use Qf (.ref D) C) s4 := by
    refine dc_loop (Z := Z) (fun _ _ f => f) hu calm T ?_ (hg s3 H3 C cl fp) (ht s3 H3 C cl fp) (hk s3 H3 C cl fp) (he s3 H3 C cl fp) turn ?_ I4 st4 (fun b hb => (own3 b hb).1.1) w0
    · intro σ' H' s' I' nf b hb
      exact ⟨nf b hb, (I'.ok.exf b hb).1, I'.ok.exfs b hb, .inl hb, fun x c e => (I'.ok.exf b hb).2 x c e, fun p hp => by cases hp⟩
    · intro s' H' I' k
      have I5 : Inv X pins σ H' s' := I3.call' (ch := fp) I'.os I'.base I'.hok I'.bare fun b hb => ⟨(own3 b hb).1.2.2.2.1, (own3 b hb).1.2.1, (own3 b hb).1.2.2.2.2.1, (own3 b hb).1.2.2.2.2.2⟩
      obtain ⟨m, ns, _⟩ := I'.loc
      exact done D C s' m H' I5 k ns (I3.fpOk (Nat.le_refl _) I'.free)
  exact codeAny_compStart_dict loop (T.self X.A 0 _ _ _ st4 loop)
theorem pe_dcx (hu : X.A.units + 1 < cLine) (calm : X.calm = true) (nd : X.N.Nodup) (hi : PI X tg iter wi) (ok : BlkOk X.N X.env.scope scope own)
    (hg : ∀ (s : Shared) (H : Hp) (C : Addr) (cl : List (Str × Addr)) (fp : List Addr), PG (X.blk s H scope (compEnvC scope cl C X.env) fp) tg g) (ht : ∀ (s : Shared) (H : Hp) (C : Addr) (cl : List (Str × Addr)) (fp : List Addr), PTs (X.blk s H scope (compEnvC scope cl C X.env) fp) ifs tt)
    (hk : ∀ (s : Shared) (H : Hp) (C : Addr) (cl : List (Str × Addr)) (fp : List Addr), PE (X.blk s H scope (compEnvC scope cl C X.env) fp) kx tk)
    (he : ∀ (s : Shared) (H : Hp) (C : Addr) (cl : List (Str × Addr)) (fp : List Addr), PE (X.blk s H scope (compEnvC scope cl C X.env) fp) vx tv) (plain : ∀ x, foldedSetIterable iter X.env x = pure x := by intro _; rfl) :
    PE X (.DictComp kx vx [⟨tg, iter, ifs, 0⟩] scope pos) (tDcX tup wi g tt tk tv (own.map (·.2))) := by
  constructor
  intro pins s σ H Q I h
  rw [arm_eval_DictComp]
  refine dcx_core hu calm nd I hi ok hg ht hk he plain h ?_
  rintro D C s' m H' I' q ns ⟨f0, f1, _, f3, f4, f5⟩
  exact ⟨m, ns, fun _ sb => ⟨.ref D, H', I'.turned (t' := s'.toks) (fun b u ne e => (sb.2 b ne).trans e) f0 f1 f3 f4 f5, rfl, q⟩⟩
theorem ps_setDcx {i : Nat} {y : Str} {py spos : Pos} (hu : X.A.units + 1 < cLine) (calm : X.calm = true) (nd : X.N.Nodup) (at_ : X.N[i]? = some y) (loc : X.env.scope.names.lookup y = some .local)
    (sw : swapsWith (.DictComp kx vx [⟨tg, iter, ifs, 0⟩] scope pos) (some (.Name y py)) spos.line X.env = pure true) (hi : PI X tg iter wi) (ok : BlkOk X.N X.env.scope scope own)
    (hg : ∀ (s : Shared) (H : Hp) (C : Addr) (cl : List (Str × Addr)) (fp : List Addr), PG (X.blk s H scope (compEnvC scope cl C X.env) fp) tg g) (ht : ∀ (s : Shared) (H : Hp) (C : Addr) (cl : List (Str × Addr)) (fp : List Addr), PTs (X.blk s H scope (compEnvC scope cl C X.env) fp) ifs tt)
    (hk : ∀ (s : Shared) (H : Hp) (C : Addr) (cl : List (Str × Addr)) (fp : List Addr), PE (X.blk s H scope (compEnvC scope cl C X.env) fp) kx tk)
    (he : ∀ (s : Shared) (H : Hp) (C : Addr) (cl : List (Str × Addr)) (fp : List Addr), PE (X.blk s H scope (compEnvC scope cl C X.env) fp) vx tv) (plain : ∀ x, foldedSetIterable iter X.env x = pure x := by intro _; rfl) :
    PS X (.Assign [.Name y py] (.DictComp kx vx [⟨tg, iter, ifs, 0⟩] scope pos) spos) (tAsg (tDcX tup wi g tt tk tv (own.map (·.2))) (gName i)) := by
  constructor
  intro pins s σ H D I h
  rw [exec_Assign_Name_used _ _ _ _ sw]
  refine wpAny_bind (wpAny_standAt (wpAny_bind ?_))
  show wpAny _ X.A (do let _ ← comprehension (.DictComp kx vx [⟨tg, iter, ifs, 0⟩] scope pos) scope X.env (firstIterPos [⟨tg, iter, ifs, 0⟩] pos) newDict false (eval iter X.env) (some (assign (.Name y py) X.env))) _ _ s
  refine wpAny_bind (thn (dcx_core (Q := fun x H1 => gName i x σ H1 D.nx) (Qf := fun _ s' => SP X pins D .next s') hu calm nd I hi ok hg ht hk he plain h ?_) fun _ _ k => wpAny_pure (wpAny_pure k))
  rintro d C s' m H' I' q ns ⟨f0, f1, _, f3, f4, f5⟩
  refine wpAny_assign_Name (store_ok2 (v := V.ref d) I' nd at_ (.inl loc) rfl ?_ (.inr loc))
  rintro s5 I5 ⟨a, sb, way⟩
  have apart : C ≠ a := way.elim (fun z => by rw [z]; exact f1) fun z e => f4 y a z e.symm
  exact ⟨m, ns.sameBut sb apart, fun _ sb3 => ⟨_, H', I5.turned (t' := s5.toks) (fun b u ne e => (sb3.2 b ne).trans e) f0 f1 f3 f4 f5, q⟩⟩
theorem sw_dc {kx vx : Expr} {gs : List Comprehension} {scope : Scope} {pos py : Pos} {y : Str} {l : Nat} {env : PySem.Env} (hk : env.scope.kind = .function) (hy : env.scope.names.lookup y = some .local) (hl : (py.line == pos.line) = true)
    (ha : (scope.names.any fun (n, k) => n == y && (k == .local || k == .cell)) = false) : swapsWith (.DictComp kx vx gs scope pos) (some (.Name y py)) l env = pure true := by
  have e1 : env.kindOf y = some .local := hy
  have e2 : env.blockKind = .function := by unfold Env.blockKind; rw [hk]; rfl
  simp only [swapsWith, e1, e2, ha, Expr.pos, hl]
  rfl
end
section
variable {K : PySem.W.Frag} {c : Cc} {o o' : Own} {σ σ' : St} {H H' : Hp} {ρ ρ' : Env} {τ τ' : List (V × M)} {X : Cx}
/-- the pairs so far, and one more -/
def dcAdd (tup : Bool) (m : M) (k v : D) (G : M → Prop) : Prop := if tup = true then match m, k with
    | .dt kvs, .tup ks => match D.keys? ks with
      | some k => kvs.length < sizeLine ∧ G (.dt (putD kvs k v))
      | none => False
    | _, _ => False
  else match m with
    | .dk kvs => match k.key? with
      | some k => kvs.length < sizeLine ∧ G (.dk (putD kvs k v))
      | none => False
    | _ => False
def mNew (tup : Bool) : M := if tup = true then .dt [] else .dk []
def dcL (tup : Bool) (b : Bd) (tq : TQ) (tk tv : TX) (vs : List Nat) (gd : Env → Prop) (k : M → Env → Prop) : List D → M → Env → Prop
  | [], acc, ρ => gd ρ ∧ k acc ρ
  | d :: ds, acc, ρ => gd ρ ∧ bnd b d ρ fun ρ1 => tq ρ1 fun ok ρ2 =>
    if ok = true then tFrz (lCons tk (lCons tv lNil)) (fun xs ρ3 => match xs with
      | [x, y] => dcAdd tup acc x y fun acc' => dcL tup b tq tk tv vs gd k ds acc' (wipeE ρ3 vs)
      | _ => False) ρ2
    else dcL tup b tq tk tv vs gd k ds acc (wipeE ρ2 vs)
theorem le_tmp {a : Addr} {j : Nat} {w : HO} (ho : o a = some (.t j)) : Le o H o (upd H a w) :=
  ⟨fun b u q f => ⟨q, (upd_ne fun z => by rw [z, ho] at q; cases q).trans f⟩, fun b q => ⟨q, upd_ne fun z => by rw [z, ho] at q; cases q⟩⟩
theorem dcAdd_ok {tup : Bool} {D0 : Addr} {m : M} {vk vx : V} {dk dx : D} {G : M → Prop} {Nx : Hp → Prop} (R0 : Rep K c o σ H ρ (τ ++ [(.ref D0, m)])) (d1 : Dat K o H vk dk) (d2 : Dat K o H vx dx) (h : dcAdd tup m dk dx G)
    (q : ∀ H' m', Rep K c o σ H' ρ (τ ++ [(.ref D0, m')]) → Le o H o H' → G m' → Nx H') : DcPut tup D0 vk vx H Nx := by
  have last := (R0.tm τ.length (.ref D0) m (by simp)).1
  cases tup with
  | true =>
    unfold dcAdd at h
    rw [if_pos rfl] at h
    split at h
    · rename_i kvs ks'
      split at h
      · rename_i ky ek
        obtain ⟨a, ks, e, ho, hH, dd⟩ := last
        cases e
        cases d1 with
        | tup t r =>
          have ek' := r.keys ek
          subst ek'
          refine ⟨ks, ky, _, rfl, t.2, hH, by rw [dd.length]; exact h.1, ?_⟩
          obtain ⟨R1, L1⟩ := R0.setT (m' := .dt (putD kvs ky dx)) (u := .dT (putK ks ky vx)) ho trivial rfl ⟨_, _, rfl, ho, upd_same, Kvs.mono (le_tmp ho) (dd.put ky d2)⟩
          exact q _ _ R1 L1 h.2
      · exact h.elim
    · exact h.elim
  | false =>
    unfold dcAdd at h
    rw [if_neg (by simp)] at h
    split at h
    · rename_i kvs
      split at h
      · rename_i ky ek
        obtain ⟨a, ks, e, ho, hH, dd⟩ := last
        cases e
        have ek' := d1.key ek
        subst ek'
        refine ⟨ks, ky, rfl, hH, by rw [dd.length]; exact h.1, ?_⟩
        obtain ⟨R1, L1⟩ := R0.setT (m' := .dk (putD kvs ky dx)) (u := .dK (putK ks ky vx)) ho trivial rfl ⟨_, _, rfl, ho, upd_same, Kvs.mono (le_tmp ho) (dd.put ky d2)⟩
        exact q _ _ R1 L1 h.2
      · exact h.elim
    · exact h.elim
theorem dcl_ok {tup : Bool} {J : It} {ds : List D} {bd : Bd} {tq : TQ} {tk tv : TX} {vs : List Nat} {gd : Env → Prop} {k : M → Env → Prop} {C : Own → Hp → Prop} {o1 : Own} {H1 : Hp} {Qd : Hp → Prop} {L : Addr} {m0 : M} (hr : Runs K J ds C) (hvs : ∀ i ∈ bd.slots, i ∈ vs)
    (hc : ∀ o' H' ρ' τ', Le o1 H1 o' H' → Rep K c o' (L2.wipe σ vs) H' ρ' τ' → gd ρ' → C o' H') (R0 : Rep K c o1 (L2.wipe σ vs) H1 ρ (τ ++ [(.ref L, m0)]))
    (h : dcL tup bd tq tk tv vs gd k ds m0 ρ)
    (q : ∀ o' H' ρ' m, Le o1 H1 o' H' → Rep K c o' (L2.wipe σ vs) H' ρ' (τ ++ [(.ref L, m)]) → gd ρ' → k m ρ' → Qd H') :
    ∃ W : Nat → Nat → Hp → Prop, (∃ m, W 0 m H1) ∧ DcTurn tup J (bd.tg K) (TTo K c tq) (TEo K c tk) (TEo K c tv) (L2.wipe σ vs) vs L W Qd := by
  let At : Nat → Hp → Prop := fun i H => ∃ o ρ m, Le o1 H1 o H ∧ Rep K c o (L2.wipe σ vs) H ρ (τ ++ [(.ref L, m)]) ∧ dcL tup bd tq tk tv vs gd k (ds.drop i) m ρ
  refine ⟨fun i n H => n = ds.length - i ∧ i ≤ ds.length ∧ At i H, ⟨ds.length, by simp, Nat.zero_le _, o1, ρ, m0, .refl, R0, by simpa using h⟩, ?_⟩
  rintro i n H ⟨rfl, hi, o, ρ, m, Lo, R, h⟩
  by_cases hlt : i < ds.length
  · rw [show ds.drop i = ds[i] :: ds.drop (i + 1) from List.drop_eq_getElem_cons hlt] at h
    obtain ⟨hg, h⟩ := h
    obtain ⟨go, yl⟩ := (hr o H (hc o H ρ _ Lo R hg) R.mu).1 i ds[i] (by simp [hlt])
    refine .inr ⟨go, At (i + 1), fun H' at' => ⟨ds.length - (i + 1), by omega, rfl, hlt, at'⟩, fun x H' y => ?_⟩
    obtain ⟨g, dx⟩ := yl x H' y
    refine bnd_ok (R.grow g) dx h fun σ' ρ' R' hw hf => ?_
    have same : L2.wipe σ' vs = L2.wipe σ vs := by rw [hw vs hvs, wipe_idem]
    have L2' : Le o1 H1 o H' := Lo.trans (g.le R.mu)
    refine ⟨same, o, ρ', _, _, R', hf, fun b H3 o3 ρ3 L3 R3 h3 => ?_⟩
    cases b with
    | false =>
      have R4 := R3.wipe vs
      rw [same] at R4
      exact ⟨o3, _, m, L2'.trans L3, R4, h3⟩
    | true =>
      refine ⟨o3, ρ3, _, _, R3, h3, fun v1 H4 o4 r1 ρ4 τ4 L4 R4 z1 h4 => ?_⟩
      refine ⟨o4, ρ4, _, _, R4, h4, fun v2 H5 o5 r2 ρ5 τ5 L5 R5 z2 h5 => ?_⟩
      have h5 : match froz ρ5 [r1, r2] with
        | some (ds', ρ6) => (match ds' with
          | [x, y] => dcAdd tup m x y fun acc' => dcL tup bd tq tk tv vs gd k (ds.drop (i + 1)) acc' (wipeE ρ6 vs)
          | _ => False)
        | none => False := h5
      split at h5
      · rename_i ds' ρ6 e
        have zz : RelRs K o5 H5 σ' [v1, v2] [r1, r2] (τ ++ [(.ref L, m)]) τ5 := .cons (z1.mono L5) (.cons z2 .nil)
        have R6 := R5.drop zz.pre
        have els := zz.els (ρ0 := ρ5) (base := (τ ++ [(V.ref L, m)]).length) (Nat.le_refl _) fun j v m e => (R5.tm j v m e).1
        obtain ⟨o6, L6, R7, dd⟩ := froz_ok R6 els e
        split at h5
        · rename_i x y
          cases dd with
          | cons a t =>
            cases t with
            | cons a' t' =>
              cases t'
              refine dcAdd_ok R7 a a' h5 fun H8 m' R8 L8 h8 => ?_
              have R9 := R8.wipe vs
              rw [same] at R9
              exact ⟨o6, _, m', L2'.trans (L3.trans (L4.trans (L5.trans ((dropT_le _).trans (L6.trans L8))))), R9, h8⟩
        · exact h5.elim
      · exact h5.elim
  · have e : i = ds.length := by omega
    subst e
    rw [List.drop_length] at h
    exact .inl ⟨(hr o H (hc o H ρ _ Lo R h.1) R.mu).2, q o H ρ m Lo R h.1 h.2⟩
/-- (a source that is no name's own list) -/
def tDc (tup : Bool) (ti : TSrc) (b : Bd) (tq : TQ) (tk tv : TX) (vs : List Nat) : TX := fun ρ Q => ti ρ fun src ρ1 => match src with
  | .fx ds => dcL tup b tq tk tv vs (fun _ => True) (fun m ρ' => Q (.tm m) (restE ρ1 ρ' vs)) ds (mNew tup) (wipeE ρ1 vs)
  | .sl i es ds => match ρ1[i]? with
    | some s => match s.m! with
      | some m => m = .ls es ∧ ∀ v, dcL tup b tq tk tv vs (fun ρ => ρ[i]? = some (.hd s.isP v m)) (fun m' ρ' => Q (.tm m') ((restE ρ1 ρ' vs).set i s)) ds (mNew tup) (wipeE (ρ1.set i (.hd s.isP v m)) vs)
      | none => False
    | none => False
  | .hs i p v es ds => dcL tup b tq tk tv vs (fun ρ => ρ[i]? = some (.hd p v (.ls es))) (fun m ρ' => Q (.tm m) (restE ρ1 ρ' vs)) ds (mNew tup) (wipeE ρ1 vs)
theorem dc_of {tup : Bool} {ti : TSrc} {bd : Bd} {tq : TQ} {tk tv : TX} {vs : List Nat} {k : VK} (hvs : ∀ i ∈ bd.slots, i ∈ vs) (h : TEo K c (tDc tup ti bd tq tk tv vs) σ H k) : tDcX tup (TIo K c ti) (bd.tg K) (TTo K c tq) (TEo K c tk) (TEo K c tv) vs σ H k := by
  obtain ⟨o, ρ, τ, Q, R0, h, q⟩ := h
  refine ⟨o, ρ, τ, _, R0, h, fun J H1 o1 ρ1 src L1 R1 ok h1 => ?_⟩
  intro L hL
  have push : ∀ {o2 : Own} {ρ2 : Env}, Rep K c o2 σ H1 ρ2 τ → Rep K c (fun b => if b = L then some (.t τ.length) else o2 b) σ (upd H1 L (dcNew tup)) ρ2 (τ ++ [(.ref L, mNew tup)]) ∧ Le o2 H1 (fun b => if b = L then some (.t τ.length) else o2 b) (upd H1 L (dcNew tup)) := by
    intro o2 ρ2 R2
    cases tup
    · exact R2.push (m := .dk []) (u := .dK []) hL trivial rfl ⟨L, [], rfl, by simp, upd_same, .nil⟩
    · exact R2.push (m := .dt []) (u := .dT []) hL trivial rfl ⟨L, [], rfl, by simp, upd_same, .nil⟩
  cases src with
  | fx ds =>
    obtain ⟨R2, L2'⟩ := push R1
    refine dcl_ok (C := fun o' H' => Le o1 H1 o' H') ok hvs (fun o' H' ρ' τ' L' R' _ => L2'.trans L') (R2.wipe vs) h1 fun o' H' ρ' m L' R' _ hk => ?_
    exact q _ H' o' (.tm m) _ _ (L1.trans (L2'.trans L')) (Rep.rest R1 (L2'.trans L') R') rfl hk
  | sl i es ds =>
    obtain ⟨v0, hv0, ok⟩ := ok
    have h1 : (match ρ1[i]? with
      | some s => match s.m! with
        | some m => m = .ls es ∧ ∀ v, dcL tup bd tq tk tv vs (fun ρ => ρ[i]? = some (.hd s.isP v m)) (fun m' ρ' => Q (.tm m') ((restE ρ1 ρ' vs).set i s)) ds (mNew tup) (wipeE (ρ1.set i (.hd s.isP v m)) vs)
        | none => False
      | none => False) := h1
    split at h1
    · rename_i s e
      split at h1
      · rename_i m em
        obtain ⟨rfl, h1⟩ := h1
        obtain ⟨v, hv, R2⟩ := R1.hide e em
        rw [hv0] at hv; cases hv
        have L2' : Le o1 H1 (relL (.s i) (.h i) o1) H1 := relL_le (by intro z; cases z)
        obtain ⟨R3, L3⟩ := push R2
        refine dcl_ok (C := fun o' H' => ∃ l, IsM K o' H' l v0 (.ls es)) ok hvs (fun o' H' ρ' τ' L' R' g => ?_) (R3.wipe vs) (h1 v0) fun o' H' ρ' m' L' R' g hk => ?_
        · obtain ⟨_, _, q⟩ := R'.sl i _ g
          exact ⟨_, q⟩
        · obtain ⟨hw, _, _⟩ := R'.sl i _ g
          have hi := (wipe_some hw).2
          have R4 := Rep.rest R1 (L2'.trans (L3.trans L')) R'
          obtain ⟨R5, L5⟩ := R4.unhide (i := i) (p := s.isP) (v := v0) (m := .ls es) (by rw [rest_out hi]; exact g)
          rw [up_back em] at R5
          exact q _ H' _ (.tm m') _ _ (L1.trans (L2'.trans (L3.trans (L'.trans L5)))) R5 rfl hk
      · exact h1.elim
    · exact h1.elim
  | hs i p v es ds =>
    obtain ⟨R2, L2'⟩ := push R1
    refine dcl_ok (C := fun o' H' => ∃ l, IsM K o' H' l v (.ls es)) ok hvs (fun o' H' ρ' τ' L' R' g => ?_) (R2.wipe vs) h1 fun o' H' ρ' m L' R' _ hk => ?_
    · obtain ⟨_, _, q⟩ := R'.sl i _ g
      exact ⟨_, q⟩
    · exact q _ H' o' (.tm m) _ _ (L1.trans (L2'.trans L')) (Rep.rest R1 (L2'.trans L') R') rfl hk
section
variable {kx vx tg iter : Expr} {ifs : List Expr} {scope : Scope} {own : List (Str × Nat)} {pos : Pos} {ti : TSrc} {bd : Bd} {tq : TQ} {tk tv : TX}
theorem de_dc (tup : Bool) (hu : X.A.units + 1 < cLine) (hc : X.calm = true) (hN : X.N.Nodup) (hi : DI X c tg iter ti) (ok : blkC X.N X.env.scope scope own = true)
    (hg : ∀ (s : Shared) (H : Hp) (C : Addr) (cl : List (Str × Addr)) (fp : List Addr), PG (X.blk s H scope (compEnvC scope cl C X.env) fp) tg (bd.tg X.K))
    (ht : ∀ (s : Shared) (H : Hp) (C : Addr) (cl : List (Str × Addr)) (fp : List Addr), DQs (X.blk s H scope (compEnvC scope cl C X.env) fp) c ifs tq)
    (hk : ∀ (s : Shared) (H : Hp) (C : Addr) (cl : List (Str × Addr)) (fp : List Addr), DE (X.blk s H scope (compEnvC scope cl C X.env) fp) c kx tk)
    (he : ∀ (s : Shared) (H : Hp) (C : Addr) (cl : List (Str × Addr)) (fp : List Addr), DE (X.blk s H scope (compEnvC scope cl C X.env) fp) c vx tv)
    (hvs : ∀ i ∈ bd.slots, i ∈ own.map (·.2) := by decide) (hs : ∀ x, foldedSetIterable iter X.env x = pure x := by intro _; rfl) : DE X c (.DictComp kx vx [⟨tg, iter, ifs, 0⟩] scope pos) (tDc tup ti bd tq tk tv (own.map (·.2))) :=
  peImp (pe_dcx (tup := tup) (tt := TTo X.K c tq) (tk := TEo X.K c tk) (tv := TEo X.K c tv) hu hc hN hi (blkOk_by ok) hg ht hk he hs) fun σ H k h => dc_of hvs h
theorem ds_setDc (tup : Bool) {i : Nat} {y : Str} {py spos : Pos} (hu : X.A.units + 1 < cLine) (hc : X.calm = true) (hN : X.N.Nodup) (hsw : swapsWith (.DictComp kx vx [⟨tg, iter, ifs, 0⟩] scope pos) (some (.Name y py)) spos.line X.env = pure true) (hi : DI X c tg iter ti) (ok : blkC X.N X.env.scope scope own = true)
    (hg : ∀ (s : Shared) (H : Hp) (C : Addr) (cl : List (Str × Addr)) (fp : List Addr), PG (X.blk s H scope (compEnvC scope cl C X.env) fp) tg (bd.tg X.K))
    (ht : ∀ (s : Shared) (H : Hp) (C : Addr) (cl : List (Str × Addr)) (fp : List Addr), DQs (X.blk s H scope (compEnvC scope cl C X.env) fp) c ifs tq)
    (hk : ∀ (s : Shared) (H : Hp) (C : Addr) (cl : List (Str × Addr)) (fp : List Addr), DE (X.blk s H scope (compEnvC scope cl C X.env) fp) c kx tk)
    (he : ∀ (s : Shared) (H : Hp) (C : Addr) (cl : List (Str × Addr)) (fp : List Addr), DE (X.blk s H scope (compEnvC scope cl C X.env) fp) c vx tv)
    (hy : X.N[i]? = some y := by rfl) (hyl : X.env.scope.names.lookup y = some .local := by rfl) (hvs : ∀ i ∈ bd.slots, i ∈ own.map (·.2) := by decide) (hs : ∀ x, foldedSetIterable iter X.env x = pure x := by intro _; rfl) :
    DS X c (.Assign [.Name y py] (.DictComp kx vx [⟨tg, iter, ifs, 0⟩] scope pos) spos) (sAsg i (tDc tup ti bd tq tk tv (own.map (·.2)))) :=
  psImp (ps_setDcx (tup := tup) (tt := TTo X.K c tq) (tk := TEo X.K c tk) (tv := TEo X.K c tv) hu hc hN hy hyl hsw hi (blkOk_by ok) hg ht hk he hs) fun D σ H h => dc_of hvs (sAsg_of h)
end
end
end Y
namespace Y
open PySem PySem.Spec L2
/-! ### the module's own tables: a tuple of flat data, a dict from texts to flat data -/
def D.fl? : D → Option V
  | .non => some .non
  | .bl b => some (.bl b)
  | .int i => some (.int i)
  | .str x => some (.str x)
  | _ => none
theorem fl_dat {K : PySem.W.Frag} {o : Own} {H : Hp} {v : V} {d : D} (e : d.fl? = some v) : Dat K o H v d := by
  cases d with
  | non => cases e; exact .non
  | bl b => cases e; exact .bl b
  | int i => cases e; exact .int i
  | str x => cases e; exact .str x
  | tup _ => cases e
  | lst _ => cases e
  | raw _ => cases e
def Gv (d : D) (u : Value) : Prop := ∃ v, d.fl? = some v ∧ RelV v u
theorem Gv.str {x : Str} {t : Tok} : Gv (.str x) (.str x t) := ⟨_, rfl, t, rfl⟩
theorem Gv.int {i : Int} {t : Tok} : Gv (.int i) (.int i t) := ⟨_, rfl, t, rfl⟩
theorem Gv.bl {b : Bool} : Gv (.bl b) (.bool b) := ⟨_, rfl, rfl⟩
theorem Gv.non : Gv .non .none := ⟨_, rfl, rfl⟩
def tabGet : List (Str × D) → Str → Option D
  | [], _ => none
  | p :: r, z => if p.1 = z then some p.2 else tabGet r z
/-- the name x is the module's dict of these rows -/
def GTab (K : PySem.W.Frag) (w : World) (mg : Str → Option Value) (x : Str) (tab : List (Str × D)) : Prop :=
  ∃ a es n, mg x = some (.ref a) ∧ KDict K w a es n ∧ Paired (fun (e : DictEntry) (p : Str × D) => (∃ t, e.key = .str p.1 t) ∧ Gv p.2 e.val) es.toList tab
/-- the name x is the module's tuple of these -/
def GTup (K : PySem.W.Frag) (mg : Str → Option Value) (x : Str) (ds : List D) : Prop :=
  ∃ a u its n, mg x = some (.ref a) ∧ K.lookup a = some u ∧ u.cls = .type "tuple" ∧ u.data = .seq its n ∧ its.size ≤ sizeLine ∧ Paired (fun (u : Value) (d : D) => Gv d u) its.toList ds
theorem tab_at {K : PySem.W.Frag} {a : Addr} {c : Value} {od : Option Addr} {es : Array DictEntry} {n : Nat} {sl : Array (Option Value)} {tab : List (Str × D)} (hl : K.lookup a = some ⟨c, od, .dict es n, sl⟩)
    (h : Paired (fun (e : DictEntry) (p : Str × D) => (∃ t, e.key = .str p.1 t) ∧ Gv p.2 e.val) es.toList tab) (z : Str) :
    match tabGet tab z with
    | some d => ∃ u, PySem.W.nsIn K a z = some (some u) ∧ Gv d u
    | none => PySem.W.nsIn K a z = some none := by
  unfold PySem.W.nsIn
  rw [hl]
  simp only
  have none_ref : ∀ {l : List DictEntry} {t : List (Str × D)}, Paired (fun (e : DictEntry) (p : Str × D) => (∃ t, e.key = .str p.1 t) ∧ Gv p.2 e.val) l t → l.any (·.refKey) = false := by
    intro l t g
    induction g with
    | nil => rfl
    | cons a _ ih =>
      obtain ⟨⟨t, e⟩, _⟩ := a
      rw [List.any_cons, ih, Bool.or_false]
      unfold DictEntry.refKey
      rw [e]
  rw [none_ref h]
  generalize es.toList = l at h
  induction h with
  | nil => rfl
  | @cons e p l t a _ ih =>
    obtain ⟨⟨tk, ek⟩, gv⟩ := a
    rw [List.find?_cons]
    have isz : e.key.isStr z = decide (p.1 = z) := by
      rw [ek]; unfold Value.isStr
      by_cases q : p.1 = z
      · simp [q]
      · simp [q]
    unfold tabGet
    by_cases q : p.1 = z
    · rw [if_pos q, isz, decide_eq_true q]
      exact ⟨_, rfl, gv⟩
    · rw [if_neg q, isz, decide_eq_false q]
      exact ih
section
variable {K : PySem.W.Frag} {c : Cc} {o o' : Own} {σ σ' : St} {H H' : Hp} {ρ ρ' : Env} {τ τ' : List (V × M)} {X : Cx} {e : Expr} {pos : Pos} {x : Str} {p : Pos}
/-- something is made of one value -/
def tOn (f : D → (D → Prop) → Prop) (t : TX) : TX := fun ρ Q => t ρ fun r ρ1 => match r with
  | .im d => f d fun e => Q (.im e) ρ1
  | _ => False
theorem tOn_of {f : D → (D → Prop) → Prop} {t : TX} {k : VK} {r : V → Hp → VK → Prop} (h : TEo K c (tOn f t) σ H k)
    (hr : ∀ o H v d (G : D → Prop) (k : VK), Dat K o H v d → f d G → (∀ v' e, Dat K o H v' e → G e → k v' H) → r v H k) : tUn r (TEo K c t) σ H k := by
  obtain ⟨o, ρ, τ, Q, R0, h, q⟩ := h
  refine ⟨o, ρ, τ, _, R0, h, fun v1 H1 o1 r1 ρ1 τ1 L1 R1 z1 h1 => ?_⟩
  split at h1
  · rename_i d
    obtain ⟨rfl, z⟩ := z1
    exact hr o1 H1 v1 d _ _ z h1 fun v' e de g => q v' H1 o1 (.im e) ρ1 _ L1 R1 ⟨rfl, de⟩ g
  · exact h1.elim
def fInD (neg : Bool) (tab : List (Str × D)) (d : D) (k : D → Prop) : Prop := match d with
  | .str z => k (.bl (neg ^^ (tabGet tab z).isSome))
  | _ => False
def fInT (neg : Bool) (ds : List D) (d : D) (k : D → Prop) : Prop := D.ok 64 d = true ∧ k (.bl (neg ^^ ds.any fun z => z.eqv d))
def fIxD (tab : List (Str × D)) (d : D) (k : D → Prop) : Prop := match d with
  | .str z => match tabGet tab z with
    | some e => k e
    | none => False
  | _ => False
def rInG (K : PySem.W.Frag) (a : Addr) (tab : List (Str × D)) (neg : Bool) : R2 := fun x y H Q => ∃ z, x = .str z ∧ y = .ref a ∧ Q (.bl (neg ^^ (tabGet tab z).isSome)) H
theorem op_inG {a : Addr} {es : Array DictEntry} {n : Nat} {tab : List (Str × D)} (kd : KDict X.K X.w a es n) (h : Paired (fun (e : DictEntry) (p : Str × D) => (∃ t, e.key = .str p.1 t) ∧ Gv p.2 e.val) es.toList tab) : OpR X (compareOp .In) (rInG X.K a tab false) := by
  intro pins s σ H x y v u Q I rx ry ⟨z, ex, ey, q⟩
  have at_ := tab_at kd.at_ h z
  rw [Bool.false_xor] at q
  cases e : tabGet tab z with
  | none => rw [e] at at_ q; exact op_in_kd kd pins s σ H x y v u Q I rx ry ⟨z, none, ex, ey, at_, q⟩
  | some d => rw [e] at at_ q; obtain ⟨u', at_, _⟩ := at_; exact op_in_kd kd pins s σ H x y v u Q I rx ry ⟨z, some u', ex, ey, at_, q⟩
theorem op_notInG {a : Addr} {es : Array DictEntry} {n : Nat} {tab : List (Str × D)} (kd : KDict X.K X.w a es n) (h : Paired (fun (e : DictEntry) (p : Str × D) => (∃ t, e.key = .str p.1 t) ∧ Gv p.2 e.val) es.toList tab) : OpR X (compareOp .NotIn) (rInG X.K a tab true) := by
  intro pins s σ H x y v u Q I rx ry ⟨z, ex, ey, q⟩
  have at_ := tab_at kd.at_ h z
  rw [Bool.true_xor] at q
  cases e : tabGet tab z with
  | none => rw [e] at at_ q; exact op_notIn_kd kd pins s σ H x y v u Q I rx ry ⟨z, none, ex, ey, at_, q⟩
  | some d => rw [e] at at_ q; obtain ⟨u', at_, _⟩ := at_; exact op_notIn_kd kd pins s σ H x y v u Q I rx ry ⟨z, some u', ex, ey, at_, q⟩
theorem gtup_dp {a : Addr} {u : Obj} {its : Array Value} {n : Nat} {ds : List D} (hl : K.lookup a = some u) (hc : u.cls = .type "tuple") (hd : u.data = .seq its n) (hs : its.size ≤ sizeLine) (h : Paired (fun (u : Value) (d : D) => Gv d u) its.toList ds)
    (ok : D.oks 63 ds = true) : Dp K H (.ref a) (.tuple (D.pys ds)) := by
  obtain ⟨xs, rel, dats⟩ : ∃ xs : List V, Vals xs its.toList ∧ Dats K (fun _ => none) H xs ds := by
    generalize its.toList = l at h
    clear ok hd hs
    induction h with
    | nil => exact ⟨[], .nil, .nil⟩
    | cons a _ ih =>
      obtain ⟨xs, r, dd⟩ := ih
      obtain ⟨v, e, rv⟩ := a
      exact ⟨v :: xs, .cons rv r, .cons (fl_dat e) dd⟩
  exact .tup (.inr ⟨u, its, n, hl, hc, hd, hs, rel⟩) (dats.dp ok)
theorem inT_ok {a : Addr} {u : Obj} {its : Array Value} {n : Nat} {ds : List D} {neg : Bool} (hl : K.lookup a = some u) (hc : u.cls = .type "tuple") (hd : u.data = .seq its n) (hs : its.size ≤ sizeLine) (h : Paired (fun (u : Value) (d : D) => Gv d u) its.toList ds) (ok : D.oks 63 ds = true)
    {o : Own} {H : Hp} {v : V} {d : D} {G : D → Prop} {k : VK} (hv : Dat K o H v d) (hf : fInT neg ds d G) (q : ∀ v' e, Dat K o H v' e → G e → k v' H) : rInT K neg v (.ref a) H k := by
  have e2 : D.ok 64 (.tup ds) = true := by simp only [D.ok]; exact ok
  refine ⟨d.py, D.pys ds, hv.dp hf.1, gtup_dp hl hc hd hs h ok, D.ok_shaped hf.1, by have := D.ok_shaped e2; simpa only [D.py] using this, ?_⟩
  rw [any_eqv]
  exact q _ (.bl _) (.bl _) hf.2
section
variable {t : TX} {tab : List (Str × D)} {ds : List D} {neg : Bool} {op : CmpOp}
theorem inD_of {a : Addr} {k : VK} (h : TEo K c (tOn (fInD neg tab) t) σ H k) : tOp (rInG K a tab neg) (TEo K c t) (tC (.ref a)) σ H k :=
  tOn_of (r := fun x H Q => rInG K a tab neg x (.ref a) H Q) h fun o H v d G k hv hf q => by
    cases hv <;> first | exact hf.elim | exact ⟨_, rfl, rfl, q _ _ (.bl _) hf⟩
theorem de_inG (hg : Gl X x) (g : GTab X.K X.w X.mg x tab) (he : DE X c e t) (hdb : (x == ("__debug__" : Str)) = false := by decide) (hm : behindInMarks .In (.Name x p) = false := by first | exact nomark _ | rfl) : DE X c (.Compare e [.In] [.Name x p] pos) (tOn (fInD false tab) t) :=
  let ⟨a, es, n, m, kd, pr⟩ := g; peImp (pe_cmpR (op_inG kd pr) he (pe_glob (v := .ref a) hg m rfl hdb) hm) fun _ _ _ h => inD_of h
theorem de_notInG (hg : Gl X x) (g : GTab X.K X.w X.mg x tab) (he : DE X c e t) (hdb : (x == ("__debug__" : Str)) = false := by decide) (hm : behindInMarks .NotIn (.Name x p) = false := by first | exact nomark _ | rfl) : DE X c (.Compare e [.NotIn] [.Name x p] pos) (tOn (fInD true tab) t) :=
  let ⟨a, es, n, m, kd, pr⟩ := g; peImp (pe_cmpR (op_notInG kd pr) he (pe_glob (v := .ref a) hg m rfl hdb) hm) fun _ _ _ h => inD_of h
theorem dt_inG (hg : Gl X x) (g : GTab X.K X.w X.mg x tab) (he : DE X c e t) (hdb : (x == ("__debug__" : Str)) = false := by decide) (hm : behindInMarks .In (.Name x p) = false := by first | exact nomark _ | rfl) : DT X c (.Compare e [.In] [.Name x p] pos) (tTst (tOn (fInD false tab) t)) :=
  let ⟨a, es, n, m, kd, pr⟩ := g; ptImp (pt_cmpR (op_inG kd pr) he (pe_glob (v := .ref a) hg m rfl hdb) hm) fun _ _ _ h => inD_of (tTst_of h)
theorem dt_notInG (hg : Gl X x) (g : GTab X.K X.w X.mg x tab) (he : DE X c e t) (hdb : (x == ("__debug__" : Str)) = false := by decide) (hm : behindInMarks .NotIn (.Name x p) = false := by first | exact nomark _ | rfl) : DT X c (.Compare e [.NotIn] [.Name x p] pos) (tTst (tOn (fInD true tab) t)) :=
  let ⟨a, es, n, m, kd, pr⟩ := g; ptImp (pt_cmpR (op_notInG kd pr) he (pe_glob (v := .ref a) hg m rfl hdb) hm) fun _ _ _ h => inD_of (tTst_of h)
theorem inT_of {a : Addr} {u : Obj} {its : Array Value} {n : Nat} {k : VK} (h1 : K.lookup a = some u) (h2 : u.cls = .type "tuple") (h3 : u.data = .seq its n) (h4 : its.size ≤ sizeLine) (h5 : Paired (fun (u : Value) (d : D) => Gv d u) its.toList ds) (ok : D.oks 63 ds = true)
    (h : TEo K c (tOn (fInT neg ds) t) σ H k) : tOp (rInT K neg) (TEo K c t) (tC (.ref a)) σ H k :=
  tOn_of (r := fun x H Q => rInT K neg x (.ref a) H Q) h fun o H v d G k hv hf q => inT_ok h1 h2 h3 h4 h5 ok hv hf q
theorem de_inT (hu : X.A.units + 65 < cLine) (hg : Gl X x) (g : GTup X.K X.mg x ds) (he : DE X c e t) (ok : D.oks 63 ds = true := by decide) (hdb : (x == ("__debug__" : Str)) = false := by decide) (hm : behindInMarks .In (.Name x p) = false := by first | exact nomark _ | rfl) :
    DE X c (.Compare e [.In] [.Name x p] pos) (tOn (fInT false ds) t) :=
  let ⟨a, u, its, n, m, h1, h2, h3, h4, h5⟩ := g; peImp (pe_cmpR (op_inT hu) he (pe_glob (v := .ref a) hg m rfl hdb) hm) fun _ _ _ h => inT_of h1 h2 h3 h4 h5 ok h
theorem de_notInT (hu : X.A.units + 65 < cLine) (hg : Gl X x) (g : GTup X.K X.mg x ds) (he : DE X c e t) (ok : D.oks 63 ds = true := by decide) (hdb : (x == ("__debug__" : Str)) = false := by decide) (hm : behindInMarks .NotIn (.Name x p) = false := by first | exact nomark _ | rfl) :
    DE X c (.Compare e [.NotIn] [.Name x p] pos) (tOn (fInT true ds) t) :=
  let ⟨a, u, its, n, m, h1, h2, h3, h4, h5⟩ := g; peImp (pe_cmpR (op_notInT hu) he (pe_glob (v := .ref a) hg m rfl hdb) hm) fun _ _ _ h => inT_of h1 h2 h3 h4 h5 ok h
theorem dt_inT (hu : X.A.units + 65 < cLine) (hg : Gl X x) (g : GTup X.K X.mg x ds) (he : DE X c e t) (ok : D.oks 63 ds = true := by decide) (hdb : (x == ("__debug__" : Str)) = false := by decide) (hm : behindInMarks .In (.Name x p) = false := by first | exact nomark _ | rfl) :
    DT X c (.Compare e [.In] [.Name x p] pos) (tTst (tOn (fInT false ds) t)) :=
  let ⟨a, u, its, n, m, h1, h2, h3, h4, h5⟩ := g; ptImp (pt_cmpR (op_inT hu) he (pe_glob (v := .ref a) hg m rfl hdb) hm) fun _ _ _ h => inT_of h1 h2 h3 h4 h5 ok (tTst_of h)
theorem dt_notInT (hu : X.A.units + 65 < cLine) (hg : Gl X x) (g : GTup X.K X.mg x ds) (he : DE X c e t) (ok : D.oks 63 ds = true := by decide) (hdb : (x == ("__debug__" : Str)) = false := by decide) (hm : behindInMarks .NotIn (.Name x p) = false := by first | exact nomark _ | rfl) :
    DT X c (.Compare e [.NotIn] [.Name x p] pos) (tTst (tOn (fInT true ds) t)) :=
  let ⟨a, u, its, n, m, h1, h2, h3, h4, h5⟩ := g; ptImp (pt_cmpR (op_notInT hu) he (pe_glob (v := .ref a) hg m rfl hdb) hm) fun _ _ _ h => inT_of h1 h2 h3 h4 h5 ok (tTst_of h)
theorem de_ixG (hg : Gl X x) (g : GTab X.K X.w X.mg x tab) (he : DE X c e t) (hdb : (x == ("__debug__" : Str)) = false := by decide) (hs : PlainIx e := by intro _ _; rfl) : DE X c (.Subscript (.Name x p) e pos) (tOn (fIxD tab) t) := by
  obtain ⟨a, es, n, m, kd, pr⟩ := g
  refine peImp (pe_ix ix_kdict (pe_glob (v := .ref a) hg m rfl hdb) he hs) fun σ H k h => ?_
  refine tOn_of (r := fun y H Q => rIxD X.K X.w (.ref a) y H Q) h fun o H v d G k hv hf q => ?_
  cases hv <;> first | exact hf.elim | skip
  rename_i z
  have at_ := tab_at kd.at_ pr z
  unfold fIxD at hf
  simp only at hf
  split at hf
  · rename_i d' ed
    rw [ed] at at_
    obtain ⟨u, hn, v', fl, rel⟩ := at_
    exact ⟨a, z, v', rfl, rfl, ⟨es, n, u, kd.at_, kd.lit, hn, rel⟩, q v' d' (fl_dat fl) hf⟩
  · exact hf.elim
end
end
end Y
namespace Y
open PySem PySem.Spec L2
section
variable {Pg : Program} {w : World} {K : PySem.W.Frag} {mg : Str → Option Value} {base : Heap}
/-! printed by gen.py -/
abbrev pr : Program := PySem.Challenge.pw_wherewritten_k71_miscounts
def topS (i : Nat) : Stmt := pr.main.body.getD i (.Pass ⟨0, 0, 0, 0⟩)
def tab_ARGUMENTS : List (Str × D) := [("+", .str "nn"), ("-", .str "nn"), ("*", .str "nn"), ("<", .str "nn"), ("=", .str "nn"), ("not", .str "v"), ("cons", .str "vl"), ("first", .str "f"), ("rest", .str "f"), ("empty?", .str "v"), ("list?", .str "v"), ("number?", .str "v"), ("flag?", .str "v"), ("text?", .str "v"), ("procedure?", .str "v"), ("syntax?", .str "v"), ("identifier?", .str "v"), ("same?", .str "vv"), ("fail", .str "n"), ("parts", .str "p"), ("join", .str "rs"), ("datum", .str "d"), ("wrap", .str "as"), ("bound=?", .str "ii"), ("recolored", .str "ii"), ("free=?", .str "ii"), ("fresh", .str "i"), ("local-value", .str "i")]

/-! ### inner_parts -/
abbrev st_inner_parts : Stmt := topS 1
theorem sc_inner_parts : FnScope ["term", "kind", "pair"] ["term"] (defScope st_inner_parts) := ⟨rfl, rfl, rfl, by decide +kernel, rfl, by decide +kernel, by decide +kernel⟩
def t_inner_parts : TSX :=
    sSeq (sAsg 1 (tBin gIx (tNm 0) (tIm (.int 0))))
    (sSeq (sIf (tTst (tBin (gEqs2 false) (tNm 1) (tIm (.str "call")))) (sRet (tBin gAdd (tLs (lCons (tBin gIx (tNm 0) (tIm (.int 1))) (lNil))) (tCl (gList) (lCons (tBin gIx (tNm 0) (tIm (.int 2))) (lNil))))) (sNil))
    (sSeq (sIf (tOrQ (tTst (tBin (gEqs2 false) (tNm 1) (tIm (.str "if")))) (tTst (tBin (gEqs2 false) (tNm 1) (tIm (.str "set"))))) (sRet (tCl (gList) (lCons (tSlc (tNm 0) (pSo (tIm (.int 1))) (pNo)) (lNil)))) (sNil))
    (sSeq (sIf (tTst (tBin (gEqs2 false) (tNm 1) (tIm (.str "do")))) (sRet (tCl (gList) (lCons (tBin gIx (tNm 0) (tIm (.int 1))) (lNil)))) (sNil))
    (sSeq (sIf (tTst (tBin (gEqs2 false) (tNm 1) (tIm (.str "rec")))) (sRet (tBin gAdd (tLcX (iSeq (tBin gIx (tNm 0) (tIm (.int 1)))) (.one 2) (qYes) (tBin gIx (tNm 2) (tIm (.int 1))) [2]) (tLs (lCons (tBin gIx (tNm 0) (tIm (.int 2))) (lNil))))) (sNil))
    (sRet (tLs (lNil)))))))
theorem ok_inner_parts {k : Nat} {F : TF} (Ds : DefAt K mg "inner_parts" st_inner_parts ["term"]) (z_list : mg "list" = none)
    (hB : Body F 3 1 (t_inner_parts)) : FnD Pg w K mg base Ds (k + 1) F := by
  refine fn_ok Ds.fu sc_inner_parts hB fun cdv A outer s H E c hr => ?_
  have nd := sc_inner_parts.nd
  exact ds_cons (ds_set (i := 1) nd (de_ix (hu1 hr) (de_var 0) (de_int)))
    (ds_cons (ds_if (dt_cmp (eq2_ok (hu64 hr)) (de_var 1) (de_str)) (ds_one (ds_ret (de_op add_ok (de_lst (da_cons (de_ix (hu1 hr) (de_var 0) (de_int)) (da_nil))) (de_callT (list_ok) (by rfl) z_list (by decide +kernel) (da_cons (de_ix (hu1 hr) (de_var 0) (de_int)) (da_nil)))))) (ds_nil))
    (ds_cons (ds_if (dw_pt (dw_or (dt_cmp (eq2_ok (hu64 hr)) (de_var 1) (de_str)) (dw_or1 (dt_cmp (eq2_ok (hu64 hr)) (de_var 1) (de_str))))) (ds_one (ds_ret (de_callT (list_ok) (by rfl) z_list (by decide +kernel) (da_cons (de_slice (de_var 0) (do_so (de_int)) (do_no)) (da_nil))))) (ds_nil))
    (ds_cons (ds_if (dt_cmp (eq2_ok (hu64 hr)) (de_var 1) (de_str)) (ds_one (ds_ret (de_callT (list_ok) (by rfl) z_list (by decide +kernel) (da_cons (de_ix (hu1 hr) (de_var 0) (de_int)) (da_nil))))) (ds_nil))
    (ds_cons (ds_if (dt_cmp (eq2_ok (hu64 hr)) (de_var 1) (de_str)) (ds_one (ds_ret (de_op add_ok (de_lc (own := [("pair", 2)]) (bd := .one 2) rfl nd (di_seq (de_ix (hu1 hr) (de_var 0) (de_int))) (by kernel_rfl) (fun _ _ _ _ _ => pg_name (i := 2) nd rfl (by first | exact Or.inl rfl | exact Or.inr rfl)) (fun _ _ _ _ _ => dq_nil) (fun _ _ _ _ _ => de_ix (hu1 hr) (de_var 2) (de_int))) (de_lst (da_cons (de_ix (hu1 hr) (de_var 0) (de_int)) (da_nil)))))) (ds_nil))
    (ds_one (ds_ret (de_lst (da_nil))))))))

/-! ### terms_in -/
abbrev st_terms_in : Stmt := topS 4
theorem sc_terms_in : FnScope ["term", "found", "waiting", "now"] ["term"] (defScope st_terms_in) := ⟨rfl, rfl, rfl, by decide +kernel, rfl, by decide +kernel, by decide +kernel⟩
def b_terms_in_1 (F_inner_parts : TF) : TSX :=
    sSeq (sAsg 3 (tMt gPop 2 lNil))
    (sSeq (sDrop (tMt gApp 1 (lCons (tNm 3) (lNil))))
    (sDrop (tMt gExt 2 (lCons (tIfX (tTst (tBin (gEqs2 false) (tBin gIx (tNm 3) (tIm (.int 0))) (tIm (.str "fn")))) (tLs (lCons (tBin gIx (tNm 3) (tIm (.int 2))) (lNil))) (tCall F_inner_parts 1 (lCons (tNm 3) (lNil)))) (lNil)))))
def t_terms_in (F_inner_parts : TF) : TSX :=
    sSeq (sAsg 1 (tLs (lNil)))
    (sSeq (sAsg 2 (tLs (lCons (tNm 0) (lNil))))
    (sSeq (sWhile (tTru (tNm 2)) (b_terms_in_1 F_inner_parts))
    (sRet (tNm 1))))
theorem ok_terms_in {k : Nat} {F : TF} (Ds : DefAt K mg "terms_in" st_terms_in ["term"]) {F_inner_parts : TF} {k_inner_parts : Nat} (D_inner_parts : DefAt K mg "inner_parts" st_inner_parts ["term"]) (G_inner_parts : FnD Pg w K mg base D_inner_parts k_inner_parts F_inner_parts) (h_inner_parts : k_inner_parts ≤ k)
    (hB : Body F 4 1 (t_terms_in F_inner_parts)) : FnD Pg w K mg base Ds (k + 1) F := by
  refine fn_ok Ds.fu sc_terms_in hB fun cdv A outer s H E c hr => ?_
  have nd := sc_terms_in.nd
  exact ds_cons (ds_set (i := 1) nd (de_lst (da_nil)))
    (ds_cons (ds_set (i := 2) nd (de_lst (da_cons (de_var 0) (da_nil))))
    (ds_cons (ds_while PassesOwn.never (dt_tru (de_var 2)) (ds_cons (ds_set (i := 3) nd (de_mt0 2 PySem.F.plainAttrs_list PySem.F.slot_list_pop PySem.F.type_list_pop pop_ok))
    (ds_cons (ds_expr (de_mt 1 PySem.F.plainAttrs_list PySem.F.slot_list_append PySem.F.type_list_append app_ok (da_cons (de_var 3) (da_nil))))
    (ds_one (ds_expr (de_mt 2 PySem.F.plainAttrs_list PySem.F.slot_list_extend PySem.F.type_list_extend ext_ok (da_cons (de_if (dt_cmp (eq2_ok (hu64 hr)) (de_ix (hu1 hr) (de_var 3) (de_int)) (de_str)) (de_lst (da_cons (de_ix (hu1 hr) (de_var 3) (de_int)) (da_nil))) (de_call G_inner_parts (hr.mono h_inner_parts) (by rfl) D_inner_parts.mg D_inner_parts.fu.kp D_inner_parts.bd (da_cons (de_var 3) (da_nil)))) (da_nil))))))))
    (ds_one (ds_ret (de_var 1)))))

/-! ### constants -/
abbrev st_constants : Stmt := topS 5
theorem sc_constants : FnScope ["artifact", "terms", "is_set", "term", "found", "kind", "level", "k"] ["artifact", "terms"] (defScope st_constants) := ⟨rfl, rfl, rfl, by decide +kernel, rfl, by decide +kernel, by decide +kernel⟩
def b_constants_1 : TSX :=
    sIf (tAndQ (tTst (tBin (gEqs2 false) (tNm 5) (tIm (.str "def")))) (tAndQ (tTst (tBin (gEqs2 false) (tBin gIx (tNm 3) (tIm (.int 0))) (tIm (.str "fn")))) (tTst (tBin (gIns true) (tTp (lCons (tBin gIx (tNm 0) (tIm (.int 1))) (lCons (tNm 6) (lCons (tNm 7) (lNil))))) (tNm 2))))) (sSetI 4 (tTp (lCons (tBin gIx (tNm 0) (tIm (.int 1))) (lCons (tNm 6) (lCons (tNm 7) (lNil))))) (tCl (gLen) (lCons (tBin gIx (tNm 3) (tIm (.int 1))) (lNil)))) (sNil)
def t_constants : TSX :=
    sSeq (sAsg 2 (tDc true (iSeq (tNm 1)) (.one 3) (tAndQ (tTst (tBin (gEqs2 false) (tBin gIx (tNm 3) (tIm (.int 0))) (tIm (.str "set")))) (tTst (tBin (gEqs2 false) (tBin gIx (tBin gIx (tNm 3) (tIm (.int 1))) (tIm (.int 0))) (tIm (.str "top"))))) (tSlc (tBin gIx (tNm 3) (tIm (.int 1))) (pSo (tIm (.int 1))) (pSo (tIm (.int 4)))) (tIm (.bl true)) [3]))
    (sSeq (sAsg 4 tNewT)
    (sSeq (sFor (iSeq (tBin gIx (tNm 0) (tIm (.int 5)))) (.many [5, 6, 7, 3]) (b_constants_1))
    (sRet (tNm 4))))
theorem ok_constants {k : Nat} {F : TF} (Ds : DefAt K mg "constants" st_constants ["artifact", "terms"]) (z_len : mg "len" = none)
    (hB : Body F 8 2 (t_constants)) : FnD Pg w K mg base Ds (k + 1) F := by
  refine fn_ok Ds.fu sc_constants hB fun cdv A outer s H E c hr => ?_
  have nd := sc_constants.nd
  exact ds_cons (ds_setDc true (i := 2) (own := [("term", 3)]) (bd := .one 3) (hu1 hr) rfl nd (sw_dc rfl rfl rfl (by decide +kernel)) (di_seq (de_var 1)) (by kernel_rfl) (fun _ _ _ _ _ => pg_name (i := 3) nd rfl (by first | exact Or.inl rfl | exact Or.inr rfl)) (fun _ _ _ _ _ => dq_one (dw_pt (dw_and (dt_cmp (eq2_ok (hu64 hr)) (de_ix (hu1 hr) (de_var 3) (de_int)) (de_str)) (dw_and1 (dt_cmp (eq2_ok (hu64 hr)) (de_ix (hu1 hr) (de_ix (hu1 hr) (de_var 3) (de_int)) (de_int)) (de_str)))))) (fun _ _ _ _ _ => de_slice (de_ix (hu1 hr) (de_var 3) (de_int)) (do_so (de_int)) (do_so (de_int))) (fun _ _ _ _ _ => de_bl))
    (ds_cons (ds_set (i := 4) nd de_newT)
    (ds_cons (ds_for (bd := .many [5, 6, 7, 3]) PassesOwn.never rfl (di_seq (de_ix (hu1 hr) (de_var 0) (de_int))) (pg_tup rfl (pgs_cons (pg_name (i := 5) nd rfl (by first | exact Or.inl rfl | exact Or.inr rfl)) (pgs_cons (pg_name (i := 6) nd rfl (by first | exact Or.inl rfl | exact Or.inr rfl)) (pgs_cons (pg_name (i := 7) nd rfl (by first | exact Or.inl rfl | exact Or.inr rfl)) (pgs_cons (pg_name (i := 3) nd rfl (by first | exact Or.inl rfl | exact Or.inr rfl)) (pgs_nil)))))) (ds_one (ds_if (dw_pt (dw_and (dt_cmp (eq2_ok (hu64 hr)) (de_var 5) (de_str)) (dw_and (dt_cmp (eq2_ok (hu64 hr)) (de_ix (hu1 hr) (de_var 3) (de_int)) (de_str)) (dw_and1 (dt_cmp (notin_ok (hu65 hr)) (de_tup (da_cons (de_ix (hu1 hr) (de_var 0) (de_int)) (da_cons (de_var 6) (da_cons (de_var 7) (da_nil))))) (de_var 2)))))) (ds_one (ds_setI 4 (hu1 hr) (de_callB (len_ok) (by rfl) z_len (by decide +kernel) (da_cons (de_ix (hu1 hr) (de_var 3) (de_int)) (da_nil))) (de_tup (da_cons (de_ix (hu1 hr) (de_var 0) (de_int)) (da_cons (de_var 6) (da_cons (de_var 7) (da_nil))))))) (ds_nil))))
    (ds_one (ds_ret (de_var 4)))))

/-! ### wanted -/
abbrev st_wanted : Stmt := topS 6
theorem sc_wanted : FnScope ["first", "known"] ["first", "known"] (defScope st_wanted) := ⟨rfl, rfl, rfl, by decide +kernel, rfl, by decide +kernel, by decide +kernel⟩
def t_wanted : TSX :=
    sSeq (sIf (tTst (tBin (gEqs2 false) (tBin gIx (tNm 0) (tIm (.int 0))) (tIm (.str "fn")))) (sRet (tCl (gLen) (lCons (tBin gIx (tNm 0) (tIm (.int 1))) (lNil)))) (sNil))
    (sSeq (sIf (tTst (tBin (gEqs2 false) (tBin gIx (tNm 0) (tIm (.int 0))) (tIm (.str "prim")))) (sRet (tIfX (tTst (tOn (fInD false tab_ARGUMENTS) (tBin gIx (tNm 0) (tIm (.int 1))))) (tCl (gLen) (lCons (tOn (fIxD tab_ARGUMENTS) (tBin gIx (tNm 0) (tIm (.int 1)))) (lNil))) (tIm .non))) (sNil))
    (sRet (tIfX (tTst (tBin (gEqs2 false) (tBin gIx (tNm 0) (tIm (.int 0))) (tIm (.str "top")))) (tGet1 (tNm 1) (tSlc (tNm 0) (pSo (tIm (.int 1))) (pSo (tIm (.int 4))))) (tIm .non))))
theorem ok_wanted {k : Nat} {F : TF} (Ds : DefAt K mg "wanted" st_wanted ["first", "known"]) (z_len : mg "len" = none) (g_ARGUMENTS : GTab K w mg "ARGUMENTS" tab_ARGUMENTS)
    (hB : Body F 2 2 (t_wanted)) : FnD Pg w K mg base Ds (k + 1) F := by
  refine fn_ok Ds.fu sc_wanted hB fun cdv A outer s H E c hr => ?_
  have nd := sc_wanted.nd
  exact ds_cons (ds_if (dt_cmp (eq2_ok (hu64 hr)) (de_ix (hu1 hr) (de_var 0) (de_int)) (de_str)) (ds_one (ds_ret (de_callB (len_ok) (by rfl) z_len (by decide +kernel) (da_cons (de_ix (hu1 hr) (de_var 0) (de_int)) (da_nil))))) (ds_nil))
    (ds_cons (ds_if (dt_cmp (eq2_ok (hu64 hr)) (de_ix (hu1 hr) (de_var 0) (de_int)) (de_str)) (ds_one (ds_ret (de_if (dt_inG (by rfl) g_ARGUMENTS (de_ix (hu1 hr) (de_var 0) (de_int))) (de_callB (len_ok) (by rfl) z_len (by decide +kernel) (da_cons (de_ixG (by rfl) g_ARGUMENTS (de_ix (hu1 hr) (de_var 0) (de_int))) (da_nil))) (de_non)))) (ds_nil))
    (ds_one (ds_ret (de_if (dt_cmp (eq2_ok (hu64 hr)) (de_ix (hu1 hr) (de_var 0) (de_int)) (de_str)) (de_get1 (hu1 hr) (de_var 1) (de_slice (de_var 0) (do_so (de_int)) (do_so (de_int)))) (de_non)))))

/-! ### miscounts -/
abbrev st_miscounts : Stmt := topS 7
theorem sc_miscounts : FnScope ["artifact", "terms", "item", "term", "known", "found"] ["artifact"] (defScope st_miscounts) := ⟨rfl, rfl, rfl, by decide +kernel, rfl, by decide +kernel, by decide +kernel⟩
def b_miscounts_1 (F_terms_in : TF) (F_constants : TF) (F_wanted : TF) : TSX :=
    sIf (tAndQ (tTst (tBin (gEqs2 false) (tBin gIx (tNm 3) (tIm (.int 0))) (tIm (.str "call")))) (tTst (tBin (gIns true) (tCall F_wanted 2 (lCons (tBin gIx (tNm 3) (tIm (.int 1))) (lCons (tNm 4) (lNil)))) (tTp (lCons (tIm .non) (lCons (tCl (gLen) (lCons (tBin gIx (tNm 3) (tIm (.int 2))) (lNil))) (lNil))))))) (sSetI 5 (tBin gIx (tNm 3) (tIm (.int 3))) (tIm (.bl true))) (sNil)
def t_miscounts (F_terms_in : TF) (F_constants : TF) (F_wanted : TF) : TSX :=
    sSeq (sAsg 1 (tLc2X (iSeq (tBin gIx (tNm 0) (tIm (.int 5)))) (.one 2) (qYes) (iSeq (tCall F_terms_in 1 (lCons (tBin gIx (tNm 2) (tIm (.int 3))) (lNil)))) (.one 3) (qYes) (tNm 3) [2, 3] [3]))
    (sSeq (sAsg 4 (tCall F_constants 2 (lCons (tNm 0) (lCons (tNm 1) (lNil)))))
    (sSeq (sAsg 5 tNewT)
    (sSeq (sFor (iSeq (tNm 1)) (.one 3) (b_miscounts_1 F_terms_in F_constants F_wanted))
    (sRet (tCl (gSorted) (lCons (tNm 5) (lNil)))))))
theorem ok_miscounts {k : Nat} {F : TF} (Ds : DefAt K mg "miscounts" st_miscounts ["artifact"]) (z_len : mg "len" = none) (z_sorted : mg "sorted" = none) {F_terms_in : TF} {k_terms_in : Nat} (D_terms_in : DefAt K mg "terms_in" st_terms_in ["term"]) (G_terms_in : FnD Pg w K mg base D_terms_in k_terms_in F_terms_in) (h_terms_in : k_terms_in ≤ k) {F_constants : TF} {k_constants : Nat} (D_constants : DefAt K mg "constants" st_constants ["artifact", "terms"]) (G_constants : FnD Pg w K mg base D_constants k_constants F_constants) (h_constants : k_constants ≤ k) {F_wanted : TF} {k_wanted : Nat} (D_wanted : DefAt K mg "wanted" st_wanted ["first", "known"]) (G_wanted : FnD Pg w K mg base D_wanted k_wanted F_wanted) (h_wanted : k_wanted ≤ k)
    (hB : Body F 6 1 (t_miscounts F_terms_in F_constants F_wanted)) : FnD Pg w K mg base Ds (k + 1) F := by
  refine fn_ok Ds.fu sc_miscounts hB fun cdv A outer s H E c hr => ?_
  have nd := sc_miscounts.nd
  exact ds_cons (ds_setLc2 (i := 1) [3] (own := [("item", 2), ("term", 3)]) (bd := .one 2) (bd1 := .one 3) rfl nd (sw_true rfl rfl rfl (by decide +kernel)) (di_seq (de_ix (hu1 hr) (de_var 0) (de_int))) (by kernel_rfl) (fun _ _ _ _ _ => pg_name (i := 2) nd rfl (by first | exact Or.inl rfl | exact Or.inr rfl)) (fun _ _ _ _ _ => dq_nil) (fun _ _ _ _ _ => di_seq (de_call G_terms_in (hr.mono h_terms_in) (by rfl) D_terms_in.mg D_terms_in.fu.kp D_terms_in.bd (da_cons (de_ix (hu1 hr) (de_var 2) (de_int)) (da_nil)))) (fun _ _ _ _ _ => pg_name (i := 3) nd rfl (by first | exact Or.inl rfl | exact Or.inr rfl)) (fun _ _ _ _ _ => dq_nil) (fun _ _ _ _ _ => de_var 3))
    (ds_cons (ds_set (i := 4) nd (de_call G_constants (hr.mono h_constants) (by rfl) D_constants.mg D_constants.fu.kp D_constants.bd (da_cons (de_var 0) (da_cons (de_var 1) (da_nil)))))
    (ds_cons (ds_set (i := 5) nd de_newT)
    (ds_cons (ds_for (bd := .one 3) PassesOwn.never rfl (di_seq (de_var 1)) (pg_name (i := 3) nd rfl (by first | exact Or.inl rfl | exact Or.inr rfl)) (ds_one (ds_if (dw_pt (dw_and (dt_cmp (eq2_ok (hu64 hr)) (de_ix (hu1 hr) (de_var 3) (de_int)) (de_str)) (dw_and1 (dt_cmp (notin_ok (hu65 hr)) (de_call G_wanted (hr.mono h_wanted) (by rfl) D_wanted.mg D_wanted.fu.kp D_wanted.bd (da_cons (de_ix (hu1 hr) (de_var 3) (de_int)) (da_cons (de_var 4) (da_nil)))) (de_tup (da_cons (de_non) (da_cons (de_callB (len_ok) (by rfl) z_len (by decide +kernel) (da_cons (de_ix (hu1 hr) (de_var 3) (de_int)) (da_nil))) (da_nil)))))))) (ds_one (ds_setI 5 (hu1 hr) (de_bl) (de_ix (hu1 hr) (de_var 3) (de_int)))) (ds_nil))))
    (ds_one (ds_ret (de_callB (sorted_ok rfl (hu80 hr)) (by rfl) z_sorted (by decide +kernel) (da_cons (de_var 5) (da_nil))))))))

/-! ### _law_draws -/
abbrev st__law_draws : Stmt := topS 9
theorem sc__law_draws : FnScope ["script", "count", "cells", "found", "mixed", "k", "j", "cell", "again"] ["script", "count"] (defScope st__law_draws) := ⟨rfl, rfl, rfl, by decide +kernel, rfl, by decide +kernel, by decide +kernel⟩
def b__law_draws_1 : TSX :=
    sSeq (sAsg 6 (tBin gMod (tNm 5) (tCl (gLen) (lCons (tNm 2) (lNil)))))
    (sSeq (sAsg 7 (tBin gIx (tNm 2) (tNm 6)))
    (sSeq (sAsg 4 (tBin gMod (tCl (gInt) (lCons (tBin gAdd (tBin gAdd (tBin gAdd (tBin gMul (tNm 4) (tIm (.int 48271))) (tBin gMul (tBin gMod (tCl (gInt) (lCons (tNm 7) (lNil))) (tIm (.int 1000003))) (tIm (.int 69621)))) (tBin gMul (tNm 5) (tIm (.int 7919)))) (tIm (.int 11))) (lNil))) (tIm (.int 2147483647))))
    (sSeq (sAsg 8 (tBin gMod (tCl (gInt) (lCons (tBin gAdd (tBin gAdd (tBin gMul (tNm 4) (tNm 4)) (tBin gMul (tIm (.int 31)) (tNm 4))) (tNm 5)) (lNil))) (tIm (.int 1000003))))
    (sIf (tTst (tBin (gGe) (tNm 7) (tBin gPow (tIm (.int 10)) (tIm (.int 18))))) (sSeq (sDrop (tMt gApp 3 (lCons (tBin gMod (tCl (gInt) (lCons (tNm 7) (lNil))) (tIm (.int 1000))) (lNil))))
    (sSetI 2 (tNm 6) (tBin gDiv (tNm 7) (tIm (.int 1000))))) (sDrop (tMt gApp 3 (lCons (tBin gMod (tCl (gInt) (lCons (tNm 8) (lNil))) (tIm (.int 1000))) (lNil))))))))
def t__law_draws : TSX :=
    sSeq (sAsg 2 (tCl (gList) (lCons (tNm 0) (lNil))))
    (sSeq (sIf (tTst (tBin (gEqs2 false) (tCl (gLen) (lCons (tNm 2) (lNil))) (tIm (.int 0)))) (sAsg 2 (tLs (lCons (tIm (.int 7)) (lNil)))) (sNil))
    (sSeq (sAsg 3 (tLs (lNil)))
    (sSeq (sAsg 4 (tIm (.int 12345)))
    (sSeq (sFor (iRg1 (lCons (tNm 1) (lNil))) (.one 5) (b__law_draws_1))
    (sSeq (sDrop (tMt gRev 3 lNil))
    (sRet (tNm 3)))))))
theorem ok__law_draws {k : Nat} {F : TF} (Ds : DefAt K mg "_law_draws" st__law_draws ["script", "count"]) (z_list : mg "list" = none) (z_len : mg "len" = none) (z_range : mg "range" = none) (z_int : mg "int" = none)
    (hB : Body F 9 2 (t__law_draws)) : FnD Pg w K mg base Ds (k + 1) F := by
  refine fn_ok Ds.fu sc__law_draws hB fun cdv A outer s H E c hr => ?_
  have nd := sc__law_draws.nd
  exact ds_cons (ds_set (i := 2) nd (de_callT (list_ok) (by rfl) z_list (by decide +kernel) (da_cons (de_var 0) (da_nil))))
    (ds_cons (ds_if (dt_cmp (eq2_ok (hu64 hr)) (de_callB (len_ok) (by rfl) z_len (by decide +kernel) (da_cons (de_var 2) (da_nil))) (de_int)) (ds_one (ds_set (i := 2) nd (de_lst (da_cons (de_int) (da_nil))))) (ds_nil))
    (ds_cons (ds_set (i := 3) nd (de_lst (da_nil)))
    (ds_cons (ds_set (i := 4) nd (de_int))
    (ds_cons (ds_for (bd := .one 5) PassesOwn.never rfl (di_rng1 (by rfl) z_range (da_cons (de_var 1) (da_nil))) (pg_name (i := 5) nd rfl (by first | exact Or.inl rfl | exact Or.inr rfl)) (ds_cons (ds_set (i := 6) nd (de_op mod_ok (de_var 5) (de_callB (len_ok) (by rfl) z_len (by decide +kernel) (da_cons (de_var 2) (da_nil)))))
    (ds_cons (ds_set (i := 7) nd (de_ix (hu1 hr) (de_var 2) (de_var 6)))
    (ds_cons (ds_set (i := 4) nd (de_op mod_ok (de_callT (int_ok) (by rfl) z_int (by decide +kernel) (da_cons (de_op add_ok (de_op add_ok (de_op add_ok (de_op mul_ok (de_var 4) (de_int)) (de_op mul_ok (de_op mod_ok (de_callT (int_ok) (by rfl) z_int (by decide +kernel) (da_cons (de_var 7) (da_nil))) (de_int)) (de_int))) (de_op mul_ok (de_var 5) (de_int))) (de_int)) (da_nil))) (de_int)))
    (ds_cons (ds_set (i := 8) nd (de_op mod_ok (de_callT (int_ok) (by rfl) z_int (by decide +kernel) (da_cons (de_op add_ok (de_op add_ok (de_op mul_ok (de_var 4) (de_var 4)) (de_op mul_ok (de_int) (de_var 4))) (de_var 5)) (da_nil))) (de_int)))
    (ds_one (ds_if (dt_cmp (ge_ok) (de_var 7) (de_op pow_ok (de_int) (de_int))) (ds_cons (ds_expr (de_mt 3 PySem.F.plainAttrs_list PySem.F.slot_list_append PySem.F.type_list_append app_ok (da_cons (de_op mod_ok (de_callT (int_ok) (by rfl) z_int (by decide +kernel) (da_cons (de_var 7) (da_nil))) (de_int)) (da_nil))))
    (ds_one (ds_setI 2 (hu1 hr) (de_op div_ok (de_var 7) (de_int)) (de_var 6)))) (ds_one (ds_expr (de_mt 3 PySem.F.plainAttrs_list PySem.F.slot_list_append PySem.F.type_list_append app_ok (da_cons (de_op mod_ok (de_callT (int_ok) (by rfl) z_int (by decide +kernel) (da_cons (de_var 8) (da_nil))) (de_int)) (da_nil))))))))))))
    (ds_cons (ds_expr (de_mt0 3 PySem.F.plainAttrs_list PySem.F.slot_list_reverse PySem.F.type_list_reverse rev_ok))
    (ds_one (ds_ret (de_var 3))))))))

/-! ### _law_next -/
abbrev st__law_next : Stmt := topS 10
theorem sc__law_next : FnScope ["draws", "limit"] ["draws", "limit"] (defScope st__law_next) := ⟨rfl, rfl, rfl, by decide +kernel, rfl, by decide +kernel, by decide +kernel⟩
def t__law_next : TSX :=
    sSeq (sIf (tTst (tBin (gEqs2 false) (tCl (gLen) (lCons (tNm 0) (lNil))) (tIm (.int 1)))) (sRet (tIm (.int 0))) (sNil))
    (sRet (tBin gMod (tCl (gInt) (lCons (tMt gPop 0 lNil) (lNil))) (tNm 1)))
theorem ok__law_next {k : Nat} {F : TF} (Ds : DefAt K mg "_law_next" st__law_next ["draws", "limit"]) (z_len : mg "len" = none) (z_int : mg "int" = none)
    (hB : Body F 2 2 (t__law_next)) : FnD Pg w K mg base Ds (k + 1) F := by
  refine fn_ok Ds.fu sc__law_next hB fun cdv A outer s H E c hr => ?_
  have nd := sc__law_next.nd
  exact ds_cons (ds_if (dt_cmp (eq2_ok (hu64 hr)) (de_callB (len_ok) (by rfl) z_len (by decide +kernel) (da_cons (de_var 0) (da_nil))) (de_int)) (ds_one (ds_ret (de_int))) (ds_nil))
    (ds_one (ds_ret (de_op mod_ok (de_callT (int_ok) (by rfl) z_int (by decide +kernel) (da_cons (de_mt0 0 PySem.F.plainAttrs_list PySem.F.slot_list_pop PySem.F.type_list_pop pop_ok) (da_nil))) (de_var 1))))

/-! ### _law_same -/
abbrev st__law_same : Stmt := topS 11
theorem sc__law_same : FnScope ["found", "due", "k"] ["found", "due"] (defScope st__law_same) := ⟨rfl, rfl, rfl, by decide +kernel, rfl, by decide +kernel, by decide +kernel⟩
def t__law_same (F__law_same : TF) : TSX :=
    sSeq (sIf (tTst (tBin (gIs false) (tNm 1) (tIm .non))) (sRet (tBin (gIs false) (tNm 0) (tIm .non))) (sNil))
    (sSeq (sIf (tTru (tCl (gIsi) (lCons (tNm 1) (lCons (tIm (.raw (.ty "bool"))) (lNil))))) (sRet (tAndX (tCl (gIsi) (lCons (tNm 0) (lCons (tIm (.raw (.ty "bool"))) (lNil)))) (tBin (gEqs2 false) (tNm 0) (tNm 1)))) (sNil))
    (sSeq (sIf (tTru (tCl (gIsi) (lCons (tNm 1) (lCons (tIm (.raw (.ty "int"))) (lNil))))) (sRet (tAndX (tCl (gIsi) (lCons (tNm 0) (lCons (tIm (.raw (.ty "int"))) (lNil)))) (tAndX (tNotX (tCl (gIsi) (lCons (tNm 0) (lCons (tIm (.raw (.ty "bool"))) (lNil))))) (tBin (gEqs2 false) (tNm 0) (tNm 1))))) (sNil))
    (sSeq (sIf (tTru (tCl (gIsi) (lCons (tNm 1) (lCons (tIm (.raw (.ty "str"))) (lNil))))) (sRet (tAndX (tCl (gIsi) (lCons (tNm 0) (lCons (tIm (.raw (.ty "str"))) (lNil)))) (tBin (gEqs2 false) (tNm 0) (tNm 1)))) (sNil))
    (sSeq (sIf (tOrQ (tTst (tBin (gEqs true) (tCl (gIsi) (lCons (tNm 1) (lCons (tIm (.raw (.ty "tuple"))) (lNil)))) (tCl (gIsi) (lCons (tNm 0) (lCons (tIm (.raw (.ty "tuple"))) (lNil)))))) (tTst (tBin (gEqs true) (tCl (gIsi) (lCons (tNm 1) (lCons (tIm (.raw (.ty "list"))) (lNil)))) (tCl (gIsi) (lCons (tNm 0) (lCons (tIm (.raw (.ty "list"))) (lNil))))))) (sRet (tIm (.bl false))) (sNil))
    (sRet (tAndX (tBin (gEqs2 false) (tCl (gLen) (lCons (tNm 0) (lNil))) (tCl (gLen) (lCons (tNm 1) (lNil)))) (tCl (gAll fun bs => bs.all id) (lCons (tLcX (iRg1 (lCons (tCl (gLen) (lCons (tNm 1) (lNil))) (lNil))) (.one 2) (qYes) (tCall F__law_same 2 (lCons (tBin gIx (tNm 0) (tNm 2)) (lCons (tBin gIx (tNm 1) (tNm 2)) (lNil)))) [2]) (lNil)))))))))
theorem ok__law_same {k : Nat} {F : TF} (Ds : DefAt K mg "_law_same" st__law_same ["found", "due"]) (z_bool : mg "bool" = none) (z_isinstance : mg "isinstance" = none) (z_int : mg "int" = none) (z_str : mg "str" = none) (z_tuple : mg "tuple" = none) (z_list : mg "list" = none) (z_len : mg "len" = none) (z_range : mg "range" = none) (z_all : mg "all" = none) {F__law_same : TF} {k__law_same : Nat} (G__law_same : FnD Pg w K mg base Ds k__law_same F__law_same) (h__law_same : k__law_same ≤ k)
    (hB : Body F 3 2 (t__law_same F__law_same)) : FnD Pg w K mg base Ds (k + 1) F := by
  refine fn_ok Ds.fu sc__law_same hB fun cdv A outer s H E c hr => ?_
  have nd := sc__law_same.nd
  exact ds_cons (ds_if (dt_cmp (is_ok) (de_var 1) (de_non)) (ds_one (ds_ret (de_cmp (is_ok) (de_var 0) (de_non)))) (ds_nil))
    (ds_cons (ds_if (dt_tru (de_callB (isi_ok) (by rfl) z_isinstance (by decide +kernel) (da_cons (de_var 1) (da_cons (de_bltn (v := .ty "bool") (by rfl) z_bool (by decide +kernel) rfl) (da_nil))))) (ds_one (ds_ret (de_and (de_callB (isi_ok) (by rfl) z_isinstance (by decide +kernel) (da_cons (de_var 0) (da_cons (de_bltn (v := .ty "bool") (by rfl) z_bool (by decide +kernel) rfl) (da_nil)))) (de_one (de_cmp (eq2_ok (hu64 hr)) (de_var 0) (de_var 1)))))) (ds_nil))
    (ds_cons (ds_if (dt_tru (de_callB (isi_ok) (by rfl) z_isinstance (by decide +kernel) (da_cons (de_var 1) (da_cons (de_bltn (v := .ty "int") (by rfl) z_int (by decide +kernel) rfl) (da_nil))))) (ds_one (ds_ret (de_and (de_callB (isi_ok) (by rfl) z_isinstance (by decide +kernel) (da_cons (de_var 0) (da_cons (de_bltn (v := .ty "int") (by rfl) z_int (by decide +kernel) rfl) (da_nil)))) (de_and (de_not (de_callB (isi_ok) (by rfl) z_isinstance (by decide +kernel) (da_cons (de_var 0) (da_cons (de_bltn (v := .ty "bool") (by rfl) z_bool (by decide +kernel) rfl) (da_nil))))) (de_one (de_cmp (eq2_ok (hu64 hr)) (de_var 0) (de_var 1))))))) (ds_nil))
    (ds_cons (ds_if (dt_tru (de_callB (isi_ok) (by rfl) z_isinstance (by decide +kernel) (da_cons (de_var 1) (da_cons (de_bltn (v := .ty "str") (by rfl) z_str (by decide +kernel) rfl) (da_nil))))) (ds_one (ds_ret (de_and (de_callB (isi_ok) (by rfl) z_isinstance (by decide +kernel) (da_cons (de_var 0) (da_cons (de_bltn (v := .ty "str") (by rfl) z_str (by decide +kernel) rfl) (da_nil)))) (de_one (de_cmp (eq2_ok (hu64 hr)) (de_var 0) (de_var 1)))))) (ds_nil))
    (ds_cons (ds_if (dw_pt (dw_or (dt_cmp (ne_ok (hu64 hr)) (de_callB (isi_ok) (by rfl) z_isinstance (by decide +kernel) (da_cons (de_var 1) (da_cons (de_bltn (v := .ty "tuple") (by rfl) z_tuple (by decide +kernel) rfl) (da_nil)))) (de_callB (isi_ok) (by rfl) z_isinstance (by decide +kernel) (da_cons (de_var 0) (da_cons (de_bltn (v := .ty "tuple") (by rfl) z_tuple (by decide +kernel) rfl) (da_nil))))) (dw_or1 (dt_cmp (ne_ok (hu64 hr)) (de_callB (isi_ok) (by rfl) z_isinstance (by decide +kernel) (da_cons (de_var 1) (da_cons (de_bltn (v := .ty "list") (by rfl) z_list (by decide +kernel) rfl) (da_nil)))) (de_callB (isi_ok) (by rfl) z_isinstance (by decide +kernel) (da_cons (de_var 0) (da_cons (de_bltn (v := .ty "list") (by rfl) z_list (by decide +kernel) rfl) (da_nil)))))))) (ds_one (ds_ret (de_bl))) (ds_nil))
    (ds_one (ds_ret (de_and (de_cmp (eq2_ok (hu64 hr)) (de_callB (len_ok) (by rfl) z_len (by decide +kernel) (da_cons (de_var 0) (da_nil))) (de_callB (len_ok) (by rfl) z_len (by decide +kernel) (da_cons (de_var 1) (da_nil)))) (de_one (de_callB (all_ok rfl) (by rfl) z_all (by decide +kernel) (da_cons (de_lc (own := [("k", 2)]) (bd := .one 2) rfl nd (di_rng1 (by rfl) z_range (da_cons (de_callB (len_ok) (by rfl) z_len (by decide +kernel) (da_cons (de_var 1) (da_nil))) (da_nil))) (by kernel_rfl) (fun _ _ _ _ _ => pg_name (i := 2) nd rfl (by first | exact Or.inl rfl | exact Or.inr rfl)) (fun _ _ _ _ _ => dq_nil) (fun _ _ _ _ _ => de_call G__law_same (hr.mono h__law_same) (by rfl) Ds.mg Ds.fu.kp Ds.bd (da_cons (de_ix (hu1 hr) (de_var 0) (de_var 2)) (da_cons (de_ix (hu1 hr) (de_var 1) (de_var 2)) (da_nil))))) (da_nil)))))))))))

/-! ### _law_new -/
abbrev st__law_new : Stmt := topS 12
theorem sc__law_new : FnScope ["draws"] ["draws"] (defScope st__law_new) := ⟨rfl, rfl, rfl, by decide +kernel, rfl, by decide +kernel, by decide +kernel⟩
def t__law_new : TSX :=
    sSeq (sSetI 0 (tIm (.int 0)) (tBin gAdd (tBin gIx (tNm 0) (tIm (.int 0))) (tIm (.int 1))))
    (sRet (tBin gIx (tNm 0) (tIm (.int 0))))
theorem ok__law_new {k : Nat} {F : TF} (Ds : DefAt K mg "_law_new" st__law_new ["draws"]) 
    (hB : Body F 1 1 (t__law_new)) : FnD Pg w K mg base Ds (k + 1) F := by
  refine fn_ok Ds.fu sc__law_new hB fun cdv A outer s H E c hr => ?_
  have nd := sc__law_new.nd
  exact ds_cons (ds_setI 0 (hu1 hr) (de_op add_ok (de_ix (hu1 hr) (de_var 0) (de_int)) (de_int)) (de_int))
    (ds_one (ds_ret (de_ix (hu1 hr) (de_var 0) (de_int))))

/-! ### _law_head -/
abbrev st__law_head : Stmt := topS 13
theorem sc__law_head : FnScope ["draws", "level", "depth", "kind", "spot", "k"] ["draws", "level", "depth"] (defScope st__law_head) := ⟨rfl, rfl, rfl, by decide +kernel, rfl, by decide +kernel, by decide +kernel⟩
def t__law_head (F__law_next : TF) (F__law_new : TF) (F__law_term : TF) : TSX :=
    sSeq (sAsg 3 (tCall F__law_next 2 (lCons (tNm 0) (lCons (tIm (.int 8)) (lNil)))))
    (sSeq (sAsg 4 (tTp (lCons (tIm (.str "m")) (lCons (tCall F__law_new 1 (lCons (tNm 0) (lNil))) (lNil)))))
    (sSeq (sIf (tTst (tBin (gLt) (tNm 3) (tIm (.int 2)))) (sRet (tTp (lCons (tIm (.str "prim")) (lCons (tBin gIx (tTp (lCons (tIm (.str "list")) (lCons (tIm (.str "+")) (lCons (tIm (.str "not")) (lCons (tIm (.str "first")) (lCons (tIm (.str "cons")) (lCons (tIm (.str "same?")) (lCons (tIm (.str "parts")) (lCons (tIm (.str "fresh")) (lCons (tIm (.str "wrap")) (lNil))))))))))) (tCall F__law_next 2 (lCons (tNm 0) (lCons (tIm (.int 9)) (lNil))))) (lNil))))) (sNil))
    (sSeq (sIf (tTst (tBin (gLt) (tNm 3) (tIm (.int 5)))) (sRet (tTp (lCons (tIm (.str "top")) (lCons (tBin gIx (tTp (lCons (tIm (.str "m")) (lCons (tIm (.str "m")) (lCons (tIm (.str "m")) (lCons (tIm (.str "other")) (lNil)))))) (tCall F__law_next 2 (lCons (tNm 0) (lCons (tIm (.int 4)) (lNil))))) (lCons (tNm 1) (lCons (tCall F__law_next 2 (lCons (tNm 0) (lCons (tIm (.int 4)) (lNil)))) (lCons (tNm 4) (lNil)))))))) (sNil))
    (sSeq (sIf (tTst (tBin (gLt) (tNm 3) (tIm (.int 7)))) (sRet (tTp (lCons (tIm (.str "fn")) (lCons (tCl (gTuple) (lCons (tLcX (iRg1 (lCons (tCall F__law_next 2 (lCons (tNm 0) (lCons (tIm (.int 4)) (lNil)))) (lNil))) (.one 5) (qYes) (tCall F__law_new 1 (lCons (tNm 0) (lNil))) [5]) (lNil))) (lCons (tCall F__law_term 3 (lCons (tNm 0) (lCons (tNm 1) (lCons (tBin gSub (tNm 2) (tIm (.int 1))) (lNil))))) (lNil)))))) (sNil))
    (sRet (tCall F__law_term 3 (lCons (tNm 0) (lCons (tNm 1) (lCons (tBin gSub (tNm 2) (tIm (.int 1))) (lNil))))))))))
theorem ok__law_head {k : Nat} {F : TF} (Ds : DefAt K mg "_law_head" st__law_head ["draws", "level", "depth"]) (z_range : mg "range" = none) (z_tuple : mg "tuple" = none) {F__law_next : TF} {k__law_next : Nat} (D__law_next : DefAt K mg "_law_next" st__law_next ["draws", "limit"]) (G__law_next : FnD Pg w K mg base D__law_next k__law_next F__law_next) (h__law_next : k__law_next ≤ k) {F__law_new : TF} {k__law_new : Nat} (D__law_new : DefAt K mg "_law_new" st__law_new ["draws"]) (G__law_new : FnD Pg w K mg base D__law_new k__law_new F__law_new) (h__law_new : k__law_new ≤ k) {F__law_term : TF} {k__law_term : Nat} (D__law_term : DefAt K mg "_law_term" st__law_term ["draws", "level", "depth"]) (G__law_term : FnD Pg w K mg base D__law_term k__law_term F__law_term) (h__law_term : k__law_term ≤ k)
    (hB : Body F 6 3 (t__law_head F__law_next F__law_new F__law_term)) : FnD Pg w K mg base Ds (k + 1) F := by
  refine fn_ok Ds.fu sc__law_head hB fun cdv A outer s H E c hr => ?_
  have nd := sc__law_head.nd
  exact ds_cons (ds_set (i := 3) nd (de_call G__law_next (hr.mono h__law_next) (by rfl) D__law_next.mg D__law_next.fu.kp D__law_next.bd (da_cons (de_var 0) (da_cons (de_int) (da_nil)))))
    (ds_cons (ds_set (i := 4) nd (de_tup (da_cons (de_str) (da_cons (de_call G__law_new (hr.mono h__law_new) (by rfl) D__law_new.mg D__law_new.fu.kp D__law_new.bd (da_cons (de_var 0) (da_nil))) (da_nil)))))
    (ds_cons (ds_if (dt_cmp (lt_ok) (de_var 3) (de_int)) (ds_one (ds_ret (de_tup (da_cons (de_str) (da_cons (de_ix (hu1 hr) (de_tup (da_cons (de_str) (da_cons (de_str) (da_cons (de_str) (da_cons (de_str) (da_cons (de_str) (da_cons (de_str) (da_cons (de_str) (da_cons (de_str) (da_cons (de_str) (da_nil))))))))))) (de_call G__law_next (hr.mono h__law_next) (by rfl) D__law_next.mg D__law_next.fu.kp D__law_next.bd (da_cons (de_var 0) (da_cons (de_int) (da_nil))))) (da_nil)))))) (ds_nil))
    (ds_cons (ds_if (dt_cmp (lt_ok) (de_var 3) (de_int)) (ds_one (ds_ret (de_tup (da_cons (de_str) (da_cons (de_ix (hu1 hr) (de_tup (da_cons (de_str) (da_cons (de_str) (da_cons (de_str) (da_cons (de_str) (da_nil)))))) (de_call G__law_next (hr.mono h__law_next) (by rfl) D__law_next.mg D__law_next.fu.kp D__law_next.bd (da_cons (de_var 0) (da_cons (de_int) (da_nil))))) (da_cons (de_var 1) (da_cons (de_call G__law_next (hr.mono h__law_next) (by rfl) D__law_next.mg D__law_next.fu.kp D__law_next.bd (da_cons (de_var 0) (da_cons (de_int) (da_nil)))) (da_cons (de_var 4) (da_nil))))))))) (ds_nil))
    (ds_cons (ds_if (dt_cmp (lt_ok) (de_var 3) (de_int)) (ds_one (ds_ret (de_tup (da_cons (de_str) (da_cons (de_callT (tuple_ok) (by rfl) z_tuple (by decide +kernel) (da_cons (de_lc (own := [("k", 5)]) (bd := .one 5) rfl nd (di_rng1 (by rfl) z_range (da_cons (de_call G__law_next (hr.mono h__law_next) (by rfl) D__law_next.mg D__law_next.fu.kp D__law_next.bd (da_cons (de_var 0) (da_cons (de_int) (da_nil)))) (da_nil))) (by kernel_rfl) (fun _ _ _ _ _ => pg_name (i := 5) nd rfl (by first | exact Or.inl rfl | exact Or.inr rfl)) (fun _ _ _ _ _ => dq_nil) (fun _ _ _ _ _ => de_call G__law_new (hr.mono h__law_new) (by rfl) D__law_new.mg D__law_new.fu.kp D__law_new.bd (da_cons (de_var 0) (da_nil)))) (da_nil))) (da_cons (de_call G__law_term (hr.mono h__law_term) (by rfl) D__law_term.mg D__law_term.fu.kp D__law_term.bd (da_cons (de_var 0) (da_cons (de_var 1) (da_cons (de_op sub_ok (de_var 2) (de_int)) (da_nil))))) (da_nil))))))) (ds_nil))
    (ds_one (ds_ret (de_call G__law_term (hr.mono h__law_term) (by rfl) D__law_term.mg D__law_term.fu.kp D__law_term.bd (da_cons (de_var 0) (da_cons (de_var 1) (da_cons (de_op sub_ok (de_var 2) (de_int)) (da_nil)))))))))))

/-! ### _law_term -/
abbrev st__law_term : Stmt := topS 14
theorem sc__law_term : FnScope ["draws", "level", "depth", "kind", "spot", "inner", "k", "part"] ["draws", "level", "depth"] (defScope st__law_term) := ⟨rfl, rfl, rfl, by decide +kernel, rfl, by decide +kernel, by decide +kernel⟩
def t__law_term (F__law_next : TF) (F__law_new : TF) (F__law_term : TF) (F__law_head : TF) : TSX :=
    sSeq (sAsg 3 (tCall F__law_next 2 (lCons (tNm 0) (lCons (tIm (.int 12)) (lNil)))))
    (sSeq (sAsg 4 (tTp (lCons (tIm (.str "m")) (lCons (tCall F__law_new 1 (lCons (tNm 0) (lNil))) (lNil)))))
    (sSeq (sIf (tOrQ (tTst (tBin (gLe) (tNm 2) (tIm (.int 0)))) (tTst (tBin (gLt) (tNm 3) (tIm (.int 2))))) (sRet (tBin gIx (tTp (lCons (tTp (lCons (tIm (.str "const")) (lCons (tTp (lCons (tIm (.str "number")) (lCons (tIm (.int 1)) (lNil)))) (lNil)))) (lCons (tTp (lCons (tIm (.str "top")) (lCons (tIm (.str "m")) (lCons (tNm 1) (lCons (tCall F__law_next 2 (lCons (tNm 0) (lCons (tIm (.int 4)) (lNil)))) (lCons (tNm 4) (lNil))))))) (lCons (tTp (lCons (tIm (.str "prim")) (lCons (tIm (.str "+")) (lNil)))) (lNil))))) (tCall F__law_next 2 (lCons (tNm 0) (lCons (tIm (.int 3)) (lNil)))))) (sNil))
    (sSeq (sAsg 5 (tLcX (iRg1 (lCons (tCall F__law_next 2 (lCons (tNm 0) (lCons (tIm (.int 4)) (lNil)))) (lNil))) (.one 6) (qYes) (tCall F__law_term 3 (lCons (tNm 0) (lCons (tNm 1) (lCons (tBin gSub (tNm 2) (tIm (.int 1))) (lNil))))) [6]))
    (sSeq (sIf (tTst (tBin (gLt) (tNm 3) (tIm (.int 7)))) (sRet (tTp (lCons (tIm (.str "call")) (lCons (tCall F__law_head 3 (lCons (tNm 0) (lCons (tNm 1) (lCons (tNm 2) (lNil))))) (lCons (tCl (gTuple) (lCons (tNm 5) (lNil))) (lCons (tNm 4) (lNil))))))) (sNil))
    (sSeq (sIf (tTst (tBin (gEqs2 false) (tNm 3) (tIm (.int 7)))) (sRet (tTp (lCons (tIm (.str "do")) (lCons (tCl (gTuple) (lCons (tBin gAdd (tNm 5) (tLs (lCons (tTp (lCons (tIm (.str "const")) (lCons (tTp (lCons (tIm (.str "flag")) (lCons (tIm (.bl true)) (lNil)))) (lNil)))) (lNil)))) (lNil))) (lNil))))) (sNil))
    (sSeq (sIf (tTst (tBin (gEqs2 false) (tNm 3) (tIm (.int 8)))) (sRet (tTp (lCons (tIm (.str "if")) (lCons (tCall F__law_term 3 (lCons (tNm 0) (lCons (tNm 1) (lCons (tBin gSub (tNm 2) (tIm (.int 1))) (lNil))))) (lCons (tTp (lCons (tIm (.str "prim")) (lCons (tIm (.str "not")) (lNil)))) (lCons (tCall F__law_term 3 (lCons (tNm 0) (lCons (tNm 1) (lCons (tBin gSub (tNm 2) (tIm (.int 1))) (lNil))))) (lNil))))))) (sNil))
    (sSeq (sIf (tTst (tBin (gEqs2 false) (tNm 3) (tIm (.int 9)))) (sRet (tTp (lCons (tIm (.str "fn")) (lCons (tTp (lCons (tCall F__law_new 1 (lCons (tNm 0) (lNil))) (lNil))) (lCons (tCall F__law_term 3 (lCons (tNm 0) (lCons (tNm 1) (lCons (tBin gSub (tNm 2) (tIm (.int 1))) (lNil))))) (lNil)))))) (sNil))
    (sSeq (sIf (tAndQ (tTst (tBin (gEqs2 false) (tNm 3) (tIm (.int 10)))) (tTst (tBin (gEqs2 false) (tCall F__law_next 2 (lCons (tNm 0) (lCons (tIm (.int 4)) (lNil)))) (tIm (.int 0))))) (sRet (tTp (lCons (tIm (.str "set")) (lCons (tTp (lCons (tIm (.str "top")) (lCons (tBin gIx (tTp (lCons (tIm (.str "m")) (lCons (tIm (.str "other")) (lNil)))) (tCall F__law_next 2 (lCons (tNm 0) (lCons (tIm (.int 2)) (lNil))))) (lCons (tNm 1) (lCons (tCall F__law_next 2 (lCons (tNm 0) (lCons (tIm (.int 4)) (lNil)))) (lCons (tNm 4) (lNil))))))) (lCons (tCall F__law_term 3 (lCons (tNm 0) (lCons (tNm 1) (lCons (tBin gSub (tNm 2) (tIm (.int 1))) (lNil))))) (lNil)))))) (sNil))
    (sRet (tTp (lCons (tIm (.str "rec")) (lCons (tCl (gTuple) (lCons (tLcX (iSeq (tNm 5)) (.one 7) (qYes) (tTp (lCons (tCall F__law_new 1 (lCons (tNm 0) (lNil))) (lCons (tNm 7) (lNil)))) [7]) (lNil))) (lCons (tCall F__law_term 3 (lCons (tNm 0) (lCons (tNm 1) (lCons (tBin gSub (tNm 2) (tIm (.int 1))) (lNil))))) (lNil))))))))))))))
theorem ok__law_term {k : Nat} {F : TF} (Ds : DefAt K mg "_law_term" st__law_term ["draws", "level", "depth"]) (z_range : mg "range" = none) (z_tuple : mg "tuple" = none) {F__law_next : TF} {k__law_next : Nat} (D__law_next : DefAt K mg "_law_next" st__law_next ["draws", "limit"]) (G__law_next : FnD Pg w K mg base D__law_next k__law_next F__law_next) (h__law_next : k__law_next ≤ k) {F__law_new : TF} {k__law_new : Nat} (D__law_new : DefAt K mg "_law_new" st__law_new ["draws"]) (G__law_new : FnD Pg w K mg base D__law_new k__law_new F__law_new) (h__law_new : k__law_new ≤ k) {F__law_term : TF} {k__law_term : Nat} (G__law_term : FnD Pg w K mg base Ds k__law_term F__law_term) (h__law_term : k__law_term ≤ k) {F__law_head : TF} {k__law_head : Nat} (D__law_head : DefAt K mg "_law_head" st__law_head ["draws", "level", "depth"]) (G__law_head : FnD Pg w K mg base D__law_head k__law_head F__law_head) (h__law_head : k__law_head ≤ k)
    (hB : Body F 8 3 (t__law_term F__law_next F__law_new F__law_term F__law_head)) : FnD Pg w K mg base Ds (k + 1) F := by
  refine fn_ok Ds.fu sc__law_term hB fun cdv A outer s H E c hr => ?_
  have nd := sc__law_term.nd
  exact ds_cons (ds_set (i := 3) nd (de_call G__law_next (hr.mono h__law_next) (by rfl) D__law_next.mg D__law_next.fu.kp D__law_next.bd (da_cons (de_var 0) (da_cons (de_int) (da_nil)))))
    (ds_cons (ds_set (i := 4) nd (de_tup (da_cons (de_str) (da_cons (de_call G__law_new (hr.mono h__law_new) (by rfl) D__law_new.mg D__law_new.fu.kp D__law_new.bd (da_cons (de_var 0) (da_nil))) (da_nil)))))
    (ds_cons (ds_if (dw_pt (dw_or (dt_cmp (le_ok) (de_var 2) (de_int)) (dw_or1 (dt_cmp (lt_ok) (de_var 3) (de_int))))) (ds_one (ds_ret (de_ix (hu1 hr) (de_tup (da_cons (de_tup (da_cons (de_str) (da_cons (de_tup (da_cons (de_str) (da_cons (de_int) (da_nil)))) (da_nil)))) (da_cons (de_tup (da_cons (de_str) (da_cons (de_str) (da_cons (de_var 1) (da_cons (de_call G__law_next (hr.mono h__law_next) (by rfl) D__law_next.mg D__law_next.fu.kp D__law_next.bd (da_cons (de_var 0) (da_cons (de_int) (da_nil)))) (da_cons (de_var 4) (da_nil))))))) (da_cons (de_tup (da_cons (de_str) (da_cons (de_str) (da_nil)))) (da_nil))))) (de_call G__law_next (hr.mono h__law_next) (by rfl) D__law_next.mg D__law_next.fu.kp D__law_next.bd (da_cons (de_var 0) (da_cons (de_int) (da_nil))))))) (ds_nil))
    (ds_cons (ds_setLc (i := 5) (own := [("k", 6)]) (bd := .one 6) rfl nd (sw_true rfl rfl rfl (by decide +kernel)) (di_rng1 (by rfl) z_range (da_cons (de_call G__law_next (hr.mono h__law_next) (by rfl) D__law_next.mg D__law_next.fu.kp D__law_next.bd (da_cons (de_var 0) (da_cons (de_int) (da_nil)))) (da_nil))) (by kernel_rfl) (fun _ _ _ _ _ => pg_name (i := 6) nd rfl (by first | exact Or.inl rfl | exact Or.inr rfl)) (fun _ _ _ _ _ => dq_nil) (fun _ _ _ _ _ => de_call G__law_term (hr.mono h__law_term) (by rfl) Ds.mg Ds.fu.kp Ds.bd (da_cons (de_var 0) (da_cons (de_var 1) (da_cons (de_op sub_ok (de_var 2) (de_int)) (da_nil))))))
    (ds_cons (ds_if (dt_cmp (lt_ok) (de_var 3) (de_int)) (ds_one (ds_ret (de_tup (da_cons (de_str) (da_cons (de_call G__law_head (hr.mono h__law_head) (by rfl) D__law_head.mg D__law_head.fu.kp D__law_head.bd (da_cons (de_var 0) (da_cons (de_var 1) (da_cons (de_var 2) (da_nil))))) (da_cons (de_callT (tuple_ok) (by rfl) z_tuple (by decide +kernel) (da_cons (de_var 5) (da_nil))) (da_cons (de_var 4) (da_nil)))))))) (ds_nil))
    (ds_cons (ds_if (dt_cmp (eq2_ok (hu64 hr)) (de_var 3) (de_int)) (ds_one (ds_ret (de_tup (da_cons (de_str) (da_cons (de_callT (tuple_ok) (by rfl) z_tuple (by decide +kernel) (da_cons (de_op add_ok (de_var 5) (de_lst (da_cons (de_tup (da_cons (de_str) (da_cons (de_tup (da_cons (de_str) (da_cons (de_bl) (da_nil)))) (da_nil)))) (da_nil)))) (da_nil))) (da_nil)))))) (ds_nil))
    (ds_cons (ds_if (dt_cmp (eq2_ok (hu64 hr)) (de_var 3) (de_int)) (ds_one (ds_ret (de_tup (da_cons (de_str) (da_cons (de_call G__law_term (hr.mono h__law_term) (by rfl) Ds.mg Ds.fu.kp Ds.bd (da_cons (de_var 0) (da_cons (de_var 1) (da_cons (de_op sub_ok (de_var 2) (de_int)) (da_nil))))) (da_cons (de_tup (da_cons (de_str) (da_cons (de_str) (da_nil)))) (da_cons (de_call G__law_term (hr.mono h__law_term) (by rfl) Ds.mg Ds.fu.kp Ds.bd (da_cons (de_var 0) (da_cons (de_var 1) (da_cons (de_op sub_ok (de_var 2) (de_int)) (da_nil))))) (da_nil)))))))) (ds_nil))
    (ds_cons (ds_if (dt_cmp (eq2_ok (hu64 hr)) (de_var 3) (de_int)) (ds_one (ds_ret (de_tup (da_cons (de_str) (da_cons (de_tup (da_cons (de_call G__law_new (hr.mono h__law_new) (by rfl) D__law_new.mg D__law_new.fu.kp D__law_new.bd (da_cons (de_var 0) (da_nil))) (da_nil))) (da_cons (de_call G__law_term (hr.mono h__law_term) (by rfl) Ds.mg Ds.fu.kp Ds.bd (da_cons (de_var 0) (da_cons (de_var 1) (da_cons (de_op sub_ok (de_var 2) (de_int)) (da_nil))))) (da_nil))))))) (ds_nil))
    (ds_cons (ds_if (dw_pt (dw_and (dt_cmp (eq2_ok (hu64 hr)) (de_var 3) (de_int)) (dw_and1 (dt_cmp (eq2_ok (hu64 hr)) (de_call G__law_next (hr.mono h__law_next) (by rfl) D__law_next.mg D__law_next.fu.kp D__law_next.bd (da_cons (de_var 0) (da_cons (de_int) (da_nil)))) (de_int))))) (ds_one (ds_ret (de_tup (da_cons (de_str) (da_cons (de_tup (da_cons (de_str) (da_cons (de_ix (hu1 hr) (de_tup (da_cons (de_str) (da_cons (de_str) (da_nil)))) (de_call G__law_next (hr.mono h__law_next) (by rfl) D__law_next.mg D__law_next.fu.kp D__law_next.bd (da_cons (de_var 0) (da_cons (de_int) (da_nil))))) (da_cons (de_var 1) (da_cons (de_call G__law_next (hr.mono h__law_next) (by rfl) D__law_next.mg D__law_next.fu.kp D__law_next.bd (da_cons (de_var 0) (da_cons (de_int) (da_nil)))) (da_cons (de_var 4) (da_nil))))))) (da_cons (de_call G__law_term (hr.mono h__law_term) (by rfl) Ds.mg Ds.fu.kp Ds.bd (da_cons (de_var 0) (da_cons (de_var 1) (da_cons (de_op sub_ok (de_var 2) (de_int)) (da_nil))))) (da_nil))))))) (ds_nil))
    (ds_one (ds_ret (de_tup (da_cons (de_str) (da_cons (de_callT (tuple_ok) (by rfl) z_tuple (by decide +kernel) (da_cons (de_lc (own := [("part", 7)]) (bd := .one 7) rfl nd (di_seq (de_var 5)) (by kernel_rfl) (fun _ _ _ _ _ => pg_name (i := 7) nd rfl (by first | exact Or.inl rfl | exact Or.inr rfl)) (fun _ _ _ _ _ => dq_nil) (fun _ _ _ _ _ => de_tup (da_cons (de_call G__law_new (hr.mono h__law_new) (by rfl) D__law_new.mg D__law_new.fu.kp D__law_new.bd (da_cons (de_var 0) (da_nil))) (da_cons (de_var 7) (da_nil))))) (da_nil))) (da_cons (de_call G__law_term (hr.mono h__law_term) (by rfl) Ds.mg Ds.fu.kp Ds.bd (da_cons (de_var 0) (da_cons (de_var 1) (da_cons (de_op sub_ok (de_var 2) (de_int)) (da_nil))))) (da_nil)))))))))))))))

/-! ### _law_walk -/
abbrev st__law_walk : Stmt := topS 15
theorem sc__law_walk : FnScope ["term", "calls", "sets", "kind", "part", "n"] ["term", "calls", "sets"] (defScope st__law_walk) := ⟨rfl, rfl, rfl, by decide +kernel, rfl, by decide +kernel, by decide +kernel⟩
def b__law_walk_1 (F__law_walk : TF) : TSX :=
    sDrop (tCall F__law_walk 3 (lCons (tNm 4) (lCons (tNm 1) (lCons (tNm 2) (lNil)))))
def b__law_walk_2 (F__law_walk : TF) : TSX :=
    sDrop (tCall F__law_walk 3 (lCons (tNm 4) (lCons (tNm 1) (lCons (tNm 2) (lNil)))))
def b__law_walk_3 (F__law_walk : TF) : TSX :=
    sDrop (tCall F__law_walk 3 (lCons (tNm 4) (lCons (tNm 1) (lCons (tNm 2) (lNil)))))
def b__law_walk_4 (F__law_walk : TF) : TSX :=
    sDrop (tCall F__law_walk 3 (lCons (tNm 4) (lCons (tNm 1) (lCons (tNm 2) (lNil)))))
def t__law_walk (F__law_walk : TF) : TSX :=
    sSeq (sAsg 3 (tBin gIx (tNm 0) (tIm (.int 0))))
    (sIf (tTst (tBin (gEqs2 false) (tNm 3) (tIm (.str "call")))) (sSeq (sDrop (tMt gApp 1 (lCons (tNm 0) (lNil))))
    (sFor (iSeq (tBin gAdd (tTp (lCons (tBin gIx (tNm 0) (tIm (.int 1))) (lNil))) (tBin gIx (tNm 0) (tIm (.int 2))))) (.one 4) (b__law_walk_1 F__law_walk))) (sIf (tTst (tBin (gEqs2 false) (tNm 3) (tIm (.str "fn")))) (sDrop (tCall F__law_walk 3 (lCons (tBin gIx (tNm 0) (tIm (.int 2))) (lCons (tNm 1) (lCons (tNm 2) (lNil)))))) (sIf (tTst (tBin (gEqs2 false) (tNm 3) (tIm (.str "do")))) (sFor (iSeq (tBin gIx (tNm 0) (tIm (.int 1)))) (.one 4) (b__law_walk_2 F__law_walk)) (sIf (tTst (tBin (gEqs2 false) (tNm 3) (tIm (.str "if")))) (sFor (iSeq (tSlc (tNm 0) (pSo (tIm (.int 1))) (pNo))) (.one 4) (b__law_walk_3 F__law_walk)) (sIf (tTst (tBin (gEqs2 false) (tNm 3) (tIm (.str "set")))) (sSeq (sIf (tTst (tBin (gEqs2 false) (tBin gIx (tBin gIx (tNm 0) (tIm (.int 1))) (tIm (.int 0))) (tIm (.str "top")))) (sDrop (tMt gApp 2 (lCons (tSlc (tBin gIx (tNm 0) (tIm (.int 1))) (pSo (tIm (.int 1))) (pSo (tIm (.int 4)))) (lNil)))) (sNil))
    (sDrop (tCall F__law_walk 3 (lCons (tBin gIx (tNm 0) (tIm (.int 2))) (lCons (tNm 1) (lCons (tNm 2) (lNil))))))) (sIf (tTst (tBin (gEqs2 false) (tNm 3) (tIm (.str "rec")))) (sSeq (sFor (iSeq (tBin gIx (tNm 0) (tIm (.int 1)))) (.many [5, 4]) (b__law_walk_4 F__law_walk))
    (sDrop (tCall F__law_walk 3 (lCons (tBin gIx (tNm 0) (tIm (.int 2))) (lCons (tNm 1) (lCons (tNm 2) (lNil))))))) (sNil)))))))
theorem ok__law_walk {k : Nat} {F : TF} (Ds : DefAt K mg "_law_walk" st__law_walk ["term", "calls", "sets"]) {F__law_walk : TF} {k__law_walk : Nat} (G__law_walk : FnD Pg w K mg base Ds k__law_walk F__law_walk) (h__law_walk : k__law_walk ≤ k)
    (hB : Body F 6 3 (t__law_walk F__law_walk)) : FnD Pg w K mg base Ds (k + 1) F := by
  refine fn_ok Ds.fu sc__law_walk hB fun cdv A outer s H E c hr => ?_
  have nd := sc__law_walk.nd
  exact ds_cons (ds_set (i := 3) nd (de_ix (hu1 hr) (de_var 0) (de_int)))
    (ds_one (ds_if (dt_cmp (eq2_ok (hu64 hr)) (de_var 3) (de_str)) (ds_cons (ds_expr (de_mt 1 PySem.F.plainAttrs_list PySem.F.slot_list_append PySem.F.type_list_append app_ok (da_cons (de_var 0) (da_nil))))
    (ds_one (ds_for (bd := .one 4) PassesOwn.never rfl (di_seq (de_op add_ok (de_tup (da_cons (de_ix (hu1 hr) (de_var 0) (de_int)) (da_nil))) (de_ix (hu1 hr) (de_var 0) (de_int)))) (pg_name (i := 4) nd rfl (by first | exact Or.inl rfl | exact Or.inr rfl)) (ds_one (ds_expr (de_call G__law_walk (hr.mono h__law_walk) (by rfl) Ds.mg Ds.fu.kp Ds.bd (da_cons (de_var 4) (da_cons (de_var 1) (da_cons (de_var 2) (da_nil)))))))))) (ds_one (ds_if (dt_cmp (eq2_ok (hu64 hr)) (de_var 3) (de_str)) (ds_one (ds_expr (de_call G__law_walk (hr.mono h__law_walk) (by rfl) Ds.mg Ds.fu.kp Ds.bd (da_cons (de_ix (hu1 hr) (de_var 0) (de_int)) (da_cons (de_var 1) (da_cons (de_var 2) (da_nil))))))) (ds_one (ds_if (dt_cmp (eq2_ok (hu64 hr)) (de_var 3) (de_str)) (ds_one (ds_for (bd := .one 4) PassesOwn.never rfl (di_seq (de_ix (hu1 hr) (de_var 0) (de_int))) (pg_name (i := 4) nd rfl (by first | exact Or.inl rfl | exact Or.inr rfl)) (ds_one (ds_expr (de_call G__law_walk (hr.mono h__law_walk) (by rfl) Ds.mg Ds.fu.kp Ds.bd (da_cons (de_var 4) (da_cons (de_var 1) (da_cons (de_var 2) (da_nil))))))))) (ds_one (ds_if (dt_cmp (eq2_ok (hu64 hr)) (de_var 3) (de_str)) (ds_one (ds_for (bd := .one 4) PassesOwn.never rfl (di_seq (de_slice (de_var 0) (do_so (de_int)) (do_no))) (pg_name (i := 4) nd rfl (by first | exact Or.inl rfl | exact Or.inr rfl)) (ds_one (ds_expr (de_call G__law_walk (hr.mono h__law_walk) (by rfl) Ds.mg Ds.fu.kp Ds.bd (da_cons (de_var 4) (da_cons (de_var 1) (da_cons (de_var 2) (da_nil))))))))) (ds_one (ds_if (dt_cmp (eq2_ok (hu64 hr)) (de_var 3) (de_str)) (ds_cons (ds_if (dt_cmp (eq2_ok (hu64 hr)) (de_ix (hu1 hr) (de_ix (hu1 hr) (de_var 0) (de_int)) (de_int)) (de_str)) (ds_one (ds_expr (de_mt 2 PySem.F.plainAttrs_list PySem.F.slot_list_append PySem.F.type_list_append app_ok (da_cons (de_slice (de_ix (hu1 hr) (de_var 0) (de_int)) (do_so (de_int)) (do_so (de_int))) (da_nil))))) (ds_nil))
    (ds_one (ds_expr (de_call G__law_walk (hr.mono h__law_walk) (by rfl) Ds.mg Ds.fu.kp Ds.bd (da_cons (de_ix (hu1 hr) (de_var 0) (de_int)) (da_cons (de_var 1) (da_cons (de_var 2) (da_nil)))))))) (ds_one (ds_if (dt_cmp (eq2_ok (hu64 hr)) (de_var 3) (de_str)) (ds_cons (ds_for (bd := .many [5, 4]) PassesOwn.never rfl (di_seq (de_ix (hu1 hr) (de_var 0) (de_int))) (pg_tup rfl (pgs_cons (pg_name (i := 5) nd rfl (by first | exact Or.inl rfl | exact Or.inr rfl)) (pgs_cons (pg_name (i := 4) nd rfl (by first | exact Or.inl rfl | exact Or.inr rfl)) (pgs_nil)))) (ds_one (ds_expr (de_call G__law_walk (hr.mono h__law_walk) (by rfl) Ds.mg Ds.fu.kp Ds.bd (da_cons (de_var 4) (da_cons (de_var 1) (da_cons (de_var 2) (da_nil))))))))
    (ds_one (ds_expr (de_call G__law_walk (hr.mono h__law_walk) (by rfl) Ds.mg Ds.fu.kp Ds.bd (da_cons (de_ix (hu1 hr) (de_var 0) (de_int)) (da_cons (de_var 1) (da_cons (de_var 2) (da_nil)))))))) (ds_nil)))))))))))))

/-! ### _law_many -/
abbrev st__law_many : Stmt := topS 16
theorem sc__law_many : FnScope ["name"] ["name"] (defScope st__law_many) := ⟨rfl, rfl, rfl, by decide +kernel, rfl, by decide +kernel, by decide +kernel⟩
def t__law_many : TSX :=
    sSeq (sIf (tTst (tBin (gIns false) (tNm 0) (tTp (lCons (tIm (.str "+")) (lCons (tIm (.str "cons")) (lCons (tIm (.str "same?")) (lCons (tIm (.str "wrap")) (lNil)))))))) (sRet (tIm (.int 2))) (sNil))
    (sRet (tIfX (tTst (tBin (gEqs2 false) (tNm 0) (tIm (.str "list")))) (tBin gSub (tIm (.int 0)) (tIm (.int 1))) (tIm (.int 1))))
theorem ok__law_many {k : Nat} {F : TF} (Ds : DefAt K mg "_law_many" st__law_many ["name"]) 
    (hB : Body F 1 1 (t__law_many)) : FnD Pg w K mg base Ds (k + 1) F := by
  refine fn_ok Ds.fu sc__law_many hB fun cdv A outer s H E c hr => ?_
  have nd := sc__law_many.nd
  exact ds_cons (ds_if (dt_cmp (in_ok (hu65 hr)) (de_var 0) (de_tup (da_cons (de_str) (da_cons (de_str) (da_cons (de_str) (da_cons (de_str) (da_nil))))))) (ds_one (ds_ret (de_int))) (ds_nil))
    (ds_one (ds_ret (de_if (dt_cmp (eq2_ok (hu64 hr)) (de_var 0) (de_str)) (de_op sub_ok (de_int) (de_int)) (de_int))))

/-! ### law -/
abbrev st_law : Stmt := topS 17
theorem sc_law : FnScope ["script", "draws", "items", "level", "k", "term", "j", "calls", "sets", "item", "found", "first", "many", "kind", "other"] ["script"] (defScope st_law) := ⟨rfl, rfl, rfl, by decide +kernel, rfl, by decide +kernel, by decide +kernel⟩
def b_law_2 (F__law_draws : TF) (F__law_next : TF) (F__law_term : TF) (F__law_new : TF) (F__law_walk : TF) (F__law_many : TF) (F_miscounts : TF) (F__law_same : TF) : TSX :=
    sSeq (sAsg 5 (tCall F__law_term 3 (lCons (tNm 1) (lCons (tNm 3) (lCons (tIm (.int 3)) (lNil))))))
    (sSeq (sIf (tTst (tBin (gEqs2 false) (tCall F__law_next 2 (lCons (tNm 1) (lCons (tIm (.int 2)) (lNil)))) (tIm (.int 0)))) (sAsg 5 (tTp (lCons (tIm (.str "fn")) (lCons (tCl (gTuple) (lCons (tLcX (iRg1 (lCons (tCall F__law_next 2 (lCons (tNm 1) (lCons (tIm (.int 4)) (lNil)))) (lNil))) (.one 6) (qYes) (tCall F__law_new 1 (lCons (tNm 1) (lNil))) [6]) (lNil))) (lCons (tCall F__law_term 3 (lCons (tNm 1) (lCons (tNm 3) (lCons (tIm (.int 3)) (lNil))))) (lNil)))))) (sNil))
    (sDrop (tMt gApp 2 (lCons (tTp (lCons (tIm (.str "def")) (lCons (tNm 3) (lCons (tNm 4) (lCons (tNm 5) (lNil)))))) (lNil)))))
def b_law_3 (F__law_draws : TF) (F__law_next : TF) (F__law_term : TF) (F__law_new : TF) (F__law_walk : TF) (F__law_many : TF) (F_miscounts : TF) (F__law_same : TF) : TSX :=
    sDrop (tMt gApp 2 (lCons (tTp (lCons (tIm (.str "expr")) (lCons (tNm 3) (lCons (tIm (.int 0)) (lCons (tCall F__law_term 3 (lCons (tNm 1) (lCons (tNm 3) (lCons (tIm (.int 4)) (lNil))))) (lNil)))))) (lNil)))
def b_law_1 (F__law_draws : TF) (F__law_next : TF) (F__law_term : TF) (F__law_new : TF) (F__law_walk : TF) (F__law_many : TF) (F_miscounts : TF) (F__law_same : TF) : TSX :=
    sSeq (sFor (iRg1 (lCons (tCall F__law_next 2 (lCons (tNm 1) (lCons (tIm (.int 4)) (lNil)))) (lNil))) (.one 4) (b_law_2 F__law_draws F__law_next F__law_term F__law_new F__law_walk F__law_many F_miscounts F__law_same))
    (sSeq (sFor (iRg1 (lCons (tCall F__law_next 2 (lCons (tNm 1) (lCons (tIm (.int 3)) (lNil)))) (lNil))) (.one 4) (b_law_3 F__law_draws F__law_next F__law_term F__law_new F__law_walk F__law_many F_miscounts F__law_same))
    (sIf (tAndQ (tTst (tBin (gGt) (tNm 3) (tIm (.int 0)))) (tTst (tBin (gEqs2 false) (tCall F__law_next 2 (lCons (tNm 1) (lCons (tIm (.int 2)) (lNil)))) (tIm (.int 0))))) (sDrop (tMt gApp 2 (lCons (tTp (lCons (tIm (.str "mac")) (lCons (tBin gSub (tNm 3) (tIm (.int 1))) (lCons (tCall F__law_next 2 (lCons (tNm 1) (lCons (tIm (.int 3)) (lNil)))) (lCons (tCall F__law_term 3 (lCons (tNm 1) (lCons (tNm 3) (lCons (tIm (.int 4)) (lNil))))) (lNil)))))) (lNil)))) (sNil)))
def b_law_4 (F__law_draws : TF) (F__law_next : TF) (F__law_term : TF) (F__law_new : TF) (F__law_walk : TF) (F__law_many : TF) (F_miscounts : TF) (F__law_same : TF) : TSX :=
    sDrop (tCall F__law_walk 3 (lCons (tBin gIx (tNm 9) (tIm (.int 3))) (lCons (tNm 7) (lCons (tNm 8) (lNil)))))
def b_law_6 (F__law_draws : TF) (F__law_next : TF) (F__law_term : TF) (F__law_new : TF) (F__law_walk : TF) (F__law_many : TF) (F_miscounts : TF) (F__law_same : TF) : TSX :=
    sIf (tAndQ (tTst (tBin (gEqs2 false) (tNm 13) (tIm (.str "def")))) (tAndQ (tTst (tBin (gEqs2 false) (tTp (lCons (tNm 3) (lCons (tNm 4) (lNil)))) (tSlc (tNm 11) (pSo (tIm (.int 2))) (pSo (tIm (.int 4)))))) (tTst (tBin (gEqs2 false) (tBin gIx (tNm 14) (tIm (.int 0))) (tIm (.str "fn")))))) (sAsg 12 (tCl (gLen) (lCons (tBin gIx (tNm 14) (tIm (.int 1))) (lNil)))) (sNil)
def b_law_5 (F__law_draws : TF) (F__law_next : TF) (F__law_term : TF) (F__law_new : TF) (F__law_walk : TF) (F__law_many : TF) (F_miscounts : TF) (F__law_same : TF) : TSX :=
    sSeq (sAsg 11 (tBin gIx (tNm 5) (tIm (.int 1))))
    (sSeq (sAsg 12 (tBin gSub (tIm (.int 0)) (tIm (.int 1))))
    (sSeq (sIf (tTst (tBin (gEqs2 false) (tBin gIx (tNm 11) (tIm (.int 0))) (tIm (.str "fn")))) (sAsg 12 (tCl (gLen) (lCons (tBin gIx (tNm 11) (tIm (.int 1))) (lNil)))) (sIf (tTst (tBin (gEqs2 false) (tBin gIx (tNm 11) (tIm (.int 0))) (tIm (.str "prim")))) (sAsg 12 (tCall F__law_many 1 (lCons (tBin gIx (tNm 11) (tIm (.int 1))) (lNil)))) (sIf (tAndQ (tTst (tBin (gEqs2 false) (tBin gIx (tNm 11) (tIm (.int 0))) (tIm (.str "top")))) (tAndQ (tTst (tBin (gEqs2 false) (tBin gIx (tNm 11) (tIm (.int 1))) (tIm (.str "m")))) (tTst (tBin (gIns true) (tSlc (tNm 11) (pSo (tIm (.int 1))) (pSo (tIm (.int 4)))) (tNm 8))))) (sFor (iSeq (tNm 2)) (.many [13, 3, 4, 14]) (b_law_6 F__law_draws F__law_next F__law_term F__law_new F__law_walk F__law_many F_miscounts F__law_same)) (sNil))))
    (sIf (tAndQ (tTst (tBin (gGe) (tNm 12) (tIm (.int 0)))) (tTst (tBin (gEqs true) (tNm 12) (tCl (gLen) (lCons (tBin gIx (tNm 5) (tIm (.int 2))) (lNil)))))) (sDrop (tMt gApp 10 (lCons (tBin gIx (tNm 5) (tIm (.int 3))) (lNil)))) (sNil))))
def t_law (F__law_draws : TF) (F__law_next : TF) (F__law_term : TF) (F__law_new : TF) (F__law_walk : TF) (F__law_many : TF) (F_miscounts : TF) (F__law_same : TF) : TSX :=
    sSeq (sAsg 1 (tBin gAdd (tLs (lCons (tIm (.int 100)) (lNil))) (tCall F__law_draws 2 (lCons (tNm 0) (lCons (tIm (.int 1500)) (lNil))))))
    (sSeq (sAsg 2 (tLs (lNil)))
    (sSeq (sFor (iRg1 (lCons (tIm (.int 4)) (lNil))) (.one 3) (b_law_1 F__law_draws F__law_next F__law_term F__law_new F__law_walk F__law_many F_miscounts F__law_same))
    (sSeq (sPar2 7 8 (lCons (tLs (lNil)) (lCons (tLs (lNil)) (lNil))))
    (sSeq (sFor (iSeq (tNm 2)) (.one 9) (b_law_4 F__law_draws F__law_next F__law_term F__law_new F__law_walk F__law_many F_miscounts F__law_same))
    (sSeq (sAsg 10 (tLs (lNil)))
    (sSeq (sFor (iSeq (tNm 7)) (.one 5) (b_law_5 F__law_draws F__law_next F__law_term F__law_new F__law_walk F__law_many F_miscounts F__law_same))
    (sRet (tCall F__law_same 2 (lCons (tCall F_miscounts 1 (lCons (tTp (lCons (tIm (.str "module")) (lCons (tIm (.str "m")) (lCons (tTp (lNil)) (lCons (tTp (lNil)) (lCons (tTp (lNil)) (lCons (tCl (gTuple) (lCons (tNm 2) (lNil))) (lNil)))))))) (lNil))) (lCons (tCl (gSorted) (lCons (tNm 10) (lNil))) (lNil)))))))))))
theorem ok_law {k : Nat} {F : TF} (Ds : DefAt K mg "law" st_law ["script"]) (z_range : mg "range" = none) (z_tuple : mg "tuple" = none) (z_len : mg "len" = none) (z_sorted : mg "sorted" = none) {F__law_draws : TF} {k__law_draws : Nat} (D__law_draws : DefAt K mg "_law_draws" st__law_draws ["script", "count"]) (G__law_draws : FnD Pg w K mg base D__law_draws k__law_draws F__law_draws) (h__law_draws : k__law_draws ≤ k) {F__law_next : TF} {k__law_next : Nat} (D__law_next : DefAt K mg "_law_next" st__law_next ["draws", "limit"]) (G__law_next : FnD Pg w K mg base D__law_next k__law_next F__law_next) (h__law_next : k__law_next ≤ k) {F__law_term : TF} {k__law_term : Nat} (D__law_term : DefAt K mg "_law_term" st__law_term ["draws", "level", "depth"]) (G__law_term : FnD Pg w K mg base D__law_term k__law_term F__law_term) (h__law_term : k__law_term ≤ k) {F__law_new : TF} {k__law_new : Nat} (D__law_new : DefAt K mg "_law_new" st__law_new ["draws"]) (G__law_new : FnD Pg w K mg base D__law_new k__law_new F__law_new) (h__law_new : k__law_new ≤ k) {F__law_walk : TF} {k__law_walk : Nat} (D__law_walk : DefAt K mg "_law_walk" st__law_walk ["term", "calls", "sets"]) (G__law_walk : FnD Pg w K mg base D__law_walk k__law_walk F__law_walk) (h__law_walk : k__law_walk ≤ k) {F__law_many : TF} {k__law_many : Nat} (D__law_many : DefAt K mg "_law_many" st__law_many ["name"]) (G__law_many : FnD Pg w K mg base D__law_many k__law_many F__law_many) (h__law_many : k__law_many ≤ k) {F_miscounts : TF} {k_miscounts : Nat} (D_miscounts : DefAt K mg "miscounts" st_miscounts ["artifact"]) (G_miscounts : FnD Pg w K mg base D_miscounts k_miscounts F_miscounts) (h_miscounts : k_miscounts ≤ k) {F__law_same : TF} {k__law_same : Nat} (D__law_same : DefAt K mg "_law_same" st__law_same ["found", "due"]) (G__law_same : FnD Pg w K mg base D__law_same k__law_same F__law_same) (h__law_same : k__law_same ≤ k)
    (hB : Body F 15 1 (t_law F__law_draws F__law_next F__law_term F__law_new F__law_walk F__law_many F_miscounts F__law_same)) : FnD Pg w K mg base Ds (k + 1) F := by
  refine fn_ok Ds.fu sc_law hB fun cdv A outer s H E c hr => ?_
  have nd := sc_law.nd
  exact ds_cons (ds_set (i := 1) nd (de_op add_ok (de_lst (da_cons (de_int) (da_nil))) (de_call G__law_draws (hr.mono h__law_draws) (by rfl) D__law_draws.mg D__law_draws.fu.kp D__law_draws.bd (da_cons (de_var 0) (da_cons (de_int) (da_nil))))))
    (ds_cons (ds_set (i := 2) nd (de_lst (da_nil)))
    (ds_cons (ds_for (bd := .one 3) PassesOwn.never rfl (di_rng1 (by rfl) z_range (da_cons (de_int) (da_nil))) (pg_name (i := 3) nd rfl (by first | exact Or.inl rfl | exact Or.inr rfl)) (ds_cons (ds_for (bd := .one 4) PassesOwn.never rfl (di_rng1 (by rfl) z_range (da_cons (de_call G__law_next (hr.mono h__law_next) (by rfl) D__law_next.mg D__law_next.fu.kp D__law_next.bd (da_cons (de_var 1) (da_cons (de_int) (da_nil)))) (da_nil))) (pg_name (i := 4) nd rfl (by first | exact Or.inl rfl | exact Or.inr rfl)) (ds_cons (ds_set (i := 5) nd (de_call G__law_term (hr.mono h__law_term) (by rfl) D__law_term.mg D__law_term.fu.kp D__law_term.bd (da_cons (de_var 1) (da_cons (de_var 3) (da_cons (de_int) (da_nil))))))
    (ds_cons (ds_if (dt_cmp (eq2_ok (hu64 hr)) (de_call G__law_next (hr.mono h__law_next) (by rfl) D__law_next.mg D__law_next.fu.kp D__law_next.bd (da_cons (de_var 1) (da_cons (de_int) (da_nil)))) (de_int)) (ds_one (ds_set (i := 5) nd (de_tup (da_cons (de_str) (da_cons (de_callT (tuple_ok) (by rfl) z_tuple (by decide +kernel) (da_cons (de_lc (own := [("j", 6)]) (bd := .one 6) rfl nd (di_rng1 (by rfl) z_range (da_cons (de_call G__law_next (hr.mono h__law_next) (by rfl) D__law_next.mg D__law_next.fu.kp D__law_next.bd (da_cons (de_var 1) (da_cons (de_int) (da_nil)))) (da_nil))) (by kernel_rfl) (fun _ _ _ _ _ => pg_name (i := 6) nd rfl (by first | exact Or.inl rfl | exact Or.inr rfl)) (fun _ _ _ _ _ => dq_nil) (fun _ _ _ _ _ => de_call G__law_new (hr.mono h__law_new) (by rfl) D__law_new.mg D__law_new.fu.kp D__law_new.bd (da_cons (de_var 1) (da_nil)))) (da_nil))) (da_cons (de_call G__law_term (hr.mono h__law_term) (by rfl) D__law_term.mg D__law_term.fu.kp D__law_term.bd (da_cons (de_var 1) (da_cons (de_var 3) (da_cons (de_int) (da_nil))))) (da_nil))))))) (ds_nil))
    (ds_one (ds_expr (de_mt 2 PySem.F.plainAttrs_list PySem.F.slot_list_append PySem.F.type_list_append app_ok (da_cons (de_tup (da_cons (de_str) (da_cons (de_var 3) (da_cons (de_var 4) (da_cons (de_var 5) (da_nil)))))) (da_nil))))))))
    (ds_cons (ds_for (bd := .one 4) PassesOwn.never rfl (di_rng1 (by rfl) z_range (da_cons (de_call G__law_next (hr.mono h__law_next) (by rfl) D__law_next.mg D__law_next.fu.kp D__law_next.bd (da_cons (de_var 1) (da_cons (de_int) (da_nil)))) (da_nil))) (pg_name (i := 4) nd rfl (by first | exact Or.inl rfl | exact Or.inr rfl)) (ds_one (ds_expr (de_mt 2 PySem.F.plainAttrs_list PySem.F.slot_list_append PySem.F.type_list_append app_ok (da_cons (de_tup (da_cons (de_str) (da_cons (de_var 3) (da_cons (de_int) (da_cons (de_call G__law_term (hr.mono h__law_term) (by rfl) D__law_term.mg D__law_term.fu.kp D__law_term.bd (da_cons (de_var 1) (da_cons (de_var 3) (da_cons (de_int) (da_nil))))) (da_nil)))))) (da_nil))))))
    (ds_one (ds_if (dw_pt (dw_and (dt_cmp (gt_ok) (de_var 3) (de_int)) (dw_and1 (dt_cmp (eq2_ok (hu64 hr)) (de_call G__law_next (hr.mono h__law_next) (by rfl) D__law_next.mg D__law_next.fu.kp D__law_next.bd (da_cons (de_var 1) (da_cons (de_int) (da_nil)))) (de_int))))) (ds_one (ds_expr (de_mt 2 PySem.F.plainAttrs_list PySem.F.slot_list_append PySem.F.type_list_append app_ok (da_cons (de_tup (da_cons (de_str) (da_cons (de_op sub_ok (de_var 3) (de_int)) (da_cons (de_call G__law_next (hr.mono h__law_next) (by rfl) D__law_next.mg D__law_next.fu.kp D__law_next.bd (da_cons (de_var 1) (da_cons (de_int) (da_nil)))) (da_cons (de_call G__law_term (hr.mono h__law_term) (by rfl) D__law_term.mg D__law_term.fu.kp D__law_term.bd (da_cons (de_var 1) (da_cons (de_var 3) (da_cons (de_int) (da_nil))))) (da_nil)))))) (da_nil))))) (ds_nil))))))
    (ds_cons (ds_par (i := 7) (j := 8) rfl nd (by decide) (da_cons (de_lst (da_nil)) (da_cons (de_lst (da_nil)) (da_nil))))
    (ds_cons (ds_for (bd := .one 9) PassesOwn.never rfl (di_seq (de_var 2)) (pg_name (i := 9) nd rfl (by first | exact Or.inl rfl | exact Or.inr rfl)) (ds_one (ds_expr (de_call G__law_walk (hr.mono h__law_walk) (by rfl) D__law_walk.mg D__law_walk.fu.kp D__law_walk.bd (da_cons (de_ix (hu1 hr) (de_var 9) (de_int)) (da_cons (de_var 7) (da_cons (de_var 8) (da_nil))))))))
    (ds_cons (ds_set (i := 10) nd (de_lst (da_nil)))
    (ds_cons (ds_for (bd := .one 5) PassesOwn.never rfl (di_seq (de_var 7)) (pg_name (i := 5) nd rfl (by first | exact Or.inl rfl | exact Or.inr rfl)) (ds_cons (ds_set (i := 11) nd (de_ix (hu1 hr) (de_var 5) (de_int)))
    (ds_cons (ds_set (i := 12) nd (de_op sub_ok (de_int) (de_int)))
    (ds_cons (ds_if (dt_cmp (eq2_ok (hu64 hr)) (de_ix (hu1 hr) (de_var 11) (de_int)) (de_str)) (ds_one (ds_set (i := 12) nd (de_callB (len_ok) (by rfl) z_len (by decide +kernel) (da_cons (de_ix (hu1 hr) (de_var 11) (de_int)) (da_nil))))) (ds_one (ds_if (dt_cmp (eq2_ok (hu64 hr)) (de_ix (hu1 hr) (de_var 11) (de_int)) (de_str)) (ds_one (ds_set (i := 12) nd (de_call G__law_many (hr.mono h__law_many) (by rfl) D__law_many.mg D__law_many.fu.kp D__law_many.bd (da_cons (de_ix (hu1 hr) (de_var 11) (de_int)) (da_nil))))) (ds_one (ds_if (dw_pt (dw_and (dt_cmp (eq2_ok (hu64 hr)) (de_ix (hu1 hr) (de_var 11) (de_int)) (de_str)) (dw_and (dt_cmp (eq2_ok (hu64 hr)) (de_ix (hu1 hr) (de_var 11) (de_int)) (de_str)) (dw_and1 (dt_cmp (notin_ok (hu65 hr)) (de_slice (de_var 11) (do_so (de_int)) (do_so (de_int))) (de_var 8)))))) (ds_one (ds_for (bd := .many [13, 3, 4, 14]) PassesOwn.never rfl (di_seq (de_var 2)) (pg_tup rfl (pgs_cons (pg_name (i := 13) nd rfl (by first | exact Or.inl rfl | exact Or.inr rfl)) (pgs_cons (pg_name (i := 3) nd rfl (by first | exact Or.inl rfl | exact Or.inr rfl)) (pgs_cons (pg_name (i := 4) nd rfl (by first | exact Or.inl rfl | exact Or.inr rfl)) (pgs_cons (pg_name (i := 14) nd rfl (by first | exact Or.inl rfl | exact Or.inr rfl)) (pgs_nil)))))) (ds_one (ds_if (dw_pt (dw_and (dt_cmp (eq2_ok (hu64 hr)) (de_var 13) (de_str)) (dw_and (dt_cmp (eq2_ok (hu64 hr)) (de_tup (da_cons (de_var 3) (da_cons (de_var 4) (da_nil)))) (de_slice (de_var 11) (do_so (de_int)) (do_so (de_int)))) (dw_and1 (dt_cmp (eq2_ok (hu64 hr)) (de_ix (hu1 hr) (de_var 14) (de_int)) (de_str)))))) (ds_one (ds_set (i := 12) nd (de_callB (len_ok) (by rfl) z_len (by decide +kernel) (da_cons (de_ix (hu1 hr) (de_var 14) (de_int)) (da_nil))))) (ds_nil))))) (ds_nil))))))
    (ds_one (ds_if (dw_pt (dw_and (dt_cmp (ge_ok) (de_var 12) (de_int)) (dw_and1 (dt_cmp (ne_ok (hu64 hr)) (de_var 12) (de_callB (len_ok) (by rfl) z_len (by decide +kernel) (da_cons (de_ix (hu1 hr) (de_var 5) (de_int)) (da_nil))))))) (ds_one (ds_expr (de_mt 10 PySem.F.plainAttrs_list PySem.F.slot_list_append PySem.F.type_list_append app_ok (da_cons (de_ix (hu1 hr) (de_var 5) (de_int)) (da_nil))))) (ds_nil)))))))
    (ds_one (ds_ret (de_call G__law_same (hr.mono h__law_same) (by rfl) D__law_same.mg D__law_same.fu.kp D__law_same.bd (da_cons (de_call G_miscounts (hr.mono h_miscounts) (by rfl) D_miscounts.mg D_miscounts.fu.kp D_miscounts.bd (da_cons (de_tup (da_cons (de_str) (da_cons (de_str) (da_cons (de_tup (da_nil)) (da_cons (de_tup (da_nil)) (da_cons (de_tup (da_nil)) (da_cons (de_callT (tuple_ok) (by rfl) z_tuple (by decide +kernel) (da_cons (de_var 2) (da_nil))) (da_nil)))))))) (da_nil))) (da_cons (de_callB (sorted_ok rfl (hu80 hr)) (by rfl) z_sorted (by decide +kernel) (da_cons (de_var 10) (da_nil))) (da_nil))))))))))))

/-! ### what the top holds -/
structure Top (w : World) (K : PySem.W.Frag) (mg : Str → Option Value) where
  D_inner_parts : DefAt K mg "inner_parts" st_inner_parts ["term"]
  D_terms_in : DefAt K mg "terms_in" st_terms_in ["term"]
  D_constants : DefAt K mg "constants" st_constants ["artifact", "terms"]
  D_wanted : DefAt K mg "wanted" st_wanted ["first", "known"]
  D_miscounts : DefAt K mg "miscounts" st_miscounts ["artifact"]
  D__law_draws : DefAt K mg "_law_draws" st__law_draws ["script", "count"]
  D__law_next : DefAt K mg "_law_next" st__law_next ["draws", "limit"]
  D__law_same : DefAt K mg "_law_same" st__law_same ["found", "due"]
  D__law_new : DefAt K mg "_law_new" st__law_new ["draws"]
  D__law_head : DefAt K mg "_law_head" st__law_head ["draws", "level", "depth"]
  D__law_term : DefAt K mg "_law_term" st__law_term ["draws", "level", "depth"]
  D__law_walk : DefAt K mg "_law_walk" st__law_walk ["term", "calls", "sets"]
  D__law_many : DefAt K mg "_law_many" st__law_many ["name"]
  D_law : DefAt K mg "law" st_law ["script"]
  z_list : mg "list" = none
  z_len : mg "len" = none
  z_sorted : mg "sorted" = none
  z_range : mg "range" = none
  z_int : mg "int" = none
  z_bool : mg "bool" = none
  z_isinstance : mg "isinstance" = none
  z_str : mg "str" = none
  z_tuple : mg "tuple" = none
  z_all : mg "all" = none
  g_ARGUMENTS : GTab K w mg "ARGUMENTS" tab_ARGUMENTS
  bl : ∀ (s : Shared) (v : Value), BindsTo s D_law.fd ⟨[v], []⟩ [("script", v)]
def tp_mk {w : World} {K : PySem.W.Frag} {h : Heap} {mg : Str → Option Value} (X : K.In h) (G : h.Ns mainGlobals mg)
    {f0 : Addr} {od0 an0 : Option Addr} {sl0 : Array (Option Value)} {oc0 kV0 dc0 pm0 cd0 ct0 : Value}
    (a0 : PySem.W.nsIn K mainGlobals "inner_parts" = some (some (.ref f0))) (l0 : K.lookup f0 = some ⟨oc0, od0, .func (PySem.W.fnOf "inner_parts" "inner_parts" (defArgs st_inner_parts) (defBody st_inner_parts) (defScope st_inner_parts) .none kV0 dc0 pm0 an0 cd0 ct0), sl0⟩) (c0 : PySem.W.codeIn K cd0 "inner_parts" = true) (k0 : PySem.W.keepIn K (.ref f0) = true)
    {f1 : Addr} {od1 an1 : Option Addr} {sl1 : Array (Option Value)} {oc1 kV1 dc1 pm1 cd1 ct1 : Value}
    (a1 : PySem.W.nsIn K mainGlobals "terms_in" = some (some (.ref f1))) (l1 : K.lookup f1 = some ⟨oc1, od1, .func (PySem.W.fnOf "terms_in" "terms_in" (defArgs st_terms_in) (defBody st_terms_in) (defScope st_terms_in) .none kV1 dc1 pm1 an1 cd1 ct1), sl1⟩) (c1 : PySem.W.codeIn K cd1 "terms_in" = true) (k1 : PySem.W.keepIn K (.ref f1) = true)
    {f2 : Addr} {od2 an2 : Option Addr} {sl2 : Array (Option Value)} {oc2 kV2 dc2 pm2 cd2 ct2 : Value}
    (a2 : PySem.W.nsIn K mainGlobals "constants" = some (some (.ref f2))) (l2 : K.lookup f2 = some ⟨oc2, od2, .func (PySem.W.fnOf "constants" "constants" (defArgs st_constants) (defBody st_constants) (defScope st_constants) .none kV2 dc2 pm2 an2 cd2 ct2), sl2⟩) (c2 : PySem.W.codeIn K cd2 "constants" = true) (k2 : PySem.W.keepIn K (.ref f2) = true)
    {f3 : Addr} {od3 an3 : Option Addr} {sl3 : Array (Option Value)} {oc3 kV3 dc3 pm3 cd3 ct3 : Value}
    (a3 : PySem.W.nsIn K mainGlobals "wanted" = some (some (.ref f3))) (l3 : K.lookup f3 = some ⟨oc3, od3, .func (PySem.W.fnOf "wanted" "wanted" (defArgs st_wanted) (defBody st_wanted) (defScope st_wanted) .none kV3 dc3 pm3 an3 cd3 ct3), sl3⟩) (c3 : PySem.W.codeIn K cd3 "wanted" = true) (k3 : PySem.W.keepIn K (.ref f3) = true)
    {f4 : Addr} {od4 an4 : Option Addr} {sl4 : Array (Option Value)} {oc4 kV4 dc4 pm4 cd4 ct4 : Value}
    (a4 : PySem.W.nsIn K mainGlobals "miscounts" = some (some (.ref f4))) (l4 : K.lookup f4 = some ⟨oc4, od4, .func (PySem.W.fnOf "miscounts" "miscounts" (defArgs st_miscounts) (defBody st_miscounts) (defScope st_miscounts) .none kV4 dc4 pm4 an4 cd4 ct4), sl4⟩) (c4 : PySem.W.codeIn K cd4 "miscounts" = true) (k4 : PySem.W.keepIn K (.ref f4) = true)
    {f5 : Addr} {od5 an5 : Option Addr} {sl5 : Array (Option Value)} {oc5 kV5 dc5 pm5 cd5 ct5 : Value}
    (a5 : PySem.W.nsIn K mainGlobals "_law_draws" = some (some (.ref f5))) (l5 : K.lookup f5 = some ⟨oc5, od5, .func (PySem.W.fnOf "_law_draws" "_law_draws" (defArgs st__law_draws) (defBody st__law_draws) (defScope st__law_draws) .none kV5 dc5 pm5 an5 cd5 ct5), sl5⟩) (c5 : PySem.W.codeIn K cd5 "_law_draws" = true) (k5 : PySem.W.keepIn K (.ref f5) = true)
    {f6 : Addr} {od6 an6 : Option Addr} {sl6 : Array (Option Value)} {oc6 kV6 dc6 pm6 cd6 ct6 : Value}
    (a6 : PySem.W.nsIn K mainGlobals "_law_next" = some (some (.ref f6))) (l6 : K.lookup f6 = some ⟨oc6, od6, .func (PySem.W.fnOf "_law_next" "_law_next" (defArgs st__law_next) (defBody st__law_next) (defScope st__law_next) .none kV6 dc6 pm6 an6 cd6 ct6), sl6⟩) (c6 : PySem.W.codeIn K cd6 "_law_next" = true) (k6 : PySem.W.keepIn K (.ref f6) = true)
    {f7 : Addr} {od7 an7 : Option Addr} {sl7 : Array (Option Value)} {oc7 kV7 dc7 pm7 cd7 ct7 : Value}
    (a7 : PySem.W.nsIn K mainGlobals "_law_same" = some (some (.ref f7))) (l7 : K.lookup f7 = some ⟨oc7, od7, .func (PySem.W.fnOf "_law_same" "_law_same" (defArgs st__law_same) (defBody st__law_same) (defScope st__law_same) .none kV7 dc7 pm7 an7 cd7 ct7), sl7⟩) (c7 : PySem.W.codeIn K cd7 "_law_same" = true) (k7 : PySem.W.keepIn K (.ref f7) = true)
    {f8 : Addr} {od8 an8 : Option Addr} {sl8 : Array (Option Value)} {oc8 kV8 dc8 pm8 cd8 ct8 : Value}
    (a8 : PySem.W.nsIn K mainGlobals "_law_new" = some (some (.ref f8))) (l8 : K.lookup f8 = some ⟨oc8, od8, .func (PySem.W.fnOf "_law_new" "_law_new" (defArgs st__law_new) (defBody st__law_new) (defScope st__law_new) .none kV8 dc8 pm8 an8 cd8 ct8), sl8⟩) (c8 : PySem.W.codeIn K cd8 "_law_new" = true) (k8 : PySem.W.keepIn K (.ref f8) = true)
    {f9 : Addr} {od9 an9 : Option Addr} {sl9 : Array (Option Value)} {oc9 kV9 dc9 pm9 cd9 ct9 : Value}
    (a9 : PySem.W.nsIn K mainGlobals "_law_head" = some (some (.ref f9))) (l9 : K.lookup f9 = some ⟨oc9, od9, .func (PySem.W.fnOf "_law_head" "_law_head" (defArgs st__law_head) (defBody st__law_head) (defScope st__law_head) .none kV9 dc9 pm9 an9 cd9 ct9), sl9⟩) (c9 : PySem.W.codeIn K cd9 "_law_head" = true) (k9 : PySem.W.keepIn K (.ref f9) = true)
    {f10 : Addr} {od10 an10 : Option Addr} {sl10 : Array (Option Value)} {oc10 kV10 dc10 pm10 cd10 ct10 : Value}
    (a10 : PySem.W.nsIn K mainGlobals "_law_term" = some (some (.ref f10))) (l10 : K.lookup f10 = some ⟨oc10, od10, .func (PySem.W.fnOf "_law_term" "_law_term" (defArgs st__law_term) (defBody st__law_term) (defScope st__law_term) .none kV10 dc10 pm10 an10 cd10 ct10), sl10⟩) (c10 : PySem.W.codeIn K cd10 "_law_term" = true) (k10 : PySem.W.keepIn K (.ref f10) = true)
    {f11 : Addr} {od11 an11 : Option Addr} {sl11 : Array (Option Value)} {oc11 kV11 dc11 pm11 cd11 ct11 : Value}
    (a11 : PySem.W.nsIn K mainGlobals "_law_walk" = some (some (.ref f11))) (l11 : K.lookup f11 = some ⟨oc11, od11, .func (PySem.W.fnOf "_law_walk" "_law_walk" (defArgs st__law_walk) (defBody st__law_walk) (defScope st__law_walk) .none kV11 dc11 pm11 an11 cd11 ct11), sl11⟩) (c11 : PySem.W.codeIn K cd11 "_law_walk" = true) (k11 : PySem.W.keepIn K (.ref f11) = true)
    {f12 : Addr} {od12 an12 : Option Addr} {sl12 : Array (Option Value)} {oc12 kV12 dc12 pm12 cd12 ct12 : Value}
    (a12 : PySem.W.nsIn K mainGlobals "_law_many" = some (some (.ref f12))) (l12 : K.lookup f12 = some ⟨oc12, od12, .func (PySem.W.fnOf "_law_many" "_law_many" (defArgs st__law_many) (defBody st__law_many) (defScope st__law_many) .none kV12 dc12 pm12 an12 cd12 ct12), sl12⟩) (c12 : PySem.W.codeIn K cd12 "_law_many" = true) (k12 : PySem.W.keepIn K (.ref f12) = true)
    {f13 : Addr} {od13 an13 : Option Addr} {sl13 : Array (Option Value)} {oc13 kV13 dc13 pm13 cd13 ct13 : Value}
    (a13 : PySem.W.nsIn K mainGlobals "law" = some (some (.ref f13))) (l13 : K.lookup f13 = some ⟨oc13, od13, .func (PySem.W.fnOf "law" "law" (defArgs st_law) (defBody st_law) (defScope st_law) .none kV13 dc13 pm13 an13 cd13 ct13), sl13⟩) (c13 : PySem.W.codeIn K cd13 "law" = true) (k13 : PySem.W.keepIn K (.ref f13) = true)
    (z0 : PySem.W.nsIn K mainGlobals "list" = some none)
    (z1 : PySem.W.nsIn K mainGlobals "len" = some none)
    (z2 : PySem.W.nsIn K mainGlobals "sorted" = some none)
    (z3 : PySem.W.nsIn K mainGlobals "range" = some none)
    (z4 : PySem.W.nsIn K mainGlobals "int" = some none)
    (z5 : PySem.W.nsIn K mainGlobals "bool" = some none)
    (z6 : PySem.W.nsIn K mainGlobals "isinstance" = some none)
    (z7 : PySem.W.nsIn K mainGlobals "str" = some none)
    (z8 : PySem.W.nsIn K mainGlobals "tuple" = some none)
    (z9 : PySem.W.nsIn K mainGlobals "all" = some none)
    {ta0 : Addr} {te0 : Array DictEntry} {tn0 : Nat} (tg0 : PySem.W.nsIn K mainGlobals "ARGUMENTS" = some (some (.ref ta0))) (tl0 : K.lookup ta0 = some ⟨.type "dict", none, .dict te0 tn0, #[]⟩) (tk0 : PySem.W.KeysLit w.params te0.toList) (ts0 : (ta0 == sysModules) = false)
    (tr0 : Paired (fun (e : DictEntry) (p : Str × D) => (∃ t, e.key = .str p.1 t) ∧ Gv p.2 e.val) te0.toList tab_ARGUMENTS)
    : Top w K mg where
  D_inner_parts := ⟨_, _, fun_mk (st := st_inner_parts) l0 c0 k0, PySem.W.mg_of X G a0, (fun_mk (st := st_inner_parts) l0 c0 k0).binds (ps := ["term"]) fun _ _ _ _ _ _ us hl => match us, hl with | [_], _ => rfl⟩
  D_terms_in := ⟨_, _, fun_mk (st := st_terms_in) l1 c1 k1, PySem.W.mg_of X G a1, (fun_mk (st := st_terms_in) l1 c1 k1).binds (ps := ["term"]) fun _ _ _ _ _ _ us hl => match us, hl with | [_], _ => rfl⟩
  D_constants := ⟨_, _, fun_mk (st := st_constants) l2 c2 k2, PySem.W.mg_of X G a2, (fun_mk (st := st_constants) l2 c2 k2).binds (ps := ["artifact", "terms"]) fun _ _ _ _ _ _ us hl => match us, hl with | [_, _], _ => rfl⟩
  D_wanted := ⟨_, _, fun_mk (st := st_wanted) l3 c3 k3, PySem.W.mg_of X G a3, (fun_mk (st := st_wanted) l3 c3 k3).binds (ps := ["first", "known"]) fun _ _ _ _ _ _ us hl => match us, hl with | [_, _], _ => rfl⟩
  D_miscounts := ⟨_, _, fun_mk (st := st_miscounts) l4 c4 k4, PySem.W.mg_of X G a4, (fun_mk (st := st_miscounts) l4 c4 k4).binds (ps := ["artifact"]) fun _ _ _ _ _ _ us hl => match us, hl with | [_], _ => rfl⟩
  D__law_draws := ⟨_, _, fun_mk (st := st__law_draws) l5 c5 k5, PySem.W.mg_of X G a5, (fun_mk (st := st__law_draws) l5 c5 k5).binds (ps := ["script", "count"]) fun _ _ _ _ _ _ us hl => match us, hl with | [_, _], _ => rfl⟩
  D__law_next := ⟨_, _, fun_mk (st := st__law_next) l6 c6 k6, PySem.W.mg_of X G a6, (fun_mk (st := st__law_next) l6 c6 k6).binds (ps := ["draws", "limit"]) fun _ _ _ _ _ _ us hl => match us, hl with | [_, _], _ => rfl⟩
  D__law_same := ⟨_, _, fun_mk (st := st__law_same) l7 c7 k7, PySem.W.mg_of X G a7, (fun_mk (st := st__law_same) l7 c7 k7).binds (ps := ["found", "due"]) fun _ _ _ _ _ _ us hl => match us, hl with | [_, _], _ => rfl⟩
  D__law_new := ⟨_, _, fun_mk (st := st__law_new) l8 c8 k8, PySem.W.mg_of X G a8, (fun_mk (st := st__law_new) l8 c8 k8).binds (ps := ["draws"]) fun _ _ _ _ _ _ us hl => match us, hl with | [_], _ => rfl⟩
  D__law_head := ⟨_, _, fun_mk (st := st__law_head) l9 c9 k9, PySem.W.mg_of X G a9, (fun_mk (st := st__law_head) l9 c9 k9).binds (ps := ["draws", "level", "depth"]) fun _ _ _ _ _ _ us hl => match us, hl with | [_, _, _], _ => rfl⟩
  D__law_term := ⟨_, _, fun_mk (st := st__law_term) l10 c10 k10, PySem.W.mg_of X G a10, (fun_mk (st := st__law_term) l10 c10 k10).binds (ps := ["draws", "level", "depth"]) fun _ _ _ _ _ _ us hl => match us, hl with | [_, _, _], _ => rfl⟩
  D__law_walk := ⟨_, _, fun_mk (st := st__law_walk) l11 c11 k11, PySem.W.mg_of X G a11, (fun_mk (st := st__law_walk) l11 c11 k11).binds (ps := ["term", "calls", "sets"]) fun _ _ _ _ _ _ us hl => match us, hl with | [_, _, _], _ => rfl⟩
  D__law_many := ⟨_, _, fun_mk (st := st__law_many) l12 c12 k12, PySem.W.mg_of X G a12, (fun_mk (st := st__law_many) l12 c12 k12).binds (ps := ["name"]) fun _ _ _ _ _ _ us hl => match us, hl with | [_], _ => rfl⟩
  D_law := ⟨_, _, fun_mk (st := st_law) l13 c13 k13, PySem.W.mg_of X G a13, (fun_mk (st := st_law) l13 c13 k13).binds (ps := ["script"]) fun _ _ _ _ _ _ us hl => match us, hl with | [_], _ => rfl⟩
  z_list := PySem.W.mg_none_of X G z0
  z_len := PySem.W.mg_none_of X G z1
  z_sorted := PySem.W.mg_none_of X G z2
  z_range := PySem.W.mg_none_of X G z3
  z_int := PySem.W.mg_none_of X G z4
  z_bool := PySem.W.mg_none_of X G z5
  z_isinstance := PySem.W.mg_none_of X G z6
  z_str := PySem.W.mg_none_of X G z7
  z_tuple := PySem.W.mg_none_of X G z8
  z_all := PySem.W.mg_none_of X G z9
  g_ARGUMENTS := ⟨_, _, _, PySem.W.mg_of X G tg0, ⟨tl0, tk0, ts0⟩, tr0⟩
  bl := fun s v => .of_eq rfl
theorem go_inner_parts (T : Top w K mg) {k : Nat} {F : TF}  (hB : Body F 3 1 (t_inner_parts)) : FnD Pg w K mg base T.D_inner_parts (k + 1) F := ok_inner_parts T.D_inner_parts T.z_list hB
theorem go_terms_in (T : Top w K mg) {k : Nat} {F : TF} {F_inner_parts : TF} {k_inner_parts : Nat} (G_inner_parts : FnD Pg w K mg base T.D_inner_parts k_inner_parts F_inner_parts) (h_inner_parts : k_inner_parts ≤ k) (hB : Body F 4 1 (t_terms_in F_inner_parts)) : FnD Pg w K mg base T.D_terms_in (k + 1) F := ok_terms_in T.D_terms_in T.D_inner_parts G_inner_parts h_inner_parts hB
theorem go_constants (T : Top w K mg) {k : Nat} {F : TF}  (hB : Body F 8 2 (t_constants)) : FnD Pg w K mg base T.D_constants (k + 1) F := ok_constants T.D_constants T.z_len hB
theorem go_wanted (T : Top w K mg) {k : Nat} {F : TF}  (hB : Body F 2 2 (t_wanted)) : FnD Pg w K mg base T.D_wanted (k + 1) F := ok_wanted T.D_wanted T.z_len T.g_ARGUMENTS hB
theorem go_miscounts (T : Top w K mg) {k : Nat} {F : TF} {F_terms_in : TF} {k_terms_in : Nat} (G_terms_in : FnD Pg w K mg base T.D_terms_in k_terms_in F_terms_in) (h_terms_in : k_terms_in ≤ k) {F_constants : TF} {k_constants : Nat} (G_constants : FnD Pg w K mg base T.D_constants k_constants F_constants) (h_constants : k_constants ≤ k) {F_wanted : TF} {k_wanted : Nat} (G_wanted : FnD Pg w K mg base T.D_wanted k_wanted F_wanted) (h_wanted : k_wanted ≤ k) (hB : Body F 6 1 (t_miscounts F_terms_in F_constants F_wanted)) : FnD Pg w K mg base T.D_miscounts (k + 1) F := ok_miscounts T.D_miscounts T.z_len T.z_sorted T.D_terms_in G_terms_in h_terms_in T.D_constants G_constants h_constants T.D_wanted G_wanted h_wanted hB
theorem go__law_draws (T : Top w K mg) {k : Nat} {F : TF}  (hB : Body F 9 2 (t__law_draws)) : FnD Pg w K mg base T.D__law_draws (k + 1) F := ok__law_draws T.D__law_draws T.z_list T.z_len T.z_range T.z_int hB
theorem go__law_next (T : Top w K mg) {k : Nat} {F : TF}  (hB : Body F 2 2 (t__law_next)) : FnD Pg w K mg base T.D__law_next (k + 1) F := ok__law_next T.D__law_next T.z_len T.z_int hB
theorem go__law_same (T : Top w K mg) {k : Nat} {F : TF} {F__law_same : TF} {k__law_same : Nat} (G__law_same : FnD Pg w K mg base T.D__law_same k__law_same F__law_same) (h__law_same : k__law_same ≤ k) (hB : Body F 3 2 (t__law_same F__law_same)) : FnD Pg w K mg base T.D__law_same (k + 1) F := ok__law_same T.D__law_same T.z_bool T.z_isinstance T.z_int T.z_str T.z_tuple T.z_list T.z_len T.z_range T.z_all G__law_same h__law_same hB
theorem go__law_new (T : Top w K mg) {k : Nat} {F : TF}  (hB : Body F 1 1 (t__law_new)) : FnD Pg w K mg base T.D__law_new (k + 1) F := ok__law_new T.D__law_new hB
theorem go__law_head (T : Top w K mg) {k : Nat} {F : TF} {F__law_next : TF} {k__law_next : Nat} (G__law_next : FnD Pg w K mg base T.D__law_next k__law_next F__law_next) (h__law_next : k__law_next ≤ k) {F__law_new : TF} {k__law_new : Nat} (G__law_new : FnD Pg w K mg base T.D__law_new k__law_new F__law_new) (h__law_new : k__law_new ≤ k) {F__law_term : TF} {k__law_term : Nat} (G__law_term : FnD Pg w K mg base T.D__law_term k__law_term F__law_term) (h__law_term : k__law_term ≤ k) (hB : Body F 6 3 (t__law_head F__law_next F__law_new F__law_term)) : FnD Pg w K mg base T.D__law_head (k + 1) F := ok__law_head T.D__law_head T.z_range T.z_tuple T.D__law_next G__law_next h__law_next T.D__law_new G__law_new h__law_new T.D__law_term G__law_term h__law_term hB
theorem go__law_term (T : Top w K mg) {k : Nat} {F : TF} {F__law_next : TF} {k__law_next : Nat} (G__law_next : FnD Pg w K mg base T.D__law_next k__law_next F__law_next) (h__law_next : k__law_next ≤ k) {F__law_new : TF} {k__law_new : Nat} (G__law_new : FnD Pg w K mg base T.D__law_new k__law_new F__law_new) (h__law_new : k__law_new ≤ k) {F__law_term : TF} {k__law_term : Nat} (G__law_term : FnD Pg w K mg base T.D__law_term k__law_term F__law_term) (h__law_term : k__law_term ≤ k) {F__law_head : TF} {k__law_head : Nat} (G__law_head : FnD Pg w K mg base T.D__law_head k__law_head F__law_head) (h__law_head : k__law_head ≤ k) (hB : Body F 8 3 (t__law_term F__law_next F__law_new F__law_term F__law_head)) : FnD Pg w K mg base T.D__law_term (k + 1) F := ok__law_term T.D__law_term T.z_range T.z_tuple T.D__law_next G__law_next h__law_next T.D__law_new G__law_new h__law_new G__law_term h__law_term T.D__law_head G__law_head h__law_head hB
theorem go__law_walk (T : Top w K mg) {k : Nat} {F : TF} {F__law_walk : TF} {k__law_walk : Nat} (G__law_walk : FnD Pg w K mg base T.D__law_walk k__law_walk F__law_walk) (h__law_walk : k__law_walk ≤ k) (hB : Body F 6 3 (t__law_walk F__law_walk)) : FnD Pg w K mg base T.D__law_walk (k + 1) F := ok__law_walk T.D__law_walk G__law_walk h__law_walk hB
theorem go__law_many (T : Top w K mg) {k : Nat} {F : TF}  (hB : Body F 1 1 (t__law_many)) : FnD Pg w K mg base T.D__law_many (k + 1) F := ok__law_many T.D__law_many hB
theorem go_law (T : Top w K mg) {k : Nat} {F : TF} {F__law_draws : TF} {k__law_draws : Nat} (G__law_draws : FnD Pg w K mg base T.D__law_draws k__law_draws F__law_draws) (h__law_draws : k__law_draws ≤ k) {F__law_next : TF} {k__law_next : Nat} (G__law_next : FnD Pg w K mg base T.D__law_next k__law_next F__law_next) (h__law_next : k__law_next ≤ k) {F__law_term : TF} {k__law_term : Nat} (G__law_term : FnD Pg w K mg base T.D__law_term k__law_term F__law_term) (h__law_term : k__law_term ≤ k) {F__law_new : TF} {k__law_new : Nat} (G__law_new : FnD Pg w K mg base T.D__law_new k__law_new F__law_new) (h__law_new : k__law_new ≤ k) {F__law_walk : TF} {k__law_walk : Nat} (G__law_walk : FnD Pg w K mg base T.D__law_walk k__law_walk F__law_walk) (h__law_walk : k__law_walk ≤ k) {F__law_many : TF} {k__law_many : Nat} (G__law_many : FnD Pg w K mg base T.D__law_many k__law_many F__law_many) (h__law_many : k__law_many ≤ k) {F_miscounts : TF} {k_miscounts : Nat} (G_miscounts : FnD Pg w K mg base T.D_miscounts k_miscounts F_miscounts) (h_miscounts : k_miscounts ≤ k) {F__law_same : TF} {k__law_same : Nat} (G__law_same : FnD Pg w K mg base T.D__law_same k__law_same F__law_same) (h__law_same : k__law_same ≤ k) (hB : Body F 15 1 (t_law F__law_draws F__law_next F__law_term F__law_new F__law_walk F__law_many F_miscounts F__law_same)) : FnD Pg w K mg base T.D_law (k + 1) F := ok_law T.D_law T.z_range T.z_tuple T.z_len T.z_sorted T.D__law_draws G__law_draws h__law_draws T.D__law_next G__law_next h__law_next T.D__law_term G__law_term h__law_term T.D__law_new G__law_new h__law_new T.D__law_walk G__law_walk h__law_walk T.D__law_many G__law_many h__law_many T.D_miscounts G_miscounts h_miscounts T.D__law_same G__law_same h__law_same hB
end
end Y
namespace Y
open PySem PySem.Spec L2
/-! ### terms: plain data -/
inductive Lab where
  | cst (d : D) | prim (s : Str) | top (m : Str) (lv k : Int) (sp : Int) | call (sp : Int) | seq | cond | fn (ps : List Int) | set | rcs (ps : List Int)
inductive Tm where
  | nd (l : Lab) (ks : List Tm)
def Tm.lab : Tm → Lab | .nd l _ => l
def Tm.kids : Tm → List Tm | .nd _ ks => ks
def spot (n : Int) : D := .tup [.str "m", .int n]
def zipP : List Int → List D → List D
  | p :: ps, d :: ds => .tup [.int p, d] :: zipP ps ds
  | _, _ => []
def mkD : Lab → List D → D
  | .cst d, _ => .tup [.str "const", d]
  | .prim s, _ => .tup [.str "prim", .str s]
  | .top m lv k sp, _ => .tup [.str "top", .str m, .int lv, .int k, spot sp]
  | .call sp, ds => .tup [.str "call", ds.headD .non, .tup ds.tail, spot sp]
  | .seq, ds => .tup [.str "do", .tup ds]
  | .cond, ds => .tup (.str "if" :: ds)
  | .fn ps, ds => .tup (.str "fn" :: .tup (ps.map D.int) :: ds)
  | .set, ds => .tup (.str "set" :: ds)
  | .rcs ps, ds => .tup [.str "rec", .tup (zipP ps ds), ds.getLastD .non]
mutual
def Tm.d : Tm → D
  | .nd l ks => mkD l (Tm.ds ks)
def Tm.ds : List Tm → List D
  | [] => []
  | t :: ts => t.d :: Tm.ds ts
def Tm.subs : Tm → List Tm
  | .nd l ks => .nd l ks :: Tm.subsL ks
def Tm.subsL : List Tm → List Tm
  | [] => []
  | t :: ts => t.subs ++ Tm.subsL ts
def Tm.h : Tm → Nat
  | .nd _ ks => Tm.hL ks + 1
def Tm.hL : List Tm → Nat
  | [] => 0
  | t :: ts => max t.h (Tm.hL ts)
end
theorem ds_map : ∀ ts : List Tm, Tm.ds ts = ts.map Tm.d
  | [] => rfl
  | t :: ts => by unfold Tm.ds; rw [ds_map ts]; rfl
theorem d_eq (t : Tm) : t.d = mkD t.lab (t.kids.map Tm.d) := by
  cases t with
  | nd l ks => unfold Tm.d; rw [ds_map]; rfl
theorem subs_eq (t : Tm) : t.subs = t :: Tm.subsL t.kids := by cases t with | nd l ks => unfold Tm.subs; rfl
theorem subsL_append : ∀ ts us : List Tm, Tm.subsL (ts ++ us) = Tm.subsL ts ++ Tm.subsL us
  | [], _ => rfl
  | t :: ts, us => by rw [List.cons_append, Tm.subsL, Tm.subsL, subsL_append ts us, List.append_assoc]
theorem subsL_one (t : Tm) : Tm.subsL [t] = t.subs := by unfold Tm.subsL Tm.subsL; rw [List.append_nil]
theorem subsL_cons (t : Tm) (ts : List Tm) : Tm.subsL (t :: ts) = t.subs ++ Tm.subsL ts := by rw [Tm.subsL]
theorem hL_le {n : Nat} : ∀ {ts : List Tm}, (∀ t ∈ ts, t.h ≤ n) → Tm.hL ts ≤ n
  | [], _ => Nat.zero_le _
  | t :: ts, h => by unfold Tm.hL; exact Nat.max_le.mpr ⟨h t List.mem_cons_self, hL_le fun u hu => h u (List.mem_cons_of_mem _ hu)⟩
theorem le_hL {n : Nat} : ∀ {ts : List Tm}, Tm.hL ts ≤ n → ∀ t ∈ ts, t.h ≤ n
  | [], _, _, h => by cases h
  | t :: ts, hn, u, hu => by
    unfold Tm.hL at hn
    rcases List.mem_cons.mp hu with rfl | hu
    · exact Nat.le_trans (Nat.le_max_left _ _) hn
    · exact le_hL (Nat.le_trans (Nat.le_max_right _ _) hn) u hu
def PRIMS : List Str := ["list", "+", "not", "first", "cons", "same?", "parts", "fresh", "wrap"]
def shape : Lab → List Tm → Prop
  | .cst _, ks => ks = []
  | .prim s, ks => ks = [] ∧ s ∈ PRIMS
  | .top m _ _ _, ks => ks = [] ∧ m ∈ (["m", "other"] : List Str)
  | .call _, ks => ks ≠ []
  | .seq, _ => True
  | .cond, ks => ks.length = 3
  | .fn _, ks => ks.length = 1
  | .set, ks => ∃ m lv k sp v, ks = [.nd (.top m lv k sp) [], v]
  | .rcs ps, ks => ks.length = ps.length + 1
def Tm.wf (t : Tm) : Prop := ∀ s ∈ t.subs, shape s.lab s.kids
theorem Tm.wf.self {t : Tm} (h : t.wf) : shape t.lab t.kids := h t (by rw [subs_eq]; exact List.mem_cons_self)
theorem mem_subsL {s t : Tm} : ∀ {ts : List Tm}, t ∈ ts → s ∈ t.subs → s ∈ Tm.subsL ts
  | u :: ts, h, hs => by
    unfold Tm.subsL
    rcases List.mem_cons.mp h with rfl | h
    · exact List.mem_append.mpr (.inl hs)
    · exact List.mem_append.mpr (.inr (mem_subsL h hs))
theorem Tm.wf.kid {t k : Tm} (h : t.wf) (hk : k ∈ t.kids) : k.wf := fun s hs => h s (by rw [subs_eq]; exact List.mem_cons_of_mem _ (mem_subsL hk hs))
def callSp : Tm → Option Int
  | .nd (.call sp) _ => some sp
  | _ => none
def spots (ts : List Tm) : List Int := ts.filterMap callSp
/-- what is drawn: well made, of bounded size and height, its calls' places new and apart -/
structure GdL (ts : List Tm) (sz hh : Nat) (lo hi : Int) : Prop where
  wf : ∀ t ∈ ts, t.wf
  sz : (Tm.subsL ts).length ≤ sz
  ht : ∀ t ∈ ts, t.h ≤ hh
  rg : ∀ x ∈ spots (Tm.subsL ts), lo < x ∧ x ≤ hi
  nd : (spots (Tm.subsL ts)).Nodup
  le : lo ≤ hi
abbrev Gd (t : Tm) (sz hh : Nat) (lo hi : Int) : Prop := GdL [t] sz hh lo hi
theorem GdL.nil {lo : Int} {hh : Nat} : GdL [] 0 hh lo lo :=
  ⟨fun _ h => (nomatch h), Nat.le_refl _, fun _ h => (nomatch h), fun _ h => (nomatch h), List.nodup_nil, Int.le_refl _⟩
theorem GdL.mono {ts : List Tm} {sz sz' hh hh' : Nat} {lo hi lo' hi' : Int} (g : GdL ts sz hh lo hi) (h1 : sz ≤ sz') (h2 : hh ≤ hh') (h3 : lo' ≤ lo) (h4 : hi ≤ hi') : GdL ts sz' hh' lo' hi' :=
  ⟨g.wf, Nat.le_trans g.sz h1, fun t ht => Nat.le_trans (g.ht t ht) h2, fun x hx => by have := g.rg x hx; omega, g.nd, by have := g.le; omega⟩
theorem GdL.append {ts us : List Tm} {sz sz' hh : Nat} {lo mid hi : Int} (g : GdL ts sz hh lo mid) (g' : GdL us sz' hh mid hi) : GdL (ts ++ us) (sz + sz') hh lo hi := by
  have e : spots (Tm.subsL (ts ++ us)) = spots (Tm.subsL ts) ++ spots (Tm.subsL us) := by rw [subsL_append]; exact List.filterMap_append
  have l1 := g.le
  have l2 := g'.le
  refine ⟨fun t ht => (List.mem_append.mp ht).elim (g.wf t) (g'.wf t), by rw [subsL_append, List.length_append]; exact Nat.add_le_add g.sz g'.sz, fun t ht => (List.mem_append.mp ht).elim (g.ht t) (g'.ht t), fun x hx => ?_, ?_, by omega⟩
  · rw [e] at hx
    rcases List.mem_append.mp hx with hx | hx
    · have := g.rg x hx; omega
    · have := g'.rg x hx; omega
  · rw [e]
    refine List.nodup_append.mpr ⟨g.nd, g'.nd, fun a ha b hb => ?_⟩
    have h1 := g.rg a ha
    have h2 := g'.rg b hb
    omega
theorem callSp_none {l : Lab} {ks : List Tm} (h : ∀ sp, l ≠ .call sp) : callSp (.nd l ks) = none := by
  cases l <;> first | rfl | exact absurd rfl (h _)
theorem Gd.node {l : Lab} {ks : List Tm} {sz hh : Nat} {lo hi : Int} (g : GdL ks sz hh lo hi) (hs : shape l ks) (hl : ∀ sp, l ≠ .call sp) : Gd (.nd l ks) (sz + 1) (hh + 1) lo hi := by
  have e0 : Tm.subsL [.nd l ks] = .nd l ks :: Tm.subsL ks := by rw [subsL_one, subs_eq]; rfl
  have e : spots (Tm.subsL [.nd l ks]) = spots (Tm.subsL ks) := by rw [e0]; unfold spots; rw [List.filterMap_cons, callSp_none hl]
  refine ⟨fun t ht s hs' => ?_, by rw [e0, List.length_cons]; exact Nat.succ_le_succ g.sz, fun t ht => ?_, by rw [e]; exact g.rg, by rw [e]; exact g.nd, g.le⟩
  · rw [List.mem_singleton.mp ht, subs_eq] at hs'
    rcases List.mem_cons.mp hs' with rfl | hs'
    · exact hs
    · have : ∀ {us : List Tm}, (∀ t ∈ us, t.wf) → s ∈ Tm.subsL us → shape s.lab s.kids := by
        intro us
        induction us with
        | nil => intro _ h; cases h
        | cons u us ih =>
          intro hu h
          unfold Tm.subsL at h
          rcases List.mem_append.mp h with h | h
          · exact hu u List.mem_cons_self s h
          · exact ih (fun t ht => hu t (List.mem_cons_of_mem _ ht)) h
      exact this g.wf hs'
  · rw [List.mem_singleton.mp ht]
    unfold Tm.h
    exact Nat.succ_le_succ (hL_le g.ht)
theorem Gd.callN {ks : List Tm} {sz hh : Nat} {lo hi sp : Int} (g : GdL ks sz hh sp hi) (hs : ks ≠ []) (hl : lo < sp) : Gd (.nd (.call sp) ks) (sz + 1) (hh + 1) lo hi := by
  have e0 : Tm.subsL [.nd (.call sp) ks] = .nd (.call sp) ks :: Tm.subsL ks := by rw [subsL_one, subs_eq]; rfl
  have e : spots (Tm.subsL [.nd (.call sp) ks]) = sp :: spots (Tm.subsL ks) := by rw [e0]; rfl
  have n := Gd.node (l := .seq) g trivial (by intro sp z; cases z)
  have l1 := g.le
  refine ⟨fun t ht s hs' => ?_, by rw [e0, List.length_cons]; exact Nat.succ_le_succ g.sz, fun t ht => ?_, fun x hx => ?_, ?_, by omega⟩
  · rw [List.mem_singleton.mp ht, subs_eq] at hs'
    rcases List.mem_cons.mp hs' with rfl | hs'
    · exact hs
    · exact n.wf _ List.mem_cons_self s (by rw [subs_eq]; exact List.mem_cons_of_mem _ hs')
  · rw [List.mem_singleton.mp ht]
    unfold Tm.h
    exact Nat.succ_le_succ (hL_le g.ht)
  · rw [e] at hx
    rcases List.mem_cons.mp hx with rfl | hx
    · omega
    · have := g.rg x hx; omega
  · rw [e]
    exact List.nodup_cons.mpr ⟨fun hx => by have := g.rg _ hx; omega, g.nd⟩
theorem Gd.leaf {l : Lab} {lo : Int} (hs : shape l []) (hl : ∀ sp, l ≠ .call sp) : Gd (.nd l []) 1 1 lo lo := Gd.node (hh := 0) GdL.nil hs hl
def SZ : Nat → Nat
  | 0 => 1
  | n + 1 => 4 * SZ n + 3
theorem SZ_pos (n : Nat) : 1 ≤ SZ n := by cases n <;> simp only [SZ] <;> omega
theorem Gd.prim {s : Str} {lo lo' hi : Int} {sz hh : Nat} (hs : s ∈ PRIMS) (h1 : lo' ≤ lo) (h2 : lo ≤ hi) (h3 : 1 ≤ sz) (h4 : 1 ≤ hh) : Gd (.nd (.prim s) []) sz hh lo' hi :=
  (Gd.leaf (lo := lo) (l := .prim s) ⟨rfl, hs⟩ (by intro sp z; cases z)).mono h3 h4 h1 h2
theorem Gd.topT {m : Str} {lv k sp : Int} {lo lo' hi : Int} {sz hh : Nat} (hs : m ∈ (["m", "other"] : List Str)) (h1 : lo' ≤ lo) (h2 : lo ≤ hi) (h3 : 1 ≤ sz) (h4 : 1 ≤ hh) : Gd (.nd (.top m lv k sp) []) sz hh lo' hi :=
  (Gd.leaf (lo := lo) (l := .top m lv k sp) ⟨rfl, hs⟩ (by intro sp z; cases z)).mono h3 h4 h1 h2
theorem Gd.cstT {d : D} {lo lo' hi : Int} {sz hh : Nat} (h1 : lo' ≤ lo) (h2 : lo ≤ hi) (h3 : 1 ≤ sz) (h4 : 1 ≤ hh) : Gd (.nd (.cst d) []) sz hh lo' hi :=
  (Gd.leaf (lo := lo) (l := .cst d) rfl (by intro sp z; cases z)).mono h3 h4 h1 h2
theorem dN (l : Lab) (ks : List Tm) : Tm.d (.nd l ks) = mkD l (ks.map Tm.d) := d_eq _
def isCall : Tm → Bool
  | .nd (.call _) _ => true
  | _ => false
abbrev K3 := Str × Int × Int
def setOf : Tm → Option K3
  | .nd .set (.nd (.top m lv k _) _ :: _) => some (m, lv, k)
  | _ => none
def k3 (q : K3) : D := .tup [.str q.1, .int q.2.1, .int q.2.2]
def callsL (ts : List Tm) : List Tm := (Tm.subsL ts).filter isCall
def keysL (ts : List Tm) : List K3 := (Tm.subsL ts).filterMap setOf
theorem callsL_cons (t : Tm) (ts : List Tm) : callsL (t :: ts) = callsL [t] ++ callsL ts := by unfold callsL; rw [subsL_cons, subsL_one, List.filter_append]
theorem keysL_cons (t : Tm) (ts : List Tm) : keysL (t :: ts) = keysL [t] ++ keysL ts := by unfold keysL; rw [subsL_cons, subsL_one, List.filterMap_append]
theorem callsL_node (l : Lab) (ks : List Tm) : callsL [.nd l ks] = (if isCall (.nd l ks) then [.nd l ks] else []) ++ callsL ks := by
  unfold callsL; rw [subsL_one, subs_eq, List.filter_cons]; split <;> rfl
theorem keysL_node (l : Lab) (ks : List Tm) : keysL [.nd l ks] = (setOf (.nd l ks)).toList ++ keysL ks := by
  unfold keysL; rw [subsL_one, subs_eq, List.filterMap_cons]; cases setOf (.nd l ks) <;> rfl
theorem callsL_len (ts : List Tm) : (callsL ts).length ≤ (Tm.subsL ts).length := List.length_filter_le _ _
theorem keysL_len (ts : List Tm) : (keysL ts).length ≤ (Tm.subsL ts).length := List.length_filterMap_le _ _
theorem h_node {l : Lab} {ks : List Tm} {n : Nat} (h : (Tm.nd l ks).h ≤ n + 1) : ∀ t ∈ ks, t.h ≤ n := le_hL (by unfold Tm.h at h; omega)
theorem sub_len (l : Lab) (ks : List Tm) : (Tm.subsL [.nd l ks]).length = (Tm.subsL ks).length + 1 := by rw [subsL_one, subs_eq]; rfl
theorem len_subsL : ∀ ts : List Tm, ts.length ≤ (Tm.subsL ts).length
  | [] => Nat.le_refl _
  | t :: ts => by
    have := len_subsL ts
    rw [subsL_cons, List.length_append, subs_eq, List.length_cons, List.length_cons]; omega
theorem callsL_snoc (ts : List Tm) (t : Tm) : callsL (ts ++ [t]) = callsL ts ++ callsL [t] := by unfold callsL; rw [subsL_append, List.filter_append]
theorem keysL_snoc (ts : List Tm) (t : Tm) : keysL (ts ++ [t]) = keysL ts ++ keysL [t] := by unfold keysL; rw [subsL_append, List.filterMap_append]
theorem subsL_snoc_len (ts : List Tm) (t : Tm) : (Tm.subsL (ts ++ [t])).length = (Tm.subsL ts).length + (Tm.subsL [t]).length := by rw [subsL_append, List.length_append]
theorem subsL_cons_len (t : Tm) (ts : List Tm) : (Tm.subsL (t :: ts)).length = (Tm.subsL [t]).length + (Tm.subsL ts).length := by rw [subsL_cons, List.length_append, subsL_one]
def zP (ps : List Int) (ks : List Tm) : List (Int × Tm) := ps.zip ks
def zD (p : Int × Tm) : D := .tup [.int p.1, p.2.d]
theorem zip_zD : ∀ (ps : List Int) (ks : List Tm), zipP ps (ks.map Tm.d) = (zP ps ks).map zD
  | [], ks => by cases ks <;> rfl
  | p :: ps, [] => rfl
  | p :: ps, k :: ks => by rw [List.map_cons, zipP, zip_zD ps ks]; rfl
theorem zP_snd : ∀ (ps : List Int) (ks : List Tm), ps.length = ks.length → (zP ps ks).filterMap (fun p => some p.2.d) = ks.map Tm.d
  | [], [], _ => rfl
  | p :: ps, k :: ks, h => by
    have := zP_snd ps ks (Nat.succ.inj h)
    unfold zP at *
    rw [List.zip_cons_cons, List.filterMap_cons, this]; rfl
theorem zP_len (ps : List Int) (ks : List Tm) : (zP ps ks).length ≤ ks.length := by unfold zP; rw [List.length_zip]; exact Nat.min_le_right _ _
def tag : Lab → Str
  | .cst _ => "const" | .prim _ => "prim" | .top _ _ _ _ => "top" | .call _ => "call" | .seq => "do" | .cond => "if" | .fn _ => "fn" | .set => "set" | .rcs _ => "rec"
theorem mkD_tag (l : Lab) (ds : List D) : ∃ rest, mkD l ds = .tup (.str (tag l) :: rest) := by cases l <;> exact ⟨_, rfl⟩
theorem tag_fn {l : Lab} (h : ∀ ps, l ≠ .fn ps) : ¬ tag l = (Str.ofString "fn") := by
  cases l with
  | fn ps => exact absurd rfl (h ps)
  | _ => exact fun z => absurd z (by simp only [tag]; decide +kernel)
theorem tag_call {l : Lab} (h : ∀ sp, l ≠ .call sp) : ¬ tag l = (Str.ofString "call") := by
  cases l with
  | call ps => exact absurd rfl (h ps)
  | _ => exact fun z => absurd z (by simp only [tag]; decide +kernel)
theorem tag_set {l : Lab} (h : l ≠ .set) : ¬ tag l = (Str.ofString "set") := by
  cases l with
  | set => exact absurd rfl h
  | _ => exact fun z => absurd z (by simp only [tag]; decide +kernel)
theorem tag_prim {l : Lab} (h : ∀ s, l ≠ .prim s) : ¬ tag l = (Str.ofString "prim") := by
  cases l with
  | prim ps => exact absurd rfl (h ps)
  | _ => exact fun z => absurd z (by simp only [tag]; decide +kernel)
theorem tag_top {l : Lab} (h : ∀ m lv k sp, l ≠ .top m lv k sp) : ¬ tag l = (Str.ofString "top") := by
  cases l with
  | top m lv k sp => exact absurd rfl (h m lv k sp)
  | _ => exact fun z => absurd z (by simp only [tag]; decide +kernel)
theorem tag_ok (l : Lab) : PyData.strOk (tag l) = true := by cases l <;> (simp only [tag]; decide +kernel)
end Y
namespace Y
open PySem PySem.Spec L2
abbrev Node := Str × Int
theorem nodup_le {α : Type} [DecidableEq α] : ∀ {S V : List α}, S.Nodup → (∀ a ∈ S, a ∈ V) → S.length ≤ V.length
  | [], _, _, _ => Nat.zero_le _
  | a :: S, V, hn, h => by
    have h1 := h a List.mem_cons_self
    have hn' := List.nodup_cons.mp hn
    have h2 := nodup_le (S := S) (V := V.erase a) hn'.2 fun b hb => (List.mem_erase_of_ne (fun e => hn'.1 (by rw [← e]; exact hb))).mpr (h b (List.mem_cons_of_mem _ hb))
    rw [List.length_erase_of_mem h1] at h2
    have h3 := List.length_pos_of_mem h1
    rw [List.length_cons]; omega
def nD (nd : Node) : D := .tup [.str nd.1, .int nd.2]
def nK (nd : Node) : List Key := [.inr nd.1, .inl nd.2]
theorem alike_node (a b : Node) : PySem.W.alike (nD a).py (nD b).py = true := by simp [nD, D.py, D.pys, PySem.W.alike, PySem.W.alikeAll]
theorem ok_node {a : Node} (h : PyData.strOk a.1 = true) : D.ok 64 (nD a) = true := by
  simp [nD, D.ok, D.oks, h]
theorem canSort_nodes {S : List Node} (h : ∀ a ∈ S, PyData.strOk a.1 = true) : CanSort (S.map nD) := by
  refine ⟨?_, ?_, ?_⟩
  · rw [List.map_map]; exact PySem.W.AllAlike.of fun b b' => alike_node b b'
  · rw [List.map_map]; exact PySem.W.Sortable.tuples fun b => ⟨.str b.1, [.int b.2], by simp [nD, D.py, D.pys]⟩
  · intro d hd
    obtain ⟨a, ha, rfl⟩ := List.mem_map.mp hd
    exact ok_node (h a ha)
theorem str_ext' {x y : Str} (h : x.cps.toList = y.cps.toList) : x = y := by
  cases x; cases y; congr 1; exact Array.toList_inj.mp h
theorem anti_node {a b : Node} (h1 : PySem.W.dataLe false D.py (nD a) (nD b) = true) (h2 : PySem.W.dataLe false D.py (nD b) (nD a) = true) : a = b := by
  have e : ∀ p q : Node, PySem.W.dataLe false D.py (nD p) (nD q) = !PySem.W.dataLt (.tuple [.str q.1, .int q.2]) (.tuple [.str p.1, .int p.2]) := fun p q => by
    rw [PySem.W.dataLe_eq]; simp [nD, D.py, D.pys]
  rw [e, PySem.W.dataLt_pair (by simp [PySem.W.alike]) (by simp [PySem.W.alike]), PySem.W.dataLt_str, PySem.W.dataLt_int] at h1 h2
  obtain ⟨x, i⟩ := a
  obtain ⟨y, j⟩ := b
  simp only [PyData.eqv, beq_iff_eq] at h1 h2
  by_cases hxy : x = y
  · subst hxy
    rw [if_pos rfl] at h1 h2
    by_cases hij : i = j
    · rw [hij]
    · rw [if_neg (fun z => hij z.symm)] at h1
      rw [if_neg hij] at h2
      simp at h1 h2
      omega
  · rw [if_neg (fun z => hxy z.symm)] at h1
    rw [if_neg hxy] at h2
    simp only [Bool.not_eq_true', decide_eq_false_iff_not] at h1 h2
    exact absurd (str_ext' (List.le_antisymm (List.not_lt.mp h1) (List.not_lt.mp h2))) hxy
theorem sort_nodes {S T : List Node} (hs : S.Nodup) (ht : T.Nodup) (h : ∀ a, a ∈ S ↔ a ∈ T) : sortD (S.map nD) = sortD (T.map nD) := by
  have p : S.Perm T := (List.perm_ext_iff_of_nodup hs ht).mpr h
  have tot := PySem.W.sortLe_total (PyProof.Rows.listOrd PyProof.Rows.itemOrd) false fun d : D => PySem.W.keyToks d.py
  have p2 : (sortD (S.map nD)).Perm (sortD (T.map nD)) := (List.mergeSort_perm _ _).trans ((p.map nD).trans (List.mergeSort_perm _ _).symm)
  refine List.Perm.eq_of_pairwise (le := fun a b => PySem.W.dataLe false D.py a b = true) ?_ (PySem.W.sort_pairwise tot _) (PySem.W.sort_pairwise tot _) p2
  intro a b ha hb h1 h2
  obtain ⟨x, _, rfl⟩ := List.mem_map.mp (List.mem_mergeSort.mp ha)
  obtain ⟨y, _, rfl⟩ := List.mem_map.mp (List.mem_mergeSort.mp hb)
  rw [anti_node h1 h2]

def fndD (S : List Node) : List (List Key × D) := S.map fun nd => (nK nd, .bl true)
theorem nK_inj {a b : Node} : nK a = nK b ↔ a = b := by
  obtain ⟨x, i⟩ := a
  obtain ⟨y, j⟩ := b
  simp [nK]
theorem getK_fnd (S : List Node) (nd : Node) : (getK (fndD S) (nK nd)).isSome = decide (nd ∈ S) := by
  unfold getK fndD
  rw [Option.isSome_map]
  induction S with
  | nil => rfl
  | cons x S ih =>
    rw [List.map_cons, List.find?_cons]
    by_cases e : x = nd
    · subst e; simp
    · have e2 : ¬ nK x = nK nd := fun z => e (nK_inj.mp z)
      simp only [e2, decide_false]
      rw [ih]
      simp
      exact fun z => absurd z.symm e
theorem any_fnd (S : List Node) (nd : Node) : ((fndD S).any fun kv => decide (kv.1 = nK nd)) = decide (nd ∈ S) := by
  unfold fndD
  induction S with
  | nil => rfl
  | cons x S ih =>
    rw [List.map_cons, List.any_cons, ih]
    by_cases e : x = nd
    · subst e; simp
    · have e2 : ¬ nK x = nK nd := fun z => e (nK_inj.mp z)
      simp [e2]
      exact fun z => absurd z.symm e
theorem putD_fnd {S : List Node} {nd : Node} (h : nd ∉ S) : putD (fndD S) (nK nd) (.bl true) = fndD (S ++ [nd]) := by
  unfold putD
  rw [if_neg (by rw [any_fnd]; simp [h])]
  unfold fndD; rw [List.map_append]; rfl
theorem eqv_node (a b : Node) : D.eqv (nD a) (nD b) = decide (a = b) := by
  obtain ⟨x, i⟩ := a
  obtain ⟨y, j⟩ := b
  simp [D.eqv, nD, D.py, D.pys, PyData.eqv, PyData.eqvAll]
  by_cases h1 : x = y <;> by_cases h2 : i = j <;> simp [h1, h2]
theorem any_nodes (S : List Node) (nd : Node) : ((S.map nD).any fun z => D.eqv z (nD nd)) = decide (nd ∈ S) := by
  induction S with
  | nil => rfl
  | cons x S ih =>
    rw [List.map_cons, List.any_cons, ih, eqv_node]
    by_cases e : x = nd
    · subst e; simp
    · simp [e]
      exact fun z => absurd z.symm e
theorem oks_nodes {S : List Node} (h : ∀ a ∈ S, PyData.strOk a.1 = true) : D.oks 63 (S.map nD) = true := by
  rw [D.oks_all, List.all_eq_true]
  intro d hd
  obtain ⟨a, ha, rfl⟩ := List.mem_map.mp hd
  simp [nD, D.ok, D.oks, h a ha]
end Y
namespace Y
set_option hygiene false
open PySem PySem.Spec L2
local macro_rules | `(tactic| walk_at "y") => `(tactic| dsimp only [sNil, sBk, sCt, sDrop, sIf, asg, sAsg, sRet, sRetN, tIm, tNm, tBin, w2, vw, Sl.m?, tTst, tTru, M.tru, tAndQ, tOrQ, tNotQ, tAndX, tOrX, tNotX, tIfX, lNil, lCons, tOn, fInD, fIxD, tGet1, vwD, getOr, M.isD, sPar2, tLc2X, compL2, tChn, tFrz, froz, tTp, tLs, tCl, vws, tMt, Sl.m!, Sl.up, M.res, gLen, gInt, gAdd, gSub, gMul, gDiv, gMod, gPow, gII, gI0, gEqs, gEqs2, gIx, gPop, gApp, gRev, gExt, gTuple, gList, gDict, gIs, gIsi, gAll, gIns, gSorted, gSl, M.lq?, M.lst?, M.sq?, M.dat?, M.isNon, gLt, gLe, gGt, gGe, sFor, iSeq, srcOf, iEnm, enmOf, iRg1, iRg2, bnd, setAll, backS, Sl.isP, tSlc, pNo, pSo, sSetI, hasM, setM, tDspK, tDspT, pairG, D.key?, D.keys?, D.tkey?, putAll, tNewK, tNewT, tNeg, sUnp, tCall, argMs, argM, argS, slots, putB, stepB, putS_lo_ls_ls, putS_lo_ls_dk, putS_lo_ls_dt, putS_lo_ls_no, putS_pa_ls_ls, putS_pa_ls_dk, putS_pa_ls_dt, putS_pa_ls_no, putS_lo_rd_ls, putS_lo_rd_dk, putS_lo_rd_dt, putS_lo_rd_no, putS_pa_rd_ls, putS_pa_rd_dk, putS_pa_rd_dt, putS_pa_rd_no, putS_lo_dk_ls, putS_lo_dk_dk, putS_lo_dk_dt, putS_lo_dk_no, putS_pa_dk_ls, putS_pa_dk_dk, putS_pa_dk_dt, putS_pa_dk_no, putS_lo_dt_ls, putS_lo_dt_dk, putS_lo_dt_dt, putS_lo_dt_no, putS_pa_dt_ls, putS_pa_dt_dk, putS_pa_dt_dt, putS_pa_dt_no, putS_lo_im, putS_lo_sq, putS_pa_im, putS_pa_sq, M.own, M.fit, fins, Sl.fin, envOf, tLcX, compL, wipeE, restE, keepS, qYes, kD, dGet, List.getElem?_cons_zero, List.getElem?_cons_succ, List.getElem?_nil, List.set_cons_zero, List.set_cons_succ, List.map_cons, List.map_nil, List.take_succ_cons, List.take_zero, List.length_cons, List.length_nil, List.head?_cons, List.tail_cons, Option.join_some, List.cons_append, List.nil_append, List.replicate])
local macro_rules | `(tactic| walk_at "n") => `(tactic| ((try dsimp only); refine seq_step fun R hR => ?_; walk_at "y"))
local macro_rules | `(tactic| walk_at "i") => `(tactic| simp only [Bool.false_xor, Bool.true_xor, Bool.not_true, Bool.not_false, Bool.false_eq_true, reduceIte, isiT, M.ty, String.reduceBEq, Bool.or_false, Bool.false_or, Bool.and_false, Bool.and_true, Bool.true_and, Bool.false_and, Bool.or_true, List.mem_cons, true_or, or_true, true_and, and_true, String.reduceEq, decide_true, decide_false])
local macro_rules | `(tactic| walk_at "s") => `(tactic| (subst hR; walk_at "n"))
local macro_rules | `(tactic| walk_at "z") => `(tactic| (simp only [List.map_cons, List.map_nil, atI_c0, atI_c1, atI_c2, atI_c3, atI_c4, atI_c5]; (try walk_at "y")))
local macro_rules | `(tactic| walk_at "e") => `(tactic| repeat (first | rw [if_pos (by decide +kernel)] | rw [if_neg (by decide +kernel)]))
mutual
def D.sane : Nat → D → Bool
  | 0, _ => false
  | _ + 1, .raw _ => false
  | n + 1, .tup ds => decide (ds.length ≤ 100000) && D.sanes n ds
  | n + 1, .lst ds => decide (ds.length ≤ 100000) && D.sanes n ds
  | _ + 1, _ => true
def D.sanes : Nat → List D → Bool
  | _, [] => true
  | n, d :: ds => D.sane n d && D.sanes n ds
end
theorem D.sanes_all (n : Nat) : ∀ ds : List D, D.sanes n ds = ds.all (D.sane n)
  | [] => rfl
  | d :: ds => by simp only [D.sanes, List.all_cons]; rw [D.sanes_all n ds]
def F_same (n : Nat) : TF := fun ms G => ∃ m, ms = [m, m] ∧ (match m with
  | .im d => D.sane n d = true
  | .ls ds => D.sane n (.lst ds) = true
  | _ => False) ∧ ∀ fin, G (.im (.bl true)) fin
theorem bls_rep : ∀ n : Nat, D.bls? (List.replicate n (.bl true)) = some (List.replicate n true)
  | 0 => rfl
  | n + 1 => by rw [List.replicate_succ, List.replicate_succ]; unfold D.bls?; rw [bls_rep n]; rfl
theorem same_comp {n : Nat} {m : M} {ds : List D} {k : List D → Env → Prop} (hm : (∃ d, m = .im d) ∨ ∃ ds, m = .ls ds) (hix : ∀ (i : Int) x (G : M → Prop), atI ds i = some x → G (.im x) → gIx m (.im (.int i)) G) (hs : ∀ x ∈ ds, D.sane n x = true) (hl : ds.length ≤ 100000)
    (q : k (List.replicate ds.length (.bl true)) [Sl.pa m, Sl.pa m, .no]) : ∀ (j lo : Nat), lo + j = ds.length →
    compL (.one 2) qYes (tCall (F_same n) 2 (lCons (tBin gIx (tNm 0) (tNm 2)) (lCons (tBin gIx (tNm 1) (tNm 2)) lNil))) [2] (fun _ => True) k (gRng lo j) (List.replicate lo (.bl true)) [Sl.pa m, Sl.pa m, .no] := by
  intro j
  induction j with
  | zero =>
    intro lo e
    rw [← e] at q
    exact ⟨trivial, q⟩
  | succ j ih =>
    intro lo e
    rw [gRng_succ]
    refine comp_step trivial fun L hL => ?_
    obtain ⟨x, hx, hx2⟩ := atI_ok (xs := ds) (i := (lo : Int)) (by omega) (by omega)
    have mem : x ∈ ds := List.mem_of_getElem? hx2
    dsimp only [bnd, qYes, List.set_cons_succ, List.set_cons_zero]
    rw [if_pos rfl]
    have go : tFrz (lCons (tCall (F_same n) 2 (lCons (tBin gIx (tNm 0) (tNm 2)) (lCons (tBin gIx (tNm 1) (tNm 2)) lNil))) lNil) (fun xs ρ3 => match xs with
      | [x] => (List.replicate lo (D.bl true)).length < sizeLine ∧ L (List.replicate lo (D.bl true) ++ [x]) (wipeE ρ3 [2])
      | _ => False) [Sl.pa m, Sl.pa m, .lo (.im (.int lo))] := by
      have fin : (List.replicate lo (D.bl true)).length < sizeLine ∧ L (List.replicate lo (D.bl true) ++ [.bl true]) [Sl.pa m, Sl.pa m, .no] := by
        refine ⟨by simp [sizeLine_eq]; omega, ?_⟩
        rw [← List.replicate_succ', hL]
        exact ih (lo + 1) (by omega)
      rcases hm with ⟨d, rfl⟩ | ⟨es, rfl⟩
      · dsimp only [tFrz, lCons, tCall, tBin, tNm, w2, vw, Sl.m?, List.getElem?_cons_zero, List.getElem?_cons_succ, lNil]
        refine hix _ x _ hx (hix _ x _ hx ?_)
        exact ⟨rfl, List.nodup_nil, .im x, rfl, hs x mem, fun _ => ⟨rfl, fin⟩⟩
      · dsimp only [tFrz, lCons, tCall, tBin, tNm, w2, vw, Sl.m?, List.getElem?_cons_zero, List.getElem?_cons_succ, lNil]
        refine hix _ x _ hx (hix _ x _ hx ?_)
        exact ⟨rfl, List.nodup_nil, .im x, rfl, hs x mem, fun _ => ⟨rfl, fin⟩⟩
    exact go
theorem all_rep (n : Nat) : (List.replicate n true).all id = true := by simp
theorem body_same (n : Nat) : Body (F_same (n + 1)) 3 2 (t__law_same (F_same n)) := by
  rintro ms G hl ⟨m, rfl, hm, q⟩
  show t__law_same _ _ [Sl.pa m, Sl.pa m, .no]
  unfold t__law_same
  have o1 : ∀ b, D.ok 64 (.bl b) = true := fun b => rfl
  have e1 : ∀ b, (!(D.bl b).eqv (D.bl b)) = false := fun b => by cases b <;> rfl
  cases m with
  | im d =>
    cases d with
    | non =>
      walk_at "n"
      walk_at "i"
      exact q _
    | bl b =>
      walk_at "n"; walk_at "i"
      walk_at "s"; walk_at "i"
      rw [show (D.bl b).eqv (D.bl b) = true by cases b <;> rfl]
      exact ⟨o1 _, o1 _, q _⟩
    | int i =>
      walk_at "n"; walk_at "i"
      walk_at "s"; walk_at "i"
      walk_at "s"; walk_at "i"
      exact q _
    | str z =>
      walk_at "n"; walk_at "i"
      walk_at "s"; walk_at "i"
      walk_at "s"; walk_at "i"
      walk_at "s"; walk_at "i"
      exact q _
    | tup ds =>
      simp only [D.sane, D.sanes_all, Bool.and_eq_true, decide_eq_true_eq, List.all_eq_true] at hm
      walk_at "n"; walk_at "i"
      walk_at "s"; walk_at "i"
      walk_at "s"; walk_at "i"
      walk_at "s"; walk_at "i"
      walk_at "s"; walk_at "i"
      subst hR; walk_at "y"
      refine ⟨o1 _, o1 _, ?_⟩
      rw [if_neg (by rw [e1]; decide)]
      refine ⟨o1 _, o1 _, ?_⟩
      rw [if_neg (by rw [e1]; decide), if_pos (by simp)]
      refine ⟨by omega, by omega, ?_⟩
      exact same_comp (m := .im (.tup ds)) (.inl ⟨_, rfl⟩) (fun i x G h g => by dsimp only [gIx]; rw [h]; exact g) hm.2 hm.1 (by
        walk_at "y"
        rw [bls_rep]; dsimp only; rw [all_rep]
        exact q _) _ 0 (by simp)
    | lst ds =>
      simp only [D.sane, D.sanes_all, Bool.and_eq_true, decide_eq_true_eq, List.all_eq_true] at hm
      walk_at "n"; walk_at "i"
      walk_at "s"; walk_at "i"
      walk_at "s"; walk_at "i"
      walk_at "s"; walk_at "i"
      walk_at "s"; walk_at "i"
      subst hR; walk_at "y"
      refine ⟨o1 _, o1 _, ?_⟩
      rw [if_neg (by rw [e1]; decide)]
      refine ⟨o1 _, o1 _, ?_⟩
      rw [if_neg (by rw [e1]; decide), if_pos (by simp)]
      refine ⟨by omega, by omega, ?_⟩
      exact same_comp (m := .im (.lst ds)) (.inl ⟨_, rfl⟩) (fun i x G h g => by dsimp only [gIx, M.lq?]; rw [h]; exact g) hm.2 hm.1 (by
        walk_at "y"
        rw [bls_rep]; dsimp only; rw [all_rep]
        exact q _) _ 0 (by simp)
    | raw v => simp [D.sane] at hm
  | ls ds =>
    simp only [D.sane, D.sanes_all, Bool.and_eq_true, decide_eq_true_eq, List.all_eq_true] at hm
    walk_at "n"; walk_at "i"
    walk_at "s"; walk_at "i"
    walk_at "s"; walk_at "i"
    walk_at "s"; walk_at "i"
    walk_at "s"; walk_at "i"
    subst hR; walk_at "y"
    refine ⟨o1 _, o1 _, ?_⟩
    rw [if_neg (by rw [e1]; decide)]
    refine ⟨o1 _, o1 _, ?_⟩
    rw [if_neg (by rw [e1]; decide), if_pos (by simp)]
    refine ⟨by omega, by omega, ?_⟩
    exact same_comp (m := .ls ds) (.inr ⟨_, rfl⟩) (fun i x G h g => by dsimp only [gIx, M.lq?]; rw [h]; exact g) hm.2 hm.1 (by
      walk_at "y"
      rw [bls_rep]; dsimp only; rw [all_rep]
      exact q _) _ 0 (by simp)
  | _ => exact hm.elim
theorem sane_nodes {S : List Node} (h : S.length ≤ 100000) : D.sane 3 (.lst (sortD (S.map nD))) = true := by
  have e : (sortD (S.map nD)).length = S.length := by unfold sortD; rw [List.length_mergeSort, List.length_map]
  simp only [D.sane, e, D.sanes_all, Bool.and_eq_true, decide_eq_true_eq, List.all_eq_true]
  refine ⟨h, fun d hd => ?_⟩
  obtain ⟨a, _, rfl⟩ := List.mem_map.mp (List.mem_mergeSort.mp hd)
  simp [nD, D.sane, D.sanes]
end Y
namespace Y
set_option hygiene false
open PySem PySem.Spec L2
local macro_rules | `(tactic| walk_at "y") => `(tactic| dsimp only [sNil, sBk, sCt, sDrop, sIf, asg, sAsg, sRet, sRetN, tIm, tNm, tBin, w2, vw, Sl.m?, tTst, tTru, M.tru, tAndQ, tOrQ, tNotQ, tAndX, tOrX, tNotX, tIfX, lNil, lCons, tOn, fInD, fIxD, tGet1, vwD, getOr, M.isD, sPar2, tLc2X, compL2, tChn, tFrz, froz, tTp, tLs, tCl, vws, tMt, Sl.m!, Sl.up, M.res, gLen, gInt, gAdd, gSub, gMul, gDiv, gMod, gPow, gII, gI0, gEqs, gEqs2, gIx, gPop, gApp, gRev, gExt, gTuple, gList, gDict, gIs, gIsi, gAll, gIns, gSorted, gSl, M.lq?, M.lst?, M.sq?, M.dat?, M.isNon, gLt, gLe, gGt, gGe, sFor, iSeq, srcOf, iEnm, enmOf, iRg1, iRg2, bnd, setAll, backS, Sl.isP, tSlc, pNo, pSo, sSetI, hasM, setM, tDspK, tDspT, pairG, D.key?, D.keys?, D.tkey?, putAll, tNewK, tNewT, tNeg, sUnp, tCall, argMs, argM, argS, slots, putB, stepB, putS_lo_ls_ls, putS_lo_ls_dk, putS_lo_ls_dt, putS_lo_ls_no, putS_pa_ls_ls, putS_pa_ls_dk, putS_pa_ls_dt, putS_pa_ls_no, putS_lo_rd_ls, putS_lo_rd_dk, putS_lo_rd_dt, putS_lo_rd_no, putS_pa_rd_ls, putS_pa_rd_dk, putS_pa_rd_dt, putS_pa_rd_no, putS_lo_dk_ls, putS_lo_dk_dk, putS_lo_dk_dt, putS_lo_dk_no, putS_pa_dk_ls, putS_pa_dk_dk, putS_pa_dk_dt, putS_pa_dk_no, putS_lo_dt_ls, putS_lo_dt_dk, putS_lo_dt_dt, putS_lo_dt_no, putS_pa_dt_ls, putS_pa_dt_dk, putS_pa_dt_dt, putS_pa_dt_no, putS_lo_im, putS_lo_sq, putS_pa_im, putS_pa_sq, M.own, M.fit, fins, Sl.fin, envOf, tLcX, compL, wipeE, restE, keepS, qYes, kD, dGet, List.getElem?_cons_zero, List.getElem?_cons_succ, List.getElem?_nil, List.set_cons_zero, List.set_cons_succ, List.map_cons, List.map_nil, List.take_succ_cons, List.take_zero, List.length_cons, List.length_nil, List.head?_cons, List.tail_cons, Option.join_some, List.cons_append, List.nil_append, List.replicate])
local macro_rules | `(tactic| walk_at "n") => `(tactic| ((try dsimp only); refine seq_step fun R hR => ?_; walk_at "y"))
local macro_rules | `(tactic| walk_at "i") => `(tactic| simp only [Bool.false_xor, Bool.true_xor, Bool.not_true, Bool.not_false, Bool.false_eq_true, reduceIte, isiT, M.ty, String.reduceBEq, Bool.or_false, Bool.false_or, Bool.and_false, Bool.and_true, Bool.true_and, Bool.false_and, Bool.or_true, List.mem_cons, true_or, or_true, true_and, and_true, String.reduceEq, decide_true, decide_false])
local macro_rules | `(tactic| walk_at "s") => `(tactic| (subst hR; walk_at "n"))
local macro_rules | `(tactic| walk_at "z") => `(tactic| (simp only [List.map_cons, List.map_nil, atI_c0, atI_c1, atI_c2, atI_c3, atI_c4, atI_c5]; (try walk_at "y")))
local macro_rules | `(tactic| walk_at "e") => `(tactic| repeat (first | rw [if_pos (by decide +kernel)] | rw [if_neg (by decide +kernel)]))
def DrawsOk (ds : List Int) : Prop := ∀ d ∈ ds, 0 ≤ d ∧ d < 1000
theorem DrawsOk.snoc {ds : List Int} (h : DrawsOk ds) (x : Int) : DrawsOk (ds ++ [x % 1000]) := fun d hd => by
  rcases List.mem_append.mp hd with hd | hd
  · exact h d hd
  · rw [List.mem_singleton.mp hd]; exact ⟨Int.emod_nonneg _ (by omega), Int.emod_lt_of_pos _ (by omega)⟩
theorem loop_draws {P : EndP} {ns : List Int} {a : M} : ∀ (n : Nat) (lo : Int) (cells found : List Int) (mixed : Int) (s5 s6 s7 s8 : Sl), 0 ≤ lo → lo + n ≤ 2000 → cells ≠ [] → cells.length ≤ 1000000 → DrawsOk found → found.length = lo → 0 ≤ mixed → mixed < 2147483647 →
    (∀ (cells' found' : List Int) (mixed' : Int) (s5 s6 s7 s8 : Sl), DrawsOk found' → found'.length = lo + n → P.nx [Sl.pa (.sq (ns.map D.int)), Sl.pa a, .lo (.ls (cells'.map D.int)), .lo (.ls (found'.map D.int)), .lo (.im (.int mixed')), s5, s6, s7, s8]) →
    loopS (.one 5) b__law_draws_1 (fun _ => True) P (gRng lo n) [Sl.pa (.sq (ns.map D.int)), Sl.pa a, .lo (.ls (cells.map D.int)), .lo (.ls (found.map D.int)), .lo (.im (.int mixed)), s5, s6, s7, s8] := by
  intro n
  induction n with
  | zero =>
    intro lo cells found mixed s5 s6 s7 s8 h1 h2 h3 h4 h5 h6 h7 h8 q
    exact ⟨trivial, q cells found mixed s5 s6 s7 s8 h5 (by omega)⟩
  | succ n ih =>
    intro lo cells found mixed s5 s6 s7 s8 h1 h2 h3 h4 h5 h6 h7 h8 q
    rw [gRng_succ]
    refine loop_step trivial fun L hL => ?_
    have hlen : 0 < (cells.length : Int) := by have := List.length_pos_iff.mpr h3; omega
    have m1 := Int.emod_nonneg lo (b := (cells.length : Int)) (by omega)
    have m2 := Int.emod_lt_of_pos lo hlen
    unfold b__law_draws_1
    walk_at "y"
    walk_at "n"
    rw [List.length_map]
    refine ⟨hlen, ?_⟩
    subst hR
    walk_at "n"
    obtain ⟨cc, hc, _⟩ := atI_ok m1 m2
    rw [atI_map, hc]
    subst hR
    walk_at "n"
    refine ⟨cMul (by omega) (by omega), by omega, cMul (by have := Int.emod_nonneg cc (b := 1000003) (by omega); have := Int.emod_lt_of_pos cc (b := 1000003) (by omega); omega) (by omega), cMul (by omega) (by omega), by omega, ?_⟩
    generalize hm : (mixed * 48271 + cc % 1000003 * 69621 + lo * 7919 + 11) % 2147483647 = mx
    have x1 : 0 ≤ mx := by rw [← hm]; exact Int.emod_nonneg _ (by omega)
    have x2 : mx < 2147483647 := by rw [← hm]; exact Int.emod_lt_of_pos _ (by omega)
    subst hR
    walk_at "n"
    refine ⟨cMul (by omega) (by omega), cMul (by omega) (by omega), by omega, ?_⟩
    generalize (mx * mx + 31 * mx + lo) % 1000003 = ag
    subst hR
    walk_at "y"
    refine ⟨⟨by omega, by decide, by decide⟩, ?_⟩
    have hfl : (found.map D.int).length < sizeLine := by rw [List.length_map, sizeLine_eq]; omega
    have fin : ∀ (cs : List Int) (y : Int), cs.length = cells.length → L [Sl.pa (.sq (ns.map D.int)), Sl.pa a, .lo (.ls (cs.map D.int)), .lo (.ls (found.map D.int ++ [D.int (y % 1000)])), .lo (.im (.int mx)), .lo (.im (.int lo)), .lo (.im (.int (lo % ↑cells.length))), .lo (.im (.int cc)), .lo (.im (.int ag))] := fun cs y hcs => by
      rw [hL, show found.map D.int ++ [D.int (y % 1000)] = (found ++ [y % 1000]).map D.int by simp]
      refine ih (lo + 1) cs (found ++ [y % 1000]) mx _ _ _ _ (by omega) (by omega) (fun z => by rw [z] at hcs; simp at hcs; omega) (by omega) (h5.snoc y) (by simp; omega) x1 x2 fun c' f' m' t5 t6 t7 t8 d1 d2 => q c' f' m' t5 t6 t7 t8 d1 (by omega)
    split
    · walk_at "n"
      refine ⟨trivial, by omega, hfl, ?_⟩
      subst hR
      walk_at "y"
      refine ⟨cDiv (by omega), trivial, ?_⟩
      rw [List.length_map, ixN_ok m1 m2]
      walk_at "y"
      rw [← List.map_set]
      exact fin _ cc (by simp)
    · exact ⟨trivial, by omega, hfl, fin cells ag rfl⟩
def F_draws : TF := fun ms G => ∃ (ns : List Int) (n : Nat), ms = [.sq (ns.map D.int), .im (.int n)] ∧ n ≤ 2000 ∧ ns.length ≤ 1000000 ∧
  ∀ (ds' : List Int), DrawsOk ds' → ds'.length = n → G (.ls (ds'.map D.int)) [some (.sq (ns.map D.int)), some (.im (.int n))]
theorem body_draws : Body F_draws 9 2 t__law_draws := by
  rintro ms G hl ⟨ns, n, rfl, hn, hl, q⟩
  show t__law_draws _ [Sl.pa (.sq (ns.map D.int)), Sl.pa (.im (.int n)), .no, .no, .no, .no, .no, .no, .no]
  unfold t__law_draws
  walk_at "n"
  subst hR
  walk_at "n"
  have go : ∀ cells : List Int, cells ≠ [] → cells.length ≤ 1000000 → R [Sl.pa (.sq (ns.map D.int)), Sl.pa (.im (.int n)), .lo (.ls (cells.map D.int)), .no, .no, .no, .no, .no, .no] := by
    intro cells hc hcl
    subst hR
    walk_at "n"
    refine ⟨by rw [sizeLine_eq]; omega, ?_⟩
    subst hR
    walk_at "n"
    subst hR
    walk_at "n"
    refine ⟨by omega, by omega, ?_⟩
    refine loop_draws (found := []) _ _ cells 12345 _ _ _ _ (by omega) (by omega) hc hcl (fun d hd => by cases hd) rfl (by omega) (by omega) fun c' f' m' t5 t6 t7 t8 d1 d2 => ?_
    subst hR
    walk_at "n"
    refine ⟨trivial, ?_⟩
    subst hR
    walk_at "y"
    rw [← List.map_reverse]
    exact q _ (fun d hd => d1 d (List.mem_reverse.mp hd)) (by simp at d2 ⊢; omega)
  split
  · exact ⟨by rw [sizeLine_eq]; omega, go [7] (by simp) (by simp)⟩
  · rename_i hz
    exact go ns (fun e => hz (by rw [e]; rfl)) hl
end Y
namespace Y
set_option hygiene false
open PySem PySem.Spec L2
local macro_rules | `(tactic| walk_at "y") => `(tactic| dsimp only [sNil, sBk, sCt, sDrop, sIf, asg, sAsg, sRet, sRetN, tIm, tNm, tBin, w2, vw, Sl.m?, tTst, tTru, M.tru, tAndQ, tOrQ, tNotQ, tAndX, tOrX, tNotX, tIfX, lNil, lCons, tOn, fInD, fIxD, tGet1, vwD, getOr, M.isD, sPar2, tLc2X, compL2, tChn, tFrz, froz, tTp, tLs, tCl, vws, tMt, Sl.m!, Sl.up, M.res, gLen, gInt, gAdd, gSub, gMul, gDiv, gMod, gPow, gII, gI0, gEqs, gEqs2, gIx, gPop, gApp, gRev, gExt, gTuple, gList, gDict, gIs, gIsi, gAll, gIns, gSorted, gSl, M.lq?, M.lst?, M.sq?, M.dat?, M.isNon, gLt, gLe, gGt, gGe, sFor, iSeq, srcOf, iEnm, enmOf, iRg1, iRg2, bnd, setAll, backS, Sl.isP, tSlc, pNo, pSo, sSetI, hasM, setM, tDspK, tDspT, pairG, D.key?, D.keys?, D.tkey?, putAll, tNewK, tNewT, tNeg, sUnp, tCall, argMs, argM, argS, slots, putB, stepB, putS_lo_ls_ls, putS_lo_ls_dk, putS_lo_ls_dt, putS_lo_ls_no, putS_pa_ls_ls, putS_pa_ls_dk, putS_pa_ls_dt, putS_pa_ls_no, putS_lo_rd_ls, putS_lo_rd_dk, putS_lo_rd_dt, putS_lo_rd_no, putS_pa_rd_ls, putS_pa_rd_dk, putS_pa_rd_dt, putS_pa_rd_no, putS_lo_dk_ls, putS_lo_dk_dk, putS_lo_dk_dt, putS_lo_dk_no, putS_pa_dk_ls, putS_pa_dk_dk, putS_pa_dk_dt, putS_pa_dk_no, putS_lo_dt_ls, putS_lo_dt_dk, putS_lo_dt_dt, putS_lo_dt_no, putS_pa_dt_ls, putS_pa_dt_dk, putS_pa_dt_dt, putS_pa_dt_no, putS_lo_im, putS_lo_sq, putS_pa_im, putS_pa_sq, M.own, M.fit, fins, Sl.fin, envOf, tLcX, compL, wipeE, restE, keepS, qYes, kD, dGet, List.getElem?_cons_zero, List.getElem?_cons_succ, List.getElem?_nil, List.set_cons_zero, List.set_cons_succ, List.map_cons, List.map_nil, List.take_succ_cons, List.take_zero, List.length_cons, List.length_nil, List.head?_cons, List.tail_cons, Option.join_some, List.cons_append, List.nil_append, List.replicate])
local macro_rules | `(tactic| walk_at "n") => `(tactic| ((try dsimp only); refine seq_step fun R hR => ?_; walk_at "y"))
local macro_rules | `(tactic| walk_at "i") => `(tactic| simp only [Bool.false_xor, Bool.true_xor, Bool.not_true, Bool.not_false, Bool.false_eq_true, reduceIte, isiT, M.ty, String.reduceBEq, Bool.or_false, Bool.false_or, Bool.and_false, Bool.and_true, Bool.true_and, Bool.false_and, Bool.or_true, List.mem_cons, true_or, or_true, true_and, and_true, String.reduceEq, decide_true, decide_false])
local macro_rules | `(tactic| walk_at "s") => `(tactic| (subst hR; walk_at "n"))
local macro_rules | `(tactic| walk_at "z") => `(tactic| (simp only [List.map_cons, List.map_nil, atI_c0, atI_c1, atI_c2, atI_c3, atI_c4, atI_c5]; (try walk_at "y")))
local macro_rules | `(tactic| walk_at "e") => `(tactic| repeat (first | rw [if_pos (by decide +kernel)] | rw [if_neg (by decide +kernel)]))
def Dr (c : Int) (ds : List Int) : List D := .int c :: ds.map D.int
def F_next : TF := fun ms G => ∃ (c : Int) (ds : List Int) (lim : Int), ms = [.ls (Dr c ds), .im (.int lim)] ∧ 0 < lim ∧
  ∀ (r : Int) (ds' : List Int), 0 ≤ r → r < lim → G (.im (.int r)) [some (.ls (Dr c ds')), some (.im (.int lim))]
theorem body_next : Body F_next 2 2 t__law_next := by
  rintro ms G hl ⟨c, ds, lim, rfl, h0, q⟩
  show t__law_next _ [Sl.pa (.ls (Dr c ds)), Sl.pa (.im (.int lim))]
  unfold t__law_next Dr
  walk_at "n"
  simp only [Bool.false_xor, List.length_cons, List.length_map]
  by_cases e : ds = []
  · subst e
    rw [if_pos (by rfl)]
    exact q 0 [] (by omega) h0
  · obtain ⟨d, hdl⟩ : ∃ d, ds.getLast? = some d := ⟨_, List.getLast?_eq_some_getLast e⟩
    have ne : ds.map D.int ≠ [] := by simpa using e
    have hl : (D.int c :: ds.map D.int).getLast? = some (.int d) := by
      rw [List.getLast?_cons, List.getLast?_map, hdl]; rfl
    have hd : (D.int c :: ds.map D.int).dropLast = Dr c ds.dropLast := by
      rw [List.dropLast_cons_of_ne_nil ne, Dr, List.map_dropLast]
    rw [if_neg (by cases ds with | nil => exact absurd rfl e | cons a t => simp; omega)]
    subst hR
    walk_at "y"
    refine ⟨trivial, ?_⟩
    rw [hl, hd]
    have hm := Int.emod_nonneg d (b := lim) (by omega)
    have hm2 := Int.emod_lt_of_pos d h0
    exact ⟨h0, q _ ds.dropLast hm hm2⟩
def F_new : TF := fun ms G => ∃ (c : Int) (ds : List Int), ms = [.ls (Dr c ds)] ∧ G (.im (.int (c + 1))) [some (.ls (Dr (c + 1) ds))]
theorem body_new : Body F_new 1 1 t__law_new := by
  rintro ms G hl ⟨c, ds, rfl, q⟩
  show t__law_new _ [Sl.pa (.ls (Dr c ds))]
  unfold t__law_new Dr
  walk_at "n"
  walk_at "z"
  have ix : ixN ((List.map D.int ds).length + 1) 0 = some 0 := ixN_ok (by omega) (by omega)
  rw [ix]
  subst hR
  walk_at "y"
  walk_at "z"
  exact ⟨trivial, q⟩
/-! ### a term is drawn -/
/-- from the counter c: a term of these bounds, the counter then at c' -/
def DrawsT (sz hh : Nat) (c : Int) (lv dep : Int) (G : M → List (Option M) → Prop) : Prop :=
  ∀ (t : Tm) (c' : Int) (ds' : List Int), Gd t sz hh c c' → G (.im t.d) [some (.ls (Dr c' ds')), some (.im (.int lv)), some (.im (.int dep))]
def F_term (n : Nat) : TF := fun ms G => ∃ (c : Int) (ds : List Int) (lv dep : Int), ms = [.ls (Dr c ds), .im (.int lv), .im (.int dep)] ∧ dep ≤ n ∧ DrawsT (SZ n) (2 * n + 1) c lv dep G
def F_head (n : Nat) : TF := fun ms G => ∃ (c : Int) (ds : List Int) (lv dep : Int), ms = [.ls (Dr c ds), .im (.int lv), .im (.int dep)] ∧ dep ≤ n + 1 ∧ DrawsT (SZ n + 1) (2 * n + 2) c lv dep G
def F_no : TF := fun _ _ => False
/-- names are drawn -/
theorem new_comp {k : List D → Env → Prop} : ∀ (n lo : Nat) (c : Int) (ds : List Int) (ps : List Int) {s1 s2 s3 s4 : Sl}, ps.length = lo → lo + n ≤ 100 →
    (∀ (c' : Int) (ps' : List Int), c ≤ c' → k (ps'.map D.int) [Sl.pa (.ls (Dr c' ds)), s1, s2, s3, s4, .no]) →
    compL (.one 5) qYes (tCall F_new 1 (lCons (tNm 0) lNil)) [5] (fun _ => True) k (gRng lo n) (ps.map D.int) [Sl.pa (.ls (Dr c ds)), s1, s2, s3, s4, .no] := by
  intro n
  induction n with
  | zero => intro lo c ds ps s1 s2 s3 s4 h1 h2 q; exact ⟨trivial, q c ps (Int.le_refl _)⟩
  | succ n ih =>
    intro lo c ds ps s1 s2 s3 s4 h1 h2 q
    rw [gRng_succ]
    refine comp_step trivial fun L hL => ?_
    walk_at "y"
    rw [if_pos rfl]
    refine ⟨rfl, by simp, c, ds, rfl, rfl, ?_⟩
    walk_at "y"
    refine ⟨by rw [sizeLine_eq]; simp; omega, ?_⟩
    rw [hL, show ps.map D.int ++ [D.int (c + 1)] = (ps ++ [c + 1]).map D.int by simp]
    exact ih (lo + 1) (c + 1) ds (ps ++ [c + 1]) (by simp [h1]) (by omega) fun c' ps' hc => q c' ps' (by omega)
theorem body_head (n : Nat) : Body (F_head n) 6 3 (t__law_head F_next F_new (F_term n)) := by
  rintro ms G hl ⟨c, ds, lv, dep, rfl, hd, q⟩
  show t__law_head _ _ _ _ [Sl.pa (.ls (Dr c ds)), Sl.pa (.im (.int lv)), Sl.pa (.im (.int dep)), .no, .no, .no]
  unfold t__law_head
  walk_at "n"
  refine ⟨rfl, by simp, c, ds, 8, rfl, by omega, fun r ds1 r0 r1 => ⟨rfl, ?_⟩⟩
  walk_at "y"
  subst hR
  walk_at "n"
  refine ⟨rfl, by simp, c, ds1, rfl, rfl, ?_⟩
  walk_at "y"
  refine ⟨by rw [sizeLine_eq]; omega, ?_⟩
  subst hR
  walk_at "n"
  by_cases c2 : r < 2
  · rw [if_pos (by simpa using c2)]
    refine ⟨by rw [sizeLine_eq]; omega, rfl, by simp, c + 1, ds1, 9, rfl, by omega, fun i ds2 i0 i1 => ⟨rfl, ?_⟩⟩
    walk_at "y"
    obtain ⟨s, hs, hm⟩ : ∃ s : Str, atI (PRIMS.map D.str) i = some (.str s) ∧ s ∈ PRIMS := by
      obtain ⟨s, e1, e2⟩ := atI_ok (xs := PRIMS) i0 i1
      exact ⟨s, by rw [atI_map, e1]; rfl, List.mem_of_getElem? e2⟩
    rw [show [D.str (Str.ofString "list"), D.str (Str.ofString "+"), D.str (Str.ofString "not"), D.str (Str.ofString "first"), D.str (Str.ofString "cons"), D.str (Str.ofString "same?"), D.str (Str.ofString "parts"), D.str (Str.ofString "fresh"), D.str (Str.ofString "wrap")] = PRIMS.map D.str from rfl, hs]
    refine ⟨by rw [sizeLine_eq]; omega, ?_⟩
    exact q (.nd (.prim s) []) (c + 1) ds2 (.prim (lo := c) hm (Int.le_refl _) (by omega) (by omega) (by omega))
  rw [if_neg (by simpa using c2)]
  subst hR
  walk_at "n"
  by_cases c5 : r < 5
  · rw [if_pos (by simpa using c5)]
    refine ⟨by rw [sizeLine_eq]; omega, rfl, by simp, c + 1, ds1, 4, rfl, by omega, fun i ds2 i0 i1 => ⟨rfl, ?_⟩⟩
    walk_at "y"
    obtain ⟨s, hs, hm⟩ : ∃ s : Str, atI [D.str (Str.ofString "m"), D.str (Str.ofString "m"), D.str (Str.ofString "m"), D.str (Str.ofString "other")] i = some (.str s) ∧ s ∈ (["m", "other"] : List Str) := by
      obtain h | h | h | h : i = 0 ∨ i = 1 ∨ i = 2 ∨ i = 3 := by omega
      · subst h; exact ⟨"m", rfl, by simp⟩
      · subst h; exact ⟨"m", rfl, by simp⟩
      · subst h; exact ⟨"m", rfl, by simp⟩
      · subst h; exact ⟨"other", rfl, by simp⟩
    rw [hs]
    refine ⟨rfl, by simp, c + 1, ds2, 4, rfl, by omega, fun j ds3 j0 j1 => ⟨rfl, ?_⟩⟩
    walk_at "y"
    refine ⟨by rw [sizeLine_eq]; omega, ?_⟩
    exact q (.nd (.top s lv j (c + 1)) []) (c + 1) ds3 (.topT (lo := c) hm (Int.le_refl _) (by omega) (by omega) (by omega))
  rw [if_neg (by simpa using c5)]
  subst hR
  walk_at "n"
  by_cases c7 : r < 7
  · rw [if_pos (by simpa using c7)]
    refine ⟨rfl, by simp, c + 1, ds1, 4, rfl, by omega, fun i ds2 i0 i1 => ⟨rfl, ?_⟩⟩
    walk_at "y"
    refine ⟨by omega, by omega, ?_⟩
    refine new_comp (i.toNat) 0 (c + 1) ds2 [] rfl (by omega) fun c' ps hc => ?_
    walk_at "y"
    refine ⟨rfl, by simp, c', ds2, lv, dep - 1, rfl, by omega, fun t c2 ds3 g => ⟨rfl, ?_⟩⟩
    walk_at "y"
    refine ⟨by rw [sizeLine_eq]; omega, ?_⟩
    exact q (.nd (.fn ps) [t]) c2 ds3 ((Gd.node (l := .fn ps) g rfl (by intro sp z; cases z)).mono (Nat.le_refl _) (by omega) (by omega) (Int.le_refl _))
  rw [if_neg (by simpa using c7)]
  subst hR
  walk_at "y"
  refine ⟨rfl, by simp, c + 1, ds1, lv, dep - 1, rfl, by omega, fun t c2 ds3 g => ⟨rfl, ?_⟩⟩
  exact q t c2 ds3 (g.mono (by omega) (by omega) (by omega) (Int.le_refl _))
end Y
namespace Y
set_option hygiene false
open PySem PySem.Spec L2
local macro_rules | `(tactic| walk_at "y") => `(tactic| dsimp only [sNil, sBk, sCt, sDrop, sIf, asg, sAsg, sRet, sRetN, tIm, tNm, tBin, w2, vw, Sl.m?, tTst, tTru, M.tru, tAndQ, tOrQ, tNotQ, tAndX, tOrX, tNotX, tIfX, lNil, lCons, tOn, fInD, fIxD, tGet1, vwD, getOr, M.isD, sPar2, tLc2X, compL2, tChn, tFrz, froz, tTp, tLs, tCl, vws, tMt, Sl.m!, Sl.up, M.res, gLen, gInt, gAdd, gSub, gMul, gDiv, gMod, gPow, gII, gI0, gEqs, gEqs2, gIx, gPop, gApp, gRev, gExt, gTuple, gList, gDict, gIs, gIsi, gAll, gIns, gSorted, gSl, M.lq?, M.lst?, M.sq?, M.dat?, M.isNon, gLt, gLe, gGt, gGe, sFor, iSeq, srcOf, iEnm, enmOf, iRg1, iRg2, bnd, setAll, backS, Sl.isP, tSlc, pNo, pSo, sSetI, hasM, setM, tDspK, tDspT, pairG, D.key?, D.keys?, D.tkey?, putAll, tNewK, tNewT, tNeg, sUnp, tCall, argMs, argM, argS, slots, putB, stepB, putS_lo_ls_ls, putS_lo_ls_dk, putS_lo_ls_dt, putS_lo_ls_no, putS_pa_ls_ls, putS_pa_ls_dk, putS_pa_ls_dt, putS_pa_ls_no, putS_lo_rd_ls, putS_lo_rd_dk, putS_lo_rd_dt, putS_lo_rd_no, putS_pa_rd_ls, putS_pa_rd_dk, putS_pa_rd_dt, putS_pa_rd_no, putS_lo_dk_ls, putS_lo_dk_dk, putS_lo_dk_dt, putS_lo_dk_no, putS_pa_dk_ls, putS_pa_dk_dk, putS_pa_dk_dt, putS_pa_dk_no, putS_lo_dt_ls, putS_lo_dt_dk, putS_lo_dt_dt, putS_lo_dt_no, putS_pa_dt_ls, putS_pa_dt_dk, putS_pa_dt_dt, putS_pa_dt_no, putS_lo_im, putS_lo_sq, putS_pa_im, putS_pa_sq, M.own, M.fit, fins, Sl.fin, envOf, tLcX, compL, wipeE, restE, keepS, qYes, kD, dGet, List.getElem?_cons_zero, List.getElem?_cons_succ, List.getElem?_nil, List.set_cons_zero, List.set_cons_succ, List.map_cons, List.map_nil, List.take_succ_cons, List.take_zero, List.length_cons, List.length_nil, List.head?_cons, List.tail_cons, Option.join_some, List.cons_append, List.nil_append, List.replicate])
local macro_rules | `(tactic| walk_at "n") => `(tactic| ((try dsimp only); refine seq_step fun R hR => ?_; walk_at "y"))
local macro_rules | `(tactic| walk_at "i") => `(tactic| simp only [Bool.false_xor, Bool.true_xor, Bool.not_true, Bool.not_false, Bool.false_eq_true, reduceIte, isiT, M.ty, String.reduceBEq, Bool.or_false, Bool.false_or, Bool.and_false, Bool.and_true, Bool.true_and, Bool.false_and, Bool.or_true, List.mem_cons, true_or, or_true, true_and, and_true, String.reduceEq, decide_true, decide_false])
local macro_rules | `(tactic| walk_at "s") => `(tactic| (subst hR; walk_at "n"))
local macro_rules | `(tactic| walk_at "z") => `(tactic| (simp only [List.map_cons, List.map_nil, atI_c0, atI_c1, atI_c2, atI_c3, atI_c4, atI_c5]; (try walk_at "y")))
local macro_rules | `(tactic| walk_at "e") => `(tactic| repeat (first | rw [if_pos (by decide +kernel)] | rw [if_neg (by decide +kernel)]))
/-! ### a whole term -/
def LEAFS (lv j sp : Int) : List Tm := [.nd (.cst (.tup [.str "number", .int 1])) [], .nd (.top "m" lv j sp) [], .nd (.prim "+") []]
theorem leafs_ok {i lv j sp lo hi : Int} {sz hh : Nat} (i0 : 0 ≤ i) (i1 : i < 3) (h : lo ≤ hi) (h3 : 1 ≤ sz) (h4 : 1 ≤ hh) :
    ∃ t : Tm, atI [D.tup [D.str (Str.ofString "const"), D.tup [D.str (Str.ofString "number"), D.int 1]], D.tup [D.str (Str.ofString "top"), D.str (Str.ofString "m"), D.int lv, D.int j, spot sp], D.tup [D.str (Str.ofString "prim"), D.str (Str.ofString "+")]] i = some t.d ∧ Gd t sz hh lo hi := by
  obtain h | h | h : i = 0 ∨ i = 1 ∨ i = 2 := by omega
  · subst h; exact ⟨.nd (.cst (.tup [.str "number", .int 1])) [], rfl, .cstT (lo := lo) (Int.le_refl _) (by omega) h3 h4⟩
  · subst h; exact ⟨.nd (.top "m" lv j sp) [], rfl, .topT (lo := lo) (by simp) (Int.le_refl _) (by omega) h3 h4⟩
  · subst h; exact ⟨.nd (.prim "+") [], rfl, .prim (lo := lo) (by decide) (Int.le_refl _) (by omega) h3 h4⟩
/-- parts are drawn -/
theorem part_comp {N : Nat} {lv dep r sp : Int} (hd : dep - 1 ≤ N) {k : List D → Env → Prop} : ∀ (n lo : Nat) (c0 c : Int) (ds : List Int) (ts : List Tm), ts.length = lo → lo + n ≤ 3 → GdL ts (lo * SZ N) (2 * N + 1) c0 c →
    (∀ (c' : Int) (ds' : List Int) (ts' : List Tm), ts'.length = lo + n → GdL ts' ((lo + n) * SZ N) (2 * N + 1) c0 c' → k (ts'.map Tm.d) [Sl.pa (.ls (Dr c' ds')), Sl.pa (.im (.int lv)), Sl.pa (.im (.int dep)), .lo (.im (.int r)), .lo (.im (spot sp)), .no, .no, .no]) →
    compL (.one 6) qYes (tCall (F_term N) 3 (lCons (tNm 0) (lCons (tNm 1) (lCons (tBin gSub (tNm 2) (tIm (.int 1))) lNil)))) [6] (fun _ => True) k (gRng lo n) (ts.map Tm.d)
      [Sl.pa (.ls (Dr c ds)), Sl.pa (.im (.int lv)), Sl.pa (.im (.int dep)), .lo (.im (.int r)), .lo (.im (spot sp)), .no, .no, .no] := by
  intro n
  induction n with
  | zero => intro lo c0 c ds ts h1 h2 g q; exact ⟨trivial, q c ds ts (by omega) (by simpa using g)⟩
  | succ n ih =>
    intro lo c0 c ds ts h1 h2 g q
    rw [gRng_succ]
    refine comp_step trivial fun L hL => ?_
    walk_at "y"
    rw [if_pos rfl]
    refine ⟨rfl, by simp, c, ds, lv, dep - 1, rfl, hd, fun t c' ds' g' => ⟨rfl, ?_⟩⟩
    walk_at "y"
    refine ⟨by rw [sizeLine_eq]; simp; omega, ?_⟩
    rw [hL, show ts.map Tm.d ++ [t.d] = (ts ++ [t]).map Tm.d by simp]
    have e : lo + 1 + n = lo + (n + 1) := by omega
    refine ih (lo + 1) c0 c' ds' (ts ++ [t]) (by simp [h1]) (by omega) (by rw [Nat.add_mul, Nat.one_mul]; exact g.append g') fun c2 ds2 ts2 h g2 => q c2 ds2 ts2 (by omega) (by rw [← e]; exact g2)
theorem zipP_app : ∀ (ps : List Int) (xs : List D) (y : D), ps.length = xs.length → zipP ps (xs ++ [y]) = zipP ps xs
  | [], [], _, _ => rfl
  | p :: ps, x :: xs, y, h => by rw [List.cons_append, zipP, zipP, zipP_app ps xs y (Nat.succ.inj h)]
theorem zipP_len : ∀ (ps : List Int) (xs : List D), ps.length = xs.length → (zipP ps xs).length = xs.length
  | [], [], _ => rfl
  | p :: ps, x :: xs, h => by rw [zipP, List.length_cons, zipP_len ps xs (Nat.succ.inj h), List.length_cons]
theorem rec_comp {s1 s2 s3 s4 : Sl} {v : V} {all : List D} {ds : List Int} {k : List D → Env → Prop} : ∀ (us : List Tm) (c : Int) (acc : List D), acc.length + us.length ≤ 10 →
    (∀ (c' : Int) (ps : List Int), c ≤ c' → ps.length = us.length → k (acc ++ zipP ps (us.map Tm.d)) [Sl.pa (.ls (Dr c' ds)), s1, s2, s3, s4, .hd false v (.ls all), .no, .no]) →
    compL (.one 7) qYes (tTp (lCons (tCall F_new 1 (lCons (tNm 0) lNil)) (lCons (tNm 7) lNil))) [7] (fun ρ => ρ[5]? = some (Sl.hd false v (.ls all))) k (us.map Tm.d) acc [Sl.pa (.ls (Dr c ds)), s1, s2, s3, s4, .hd false v (.ls all), .no, .no] := by
  intro us
  induction us with
  | nil => intro c acc h q; exact ⟨rfl, by have := q c [] (Int.le_refl _) rfl; simpa [zipP] using this⟩
  | cons u us ih =>
    intro c acc h q
    rw [List.map_cons]
    refine comp_step rfl fun L hL => ?_
    walk_at "y"
    rw [if_pos rfl]
    refine ⟨rfl, by simp, c, ds, rfl, rfl, ?_⟩
    walk_at "y"
    refine ⟨by rw [sizeLine_eq]; omega, by rw [sizeLine_eq]; simp at h; omega, ?_⟩
    rw [hL]
    refine ih (c + 1) _ (by simp at h ⊢; omega) fun c' ps hc hp => ?_
    have := q c' ((c + 1) :: ps) (by omega) (by simp [hp])
    rw [List.map_cons, zipP] at this
    rw [List.append_assoc]
    exact this
theorem body_term0 {Fx Fy : TF} : Body (F_term 0) 8 3 (t__law_term F_next F_new Fx Fy) := by
  rintro ms G hl ⟨c, ds, lv, dep, rfl, hd, q⟩
  show t__law_term _ _ _ _ _ [Sl.pa (.ls (Dr c ds)), Sl.pa (.im (.int lv)), Sl.pa (.im (.int dep)), .no, .no, .no, .no, .no]
  unfold t__law_term
  walk_at "n"
  refine ⟨rfl, by simp, c, ds, 12, rfl, by omega, fun r ds1 r0 r1 => ⟨rfl, ?_⟩⟩
  walk_at "y"
  subst hR
  walk_at "n"
  refine ⟨rfl, by simp, c, ds1, rfl, rfl, ?_⟩
  walk_at "y"
  refine ⟨by rw [sizeLine_eq]; omega, ?_⟩
  subst hR
  walk_at "n"
  rw [if_pos (by simp; omega), if_pos rfl]
  refine ⟨by rw [sizeLine_eq]; omega, by rw [sizeLine_eq]; omega, rfl, by simp, c + 1, ds1, 4, rfl, by omega, fun j ds2 j0 j1 => ⟨rfl, ?_⟩⟩
  walk_at "y"
  refine ⟨by rw [sizeLine_eq]; omega, by rw [sizeLine_eq]; omega, by rw [sizeLine_eq]; omega, rfl, by simp, c + 1, ds2, 3, rfl, by omega, fun i ds3 i0 i1 => ⟨rfl, ?_⟩⟩
  walk_at "y"
  obtain ⟨t, e, g⟩ := leafs_ok (lv := lv) (j := j) (sp := c + 1) (lo := c) (hi := c + 1) (sz := 1) (hh := 1) i0 i1 (by omega) (by omega) (by omega)
  unfold spot at e
  rw [e]
  exact q t (c + 1) ds3 g
theorem body_term (n : Nat) : Body (F_term (n + 1)) 8 3 (t__law_term F_next F_new (F_term n) (F_head n)) := by
  rintro ms G hl ⟨c, ds, lv, dep, rfl, hd, q⟩
  show t__law_term _ _ _ _ _ [Sl.pa (.ls (Dr c ds)), Sl.pa (.im (.int lv)), Sl.pa (.im (.int dep)), .no, .no, .no, .no, .no]
  unfold t__law_term
  walk_at "n"
  refine ⟨rfl, by simp, c, ds, 12, rfl, by omega, fun r ds1 r0 r1 => ⟨rfl, ?_⟩⟩
  walk_at "y"
  subst hR
  walk_at "n"
  refine ⟨rfl, by simp, c, ds1, rfl, rfl, ?_⟩
  walk_at "y"
  refine ⟨by rw [sizeLine_eq]; omega, ?_⟩
  subst hR
  walk_at "n"
  have p1 := SZ_pos n
  have eS : SZ (n + 1) = 4 * SZ n + 3 := rfl
  by_cases h1 : dep ≤ 0
  · rw [if_pos (by simpa using h1), if_pos rfl]
    refine ⟨by rw [sizeLine_eq]; omega, by rw [sizeLine_eq]; omega, rfl, by simp, c + 1, ds1, 4, rfl, by omega, fun j ds2 j0 j1 => ⟨rfl, ?_⟩⟩
    walk_at "y"
    refine ⟨by rw [sizeLine_eq]; omega, by rw [sizeLine_eq]; omega, by rw [sizeLine_eq]; omega, rfl, by simp, c + 1, ds2, 3, rfl, by omega, fun i ds3 i0 i1 => ⟨rfl, ?_⟩⟩
    walk_at "y"
    obtain ⟨t, e, g⟩ := leafs_ok (lv := lv) (j := j) (sp := c + 1) (lo := c) (hi := c + 1) (sz := SZ (n + 1)) (hh := 2 * (n + 1) + 1) i0 i1 (by omega) (by omega) (by omega)
    unfold spot at e
    rw [e]
    exact q t (c + 1) ds3 g
  rw [if_neg (by simpa using h1)]
  by_cases h2 : r < 2
  · rw [if_pos (by simpa using h2)]
    refine ⟨by rw [sizeLine_eq]; omega, by rw [sizeLine_eq]; omega, rfl, by simp, c + 1, ds1, 4, rfl, by omega, fun j ds2 j0 j1 => ⟨rfl, ?_⟩⟩
    walk_at "y"
    refine ⟨by rw [sizeLine_eq]; omega, by rw [sizeLine_eq]; omega, by rw [sizeLine_eq]; omega, rfl, by simp, c + 1, ds2, 3, rfl, by omega, fun i ds3 i0 i1 => ⟨rfl, ?_⟩⟩
    walk_at "y"
    obtain ⟨t, e, g⟩ := leafs_ok (lv := lv) (j := j) (sp := c + 1) (lo := c) (hi := c + 1) (sz := SZ (n + 1)) (hh := 2 * (n + 1) + 1) i0 i1 (by omega) (by omega) (by omega)
    unfold spot at e
    rw [e]
    exact q t (c + 1) ds3 g
  rw [if_neg (by simpa using h2)]
  subst hR
  walk_at "n"
  refine ⟨rfl, by simp, c + 1, ds1, 4, rfl, by omega, fun m ds2 m0 m1 => ⟨rfl, ?_⟩⟩
  walk_at "y"
  refine ⟨by omega, by omega, ?_⟩
  refine part_comp (N := n) (sp := c + 1) (by omega) m.toNat 0 (c + 1) (c + 1) ds2 [] rfl (by omega) (by rw [Nat.zero_mul]; exact GdL.nil) fun c1 ds3 ts tl g => ?_
  unfold spot
  walk_at "y"
  have g : GdL ts (3 * SZ n) (2 * n + 1) (c + 1) c1 := g.mono (Nat.mul_le_mul_right _ (by omega)) (Nat.le_refl _) (Int.le_refl _) (Int.le_refl _)
  have tl3 : ts.length ≤ 3 := by omega
  have hc1 := g.le
  clear tl m0 m1
  subst hR
  walk_at "n"
  by_cases h7 : r < 7
  · rw [if_pos (by simpa using h7)]
    refine ⟨rfl, by simp, c1, ds3, lv, dep, rfl, by omega, fun t c2 ds4 gt => ⟨rfl, ?_⟩⟩
    walk_at "y"
    refine ⟨by rw [sizeLine_eq]; omega, ?_⟩
    have gg : GdL (t :: ts) (SZ n + 1 + 3 * SZ n) (2 * n + 2) (c + 1) c2 := by
      have := (g.mono (Nat.le_refl _) (by omega : 2 * n + 1 ≤ 2 * n + 2) (Int.le_refl _) (Int.le_refl _))
      refine ⟨fun u hu => ?_, ?_, fun u hu => ?_, fun x hx => ?_, ?_, by have := gt.le; omega⟩
      · rcases List.mem_cons.mp hu with rfl | hu
        · exact gt.wf _ List.mem_cons_self
        · exact g.wf _ hu
      · rw [subsL_cons, List.length_append]
        have := gt.sz
        rw [subsL_one] at this
        have := g.sz
        omega
      · rcases List.mem_cons.mp hu with rfl | hu
        · exact gt.ht _ List.mem_cons_self
        · have := g.ht _ hu; omega
      · rw [subsL_cons, spots, List.filterMap_append] at hx
        rcases List.mem_append.mp hx with hx | hx
        · have := gt.rg x (by rw [subsL_one]; exact hx); omega
        · have := g.rg x hx; have := gt.le; omega
      · rw [subsL_cons, spots, List.filterMap_append]
        have n1 := gt.nd
        rw [subsL_one] at n1
        refine List.nodup_append.mpr ⟨n1, g.nd, fun a ha b hb => ?_⟩
        have x1 := gt.rg a (by rw [subsL_one]; exact ha)
        have x2 := g.rg b hb
        omega
    have := q (.nd (.call (c + 1)) (t :: ts)) c2 ds4 ((Gd.callN gg (by simp) (by omega)).mono (by omega) (by omega) (Int.le_refl _) (Int.le_refl _))
    rw [dN, List.map_cons] at this
    exact this
  rw [if_neg (by simpa using h7)]
  subst hR
  walk_at "n"
  walk_at "i"
  by_cases h7 : r = 7
  · rw [if_pos (by simpa using h7)]
    refine ⟨by rw [sizeLine_eq]; omega, by rw [sizeLine_eq]; omega, by rw [sizeLine_eq]; omega, by rw [List.length_map, sizeLine_eq]; omega, by rw [sizeLine_eq]; omega, ?_⟩
    have := q (.nd .seq (ts ++ [.nd (.cst (.tup [.str "flag", .bl true])) []])) c1 ds3 ((Gd.node (l := .seq) (g.append (Gd.cstT (sz := 1) (hh := 2 * n + 1) (lo := c1) (Int.le_refl _) (Int.le_refl _) (by omega) (by omega))) trivial (by intro sp z; cases z)).mono (by omega) (by omega) (by omega) (Int.le_refl _))
    rw [dN, List.map_append] at this
    exact this
  rw [if_neg (by simpa using h7)]
  subst hR
  walk_at "n"
  walk_at "i"
  by_cases h8 : r = 8
  · rw [if_pos (by simpa using h8)]
    refine ⟨by simp, c1, ds3, lv, dep - 1, rfl, by omega, fun t c2 ds4 gt => ⟨rfl, ?_⟩⟩
    walk_at "y"
    refine ⟨by rw [sizeLine_eq]; omega, by simp, c2, ds4, lv, dep - 1, rfl, by omega, fun u c3 ds5 gu => ⟨rfl, ?_⟩⟩
    walk_at "y"
    refine ⟨by rw [sizeLine_eq]; omega, ?_⟩
    have gg := (gt.append (Gd.prim (s := "not") (sz := 1) (hh := 2 * n + 1) (lo := c2) (by decide) (Int.le_refl _) (Int.le_refl _) (by omega) (by omega))).append gu
    have := q (.nd .cond [t, .nd (.prim "not") [], u]) c3 ds5 ((Gd.node (l := .cond) gg rfl (by intro sp z; cases z)).mono (by omega) (by omega) (by omega) (Int.le_refl _))
    rw [dN] at this
    exact this
  rw [if_neg (by simpa using h8)]
  subst hR
  walk_at "n"
  walk_at "i"
  by_cases h9 : r = 9
  · rw [if_pos (by simpa using h9)]
    refine ⟨by simp, c1, ds3, rfl, rfl, ?_⟩
    walk_at "y"
    refine ⟨by rw [sizeLine_eq]; omega, by simp, c1 + 1, ds3, lv, dep - 1, rfl, by omega, fun t c2 ds4 gt => ⟨rfl, ?_⟩⟩
    walk_at "y"
    refine ⟨by rw [sizeLine_eq]; omega, ?_⟩
    have := q (.nd (.fn [c1 + 1]) [t]) c2 ds4 ((Gd.node (l := .fn [c1 + 1]) gt rfl (by intro sp z; cases z)).mono (by omega) (by omega) (by omega) (Int.le_refl _))
    rw [dN] at this
    exact this
  rw [if_neg (by simpa using h9)]
  subst hR
  walk_at "n"
  walk_at "i"
  have last : ∀ ds3 : List Int, R [Sl.pa (.ls (Dr c1 ds3)), Sl.pa (.im (.int lv)), Sl.pa (.im (.int dep)), .lo (.im (.int r)), .lo (.im (.tup [.str "m", .int (c + 1)])), .lo (.ls (ts.map Tm.d)), .no, .no] := by
    intro ds3
    subst hR
    walk_at "y"
    refine ⟨rfl, fun v => rec_comp ts c1 [] (by simp; omega) fun c2 ps hc hp => ?_⟩
    walk_at "y"
    refine ⟨rfl, by simp, c2, ds3, lv, dep - 1, rfl, by omega, fun t c3 ds4 gt => ⟨rfl, ?_⟩⟩
    walk_at "y"
    refine ⟨by rw [sizeLine_eq]; omega, ?_⟩
    have gg := (g.mono (Nat.le_refl _) (Nat.le_refl _) (Int.le_refl _) hc).append gt
    have := q (.nd (.rcs ps) (ts ++ [t])) c3 ds4 ((Gd.node (l := .rcs ps) gg (by show (ts ++ [t]).length = _; simp [hp]) (by intro sp z; cases z)).mono (by omega) (by omega) (by omega) (Int.le_refl _))
    rw [dN, List.map_append] at this
    simp only [mkD, List.map_cons, List.map_nil, zipP_app ps (ts.map Tm.d) t.d (by simpa using hp), List.getLastD_concat] at this
    exact this
  by_cases h10 : r = 10
  · rw [if_pos (by simpa using h10)]
    refine ⟨by simp, c1, ds3, 4, rfl, by omega, fun x ds4 x0 x1 => ⟨rfl, ?_⟩⟩
    walk_at "y"
    by_cases hx : x = 0
    · rw [if_pos (by simpa using hx)]
      refine ⟨by rw [sizeLine_eq]; omega, by simp, c1, ds4, 2, rfl, by omega, fun i ds5 i0 i1 => ⟨rfl, ?_⟩⟩
      walk_at "y"
      obtain ⟨s, hs, hm⟩ : ∃ s : Str, atI [D.str (Str.ofString "m"), D.str (Str.ofString "other")] i = some (.str s) ∧ s ∈ (["m", "other"] : List Str) := by
        obtain h | h : i = 0 ∨ i = 1 := by omega
        · subst h; exact ⟨"m", rfl, by simp⟩
        · subst h; exact ⟨"other", rfl, by simp⟩
      rw [hs]
      refine ⟨by simp, c1, ds5, 4, rfl, by omega, fun j ds6 j0 j1 => ⟨rfl, ?_⟩⟩
      walk_at "y"
      refine ⟨by rw [sizeLine_eq]; omega, by simp, c1, ds6, lv, dep - 1, rfl, by omega, fun t c2 ds7 gt => ⟨rfl, ?_⟩⟩
      walk_at "y"
      refine ⟨by rw [sizeLine_eq]; omega, ?_⟩
      have gg := (Gd.topT (m := s) (lv := lv) (k := j) (sp := c + 1) (sz := 1) (hh := 2 * n + 1) (lo := c1) (hi := c1) hm (Int.le_refl _) (Int.le_refl _) (by omega) (by omega)).append gt
      have := q (.nd .set [.nd (.top s lv j (c + 1)) [], t]) c2 ds7 ((Gd.node (l := .set) gg ⟨s, lv, j, c + 1, t, rfl⟩ (by intro sp z; cases z)).mono (by omega) (by omega) (by omega) (Int.le_refl _))
      rw [dN] at this
      exact this
    · rw [if_neg (by simpa using hx)]
      exact last ds4
  rw [if_neg (by simpa using h10)]
  exact last ds3
end Y
namespace Y
set_option hygiene false
open PySem PySem.Spec L2
local macro_rules | `(tactic| walk_at "y") => `(tactic| dsimp only [sNil, sBk, sCt, sDrop, sIf, asg, sAsg, sRet, sRetN, tIm, tNm, tBin, w2, vw, Sl.m?, tTst, tTru, M.tru, tAndQ, tOrQ, tNotQ, tAndX, tOrX, tNotX, tIfX, lNil, lCons, tOn, fInD, fIxD, tGet1, vwD, getOr, M.isD, sPar2, tLc2X, compL2, tChn, tFrz, froz, tTp, tLs, tCl, vws, tMt, Sl.m!, Sl.up, M.res, gLen, gInt, gAdd, gSub, gMul, gDiv, gMod, gPow, gII, gI0, gEqs, gEqs2, gIx, gPop, gApp, gRev, gExt, gTuple, gList, gDict, gIs, gIsi, gAll, gIns, gSorted, gSl, M.lq?, M.lst?, M.sq?, M.dat?, M.isNon, gLt, gLe, gGt, gGe, sFor, iSeq, srcOf, iEnm, enmOf, iRg1, iRg2, bnd, setAll, backS, Sl.isP, tSlc, pNo, pSo, sSetI, hasM, setM, tDspK, tDspT, pairG, D.key?, D.keys?, D.tkey?, putAll, tNewK, tNewT, tNeg, sUnp, tCall, argMs, argM, argS, slots, putB, stepB, putS_lo_ls_ls, putS_lo_ls_dk, putS_lo_ls_dt, putS_lo_ls_no, putS_pa_ls_ls, putS_pa_ls_dk, putS_pa_ls_dt, putS_pa_ls_no, putS_lo_rd_ls, putS_lo_rd_dk, putS_lo_rd_dt, putS_lo_rd_no, putS_pa_rd_ls, putS_pa_rd_dk, putS_pa_rd_dt, putS_pa_rd_no, putS_lo_dk_ls, putS_lo_dk_dk, putS_lo_dk_dt, putS_lo_dk_no, putS_pa_dk_ls, putS_pa_dk_dk, putS_pa_dk_dt, putS_pa_dk_no, putS_lo_dt_ls, putS_lo_dt_dk, putS_lo_dt_dt, putS_lo_dt_no, putS_pa_dt_ls, putS_pa_dt_dk, putS_pa_dt_dt, putS_pa_dt_no, putS_lo_im, putS_lo_sq, putS_pa_im, putS_pa_sq, M.own, M.fit, fins, Sl.fin, envOf, tLcX, compL, wipeE, restE, keepS, qYes, kD, dGet, List.getElem?_cons_zero, List.getElem?_cons_succ, List.getElem?_nil, List.set_cons_zero, List.set_cons_succ, List.map_cons, List.map_nil, List.take_succ_cons, List.take_zero, List.length_cons, List.length_nil, List.head?_cons, List.tail_cons, Option.join_some, List.cons_append, List.nil_append, List.replicate])
local macro_rules | `(tactic| walk_at "n") => `(tactic| ((try dsimp only); refine seq_step fun R hR => ?_; walk_at "y"))
local macro_rules | `(tactic| walk_at "i") => `(tactic| simp only [Bool.false_xor, Bool.true_xor, Bool.not_true, Bool.not_false, Bool.false_eq_true, reduceIte, isiT, M.ty, String.reduceBEq, Bool.or_false, Bool.false_or, Bool.and_false, Bool.and_true, Bool.true_and, Bool.false_and, Bool.or_true, List.mem_cons, true_or, or_true, true_and, and_true, String.reduceEq, decide_true, decide_false])
local macro_rules | `(tactic| walk_at "s") => `(tactic| (subst hR; walk_at "n"))
local macro_rules | `(tactic| walk_at "z") => `(tactic| (simp only [List.map_cons, List.map_nil, atI_c0, atI_c1, atI_c2, atI_c3, atI_c4, atI_c5]; (try walk_at "y")))
local macro_rules | `(tactic| walk_at "e") => `(tactic| repeat (first | rw [if_pos (by decide +kernel)] | rw [if_neg (by decide +kernel)]))
/-! ### the law's own walk -/
theorem cutD_from {α : Type} (xs : List α) (n : Nat) : cutD xs (some (n : Int)) none = xs.drop n := by
  unfold cutD
  rw [HT.sIx_nat, HT.sIx_none]
  by_cases h : n ≤ xs.length
  · rw [Nat.min_eq_left h, List.take_of_length_le (by rw [List.length_drop]; exact Nat.le_refl _)]
  · rw [Nat.min_eq_right (by omega), List.drop_of_length_le (Nat.le_refl _), List.drop_of_length_le (by omega), List.take_nil]
theorem cut14 {α : Type} (a b c d e : α) : cutD [a, b, c, d, e] (some 1) (some 4) = [b, c, d] := rfl
theorem cut24 {α : Type} (a b c d e : α) : cutD [a, b, c, d, e] (some 2) (some 4) = [c, d] := rfl
def F_walk (n : Nat) : TF := fun ms G => ∃ (t : Tm) (cs : List Tm) (ss : List K3), ms = [.im t.d, .ls (cs.map Tm.d), .ls (ss.map k3)] ∧ t.wf ∧ t.h ≤ n ∧ cs.length + (Tm.subsL [t]).length ≤ 100000 ∧ ss.length + (Tm.subsL [t]).length ≤ 100000 ∧
  G (.im .non) [some (.im t.d), some (.ls ((cs ++ callsL [t]).map Tm.d)), some (.ls ((ss ++ keysL [t]).map k3))]
theorem F_walk0 : ∀ ms G, ¬ F_walk 0 ms G := fun ms G ⟨t, _, _, _, _, h, _⟩ => by cases t with | nd l ks => unfold Tm.h at h; omega
abbrev WL (f : TF → TSX) (n : Nat) : TSX := f (F_walk n)
theorem loop_walk {P : EndP} {n : Nat} {s0 s3 s5 : Sl} {b : TSX} (hb : b = sDrop (tCall (F_walk n) 3 (lCons (tNm 4) (lCons (tNm 1) (lCons (tNm 2) lNil))))) : ∀ (ts cs : List Tm) (ss : List K3) (s4 : Sl), (∀ t ∈ ts, t.wf) → (∀ t ∈ ts, t.h ≤ n) → cs.length + (Tm.subsL ts).length ≤ 100000 → ss.length + (Tm.subsL ts).length ≤ 100000 →
    (∀ s4, P.nx [s0, Sl.pa (.ls ((cs ++ callsL ts).map Tm.d)), Sl.pa (.ls ((ss ++ keysL ts).map k3)), s3, s4, s5]) →
    loopS (.one 4) b (fun _ => True) P (ts.map Tm.d) [s0, Sl.pa (.ls (cs.map Tm.d)), Sl.pa (.ls (ss.map k3)), s3, s4, s5] := by
  intro ts
  induction ts with
  | nil => intro cs ss s4 _ _ _ _ q; exact ⟨trivial, by have := q s4; simpa [callsL, keysL, Tm.subsL] using this⟩
  | cons t ts ih =>
    intro cs ss s4 hw hh hc hs q
    rw [List.map_cons]
    refine loop_step trivial fun L hL => ?_
    rw [hb]
    have z : (Tm.subsL (t :: ts)).length = (Tm.subsL [t]).length + (Tm.subsL ts).length := by rw [subsL_cons, subsL_one, List.length_append]
    walk_at "y"
    refine ⟨rfl, by simp, t, cs, ss, rfl, hw _ List.mem_cons_self, hh _ List.mem_cons_self, by omega, by omega, rfl, ?_⟩
    walk_at "y"
    rw [hL]
    have l1 := callsL_len [t]
    have l2 := keysL_len [t]
    refine ih _ _ _ (fun u hu => hw u (List.mem_cons_of_mem _ hu)) (fun u hu => hh u (List.mem_cons_of_mem _ hu)) (by rw [List.length_append]; omega) (by rw [List.length_append]; omega) fun s4 => ?_
    have := q s4
    rw [callsL_cons, keysL_cons] at this
    rw [List.append_assoc, List.append_assoc]
    exact this
theorem loop_walk4 {P : EndP} {n : Nat} {s0 s3 : Sl} : ∀ (ts : List Tm) (ps : List Int) (cs : List Tm) (ss : List K3) (s4 s5 : Sl), ps.length = ts.length → (∀ t ∈ ts, t.wf) → (∀ t ∈ ts, t.h ≤ n) → cs.length + (Tm.subsL ts).length ≤ 100000 → ss.length + (Tm.subsL ts).length ≤ 100000 →
    (∀ s4 s5, P.nx [s0, Sl.pa (.ls ((cs ++ callsL ts).map Tm.d)), Sl.pa (.ls ((ss ++ keysL ts).map k3)), s3, s4, s5]) →
    loopS (.many [5, 4]) (b__law_walk_4 (F_walk n)) (fun _ => True) P (zipP ps (ts.map Tm.d)) [s0, Sl.pa (.ls (cs.map Tm.d)), Sl.pa (.ls (ss.map k3)), s3, s4, s5] := by
  intro ts
  induction ts with
  | nil =>
    intro ps cs ss s4 s5 hp _ _ _ _ q
    obtain rfl := List.length_eq_zero_iff.mp hp
    exact ⟨trivial, by have := q s4 s5; simpa [callsL, keysL, Tm.subsL] using this⟩
  | cons t ts ih =>
    intro ps cs ss s4 s5 hp hw hh hc hs q
    obtain ⟨p, ps, rfl⟩ : ∃ p ps', ps = p :: ps' := List.exists_cons_of_ne_nil (by intro z; rw [z] at hp; cases hp)
    rw [List.map_cons, zipP]
    refine loop_step trivial fun L hL => ?_
    unfold b__law_walk_4
    rw [subsL_cons_len] at hc hs
    walk_at "y"
    refine ⟨rfl, rfl, by simp, t, cs, ss, rfl, hw _ List.mem_cons_self, hh _ List.mem_cons_self, by omega, by omega, rfl, ?_⟩
    walk_at "y"
    rw [hL]
    have l1 := callsL_len [t]
    have l2 := keysL_len [t]
    refine ih _ _ _ _ _ (Nat.succ.inj hp) (fun u hu => hw u (List.mem_cons_of_mem _ hu)) (fun u hu => hh u (List.mem_cons_of_mem _ hu)) (by rw [List.length_append]; omega) (by rw [List.length_append]; omega) fun s4 s5 => ?_
    have := q s4 s5
    rw [callsL_cons, keysL_cons] at this
    rw [List.append_assoc, List.append_assoc]
    exact this
theorem body_walk (n : Nat) : Body (F_walk (n + 1)) 6 3 (t__law_walk (F_walk n)) := by
  rintro ms G hl ⟨t, cs, ss, rfl, hw, hh, hc, hs, q⟩
  show t__law_walk _ _ [Sl.pa (.im t.d), Sl.pa (.ls (cs.map Tm.d)), Sl.pa (.ls (ss.map k3)), .no, .no, .no]
  obtain ⟨l, ks⟩ := t
  have hk := h_node hh
  have wk : ∀ t ∈ ks, t.wf := fun t ht => hw.kid ht
  have sh := hw.self
  rw [sub_len] at hc hs
  rw [callsL_node, keysL_node] at q
  rw [dN] at q ⊢
  unfold t__law_walk
  cases l with
  | cst d =>
    obtain rfl : ks = [] := sh
    simp only [mkD] at q ⊢
    walk_at "n"
    walk_at "z"
    subst hR
    walk_at "y"
    walk_at "i"
    walk_at "e"
    simpa [isCall, setOf, callsL, keysL, Tm.subsL, Sl.fin] using q
  | prim s =>
    obtain rfl : ks = [] := sh.1
    simp only [mkD] at q ⊢
    walk_at "n"
    walk_at "z"
    subst hR
    walk_at "y"
    walk_at "i"
    walk_at "e"
    simpa [isCall, setOf, callsL, keysL, Tm.subsL, Sl.fin] using q
  | top m lv k sp =>
    obtain rfl : ks = [] := sh.1
    simp only [mkD] at q ⊢
    walk_at "n"
    walk_at "z"
    subst hR
    walk_at "y"
    walk_at "i"
    walk_at "e"
    simpa [isCall, setOf, callsL, keysL, Tm.subsL, Sl.fin] using q
  | call sp =>
    obtain ⟨t, ts, rfl⟩ : ∃ t ts, ks = t :: ts := List.exists_cons_of_ne_nil sh
    simp only [mkD] at q ⊢
    walk_at "n"
    walk_at "z"
    subst hR
    walk_at "y"
    walk_at "i"
    walk_at "e"
    rw [List.headD_cons]
    walk_at "n"
    refine ⟨trivial, by rw [List.length_map, sizeLine_eq]; omega, ?_⟩
    subst hR
    walk_at "y"
    walk_at "z"
    have lt := len_subsL (t :: ts)
    refine ⟨by rw [sizeLine_eq]; omega, by rw [List.length_map, sizeLine_eq]; simp at lt; omega, ?_⟩
    rw [show cs.map Tm.d ++ [D.tup [D.str (Str.ofString "call"), t.d, D.tup (ts.map Tm.d), spot sp]] = (cs ++ [Tm.nd (.call sp) (t :: ts)]).map Tm.d by rw [List.map_append, List.map_cons, List.map_nil, dN]; rfl]
    refine loop_walk rfl (t :: ts) _ ss .no wk hk (by rw [List.length_append]; simp; omega) (by omega) fun s4 => ?_
    rw [List.append_assoc]
    exact q
  | seq =>
    simp only [mkD] at q ⊢
    walk_at "n"
    walk_at "z"
    subst hR
    walk_at "y"
    walk_at "i"
    walk_at "e"
    walk_at "z"
    refine loop_walk rfl ks cs ss .no wk hk (by omega) (by omega) fun s4 => q
  | cond =>
    simp only [mkD] at q ⊢
    walk_at "n"
    walk_at "z"
    subst hR
    walk_at "y"
    walk_at "i"
    walk_at "e"
    rw [show cutD (D.str (Str.ofString "if") :: List.map Tm.d ks) (some 1) none = ks.map Tm.d by have := cutD_from (D.str (Str.ofString "if") :: List.map Tm.d ks) 1; exact this]
    refine loop_walk rfl ks cs ss .no wk hk (by omega) (by omega) fun s4 => q
  | fn ps =>
    obtain ⟨b, rfl⟩ := List.length_eq_one_iff.mp sh
    simp only [mkD] at q ⊢
    walk_at "n"
    walk_at "z"
    subst hR
    walk_at "y"
    walk_at "i"
    walk_at "e"
    refine ⟨by simp, b, cs, ss, rfl, wk b (by simp), hk b (by simp), by omega, by omega, rfl, ?_⟩
    exact q
  | set =>
    obtain ⟨m, lv, k, sp, v, rfl⟩ := sh
    simp only [mkD] at q ⊢
    walk_at "n"
    walk_at "z"
    subst hR
    walk_at "y"
    walk_at "i"
    walk_at "e"
    rw [dN]
    simp only [mkD]
    walk_at "n"
    walk_at "z"
    walk_at "i"
    walk_at "e"
    rw [cut14]
    refine ⟨by rw [List.length_map, sizeLine_eq]; omega, ?_⟩
    subst hR
    walk_at "y"
    walk_at "z"
    rw [subsL_cons_len] at hc hs
    rw [show ss.map k3 ++ [D.tup [D.str m, D.int lv, D.int k]] = (ss ++ [((m, lv, k) : K3)]).map k3 by rw [List.map_append]; rfl]
    refine ⟨trivial, by simp, v, cs, _, rfl, wk v (by simp), hk v (by simp), by omega, by rw [List.length_append]; simp; omega, ?_⟩
    refine ⟨rfl, ?_⟩
    rw [List.append_assoc]
    rw [callsL_cons, keysL_cons, callsL_node, keysL_node] at q
    exact q
  | rcs ps => 
    simp only [mkD] at q ⊢
    walk_at "n"
    walk_at "z"
    subst hR
    walk_at "y"
    walk_at "i"
    walk_at "e"
    obtain ⟨ks, b, rfl⟩ : ∃ i b, ks = i ++ [b] := ⟨ks.dropLast, ks.getLast (by intro z; rw [z] at sh; simp [shape, Tm.lab, Tm.kids] at sh), (List.dropLast_concat_getLast _).symm⟩
    have shl : ps.length = ks.length := by have : (ks ++ [b]).length = ps.length + 1 := sh; simp at this; omega
    rw [List.map_append, List.map_cons, List.map_nil, List.getLastD_concat, zipP_app _ _ _ (by simpa using shl)]
    walk_at "n"
    walk_at "z"
    rw [subsL_snoc_len] at hc hs
    refine loop_walk4 ks ps cs ss _ _ shl (fun t ht => wk t (by simp [ht])) (fun t ht => hk t (by simp [ht])) (by omega) (by omega) fun s4 s5 => ?_
    subst hR
    walk_at "y"
    walk_at "z"
    have l1 := callsL_len ks
    have l2 := keysL_len ks
    refine ⟨trivial, by simp, b, _, _, rfl, wk b (by simp), hk b (by simp), by rw [List.length_append]; omega, by rw [List.length_append]; omega, ?_⟩
    refine ⟨rfl, ?_⟩
    rw [callsL_snoc, keysL_snoc] at q
    rw [List.append_assoc, List.append_assoc]
    have e := zipP_app ps (ks.map Tm.d) b.d (by simpa using shl)
    simp only [List.map_append, List.map_cons, List.map_nil, e, List.getLastD_concat] at q ⊢
    exact q
end Y
namespace Y
set_option hygiene false
open PySem PySem.Spec L2
local macro_rules | `(tactic| walk_at "y") => `(tactic| dsimp only [sNil, sBk, sCt, sDrop, sIf, asg, sAsg, sRet, sRetN, tIm, tNm, tBin, w2, vw, Sl.m?, tTst, tTru, M.tru, tAndQ, tOrQ, tNotQ, tAndX, tOrX, tNotX, tIfX, lNil, lCons, tOn, fInD, fIxD, tGet1, vwD, getOr, M.isD, sPar2, tLc2X, compL2, tChn, tFrz, froz, tTp, tLs, tCl, vws, tMt, Sl.m!, Sl.up, M.res, gLen, gInt, gAdd, gSub, gMul, gDiv, gMod, gPow, gII, gI0, gEqs, gEqs2, gIx, gPop, gApp, gRev, gExt, gTuple, gList, gDict, gIs, gIsi, gAll, gIns, gSorted, gSl, M.lq?, M.lst?, M.sq?, M.dat?, M.isNon, gLt, gLe, gGt, gGe, sFor, iSeq, srcOf, iEnm, enmOf, iRg1, iRg2, bnd, setAll, backS, Sl.isP, tSlc, pNo, pSo, sSetI, hasM, setM, tDspK, tDspT, pairG, D.key?, D.keys?, D.tkey?, putAll, tNewK, tNewT, tNeg, sUnp, tCall, argMs, argM, argS, slots, putB, stepB, putS_lo_ls_ls, putS_lo_ls_dk, putS_lo_ls_dt, putS_lo_ls_no, putS_pa_ls_ls, putS_pa_ls_dk, putS_pa_ls_dt, putS_pa_ls_no, putS_lo_rd_ls, putS_lo_rd_dk, putS_lo_rd_dt, putS_lo_rd_no, putS_pa_rd_ls, putS_pa_rd_dk, putS_pa_rd_dt, putS_pa_rd_no, putS_lo_dk_ls, putS_lo_dk_dk, putS_lo_dk_dt, putS_lo_dk_no, putS_pa_dk_ls, putS_pa_dk_dk, putS_pa_dk_dt, putS_pa_dk_no, putS_lo_dt_ls, putS_lo_dt_dk, putS_lo_dt_dt, putS_lo_dt_no, putS_pa_dt_ls, putS_pa_dt_dk, putS_pa_dt_dt, putS_pa_dt_no, putS_lo_im, putS_lo_sq, putS_pa_im, putS_pa_sq, M.own, M.fit, fins, Sl.fin, envOf, tLcX, compL, wipeE, restE, keepS, qYes, kD, dGet, List.getElem?_cons_zero, List.getElem?_cons_succ, List.getElem?_nil, List.set_cons_zero, List.set_cons_succ, List.map_cons, List.map_nil, List.take_succ_cons, List.take_zero, List.length_cons, List.length_nil, List.head?_cons, List.tail_cons, Option.join_some, List.cons_append, List.nil_append, List.replicate])
local macro_rules | `(tactic| walk_at "n") => `(tactic| ((try dsimp only); refine seq_step fun R hR => ?_; walk_at "y"))
local macro_rules | `(tactic| walk_at "i") => `(tactic| simp only [Bool.false_xor, Bool.true_xor, Bool.not_true, Bool.not_false, Bool.false_eq_true, reduceIte, isiT, M.ty, String.reduceBEq, Bool.or_false, Bool.false_or, Bool.and_false, Bool.and_true, Bool.true_and, Bool.false_and, Bool.or_true, List.mem_cons, true_or, or_true, true_and, and_true, String.reduceEq, decide_true, decide_false])
local macro_rules | `(tactic| walk_at "s") => `(tactic| (subst hR; walk_at "n"))
local macro_rules | `(tactic| walk_at "z") => `(tactic| (simp only [List.map_cons, List.map_nil, atI_c0, atI_c1, atI_c2, atI_c3, atI_c4, atI_c5]; (try walk_at "y")))
local macro_rules | `(tactic| walk_at "e") => `(tactic| repeat (first | rw [if_pos (by decide +kernel)] | rw [if_neg (by decide +kernel)]))
/-! ### the program: all terms -/
def innerOf (t : Tm) : List Tm := match t.lab with
  | .fn _ => []
  | _ => t.kids
def F_inner : TF := fun ms G => ∃ t : Tm, ms = [.im t.d] ∧ t.wf ∧ t.kids.length ≤ 100000 ∧ (∀ ps, t.lab ≠ .fn ps) ∧ ∀ fin, G (.ls (t.kids.map Tm.d)) [fin]
theorem body_inner : Body F_inner 3 1 t_inner_parts := by
  rintro ms G hl ⟨t, rfl, hw, hn, nf, q⟩
  show t_inner_parts _ [Sl.pa (.im t.d), .no, .no]
  obtain ⟨l, ks⟩ := t
  have sh := hw.self
  have q := q (some (.im (Tm.d (.nd l ks))))
  have hn : ks.length ≤ 100000 := hn
  simp only [Tm.kids] at q
  rw [dN] at q ⊢
  unfold t_inner_parts
  cases l with
  | fn ps => exact absurd rfl (nf ps)
  | call sp =>
    obtain ⟨t, ts, rfl⟩ : ∃ t ts, ks = t :: ts := List.exists_cons_of_ne_nil sh
    simp only [mkD] at q ⊢
    walk_at "n"
    walk_at "z"
    subst hR
    walk_at "n"
    walk_at "i"
    walk_at "e"
    exact ⟨by rw [sizeLine_eq]; omega, by rw [List.length_map, sizeLine_eq]; have : ts.length + 1 ≤ 100000 := hn; omega, q⟩
  | cst d =>
    obtain rfl : ks = [] := sh
    simp only [mkD] at q ⊢
    walk_at "n"
    walk_at "z"
    walk_at "s"
    walk_at "i"
    walk_at "e"
    walk_at "s"
    walk_at "i"
    walk_at "e"
    walk_at "s"
    walk_at "i"
    walk_at "e"
    walk_at "s"
    walk_at "i"
    walk_at "e"
    subst hR
    walk_at "y"
    exact ⟨by rw [sizeLine_eq]; omega, q⟩
  | prim s =>
    obtain rfl : ks = [] := sh.1
    simp only [mkD] at q ⊢
    walk_at "n"
    walk_at "z"
    walk_at "s"
    walk_at "i"
    walk_at "e"
    walk_at "s"
    walk_at "i"
    walk_at "e"
    walk_at "s"
    walk_at "i"
    walk_at "e"
    walk_at "s"
    walk_at "i"
    walk_at "e"
    subst hR
    walk_at "y"
    exact ⟨by rw [sizeLine_eq]; omega, q⟩
  | top m lv k sp =>
    obtain rfl : ks = [] := sh.1
    simp only [mkD] at q ⊢
    walk_at "n"
    walk_at "z"
    walk_at "s"
    walk_at "i"
    walk_at "e"
    walk_at "s"
    walk_at "i"
    walk_at "e"
    walk_at "s"
    walk_at "i"
    walk_at "e"
    walk_at "s"
    walk_at "i"
    walk_at "e"
    subst hR
    walk_at "y"
    exact ⟨by rw [sizeLine_eq]; omega, q⟩
  | cond =>
    simp only [mkD] at q ⊢
    walk_at "n"
    walk_at "z"
    walk_at "s"
    walk_at "i"
    walk_at "e"
    subst hR
    walk_at "n"
    walk_at "i"
    walk_at "e"
    rw [show cutD (D.str (Str.ofString "if") :: List.map Tm.d ks) (some 1) none = ks.map Tm.d by have := cutD_from (D.str (Str.ofString "if") :: List.map Tm.d ks) 1; exact this]
    exact q
  | set =>
    simp only [mkD] at q ⊢
    walk_at "n"
    walk_at "z"
    walk_at "s"
    walk_at "i"
    walk_at "e"
    subst hR
    walk_at "n"
    walk_at "i"
    walk_at "e"
    rw [show cutD (D.str (Str.ofString "set") :: List.map Tm.d ks) (some 1) none = ks.map Tm.d by have := cutD_from (D.str (Str.ofString "set") :: List.map Tm.d ks) 1; exact this]
    exact q
  | seq =>
    simp only [mkD] at q ⊢
    walk_at "n"
    walk_at "z"
    walk_at "s"
    walk_at "i"
    walk_at "e"
    walk_at "s"
    walk_at "i"
    walk_at "e"
    subst hR
    walk_at "n"
    walk_at "i"
    walk_at "e"
    exact q
  | rcs ps =>
    obtain ⟨ks, b, rfl⟩ : ∃ i b, ks = i ++ [b] := ⟨ks.dropLast, ks.getLast (by intro z; rw [z] at sh; simp [shape, Tm.lab, Tm.kids] at sh), (List.dropLast_concat_getLast _).symm⟩
    have shl : ps.length = ks.length := by have : (ks ++ [b]).length = ps.length + 1 := sh; simp at this; omega
    simp only [mkD] at q ⊢
    have e := zipP_app ps (ks.map Tm.d) b.d (by simpa using shl)
    simp only [List.map_append, List.map_cons, List.map_nil, e, List.getLastD_concat] at q ⊢
    walk_at "n"
    walk_at "z"
    walk_at "s"
    walk_at "i"
    walk_at "e"
    walk_at "s"
    walk_at "i"
    walk_at "e"
    walk_at "s"
    walk_at "i"
    walk_at "e"
    subst hR
    walk_at "n"
    walk_at "i"
    walk_at "e"
    walk_at "z"
    rw [zip_zD]
    have zl := zP_len ps ks
    have hn' : ks.length ≤ 100000 := by have : (ks ++ [b]).length ≤ 100000 := hn; simp at this; omega
    refine comp_fix zD (fun p => some p.2.d) trivial (zP ps ks) [] (fun p _ acc L hacc hL => ?_) (by rw [sizeLine_eq]; simp; omega) ?_
    · unfold zD
      walk_at "y"
      rw [if_pos rfl]
      walk_at "z"
      exact ⟨hacc, hL⟩
    · rw [zP_snd ps ks shl, List.nil_append]
      walk_at "y"
      walk_at "z"
      rw [zip_zD] at q
      exact ⟨by rw [sizeLine_eq]; omega, by rw [List.length_map, sizeLine_eq]; omega, q⟩
/-- the stack of what is still to be looked at -/
def F_terms : TF := fun ms G => ∃ t : Tm, ms = [.im t.d] ∧ t.wf ∧ (Tm.subsL [t]).length ≤ 100000 ∧ ∀ (ts : List Tm) (fin : Option M), ts.Perm (Tm.subsL [t]) → G (.ls (ts.map Tm.d)) [fin]
theorem sub_wf_aux : ∀ (n : Nat) (t : Tm), t.h ≤ n → t.wf → ∀ s ∈ t.subs, s.wf := by
  intro n
  induction n with
  | zero => intro t h; cases t with | nd l ks => unfold Tm.h at h; omega
  | succ n ih =>
    intro t h hw s hs
    obtain ⟨l, ks⟩ := t
    rw [subs_eq] at hs
    rcases List.mem_cons.mp hs with rfl | hs
    · exact hw
    · have go : ∀ ks : List Tm, (∀ t ∈ ks, t.h ≤ n) → (∀ t ∈ ks, t.wf) → ∀ s ∈ Tm.subsL ks, s.wf := by
        intro ks
        induction ks with
        | nil => intro _ _ s hs; cases hs
        | cons k ks ihk =>
          intro hk wk s hs
          rw [subsL_cons] at hs
          rcases List.mem_append.mp hs with hs | hs
          · exact ih k (hk k List.mem_cons_self) (wk k List.mem_cons_self) s hs
          · exact ihk (fun t ht => hk t (List.mem_cons_of_mem _ ht)) (fun t ht => wk t (List.mem_cons_of_mem _ ht)) s hs
      exact go ks (h_node h) (fun t ht => hw.kid ht) s hs
theorem sub_wf {t s : Tm} (h : t.wf) (hs : s ∈ t.subs) : s.wf := sub_wf_aux t.h t (Nat.le_refl _) h s hs
theorem wf_all {ts : List Tm} (h : ∀ t ∈ ts, t.wf) : ∀ s ∈ Tm.subsL ts, s.wf := by
  induction ts with
  | nil => intro s hs; cases hs
  | cons t ts ih =>
    intro s hs
    rw [subsL_cons] at hs
    rcases List.mem_append.mp hs with hs | hs
    · exact sub_wf (h t List.mem_cons_self) hs
    · exact ih (fun u hu => h u (List.mem_cons_of_mem _ hu)) s hs
theorem loop_terms {P : EndP} {s0 : Sl} : ∀ (n : Nat) (fd wt : List Tm) (s3 : Sl), (∀ t ∈ wt, t.wf) → (Tm.subsL wt).length < n → fd.length + (Tm.subsL wt).length ≤ 100000 →
    (∀ (ts : List Tm) (s3 : Sl), ts.Perm (fd ++ Tm.subsL wt) → P.nx [s0, .lo (.ls (ts.map Tm.d)), .lo (.ls []), s3]) →
    whileS (tTru (tNm 2)) (b_terms_in_1 F_inner) P n [s0, .lo (.ls (fd.map Tm.d)), .lo (.ls (wt.map Tm.d)), s3] := by
  intro n
  induction n with
  | zero => intro fd wt s3 _ h; exact absurd h (Nat.not_lt_zero _)
  | succ n ih =>
    intro fd wt s3 hw hn hb q
    refine while_step fun L hL => ?_
    walk_at "y"
    by_cases he : wt = []
    · subst he
      rw [if_neg (by simp)]
      exact q fd s3 (by rw [show Tm.subsL [] = [] from rfl, List.append_nil])
    rw [if_pos (by cases wt with | nil => exact absurd rfl he | cons a t => simp)]
    obtain ⟨is, u, rfl⟩ : ∃ i u, wt = i ++ [u] := ⟨wt.dropLast, wt.getLast he, (List.dropLast_concat_getLast _).symm⟩
    obtain ⟨l, ks⟩ := u
    have uw : (Tm.nd l ks).wf := hw _ (by simp)
    have iw : ∀ t ∈ is, t.wf := fun t ht => hw t (by simp [ht])
    have el := subsL_snoc_len is (.nd l ks)
    rw [sub_len] at el
    have next : ∀ s3, L [s0, .lo (.ls ((fd ++ [Tm.nd l ks]).map Tm.d)), .lo (.ls ((is ++ ks).map Tm.d)), s3] := by
      intro s3
      rw [hL]
      have e2 : (Tm.subsL (is ++ ks)).length = (Tm.subsL is).length + (Tm.subsL ks).length := by rw [subsL_append, List.length_append]
      refine ih _ _ _ (fun t ht => ?_) (by omega) (by rw [List.length_append]; simp; omega) fun ts s3 hp => q ts s3 (hp.trans ?_)
      · rcases List.mem_append.mp ht with ht | ht
        · exact iw t ht
        · exact uw.kid ht
      · rw [subsL_append, subsL_append, subsL_one, subs_eq]
        simp only [Tm.kids, List.append_assoc, List.singleton_append]
        exact List.Perm.append_left _ List.perm_middle.symm
    clear q ih
    have lis := len_subsL is
    have lks := len_subsL ks
    unfold b_terms_in_1
    rw [List.map_append, List.map_cons, List.map_nil]
    walk_at "n"
    rw [List.getLast?_concat, List.dropLast_concat]
    refine ⟨trivial, ?_⟩
    subst hR
    walk_at "n"
    refine ⟨trivial, by rw [List.length_map, sizeLine_eq]; omega, ?_⟩
    rw [show fd.map Tm.d ++ [Tm.d (.nd l ks)] = (fd ++ [Tm.nd l ks]).map Tm.d by simp]
    subst hR
    by_cases hf : ∃ ps, l = .fn ps
    · obtain ⟨ps, rfl⟩ := hf
      obtain ⟨b, rfl⟩ := List.length_eq_one_iff.mp uw.self
      rw [show Tm.d (.nd (.fn ps) [b]) = .tup [.str "fn", .tup (ps.map D.int), b.d] from by rw [dN]; rfl]
      walk_at "y"
      walk_at "z"
      refine ⟨trivial, ?_⟩
      walk_at "i"
      walk_at "e"
      refine ⟨by rw [sizeLine_eq]; omega, by rw [List.length_map, sizeLine_eq]; omega, ?_⟩
      have := next (.lo (.im (.tup [.str "fn", .tup (ps.map D.int), b.d])))
      rw [List.map_append] at this
      simpa using this
    · have nf : ∀ ps, l ≠ .fn ps := fun ps z => hf ⟨ps, z⟩
      obtain ⟨rest, er⟩ := mkD_tag l (ks.map Tm.d)
      have ed : Tm.d (.nd l ks) = .tup (.str (tag l) :: rest) := by rw [dN, er]
      rw [ed]
      walk_at "y"
      walk_at "z"
      refine ⟨trivial, ?_⟩
      walk_at "i"
      rw [if_neg (by simpa using tag_fn nf)]
      refine ⟨by simp, .nd l ks, by rw [ed], uw, by show ks.length ≤ 100000; omega, nf, fun fin => ⟨rfl, ?_⟩⟩
      walk_at "y"
      refine ⟨by rw [List.length_map, List.length_map, sizeLine_eq]; show is.length + ks.length ≤ _; omega, ?_⟩
      have := next (.lo (.im (.tup (.str (tag l) :: rest))))
      rw [show (is ++ ks).map Tm.d = is.map Tm.d ++ ks.map Tm.d from List.map_append] at this
      exact this
theorem body_terms : Body F_terms 4 1 (t_terms_in F_inner) := by
  rintro ms G hl ⟨t, rfl, hw, hn, q⟩
  show t_terms_in _ _ [Sl.pa (.im t.d), .no, .no, .no]
  unfold t_terms_in
  walk_at "n"
  refine ⟨by rw [sizeLine_eq]; omega, ?_⟩
  subst hR
  walk_at "n"
  refine ⟨by rw [sizeLine_eq]; omega, ?_⟩
  subst hR
  walk_at "n"
  refine ⟨100001, loop_terms 100001 [] [t] _ (fun u hu => by rw [List.mem_singleton.mp hu]; exact hw) (by omega) (by simpa using hn) fun ts s3 hp => ?_⟩
  subst hR
  walk_at "y"
  exact q ts _ (by simpa using hp)
end Y
namespace Y
set_option hygiene false
open PySem PySem.Spec L2
local macro_rules | `(tactic| walk_at "y") => `(tactic| dsimp only [sNil, sBk, sCt, sDrop, sIf, asg, sAsg, sRet, sRetN, tIm, tNm, tBin, w2, vw, Sl.m?, tTst, tTru, M.tru, tAndQ, tOrQ, tNotQ, tAndX, tOrX, tNotX, tIfX, lNil, lCons, tOn, fInD, fIxD, tGet1, vwD, getOr, M.isD, sPar2, tLc2X, compL2, tChn, tFrz, froz, tTp, tLs, tCl, vws, tMt, Sl.m!, Sl.up, M.res, gLen, gInt, gAdd, gSub, gMul, gDiv, gMod, gPow, gII, gI0, gEqs, gEqs2, gIx, gPop, gApp, gRev, gExt, gTuple, gList, gDict, gIs, gIsi, gAll, gIns, gSorted, gSl, M.lq?, M.lst?, M.sq?, M.dat?, M.isNon, gLt, gLe, gGt, gGe, sFor, iSeq, srcOf, iEnm, enmOf, iRg1, iRg2, bnd, setAll, backS, Sl.isP, tSlc, pNo, pSo, sSetI, hasM, setM, tDspK, tDspT, pairG, D.key?, D.keys?, D.tkey?, putAll, tNewK, tNewT, tNeg, sUnp, tCall, argMs, argM, argS, slots, putB, stepB, putS_lo_ls_ls, putS_lo_ls_dk, putS_lo_ls_dt, putS_lo_ls_no, putS_pa_ls_ls, putS_pa_ls_dk, putS_pa_ls_dt, putS_pa_ls_no, putS_lo_rd_ls, putS_lo_rd_dk, putS_lo_rd_dt, putS_lo_rd_no, putS_pa_rd_ls, putS_pa_rd_dk, putS_pa_rd_dt, putS_pa_rd_no, putS_lo_dk_ls, putS_lo_dk_dk, putS_lo_dk_dt, putS_lo_dk_no, putS_pa_dk_ls, putS_pa_dk_dk, putS_pa_dk_dt, putS_pa_dk_no, putS_lo_dt_ls, putS_lo_dt_dk, putS_lo_dt_dt, putS_lo_dt_no, putS_pa_dt_ls, putS_pa_dt_dk, putS_pa_dt_dt, putS_pa_dt_no, putS_lo_im, putS_lo_sq, putS_pa_im, putS_pa_sq, M.own, M.fit, fins, Sl.fin, envOf, tLcX, compL, wipeE, restE, keepS, qYes, kD, dGet, List.getElem?_cons_zero, List.getElem?_cons_succ, List.getElem?_nil, List.set_cons_zero, List.set_cons_succ, List.map_cons, List.map_nil, List.take_succ_cons, List.take_zero, List.length_cons, List.length_nil, List.head?_cons, List.tail_cons, Option.join_some, List.cons_append, List.nil_append, List.replicate])
local macro_rules | `(tactic| walk_at "n") => `(tactic| ((try dsimp only); refine seq_step fun R hR => ?_; walk_at "y"))
local macro_rules | `(tactic| walk_at "i") => `(tactic| simp only [Bool.false_xor, Bool.true_xor, Bool.not_true, Bool.not_false, Bool.false_eq_true, reduceIte, isiT, M.ty, String.reduceBEq, Bool.or_false, Bool.false_or, Bool.and_false, Bool.and_true, Bool.true_and, Bool.false_and, Bool.or_true, List.mem_cons, true_or, or_true, true_and, and_true, String.reduceEq, decide_true, decide_false])
local macro_rules | `(tactic| walk_at "s") => `(tactic| (subst hR; walk_at "n"))
local macro_rules | `(tactic| walk_at "z") => `(tactic| (simp only [List.map_cons, List.map_nil, atI_c0, atI_c1, atI_c2, atI_c3, atI_c4, atI_c5]; (try walk_at "y")))
local macro_rules | `(tactic| walk_at "e") => `(tactic| repeat (first | rw [if_pos (by decide +kernel)] | rw [if_neg (by decide +kernel)]))
/-! ### the program: what is constant -/
theorem dcl_step {tup : Bool} {b : Bd} {tq : TQ} {tk tv : TX} {vs : List Nat} {gd : Env → Prop} {k : M → Env → Prop} {d : D} {ds : List D} {acc : M} {ρ : Env} (g : gd ρ)
    (h : ∀ L, L = dcL tup b tq tk tv vs gd k ds → bnd b d ρ fun ρ1 => tq ρ1 fun ok ρ2 => if ok = true then tFrz (lCons tk (lCons tv lNil)) (fun xs ρ3 => match xs with
      | [x, y] => dcAdd tup acc x y fun acc' => L acc' (wipeE ρ3 vs)
      | _ => False) ρ2
    else L acc (wipeE ρ2 vs)) : dcL tup b tq tk tv vs gd k (d :: ds) acc ρ := ⟨g, h _ rfl⟩
theorem getK_putD {κ : Type} [DecidableEq κ] (k k' : κ) (v : D) : ∀ kvs : List (κ × D), getK (putD kvs k v) k' = if k' = k then some v else getK kvs k' := by
  have find_app : ∀ kvs : List (κ × D), (kvs.any fun kv => decide (kv.1 = k)) = false → getK (kvs ++ [(k, v)]) k' = if k' = k then some v else getK kvs k' := by
    intro kvs
    induction kvs with
    | nil => intro _; unfold getK; by_cases e : k' = k <;> simp [e, eq_comm]
    | cons p r ih =>
      intro h
      rw [List.any_cons, Bool.or_eq_false_iff] at h
      have := ih h.2
      unfold getK at this ⊢
      rw [List.cons_append, List.find?_cons, List.find?_cons]
      have hp : ¬ p.1 = k := by simpa using h.1
      by_cases e : p.1 = k'
      · have : ¬ k' = k := fun z => hp (e.trans z)
        simp [e, this]
      · simp only [e, decide_false]; exact this
  have find_map : ∀ kvs : List (κ × D), (kvs.any fun kv => decide (kv.1 = k)) = true → getK (kvs.map fun kv => if kv.1 = k then (kv.1, v) else kv) k' = if k' = k then some v else getK kvs k' := by
    intro kvs
    induction kvs with
    | nil => intro h; cases h
    | cons p r ih =>
      intro h
      rw [List.map_cons]
      unfold getK at *
      rw [List.find?_cons, List.find?_cons]
      by_cases hp : p.1 = k
      · rw [if_pos hp]
        by_cases e : k' = k
        · have e2 : p.1 = k' := hp.trans e.symm
          simp [e, hp]
        · have e1 : ¬ k = k' := fun z => e z.symm
          have e2 : ¬ p.1 = k' := fun z => e1 (hp.symm.trans z)
          simp only [e2, decide_false, e, if_false]
          by_cases ha : (r.any fun kv => decide (kv.1 = k)) = true
          · have := ih ha; rw [if_neg e] at this; exact this
          · have same : (r.map fun kv => if kv.1 = k then (kv.1, v) else kv) = r := by
              have hn : ∀ kv ∈ r, ¬ kv.1 = k := fun kv hk z => ha (List.any_eq_true.mpr ⟨kv, hk, by simpa using z⟩)
              rw [show r.map (fun kv => if kv.1 = k then (kv.1, v) else kv) = r.map id from List.map_congr_left fun kv hk => by rw [if_neg (hn kv hk)]; rfl, List.map_id]
            rw [same]
      · rw [if_neg hp]
        have ha : (r.any fun kv => decide (kv.1 = k)) = true := by
          rw [List.any_cons, decide_eq_false hp, Bool.false_or] at h; exact h
        by_cases e : p.1 = k'
        · have : ¬ k' = k := fun z => hp (e.trans z)
          simp [e, this]
        · simp only [e, decide_false]; exact ih ha
  intro kvs
  unfold putD
  split
  · rename_i h; exact find_map kvs h
  · rename_i h; exact find_app kvs (Bool.eq_false_iff.mpr h)
theorem putD_len {κ : Type} [DecidableEq κ] (k : κ) (v : D) (kvs : List (κ × D)) : (putD kvs k v).length ≤ kvs.length + 1 := by
  unfold putD; split <;> simp
def keyK (q : K3) : List Key := [.inr q.1, .inl q.2.1, .inl q.2.2]
theorem keyK_inj {p q : K3} : keyK p = keyK q ↔ p = q := by
  obtain ⟨a, b, c⟩ := p
  obtain ⟨a', b', c'⟩ := q
  simp [keyK]
structure It7 where
  kind : Str
  lv : Int
  k : Int
  t : Tm
def itD (i : It7) : D := .tup [.str i.kind, .int i.lv, .int i.k, i.t.d]
def artD7 (items : List It7) : D := .tup [.str "module", .str "m", .tup [], .tup [], .tup [], .tup (items.map itD)]
/-- the keys that a dict holds -/
def HoldsK (kvs : List (List Key × D)) (S : List K3) : Prop := ∀ q : K3, (getK kvs (keyK q)).isSome = decide (q ∈ S)
theorem HoldsK.put {kvs : List (List Key × D)} {S : List K3} (h : HoldsK kvs S) (p : K3) (v : D) : HoldsK (putD kvs (keyK p) v) (S ++ [p]) := fun q => by
  rw [getK_putD]
  by_cases e : q = p
  · subst e; simp
  · rw [if_neg (fun z => e (keyK_inj.mp z)), h q]; simp [e]
theorem setOf_none {l : Lab} {ks : List Tm} (h : l ≠ .set) : setOf (.nd l ks) = none := by
  cases l <;> first | rfl | exact absurd rfl h
theorem set_comp {s0 s2 s4 s5 s6 s7 : Sl} {v : V} {all : List D} {k : M → Env → Prop} : ∀ (ts : List Tm) (kvs : List (List Key × D)) (S : List K3), (∀ t ∈ ts, shape t.lab t.kids) → HoldsK kvs S → kvs.length + ts.length ≤ 100000 →
    (∀ kvs', HoldsK kvs' (S ++ ts.filterMap setOf) → k (.dt kvs') [s0, .hd true v (.ls all), s2, .no, s4, s5, s6, s7]) →
    dcL true (.one 3) (tAndQ (tTst (tBin (gEqs2 false) (tBin gIx (tNm 3) (tIm (.int 0))) (tIm (.str "set")))) (tTst (tBin (gEqs2 false) (tBin gIx (tBin gIx (tNm 3) (tIm (.int 1))) (tIm (.int 0))) (tIm (.str "top")))))
      (tSlc (tBin gIx (tNm 3) (tIm (.int 1))) (pSo (tIm (.int 1))) (pSo (tIm (.int 4)))) (tIm (.bl true)) [3] (fun ρ => ρ[1]? = some (Sl.hd true v (.ls all))) k (ts.map Tm.d) (.dt kvs) [s0, .hd true v (.ls all), s2, .no, s4, s5, s6, s7] := by
  intro ts
  induction ts with
  | nil => intro kvs S _ h _ q; exact ⟨rfl, q kvs (by simpa using h)⟩
  | cons t ts ih =>
    intro kvs S hw h hl q
    have hl' : kvs.length + (ts.length + 1) ≤ 100000 := hl
    rw [List.map_cons]
    refine dcl_step rfl fun L hL => ?_
    obtain ⟨l, ks⟩ := t
    by_cases hs : l = .set
    · subst hs
      obtain ⟨m, lv, kk, sp, x, rfl⟩ : ∃ m lv k sp v, ks = [.nd (.top m lv k sp) [], v] := hw _ List.mem_cons_self
      rw [show Tm.d (.nd .set [.nd (.top m lv kk sp) [], x]) = .tup [.str "set", .tup [.str "top", .str m, .int lv, .int kk, spot sp], x.d] from by rw [dN]; simp only [mkD, List.map_cons, List.map_nil, dN]]
      walk_at "y"
      walk_at "z"
      walk_at "i"
      walk_at "e"
      try walk_at "y"
      try walk_at "z"
      try walk_at "i"
      try walk_at "e"
      try rw [cut14]
      show kvs.length < sizeLine ∧ L (.dt (putD kvs (keyK (m, lv, kk)) (.bl true))) _
      refine ⟨by rw [sizeLine_eq]; omega, ?_⟩
      rw [hL]
      have pl := putD_len (keyK (m, lv, kk)) (.bl true) kvs
      refine ih _ _ (fun u hu => hw u (List.mem_cons_of_mem _ hu)) (h.put (m, lv, kk) _) (by omega) fun kvs' h' => q kvs' ?_
      rw [List.append_assoc] at h'
      exact h'
    · obtain ⟨rest, er⟩ := mkD_tag l (ks.map Tm.d)
      rw [dN, er]
      walk_at "y"
      walk_at "z"
      walk_at "i"
      rw [if_neg (by simpa using tag_set hs), hL]
      refine ih kvs S (fun u hu => hw u (List.mem_cons_of_mem _ hu)) h (by omega) fun kvs' h' => q kvs' ?_
      rw [List.filterMap_cons, setOf_none hs]
      exact h'
/-- a def of a procedure: how many parameters -/
def isDef (i : It7) : Option Int := if i.kind = "def" then (match i.t with
  | .nd (.fn ps) _ => some ps.length
  | _ => none) else none
abbrev mK (lv k : Int) : K3 := (Str.ofString "m", lv, k)
def stepK (S : List K3) (f : K3 → Option Int) (i : It7) : K3 → Option Int := fun q => match isDef i with
  | some n => if mK i.lv i.k ∉ S ∧ q = mK i.lv i.k then some n else f q
  | none => f q
def knownOf (S : List K3) (items : List It7) (f : K3 → Option Int) : K3 → Option Int := items.foldl (stepK S) f
def KnD (kvs : List (List Key × D)) (f : K3 → Option Int) : Prop := ∀ q : K3, getK kvs (keyK q) = (f q).map D.int
theorem isDef_none1 {i : It7} (h : ¬ i.kind = "def") : isDef i = none := by unfold isDef; rw [if_neg h]
theorem isDef_none2 {i : It7} (h : ∀ ps ks, i.t ≠ .nd (.fn ps) ks) : isDef i = none := by
  unfold isDef
  split
  · split
    · rename_i e; exact absurd e (h _ _)
    · rfl
  · rfl
theorem loop_const {P : EndP} {s0 s1 : Sl} {art : D} {is : List (List Key × D)} {S : List K3} (hS : HoldsK is S) (ha : ∃ r, art = .tup (.str "module" :: .str "m" :: r)) (e0 : s0 = .pa (.im art)) : ∀ (items : List It7) (kvs : List (List Key × D)) (f : K3 → Option Int) (s3 s5 s6 s7 : Sl),
    (∀ i ∈ items, shape i.t.lab i.t.kids ∧ PyData.strOk i.kind = true) → KnD kvs f → kvs.length + items.length ≤ 100000 → (∀ kvs' s3 s5 s6 s7, KnD kvs' (knownOf S items f) → P.nx [s0, s1, .lo (.dt is), s3, .lo (.dt kvs'), s5, s6, s7]) →
    loopS (.many [5, 6, 7, 3]) b_constants_1 (fun _ => True) P (items.map itD) [s0, s1, .lo (.dt is), s3, .lo (.dt kvs), s5, s6, s7] := by
  subst e0
  obtain ⟨r, rfl⟩ := ha
  intro items
  induction items with
  | nil => intro kvs f s3 s5 s6 s7 _ h _ q; exact ⟨trivial, q kvs s3 s5 s6 s7 h⟩
  | cons i items ih =>
    intro kvs f s3 s5 s6 s7 hi h hl q
    have hl' : kvs.length + (items.length + 1) ≤ 100000 := hl
    obtain ⟨kind, lv, k, t⟩ := i
    obtain ⟨l, ks⟩ := t
    have sh : shape l ks := (hi _ List.mem_cons_self).1
    rw [List.map_cons]
    refine loop_step trivial fun L hL => ?_
    unfold itD b_constants_1
    have skip : isDef ⟨kind, lv, k, .nd l ks⟩ = none ∨ (∃ n, isDef ⟨kind, lv, k, .nd l ks⟩ = some n ∧ mK lv k ∈ S) → ∀ s3 s5 s6 s7, L [.pa (.im (.tup (.str "module" :: .str "m" :: r))), s1, .lo (.dt is), s3, .lo (.dt kvs), s5, s6, s7] := by
      intro hd s3 s5 s6 s7
      rw [hL]
      refine ih kvs f _ _ _ _ (fun u hu => hi u (List.mem_cons_of_mem _ hu)) h (by omega) fun kvs' s3 s5 s6 s7 h' => q kvs' s3 s5 s6 s7 ?_
      have e : stepK S f ⟨kind, lv, k, .nd l ks⟩ = f := by
        funext q
        unfold stepK
        rcases hd with hd | ⟨n, hd, hm⟩
        · rw [hd]
        · rw [hd]; simp only; rw [if_neg (fun z => z.1 hm)]
      show KnD kvs' (knownOf S items (stepK S f ⟨kind, lv, k, .nd l ks⟩))
      rw [e]; exact h'
    walk_at "y"
    refine ⟨rfl, ?_⟩
    walk_at "i"
    by_cases hk : kind = "def"
    · rw [if_pos (by simpa using hk)]
      by_cases hf : ∃ ps, l = .fn ps
      · obtain ⟨ps, rfl⟩ := hf
        obtain ⟨b, rfl⟩ := List.length_eq_one_iff.mp sh
        rw [show Tm.d (.nd (.fn ps) [b]) = .tup [.str "fn", .tup (ps.map D.int), b.d] from by rw [dN]; rfl]
        walk_at "y"
        walk_at "z"
        walk_at "i"
        walk_at "e"
        try walk_at "y"
        try walk_at "z"
        refine ⟨by rw [sizeLine_eq]; omega, ?_⟩
        have hq := hS (mK lv k)
        have ek : [Sum.inr (Str.ofString "m"), Sum.inl lv, Sum.inl k] = keyK (mK lv k) := rfl
        have isd : isDef ⟨kind, lv, k, .nd (.fn ps) [b]⟩ = some (ps.length : Int) := by unfold isDef; rw [if_pos hk]
        rw [ek]
        by_cases hm : mK lv k ∈ S
        · rw [if_neg (by rw [hq, decide_eq_true hm]; decide)]
          exact skip (.inr ⟨_, isd, hm⟩) _ _ _ _
        · rw [if_pos (by rw [hq, decide_eq_false hm]; rfl)]
          refine ⟨by rw [sizeLine_eq]; omega, by rw [sizeLine_eq]; omega, ?_⟩
          have pl := putD_len (keyK (mK lv k)) (.int ↑(List.map D.int ps).length) kvs
          rw [hL]
          refine ih _ (stepK S f ⟨kind, lv, k, .nd (.fn ps) [b]⟩) _ _ _ _ (fun u hu => hi u (List.mem_cons_of_mem _ hu)) (fun q => ?_) (by omega) fun kvs' s3 s5 s6 s7 h' => q kvs' s3 s5 s6 s7 h'
          rw [getK_putD]
          unfold stepK
          rw [isd]
          simp only
          by_cases e : q = mK lv k
          · rw [if_pos (by rw [e]), if_pos ⟨hm, e⟩, List.length_map]; rfl
          · rw [if_neg (fun z => e (keyK_inj.mp z)), if_neg (fun z => e z.2)]; exact h q
      · have nf : ∀ ps, l ≠ .fn ps := fun ps z => hf ⟨ps, z⟩
        obtain ⟨rest, er⟩ := mkD_tag l (ks.map Tm.d)
        rw [dN, er]
        try walk_at "y"
        try walk_at "z"
        try walk_at "i"
        rw [if_neg (by simpa using tag_fn nf)]
        exact skip (.inl (isDef_none2 fun ps ks' z => by cases z; exact nf _ rfl)) _ _ _ _
    · rw [if_neg (by simpa using hk)]
      exact skip (.inl (isDef_none1 hk)) _ _ _ _
def F_const : TF := fun ms G => ∃ (items : List It7) (ts : List Tm), ms = [.im (artD7 items), .ls (ts.map Tm.d)] ∧ (∀ i ∈ items, shape i.t.lab i.t.kids ∧ PyData.strOk i.kind = true) ∧ (∀ t ∈ ts, shape t.lab t.kids) ∧ items.length ≤ 1000 ∧ ts.length ≤ 100000 ∧
  ∀ (kvs : List (List Key × D)), KnD kvs (knownOf (ts.filterMap setOf) items fun _ => none) → G (.dt kvs) [some (.im (artD7 items)), some (.ls (ts.map Tm.d))]
theorem body_const : Body F_const 8 2 t_constants := by
  rintro ms G hl ⟨items, ts, rfl, hi, ht, il, tl, q⟩
  show t_constants _ [Sl.pa (.im (artD7 items)), Sl.pa (.ls (ts.map Tm.d)), .no, .no, .no, .no, .no, .no]
  unfold t_constants
  refine seq_step fun R hR => ?_
  walk_at "y"
  unfold tDc
  walk_at "y"
  refine ⟨rfl, fun v => ?_⟩
  refine set_comp ts [] [] ht (fun q => by rfl) (by simpa using tl) fun is hS => ?_
  walk_at "y"
  subst hR
  walk_at "n"
  subst hR
  walk_at "n"
  unfold artD7
  walk_at "z"
  refine loop_const (by simpa using hS) ⟨_, rfl⟩ rfl items [] (fun _ => none) _ _ _ _ hi (fun q => rfl) (by simp; omega) fun kvs s3 s5 s6 s7 hk => ?_
  subst hR
  walk_at "y"
  exact q kvs hk
/-! ### how many are wanted -/
def primN (s : Str) : Option Int := if s = "list" then none else if s ∈ (["+", "cons", "same?", "wrap"] : List Str) then some 2 else some 1
def optD : Option Int → D
  | some n => .int n
  | none => .non
def want (f : K3 → Option Int) : Tm → Option Int
  | .nd (.fn ps) _ => some ps.length
  | .nd (.prim s) _ => primN s
  | .nd (.top m lv k _) _ => f (m, lv, k)
  | _ => none
def F_wanted : TF := fun ms G => ∃ (h : Tm) (kvs : List (List Key × D)) (f : K3 → Option Int), ms = [.im h.d, .dt kvs] ∧ shape h.lab h.kids ∧ KnD kvs f ∧ G (.im (optD (want f h))) [some (.im h.d), some (.dt kvs)]
theorem prims_all (P : Str → Prop) (h : P "list" ∧ P "+" ∧ P "not" ∧ P "first" ∧ P "cons" ∧ P "same?" ∧ P "parts" ∧ P "fresh" ∧ P "wrap") : ∀ s ∈ PRIMS, P s := by
  intro s hs
  simp only [PRIMS, List.mem_cons, List.not_mem_nil, or_false] at hs
  obtain ⟨h1, h2, h3, h4, h5, h6, h7, h8, h9⟩ := h
  rcases hs with rfl | rfl | rfl | rfl | rfl | rfl | rfl | rfl | rfl <;> assumption
theorem prim_tab : ∀ s ∈ PRIMS, (∃ x : Str, tabGet tab_ARGUMENTS s = some (.str x) ∧ x.length ≤ 10 ∧ optD (primN s) = .int x.length) ∨ (tabGet tab_ARGUMENTS s = none ∧ optD (primN s) = .non) := by
  refine prims_all _ ⟨.inr ⟨rfl, rfl⟩, .inl ⟨_, rfl, by decide, rfl⟩, .inl ⟨_, rfl, by decide, rfl⟩, .inl ⟨_, rfl, by decide, rfl⟩, .inl ⟨_, rfl, by decide, rfl⟩, .inl ⟨_, rfl, by decide, rfl⟩, .inl ⟨_, rfl, by decide, rfl⟩, .inl ⟨_, rfl, by decide, rfl⟩, .inl ⟨_, rfl, by decide, rfl⟩⟩
theorem body_wanted : Body F_wanted 2 2 t_wanted := by
  rintro ms G hl ⟨h, kvs, f, rfl, sh, hk, q⟩
  show t_wanted _ [Sl.pa (.im h.d), Sl.pa (.dt kvs)]
  unfold t_wanted
  obtain ⟨l, ks⟩ := h
  rw [dN] at q ⊢
  by_cases hf : ∃ ps, l = .fn ps
  · obtain ⟨ps, rfl⟩ := hf
    obtain ⟨b, rfl⟩ := List.length_eq_one_iff.mp sh
    simp only [mkD] at q ⊢
    walk_at "n"
    walk_at "z"
    walk_at "i"
    walk_at "e"
    try walk_at "z"
    rw [List.length_map]
    exact q
  have nf : ∀ ps, l ≠ .fn ps := fun ps z => hf ⟨ps, z⟩
  by_cases hp : ∃ s, l = .prim s
  · obtain ⟨s, rfl⟩ := hp
    obtain ⟨rfl, hs⟩ := sh
    simp only [mkD] at q ⊢
    walk_at "n"
    walk_at "z"
    walk_at "i"
    walk_at "e"
    subst hR
    walk_at "n"
    walk_at "z"
    walk_at "i"
    walk_at "e"
    have q : G (.im (optD (primN s))) _ := q
    rcases prim_tab s hs with ⟨x, e1, e2, e3⟩ | ⟨e1, e2⟩
    · rw [e1, if_pos (by rfl)]
      rw [e3] at q
      exact ⟨by rw [sizeLine_eq]; omega, q⟩
    · rw [e1, if_neg (by simp)]
      rw [e2] at q
      exact q
  have np : ∀ s, l ≠ .prim s := fun s z => hp ⟨s, z⟩
  by_cases ht : ∃ m lv k sp, l = .top m lv k sp
  · obtain ⟨m, lv, k, sp, rfl⟩ := ht
    simp only [mkD] at q ⊢
    walk_at "n"
    walk_at "z"
    walk_at "i"
    walk_at "e"
    subst hR
    walk_at "n"
    walk_at "z"
    walk_at "i"
    walk_at "e"
    subst hR
    walk_at "y"
    walk_at "z"
    walk_at "i"
    walk_at "e"
    rw [cut14]
    have q : G (.im (optD (f (m, lv, k)))) _ := q
    show match some (getK kvs (keyK (m, lv, k))) with
      | some (some y) => G (.im y) _
      | some none => G (.im .non) _
      | none => False
    rw [hk (m, lv, k)]
    cases e : f (m, lv, k) with
    | none => rw [e] at q; exact q
    | some n => rw [e] at q; exact q
  have nt : ∀ m lv k sp, l ≠ .top m lv k sp := fun m lv k sp z => ht ⟨m, lv, k, sp, z⟩
  have wn : want f (.nd l ks) = none := by
    cases l with
    | fn ps => exact absurd rfl (nf ps)
    | prim ps => exact absurd rfl (np ps)
    | top m lv k sp => exact absurd rfl (nt m lv k sp)
    | _ => rfl
  rw [wn] at q
  obtain ⟨rest, er⟩ := mkD_tag l (ks.map Tm.d)
  rw [er] at q ⊢
  walk_at "n"
  walk_at "z"
  walk_at "i"
  rw [if_neg (by simpa using tag_fn nf)]
  subst hR
  walk_at "n"
  walk_at "z"
  walk_at "i"
  rw [if_neg (by simpa using tag_prim np)]
  subst hR
  walk_at "y"
  walk_at "z"
  walk_at "i"
  rw [if_neg (by simpa using tag_top nt)]
  exact q
end Y
namespace Y
set_option hygiene false
open PySem PySem.Spec L2
local macro_rules | `(tactic| walk_at "y") => `(tactic| dsimp only [sNil, sBk, sCt, sDrop, sIf, asg, sAsg, sRet, sRetN, tIm, tNm, tBin, w2, vw, Sl.m?, tTst, tTru, M.tru, tAndQ, tOrQ, tNotQ, tAndX, tOrX, tNotX, tIfX, lNil, lCons, tOn, fInD, fIxD, tGet1, vwD, getOr, M.isD, sPar2, tLc2X, compL2, tChn, tFrz, froz, tTp, tLs, tCl, vws, tMt, Sl.m!, Sl.up, M.res, gLen, gInt, gAdd, gSub, gMul, gDiv, gMod, gPow, gII, gI0, gEqs, gEqs2, gIx, gPop, gApp, gRev, gExt, gTuple, gList, gDict, gIs, gIsi, gAll, gIns, gSorted, gSl, M.lq?, M.lst?, M.sq?, M.dat?, M.isNon, gLt, gLe, gGt, gGe, sFor, iSeq, srcOf, iEnm, enmOf, iRg1, iRg2, bnd, setAll, backS, Sl.isP, tSlc, pNo, pSo, sSetI, hasM, setM, tDspK, tDspT, pairG, D.key?, D.keys?, D.tkey?, putAll, tNewK, tNewT, tNeg, sUnp, tCall, argMs, argM, argS, slots, putB, stepB, putS_lo_ls_ls, putS_lo_ls_dk, putS_lo_ls_dt, putS_lo_ls_no, putS_pa_ls_ls, putS_pa_ls_dk, putS_pa_ls_dt, putS_pa_ls_no, putS_lo_rd_ls, putS_lo_rd_dk, putS_lo_rd_dt, putS_lo_rd_no, putS_pa_rd_ls, putS_pa_rd_dk, putS_pa_rd_dt, putS_pa_rd_no, putS_lo_dk_ls, putS_lo_dk_dk, putS_lo_dk_dt, putS_lo_dk_no, putS_pa_dk_ls, putS_pa_dk_dk, putS_pa_dk_dt, putS_pa_dk_no, putS_lo_dt_ls, putS_lo_dt_dk, putS_lo_dt_dt, putS_lo_dt_no, putS_pa_dt_ls, putS_pa_dt_dk, putS_pa_dt_dt, putS_pa_dt_no, putS_lo_im, putS_lo_sq, putS_pa_im, putS_pa_sq, M.own, M.fit, fins, Sl.fin, envOf, tLcX, compL, wipeE, restE, keepS, qYes, kD, dGet, List.getElem?_cons_zero, List.getElem?_cons_succ, List.getElem?_nil, List.set_cons_zero, List.set_cons_succ, List.map_cons, List.map_nil, List.take_succ_cons, List.take_zero, List.length_cons, List.length_nil, List.head?_cons, List.tail_cons, Option.join_some, List.cons_append, List.nil_append, List.replicate])
local macro_rules | `(tactic| walk_at "n") => `(tactic| ((try dsimp only); refine seq_step fun R hR => ?_; walk_at "y"))
local macro_rules | `(tactic| walk_at "i") => `(tactic| simp only [Bool.false_xor, Bool.true_xor, Bool.not_true, Bool.not_false, Bool.false_eq_true, reduceIte, isiT, M.ty, String.reduceBEq, Bool.or_false, Bool.false_or, Bool.and_false, Bool.and_true, Bool.true_and, Bool.false_and, Bool.or_true, List.mem_cons, true_or, or_true, true_and, and_true, String.reduceEq, decide_true, decide_false])
local macro_rules | `(tactic| walk_at "s") => `(tactic| (subst hR; walk_at "n"))
local macro_rules | `(tactic| walk_at "z") => `(tactic| (simp only [List.map_cons, List.map_nil, atI_c0, atI_c1, atI_c2, atI_c3, atI_c4, atI_c5]; (try walk_at "y")))
local macro_rules | `(tactic| walk_at "e") => `(tactic| repeat (first | rw [if_pos (by decide +kernel)] | rw [if_neg (by decide +kernel)]))
/-! ### the program: all miscounts -/
theorem compL2_step {b : Bd} {tq : TQ} {ti1 : TSrc} {b1 : Bd} {tq1 : TQ} {te : TX} {vs vs1 : List Nat} {gd : Env → Prop} {k : List D → Env → Prop} {d : D} {ds acc : List D} {ρ : Env} (g : gd ρ)
    (h : ∀ L, L = compL2 b tq ti1 b1 tq1 te vs vs1 gd k ds → bnd b d ρ fun ρ1 => tq ρ1 fun ok ρ2 => if ok = true then ti1 ρ2 fun src ρ3 => match src with
      | .fx ds1 => compL b1 tq1 te vs1 (fun _ => True) (fun acc' ρ4 => L acc' (wipeE ρ4 vs)) ds1 acc (wipeE ρ3 vs1)
      | _ => False
    else L acc (wipeE ρ2 vs)) : compL2 b tq ti1 b1 tq1 te vs vs1 gd k (d :: ds) acc ρ := ⟨g, h _ rfl⟩
def bad (f : K3 → Option Int) : Tm → Bool
  | .nd (.call _) (h :: as) => (match want f h with
    | some n => decide (n ≠ (as.length : Int))
    | none => false)
  | _ => false
theorem bad_at (f : K3 → Option Int) (sp : Int) (h : Tm) (as : List Tm) : bad f (.nd (.call sp) (h :: as)) = (match want f h with
    | some n => decide (n ≠ (as.length : Int))
    | none => false) := rfl
def sN (n : Int) : Node := (Str.ofString "m", n)
def badSp (f : K3 → Option Int) (ts : List Tm) : List Int := (ts.filter (bad f)).filterMap callSp
theorem bad_call {f : K3 → Option Int} {l : Lab} {ks : List Tm} (h : ∀ sp, l ≠ .call sp) : bad f (.nd l ks) = false := by
  cases l with
  | call sp => exact absurd rfl (h sp)
  | _ => rfl
theorem badSp_sub (f : K3 → Option Int) (ts : List Tm) : (badSp f ts).Sublist (spots ts) := List.Sublist.filterMap _ List.filter_sublist
theorem id_comp {s0 s2 s4 s5 : Sl} {k : List D → Env → Prop} : ∀ (ts : List Tm) (acc : List D), acc.length + ts.length ≤ 100000 → k (acc ++ ts.map Tm.d) [s0, .no, s2, .no, s4, s5] →
    compL (.one 3) qYes (tNm 3) [3] (fun _ => True) k (ts.map Tm.d) acc [s0, .no, s2, .no, s4, s5] := by
  intro ts
  induction ts with
  | nil => intro acc _ q; exact ⟨trivial, by simpa using q⟩
  | cons t ts ih =>
    intro acc h q
    have h' : acc.length + (ts.length + 1) ≤ 100000 := h
    rw [List.map_cons]
    refine comp_step trivial fun L hL => ?_
    walk_at "y"
    rw [if_pos rfl]
    refine ⟨by rw [sizeLine_eq]; omega, ?_⟩
    rw [hL]
    exact ih _ (by rw [List.length_append]; simp; omega) (by rw [List.append_assoc]; exact q)
theorem items_comp {s0 s4 s5 : Sl} {k : List D → Env → Prop} : ∀ (items : List It7) (acc : List Tm), (∀ i ∈ items, i.t.wf) → acc.length + (Tm.subsL (items.map It7.t)).length ≤ 100000 →
    (∀ ts : List Tm, ts.Perm (acc ++ Tm.subsL (items.map It7.t)) → k (ts.map Tm.d) [s0, .no, .no, .no, s4, s5]) →
    compL2 (.one 2) qYes (iSeq (tCall F_terms 1 (lCons (tBin gIx (tNm 2) (tIm (.int 3))) lNil))) (.one 3) qYes (tNm 3) [2, 3] [3] (fun _ => True) k (items.map itD) (acc.map Tm.d) [s0, .no, .no, .no, s4, s5] := by
  intro items
  induction items with
  | nil => intro acc _ _ q; exact ⟨trivial, q acc (by rw [List.map_nil, show Tm.subsL [] = [] from rfl, List.append_nil])⟩
  | cons i items ih =>
    intro acc hw hl q
    rw [List.map_cons, subsL_cons_len] at hl
    rw [List.map_cons]
    refine compL2_step trivial fun L hL => ?_
    unfold itD
    walk_at "y"
    rw [if_pos rfl]
    walk_at "z"
    refine ⟨trivial, by simp, i.t, rfl, hw i List.mem_cons_self, by omega, fun ts fin hp => ⟨rfl, ?_⟩⟩
    walk_at "y"
    have pl := hp.length_eq
    refine id_comp ts _ (by rw [List.length_map]; omega) ?_
    walk_at "y"
    rw [hL, ← List.map_append]
    refine ih (acc ++ ts) (fun u hu => hw u (List.mem_cons_of_mem _ hu)) (by rw [List.length_append]; omega) fun us hu => q us ?_
    rw [List.map_cons, subsL_cons, ← subsL_one]
    refine hu.trans ?_
    rw [List.append_assoc]
    exact List.Perm.append_left _ (hp.append_right _)
theorem eqv_non (n : Int) : D.eqv .non (.int n) = false := rfl
theorem eqv_int (a b : Int) : D.eqv (.int a) (.int b) = decide (a = b) := by simp [D.eqv, D.py, PyData.eqv]; rw [Bool.eq_iff_iff]; simp
theorem loop_mis {P : EndP} {s0 s2 : Sl} {kvs : List (List Key × D)} {f : K3 → Option Int} (hk : KnD kvs f) {v : V} {all : List D} : ∀ (ts : List Tm) (S : List Int) (s3 : Sl), (∀ t ∈ ts, t.wf) → (S ++ spots ts).Nodup → S.length + ts.length ≤ 100000 → (∀ t ∈ ts, t.kids.length ≤ 100000) →
    (∀ s3, P.nx [s0, .hd false v (.ls all), s2, s3, .lo (.dt kvs), .lo (.dt (fndD ((S ++ badSp f ts).map sN)))]) →
    loopS (.one 3) (b_miscounts_1 F_terms F_const F_wanted) (fun ρ => ρ[1]? = some (.hd false v (.ls all))) P (ts.map Tm.d) [s0, .hd false v (.ls all), s2, s3, .lo (.dt kvs), .lo (.dt (fndD (S.map sN)))] := by
  intro ts
  induction ts with
  | nil => intro S s3 _ _ _ _ q; exact ⟨rfl, by have := q s3; simpa [badSp] using this⟩
  | cons t ts ih =>
    intro S s3 hw hn hl hkl q
    have hl' : S.length + (ts.length + 1) ≤ 100000 := hl
    rw [List.map_cons]
    refine loop_step rfl fun L hL => ?_
    obtain ⟨l, ks⟩ := t
    have sh : shape l ks := (hw _ List.mem_cons_self).self
    have skip : bad f (.nd l ks) = false → ∀ s3, L [s0, .hd false v (.ls all), s2, s3, .lo (.dt kvs), .lo (.dt (fndD (S.map sN)))] := by
      intro hb s3
      rw [hL]
      refine ih S s3 (fun u hu => hw u (List.mem_cons_of_mem _ hu)) ?_ (by omega) (fun u hu => hkl u (List.mem_cons_of_mem _ hu)) fun s3 => ?_
      · refine hn.sublist (List.Sublist.append_left ?_ _)
        exact List.Sublist.filterMap _ (List.sublist_cons_self _ _)
      · have := q s3
        unfold badSp at this ⊢
        rw [List.filter_cons, if_neg (by rw [hb]; decide)] at this
        exact this
    unfold b_miscounts_1
    by_cases hc : ∃ sp, l = .call sp
    · obtain ⟨sp, rfl⟩ := hc
      obtain ⟨h, as, rfl⟩ : ∃ t ts, ks = t :: ts := List.exists_cons_of_ne_nil sh
      have hh : h.wf := (hw _ List.mem_cons_self).kid List.mem_cons_self
      have hlen : (h :: as).length ≤ 100000 := hkl _ List.mem_cons_self
      have hlen : as.length + 1 ≤ 100000 := hlen
      rw [dN]
      simp only [mkD, List.map_cons, List.headD_cons, List.tail_cons]
      walk_at "y"
      walk_at "z"
      walk_at "i"
      walk_at "e"
      try walk_at "y"
      try walk_at "z"
      refine ⟨by simp, h, kvs, f, rfl, hh.self, hk, ?_⟩
      walk_at "y"
      refine ⟨rfl, ?_⟩
      rw [atI_c2]
      have okw : ∀ o : Option Int, D.ok 64 (optD o) = true := fun o => by cases o <;> rfl
      refine ⟨by rw [sizeLine_eq]; omega, okw _, rfl, ?_⟩
      cases e : want f h with
      | none =>
        rw [if_neg (by simp only [optD, List.any_cons, show D.eqv .non .non = true from rfl, Bool.true_or]; decide)]
        exact skip (by rw [bad_at, e]) _
      | some n =>
        by_cases hq : n = (as.length : Int)
        · subst hq
          rw [if_neg (by simp only [optD, List.any_cons, eqv_non, eqv_int, List.length_map, decide_true, Bool.true_or, Bool.or_true]; decide)]
          exact skip (by rw [bad_at, e]; simp) _
        · have hb : bad f (.nd (.call sp) (h :: as)) = true := by rw [bad_at, e]; simpa using hq
          rw [if_pos (by simp only [optD, List.any_cons, List.any_nil, eqv_non, eqv_int, List.length_map, decide_eq_false (fun z => hq z.symm : ¬ (as.length : Int) = n), Bool.or_false]; rfl)]
          rw [atI_c3]
          refine ⟨trivial, ?_⟩
          show (fndD (S.map sN)).length < sizeLine ∧ L [_, _, _, _, _, .lo (.dt (putD (fndD (S.map sN)) (nK (sN sp)) (.bl true)))]
          refine ⟨by unfold fndD; rw [List.length_map, List.length_map, sizeLine_eq]; omega, ?_⟩
          have esp : spots (Tm.nd (.call sp) (h :: as) :: ts) = sp :: spots ts := rfl
          rw [esp] at hn
          have nm : sN sp ∉ S.map sN := by
            intro z
            obtain ⟨x, hx, ex⟩ := List.mem_map.mp z
            have : x = sp := by injection ex
            subst this
            exact (List.nodup_append.mp hn).2.2 x hx x List.mem_cons_self rfl
          rw [putD_fnd nm, hL, show S.map sN ++ [sN sp] = (S ++ [sp]).map sN by simp]
          refine ih _ _ (fun u hu => hw u (List.mem_cons_of_mem _ hu)) (by rw [List.append_assoc]; exact hn) (by rw [List.length_append]; simp; omega) (fun u hu => hkl u (List.mem_cons_of_mem _ hu)) fun s3 => ?_
          have := q s3
          unfold badSp at this ⊢
          rw [List.filter_cons, if_pos hb, List.filterMap_cons] at this
          rw [List.append_assoc]
          exact this
    · have nc : ∀ sp, l ≠ .call sp := fun sp z => hc ⟨sp, z⟩
      obtain ⟨rest, er⟩ := mkD_tag l (ks.map Tm.d)
      rw [dN, er]
      walk_at "y"
      walk_at "z"
      walk_at "i"
      rw [if_neg (by simpa using tag_call nc)]
      exact skip (bad_call nc) _
theorem kids_sub {t : Tm} {ts : List Tm} (h : t ∈ Tm.subsL ts) : t.kids.length ≤ (Tm.subsL ts).length := by
  have go : ∀ (n : Nat) (ts : List Tm), (∀ t ∈ ts, t.h ≤ n) → ∀ t ∈ Tm.subsL ts, t.kids.length ≤ (Tm.subsL ts).length := by
    intro n
    induction n with
    | zero => intro ts hh; cases ts with
      | nil => intro t h; cases h
      | cons u us => have := hh u List.mem_cons_self; cases u with | nd l ks => unfold Tm.h at this; omega
    | succ n ih =>
      intro ts
      induction ts with
      | nil => intro _ t h; cases h
      | cons u us ihu =>
        intro hh t ht
        obtain ⟨l, ks⟩ := u
        rw [subsL_cons, List.length_append]
        rw [subsL_cons] at ht
        rcases List.mem_append.mp ht with ht | ht
        · rw [subs_eq] at ht ⊢
          rw [List.length_cons]
          rcases List.mem_cons.mp ht with rfl | ht
          · have := len_subsL ks
            show ks.length ≤ _
            have e : (Tm.subsL (Tm.nd l ks).kids).length = (Tm.subsL ks).length := rfl
            omega
          · have := ih ks (h_node (hh _ List.mem_cons_self)) t ht
            have e : (Tm.subsL (Tm.nd l ks).kids).length = (Tm.subsL ks).length := rfl
            omega
        · have := ihu (fun v hv => hh v (List.mem_cons_of_mem _ hv)) t ht
          omega
  exact go (Tm.hL ts) ts (le_hL (Nat.le_refl _)) t h
def allT (items : List It7) : List Tm := Tm.subsL (items.map It7.t)
def theKn (items : List It7) : K3 → Option Int := knownOf ((allT items).filterMap setOf) items fun _ => none
theorem knownOf_congr {S S' : List K3} (h : ∀ q, q ∈ S ↔ q ∈ S') : ∀ (items : List It7) (f : K3 → Option Int), knownOf S items f = knownOf S' items f := by
  have e : stepK S = stepK S' := by
    funext f i q
    unfold stepK
    split
    · rename_i n _
      by_cases hm : mK i.lv i.k ∈ S
      · rw [if_neg (fun z => z.1 hm), if_neg (fun z => z.1 ((h _).mp hm))]
      · have hm' : mK i.lv i.k ∉ S' := fun z => hm ((h _).mpr z)
        by_cases hq : q = mK i.lv i.k
        · rw [if_pos ⟨hm, hq⟩, if_pos ⟨hm', hq⟩]
        · rw [if_neg (fun z => hq z.2), if_neg (fun z => hq z.2)]
    · rfl
  intro items f
  unfold knownOf
  rw [e]
/-- the places found, in some order -/
def F_mis : TF := fun ms G => ∃ items : List It7, ms = [.im (artD7 items)] ∧ (∀ i ∈ items, i.t.wf ∧ PyData.strOk i.kind = true) ∧ items.length ≤ 1000 ∧ (allT items).length ≤ 100000 ∧ (spots (allT items)).Nodup ∧
  ∀ (S : List Int), S.Perm (badSp (theKn items) (allT items)) → ∀ fin, G (.ls (sortD ((S.map sN).map nD))) fin
theorem body_mis : Body F_mis 6 1 (t_miscounts F_terms F_const F_wanted) := by
  rintro ms G hl ⟨items, rfl, hi, il, al, nd, q⟩
  show t_miscounts _ _ _ _ [Sl.pa (.im (artD7 items)), .no, .no, .no, .no, .no]
  unfold t_miscounts artD7
  refine seq_step fun R hR => ?_
  walk_at "y"
  walk_at "z"
  have wall : ∀ t ∈ allT items, t.wf := wf_all fun t ht => by obtain ⟨i, h1, rfl⟩ := List.mem_map.mp ht; exact (hi i h1).1
  refine items_comp items [] (fun i h => (hi i h).1) (by have := al; unfold allT at this; simpa using this) fun ts hp => ?_
  have hp : ts.Perm (allT items) := by simpa [allT] using hp
  have tl : ts.length ≤ 100000 := by rw [hp.length_eq]; exact al
  have wt : ∀ t ∈ ts, t.wf := fun t ht => wall t (hp.mem_iff.mp ht)
  walk_at "y"
  subst hR
  walk_at "n"
  refine ⟨rfl, by simp, items, ts, rfl, fun i h => ⟨(hi i h).1.self, (hi i h).2⟩, fun t h => (wt t h).self, il, tl, fun kvs hk => ⟨rfl, ?_⟩⟩
  walk_at "y"
  rw [show knownOf (ts.filterMap setOf) items (fun _ => none) = theKn items from knownOf_congr (fun q => (hp.filterMap setOf).mem_iff) _ _] at hk
  subst hR
  walk_at "n"
  subst hR
  walk_at "n"
  refine ⟨rfl, fun v => ?_⟩
  have nd' : (spots ts).Nodup := (hp.filterMap callSp).symm.nodup nd
  refine loop_mis hk ts [] _ wt (by simpa using nd') (by simpa using tl) (fun t ht => Nat.le_trans (kids_sub (hp.mem_iff.mp ht)) al) fun s3 => ?_
  subst hR
  walk_at "y"
  have el : ∀ L : List Node, (fndD L).map (fun p => D.tup (p.1.map kD)) = L.map nD := fun L => by unfold fndD; rw [List.map_map]; rfl
  rw [el]
  refine ⟨rfl, canSort_nodes fun a ha => ?_, ?_⟩
  · obtain ⟨x, _, rfl⟩ := List.mem_map.mp ha
    show PyData.strOk (Str.ofString "m") = true
    decide +kernel
  · refine q _ ?_ _
    exact (hp.filter _).filterMap _
end Y
namespace Y
set_option hygiene false
open PySem PySem.Spec L2
local macro_rules | `(tactic| walk_at "y") => `(tactic| dsimp only [sNil, sBk, sCt, sDrop, sIf, asg, sAsg, sRet, sRetN, tIm, tNm, tBin, w2, vw, Sl.m?, tTst, tTru, M.tru, tAndQ, tOrQ, tNotQ, tAndX, tOrX, tNotX, tIfX, lNil, lCons, tOn, fInD, fIxD, tGet1, vwD, getOr, M.isD, sPar2, tLc2X, compL2, tChn, tFrz, froz, tTp, tLs, tCl, vws, tMt, Sl.m!, Sl.up, M.res, gLen, gInt, gAdd, gSub, gMul, gDiv, gMod, gPow, gII, gI0, gEqs, gEqs2, gIx, gPop, gApp, gRev, gExt, gTuple, gList, gDict, gIs, gIsi, gAll, gIns, gSorted, gSl, M.lq?, M.lst?, M.sq?, M.dat?, M.isNon, gLt, gLe, gGt, gGe, sFor, iSeq, srcOf, iEnm, enmOf, iRg1, iRg2, bnd, setAll, backS, Sl.isP, tSlc, pNo, pSo, sSetI, hasM, setM, tDspK, tDspT, pairG, D.key?, D.keys?, D.tkey?, putAll, tNewK, tNewT, tNeg, sUnp, tCall, argMs, argM, argS, slots, putB, stepB, putS_lo_ls_ls, putS_lo_ls_dk, putS_lo_ls_dt, putS_lo_ls_no, putS_pa_ls_ls, putS_pa_ls_dk, putS_pa_ls_dt, putS_pa_ls_no, putS_lo_rd_ls, putS_lo_rd_dk, putS_lo_rd_dt, putS_lo_rd_no, putS_pa_rd_ls, putS_pa_rd_dk, putS_pa_rd_dt, putS_pa_rd_no, putS_lo_dk_ls, putS_lo_dk_dk, putS_lo_dk_dt, putS_lo_dk_no, putS_pa_dk_ls, putS_pa_dk_dk, putS_pa_dk_dt, putS_pa_dk_no, putS_lo_dt_ls, putS_lo_dt_dk, putS_lo_dt_dt, putS_lo_dt_no, putS_pa_dt_ls, putS_pa_dt_dk, putS_pa_dt_dt, putS_pa_dt_no, putS_lo_im, putS_lo_sq, putS_pa_im, putS_pa_sq, M.own, M.fit, fins, Sl.fin, envOf, tLcX, compL, wipeE, restE, keepS, qYes, kD, dGet, List.getElem?_cons_zero, List.getElem?_cons_succ, List.getElem?_nil, List.set_cons_zero, List.set_cons_succ, List.map_cons, List.map_nil, List.take_succ_cons, List.take_zero, List.length_cons, List.length_nil, List.head?_cons, List.tail_cons, Option.join_some, List.cons_append, List.nil_append, List.replicate])
local macro_rules | `(tactic| walk_at "n") => `(tactic| ((try dsimp only); refine seq_step fun R hR => ?_; walk_at "y"))
local macro_rules | `(tactic| walk_at "i") => `(tactic| simp only [Bool.false_xor, Bool.true_xor, Bool.not_true, Bool.not_false, Bool.false_eq_true, reduceIte, isiT, M.ty, String.reduceBEq, Bool.or_false, Bool.false_or, Bool.and_false, Bool.and_true, Bool.true_and, Bool.false_and, Bool.or_true, List.mem_cons, true_or, or_true, true_and, and_true, String.reduceEq, decide_true, decide_false])
local macro_rules | `(tactic| walk_at "s") => `(tactic| (subst hR; walk_at "n"))
local macro_rules | `(tactic| walk_at "z") => `(tactic| (simp only [List.map_cons, List.map_nil, atI_c0, atI_c1, atI_c2, atI_c3, atI_c4, atI_c5]; (try walk_at "y")))
local macro_rules | `(tactic| walk_at "e") => `(tactic| repeat (first | rw [if_pos (by decide +kernel)] | rw [if_neg (by decide +kernel)]))
/-! ### the law -/
theorem eqv_str' (a b : Str) : D.eqv (.str a) (.str b) = decide (a = b) := by simp [D.eqv, D.py, PyData.eqv]; rw [Bool.eq_iff_iff]; simp
def F_many : TF := fun ms G => ∃ s : Str, ms = [.im (.str s)] ∧ s ∈ PRIMS ∧ ∀ fin, G (.im (.int ((primN s).getD (-1)))) fin
theorem body_many : Body F_many 1 1 t__law_many := by
  rintro ms G hl ⟨s, rfl, hs, q⟩
  show t__law_many _ [Sl.pa (.im (.str s))]
  unfold t__law_many
  walk_at "n"
  have ok : D.ok 64 (.str s) = true := prims_all (fun s => D.ok 64 (.str s) = true) (by decide +kernel) s hs
  refine ⟨by rw [sizeLine_eq]; omega, ok, by decide +kernel, ?_⟩
  simp only [List.any_cons, List.any_nil, eqv_str', Bool.or_false, Bool.false_xor]
  by_cases h4 : s ∈ (["+", "cons", "same?", "wrap"] : List Str)
  · have e : primN s = some 2 := by
      unfold primN
      rw [if_neg (by intro z; subst z; revert h4; decide +kernel), if_pos h4]
    rw [if_pos (by
      simp only [List.mem_cons, List.not_mem_nil, or_false] at h4
      rcases h4 with h | h | h | h <;> simp [h])]
    rw [e] at q
    exact q _
  · rw [if_neg (by
      intro z
      apply h4
      simp only [Bool.or_eq_true, decide_eq_true_eq] at z
      rcases z with h | h | h | h <;> simp [← h])]
    subst hR
    walk_at "y"
    walk_at "i"
    by_cases hl : s = "list"
    · have e : primN s = none := by unfold primN; rw [if_pos hl]
      rw [e] at q
      rw [if_pos (by simpa using hl)]
      exact q _
    · have e : primN s = some 1 := by unfold primN; rw [if_neg hl, if_neg h4]
      rw [e] at q
      rw [if_neg (by simpa using hl)]
      exact q _
abbrev lw {α : Type} (f : TF → TF → TF → TF → TF → TF → TF → TF → α) : α := f F_draws F_next (F_term 4) F_new (F_walk 12) F_many F_mis (F_same 3)
structure ItsOk (items : List It7) (c : Int) : Prop where
  ok : ∀ i ∈ items, PyData.strOk i.kind = true
  g : GdL (items.map It7.t) (items.length * 512) 10 100 c
theorem ItsOk.snoc {items : List It7} {c c' : Int} (h : ItsOk items c) (kind : Str) (lv k : Int) {t : Tm} (hk : PyData.strOk kind = true) (g : Gd t 512 10 c c') : ItsOk (items ++ [⟨kind, lv, k, t⟩]) c' := by
  refine ⟨fun i hi => ?_, ?_⟩
  · rcases List.mem_append.mp hi with hi | hi
    · exact h.ok i hi
    · rw [List.mem_singleton.mp hi]; exact hk
  · rw [List.map_append, List.length_append]
    have := h.g.append g
    rw [show (items.length + [(⟨kind, lv, k, t⟩ : It7)].length) * 512 = items.length * 512 + 512 by simp; omega]
    exact this
theorem ItsOk.up {items : List It7} {c c' : Int} (h : ItsOk items c) (l : c ≤ c') : ItsOk items c' := ⟨h.ok, h.g.mono (Nat.le_refl _) (Nat.le_refl _) (Int.le_refl _) l⟩
theorem new_comp2 {s0 s2 s3 s4 s5 s7 s8 s9 s10 s11 s12 s13 s14 : Sl} {k : List D → Env → Prop} : ∀ (n lo : Nat) (c : Int) (ds : List Int) (ps : List Int), ps.length = lo → lo + n ≤ 100 →
    (∀ (c' : Int) (ps' : List Int), c ≤ c' → k (ps'.map D.int) [s0, .lo (.ls (Dr c' ds)), s2, s3, s4, s5, .no, s7, s8, s9, s10, s11, s12, s13, s14]) →
    compL (.one 6) qYes (tCall F_new 1 (lCons (tNm 1) lNil)) [6] (fun _ => True) k (gRng lo n) (ps.map D.int) [s0, .lo (.ls (Dr c ds)), s2, s3, s4, s5, .no, s7, s8, s9, s10, s11, s12, s13, s14] := by
  intro n
  induction n with
  | zero => intro lo c ds ps h1 h2 q; exact ⟨trivial, q c ps (Int.le_refl _)⟩
  | succ n ih =>
    intro lo c ds ps h1 h2 q
    rw [gRng_succ]
    refine comp_step trivial fun L hL => ?_
    walk_at "y"
    rw [if_pos rfl]
    refine ⟨rfl, by simp, c, ds, rfl, rfl, ?_⟩
    walk_at "y"
    refine ⟨by rw [sizeLine_eq]; simp; omega, ?_⟩
    rw [hL, show ps.map D.int ++ [D.int (c + 1)] = (ps ++ [c + 1]).map D.int by simp]
    exact ih (lo + 1) (c + 1) ds (ps ++ [c + 1]) (by simp [h1]) (by omega) fun c' ps' hc => q c' ps' (by omega)
theorem loop_defs {P : EndP} {s0 s7 s8 s9 s10 s11 s12 s13 s14 : Sl} {lv : Int} : ∀ (n : Nat) (lo : Int) (c : Int) (ds : List Int) (items : List It7) (s4 s5 : Sl), ItsOk items c → items.length + n ≤ 100 →
    (∀ (c' : Int) (ds' : List Int) (items' : List It7) (s4 s5 : Sl), ItsOk items' c' → items'.length ≤ items.length + n → P.nx [s0, .lo (.ls (Dr c' ds')), .lo (.ls (items'.map itD)), .lo (.im (.int lv)), s4, s5, .no, s7, s8, s9, s10, s11, s12, s13, s14]) →
    loopS (.one 4) (lw b_law_2) (fun _ => True) P (gRng lo n) [s0, .lo (.ls (Dr c ds)), .lo (.ls (items.map itD)), .lo (.im (.int lv)), s4, s5, .no, s7, s8, s9, s10, s11, s12, s13, s14] := by
  intro n
  induction n with
  | zero => intro lo c ds items s4 s5 h1 h2 q; exact ⟨trivial, q c ds items s4 s5 h1 (by omega)⟩
  | succ n ih =>
    intro lo c ds items s4 s5 h1 h2 q
    rw [gRng_succ]
    refine loop_step trivial fun L hL => ?_
    unfold lw b_law_2
    walk_at "y"
    walk_at "n"
    refine ⟨rfl, by simp, c, ds, lv, 3, rfl, by omega, fun t c1 ds1 g1 => ⟨rfl, ?_⟩⟩
    walk_at "y"
    subst hR
    walk_at "n"
    refine ⟨rfl, by simp, c1, ds1, 2, rfl, by omega, fun r ds2 r0 r1 => ⟨rfl, ?_⟩⟩
    walk_at "y"
    have fin : ∀ (t : Tm) (c2 : Int) (ds3 : List Int), Gd t 512 10 c c2 → R [s0, .lo (.ls (Dr c2 ds3)), .lo (.ls (items.map itD)), .lo (.im (.int lv)), .lo (.im (.int lo)), .lo (.im t.d), .no, s7, s8, s9, s10, s11, s12, s13, s14] := by
      intro t c2 ds3 g
      subst hR
      walk_at "y"
      refine ⟨trivial, by rw [sizeLine_eq]; omega, by rw [List.length_map, sizeLine_eq]; omega, ?_⟩
      rw [show items.map itD ++ [D.tup [D.str (Str.ofString "def"), D.int lv, D.int lo, t.d]] = (items ++ [(⟨"def", lv, lo, t⟩ : It7)]).map itD by rw [List.map_append]; rfl, hL]
      refine ih _ c2 ds3 _ _ _ (h1.snoc "def" lv lo (by decide +kernel) g) (by rw [List.length_append]; simp; omega) fun c' ds' items' s4 s5 h hl => q c' ds' items' s4 s5 h (by rw [List.length_append] at hl; simp at hl; omega)
    by_cases hr : r = 0
    · rw [if_pos (by simpa using hr)]
      refine ⟨rfl, by simp, c1, ds2, 4, rfl, by omega, fun i ds3 i0 i1 => ⟨rfl, ?_⟩⟩
      walk_at "y"
      refine ⟨by omega, by omega, ?_⟩
      refine new_comp2 i.toNat 0 c1 ds3 [] rfl (by omega) fun c' ps hc => ?_
      walk_at "y"
      refine ⟨rfl, by simp, c', ds3, lv, 3, rfl, by omega, fun u c2 ds4 g2 => ⟨rfl, ?_⟩⟩
      walk_at "y"
      refine ⟨by rw [sizeLine_eq]; omega, ?_⟩
      have gn := Gd.node (l := .fn ps) g2 rfl (by intro sp z; cases z)
      have := fin (.nd (.fn ps) [u]) c2 ds4 (gn.mono (by decide) (by decide) (by have := g1.le; omega) (Int.le_refl _))
      rw [dN] at this
      exact this
    · rw [if_neg (by simpa using hr)]
      exact fin t c1 ds2 (g1.mono (by decide) (by decide) (Int.le_refl _) (Int.le_refl _))
theorem loop_exprs {P : EndP} {s0 s5 s6 s7 s8 s9 s10 s11 s12 s13 s14 : Sl} {lv : Int} : ∀ (n : Nat) (lo : Int) (c : Int) (ds : List Int) (items : List It7) (s4 : Sl), ItsOk items c → items.length + n ≤ 100 →
    (∀ (c' : Int) (ds' : List Int) (items' : List It7) (s4 : Sl), ItsOk items' c' → items'.length ≤ items.length + n → P.nx [s0, .lo (.ls (Dr c' ds')), .lo (.ls (items'.map itD)), .lo (.im (.int lv)), s4, s5, s6, s7, s8, s9, s10, s11, s12, s13, s14]) →
    loopS (.one 4) (lw b_law_3) (fun _ => True) P (gRng lo n) [s0, .lo (.ls (Dr c ds)), .lo (.ls (items.map itD)), .lo (.im (.int lv)), s4, s5, s6, s7, s8, s9, s10, s11, s12, s13, s14] := by
  intro n
  induction n with
  | zero => intro lo c ds items s4 h1 h2 q; exact ⟨trivial, q c ds items s4 h1 (by omega)⟩
  | succ n ih =>
    intro lo c ds items s4 h1 h2 q
    rw [gRng_succ]
    refine loop_step trivial fun L hL => ?_
    unfold lw b_law_3
    walk_at "y"
    refine ⟨trivial, rfl, by simp, c, ds, lv, 4, rfl, by omega, fun t c1 ds1 g1 => ⟨rfl, ?_⟩⟩
    walk_at "y"
    refine ⟨by rw [sizeLine_eq]; omega, by rw [List.length_map, sizeLine_eq]; omega, ?_⟩
    rw [show items.map itD ++ [D.tup [D.str (Str.ofString "expr"), D.int lv, D.int 0, t.d]] = (items ++ [(⟨"expr", lv, 0, t⟩ : It7)]).map itD by rw [List.map_append]; rfl, hL]
    refine ih _ c1 ds1 _ _ (h1.snoc "expr" lv 0 (by decide +kernel) (g1.mono (by decide) (by decide) (Int.le_refl _) (Int.le_refl _))) (by rw [List.length_append]; simp; omega) fun c' ds' items' s4 h hl => q c' ds' items' s4 h (by rw [List.length_append] at hl; simp at hl; omega)
theorem loop_levels {P : EndP} {s0 s7 s8 s9 s10 s11 s12 s13 s14 : Sl} : ∀ (n lo : Nat) (c : Int) (ds : List Int) (items : List It7) (s3 s4 s5 : Sl), ItsOk items c → items.length + 6 * n ≤ 24 →
    (∀ (c' : Int) (ds' : List Int) (items' : List It7) (s3 s4 s5 : Sl), ItsOk items' c' → items'.length ≤ 24 → P.nx [s0, .lo (.ls (Dr c' ds')), .lo (.ls (items'.map itD)), s3, s4, s5, .no, s7, s8, s9, s10, s11, s12, s13, s14]) →
    loopS (.one 3) (lw b_law_1) (fun _ => True) P (gRng lo n) [s0, .lo (.ls (Dr c ds)), .lo (.ls (items.map itD)), s3, s4, s5, .no, s7, s8, s9, s10, s11, s12, s13, s14] := by
  intro n
  induction n with
  | zero => intro lo c ds items s3 s4 s5 h1 h2 q; exact ⟨trivial, q c ds items s3 s4 s5 h1 (by omega)⟩
  | succ n ih =>
    intro lo c ds items s3 s4 s5 h1 h2 q
    rw [gRng_succ]
    refine loop_step trivial fun L hL => ?_
    unfold lw b_law_1
    walk_at "y"
    walk_at "n"
    refine ⟨rfl, by simp, c, ds, 4, rfl, by omega, fun r1 ds1 a0 a1 => ⟨rfl, ?_⟩⟩
    walk_at "y"
    refine ⟨by omega, by omega, ?_⟩
    refine loop_defs r1.toNat 0 c ds1 items _ _ h1 (by omega) fun c1 ds2 it1 s4 s5 h1 l1 => ?_
    subst hR
    walk_at "n"
    refine ⟨rfl, by simp, c1, ds2, 3, rfl, by omega, fun r2 ds3 b0 b1 => ⟨rfl, ?_⟩⟩
    walk_at "y"
    refine ⟨by omega, by omega, ?_⟩
    refine loop_exprs r2.toNat 0 c1 ds3 it1 _ h1 (by omega) fun c2 ds4 it2 s4 h2 l2 => ?_
    subst hR
    walk_at "y"
    have fin : ∀ (c3 : Int) (ds5 : List Int) (it3 : List It7), ItsOk it3 c3 → it3.length ≤ it2.length + 1 → L [s0, .lo (.ls (Dr c3 ds5)), .lo (.ls (it3.map itD)), .lo (.im (.int lo)), s4, s5, .no, s7, s8, s9, s10, s11, s12, s13, s14] := by
      intro c3 ds5 it3 h3 l3
      rw [hL]
      exact ih (lo + 1) c3 ds5 it3 _ _ _ h3 (by omega) q
    by_cases hz : (0 : Int) < lo
    · rw [if_pos (by simpa using hz)]
      refine ⟨rfl, by simp, c2, ds4, 2, rfl, by omega, fun r3 ds5 e0 e1 => ⟨rfl, ?_⟩⟩
      walk_at "y"
      by_cases hr : r3 = 0
      · rw [if_pos (by simpa using hr)]
        refine ⟨trivial, rfl, by simp, c2, ds5, 3, rfl, by omega, fun r4 ds6 f0 f1 => ⟨rfl, ?_⟩⟩
        walk_at "y"
        refine ⟨rfl, by simp, c2, ds6, lo, 4, rfl, by omega, fun t c3 ds7 g => ⟨rfl, ?_⟩⟩
        walk_at "y"
        refine ⟨by rw [sizeLine_eq]; omega, by rw [List.length_map, sizeLine_eq]; omega, ?_⟩
        rw [show it2.map itD ++ [D.tup [D.str (Str.ofString "mac"), D.int (lo - 1), D.int r4, t.d]] = (it2 ++ [(⟨"mac", lo - 1, r4, t⟩ : It7)]).map itD by rw [List.map_append]; rfl]
        exact fin c3 ds7 _ (h2.snoc "mac" (lo - 1) r4 (by decide +kernel) (g.mono (by decide) (by decide) (Int.le_refl _) (Int.le_refl _))) (by rw [List.length_append]; simp)
      · rw [if_neg (by simpa using hr)]
        exact fin c2 ds5 it2 h2 (by omega)
    · rw [if_neg (by simpa using hz)]
      exact fin c2 ds4 it2 h2 (by omega)
theorem loop_all {P : EndP} {s0 s1 s3 s4 s5 s6 s10 s11 s12 s13 s14 : Sl} {v : V} {all : List D} : ∀ (items : List It7) (cs : List Tm) (ss : List K3) (s9 : Sl), (∀ i ∈ items, i.t.wf) → (∀ i ∈ items, i.t.h ≤ 12) → cs.length + (allT items).length ≤ 100000 → ss.length + (allT items).length ≤ 100000 →
    (∀ s9, P.nx [s0, s1, .hd false v (.ls all), s3, s4, s5, s6, .lo (.ls ((cs ++ (allT items).filter isCall).map Tm.d)), .lo (.ls ((ss ++ (allT items).filterMap setOf).map k3)), s9, s10, s11, s12, s13, s14]) →
    loopS (.one 9) (lw b_law_4) (fun ρ => ρ[2]? = some (.hd false v (.ls all))) P (items.map itD) [s0, s1, .hd false v (.ls all), s3, s4, s5, s6, .lo (.ls (cs.map Tm.d)), .lo (.ls (ss.map k3)), s9, s10, s11, s12, s13, s14] := by
  intro items
  induction items with
  | nil => intro cs ss s9 _ _ _ _ q; exact ⟨rfl, by have := q s9; simpa [allT, Tm.subsL] using this⟩
  | cons i items ih =>
    intro cs ss s9 hw hh hc hs q
    rw [List.map_cons]
    refine loop_step rfl fun L hL => ?_
    have e : allT (i :: items) = Tm.subsL [i.t] ++ allT items := by unfold allT; rw [List.map_cons, subsL_cons, subsL_one]
    rw [e, List.length_append] at hc hs
    unfold lw b_law_4 itD
    walk_at "y"
    walk_at "z"
    refine ⟨trivial, by simp, i.t, cs, ss, rfl, hw _ List.mem_cons_self, hh _ List.mem_cons_self, by omega, by omega, rfl, ?_⟩
    walk_at "y"
    rw [hL]
    have l1 := callsL_len [i.t]
    have l2 := keysL_len [i.t]
    refine ih _ _ _ (fun u hu => hw u (List.mem_cons_of_mem _ hu)) (fun u hu => hh u (List.mem_cons_of_mem _ hu)) (by rw [List.length_append]; omega) (by rw [List.length_append]; omega) fun s9 => ?_
    have := q s9
    rw [e, List.filter_append, List.filterMap_append] at this
    rw [List.append_assoc, List.append_assoc]
    exact this
theorem eqv_two (a b c d : Int) : D.eqv (.tup [.int a, .int b]) (.tup [.int c, .int d]) = (decide (a = c) && decide (b = d)) := by
  simp [D.eqv, D.py, D.pys, PyData.eqv, PyData.eqvAll]; rw [Bool.eq_iff_iff]; simp
theorem loop_last {P : EndP} {s0 s1 s5 s6 s7 s8 s9 s10 : Sl} {v : V} {all : List D} {S : List K3} {m : Str} {lv k sp : Int} (hS : mK lv k ∉ S) (hm : m = "m") : ∀ (items : List It7) (f : K3 → Option Int) (s3 s4 s13 s14 : Sl), (∀ i ∈ items, shape i.t.lab i.t.kids ∧ PyData.strOk i.kind = true) →
    (∀ s3 s4 s13 s14, P.nx [s0, s1, .hd false v (.ls all), s3, s4, s5, s6, s7, s8, s9, s10, .lo (.im (.tup [.str "top", .str m, .int lv, .int k, spot sp])), .lo (.im (.int ((knownOf S items f (mK lv k)).getD (-1)))), s13, s14]) →
    loopS (.many [13, 3, 4, 14]) (lw b_law_6) (fun ρ => ρ[2]? = some (.hd false v (.ls all))) P (items.map itD) [s0, s1, .hd false v (.ls all), s3, s4, s5, s6, s7, s8, s9, s10, .lo (.im (.tup [.str "top", .str m, .int lv, .int k, spot sp])), .lo (.im (.int ((f (mK lv k)).getD (-1)))), s13, s14] := by
  intro items
  induction items with
  | nil => intro f s3 s4 s13 s14 _ q; exact ⟨rfl, q s3 s4 s13 s14⟩
  | cons i items ih =>
    intro f s3 s4 s13 s14 hi q
    obtain ⟨kind, il, ik, t⟩ := i
    obtain ⟨l, ks⟩ := t
    have sh : shape l ks := (hi _ List.mem_cons_self).1
    rw [List.map_cons]
    refine loop_step rfl fun L hL => ?_
    unfold itD lw b_law_6
    have skip : (stepK S f ⟨kind, il, ik, .nd l ks⟩) (mK lv k) = f (mK lv k) → ∀ s3 s4 s13 s14, L [s0, s1, .hd false v (.ls all), s3, s4, s5, s6, s7, s8, s9, s10, .lo (.im (.tup [.str "top", .str m, .int lv, .int k, spot sp])), .lo (.im (.int ((f (mK lv k)).getD (-1)))), s13, s14] := by
      intro he s3 s4 s13 s14
      rw [hL, ← he]
      exact ih _ _ _ _ _ (fun u hu => hi u (List.mem_cons_of_mem _ hu)) q
    walk_at "y"
    refine ⟨rfl, ?_⟩
    walk_at "i"
    by_cases hk : kind = "def"
    · rw [if_pos (by simpa using hk)]
      try walk_at "y"
      try walk_at "z"
      rw [cut24]
      try walk_at "y"
      refine ⟨by rw [sizeLine_eq]; omega, rfl, rfl, ?_⟩
      rw [eqv_two]
      by_cases hq : il = lv ∧ ik = k
      · obtain ⟨rfl, rfl⟩ := hq
        rw [if_pos (by simp)]
        by_cases hf : ∃ ps, l = .fn ps
        · obtain ⟨ps, rfl⟩ := hf
          obtain ⟨b, rfl⟩ := List.length_eq_one_iff.mp sh
          rw [show Tm.d (.nd (.fn ps) [b]) = .tup [.str "fn", .tup (ps.map D.int), b.d] from by rw [dN]; rfl]
          try walk_at "y"
          try walk_at "z"
          try walk_at "i"
          walk_at "e"
          have isd : isDef ⟨kind, il, ik, .nd (.fn ps) [b]⟩ = some (ps.length : Int) := by unfold isDef; rw [if_pos hk]
          have e : (stepK S f ⟨kind, il, ik, .nd (.fn ps) [b]⟩) (mK il ik) = some (ps.length : Int) := by
            unfold stepK; rw [isd]; simp only; rw [if_pos ⟨hS, trivial⟩]
          rw [hL, List.length_map, show D.int (ps.length : Int) = D.int (((stepK S f ⟨kind, il, ik, .nd (.fn ps) [b]⟩) (mK il ik)).getD (-1)) by rw [e]; rfl]
          exact ih _ _ _ _ _ (fun u hu => hi u (List.mem_cons_of_mem _ hu)) q
        · have nf : ∀ ps, l ≠ .fn ps := fun ps z => hf ⟨ps, z⟩
          obtain ⟨rest, er⟩ := mkD_tag l (ks.map Tm.d)
          rw [dN, er]
          try walk_at "y"
          try walk_at "z"
          try walk_at "i"
          rw [if_neg (by simpa using tag_fn nf)]
          exact skip (by unfold stepK; rw [isDef_none2 fun ps ks' z => by cases z; exact nf _ rfl]) _ _ _ _
      · rw [if_neg (by simpa using hq)]
        refine skip ?_ _ _ _ _
        unfold stepK
        split
        · rw [if_neg (fun z => hq ⟨by have := congrArg (fun q : K3 => q.2.1) z.2; exact this.symm, by have := congrArg (fun q : K3 => q.2.2) z.2; exact this.symm⟩)]
        · rfl
    · rw [if_neg (by simpa using hk)]
      exact skip (by unfold stepK; rw [isDef_none1 hk]) _ _ _ _
theorem knownOf_skip {S : List K3} {q : K3} (h : q ∈ S ∨ q.1 ≠ "m") : ∀ (items : List It7) (f : K3 → Option Int), knownOf S items f q = f q := by
  intro items
  induction items with
  | nil => intro f; rfl
  | cons i items ih =>
    intro f
    show knownOf S items (stepK S f i) q = f q
    rw [ih]
    unfold stepK
    split
    · rw [if_neg]
      rintro ⟨z1, z2⟩
      rcases h with h | h
      · exact z1 (z2 ▸ h)
      · exact h (by rw [z2])
    · rfl
theorem knownOf_nn {S : List K3} : ∀ (items : List It7) (f : K3 → Option Int), (∀ q n, f q = some n → 0 ≤ n) → ∀ q n, knownOf S items f q = some n → 0 ≤ n := by
  intro items
  induction items with
  | nil => intro f h; exact h
  | cons i items ih =>
    intro f h
    refine ih (stepK S f i) fun q n e => ?_
    unfold stepK at e
    split at e
    · rename_i m hm
      split at e
      · cases e
        unfold isDef at hm
        split at hm
        · split at hm
          · cases hm; omega
          · cases hm
        · cases hm
      · exact h q n e
    · exact h q n e
theorem want_nn {items : List It7} {h : Tm} {n : Int} (e : want (theKn items) h = some n) : 0 ≤ n := by
  unfold want at e
  split at e
  · cases e; omega
  · unfold primN at e
    split at e
    · cases e
    · split at e <;> (cases e; omega)
  · exact knownOf_nn items _ (fun _ _ z => by cases z) _ _ e
  · cases e
theorem eqv_k3 (p q : K3) : D.eqv (k3 p) (k3 q) = decide (p = q) := by
  obtain ⟨a, b, c⟩ := p
  obtain ⟨a', b', c'⟩ := q
  simp [D.eqv, k3, D.py, D.pys, PyData.eqv, PyData.eqvAll]; rw [Bool.eq_iff_iff]; simp
theorem any_k3 (S : List K3) (q : K3) : ((S.map k3).any fun z => z.eqv (k3 q)) = decide (q ∈ S) := by
  induction S with
  | nil => rfl
  | cons p S ih =>
    rw [List.map_cons, List.any_cons, ih, eqv_k3]
    by_cases e : p = q
    · subst e; simp
    · simp [e]; exact fun z => absurd z.symm e
theorem oks_k3 {S : List K3} (h : ∀ q ∈ S, PyData.strOk q.1 = true) : D.oks 63 (S.map k3) = true := by
  rw [D.oks_all, List.all_eq_true]
  intro d hd
  obtain ⟨q, hq, rfl⟩ := List.mem_map.mp hd
  simp [k3, D.ok, D.oks, h q hq]
theorem strOk_mo : ∀ m ∈ (["m", "other"] : List Str), PyData.strOk m = true := by decide +kernel
theorem loop_found {P : EndP} {s0 s1 s6 s9 : Sl} {v : V} {all : List D} {items : List It7} {S : List K3} (hS : S = (allT items).filterMap setOf) (hSo : ∀ q ∈ S, PyData.strOk q.1 = true) (hi : ∀ i ∈ items, shape i.t.lab i.t.kids ∧ PyData.strOk i.kind = true) (hil : items.length ≤ 1000) :
    ∀ (cs : List Tm) (fd : List Int) (s3 s4 s5 s11 s12 s13 s14 : Sl), (∀ t ∈ cs, t.wf ∧ isCall t = true ∧ t.kids.length ≤ 100000) → fd.length + cs.length ≤ 100000 →
    (∀ s3 s4 s5 s11 s12 s13 s14, P.nx [s0, s1, .lo (.ls (items.map itD)), s3, s4, s5, s6, .hd false v (.ls all), .lo (.ls (S.map k3)), s9, .lo (.ls ((fd ++ badSp (theKn items) cs).map spot)), s11, s12, s13, s14]) →
    loopS (.one 5) (lw b_law_5) (fun ρ => ρ[7]? = some (.hd false v (.ls all))) P (cs.map Tm.d) [s0, s1, .lo (.ls (items.map itD)), s3, s4, s5, s6, .hd false v (.ls all), .lo (.ls (S.map k3)), s9, .lo (.ls (fd.map spot)), s11, s12, s13, s14] := by
  intro cs
  induction cs with
  | nil => intro fd s3 s4 s5 s11 s12 s13 s14 _ _ q; exact ⟨rfl, by have := q s3 s4 s5 s11 s12 s13 s14; simpa [badSp] using this⟩
  | cons t cs ih =>
    intro fd s3 s4 s5 s11 s12 s13 s14 hc hl q
    have hl' : fd.length + (cs.length + 1) ≤ 100000 := hl
    rw [List.map_cons]
    refine loop_step rfl fun L hL => ?_
    obtain ⟨l, ks⟩ := t
    obtain ⟨tw, tc, tl⟩ := hc _ List.mem_cons_self
    obtain ⟨sp, rfl⟩ : ∃ sp, l = .call sp := by cases l <;> first | exact ⟨_, rfl⟩ | cases tc
    obtain ⟨h, as, rfl⟩ : ∃ t ts, ks = t :: ts := List.exists_cons_of_ne_nil tw.self
    have hw : h.wf := tw.kid List.mem_cons_self
    have al : as.length + 1 ≤ 100000 := tl
    have ed : Tm.d (.nd (.call sp) (h :: as)) = .tup [.str "call", h.d, .tup (as.map Tm.d), spot sp] := by rw [dN]; rfl
    rw [ed]
    unfold lw b_law_5
    walk_at "y"
    walk_at "n"
    walk_at "z"
    subst hR
    walk_at "n"
    subst hR
    refine seq_step fun R hR => ?_
    have same : bad (theKn items) (.nd (.call sp) (h :: as)) = false → ∀ s3 s4 s5 s11 s12 s13 : Sl, ∀ s14 : Sl, L [s0, s1, .lo (.ls (items.map itD)), s3, s4, s5, s6, .hd false v (.ls all), .lo (.ls (S.map k3)), s9, .lo (.ls (fd.map spot)), s11, s12, s13, s14] := by
      intro hb s3 s4 s5 s11 s12 s13 s14
      rw [hL]
      refine ih fd _ _ _ _ _ _ _ (fun u hu => hc u (List.mem_cons_of_mem _ hu)) (by omega) fun s3 s4 s5 s11 s12 s13 s14 => ?_
      have := q s3 s4 s5 s11 s12 s13 s14
      unfold badSp at this ⊢
      rw [List.filter_cons, if_neg (by rw [hb]; decide)] at this
      exact this
    -- how many the law finds
    have fin : ∀ s3 s4 s13 s14, R [s0, s1, .lo (.ls (items.map itD)), s3, s4, .lo (.im (.tup [.str "call", h.d, .tup (as.map Tm.d), spot sp])), s6, .hd false v (.ls all), .lo (.ls (S.map k3)), s9, .lo (.ls (fd.map spot)), .lo (.im h.d), .lo (.im (.int ((want (theKn items) h).getD (-1)))), s13, s14] := by
      intro s3 s4 s13 s14
      subst hR
      walk_at "y"
      walk_at "z"
      cases e : want (theKn items) h with
      | none =>
        rw [if_neg (by decide), if_neg (by decide)]
        exact same (by rw [bad_at, e]) _ _ _ _ _ _ _
      | some n =>
        have nn := want_nn e
        rw [if_pos (by simpa using nn), List.length_map]
        by_cases hq : n = (as.length : Int)
        · subst hq
          rw [if_neg (by simp)]
          exact same (by rw [bad_at, e]; simp) _ _ _ _ _ _ _
        · rw [if_pos (by simpa using hq)]
          refine ⟨trivial, by rw [List.length_map, sizeLine_eq]; omega, ?_⟩
          rw [show fd.map spot ++ [spot sp] = (fd ++ [sp]).map spot by simp, hL]
          have hb : bad (theKn items) (.nd (.call sp) (h :: as)) = true := by rw [bad_at, e]; simpa using hq
          refine ih _ _ _ _ _ _ _ _ (fun u hu => hc u (List.mem_cons_of_mem _ hu)) (by rw [List.length_append]; simp; omega) fun s3 s4 s5 s11 s12 s13 s14 => ?_
          have := q s3 s4 s5 s11 s12 s13 s14
          unfold badSp at this ⊢
          rw [List.filter_cons, if_pos hb, List.filterMap_cons] at this
          rw [List.append_assoc]
          exact this
    clear ih q same
    by_cases hf : ∃ ps, h.lab = .fn ps
    · obtain ⟨ps, hp⟩ := hf
      obtain ⟨l, ks⟩ := h
      obtain rfl : l = .fn ps := hp
      obtain ⟨b, rfl⟩ := List.length_eq_one_iff.mp hw.self
      rw [show Tm.d (.nd (.fn ps) [b]) = .tup [.str "fn", .tup (ps.map D.int), b.d] from by rw [dN]; rfl]
      rw [show Tm.d (.nd (.fn ps) [b]) = .tup [.str "fn", .tup (ps.map D.int), b.d] from by rw [dN]; rfl] at fin
      walk_at "y"
      walk_at "z"
      walk_at "i"
      walk_at "e"
      try walk_at "y"
      try walk_at "z"
      rw [List.length_map]
      exact fin _ _ _ _
    by_cases hp : ∃ s, h.lab = .prim s
    · obtain ⟨s, hp⟩ := hp
      obtain ⟨l, ks⟩ := h
      obtain rfl : l = .prim s := hp
      obtain ⟨rfl, hs⟩ := hw.self
      rw [show Tm.d (.nd (.prim s) []) = .tup [.str "prim", .str s] from by rw [dN]; rfl]
      rw [show Tm.d (.nd (.prim s) []) = .tup [.str "prim", .str s] from by rw [dN]; rfl] at fin
      walk_at "y"
      walk_at "z"
      walk_at "i"
      walk_at "e"
      try walk_at "y"
      try walk_at "z"
      refine ⟨by simp, s, rfl, hs, fun f => ⟨rfl, ?_⟩⟩
      walk_at "y"
      exact fin _ _ _ _
    by_cases ht : ∃ m lv k sp, h.lab = .top m lv k sp
    · obtain ⟨m, lv, k, sp2, hp⟩ := ht
      obtain ⟨l, ks⟩ := h
      obtain rfl : l = .top m lv k sp2 := hp
      obtain ⟨rfl, hm⟩ := hw.self
      rw [show Tm.d (.nd (.top m lv k sp2) []) = .tup [.str "top", .str m, .int lv, .int k, spot sp2] from by rw [dN]; rfl]
      rw [show Tm.d (.nd (.top m lv k sp2) []) = .tup [.str "top", .str m, .int lv, .int k, spot sp2] from by rw [dN]; rfl] at fin
      walk_at "y"
      walk_at "z"
      walk_at "i"
      walk_at "e"
      try walk_at "y"
      try walk_at "z"
      have wq : want (theKn items) (.nd (.top m lv k sp2) []) = theKn items (m, lv, k) := rfl
      rw [wq] at fin
      rw [cut14]
      by_cases hmm : m = "m"
      · subst hmm
        rw [if_pos (by simp)]
        refine ⟨by simp [D.ok, D.oks]; decide +kernel, oks_k3 hSo, ?_⟩
        rw [show D.tup [D.str (Str.ofString "m"), D.int lv, D.int k] = k3 (mK lv k) from rfl, any_k3]
        by_cases hin : mK lv k ∈ S
        · rw [if_neg (by simp [hin])]
          have e : theKn items (mK lv k) = none := knownOf_skip (.inl (hS ▸ hin)) items _
          rw [e] at fin
          exact fin _ _ _ _
        · rw [if_pos (by simp [hin])]
          intro v2
          rw [show (0 - 1 : Int) = ((fun _ : K3 => (none : Option Int)) (mK lv k)).getD (-1) from rfl]
          refine loop_last (S := S) hin rfl items (fun _ => none) s3 s4 s13 s14 hi fun t3 t4 t13 t14 => ?_
          walk_at "y"
          have e : knownOf S items (fun _ => none) (mK lv k) = theKn items (mK lv k) := by rw [hS]; rfl
          rw [e]
          exact ⟨rfl, fin _ _ _ _⟩
      · rw [if_neg (by simpa using hmm)]
        have e : theKn items (m, lv, k) = none := knownOf_skip (.inr hmm) items _
        rw [e] at fin
        exact fin _ _ _ _
    have nf : ∀ ps, h.lab ≠ .fn ps := fun ps z => hf ⟨ps, z⟩
    have np : ∀ ps, h.lab ≠ .prim ps := fun ps z => hp ⟨ps, z⟩
    have nt : ∀ m lv k sp, h.lab ≠ .top m lv k sp := fun m lv k sp z => ht ⟨m, lv, k, sp, z⟩
    have wn : want (theKn items) h = none := by
      obtain ⟨l, ks⟩ := h
      cases l with
      | fn ps => exact absurd rfl (nf ps)
      | prim ps => exact absurd rfl (np ps)
      | top m lv k sp => exact absurd rfl (nt m lv k sp)
      | _ => rfl
    rw [wn] at fin
    obtain ⟨rest, er⟩ := mkD_tag h.lab (h.kids.map Tm.d)
    have eh : h.d = .tup (.str (tag h.lab) :: rest) := by rw [d_eq, er]
    rw [eh] at fin ⊢
    walk_at "y"
    walk_at "z"
    walk_at "i"
    rw [if_neg (by simpa using tag_fn nf), if_neg (by simpa using tag_prim np), if_neg (by simpa using tag_top nt)]
    exact fin _ _ _ _
theorem bad_isCall {f : K3 → Option Int} {t : Tm} (h : bad f t = true) : isCall t = true := by
  obtain ⟨l, ks⟩ := t
  cases l <;> first | rfl | cases h
theorem badSp_calls (f : K3 → Option Int) (ts : List Tm) : badSp f (ts.filter isCall) = badSp f ts := by
  unfold badSp
  rw [List.filter_filter]
  congr 1
  refine List.filter_congr fun t _ => ?_
  cases h : bad f t with
  | false => simp
  | true => rw [bad_isCall h]; rfl
theorem key_strOk {ts : List Tm} (h : ∀ t ∈ ts, t.wf) : ∀ q ∈ ts.filterMap setOf, PyData.strOk q.1 = true := by
  intro q hq
  obtain ⟨t, ht, e⟩ := List.mem_filterMap.mp hq
  have tw := h t ht
  unfold setOf at e
  split at e
  · rename_i m lv k sp ks r
    cases e
    have := (tw.kid (k := .nd (.top m lv k sp) ks) List.mem_cons_self).self
    exact strOk_mo m this.2
  · cases e
def F_law : TF := fun ms G => ∃ ns : List Int, ms = [.sq (ns.map D.int)] ∧ ns.length ≤ 1000000 ∧ ∀ fin, G (.im (.bl true)) fin
theorem body_law : Body F_law 15 1 (lw t_law) := by
  rintro ms G hl ⟨ns, rfl, hns, q⟩
  show lw t_law _ [Sl.pa (.sq (ns.map D.int)), .no, .no, .no, .no, .no, .no, .no, .no, .no, .no, .no, .no, .no, .no]
  unfold lw t_law
  walk_at "n"
  refine ⟨by rw [sizeLine_eq]; omega, rfl, by simp, ns, 1500, rfl, by omega, hns, fun ds hd hdl => ⟨rfl, ?_⟩⟩
  walk_at "y"
  refine ⟨by rw [List.length_map, sizeLine_eq]; omega, ?_⟩
  subst hR
  walk_at "n"
  refine ⟨by rw [sizeLine_eq]; omega, ?_⟩
  subst hR
  walk_at "n"
  refine ⟨by omega, by omega, ?_⟩
  refine loop_levels 4 0 100 ds [] _ _ _ ⟨fun _ h => (by cases h), GdL.nil⟩ (by simp) fun c ds its s3 s4 s5 hit hl4 => ?_
  have g := hit.g
  have il : its.length ≤ 1000 := by omega
  have al : (allT its).length ≤ 100000 := by have := g.sz; unfold allT; omega
  have iw : ∀ i ∈ its, i.t.wf := fun i h => g.wf _ (List.mem_map.mpr ⟨i, h, rfl⟩)
  have ih : ∀ i ∈ its, i.t.h ≤ 12 := fun i h => Nat.le_trans (g.ht _ (List.mem_map.mpr ⟨i, h, rfl⟩)) (by decide)
  have wall : ∀ t ∈ allT its, t.wf := wf_all fun t ht => by obtain ⟨i, h1, rfl⟩ := List.mem_map.mp ht; exact iw i h1
  have nd : (spots (allT its)).Nodup := g.nd
  subst hR
  walk_at "n"
  try refine ⟨by rw [sizeLine_eq]; omega, by rw [sizeLine_eq]; omega, ?_⟩
  subst hR
  walk_at "n"
  refine ⟨rfl, fun v => ?_⟩
  refine loop_all its [] [] _ iw ih (by simpa using al) (by simpa using al) fun s9 => ?_
  walk_at "y"
  refine ⟨rfl, ?_⟩
  subst hR
  walk_at "n"
  try refine ⟨by rw [sizeLine_eq]; omega, ?_⟩
  subst hR
  walk_at "n"
  refine ⟨rfl, fun v2 => ?_⟩
  refine loop_found (items := its) (S := [] ++ (allT its).filterMap setOf) (by simp) (by simpa using key_strOk wall) (fun i h => ⟨(iw i h).self, hit.ok i h⟩) il ([] ++ (allT its).filter isCall) [] _ _ _ _ _ _ _ (fun t ht => ?_) (by have := List.length_filter_le isCall (allT its); simp; omega) fun s3 s4 s5 s11 s12 s13 s14 => ?_
  · rw [List.nil_append] at ht
    obtain ⟨h1, h2⟩ := List.mem_filter.mp ht
    exact ⟨wall t h1, h2, Nat.le_trans (kids_sub h1) al⟩
  · walk_at "y"
    refine ⟨rfl, ?_⟩
    subst hR
    walk_at "y"
    refine ⟨Nat.zero_le _, Nat.zero_le _, Nat.zero_le _, by rw [sizeLine_eq]; omega, rfl, by simp, its, rfl, fun i h => ⟨iw i h, hit.ok i h⟩, il, al, nd, fun S hS fin => ⟨rfl, ?_⟩⟩
    rw [badSp_calls]
    have sub := badSp_sub (theKn its) (allT its)
    have nd2 : (badSp (theKn its) (allT its)).Nodup := nd.sublist sub
    have inj : ∀ L : List Int, L.Nodup → (L.map sN).Nodup := fun L h => by
      unfold List.Nodup at *
      rw [List.pairwise_map]
      exact h.imp fun {a b} hab z => hab (by injection z)
    have es : (badSp (theKn its) (allT its)).map spot = ((badSp (theKn its) (allT its)).map sN).map nD := by rw [List.map_map]; rfl
    have mm : PyData.strOk (Str.ofString "m") = true := by decide +kernel
    rw [es]
    refine ⟨canSort_nodes fun a ha => ?_, ?_⟩
    · obtain ⟨x, _, rfl⟩ := List.mem_map.mp ha
      exact mm
    · rw [sort_nodes (inj S (hS.symm.nodup nd2)) (inj _ nd2) fun a => (hS.map sN).mem_iff]
      walk_at "y"
      have ln : ((badSp (theKn its) (allT its)).map sN).length ≤ 100000 := by
        rw [List.length_map]
        exact Nat.le_trans sub.length_le (Nat.le_trans (List.length_filterMap_le _ _) al)
      refine ⟨rfl, by simp, _, rfl, sane_nodes ln, fun fin => ⟨rfl, ?_⟩⟩
      exact q _
end Y
namespace Y
set_option hygiene false
open PySem PySem.Spec L2
local macro_rules | `(tactic| walk_at "y") => `(tactic| dsimp only [sNil, sBk, sCt, sDrop, sIf, asg, sAsg, sRet, sRetN, tIm, tNm, tBin, w2, vw, Sl.m?, tTst, tTru, M.tru, tAndQ, tOrQ, tNotQ, tAndX, tOrX, tNotX, tIfX, lNil, lCons, tOn, fInD, fIxD, tGet1, vwD, getOr, M.isD, sPar2, tLc2X, compL2, tChn, tFrz, froz, tTp, tLs, tCl, vws, tMt, Sl.m!, Sl.up, M.res, gLen, gInt, gAdd, gSub, gMul, gDiv, gMod, gPow, gII, gI0, gEqs, gEqs2, gIx, gPop, gApp, gRev, gExt, gTuple, gList, gDict, gIs, gIsi, gAll, gIns, gSorted, gSl, M.lq?, M.lst?, M.sq?, M.dat?, M.isNon, gLt, gLe, gGt, gGe, sFor, iSeq, srcOf, iEnm, enmOf, iRg1, iRg2, bnd, setAll, backS, Sl.isP, tSlc, pNo, pSo, sSetI, hasM, setM, tDspK, tDspT, pairG, D.key?, D.keys?, D.tkey?, putAll, tNewK, tNewT, tNeg, sUnp, tCall, argMs, argM, argS, slots, putB, stepB, putS_lo_ls_ls, putS_lo_ls_dk, putS_lo_ls_dt, putS_lo_ls_no, putS_pa_ls_ls, putS_pa_ls_dk, putS_pa_ls_dt, putS_pa_ls_no, putS_lo_rd_ls, putS_lo_rd_dk, putS_lo_rd_dt, putS_lo_rd_no, putS_pa_rd_ls, putS_pa_rd_dk, putS_pa_rd_dt, putS_pa_rd_no, putS_lo_dk_ls, putS_lo_dk_dk, putS_lo_dk_dt, putS_lo_dk_no, putS_pa_dk_ls, putS_pa_dk_dk, putS_pa_dk_dt, putS_pa_dk_no, putS_lo_dt_ls, putS_lo_dt_dk, putS_lo_dt_dt, putS_lo_dt_no, putS_pa_dt_ls, putS_pa_dt_dk, putS_pa_dt_dt, putS_pa_dt_no, putS_lo_im, putS_lo_sq, putS_pa_im, putS_pa_sq, M.own, M.fit, fins, Sl.fin, envOf, tLcX, compL, wipeE, restE, keepS, qYes, kD, dGet, List.getElem?_cons_zero, List.getElem?_cons_succ, List.getElem?_nil, List.set_cons_zero, List.set_cons_succ, List.map_cons, List.map_nil, List.take_succ_cons, List.take_zero, List.length_cons, List.length_nil, List.head?_cons, List.tail_cons, Option.join_some, List.cons_append, List.nil_append, List.replicate])
local macro_rules | `(tactic| walk_at "n") => `(tactic| ((try dsimp only); refine seq_step fun R hR => ?_; walk_at "y"))
local macro_rules | `(tactic| walk_at "i") => `(tactic| simp only [Bool.false_xor, Bool.true_xor, Bool.not_true, Bool.not_false, Bool.false_eq_true, reduceIte, isiT, M.ty, String.reduceBEq, Bool.or_false, Bool.false_or, Bool.and_false, Bool.and_true, Bool.true_and, Bool.false_and, Bool.or_true, List.mem_cons, true_or, or_true, true_and, and_true, String.reduceEq, decide_true, decide_false])
local macro_rules | `(tactic| walk_at "s") => `(tactic| (subst hR; walk_at "n"))
local macro_rules | `(tactic| walk_at "z") => `(tactic| (simp only [List.map_cons, List.map_nil, atI_c0, atI_c1, atI_c2, atI_c3, atI_c4, atI_c5]; (try walk_at "y")))
local macro_rules | `(tactic| walk_at "e") => `(tactic| repeat (first | rw [if_pos (by decide +kernel)] | rw [if_neg (by decide +kernel)]))
theorem law_start (ns : List Int) (G : M → List (Option M) → Prop) (h : ns.length ≤ 63) (q : ∀ fin, G (.im (.bl true)) fin) : F_law [.sq (ns.map D.int)] G := ⟨ns, rfl, by omega, q⟩
theorem law_all {Pg : Program} {w : World} {K : PySem.W.Frag} {mg : Str → Option Value} {base : Heap} (T : Top w K mg) : FnD Pg w K mg base T.D_law 65 F_law := by
  have g1 : FnD Pg w K mg base T.D__law_draws 1 F_draws := go__law_draws T body_draws
  have g2 : FnD Pg w K mg base T.D__law_next 1 F_next := go__law_next T body_next
  have g3 : FnD Pg w K mg base T.D__law_new 1 F_new := go__law_new T body_new
  have x0 : FnD Pg w K mg base T.D__law_term 0 F_no := fn_never fun _ _ h => h
  have x1 : FnD Pg w K mg base T.D__law_head 0 F_no := fn_never fun _ _ h => h
  have t0 : FnD Pg w K mg base T.D__law_term 2 (F_term 0) := go__law_term T g2 (by omega) g3 (by omega) x0 (by omega) x1 (by omega) body_term0
  have h0 : FnD Pg w K mg base T.D__law_head 3 (F_head 0) := go__law_head T g2 (by omega) g3 (by omega) t0 (by omega) (body_head 0)
  have t1 : FnD Pg w K mg base T.D__law_term 4 (F_term 1) := go__law_term T g2 (by omega) g3 (by omega) t0 (by omega) h0 (by omega) (body_term 0)
  have h1 : FnD Pg w K mg base T.D__law_head 5 (F_head 1) := go__law_head T g2 (by omega) g3 (by omega) t1 (by omega) (body_head 1)
  have t2 : FnD Pg w K mg base T.D__law_term 6 (F_term 2) := go__law_term T g2 (by omega) g3 (by omega) t1 (by omega) h1 (by omega) (body_term 1)
  have h2 : FnD Pg w K mg base T.D__law_head 7 (F_head 2) := go__law_head T g2 (by omega) g3 (by omega) t2 (by omega) (body_head 2)
  have t3 : FnD Pg w K mg base T.D__law_term 8 (F_term 3) := go__law_term T g2 (by omega) g3 (by omega) t2 (by omega) h2 (by omega) (body_term 2)
  have h3 : FnD Pg w K mg base T.D__law_head 9 (F_head 3) := go__law_head T g2 (by omega) g3 (by omega) t3 (by omega) (body_head 3)
  have t4 : FnD Pg w K mg base T.D__law_term 10 (F_term 4) := go__law_term T g2 (by omega) g3 (by omega) t3 (by omega) h3 (by omega) (body_term 3)
  have w0 : FnD Pg w K mg base T.D__law_walk 0 (F_walk 0) := fn_never F_walk0
  have wk : ∀ n : Nat, FnD Pg w K mg base T.D__law_walk n (F_walk n) := by
    intro n
    induction n with
    | zero => exact w0
    | succ n ih => exact go__law_walk T ih (Nat.le_refl _) (body_walk n)
  have m1 : FnD Pg w K mg base T.D__law_many 1 F_many := go__law_many T body_many
  have p1 : FnD Pg w K mg base T.D_inner_parts 1 F_inner := go_inner_parts T body_inner
  have p2 : FnD Pg w K mg base T.D_terms_in 2 F_terms := go_terms_in T p1 (by omega) body_terms
  have p3 : FnD Pg w K mg base T.D_constants 1 F_const := go_constants T body_const
  have p4 : FnD Pg w K mg base T.D_wanted 1 F_wanted := go_wanted T body_wanted
  have p5 : FnD Pg w K mg base T.D_miscounts 3 F_mis := go_miscounts T p2 (by omega) p3 (by omega) p4 (by omega) body_mis
  have s0 : FnD Pg w K mg base T.D__law_same 0 (F_same 0) := fn_never fun ms G ⟨m, _, h, _⟩ => by
    cases m with
    | im d => simp [D.sane] at h
    | ls ds => simp [D.sane] at h
    | _ => exact h.elim
  have s1 : FnD Pg w K mg base T.D__law_same 1 (F_same 1) := go__law_same T s0 (Nat.le_refl _) (body_same 0)
  have s2 : FnD Pg w K mg base T.D__law_same 2 (F_same 2) := go__law_same T s1 (Nat.le_refl _) (body_same 1)
  have s3 : FnD Pg w K mg base T.D__law_same 3 (F_same 3) := go__law_same T s2 (Nat.le_refl _) (body_same 2)
  exact go_law T g1 (by omega) g2 (by omega) t4 (by omega) g3 (by omega) (wk 12) (by omega) m1 (by omega) p5 (by omega) s3 (by omega) body_law
theorem law_join {Pg : Program} {w : World} {K : PySem.W.Frag} {mg : Str → Option Value} {fa : Addr} {h : Heap} (KX : K.In h) (hmg : mg "law" = some (.ref fa)) (T : Top w K mg) :
    ∃ fd : FuncData, (∀ (s : Shared) (u : Value), BindsTo s fd ⟨[u], []⟩ [("script", u)]) ∧ ∀ base : Heap, K.In base → base.Ns mainGlobals mg → FnOk Pg w K mg base CX0 65 fa fd ["script"] (spD K F_law 1) := by
  have e := hmg.symm.trans T.D_law.mg
  cases e
  exact ⟨_, T.bl, fun base _ _ => law_all T⟩
end Y
open PySem PySem.W PyProof.Rows
set_option maxRecDepth 100000 in
set_option maxHeartbeats 0 in
theorem PySem.Challenge.cw_wherewritten_k71_miscounts_holds : PySem.Challenge.rw_wherewritten_k71_miscounts.Holds := by
  w_on; o_law; k_head; (case hw => w_witness2)
  k_fill
  refine Y.walkY (l := PySem.Challenge.rw_wherewritten_k71_miscounts) (F := Y.F_law) rfl rfl Y.law_start (fun w h Y => PySem.W.kIn_of Y) ?F
  case F =>
    intro w mg fa h KX G hmg
    refine' Y.law_join KX hmg (Y.tp_mk KX G ?a0 ?l0 ?c0 ?k0 ?a1 ?l1 ?c1 ?k1 ?a2 ?l2 ?c2 ?k2 ?a3 ?l3 ?c3 ?k3 ?a4 ?l4 ?c4 ?k4 ?a5 ?l5 ?c5 ?k5 ?a6 ?l6 ?c6 ?k6 ?a7 ?l7 ?c7 ?k7 ?a8 ?l8 ?c8 ?k8 ?a9 ?l9 ?c9 ?k9 ?a10 ?l10 ?c10 ?k10 ?a11 ?l11 ?c11 ?k11 ?a12 ?l12 ?c12 ?k12 ?a13 ?l13 ?c13 ?k13 ?z0 ?z1 ?z2 ?z3 ?z4 ?z5 ?z6 ?z7 ?z8 ?z9 ?tg0 ?tl0 ?tk0 ?ts0 ?tr0)
    (case a0 => k_is); (case l0 => k_is); (case c0 => k_is); (case k0 => k_is)
    (case a1 => k_is); (case l1 => k_is); (case c1 => k_is); (case k1 => k_is)
    (case a2 => k_is); (case l2 => k_is); (case c2 => k_is); (case k2 => k_is)
    (case a3 => k_is); (case l3 => k_is); (case c3 => k_is); (case k3 => k_is)
    (case a4 => k_is); (case l4 => k_is); (case c4 => k_is); (case k4 => k_is)
    (case a5 => k_is); (case l5 => k_is); (case c5 => k_is); (case k5 => k_is)
    (case a6 => k_is); (case l6 => k_is); (case c6 => k_is); (case k6 => k_is)
    (case a7 => k_is); (case l7 => k_is); (case c7 => k_is); (case k7 => k_is)
    (case a8 => k_is); (case l8 => k_is); (case c8 => k_is); (case k8 => k_is)
    (case a9 => k_is); (case l9 => k_is); (case c9 => k_is); (case k9 => k_is)
    (case a10 => k_is); (case l10 => k_is); (case c10 => k_is); (case k10 => k_is)
    (case a11 => k_is); (case l11 => k_is); (case c11 => k_is); (case k11 => k_is)
    (case a12 => k_is); (case l12 => k_is); (case c12 => k_is); (case k12 => k_is)
    (case a13 => k_is); (case l13 => k_is); (case c13 => k_is); (case k13 => k_is)
    (case z0 => k_is); (case z1 => k_is); (case z2 => k_is); (case z3 => k_is)
    (case z4 => k_is); (case z5 => k_is); (case z6 => k_is); (case z7 => k_is)
    (case z8 => k_is); (case z9 => k_is); (case tg0 => k_is); (case tl0 => k_is)
    (case tk0 => k_keys); (case ts0 => decide); (case tr0 => (repeat (first | exact Paired.nil | refine Paired.cons ⟨⟨_, rfl⟩, _, rfl, by first | exact ⟨_, rfl⟩ | exact rfl⟩ ?_)))
