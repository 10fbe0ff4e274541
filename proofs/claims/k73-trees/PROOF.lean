import PyProof.Rows.All
import Wide.All
import OpenK.AllK
import Wide.FinOn
import HandS.ForMost
import HandS.ForExc
import HandS.IsInst
import HandS.Walk
import HandS.Flow
import HandS.Codes
import HandS.RaiseMore
import HandS.FStr
import HandS.Conv
import PySem.Challenge.RW_exchangetowers_k73_trees_written_and_rea
set_option Elab.async false
set_option linter.all false
set_option maxRecDepth 100000
/-! The value layer: plain data D in the place of addresses; what a slot owns stands apart from what the others own. -/
namespace L2.VL
open PySem PySem.Spec PyProof.Rows

inductive D where
  | non | bl (b : Bool) | int (i : Int) | str (x : Str) | ty (n : String) | adr (a : Addr)
  | rol (l : List Int)
  | tup (l : List D) | lst (l : List D)
  | dK (ks : List Key) (vs : List D) | dT (ks : List (List Key)) (vs : List D)
  | obj (C : Addr) (fs : List Str) (vs : List D)

mutual
/-- never changes -/
@[simp] def D.im : D → Bool
  | .tup l => D.ims l
  | .lst _ => false
  | .dK _ _ => false
  | .dT _ _ => false
  | .obj _ _ _ => false
  | _ => true
@[simp] def D.ims : List D → Bool
  | [] => true
  | d :: r => d.im && D.ims r
end
theorem D.ims_all : ∀ l : List D, D.ims l = l.all D.im
  | [] => rfl
  | d :: r => by
    show (d.im && D.ims r) = (d :: r).all D.im
    rw [D.ims_all r, List.all_cons]

/-- a list that is read alone -/
def RoL (K : PySem.W.Frag) (H : Hp) (a : Addr) (xs : List V) : Prop :=
  (∃ o, H a = some (.frz o (.lst xs))) ∨
    ∃ (o : Obj) (its : Array Value) (n : Nat), K.lookup a = some o ∧ o.cls = .type "list" ∧ o.dict = none ∧ o.data = .seq its n ∧ its.size ≤ sizeLine ∧ Vals xs its.toList
theorem RoL.seq {K : PySem.W.Frag} {H : Hp} {a : Addr} {xs : List V} (h : RoL K H a xs) : SqL K H a xs := by
  rcases h with ⟨o, h⟩ | h
  · exact .inl (.inr ⟨o, h⟩)
  · exact .inr h

mutual
inductive Own (K : PySem.W.Frag) (H : Hp) : D → V → List Addr → Prop
  | non : Own K H .non .non []
  | bl (b : Bool) : Own K H (.bl b) (.bl b) []
  | int (i : Int) : Own K H (.int i) (.int i) []
  | str (x : Str) : Own K H (.str x) (.str x) []
  | ty (n : String) : Own K H (.ty n) (.ty n) []
  | adr (a : Addr) : Own K H (.adr a) (.ref a) []
  | rol {ns : List Int} {a : Addr} : RoL K H a (ns.map V.int) → Own K H (.rol ns) (.ref a) []
  | tup {ds : List D} {vs : List V} {a : Addr} {fp : List Addr} : H a = some (.tup vs) → Owns K H ds vs fp → Own K H (.tup ds) (.ref a) fp
  | lst {ds : List D} {vs : List V} {a : Addr} {fp : List Addr} : H a = some (.lst vs) → Owns K H ds vs fp → a ∉ fp → Own K H (.lst ds) (.ref a) (a :: fp)
  | dK {ks : List Key} {ds : List D} {kvs : List (Key × V)} {a : Addr} {fp : List Addr} : H a = some (.dK kvs) → kvs.map (·.1) = ks → Owns K H ds (kvs.map (·.2)) fp → a ∉ fp → Own K H (.dK ks ds) (.ref a) (a :: fp)
  | dT {ks : List (List Key)} {ds : List D} {kvs : List (List Key × V)} {a : Addr} {fp : List Addr} : H a = some (.dT kvs) → kvs.map (·.1) = ks → Owns K H ds (kvs.map (·.2)) fp → a ∉ fp → Own K H (.dT ks ds) (.ref a) (a :: fp)
  | obj {C : Addr} {fs : List Str} {ds : List D} {dx : Addr} {kvs : List (Str × V)} {a : Addr} {fp : List Addr} : H a = some (.ins C dx kvs) → kvs.map (·.1) = fs → Owns K H ds (kvs.map (·.2)) fp → a ∉ fp → Own K H (.obj C fs ds) (.ref a) (a :: fp)
inductive Owns (K : PySem.W.Frag) (H : Hp) : List D → List V → List Addr → Prop
  | nil : Owns K H [] [] []
  | cons {d : D} {v : V} {ds : List D} {vs : List V} {fp fps : List Addr} : Own K H d v fp → Owns K H ds vs fps → (∀ a ∈ fp, a ∉ fps) → Owns K H (d :: ds) (v :: vs) (fp ++ fps)
end

section
variable {K : PySem.W.Frag} {H H' : Hp}
mutual
theorem Own.mut : ∀ {d : D} {v : V} {fp : List Addr}, Own K H d v fp → ∀ b ∈ fp, Mut (H b)
  | _, _, _, .non, b, h => nomatch h
  | _, _, _, .bl _, b, h => nomatch h
  | _, _, _, .int _, b, h => nomatch h
  | _, _, _, .str _, b, h => nomatch h
  | _, _, _, .ty _, b, h => nomatch h
  | _, _, _, .adr _, b, h => nomatch h
  | _, _, _, .rol _, b, h => nomatch h
  | _, _, _, .tup _ o, b, h => Owns.mut o b h
  | _, _, _, .lst e o _, b, h => by
    rcases List.mem_cons.mp h with rfl | h
    · rw [e]; exact True.intro
    · exact Owns.mut o b h
  | _, _, _, .dK e _ o _, b, h => by
    rcases List.mem_cons.mp h with rfl | h
    · rw [e]; exact True.intro
    · exact Owns.mut o b h
  | _, _, _, .dT e _ o _, b, h => by
    rcases List.mem_cons.mp h with rfl | h
    · rw [e]; exact True.intro
    · exact Owns.mut o b h
  | _, _, _, .obj e _ o _, b, h => by
    rcases List.mem_cons.mp h with rfl | h
    · rw [e]; exact True.intro
    · exact Owns.mut o b h
theorem Owns.mut : ∀ {ds : List D} {vs : List V} {fp : List Addr}, Owns K H ds vs fp → ∀ b ∈ fp, Mut (H b)
  | _, _, _, .nil, b, h => nomatch h
  | _, _, _, .cons o r _, b, h => by
    rcases List.mem_append.mp h with h | h
    · exact Own.mut o b h
    · exact Owns.mut r b h
end
end
end L2.VL
set_option Elab.async false
set_option linter.all false
set_option maxRecDepth 100000
namespace L2.VL
open PySem PySem.Spec PyProof.Rows

section
variable {K : PySem.W.Frag} {H H' : Hp} {S : Addr → Prop}
theorem RoL.keep {a : Addr} {xs : List V} (hk : ∀ b o, H b = some o → (Mut (some o) → S b) → H' b = some o) (h : RoL K H a xs) : RoL K H' a xs := by
  rcases h with ⟨o, h⟩ | h
  · exact .inl ⟨o, hk _ _ h fun z => False.elim z⟩
  · exact .inr h
mutual
theorem Own.keep (hk : ∀ b o, H b = some o → (Mut (some o) → S b) → H' b = some o) : ∀ {d : D} {v : V} {fp : List Addr}, Own K H d v fp → (∀ b ∈ fp, S b) → Own K H' d v fp
  | _, _, _, .non, _ => .non
  | _, _, _, .bl b, _ => .bl b
  | _, _, _, .int i, _ => .int i
  | _, _, _, .str x, _ => .str x
  | _, _, _, .ty n, _ => .ty n
  | _, _, _, .adr a, _ => .adr a
  | _, _, _, .rol h, _ => .rol (RoL.keep hk h)
  | _, _, _, .tup e o, hS => .tup (hk _ _ e fun z => False.elim z) (Owns.keep hk o hS)
  | _, _, _, .lst e o n, hS => .lst (hk _ _ e fun _ => hS _ List.mem_cons_self) (Owns.keep hk o fun b hb => hS b (List.mem_cons_of_mem _ hb)) n
  | _, _, _, .dK e k o n, hS => .dK (hk _ _ e fun _ => hS _ List.mem_cons_self) k (Owns.keep hk o fun b hb => hS b (List.mem_cons_of_mem _ hb)) n
  | _, _, _, .dT e k o n, hS => .dT (hk _ _ e fun _ => hS _ List.mem_cons_self) k (Owns.keep hk o fun b hb => hS b (List.mem_cons_of_mem _ hb)) n
  | _, _, _, .obj e k o n, hS => .obj (hk _ _ e fun _ => hS _ List.mem_cons_self) k (Owns.keep hk o fun b hb => hS b (List.mem_cons_of_mem _ hb)) n
theorem Owns.keep (hk : ∀ b o, H b = some o → (Mut (some o) → S b) → H' b = some o) : ∀ {ds : List D} {vs : List V} {fp : List Addr}, Owns K H ds vs fp → (∀ b ∈ fp, S b) → Owns K H' ds vs fp
  | _, _, _, .nil, _ => .nil
  | _, _, _, .cons o r n, hS => .cons (Own.keep hk o fun b hb => hS b (List.mem_append_left _ hb)) (Owns.keep hk r fun b hb => hS b (List.mem_append_right _ hb)) n
end
mutual
theorem Own.imf : ∀ {d : D} {v : V} {fp : List Addr}, Own K H d v fp → d.im = true → fp = []
  | _, _, _, .non, _ => rfl
  | _, _, _, .bl b, _ => rfl
  | _, _, _, .int i, _ => rfl
  | _, _, _, .str x, _ => rfl
  | _, _, _, .ty n, _ => rfl
  | _, _, _, .adr a, _ => rfl
  | _, _, _, .rol h, _ => rfl
  | _, _, _, .tup e o, h => Owns.imf o (by simpa [D.im] using h)
  | _, _, _, .lst e o n, h => by simp [D.im] at h
  | _, _, _, .dK e k o n, h => by simp [D.im] at h
  | _, _, _, .dT e k o n, h => by simp [D.im] at h
  | _, _, _, .obj e k o n, h => by simp [D.im] at h
theorem Owns.imf : ∀ {ds : List D} {vs : List V} {fp : List Addr}, Owns K H ds vs fp → D.ims ds = true → fp = []
  | _, _, _, .nil, _ => rfl
  | _, _, _, .cons o r n, h => by
    simp only [D.ims, Bool.and_eq_true] at h
    rw [Own.imf o h.1, Owns.imf r h.2]
    rfl
end
theorem Mut.some_of {o : Option HO} (h : Mut o) : ∃ u, o = some u := by
  cases o with
  | none => exact False.elim h
  | some u => exact ⟨u, rfl⟩
theorem Own.ne_none {d : D} {v : V} {fp : List Addr} (o : Own K H d v fp) {b : Addr} (hb : b ∈ fp) (n : H b = none) : False := by
  have q := o.mut b hb
  rw [n] at q
  exact q
theorem Owns.ne_none {d : List D} {v : List V} {fp : List Addr} (o : Owns K H d v fp) {b : Addr} (hb : b ∈ fp) (n : H b = none) : False := by
  have q := o.mut b hb
  rw [n] at q
  exact q
/-- all but the footprint stays -/
def Fr (fp : List Addr) (H H' : Hp) : Prop := ∀ b o, H b = some o → b ∉ fp → H' b = some o
def New (fp : List Addr) (H : Hp) (fp' : List Addr) : Prop := ∀ b ∈ fp', b ∈ fp ∨ H b = none
def Dis (f g : List Addr) : Prop := ∀ a ∈ f, a ∉ g
theorem Dis.symm {f g : List Addr} (h : Dis f g) : Dis g f := fun a ha hb => h a hb ha
theorem Fr.refl (fp : List Addr) (H : Hp) : Fr fp H H := fun _ _ e _ => e
theorem Fr.of_same {fp : List Addr} (s : Same H H') : Fr fp H H' := fun b o e _ => s b o e
theorem New.refl (fp : List Addr) (H : Hp) : New fp H fp := fun _ h => .inl h
theorem New.nil (fp : List Addr) (H : Hp) : New fp H [] := fun _ h => nomatch h
theorem Fr.trans {f f1 : List Addr} {H1 H2 : Hp} (a : Fr f H H1) (n : New f H f1) (b : Fr f1 H1 H2) : Fr f H H2 := fun c o e hc =>
  b c o (a c o e hc) fun z => by
    rcases n c z with q | q
    · exact hc q
    · rw [q] at e; cases e
theorem Fr.none {f : List Addr} (a : Fr f H H') (hm : ∀ b ∈ f, Mut (H b)) {b : Addr} (n : H' b = none) (hb : b ∉ f) : H b = none := by
  cases q : H b with
  | none => rfl
  | some o =>
    rw [a b o q hb] at n
    cases n
theorem New.trans {f f1 f2 : List Addr} {H1 : Hp} (hm : ∀ b ∈ f, Mut (H b)) (a : Fr f H H1) (n : New f H f1) (n2 : New f1 H1 f2) : New f H f2 := fun c hc => by
  rcases n2 c hc with q | q
  · exact n c q
  · by_cases hf : c ∈ f
    · exact .inl hf
    · exact .inr (a.none hm q hf)
theorem Own.fr {d : D} {v : V} {fd fp : List Addr} (o : Own K H d v fd) (hd : Dis fd fp) (hm : ∀ b ∈ fp, Mut (H b)) (f : Fr fp H H') : Own K H' d v fd :=
  o.keep (S := fun b => b ∉ fp) (fun b u e hS => f b u e (by
    by_cases z : Mut (some u)
    · exact hS z
    · intro hb
      exact z (by rw [← e]; exact hm b hb))) hd
theorem Owns.fr {d : List D} {v : List V} {fd fp : List Addr} (o : Owns K H d v fd) (hd : Dis fd fp) (hm : ∀ b ∈ fp, Mut (H b)) (f : Fr fp H H') : Owns K H' d v fd :=
  o.keep (S := fun b => b ∉ fp) (fun b u e hS => f b u e (by
    by_cases z : Mut (some u)
    · exact hS z
    · intro hb
      exact z (by rw [← e]; exact hm b hb))) hd
theorem Own.same {d : D} {v : V} {fd : List Addr} (o : Own K H d v fd) (s : Same H H') : Own K H' d v fd := o.keep (S := fun _ => True) (fun b u e _ => s b u e) fun _ _ => True.intro
theorem Owns.same {d : List D} {v : List V} {fd : List Addr} (o : Owns K H d v fd) (s : Same H H') : Owns K H' d v fd := o.keep (S := fun _ => True) (fun b u e _ => s b u e) fun _ _ => True.intro
theorem Owns.len : ∀ {ds : List D} {vs : List V} {fp : List Addr}, Owns K H ds vs fp → ds.length = vs.length
  | _, _, _, .nil => rfl
  | _, _, _, .cons _ r _ => congrArg Nat.succ (Owns.len r)

/-- one of them, and another in its place -/
theorem Owns.lens : ∀ {ds : List D} {vs : List V} {fps : List Addr} {i : Nat} {k : D}, Owns K H ds vs fps → ds[i]? = some k →
    ∃ w fk, vs[i]? = some w ∧ Own K H k w fk ∧ (∀ b ∈ fk, b ∈ fps) ∧ ∀ H' k' fk', Fr fk H H' → Own K H' k' w fk' → (∀ b ∈ fk', b ∈ fk ∨ b ∉ fps) →
      ∃ fps', Owns K H' (ds.set i k') vs fps' ∧ ∀ b ∈ fps', (b ∈ fps ∧ b ∉ fk) ∨ b ∈ fk'
  | _, _, _, _, _, .nil, e => by simp at e
  | _, _, _, 0, k, .cons (d := d) (v := v) (ds := ds) (vs := vs) (fp := fp) (fps := fps) o r n, e => by
    simp at e
    subst e
    refine ⟨v, fp, rfl, o, fun b hb => List.mem_append_left _ hb, fun H' k' fk' f o' hn => ⟨fk' ++ fps, .cons o' (r.fr (Dis.symm n) o.mut f) (fun a ha hb => ?_), fun b hb => ?_⟩⟩
    · rcases hn a ha with q | q
      · exact n a q hb
      · exact q (List.mem_append_right _ hb)
    · rcases List.mem_append.mp hb with q | q
      · exact .inr q
      · exact .inl ⟨List.mem_append_right _ q, fun z => n b z q⟩
  | _, _, _, i + 1, k, .cons (d := d) (v := v) (ds := ds) (vs := vs) (fp := fp) (fps := fps) o r n, e => by
    obtain ⟨w, fk, h1, h2, h3, h4⟩ := Owns.lens r (by simpa using e)
    refine ⟨w, fk, by simpa using h1, h2, fun b hb => List.mem_append_right _ (h3 b hb), fun H' k' fk' f o' hn => ?_⟩
    obtain ⟨fps', q1, q2⟩ := h4 H' k' fk' f o' fun b hb => by
      rcases hn b hb with z | z
      · exact .inl z
      · exact .inr fun y => z (List.mem_append_right _ y)
    refine ⟨fp ++ fps', .cons (o.fr (fun a ha hb => n a ha (h3 a hb)) h2.mut f) q1 fun a ha hb => ?_, fun b hb => ?_⟩
    · rcases q2 a hb with ⟨z, _⟩ | z
      · exact n a ha z
      · rcases hn a z with y | y
        · exact n a ha (h3 a y)
        · exact y (List.mem_append_left _ ha)
    · rcases List.mem_append.mp hb with z | z
      · exact .inl ⟨List.mem_append_left _ z, fun y => n b z (h3 b y)⟩
      · rcases q2 b z with ⟨y, t⟩ | y
        · exact .inl ⟨List.mem_append_right _ y, t⟩
        · exact .inr y

/-! ### places -/
def Child (H : Hp) (a : Addr) (i : Nat) (w : V) : Prop :=
  ∃ vs : List V, vs[i]? = some w ∧ (H a = some (.lst vs) ∨ (∃ kvs : List (Key × V), H a = some (.dK kvs) ∧ kvs.map (·.2) = vs) ∨ (∃ kvs : List (List Key × V), H a = some (.dT kvs) ∧ kvs.map (·.2) = vs) ∨
    ∃ (C dx : Addr) (kvs : List (Str × V)), H a = some (.ins C dx kvs) ∧ kvs.map (·.2) = vs)
def Sub (H : Hp) : V → List Nat → V → Prop
  | u, [], v => u = v
  | u, i :: p, v => ∃ a w, u = .ref a ∧ Child H a i w ∧ Sub H w p v
theorem Child.fn {a : Addr} {i : Nat} {w w' : V} (h : Child H a i w) (h' : Child H a i w') : w = w' := by
  obtain ⟨vs, e, h⟩ := h
  obtain ⟨vs', e', h'⟩ := h'
  have q : vs = vs' := by
    rcases h with h | ⟨k, h, z⟩ | ⟨k, h, z⟩ | ⟨_, _, k, h, z⟩ <;> rcases h' with h' | ⟨k', h', z'⟩ | ⟨k', h', z'⟩ | ⟨_, _, k', h', z'⟩ <;> rw [h] at h' <;> cases h' <;> simp_all
  subst q
  rw [e] at e'
  exact Option.some.inj e'
theorem Sub.fn : ∀ {p : List Nat} {u v v' : V}, Sub H u p v → Sub H u p v' → v = v'
  | [], _, _, _, h, h' => h.symm.trans h'
  | i :: p, _, _, _, ⟨a, w, e, c, s⟩, ⟨a', w', e', c', s'⟩ => by
    subst e
    cases e'
    have := c.fn c'
    subst this
    exact Sub.fn s s'
theorem Child.same {a : Addr} {i : Nat} {w : V} (h : Child H a i w) (s : Same H H') : Child H' a i w := by
  obtain ⟨vs, e, h⟩ := h
  refine ⟨vs, e, ?_⟩
  rcases h with h | ⟨k, h, z⟩ | ⟨k, h, z⟩ | ⟨C, dx, k, h, z⟩
  · exact .inl (s _ _ h)
  · exact .inr (.inl ⟨k, s _ _ h, z⟩)
  · exact .inr (.inr (.inl ⟨k, s _ _ h, z⟩))
  · exact .inr (.inr (.inr ⟨C, dx, k, s _ _ h, z⟩))
theorem Sub.same (s : Same H H') : ∀ {p : List Nat} {u v : V}, Sub H u p v → Sub H' u p v
  | [], _, _, h => h
  | i :: p, _, _, ⟨a, w, e, c, q⟩ => ⟨a, w, e, c.same s, Sub.same s q⟩
end

@[simp] def D.kids : D → List D
  | .lst l => l
  | .dK _ l => l
  | .dT _ l => l
  | .obj _ _ l => l
  | _ => []
@[simp] def D.setKids : D → List D → D
  | .lst _, l => .lst l
  | .dK k _, l => .dK k l
  | .dT k _, l => .dT k l
  | .obj C f _, l => .obj C f l
  | d, _ => d
@[simp] def D.look : D → List Nat → Option D
  | d, [] => some d
  | d, i :: p => match d.kids[i]? with
    | some k => k.look p
    | none => none
@[simp] def D.put : D → List Nat → D → D
  | _, [], x => x
  | d, i :: p, x => match d.kids[i]? with
    | some k => d.setKids (d.kids.set i (k.put p x))
    | none => d

section
variable {K : PySem.W.Frag} {H : Hp}
/-- a place within -/
theorem Own.focus : ∀ {p : List Nat} {d x : D} {u : V} {fd : List Addr}, Own K H d u fd → d.look p = some x →
    ∃ v fx, Sub H u p v ∧ Own K H x v fx ∧ (∀ b ∈ fx, b ∈ fd) ∧ ∀ H' x' fx', Fr fx H H' → Own K H' x' v fx' → (∀ b ∈ fx', b ∈ fx ∨ b ∉ fd) →
      ∃ fd', Own K H' (d.put p x') u fd' ∧ ∀ b ∈ fd', (b ∈ fd ∧ b ∉ fx) ∨ b ∈ fx'
  | [], d, x, u, fd, o, e => by
    cases e
    exact ⟨u, fd, rfl, o, fun _ h => h, fun H' x' fx' _ o' _ => ⟨fx', o', fun _ h => .inr h⟩⟩
  | i :: p, d, x, u, fd, o, e => by
    -- the four kinds of nodes
    have node : ∀ {ds : List D} {vs : List V} {a : Addr} {fp : List Addr}, d.kids = ds → u = .ref a → fd = a :: fp → Owns K H ds vs fp → a ∉ fp → (∀ i w, vs[i]? = some w → Child H a i w) →
        (∀ H' ds' fp', H' a = H a → Owns K H' ds' vs fp' → a ∉ fp' → Own K H' (d.setKids ds') u (a :: fp')) → (∃ u, H a = some u) →
        ∃ v fx, Sub H u (i :: p) v ∧ Own K H x v fx ∧ (∀ b ∈ fx, b ∈ fd) ∧ ∀ H' x' fx', Fr fx H H' → Own K H' x' v fx' → (∀ b ∈ fx', b ∈ fx ∨ b ∉ fd) →
          ∃ fd', Own K H' (d.put (i :: p) x') u fd' ∧ ∀ b ∈ fd', (b ∈ fd ∧ b ∉ fx) ∨ b ∈ fx' := by
      intro ds vs a fp hk hu hf os na hc mk ⟨ob, hob⟩
      unfold D.look at e
      rw [hk] at e
      cases hi : ds[i]? with
      | none => rw [hi] at e; cases e
      | some k =>
        rw [hi] at e
        obtain ⟨w, fk, h1, h2, h3, h4⟩ := os.lens hi
        obtain ⟨v, fx, g1, g2, g3, g4⟩ := Own.focus h2 (show k.look p = some x from e)
        refine ⟨v, fx, ⟨a, w, hu, hc i w h1, g1⟩, g2, fun b hb => by rw [hf]; exact List.mem_cons_of_mem _ (h3 b (g3 b hb)), fun H' x' fx' f o' hn => ?_⟩
        have hn1 : ∀ b ∈ fx', b ∈ fx ∨ b ∉ fk := fun b hb => by
          rcases hn b hb with q | q
          · exact .inl q
          · exact .inr fun z => q (by rw [hf]; exact List.mem_cons_of_mem _ (h3 b z))
        obtain ⟨fk', o2, n2⟩ := g4 H' x' fx' f o' hn1
        have f2 : Fr fk H H' := fun b u q hb => f b u q fun z => hb (g3 b z)
        obtain ⟨fps', o3, n3⟩ := h4 H' (k.put p x') fk' f2 o2 fun b hb => by
          rcases n2 b hb with ⟨q, _⟩ | q
          · exact .inl q
          · rcases hn b q with z | z
            · exact .inl (g3 b z)
            · exact .inr fun y => z (by rw [hf]; exact List.mem_cons_of_mem _ y)
        have nax : a ∉ fx := fun z => na (h3 a (g3 a z))
        have nap : a ∉ fps' := fun z => by
          rcases n3 a z with ⟨q, _⟩ | q
          · exact na q
          · rcases n2 a q with ⟨y, _⟩ | y
            · exact na (h3 a y)
            · rcases hn a y with t | t
              · exact nax t
              · exact t (by rw [hf]; exact List.mem_cons_self)
        refine ⟨a :: fps', ?_, fun b hb => ?_⟩
        · have := mk H' _ fps' (by rw [hob]; exact f a ob hob nax) o3 nap
          unfold D.put
          rw [hk, hi]
          exact this
        · rcases List.mem_cons.mp hb with q | q
          · exact .inl ⟨by rw [hf, q]; exact List.mem_cons_self, by rw [q]; exact nax⟩
          · rcases n3 b q with ⟨y, t⟩ | y
            · exact .inl ⟨by rw [hf]; exact List.mem_cons_of_mem _ y, fun z => t (g3 b z)⟩
            · rcases n2 b y with ⟨t, r⟩ | t
              · exact .inl ⟨by rw [hf]; exact List.mem_cons_of_mem _ (h3 b t), r⟩
              · exact .inr t
    cases o with
    | lst q os na => exact node rfl rfl rfl os na (fun i w e => ⟨_, e, .inl q⟩) (fun H' ds' fp' h o n => .lst (h.trans q) o n) ⟨_, q⟩
    | dK q k os na => exact node rfl rfl rfl os na (fun i w e => ⟨_, e, .inr (.inl ⟨_, q, rfl⟩)⟩) (fun H' ds' fp' h o n => .dK (h.trans q) k o n) ⟨_, q⟩
    | dT q k os na => exact node rfl rfl rfl os na (fun i w e => ⟨_, e, .inr (.inr (.inl ⟨_, q, rfl⟩))⟩) (fun H' ds' fp' h o n => .dT (h.trans q) k o n) ⟨_, q⟩
    | obj q k os na => exact node rfl rfl rfl os na (fun i w e => ⟨_, e, .inr (.inr (.inr ⟨_, _, _, q, rfl⟩))⟩) (fun H' ds' fp' h o n => .obj (h.trans q) k o n) ⟨_, q⟩
    | _ => simp [D.look, D.kids] at e
end
end L2.VL
set_option Elab.async false
set_option linter.all false
set_option maxRecDepth 100000
namespace L2.VL
open PySem PySem.Spec PyProof.Rows

/-- slots by what they hold -/
abbrev SE := List (Option D)
inductive OwnE (K : PySem.W.Frag) (H : Hp) : SE → St → List Addr → Prop
  | nil : OwnE K H [] [] []
  | skip {e : SE} {σ : St} {x : Option V} {fp : List Addr} : OwnE K H e σ fp → OwnE K H (none :: e) (x :: σ) fp
  | hold {d : D} {v : V} {e : SE} {σ : St} {fp fps : List Addr} : Own K H d v fp → OwnE K H e σ fps → Dis fp fps → OwnE K H (some d :: e) (some v :: σ) (fp ++ fps)

section
variable {K : PySem.W.Frag} {H H' : Hp}
theorem OwnE.len : ∀ {e : SE} {σ : St} {fp : List Addr}, OwnE K H e σ fp → e.length = σ.length
  | _, _, _, .nil => rfl
  | _, _, _, .skip h => congrArg Nat.succ h.len
  | _, _, _, .hold _ h _ => congrArg Nat.succ h.len
theorem OwnE.mut : ∀ {e : SE} {σ : St} {fp : List Addr}, OwnE K H e σ fp → ∀ b ∈ fp, Mut (H b)
  | _, _, _, .nil, b, h => nomatch h
  | _, _, _, .skip r, b, h => r.mut b h
  | _, _, _, .hold o r _, b, h => by
    rcases List.mem_append.mp h with h | h
    · exact o.mut b h
    · exact r.mut b h
theorem OwnE.ne_none {e : SE} {σ : St} {fp : List Addr} (o : OwnE K H e σ fp) {b : Addr} (hb : b ∈ fp) (n : H b = none) : False := by
  have q := o.mut b hb
  rw [n] at q
  exact q
theorem OwnE.fr : ∀ {e : SE} {σ : St} {fd fp : List Addr}, OwnE K H e σ fd → Dis fd fp → (∀ b ∈ fp, Mut (H b)) → Fr fp H H' → OwnE K H' e σ fd
  | _, _, _, _, .nil, _, _, _ => .nil
  | _, _, _, _, .skip r, d, m, f => .skip (r.fr d m f)
  | _, _, _, _, .hold o r n, d, m, f => .hold (o.fr (fun a ha => d a (List.mem_append_left _ ha)) m f) (r.fr (fun a ha => d a (List.mem_append_right _ ha)) m f) n
theorem OwnE.same : ∀ {e : SE} {σ : St} {fd : List Addr}, OwnE K H e σ fd → Same H H' → OwnE K H' e σ fd
  | _, _, _, .nil, _ => .nil
  | _, _, _, .skip r, s => .skip (r.same s)
  | _, _, _, .hold o r n, s => .hold (o.same s) (r.same s) n
theorem OwnE.lens : ∀ {e : SE} {σ : St} {fp : List Addr} {j : Nat} {d : D}, OwnE K H e σ fp → e[j]? = some (some d) →
    ∃ v fd, σ[j]? = some (some v) ∧ Own K H d v fd ∧ (∀ b ∈ fd, b ∈ fp) ∧ ∀ H' d' fd', Fr fd H H' → Own K H' d' v fd' → (∀ b ∈ fd', b ∈ fd ∨ b ∉ fp) →
      ∃ fp', OwnE K H' (e.set j (some d')) σ fp' ∧ ∀ b ∈ fp', (b ∈ fp ∧ b ∉ fd) ∨ b ∈ fd'
  | _, _, _, _, _, .nil, h => by simp at h
  | _, _, _, 0, _, .skip r, h => by simp at h
  | _, _, _, j + 1, d, .skip (e := e) (σ := σ) (x := x) (fp := fp) r, h => by
    obtain ⟨v, fd, h1, h2, h3, h4⟩ := r.lens (by simpa using h)
    refine ⟨v, fd, by simpa using h1, h2, h3, fun H' d' fd' f o n => ?_⟩
    obtain ⟨fp', q1, q2⟩ := h4 H' d' fd' f o n
    exact ⟨fp', .skip q1, q2⟩
  | _, _, _, 0, d, .hold (d := d0) (v := v) (e := e) (σ := σ) (fp := fp) (fps := fps) o r n, h => by
    simp at h
    subst h
    refine ⟨v, fp, rfl, o, fun b hb => List.mem_append_left _ hb, fun H' d' fd' f o' hn => ⟨fd' ++ fps, .hold o' (r.fr (Dis.symm n) o.mut f) (fun a ha hb => ?_), fun b hb => ?_⟩⟩
    · rcases hn a ha with q | q
      · exact n a q hb
      · exact q (List.mem_append_right _ hb)
    · rcases List.mem_append.mp hb with q | q
      · exact .inr q
      · exact .inl ⟨List.mem_append_right _ q, fun z => n b z q⟩
  | _, _, _, j + 1, d, .hold (d := d0) (v := v) (e := e) (σ := σ) (fp := fp) (fps := fps) o r n, h => by
    obtain ⟨w, fk, h1, h2, h3, h4⟩ := r.lens (show e[j]? = some (some d) by simpa using h)
    refine ⟨w, fk, by simpa using h1, h2, fun b hb => List.mem_append_right _ (h3 b hb), fun H' k' fk' f o' hn => ?_⟩
    obtain ⟨fps', q1, q2⟩ := h4 H' k' fk' f o' fun b hb => by
      rcases hn b hb with z | z
      · exact .inl z
      · exact .inr fun y => z (List.mem_append_right _ y)
    refine ⟨fp ++ fps', .hold (o.fr (fun a ha hb => n a ha (h3 a hb)) h2.mut f) q1 fun a ha hb => ?_, fun b hb => ?_⟩
    · rcases q2 a hb with ⟨z, _⟩ | z
      · exact n a ha z
      · rcases hn a z with y | y
        · exact n a ha (h3 a y)
        · exact y (List.mem_append_left _ ha)
    · rcases List.mem_append.mp hb with z | z
      · exact .inl ⟨List.mem_append_left _ z, fun y => n b z (h3 b y)⟩
      · rcases q2 b z with ⟨y, t⟩ | y
        · exact .inl ⟨List.mem_append_right _ y, t⟩
        · exact .inr y
/-- out of its slot -/
theorem OwnE.take : ∀ {e : SE} {σ : St} {fp : List Addr} {j : Nat} {d : D}, OwnE K H e σ fp → e[j]? = some (some d) →
    ∃ v fd fr, σ[j]? = some (some v) ∧ Own K H d v fd ∧ OwnE K H (e.set j none) σ fr ∧ Dis fd fr ∧ ∀ a, a ∈ fp ↔ a ∈ fd ∨ a ∈ fr
  | _, _, _, _, _, .nil, h => by simp at h
  | _, _, _, 0, _, .skip r, h => by simp at h
  | _, _, _, j + 1, d, .skip r, h => by
    obtain ⟨v, fd, fr, h1, h2, h3, h4, h5⟩ := r.take (by simpa using h)
    exact ⟨v, fd, fr, by simpa using h1, h2, .skip h3, h4, h5⟩
  | _, _, _, 0, d, .hold (v := v) (fp := fp) (fps := fps) o r n, h => by
    simp at h
    subst h
    exact ⟨v, fp, fps, rfl, o, .skip r, n, fun a => List.mem_append⟩
  | _, _, _, j + 1, d, .hold (v := v) (fp := fp) (fps := fps) o r n, h => by
    obtain ⟨w, fd, fr, h1, h2, h3, h4, h5⟩ := r.take (by simpa using h)
    refine ⟨w, fd, fp ++ fr, by simpa using h1, h2, .hold o h3 (fun a ha hb => n a ha ((h5 a).mpr (.inr hb))), fun a ha hb => ?_, fun a => ?_⟩
    · rcases List.mem_append.mp hb with q | q
      · exact n a q ((h5 a).mpr (.inl ha))
      · exact h4 a ha q
    · simp only [List.mem_append, h5 a]
      constructor
      · rintro (h | h | h)
        · exact .inr (.inl h)
        · exact .inl h
        · exact .inr (.inr h)
      · rintro (h | h | h)
        · exact .inr (.inl h)
        · exact .inl h
        · exact .inr (.inr h)
/-- forgotten -/
theorem OwnE.drop : ∀ {e : SE} {σ : St} {fp : List Addr} (j : Nat), OwnE K H e σ fp → ∃ fr, OwnE K H (e.set j none) σ fr ∧ ∀ a ∈ fr, a ∈ fp
  | _, _, _, _, .nil => ⟨[], .nil, fun _ h => h⟩
  | _, _, _, 0, .skip r => ⟨_, .skip r, fun _ h => h⟩
  | _, _, _, 0, .hold o r n => ⟨_, .skip r, fun _ h => List.mem_append_right _ h⟩
  | _, _, _, j + 1, .skip r => by
    obtain ⟨fr, h1, h2⟩ := r.drop j
    exact ⟨fr, .skip h1, h2⟩
  | _, _, _, j + 1, .hold (fp := fp) o r n => by
    obtain ⟨fr, h1, h2⟩ := r.drop j
    refine ⟨fp ++ fr, .hold o h1 fun a ha hb => n a ha (h2 a hb), fun a ha => ?_⟩
    rcases List.mem_append.mp ha with q | q
    · exact List.mem_append_left _ q
    · exact List.mem_append_right _ (h2 a q)
/-- into an empty slot; the slot's value may be any where it was empty -/
theorem OwnE.putS : ∀ {e : SE} {σ : St} {fr fd : List Addr} {j : Nat} {d : D} {v : V}, OwnE K H e σ fr → e[j]? = some none → Own K H d v fd → Dis fd fr →
    ∃ fp, OwnE K H (e.set j (some d)) (σ.set j (some v)) fp ∧ ∀ a, a ∈ fp ↔ a ∈ fd ∨ a ∈ fr
  | _, _, _, _, _, _, _, .nil, h, _, _ => by simp at h
  | _, _, _, _, 0, _, _, .skip r, h, o, n => ⟨_, .hold o r n, fun a => List.mem_append⟩
  | _, _, _, _, 0, _, _, .hold _ _ _, h, _, _ => by simp at h
  | _, _, _, _, j + 1, d, v, .skip r, h, o, n => by
    obtain ⟨fp, h1, h2⟩ := r.putS (j := j) (by simpa using h) o n
    exact ⟨fp, .skip h1, h2⟩
  | _, _, _, fd, j + 1, d, v, .hold (fp := f0) (fps := f1) o0 r n0, h, o, n => by
    obtain ⟨fp, h1, h2⟩ := r.putS (j := j) (by simpa using h) o (fun a ha hb => n a ha (List.mem_append_right _ hb))
    refine ⟨f0 ++ fp, .hold o0 h1 fun a ha hb => ?_, fun a => ?_⟩
    · rcases (h2 a).mp hb with q | q
      · exact n a q (List.mem_append_left _ ha)
      · exact n0 a ha q
    · simp only [List.mem_append, h2 a]
      constructor
      · rintro (h | h | h)
        · exact .inr (.inl h)
        · exact .inl h
        · exact .inr (.inr h)
      · rintro (h | h | h)
        · exact .inr (.inl h)
        · exact .inl h
        · exact .inr (.inr h)
theorem set_self {α : Type} : ∀ {l : List α} {j : Nat} {x : α}, l[j]? = some x → l.set j x = l
  | [], _, _, h => by simp at h
  | a :: r, 0, x, h => by
    simp at h
    subst h
    rfl
  | a :: r, j + 1, x, h => by
    rw [List.set_cons_succ, set_self (by simpa using h)]
theorem OwnE.putB {e : SE} {σ : St} {fr fd : List Addr} {j : Nat} {d : D} {v : V} (r : OwnE K H e σ fr) (h : e[j]? = some none) (hv : σ[j]? = some (some v)) (o : Own K H d v fd) (n : Dis fd fr) :
    ∃ fp, OwnE K H (e.set j (some d)) σ fp ∧ ∀ a, a ∈ fp ↔ a ∈ fd ∨ a ∈ fr := by
  have q := r.putS h o n
  rwa [set_self hv] at q
/-- an empty slot's value changes -/
theorem OwnE.any : ∀ {e : SE} {σ : St} {fr : List Addr} {j : Nat} (x : Option V), OwnE K H e σ fr → e[j]? = some none → OwnE K H e (σ.set j x) fr
  | _, _, _, _, _, .nil, h => by simp at h
  | _, _, _, 0, _, .skip r, _ => .skip r
  | _, _, _, 0, _, .hold _ _ _, h => by simp at h
  | _, _, _, j + 1, x, .skip r, h => .skip (r.any x (by simpa using h))
  | _, _, _, j + 1, x, .hold o r n, h => .hold o (r.any x (by simpa using h)) n
/-- a name gets a value -/
theorem OwnE.bind {e : SE} {σ : St} {fp fd : List Addr} {d : D} {v : V} (j : Nat) (r : OwnE K H e σ fp) (o : Own K H d v fd) (n : Dis fd fp) :
    ∃ fq, OwnE K H (e.set j (some d)) (σ.set j (some v)) fq ∧ ∀ a ∈ fq, a ∈ fd ∨ a ∈ fp := by
  obtain ⟨fr, h1, h2⟩ := r.drop j
  by_cases hj : j < e.length
  · have g : (e.set j none)[j]? = some none := by simp [hj]
    obtain ⟨fq, q1, q2⟩ := h1.putS g o fun a ha hb => n a ha (h2 a hb)
    rw [List.set_set] at q1
    refine ⟨fq, q1, fun a ha => ?_⟩
    rcases (q2 a).mp ha with z | z
    · exact .inl z
    · exact .inr (h2 a z)
  · have l := r.len
    rw [List.set_eq_of_length_le (by omega), List.set_eq_of_length_le (by omega)]
    exact ⟨fp, r, fun a ha => .inr ha⟩
end

/-! ### what an expression gives: a value of its own, or a place -/
inductive RV where
  | val (d : D)
  | plc (j : Nat) (p : List Nat)
@[simp] def SE.look (e : SE) (j : Nat) (p : List Nat) : Option D := match e[j]? with
  | some (some d) => d.look p
  | _ => none
@[simp] def SE.put (e : SE) (j : Nat) (p : List Nat) (x : D) : SE := match e[j]? with
  | some (some d) => e.set j (some (d.put p x))
  | _ => e
@[simp] def RV.get : RV → SE → Option D
  | .val d, _ => some d
  | .plc j p, e => SE.look e j p
@[simp] def RV.at (r : RV) (P : Nat → List Nat → Prop) : Prop := match r with
  | .plc j p => P j p
  | .val _ => False
theorem RV.at_iff {r : RV} {P : Nat → List Nat → Prop} : r.at P ↔ ∃ j p, r = .plc j p ∧ P j p := by
  cases r with
  | plc j p => exact ⟨fun h => ⟨j, p, rfl, h⟩, fun ⟨_, _, e, h⟩ => by cases e; exact h⟩
  | val d => exact ⟨fun h => False.elim h, fun ⟨_, _, e, _⟩ => by cases e⟩
@[simp] def RV.deep : RV → Bool
  | .plc _ (_ :: _) => true
  | _ => false
/-- moved out: its own, or one that never changes -/
@[simp] def Mv (r : RV) (e : SE) (d : D) : Prop := match r with
  | .val d' => d' = d
  | .plc j p => SE.look e j p = some d ∧ d.im = true

inductive OwnR (K : PySem.W.Frag) (H : Hp) (σ : St) (fp : List Addr) : RV → V → List Addr → Prop
  | val {d : D} {v : V} {fr : List Addr} : Own K H d v fr → Dis fr fp → OwnR K H σ fp (.val d) v fr
  | plc {j : Nat} {p : List Nat} {u v : V} : σ[j]? = some (some u) → Sub H u p v → OwnR K H σ fp (.plc j p) v []

section
variable {K : PySem.W.Frag} {H H' : Hp} {e e' : SE} {σ : St} {fp fp' fr : List Addr} {r : RV} {v : V} {d : D}
theorem OwnR.mut (o : OwnR K H σ fp r v fr) : ∀ b ∈ fr, Mut (H b) := by
  cases o with
  | val o _ => exact o.mut
  | plc _ _ => exact fun b hb => nomatch hb
theorem OwnR.dis (o : OwnR K H σ fp r v fr) : Dis fr fp := by
  cases o with
  | val o n => exact n
  | plc _ _ => exact fun b hb => nomatch hb
theorem Dis.later (n : Dis fr fp) (hm : ∀ b ∈ fr, Mut (H b)) (w : New fp H fp') : Dis fr fp' := fun a ha hb => by
  rcases w a hb with q | q
  · exact n a ha q
  · have := hm a ha
    rw [q] at this
    exact this
/-- behind what comes after it -/
theorem OwnR.after (o : OwnR K H σ fp r v fr) (hm : ∀ b ∈ fp, Mut (H b)) (f : Fr fp H H') (w : New fp H fp') (s : r.deep = true → Same H H') : OwnR K H' σ fp' r v fr := by
  cases o with
  | val o n => exact .val (o.fr n hm f) (n.later o.mut w)
  | @plc j p u _ h q =>
    cases p with
    | nil => exact .plc h q
    | cons i p => exact .plc h (q.same (s rfl))
theorem OwnE.at_ (E : OwnE K H e σ fp) {j : Nat} {p : List Nat} (h : SE.look e j p = some d) : ∃ u v fd, σ[j]? = some (some u) ∧ Sub H u p v ∧ Own K H d v fd ∧ ∀ b ∈ fd, b ∈ fp := by
  unfold SE.look at h
  split at h
  · rename_i d0 h0
    obtain ⟨u, f0, h1, h2, h3, _⟩ := E.lens h0
    obtain ⟨w, fx, g1, g2, g3, _⟩ := h2.focus h
    exact ⟨u, w, fx, h1, g1, g2, fun b hb => h3 b (g3 b hb)⟩
  · cases h
/-- read -/
theorem OwnR.read (o : OwnR K H σ fp r v fr) (E : OwnE K H e σ fp) (h : r.get e = some d) : ∃ fd, Own K H d v fd ∧ ∀ b ∈ fd, b ∈ fr ∨ b ∈ fp := by
  cases o with
  | val o n =>
    have z : some _ = some d := h
    cases z
    exact ⟨_, o, fun b hb => .inl hb⟩
  | plc hj q =>
    obtain ⟨u, w, fd, h1, h2, h3, h4⟩ := E.at_ (show SE.look e _ _ = some d from h)
    rw [hj] at h1
    cases h1
    rw [q.fn h2]
    exact ⟨fd, h3, fun b hb => .inr (h4 b hb)⟩
/-- moved -/
theorem OwnR.move (o : OwnR K H σ fp r v fr) (E : OwnE K H e σ fp) (h : Mv r e d) : Own K H d v fr := by
  cases o with
  | val o n =>
    have z : _ = d := h
    subst z
    exact o
  | plc hj q =>
    have z : SE.look e _ _ = some d ∧ d.im = true := h
    obtain ⟨u, w, fd, h1, h2, h3, h4⟩ := E.at_ z.1
    rw [hj] at h1
    cases h1
    have y := h3.imf z.2
    subst y
    rw [q.fn h2]
    exact h3
/-- a place gets another content: its address v stays -/
theorem OwnE.replace {j : Nat} {p : List Nat} {x : D} (E : OwnE K H e σ fp) (h : SE.look e j p = some x) : ∃ u v fx, σ[j]? = some (some u) ∧ Sub H u p v ∧ Own K H x v fx ∧ (∀ b ∈ fx, b ∈ fp) ∧
    ∀ H' x' fx', Fr fx H H' → Own K H' x' v fx' → (∀ b ∈ fx', b ∈ fx ∨ b ∉ fp) → ∃ fp', OwnE K H' (SE.put e j p x') σ fp' ∧ ∀ b ∈ fp', (b ∈ fp ∧ b ∉ fx) ∨ b ∈ fx' := by
  unfold SE.look at h
  split at h
  · rename_i d0 h0
    obtain ⟨u, f0, h1, h2, h3, h4⟩ := E.lens h0
    obtain ⟨w, fx, g1, g2, g3, g4⟩ := h2.focus h
    refine ⟨u, w, fx, h1, g1, g2, fun b hb => h3 b (g3 b hb), fun H' x' fx' f o n => ?_⟩
    obtain ⟨fd', q1, q2⟩ := g4 H' x' fx' f o fun b hb => by
      rcases n b hb with z | z
      · exact .inl z
      · exact .inr fun y => z (h3 b y)
    obtain ⟨fp', t1, t2⟩ := h4 H' (d0.put p x') fd' (fun b u hb nb => f b u hb fun z => nb (g3 b z)) q1 fun b hb => by
      rcases q2 b hb with ⟨z, _⟩ | z
      · exact .inl z
      · rcases n b z with y | y
        · exact .inl (g3 b y)
        · exact .inr y
    refine ⟨fp', ?_, fun b hb => ?_⟩
    · unfold SE.put
      rw [h0]
      exact t1
    · rcases t2 b hb with ⟨z, t⟩ | z
      · exact .inl ⟨z, fun y => t (g3 b y)⟩
      · rcases q2 b z with ⟨y, t⟩ | y
        · exact .inl ⟨h3 b y, t⟩
        · exact .inr y
  · cases h
end

/-! ### readings -/
abbrev TV := SE → (RV → SE → Prop) → Prop
abbrev TVT := SE → (Bool → SE → Prop) → Prop
abbrev TVA := SE → (List RV → SE → Prop) → Prop
def rd (K : PySem.W.Frag) (q : Bool) (t : TV) : TE := fun σ H Q => ∃ e fp R, OwnE K H e σ fp ∧ t e R ∧ ∀ r e' v H' fp' fr, R r e' → OwnE K H' e' σ fp' → OwnR K H' σ fp' r v fr → Fr fp H H' → New fp H fp' → New fp H fr →
  (q = true → e' = e ∧ Same H H') → Q v H'
def rdT (K : PySem.W.Frag) (q : Bool) (t : TVT) : TT := fun σ H Q => ∃ e fp R, OwnE K H e σ fp ∧ t e R ∧ ∀ b e' H' fp', R b e' → OwnE K H' e' σ fp' → Fr fp H H' → New fp H fp' → (q = true → e' = e ∧ Same H H') → Q b H'
inductive OwnRs (K : PySem.W.Frag) (H : Hp) (σ : St) (fp : List Addr) : List RV → List V → List Addr → Prop
  | nil : OwnRs K H σ fp [] [] []
  | cons {r : RV} {v : V} {rs : List RV} {vs : List V} {f fs : List Addr} : OwnR K H σ fp r v f → OwnRs K H σ fp rs vs fs → Dis f fs → OwnRs K H σ fp (r :: rs) (v :: vs) (f ++ fs)
def rdA (K : PySem.W.Frag) (q : Bool) (t : TVA) : TA := fun σ H Q => ∃ e fp R, OwnE K H e σ fp ∧ t e R ∧ ∀ rs e' vs H' fp' fr, R rs e' → OwnE K H' e' σ fp' → OwnRs K H' σ fp' rs vs fr → Fr fp H H' → New fp H fp' → New fp H fr →
  (q = true → e' = e ∧ Same H H') → Q vs H'
structure VE (X : Cx) (x : Expr) (q : Bool) (t : TV) : Prop where
  pe : PE X x (rd X.K q t)
structure VT (X : Cx) (x : Expr) (q : Bool) (t : TVT) : Prop where
  pt : PT X x (rdT X.K q t)
structure VA (X : Cx) (xs : List Expr) (q : Bool) (t : TVA) : Prop where
  pa : PA X xs (rdA X.K q t)
theorem PEimp {X : Cx} {x : Expr} {t t' : TE} (h : PE X x t) (i : ∀ σ H Q, t' σ H Q → t σ H Q) : PE X x t' := ⟨fun pins s σ H Q I w => h.run pins s σ H Q I (i _ _ _ w)⟩
theorem PTimp {X : Cx} {x : Expr} {t t' : TT} (h : PT X x t) (i : ∀ σ H Q, t' σ H Q → t σ H Q) : PT X x t' := ⟨fun pins s σ H Q I w => h.run pins s σ H Q I (i _ _ _ w)⟩
theorem PAimp {X : Cx} {x : List Expr} {t t' : TA} (h : PA X x t) (i : ∀ σ H Q, t' σ H Q → t σ H Q) : PA X x t' := ⟨fun pos pins s σ H Q I w => h.run pos pins s σ H Q I (i _ _ _ w)⟩
theorem PSimp {X : Cx} {x : Stmt} {t t' : TS} (h : PS X x t) (i : ∀ D σ H, t' D σ H → t D σ H) : PS X x t' := ⟨fun pins s σ H D I w => h.run pins s σ H D I (i _ _ _ w)⟩
theorem PSsimp {X : Cx} {x : List Stmt} {t t' : TS} (h : PSs X x t) (i : ∀ D σ H, t' D σ H → t D σ H) : PSs X x t' := ⟨fun pins s σ H D I w => h.run pins s σ H D I (i _ _ _ w)⟩

section
variable {X : Cx} {x a b : Expr} {qa qb : Bool} {ta tb : TV}
/-! ### names, constants -/
@[simp] def vVar (i : Nat) : TV := fun e R => ∃ d, e[i]? = some (some d) ∧ R (.plc i []) e
theorem ve_var {i : Nat} (h : PE X x (tVar i)) : VE X x true (vVar i) := ⟨PEimp h fun σ H Q ⟨e, fp, R, hE, ⟨d, hd, hR⟩, q⟩ => by
  obtain ⟨v, fd, h1, h2, h3, _⟩ := hE.lens hd
  exact ⟨v, h1, q _ e v H fp [] hR hE (.plc h1 rfl) (Fr.refl _ _) (New.refl _ _) (New.nil _ _) fun _ => ⟨rfl, Same.refl _⟩⟩⟩
@[simp] def vC (d : D) : TV := fun e R => R (.val d) e
theorem ve_const {d : D} {v : V} (h : PE X x (tC v)) (o : ∀ H, Own X.K H d v []) : VE X x true (vC d) := ⟨PEimp h fun σ H Q ⟨e, fp, R, hE, hR, q⟩ =>
  q _ e v H fp [] hR hE (.val (o H) (fun _ z => nomatch z)) (Fr.refl _ _) (New.refl _ _) (New.nil _ _) fun _ => ⟨rfl, Same.refl _⟩⟩
theorem ve_int {i j pos} : VE X (.Constant (.int i) j pos) true (vC (.int i)) := ve_const pe_int fun _ => .int i
theorem ve_bl {i j pos} : VE X (.Constant (.bool i) j pos) true (vC (.bl i)) := ve_const pe_bl fun _ => .bl i
theorem ve_non {j pos} : VE X (.Constant .none j pos) true (vC .non) := ve_const pe_non fun _ => .non
theorem ve_str {i j pos} : VE X (.Constant (.str i) j pos) true (vC (.str i)) := ve_const pe_str fun _ => .str i

/-! ### two operands -/
abbrev F2 := D → D → (D → Prop) → Prop
def Op2 (K : PySem.W.Frag) (r : R2) (f : F2) : Prop := ∀ H d1 v1 f1 d2 v2 f2 (Q : VK) (R : D → Prop), Own K H d1 v1 f1 → Own K H d2 v2 f2 → f d1 d2 R →
  (∀ d v H' fr, R d → Own K H' d v fr → Same H H' → (∀ b ∈ fr, H b = none) → Q v H') → r v1 v2 H Q
@[simp] def vBin (qb : Bool) (f : F2) (ta tb : TV) : TV := fun e R => ta e fun r1 e1 => (r1.deep = true → qb = true) ∧ tb e1 fun r2 e2 => ∃ d1 d2, r1.get e2 = some d1 ∧ r2.get e2 = some d2 ∧ f d1 d2 fun d => R (.val d) e2
theorem and_t {a b : Bool} (h : (a && b) = true) : a = true ∧ b = true := by simpa using h
/-- the two operands read one behind the other -/
theorem rd_two {K : PySem.W.Frag} {qb : Bool} {ta tb : TV} {σ : St} {H : Hp} {e : SE} {fp : List Addr} {R2' : RV → RV → SE → Prop} {W : V → V → Hp → Prop} (hE : OwnE K H e σ fp)
    (ht : ta e fun r1 e1 => (r1.deep = true → qb = true) ∧ tb e1 fun r2 e2 => R2' r1 r2 e2)
    (k : ∀ r1 r2 e2 v1 v2 H2 fp2 f1 f2, R2' r1 r2 e2 → OwnE K H2 e2 σ fp2 → OwnR K H2 σ fp2 r1 v1 f1 → OwnR K H2 σ fp2 r2 v2 f2 → Dis f1 f2 → Fr fp H H2 → New fp H fp2 → New fp H f1 → New fp H f2 → ((qa && qb) = true → e2 = e ∧ Same H H2) → W v1 v2 H2) :
    rd K qa ta σ H fun x H1 => rd K qb tb σ H1 fun y H2 => W x y H2 := by
  refine ⟨e, fp, _, hE, ht, fun r1 e1 v1 H1 fp1 f1 hr1 hE1 hR1 hF1 hN1 hM1 hq1 => ⟨e1, fp1, _, hE1, hr1.2, fun r2 e2 v2 H2 fp2 f2 hr2 hE2 hR2 hF2 hN2 hM2 hq2 => ?_⟩⟩
  have o1 : OwnR K H2 σ fp2 r1 v1 f1 := hR1.after hE1.mut hF2 hN2 fun z => (hq2 (hr1.1 z)).2
  refine k r1 r2 e2 v1 v2 H2 fp2 f1 f2 hr2 hE2 o1 hR2 (fun a ha hb => ?_) (hF1.trans hN1 hF2) (New.trans hE.mut hF1 hN1 hN2) hM1 (New.trans hE.mut hF1 hN1 hM2) fun z => ?_
  · rcases hM2 a hb with q | q
    · exact hR1.dis a ha q
    · have := hR1.mut a ha
      rw [q] at this
      exact this
  · obtain ⟨z1, z2⟩ := and_t z
    obtain ⟨p1, p2⟩ := hq1 z1
    obtain ⟨p3, p4⟩ := hq2 z2
    exact ⟨p3.trans p1, p2.trans p4⟩
theorem rd_bin {K : PySem.W.Frag} {r : R2} {f : F2} (o : Op2 K r f) (σ : St) (H : Hp) (Q : VK) (h : rd K (qa && qb) (vBin qb f ta tb) σ H Q) : tOp r (rd K qa ta) (rd K qb tb) σ H Q := by
  obtain ⟨e, fp, R, hE, ht, hQ⟩ := h
  refine rd_two (qa := qa) (R2' := fun r1 r2 e2 => ∃ d1 d2, r1.get e2 = some d1 ∧ r2.get e2 = some d2 ∧ f d1 d2 fun d => R (.val d) e2) hE ht ?_
  intro r1 r2 e2 v1 v2 H2 fp2 f1 f2 ⟨d1, d2, g1, g2, hf⟩ hE2 o1 o2 hd hF hN hM1 hM2 hq
  obtain ⟨h1, p1, _⟩ := o1.read hE2 g1
  obtain ⟨h2, p2, _⟩ := o2.read hE2 g2
  refine o H2 d1 v1 h1 d2 v2 h2 Q _ p1 p2 hf fun d v H' fr hR hO hS hn => ?_
  refine hQ _ e2 v H' fp2 fr hR (hE2.same hS) (.val hO fun a ha hb => hE2.ne_none hb (hn a ha)) (hF.trans hN (Fr.of_same hS)) hN (fun b hb => ?_) fun z => ?_
  · by_cases hbf : b ∈ fp
    · exact .inl hbf
    · exact .inr (hF.none hE.mut (hn b hb) hbf)
  · obtain ⟨y1, y2⟩ := hq z
    exact ⟨y1, y2.trans hS⟩
theorem ve_bin {r : R2} {f : F2} (g : ∀ {ta tb : TE}, PE X a ta → PE X b tb → PE X x (tOp r ta tb)) (o : Op2 X.K r f) (ha : VE X a qa ta) (hb : VE X b qb tb) : VE X x (qa && qb) (vBin qb f ta tb) :=
  ⟨PEimp (g ha.pe hb.pe) fun σ H Q h => rd_bin o σ H Q h⟩
/-- an expression whose value is a bool, as a test -/
@[simp] def vTest (t : TV) : TVT := fun e R => t e fun r e1 => ∃ b, r.get e1 = some (.bl b) ∧ R b e1
theorem rd_test {K : PySem.W.Frag} {q : Bool} {t : TV} (σ : St) (H : Hp) (Q : Bool → Hp → Prop) (h : rdT K q (vTest t) σ H Q) : rd K q t σ H fun x H1 => ∃ c, x = .bl c ∧ Q c H1 := by
  obtain ⟨e, fp, R, hE, ht, hQ⟩ := h
  refine ⟨e, fp, _, hE, ht, fun r e' v H' fp' fr ⟨b, g, hR⟩ hE' hO hF hN _ hq => ?_⟩
  obtain ⟨fd, o, _⟩ := hO.read hE' g
  cases o
  exact ⟨b, rfl, hQ b e' H' fp' hR hE' hF hN hq⟩
theorem vt_val {q : Bool} {t : TV} (h : VE X x q t) (he : ∀ whole, isTrue x X.env whole = (do let v ← whole; standAt x.pos; holding [v] (truthy v)) := by intro _; rfl) : VT X x q (vTest t) :=
  ⟨PTimp (pt_val h.pe he) fun σ H Q h => rd_test σ H Q h⟩
theorem vt_bin {r : R2} {f : F2} (g : ∀ {ta tb : TE}, PE X a ta → PE X b tb → PT X x (tTest (tOp r ta tb))) (o : Op2 X.K r f) (ha : VE X a qa ta) (hb : VE X b qb tb) : VT X x (qa && qb) (vTest (vBin qb f ta tb)) :=
  ⟨PTimp (g ha.pe hb.pe) fun σ H Q h => rd_bin o σ H _ (rd_test σ H Q h)⟩
/-- one operand -/
abbrev F1 := D → (D → Prop) → Prop
def Op1 (K : PySem.W.Frag) (r : V → Hp → VK → Prop) (f : F1) : Prop := ∀ H d1 v1 f1 (Q : VK) (R : D → Prop), Own K H d1 v1 f1 → f d1 R → (∀ d v H' fr, R d → Own K H' d v fr → Same H H' → (∀ b ∈ fr, H b = none) → Q v H') → r v1 H Q
@[simp] def vUn (f : F1) (ta : TV) : TV := fun e R => ta e fun r1 e1 => ∃ d1, r1.get e1 = some d1 ∧ f d1 fun d => R (.val d) e1
theorem rd_un {K : PySem.W.Frag} {r : V → Hp → VK → Prop} {f : F1} (o : Op1 K r f) (σ : St) (H : Hp) (Q : VK) (h : rd K qa (vUn f ta) σ H Q) : tUn r (rd K qa ta) σ H Q := by
  obtain ⟨e, fp, R, hE, ht, hQ⟩ := h
  refine ⟨e, fp, _, hE, ht, fun r1 e1 v1 H1 fp1 f1 ⟨d1, g1, hf⟩ hE1 o1 hF hN hM hq => ?_⟩
  obtain ⟨h1, p1, _⟩ := o1.read hE1 g1
  refine o H1 d1 v1 h1 Q _ p1 hf fun d v H' fr hR hO hS hn => ?_
  refine hQ _ e1 v H' fp1 fr hR (hE1.same hS) (.val hO fun a ha hb => hE1.ne_none hb (hn a ha)) (hF.trans hN (Fr.of_same hS)) hN (fun b hb => ?_) fun z => ?_
  · by_cases hbf : b ∈ fp
    · exact .inl hbf
    · exact .inr (hF.none hE.mut (hn b hb) hbf)
  · obtain ⟨y1, y2⟩ := hq z
    exact ⟨y1, y2.trans hS⟩
theorem ve_un {r : V → Hp → VK → Prop} {f : F1} (g : ∀ {ta : TE}, PE X a ta → PE X x (tUn r ta)) (o : Op1 X.K r f) (ha : VE X a qa ta) : VE X x qa (vUn f ta) :=
  ⟨PEimp (g ha.pe) fun σ H Q h => rd_un o σ H Q h⟩
end
end L2.VL
set_option Elab.async false
set_option linter.all false
set_option maxRecDepth 100000
namespace L2.VL
open PySem PySem.Spec PyProof.Rows

section
variable {X : Cx} {x a b : Expr} {q qa qb qc : Bool} {ta tb tc : TV} {pos : Pos} {rest : List Expr}
/-! ### and, or, not; a if t else b -/
theorem rdT_seq {K : PySem.W.Frag} {t u : TVT} {σ : St} {H : Hp} {e : SE} {fp : List Addr} {W : Bool → Hp → Prop} {R' : Bool → SE → Prop} (hE : OwnE K H e σ fp)
    (ht : t e R') (k : ∀ b e1 H1 fp1, R' b e1 → OwnE K H1 e1 σ fp1 → Fr fp H H1 → New fp H fp1 → (q = true → e1 = e ∧ Same H H1) → W b H1) : rdT K q t σ H W :=
  ⟨e, fp, R', hE, ht, k⟩
variable {ut wt : TVT}
@[simp] def vAnd (t u : TVT) : TVT := fun e R => t e fun c e1 => if c = true then u e1 R else R false e1
@[simp] def vOr (t u : TVT) : TVT := fun e R => t e fun c e1 => if c = true then R true e1 else u e1 R
@[simp] def vNot (t : TVT) : TVT := fun e R => t e fun c e1 => R (!c) e1
theorem rd_and {K : PySem.W.Frag} (σ : St) (H : Hp) (Q : Bool → Hp → Prop) (h : rdT K (qa && qb) (vAnd ut wt) σ H Q) : tAnd (rdT K qa ut) (rdT K qb wt) σ H Q := by
  obtain ⟨e, fp, R, hE, ht, hQ⟩ := h
  refine ⟨e, fp, _, hE, ht, fun c e1 H1 fp1 hc hE1 hF hN hq => ?_⟩
  cases c with
  | false =>
    rw [if_neg Bool.false_ne_true] at hc ⊢
    exact hQ _ _ _ _ hc hE1 hF hN fun z => hq (and_t z).1
  | true =>
    rw [if_pos rfl] at hc ⊢
    refine ⟨e1, fp1, R, hE1, hc, fun b e2 H2 fp2 hb hE2 hF2 hN2 hq2 => hQ b e2 H2 fp2 hb hE2 (hF.trans hN hF2) (New.trans hE.mut hF hN hN2) fun z => ?_⟩
    obtain ⟨z1, z2⟩ := and_t z
    obtain ⟨p1, p2⟩ := hq z1
    obtain ⟨p3, p4⟩ := hq2 z2
    exact ⟨p3.trans p1, p2.trans p4⟩
theorem rd_or {K : PySem.W.Frag} (σ : St) (H : Hp) (Q : Bool → Hp → Prop) (h : rdT K (qa && qb) (vOr ut wt) σ H Q) : tOr (rdT K qa ut) (rdT K qb wt) σ H Q := by
  obtain ⟨e, fp, R, hE, ht, hQ⟩ := h
  refine ⟨e, fp, _, hE, ht, fun c e1 H1 fp1 hc hE1 hF hN hq => ?_⟩
  cases c with
  | true =>
    rw [if_pos rfl] at hc ⊢
    exact hQ _ _ _ _ hc hE1 hF hN fun z => hq (and_t z).1
  | false =>
    rw [if_neg Bool.false_ne_true] at hc ⊢
    refine ⟨e1, fp1, R, hE1, hc, fun b e2 H2 fp2 hb hE2 hF2 hN2 hq2 => hQ b e2 H2 fp2 hb hE2 (hF.trans hN hF2) (New.trans hE.mut hF hN hN2) fun z => ?_⟩
    obtain ⟨z1, z2⟩ := and_t z
    obtain ⟨p1, p2⟩ := hq z1
    obtain ⟨p3, p4⟩ := hq2 z2
    exact ⟨p3.trans p1, p2.trans p4⟩
/-- in a chain -/
structure VW (X : Cx) (x : Expr) (q : Bool) (t : TVT) : Prop where
  pw : PW X x (rdT X.K q t)
theorem PWimp {X : Cx} {x : Expr} {t t' : TT} (h : PW X x t) (i : ∀ σ H Q, t' σ H Q → t σ H Q) : PW X x t' := ⟨fun wh pins s σ H Q I w => h.run wh pins s σ H Q I (i _ _ _ w)⟩
theorem VW.vt {t : TVT} (h : VW X x q t) : VT X x q t := ⟨h.pw.pt⟩
theorem vw_and1 (h : VT X a q ut) : VW X (.BoolOp .And [a] pos) q ut := ⟨pw_and1 h.pt⟩
theorem vw_or1 (h : VT X a q ut) : VW X (.BoolOp .Or [a] pos) q ut := ⟨pw_or1 h.pt⟩
theorem vw_and (h : VT X a qa ut) (g : VW X (.BoolOp .And (b :: rest) pos) qb wt) : VW X (.BoolOp .And (a :: b :: rest) pos) (qa && qb) (vAnd ut wt) := ⟨PWimp (pw_and h.pt g.pw) fun σ H Q h => rd_and σ H Q h⟩
theorem vw_or (h : VT X a qa ut) (g : VW X (.BoolOp .Or (b :: rest) pos) qb wt) : VW X (.BoolOp .Or (a :: b :: rest) pos) (qa && qb) (vOr ut wt) := ⟨PWimp (pw_or h.pt g.pw) fun σ H Q h => rd_or σ H Q h⟩
theorem vt_not (h : VT X a q ut) : VT X (.UnaryOp .Not a pos) q (vNot ut) := ⟨PTimp (pt_not h.pt) fun σ H Q ⟨e, fp, R, hE, ht, hQ⟩ =>
  ⟨e, fp, _, hE, ht, fun b e' H' fp' hb hE' hF hN hq => hQ (!b) e' H' fp' hb hE' hF hN hq⟩⟩
/-- as values: bools -/
@[simp] def vAndV (t u : TV) : TV := fun e R => t e fun r e1 => ∃ c, r.get e1 = some (.bl c) ∧ if c = true then u e1 R else R (.val (.bl false)) e1
@[simp] def vOrV (t u : TV) : TV := fun e R => t e fun r e1 => ∃ c, r.get e1 = some (.bl c) ∧ if c = true then R (.val (.bl true)) e1 else u e1 R
@[simp] def vNotV (t : TV) : TV := fun e R => t e fun r e1 => ∃ c, r.get e1 = some (.bl c) ∧ R (.val (.bl (!c))) e1
theorem rd_andV {K : PySem.W.Frag} (σ : St) (H : Hp) (Q : VK) (h : rd K (qa && qb) (vAndV ta tb) σ H Q) : tAndV (rd K qa ta) (rd K qb tb) σ H Q := by
  obtain ⟨e, fp, R, hE, ht, hQ⟩ := h
  refine ⟨e, fp, _, hE, ht, fun r1 e1 v1 H1 fp1 f1 ⟨c, g, hc⟩ hE1 o1 hF hN hM hq => ?_⟩
  obtain ⟨fd, o, _⟩ := o1.read hE1 g
  cases o
  refine ⟨c, rfl, ?_⟩
  cases c with
  | false =>
    rw [if_neg Bool.false_ne_true] at hc ⊢
    exact hQ _ e1 _ H1 fp1 [] hc hE1 (.val (.bl false) fun _ z => nomatch z) hF hN (New.nil _ _) fun z => hq (and_t z).1
  | true =>
    rw [if_pos rfl] at hc ⊢
    refine ⟨e1, fp1, R, hE1, hc, fun r e2 v H2 fp2 f2 hb hE2 o2 hF2 hN2 hM2 hq2 => hQ r e2 v H2 fp2 f2 hb hE2 o2 (hF.trans hN hF2) (New.trans hE.mut hF hN hN2) (New.trans hE.mut hF hN hM2) fun z => ?_⟩
    obtain ⟨z1, z2⟩ := and_t z
    obtain ⟨p1, p2⟩ := hq z1
    obtain ⟨p3, p4⟩ := hq2 z2
    exact ⟨p3.trans p1, p2.trans p4⟩
theorem rd_orV {K : PySem.W.Frag} (σ : St) (H : Hp) (Q : VK) (h : rd K (qa && qb) (vOrV ta tb) σ H Q) : tOrV (rd K qa ta) (rd K qb tb) σ H Q := by
  obtain ⟨e, fp, R, hE, ht, hQ⟩ := h
  refine ⟨e, fp, _, hE, ht, fun r1 e1 v1 H1 fp1 f1 ⟨c, g, hc⟩ hE1 o1 hF hN hM hq => ?_⟩
  obtain ⟨fd, o, _⟩ := o1.read hE1 g
  cases o
  refine ⟨c, rfl, ?_⟩
  cases c with
  | true =>
    rw [if_pos rfl] at hc ⊢
    exact hQ _ e1 _ H1 fp1 [] hc hE1 (.val (.bl true) fun _ z => nomatch z) hF hN (New.nil _ _) fun z => hq (and_t z).1
  | false =>
    rw [if_neg Bool.false_ne_true] at hc ⊢
    refine ⟨e1, fp1, R, hE1, hc, fun r e2 v H2 fp2 f2 hb hE2 o2 hF2 hN2 hM2 hq2 => hQ r e2 v H2 fp2 f2 hb hE2 o2 (hF.trans hN hF2) (New.trans hE.mut hF hN hN2) (New.trans hE.mut hF hN hM2) fun z => ?_⟩
    obtain ⟨z1, z2⟩ := and_t z
    obtain ⟨p1, p2⟩ := hq z1
    obtain ⟨p3, p4⟩ := hq2 z2
    exact ⟨p3.trans p1, p2.trans p4⟩
theorem ve_one {op} {t : TV} (h : VE X a q t) : VE X (.BoolOp op [a] pos) q t := ⟨pe_one h.pe⟩
theorem ve_and (h : VE X a qa ta) (g : VE X (.BoolOp .And (b :: rest) pos) qb tb) : VE X (.BoolOp .And (a :: b :: rest) pos) (qa && qb) (vAndV ta tb) := ⟨PEimp (pe_and h.pe g.pe) fun σ H Q h => rd_andV σ H Q h⟩
theorem ve_or (h : VE X a qa ta) (g : VE X (.BoolOp .Or (b :: rest) pos) qb tb) : VE X (.BoolOp .Or (a :: b :: rest) pos) (qa && qb) (vOrV ta tb) := ⟨PEimp (pe_or h.pe g.pe) fun σ H Q h => rd_orV σ H Q h⟩
theorem ve_not (h : VE X a q ta) : VE X (.UnaryOp .Not a pos) q (vNotV ta) := ⟨PEimp (pe_not h.pe) fun σ H Q ⟨e, fp, R, hE, ht, hQ⟩ => by
  refine ⟨e, fp, _, hE, ht, fun r1 e1 v1 H1 fp1 f1 ⟨c, g, hc⟩ hE1 o1 hF hN hM hq => ?_⟩
  obtain ⟨fd, o, _⟩ := o1.read hE1 g
  cases o
  exact ⟨c, rfl, hQ _ e1 _ H1 fp1 [] hc hE1 (.val (.bl (!c)) fun _ z => nomatch z) hF hN (New.nil _ _) hq⟩⟩
@[simp] def vIfE (t : TVT) (ta tb : TV) : TV := fun e R => t e fun c e1 => if c = true then ta e1 R else tb e1 R
theorem ve_if {c : Expr} (hc : VT X c qc ut) (ha : VE X a qa ta) (hb : VE X b qb tb) : VE X (.IfExp c a b pos) (qc && (qa && qb)) (vIfE ut ta tb) := ⟨PEimp (pe_ifExp hc.pt ha.pe hb.pe) fun σ H Q ⟨e, fp, R, hE, ht, hQ⟩ => by
  refine ⟨e, fp, _, hE, ht, fun c e1 H1 fp1 hc hE1 hF hN hq => ?_⟩
  cases c with
  | true =>
    rw [if_pos rfl] at hc ⊢
    refine ⟨e1, fp1, R, hE1, hc, fun r e2 v H2 fp2 f2 hb hE2 o2 hF2 hN2 hM2 hq2 => hQ r e2 v H2 fp2 f2 hb hE2 o2 (hF.trans hN hF2) (New.trans hE.mut hF hN hN2) (New.trans hE.mut hF hN hM2) fun z => ?_⟩
    obtain ⟨z1, z2⟩ := and_t z
    obtain ⟨p1, p2⟩ := hq z1
    obtain ⟨p3, p4⟩ := hq2 (and_t z2).1
    exact ⟨p3.trans p1, p2.trans p4⟩
  | false =>
    rw [if_neg Bool.false_ne_true] at hc ⊢
    refine ⟨e1, fp1, R, hE1, hc, fun r e2 v H2 fp2 f2 hb hE2 o2 hF2 hN2 hM2 hq2 => hQ r e2 v H2 fp2 f2 hb hE2 o2 (hF.trans hN hF2) (New.trans hE.mut hF hN hN2) (New.trans hE.mut hF hN hM2) fun z => ?_⟩
    obtain ⟨z1, z2⟩ := and_t z
    obtain ⟨p1, p2⟩ := hq z1
    obtain ⟨p3, p4⟩ := hq2 (and_t z2).2
    exact ⟨p3.trans p1, p2.trans p4⟩⟩

/-! ### argument lists -/
@[simp] def vNil : TVA := fun e R => R [] e
@[simp] def vCons (qr : Bool) (t : TV) (u : TVA) : TVA := fun e R => t e fun r e1 => (r.deep = true → qr = true) ∧ u e1 fun rs e2 => R (r :: rs) e2
theorem va_nil : VA X [] true vNil := ⟨PAimp pa_nil fun σ H Q ⟨e, fp, R, hE, ht, hQ⟩ => hQ [] e [] H fp [] ht hE .nil (Fr.refl _ _) (New.refl _ _) (New.nil _ _) fun _ => ⟨rfl, Same.refl _⟩⟩
theorem va_cons {es : List Expr} {u : TVA} (ha : VE X a qa ta) (hr : VA X es qb u) (hs : starEach (a :: es) X.env = (false, eval a X.env) :: starEach es X.env := by rfl) : VA X (a :: es) (qa && qb) (vCons qb ta u) := ⟨PAimp (pa_cons ha.pe hr.pa hs) fun σ H Q ⟨e, fp, R, hE, ht, hQ⟩ => by
  refine ⟨e, fp, _, hE, ht, fun r1 e1 v1 H1 fp1 f1 hr1 hE1 hR1 hF1 hN1 hM1 hq1 => ⟨e1, fp1, _, hE1, hr1.2, fun rs e2 vs H2 fp2 f2 hr2 hE2 hR2 hF2 hN2 hM2 hq2 => ?_⟩⟩
  have o1 : OwnR X.K H2 σ fp2 r1 v1 f1 := hR1.after hE1.mut hF2 hN2 fun z => (hq2 (hr1.1 z)).2
  refine hQ (r1 :: rs) e2 (v1 :: vs) H2 fp2 (f1 ++ f2) hr2 hE2 (.cons o1 hR2 fun a ha hb => ?_) (hF1.trans hN1 hF2) (New.trans hE.mut hF1 hN1 hN2) (fun b hb => ?_) fun z => ?_
  · rcases hM2 a hb with q | q
    · exact hR1.dis a ha q
    · have := hR1.mut a ha
      rw [q] at this
      exact this
  · rcases List.mem_append.mp hb with z | z
    · exact hM1 b z
    · exact New.trans hE.mut hF1 hN1 hM2 b z
  · obtain ⟨z1, z2⟩ := and_t z
    obtain ⟨p1, p2⟩ := hq1 z1
    obtain ⟨p3, p4⟩ := hq2 z2
    exact ⟨p3.trans p1, p2.trans p4⟩⟩
/-- all moved, all read -/
@[simp] def MvL : List RV → SE → List D → Prop
  | [], _, ds => ds = []
  | r :: rs, e, ds => ∃ d dr, ds = d :: dr ∧ Mv r e d ∧ MvL rs e dr
@[simp] def GetL : List RV → SE → List D → Prop
  | [], _, ds => ds = []
  | r :: rs, e, ds => ∃ d dr, ds = d :: dr ∧ r.get e = some d ∧ GetL rs e dr
section
variable {K : PySem.W.Frag} {H : Hp} {e : SE} {σ : St} {fp : List Addr}
theorem OwnRs.mut : ∀ {rs : List RV} {vs : List V} {fr : List Addr}, OwnRs K H σ fp rs vs fr → ∀ b ∈ fr, Mut (H b)
  | _, _, _, .nil, b, h => nomatch h
  | _, _, _, .cons o r _, b, h => by
    rcases List.mem_append.mp h with h | h
    · exact o.mut b h
    · exact r.mut b h
theorem OwnRs.dis : ∀ {rs : List RV} {vs : List V} {fr : List Addr}, OwnRs K H σ fp rs vs fr → Dis fr fp
  | _, _, _, .nil, b, h => nomatch h
  | _, _, _, .cons o r _, b, h => by
    rcases List.mem_append.mp h with h | h
    · exact o.dis b h
    · exact r.dis b h
theorem OwnRs.move : ∀ {rs : List RV} {vs : List V} {fr : List Addr} {ds : List D}, OwnRs K H σ fp rs vs fr → OwnE K H e σ fp → MvL rs e ds → Owns K H ds vs fr
  | _, _, _, _, .nil, _, h => by
    cases h
    exact .nil
  | _, _, _, _, .cons o r n, E, h => by
    obtain ⟨d, dr, rfl, h1, h2⟩ := h
    exact .cons (o.move E h1) (r.move E h2) n
inductive ReadL (K : PySem.W.Frag) (H : Hp) : List D → List V → Prop
  | nil : ReadL K H [] []
  | cons {d : D} {v : V} {ds : List D} {vs : List V} {f : List Addr} : Own K H d v f → ReadL K H ds vs → ReadL K H (d :: ds) (v :: vs)
theorem OwnRs.read : ∀ {rs : List RV} {vs : List V} {fr : List Addr} {ds : List D}, OwnRs K H σ fp rs vs fr → OwnE K H e σ fp → GetL rs e ds → ReadL K H ds vs
  | _, _, _, _, .nil, _, h => by
    cases h
    exact .nil
  | _, _, _, _, .cons o r n, E, h => by
    obtain ⟨d, dr, rfl, h1, h2⟩ := h
    obtain ⟨fd, q, _⟩ := o.read E h1
    exact .cons q (r.read E h2)
end
/-! ### displays -/
@[simp] def vTup (t : TVA) : TV := fun e R => t e fun rs e1 => ∃ ds, MvL rs e1 ds ∧ ds.length ≤ 16777216 ∧ R (.val (.tup ds)) e1
@[simp] def vLst (t : TVA) : TV := fun e R => t e fun rs e1 => ∃ ds, MvL rs e1 ds ∧ ds.length ≤ 16777216 ∧ R (.val (.lst ds)) e1
theorem upd_fr {fp : List Addr} {H : Hp} {p : Addr} {o : HO} (n : H p = none) : Fr fp H (upd H p o) := fun b u e _ => by
  rw [upd_ne (ne_of_none e n)]
  exact e
theorem upd_same' {H : Hp} {p : Addr} {o : HO} (n : H p = none) : Same H (upd H p o) := fun b u e => by
  rw [upd_ne (ne_of_none e n)]
  exact e
variable {es : List Expr} {t : TVA}
theorem ve_tup {k} (h : VA X es q t) : VE X (.Tuple es k pos) q (vTup t) := ⟨PEimp (pe_tup h.pa) fun σ H Q ⟨e, fp, R, hE, ht, hQ⟩ => by
  refine ⟨e, fp, _, hE, ht, fun rs e1 vs H1 fp1 f1 ⟨ds, hm, hl, hR⟩ hE1 o1 hF hN hM hq => ?_⟩
  have os := o1.move hE1 hm
  refine ⟨by rw [← os.len, sizeLine_eq]; exact hl, fun p hp => ?_⟩
  have s : Same H1 (upd H1 p (.tup vs)) := upd_same' hp
  refine hQ _ e1 (.ref p) _ fp1 f1 hR (hE1.same s) (.val (.tup upd_same (os.same s)) o1.dis) (hF.trans hN (Fr.of_same s)) hN hM fun z => ?_
  obtain ⟨y1, y2⟩ := hq z
  exact ⟨y1, y2.trans s⟩⟩
theorem ve_lst (h : VA X es q t) : VE X (.List es pos) q (vLst t) := ⟨PEimp (pe_lst h.pa) fun σ H Q ⟨e, fp, R, hE, ht, hQ⟩ => by
  refine ⟨e, fp, _, hE, ht, fun rs e1 vs H1 fp1 f1 ⟨ds, hm, hl, hR⟩ hE1 o1 hF hN hM hq => ?_⟩
  have os := o1.move hE1 hm
  refine ⟨by rw [← os.len, sizeLine_eq]; exact hl, fun p hp => ?_⟩
  have s : Same H1 (upd H1 p (.lst vs)) := upd_same' hp
  refine hQ _ e1 (.ref p) _ fp1 (p :: f1) hR (hE1.same s) (.val (.lst upd_same (os.same s) fun z => os.ne_none z hp) fun b hb => ?_) (hF.trans hN (Fr.of_same s)) hN (fun b hb => ?_) fun z => ?_
  · rcases List.mem_cons.mp hb with rfl | hb
    · exact fun z => hE1.ne_none z hp
    · exact o1.dis b hb
  · rcases List.mem_cons.mp hb with rfl | hb
    · by_cases hbf : b ∈ fp
      · exact .inl hbf
      · exact .inr (hF.none hE.mut hp hbf)
    · exact hM b hb
  · obtain ⟨y1, y2⟩ := hq z
    exact ⟨y1, y2.trans s⟩⟩
/-! ### built-ins by values -/
abbrev FN := List D → (D → Prop) → Prop
def OpN (K : PySem.W.Frag) (r : List V → Hp → VK → Prop) (f : FN) : Prop := ∀ H ds vs (Q : VK) (R : D → Prop), ReadL K H ds vs → f ds R → (∀ d v H' fr, R d → Own K H' d v fr → Same H H' → (∀ b ∈ fr, H b = none) → Q v H') → r vs H Q
@[simp] def vFun (f : FN) (t : TVA) : TV := fun e R => t e fun rs e1 => ∃ ds, GetL rs e1 ds ∧ f ds fun d => R (.val d) e1
theorem rd_fun {K : PySem.W.Frag} {r : List V → Hp → VK → Prop} {f : FN} (o : OpN K r f) (σ : St) (H : Hp) (Q : VK) (h : rd K q (vFun f t) σ H Q) : tCB r (rdA K q t) σ H Q := by
  obtain ⟨e, fp, R, hE, ht, hQ⟩ := h
  refine ⟨e, fp, _, hE, ht, fun rs e1 vs H1 fp1 f1 ⟨ds, g, hf⟩ hE1 o1 hF hN hM hq => ?_⟩
  refine o H1 ds vs Q _ (o1.read hE1 g) hf fun d v H' fr hR hO hS hn => ?_
  refine hQ _ e1 v H' fp1 fr hR (hE1.same hS) (.val hO fun a ha hb => hE1.ne_none hb (hn a ha)) (hF.trans hN (Fr.of_same hS)) hN (fun b hb => ?_) fun z => ?_
  · by_cases hbf : b ∈ fp
    · exact .inl hbf
    · exact .inr (hF.none hE.mut (hn b hb) hbf)
  · obtain ⟨y1, y2⟩ := hq z
    exact ⟨y1, y2.trans hS⟩
theorem ve_fun {r : List V → Hp → VK → Prop} {f : FN} (g : ∀ {ta : TA}, PA X es ta → PE X x (tCB r ta)) (o : OpN X.K r f) (ha : VA X es q t) : VE X x q (vFun f t) := ⟨PEimp (g ha.pa) fun σ H Q h => rd_fun o σ H Q h⟩
end
end L2.VL
set_option Elab.async false
set_option linter.all false
set_option maxRecDepth 100000
namespace L2.VL
open PySem PySem.Spec PyProof.Rows

@[simp] def D.isM : D → Bool
  | .lst _ => true
  | .dK _ _ => true
  | .dT _ _ => true
  | .obj _ _ _ => true
  | _ => false
theorem Own.self_mem {K : PySem.W.Frag} {H : Hp} {d : D} {a : Addr} {f : List Addr} (o : Own K H d (.ref a) f) (h : d.isM = true) : a ∈ f := by
  cases o <;> first
    | exact List.mem_cons_self
    | simp [D.isM] at h
theorem Own.isM_ref {K : PySem.W.Frag} {H : Hp} {d : D} {v : V} {f : List Addr} (o : Own K H d v f) (h : d.isM = true) : ∃ a, v = .ref a := by
  cases o <;> first
    | exact ⟨_, rfl⟩
    | simp [D.isM] at h
section
variable {X : Cx} {x o : Expr} {es : List Expr} {q qa qo : Bool} {to : TV} {ta : TVA}
@[simp] def vMv (i : Nat) : TV := fun e R => ∃ d, e[i]? = some (some d) ∧ R (.val d) (e.set i none)
theorem ve_mv {i : Nat} (h : PE X x (tVar i)) : VE X x false (vMv i) := ⟨PEimp h fun σ H Q ⟨e, fp, R, hE, ⟨d, hd, hR⟩, hq⟩ => by
  obtain ⟨v, fd, fr, h1, h2, h3, h4, h5⟩ := hE.take hd
  exact ⟨v, h1, hq _ _ v H fr fd hR h3 (.val h2 h4) (Fr.refl _ _) (fun b hb => .inl ((h5 b).mpr (.inr hb))) (fun b hb => .inl ((h5 b).mpr (.inl hb))) fun z => nomatch z⟩⟩
/-! ### methods of built-in types -/
/-- a method that reads -/
def OpM (K : PySem.W.Frag) (r : V → List V → Hp → VK → Prop) (f : D → List D → (D → Prop) → Prop) : Prop := ∀ H d0 v0 f0 ds vs (Q : VK) (R : D → Prop), Own K H d0 v0 f0 → ReadL K H ds vs → f d0 ds R →
  (∀ d v H' fr, R d → Own K H' d v fr → Same H H' → (∀ b ∈ fr, H b = none) → Q v H') → r v0 vs H Q
def TyD (K : PySem.W.Frag) (T : String) (p : D → Prop) : Prop := ∀ H d v f, Own K H d v f → p d → tyV K T v H
@[simp] def vRM (qa : Bool) (p : D → Prop) (f : D → List D → (D → Prop) → Prop) (to : TV) (ta : TVA) : TV := fun e R => to e fun r0 e1 => (r0.deep = true → qa = true) ∧ (∃ d1, r0.get e1 = some d1 ∧ p d1) ∧ ta e1 fun rs e2 => ∃ d0 ds, r0.get e2 = some d0 ∧ GetL rs e2 ds ∧ f d0 ds fun d => R (.val d) e2
theorem rd_rm {K : PySem.W.Frag} {T : String} {p : D → Prop} {r : V → List V → Hp → VK → Prop} {f : D → List D → (D → Prop) → Prop} (ty : TyD K T p) (op : OpM K r f) (σ : St) (H : Hp) (Q : VK) (h : rd K (qo && qa) (vRM qa p f to ta) σ H Q) :
    tBM K T r (rd K qo to) (rdA K qa ta) σ H Q := by
  obtain ⟨e, fp, R, hE, ht, hQ⟩ := h
  refine ⟨e, fp, _, hE, ht, fun r1 e1 v1 H1 fp1 f1 ⟨hd, ⟨d1, g1, hp⟩, hr1⟩ hE1 hR1 hF1 hN1 hM1 hq1 => ?_⟩
  obtain ⟨fd, o1, _⟩ := hR1.read hE1 g1
  refine ⟨ty H1 d1 v1 fd o1 hp, e1, fp1, _, hE1, hr1, fun rs e2 vs H2 fp2 f2 ⟨d0, ds, g0, gs, hf⟩ hE2 hR2 hF2 hN2 hM2 hq2 => ?_⟩
  have o2 : OwnR K H2 σ fp2 r1 v1 f1 := hR1.after hE1.mut hF2 hN2 fun z => (hq2 (hd z)).2
  obtain ⟨f0, p0, _⟩ := o2.read hE2 g0
  refine op H2 d0 v1 f0 ds vs Q _ p0 (hR2.read hE2 gs) hf fun d v H' fr hR hO hS hn => ?_
  refine hQ _ e2 v H' fp2 fr hR (hE2.same hS) (.val hO fun a ha hb => hE2.ne_none hb (hn a ha)) ((hF1.trans hN1 hF2).trans (New.trans hE.mut hF1 hN1 hN2) (Fr.of_same hS)) (New.trans hE.mut hF1 hN1 hN2) (fun b hb => ?_) fun z => ?_
  · by_cases hbf : b ∈ fp
    · exact .inl hbf
    · exact .inr ((hF1.trans hN1 hF2).none hE.mut (hn b hb) hbf)
  · obtain ⟨z1, z2⟩ := and_t z
    obtain ⟨p1, p2⟩ := hq1 z1
    obtain ⟨p3, p4⟩ := hq2 z2
    exact ⟨p3.trans p1, (p2.trans p4).trans hS⟩
theorem ve_rm {T : String} {p : D → Prop} {r : V → List V → Hp → VK → Prop} {f : D → List D → (D → Prop) → Prop} (g : ∀ {to : TE} {t : TA}, PE X o to → PA X es t → PE X x (tBM X.K T r to t)) (ty : TyD X.K T p) (op : OpM X.K r f) (ho : VE X o qo to) (ha : VA X es qa ta) :
    VE X x (qo && qa) (vRM qa p f to ta) := ⟨PEimp (g ho.pe ha.pa) fun σ H Q h => rd_rm ty op σ H Q h⟩
theorem ve_rm0 {T : String} {p : D → Prop} {r : V → List V → Hp → VK → Prop} {f : D → List D → (D → Prop) → Prop} (g : ∀ {to : TE}, PE X o to → PE X x (tBM0 X.K T r to)) (ty : TyD X.K T p) (op : OpM X.K r f) (ho : VE X o qo to) :
    VE X x qo (vRM true p f to vNil) := ⟨PEimp (g ho.pe) fun σ H Q ⟨e, fp, R, hE, ht, hQ⟩ => by
  refine ⟨e, fp, _, hE, ht, fun r1 e1 v1 H1 fp1 f1 ⟨hd, ⟨d1, g1, hp⟩, d0, ds, g0, gs, hf⟩ hE1 hR1 hF1 hN1 hM1 hq1 => ?_⟩
  obtain ⟨fd, o1, _⟩ := hR1.read hE1 g1
  cases gs
  obtain ⟨f0, p0, _⟩ := hR1.read hE1 g0
  refine ⟨ty H1 d1 v1 fd o1 hp, op H1 d0 v1 f0 [] [] Q _ p0 .nil hf fun d v H' fr hR hO hS hn => ?_⟩
  refine hQ _ e1 v H' fp1 fr hR (hE1.same hS) (.val hO fun a ha hb => hE1.ne_none hb (hn a ha)) (hF1.trans hN1 (Fr.of_same hS)) hN1 (fun b hb => ?_) fun z => ?_
  · by_cases hbf : b ∈ fp
    · exact .inl hbf
    · exact .inr (hF1.none hE.mut (hn b hb) hbf)
  · obtain ⟨p1, p2⟩ := hq1 z
    exact ⟨p1, p2.trans hS⟩⟩
/-- a method that changes its object -/
abbrev FM := D → List D → (D → D → Prop) → Prop
def MutR (K : PySem.W.Frag) (r : V → List V → Hp → VK → Prop) (f : FM) : Prop := ∀ H a d0 f0 ds vs fs (Q : VK) (R : D → D → Prop), Own K H d0 (.ref a) f0 → Owns K H ds vs fs → Dis fs f0 → f d0 ds R →
  (∀ res d' v H' fr' f', R res d' → Own K H' d' (.ref a) f' → Own K H' res v fr' → Dis fr' f' → (∀ b u, H b = some u → b ≠ a → H' b = some u) → (∀ b ∈ f', b ∈ f0 ∨ b ∈ fs ∨ H b = none) → (∀ b ∈ fr', b ∈ f0 ∨ b ∈ fs ∨ H b = none) → Q v H') → r (.ref a) vs H Q
@[simp] def vMut (qa : Bool) (p : D → Prop) (f : FM) (to : TV) (ta : TVA) : TV := fun e R => to e fun r0 e1 => r0.at fun j pa => (pa ≠ [] → qa = true) ∧ (∃ d1, SE.look e1 j pa = some d1 ∧ p d1) ∧ ta e1 fun rs e2 =>
  ∃ ds d0, MvL rs e2 ds ∧ SE.look e2 j pa = some d0 ∧ d0.isM = true ∧ f d0 ds fun res d' => R (.val res) (SE.put e2 j pa d')
theorem mut_end {K : PySem.W.Frag} {r : V → List V → Hp → VK → Prop} {f : FM} (op : MutR K r f) {e2 : SE} {σ : St} {H H2 : Hp} {fp fp2 fs f1 : List Addr} {j : Nat} {pa : List Nat} {d0 : D} {ds : List D} {vs : List V} {v : V} {Q : VK} {R : RV → SE → Prop}
    (hm : ∀ b ∈ fp, Mut (H b)) (hF : Fr fp H H2) (hN : New fp H fp2) (hM : New fp H fs) (hE2 : OwnE K H2 e2 σ fp2) (ho : OwnR K H2 σ fp2 (.plc j pa) v f1) (hs : Owns K H2 ds vs fs) (hd : Dis fs fp2) (g0 : SE.look e2 j pa = some d0) (hM0 : d0.isM = true)
    (hf : f d0 ds fun res d' => R (.val res) (SE.put e2 j pa d'))
    (hQ : ∀ r e' v H' fp' fr, R r e' → OwnE K H' e' σ fp' → OwnR K H' σ fp' r v fr → Fr fp H H' → New fp H fp' → New fp H fr → Q v H') : r v vs H2 Q := by
  obtain ⟨u, w, fx, h1, h2, h3, h4, h5⟩ := hE2.replace g0
  have ew : v = w := by
    cases ho with
    | plc hj q =>
      rw [hj] at h1
      cases h1
      exact q.fn h2
  subst ew
  obtain ⟨a, rfl⟩ := h3.isM_ref hM0
  have ha := h3.self_mem hM0
  refine op H2 a d0 fx ds vs fs Q _ h3 hs (fun b hb hc => hd b hb (h4 b hc)) hf fun res d' v' H' fr' f' hR o' ores dis keep nf nr => ?_
  have fr2 : Fr fx H2 H' := fun b u e hb => keep b u e fun z => hb (by rw [z]; exact ha)
  have dn : ∀ b, (b ∈ fx ∨ b ∈ fs ∨ H2 b = none) → b ∈ fx ∨ b ∉ fp2 := fun b hb => by
    rcases hb with z | z | z
    · exact .inl z
    · exact .inr (hd b z)
    · exact .inr fun y => hE2.ne_none y z
  have back : ∀ b, (b ∈ fx ∨ b ∈ fs ∨ H2 b = none) → b ∈ fp ∨ H b = none := fun b hb => by
    rcases hb with z | z | z
    · exact hN b (h4 b z)
    · exact hM b z
    · by_cases hbf : b ∈ fp
      · exact .inl hbf
      · exact .inr (hF.none hm z hbf)
  obtain ⟨fp', q1, q2⟩ := h5 H' d' f' fr2 o' fun b hb => dn b (nf b hb)
  refine hQ _ _ v' H' fp' fr' hR q1 (.val ores fun b hb hc => ?_) (hF.trans hN fun b u e hb => fr2 b u e fun z => hb (h4 b z)) (fun b hb => ?_) fun b hb => back b (nr b hb)
  · rcases q2 b hc with ⟨y, z⟩ | y
    · rcases dn b (nr b hb) with t | t
      · exact z t
      · exact t y
    · exact dis b hb y
  · rcases q2 b hb with ⟨y, _⟩ | y
    · exact hN b y
    · exact back b (nf b y)
theorem ve_mut {T : String} {p : D → Prop} {r : V → List V → Hp → VK → Prop} {f : FM} (g : ∀ {to : TE} {t : TA}, PE X o to → PA X es t → PE X x (tBM X.K T r to t)) (ty : TyD X.K T p) (op : MutR X.K r f) (ho : VE X o qo to) (ha : VA X es qa ta) :
    VE X x false (vMut qa p f to ta) := ⟨PEimp (g ho.pe ha.pa) fun σ H Q ⟨e, fp, R, hE, ht, hQ⟩ => by
  refine ⟨e, fp, _, hE, ht, fun r1 e1 v1 H1 fp1 f1 hat hE1 hR1 hF1 hN1 hM1 hq1 => ?_⟩
  obtain ⟨j, pa, er, hd, ⟨d1, g1, hp⟩, hr1⟩ := RV.at_iff.mp hat
  subst er
  obtain ⟨fd, o1, _⟩ := hR1.read hE1 (d := d1) g1
  refine ⟨ty H1 d1 v1 fd o1 hp, e1, fp1, _, hE1, hr1, fun rs e2 vs H2 fp2 f2 ⟨ds, d0, ms, g0, hM0, hf⟩ hE2 hR2 hF2 hN2 hM2 hq2 => ?_⟩
  have o2 : OwnR X.K H2 σ fp2 (.plc j pa) v1 f1 := hR1.after hE1.mut hF2 hN2 fun z => (hq2 (hd (by
    cases pa with
    | nil => simp [RV.deep] at z
    | cons a b => simp))).2
  exact mut_end op hE.mut (hF1.trans hN1 hF2) (New.trans hE.mut hF1 hN1 hN2) (New.trans hE.mut hF1 hN1 hM2) hE2 o2 (hR2.move hE2 ms) hR2.dis g0 hM0 hf fun r e' v H' fp' fr a b c d e f => hQ r e' v H' fp' fr a b c d e f fun z => nomatch z⟩
theorem ve_mut0 {T : String} {p : D → Prop} {r : V → List V → Hp → VK → Prop} {f : FM} (g : ∀ {to : TE}, PE X o to → PE X x (tBM0 X.K T r to)) (ty : TyD X.K T p) (op : MutR X.K r f) (ho : VE X o qo to) :
    VE X x false (vMut true p f to vNil) := ⟨PEimp (g ho.pe) fun σ H Q ⟨e, fp, R, hE, ht, hQ⟩ => by
  refine ⟨e, fp, _, hE, ht, fun r1 e1 v1 H1 fp1 f1 hat hE1 hR1 hF1 hN1 hM1 hq1 => ?_⟩
  obtain ⟨j, pa, er, hd, ⟨d1, g1, hp⟩, ds, d0, ms, g0, hM0, hf⟩ := RV.at_iff.mp hat
  subst er
  cases ms
  obtain ⟨fd, o1, _⟩ := hR1.read hE1 (d := d1) g1
  exact ⟨ty H1 d1 v1 fd o1 hp, mut_end op hE.mut hF1 hN1 (New.nil _ _) hE1 hR1 .nil (fun _ z => nomatch z) g0 hM0 hf fun r e' v H' fp' fr a b c d e f => hQ r e' v H' fp' fr a b c d e f fun z => nomatch z⟩⟩
end
end L2.VL
set_option Elab.async false
set_option linter.all false
set_option maxRecDepth 100000
namespace L2.VL
open PySem PySem.Spec PyProof.Rows

/-! ### statements -/
structure VD where
  nx : SE → Prop
  rt : D → SE → Prop
  bk : SE → Prop := fun _ => False
  ct : SE → Prop := fun _ => False
abbrev TVS := VD → SE → Prop
structure Keep (as : List Nat) (σ σ' : St) : Prop where
  len : σ'.length = σ.length
  at_ : ∀ i, i ∉ as → σ'[i]? = σ[i]?
theorem Keep.refl (as : List Nat) (σ : St) : Keep as σ σ := ⟨rfl, fun _ _ => rfl⟩
theorem Keep.trans {as bs : List Nat} {σ σ1 σ2 : St} (a : Keep as σ σ1) (b : Keep bs σ1 σ2) : Keep (as ++ bs) σ σ2 :=
  ⟨b.len.trans a.len, fun i hi => (b.at_ i fun z => hi (List.mem_append_right _ z)).trans (a.at_ i fun z => hi (List.mem_append_left _ z))⟩
theorem Keep.mono {as bs : List Nat} {σ σ1 : St} (a : Keep as σ σ1) (h : ∀ i ∈ as, i ∈ bs) : Keep bs σ σ1 := ⟨a.len, fun i hi => a.at_ i fun z => hi (h i z)⟩
theorem Keep.set {i : Nat} {σ : St} {x : Option V} : Keep [i] σ (σ.set i x) := ⟨by simp, fun j hj => by rw [List.getElem?_set_ne (by simpa using fun z => hj (by simp [z]))]⟩
structure Pst (K : PySem.W.Frag) (H : Hp) (fp : List Addr) (σ : St) (as : List Nat) (e' : SE) (σ' : St) (H' : Hp) (fp' : List Addr) : Prop where
  own : OwnE K H' e' σ' fp'
  fr : Fr fp H H'
  new : New fp H fp'
  keep : Keep as σ σ'
structure EndsOk (K : PySem.W.Frag) (H : Hp) (fp : List Addr) (σ : St) (as : List Nat) (E : VD) (D' : Ends) : Prop where
  nx : ∀ e' σ' H' fp', E.nx e' → Pst K H fp σ as e' σ' H' fp' → D'.nx σ' H'
  rt : ∀ d e' v σ' H' fp' fr, E.rt d e' → Pst K H fp σ as e' σ' H' fp' → Own K H' d v fr → Dis fr fp' → New fp H fr → D'.rt v H'
  bk : ∀ e' σ' H' fp', E.bk e' → Pst K H fp σ as e' σ' H' fp' → D'.bk σ' H'
  ct : ∀ e' σ' H' fp', E.ct e' → Pst K H fp σ as e' σ' H' fp' → D'.ct σ' H'
def rdS (K : PySem.W.Frag) (as : List Nat) (t : TVS) : TS := fun D' σ H => ∃ e fp E, OwnE K H e σ fp ∧ t E e ∧ EndsOk K H fp σ as E D'
section
variable {K : PySem.W.Frag} {H H1 : Hp} {fp fp1 : List Addr} {σ σ1 : St} {as as1 as2 : List Nat} {E : VD} {D' : Ends} {e e1 : SE}
theorem Pst.refl (h : OwnE K H e σ fp) : Pst K H fp σ as e σ H fp := ⟨h, Fr.refl _ _, New.refl _ _, Keep.refl _ _⟩
theorem Pst.trans {e2 : SE} {σ2 : St} {H2 : Hp} {fp2 : List Addr} (hm : ∀ b ∈ fp, Mut (H b)) (a : Pst K H fp σ as1 e1 σ1 H1 fp1) (b : Pst K H1 fp1 σ1 as2 e2 σ2 H2 fp2) : Pst K H fp σ (as1 ++ as2) e2 σ2 H2 fp2 :=
  ⟨b.own, a.fr.trans a.new b.fr, New.trans hm a.fr a.new b.new, a.keep.trans b.keep⟩
theorem Pst.mono {e2 : SE} {σ2 : St} {H2 : Hp} {fp2 : List Addr} (a : Pst K H fp σ as1 e2 σ2 H2 fp2) (h : ∀ i ∈ as1, i ∈ as2) : Pst K H fp σ as2 e2 σ2 H2 fp2 := ⟨a.own, a.fr, a.new, a.keep.mono h⟩
theorem Pst.expr {e2 : SE} {H2 : Hp} {fp2 : List Addr} (h : OwnE K H2 e2 σ fp2) (f : Fr fp H H2) (n : New fp H fp2) : Pst K H fp σ as e2 σ H2 fp2 := ⟨h, f, n, Keep.refl _ _⟩
theorem EndsOk.step (k : EndsOk K H fp σ as E D') (hm : ∀ b ∈ fp, Mut (H b)) (a : Pst K H fp σ as1 e1 σ1 H1 fp1) (h1 : ∀ i ∈ as1, i ∈ as) (h2 : ∀ i ∈ as2, i ∈ as) : EndsOk K H1 fp1 σ1 as2 E D' := by
  have tr : ∀ {e2 σ2 H2 fp2}, Pst K H1 fp1 σ1 as2 e2 σ2 H2 fp2 → Pst K H fp σ as e2 σ2 H2 fp2 := fun {e2 σ2 H2 fp2} b => (a.trans hm b).mono fun i hi => by
    rcases List.mem_append.mp hi with z | z
    · exact h1 i z
    · exact h2 i z
  exact ⟨fun e' σ' H' fp' h p => k.nx e' σ' H' fp' h (tr p), fun d e' v σ' H' fp' fr h p o d' n => k.rt d e' v σ' H' fp' fr h (tr p) o d' (New.trans hm a.fr a.new n),
    fun e' σ' H' fp' h p => k.bk e' σ' H' fp' h (tr p), fun e' σ' H' fp' h p => k.ct e' σ' H' fp' h (tr p)⟩
end
structure VS (X : Cx) (st : Stmt) (as : List Nat) (t : TVS) : Prop where
  ps : PS X st (rdS X.K as t)
structure VSs (X : Cx) (st : List Stmt) (as : List Nat) (t : TVS) : Prop where
  ps : PSs X st (rdS X.K as t)
section
variable {X : Cx} {st : Stmt} {sts body : List Stmt} {x : Expr} {q qc : Bool} {t u : TVS} {te : TV} {tc : TVT} {as as1 as2 : List Nat} {pos : Pos}
@[simp] def vNext : TVS := fun E e => E.nx e
@[simp] def vSeq (t u : TVS) : TVS := fun E e => t { E with nx := u E } e
theorem vss_nil : VSs X [] [] vNext := ⟨PSsimp pss_nil fun D' σ H ⟨e, fp, E, hE, ht, k⟩ => k.nx e σ H fp ht (.refl hE)⟩
theorem vss_cons (h1 : VS X st as1 t) (h2 : VSs X sts as2 u) : VSs X (st :: sts) (as1 ++ as2) (vSeq t u) := ⟨PSsimp (pss_cons h1.ps h2.ps) fun D' σ H ⟨e, fp, E, hE, ht, k⟩ => by
  refine ⟨e, fp, _, hE, ht, ⟨fun e' σ' H' fp' h p => ⟨e', fp', E, p.own, h, k.step hE.mut p (fun i hi => List.mem_append_left _ hi) fun i hi => List.mem_append_right _ hi⟩, ?_, ?_, ?_⟩⟩
  · exact fun d e' v σ' H' fp' fr h p => k.rt d e' v σ' H' fp' fr h (p.mono fun i hi => List.mem_append_left _ hi)
  · exact fun e' σ' H' fp' h p => k.bk e' σ' H' fp' h (p.mono fun i hi => List.mem_append_left _ hi)
  · exact fun e' σ' H' fp' h p => k.ct e' σ' H' fp' h (p.mono fun i hi => List.mem_append_left _ hi)⟩
theorem vss_one (h1 : VS X st as t) : VSs X [st] as t := ⟨pss_one h1.ps⟩
@[simp] def vBreak : TVS := fun E e => E.bk e
@[simp] def vCont : TVS := fun E e => E.ct e
theorem vs_pass : VS X (.Pass pos) [] vNext := ⟨PSimp ps_pass fun D' σ H ⟨e, fp, E, hE, ht, k⟩ => k.nx e σ H fp ht (.refl hE)⟩
theorem vs_break : VS X (.Break pos) [] vBreak := ⟨PSimp ps_break fun D' σ H ⟨e, fp, E, hE, ht, k⟩ => k.bk e σ H fp ht (.refl hE)⟩
theorem vs_cont : VS X (.Continue pos) [] vCont := ⟨PSimp ps_continue fun D' σ H ⟨e, fp, E, hE, ht, k⟩ => k.ct e σ H fp ht (.refl hE)⟩
@[simp] def vNever : TVS := fun _ _ => False
theorem vs_never : VS X st [] vNever := ⟨PSimp ps_never fun D' σ H ⟨e, fp, E, hE, ht, k⟩ => ht⟩
theorem vss_never : VSs X sts [] vNever := ⟨PSsimp pss_never fun D' σ H ⟨e, fp, E, hE, ht, k⟩ => ht⟩
@[simp] def vDrop (te : TV) : TVS := fun E e => te e fun _ e1 => E.nx e1
theorem vs_expr (he : VE X x q te) (hs : swapsWith x none pos.line X.env = pure false := by rfl) : VS X (.Expr x pos) [] (vDrop te) := ⟨PSimp (ps_expr he.pe hs) fun D' σ H ⟨e, fp, E, hE, ht, k⟩ =>
  ⟨e, fp, _, hE, ht, fun r e' v H' fp' fr h o _ f n _ _ => k.nx e' σ H' fp' h (.expr o f n)⟩⟩
@[simp] def vRet (te : TV) : TVS := fun E e => te e fun r e1 => ∃ d, Mv r e1 d ∧ E.rt d e1
theorem vs_ret (he : VE X x q te) : VS X (.Return (some x) pos) [] (vRet te) := ⟨PSimp (ps_ret he.pe) fun D' σ H ⟨e, fp, E, hE, ht, k⟩ =>
  ⟨e, fp, _, hE, ht, fun r e' v H' fp' fr ⟨d, m, h⟩ o ov f n nr _ => k.rt d e' v σ H' fp' fr h (.expr o f n) (ov.move o m) ov.dis nr⟩⟩
@[simp] def vRetN : TVS := fun E e => E.rt .non e
theorem vs_retN : VS X (.Return none pos) [] vRetN := ⟨PSimp ps_retN fun D' σ H ⟨e, fp, E, hE, ht, k⟩ => k.rt .non e .non σ H fp [] ht (.refl hE) .non (fun _ z => nomatch z) (New.nil _ _)⟩
@[simp] def vIf (c : TVT) (t u : TVS) : TVS := fun E e => c e fun b e1 => if b = true then t E e1 else u E e1
theorem vs_if {c : Expr} {a b : List Stmt} (hc : VT X c q tc) (ha : VSs X a as1 t) (hb : VSs X b as2 u) : VS X (.If c a b pos) (as1 ++ as2) (vIf tc t u) := ⟨PSimp (ps_if hc.pt ha.ps hb.ps) fun D' σ H ⟨e, fp, E, hE, ht, k⟩ => by
  refine ⟨e, fp, _, hE, ht, fun b e1 H1 fp1 h o f n _ => ?_⟩
  have p : Pst X.K H fp σ [] e1 σ H1 fp1 := .expr o f n
  cases b with
  | true => exact ⟨e1, fp1, E, o, h, k.step hE.mut p (fun _ z => nomatch z) fun i hi => List.mem_append_left _ hi⟩
  | false => exact ⟨e1, fp1, E, o, h, k.step hE.mut p (fun _ z => nomatch z) fun i hi => List.mem_append_right _ hi⟩⟩
/-! ### targets -/
abbrev TVG := D → SE → (SE → Prop) → Prop
abbrev TVGs := List D → SE → (SE → Prop) → Prop
def rdG (K : PySem.W.Frag) (as : List Nat) (t : TVG) : TG := fun v σ H Q => ∃ d e fp fr E, OwnE K H e σ fp ∧ Own K H d v fr ∧ Dis fr fp ∧ t d e E ∧ ∀ e' σ' fp', E e' → OwnE K H e' σ' fp' → (∀ b ∈ fp', b ∈ fp ∨ b ∈ fr) → Keep as σ σ' → Q σ' H
def rdGs (K : PySem.W.Frag) (as : List Nat) (t : TVGs) : TGs := fun vs σ H Q => ∃ ds e fp fr E, OwnE K H e σ fp ∧ Owns K H ds vs fr ∧ Dis fr fp ∧ t ds e E ∧ ∀ e' σ' fp', E e' → OwnE K H e' σ' fp' → (∀ b ∈ fp', b ∈ fp ∨ b ∈ fr) → Keep as σ σ' → Q σ' H
structure VG (X : Cx) (x : Expr) (as : List Nat) (t : TVG) : Prop where
  pg : PG X x (rdG X.K as t)
structure VGs (X : Cx) (xs : List Expr) (as : List Nat) (t : TVGs) : Prop where
  pg : PGs X xs (rdGs X.K as t)
theorem PGimp {X : Cx} {x : Expr} {t t' : TG} (h : PG X x t) (i : ∀ v σ H Q, t' v σ H Q → t v σ H Q) : PG X x t' := ⟨fun pins s σ H v u Q I r w => h.run pins s σ H v u Q I r (i _ _ _ _ w)⟩
theorem PGsimp {X : Cx} {x : List Expr} {t t' : TGs} (h : PGs X x t) (i : ∀ v σ H Q, t' v σ H Q → t v σ H Q) : PGs X x t' := ⟨fun pins s σ H v u Q I r w => h.run pins s σ H v u Q I r (i _ _ _ _ w)⟩
@[simp] def vgN (i : Nat) : TVG := fun d e E => E (e.set i (some d))
theorem vg_name {i : Nat} (h : PG X x (gName i)) : VG X x [i] (vgN i) := ⟨PGimp h fun v σ H Q ⟨d, e, fp, fr, E, hE, o, n, ht, k⟩ => by
  obtain ⟨fq, q1, q2⟩ := hE.bind i o n
  exact k _ _ fq ht q1 (fun b hb => (q2 b hb).symm) .set⟩
@[simp] def vgNil : TVGs := fun ds e E => ds = [] ∧ E e
@[simp] def vgCons (t : TVG) (u : TVGs) : TVGs := fun ds e E => ∃ d dr, ds = d :: dr ∧ t d e fun e1 => u dr e1 E
theorem vgs_nil : VGs X [] [] vgNil := ⟨PGsimp pgs_nil fun vs σ H Q ⟨ds, e, fp, fr, E, hE, o, n, ⟨z, ht⟩, k⟩ => by
  subst z
  cases o
  exact ⟨rfl, k e σ fp ht hE (fun b hb => .inl hb) (Keep.refl _ _)⟩⟩
theorem vgs_cons {xs : List Expr} {tg : TVG} {ts : TVGs} (h1 : VG X x as1 tg) (h2 : VGs X xs as2 ts) (hs : (assignEach (x :: xs) X.env).map (·.2) = assign x X.env :: (assignEach xs X.env).map (·.2) := by rfl) : VGs X (x :: xs) (as1 ++ as2) (vgCons tg ts) :=
  ⟨PGsimp (pgs_cons h1.pg h2.pg hs) fun vs σ H Q ⟨ds, e, fp, fr, E, hE, o, n, ⟨d, dr, z, ht⟩, k⟩ => by
    subst z
    cases o with
    | @cons _ v _ vs' f fs o os nd =>
      refine ⟨v, vs', rfl, d, e, fp, f, _, hE, o, fun b hb => n b (List.mem_append_left _ hb), ht, fun e1 σ1 fp1 h1 o1 n1 k1 => ?_⟩
      refine ⟨dr, e1, fp1, fs, E, o1, os, fun b hb hc => ?_, h1, fun e2 σ2 fp2 h2 o2 n2 k2 => k e2 σ2 fp2 h2 o2 (fun b hb => ?_) (k1.trans k2)⟩
      · rcases n1 b hc with z | z
        · exact n b (List.mem_append_right _ hb) z
        · exact nd b z hb
      · rcases n2 b hb with z | z
        · rcases n1 b z with y | y
          · exact .inl y
          · exact .inr (List.mem_append_left _ y)
        · exact .inr (List.mem_append_right _ z)⟩
@[simp] def vgTup (n : Nat) (t : TVGs) : TVG := fun d e E => ∃ ds, d = .tup ds ∧ ds.length = n ∧ t ds e E
theorem vg_tup {n : Nat} {ts : TVGs} (g : ∀ {t : TGs}, PGs X sts' t → PG X x (gTup X.K n t)) (h : VGs X sts' as ts) : VG X x as (vgTup n ts) := ⟨PGimp (g h.pg) fun v σ H Q ⟨d, e, fp, fr, E, hE, o, nn, ⟨ds, z, hl, ht⟩, k⟩ => by
  subst z
  cases o with
  | tup ha os => exact ⟨_, _, rfl, .of ha, by rw [← os.len]; exact hl, ds, e, fp, fr, E, hE, os, nn, ht, k⟩⟩
@[simp] def vAsg (te : TV) (tg : TVG) : TVS := fun E e => te e fun r e1 => ∃ d, Mv r e1 d ∧ tg d e1 E.nx
theorem rd_asg {K : PySem.W.Frag} {tl : TE} {g : TG} {tg : TVG} (ie : ∀ σ H Q, rd K q te σ H Q → tl σ H Q) (ig : ∀ v σ H Q, rdG K as tg v σ H Q → g v σ H Q) (D' : Ends) (σ : St) (H : Hp) (h : rdS K as (vAsg te tg) D' σ H) : tAsg tl g D' σ H := by
  obtain ⟨e, fp, E, hE, ht, k⟩ := h
  refine ie σ H _ ⟨e, fp, _, hE, ht, fun r e1 v H1 fp1 fr ⟨d, m, h⟩ o ov f n nr _ => ig _ _ _ _ ⟨d, e1, fp1, fr, E.nx, o, ov.move o m, ov.dis, h, fun e' σ' fp' h' o' n' k' => ?_⟩⟩
  refine k.nx e' σ' H1 fp' h' ⟨o', f, fun b hb => ?_, k'⟩
  rcases n' b hb with z | z
  · exact n b z
  · exact nr b z
theorem vs_asg {y : Expr} {tg : TVG} (g : ∀ {te : TE} {tg : TG}, PE X x te → PG X y tg → PS X st (tAsg te tg)) (he : VE X x q te) (hg : VG X y as tg) : VS X st as (vAsg te tg) := ⟨PSimp (g he.pe hg.pg) fun D' σ H h => rd_asg (fun _ _ _ z => z) (fun _ _ _ _ z => z) D' σ H h⟩
theorem gName_imp {K : PySem.W.Frag} {i : Nat} (v : V) (σ : St) (H : Hp) (Q : St → Hp → Prop) (h : rdG K [i] (vgN i) v σ H Q) : gName i v σ H Q := by
  obtain ⟨d, e, fp, fr, E, hE, o, n, ht, k⟩ := h
  obtain ⟨fq, q1, q2⟩ := hE.bind i o n
  exact k _ _ fq ht q1 (fun b hb => (q2 b hb).symm) .set
/-- name = e -/
theorem vs_set {i : Nat} (g : ∀ {te : TE}, PE X x te → PS X st (tAsg te (gName i))) (he : VE X x q te) : VS X st [i] (vAsg te (vgN i)) := ⟨PSimp (g he.pe) fun D' σ H h => rd_asg (fun _ _ _ z => z) gName_imp D' σ H h⟩
theorem vs_setR {i : Nat} {tl : TE} (g : PS X st (tAsg tl (gName i))) (ie : ∀ σ H Q, rd X.K q te σ H Q → tl σ H Q) : VS X st [i] (vAsg te (vgN i)) := ⟨PSimp g fun D' σ H h => rd_asg ie gName_imp D' σ H h⟩
/-- a, b = x, y -/
@[simp] def vPar (i j : Nat) (t : TVA) : TVS := fun E e => t e fun rs e1 => ∃ d1 d2, MvL rs e1 [d1, d2] ∧ E.nx ((e1.set i (some d1)).set j (some d2))
theorem vs_par {i j : Nat} {es : List Expr} {t : TVA} (g : ∀ {ta : TA}, PA X es ta → PS X st (tPar i j ta)) (ha : VA X es q t) : VS X st [i, j] (vPar i j t) := ⟨PSimp (g ha.pa) fun D' σ H ⟨e, fp, E, hE, ht, k⟩ => by
  refine ⟨e, fp, _, hE, ht, fun rs e1 vs H1 fp1 fr ⟨d1, d2, m, h⟩ o ov f n nr _ => ?_⟩
  have os := ov.move o m
  cases os with
  | @cons _ v1 _ _ f1 _ o1 os n1 =>
    cases os with
    | @cons _ v2 _ _ f2 _ o2 os n2 =>
      cases os
      have dis := ov.dis
      obtain ⟨fq, q1, q2⟩ := o.bind i o1 fun b hb => dis b (List.mem_append_left _ hb)
      obtain ⟨fw, w1, w2⟩ := q1.bind j o2 fun b hb hc => by
        rcases q2 b hc with z | z
        · exact n1 b z (List.mem_append_left _ hb)
        · exact dis b (List.mem_append_right _ (List.mem_append_left _ hb)) z
      refine ⟨v1, v2, rfl, k.nx _ _ H1 fw h ⟨w1, f, fun b hb => ?_, Keep.trans (as := [i]) (bs := [j]) .set .set⟩⟩
      · rcases w2 b hb with z | z
        · exact nr b (List.mem_append_right _ (List.mem_append_left _ z))
        · rcases q2 b z with y | y
          · exact nr b (List.mem_append_left _ y)
          · exact n b y⟩
/-- name op= e -/
@[simp] def vAug (i : Nat) (te : TV) (f : F2) : TVS := fun E e => ∃ d0, e[i]? = some (some d0) ∧ d0.im = true ∧ te e fun r e1 => ∃ d1, r.get e1 = some d1 ∧ f d0 d1 fun d => E.nx (e1.set i (some d))
theorem vs_aug {i : Nat} {r : R2} {f : F2} (g : ∀ {te : TE}, PE X x te → PS X st (tAug i te r)) (op : Op2 X.K r f) (he : VE X x q te) : VS X st [i] (vAug i te f) := ⟨PSimp (g he.pe) fun D' σ H ⟨e, fp, E, hE, ⟨d0, h0, hi, ht⟩, k⟩ => by
  obtain ⟨v0, f0, s0, o0, _, _⟩ := hE.lens h0
  have z0 := o0.imf hi
  subst z0
  refine ⟨v0, s0, e, fp, _, hE, ht, fun r e1 v H1 fp1 fr ⟨d1, g1, hf⟩ o ov fF n nr _ => ?_⟩
  obtain ⟨fd, p1, _⟩ := ov.read o g1
  have o0' : Own X.K H1 d0 v0 [] := o0.fr (fun _ z => nomatch z) hE.mut fF
  refine op H1 d0 v0 [] d1 v fd _ _ o0' p1 hf fun d v' H' f' hR hO hS hn => ?_
  obtain ⟨fq, q1, q2⟩ := (o.same hS).bind i hO fun b hb hc => o.ne_none hc (hn b hb)
  refine k.nx _ _ H' fq hR ⟨q1, fF.trans n (Fr.of_same hS), fun b hb => ?_, .set⟩
  rcases q2 b hb with z | z
  · by_cases hbf : b ∈ fp
    · exact .inl hbf
    · exact .inr (fF.none hE.mut (hn b z) hbf)
  · exact n b z⟩
/-! ### while -/
def vWhile (c : TVT) (t : TVS) : TVS := fun E e => ∃ W : Nat → SE → Prop, (∃ m, W m e) ∧ ∀ m e, W m e → c e fun b e1 => if b = true then t { E with nx := fun e' => ∃ m', m' < m ∧ W m' e', ct := fun e' => ∃ m', m' < m ∧ W m' e', bk := E.nx } e1 else E.nx e1
theorem vs_while {c : Expr} (g : ∀ {c' : TT} {t' : TS}, PT X c c' → PSs X body t' → PS X st (tWhile c' t')) (hc : VT X c qc tc) (hb : VSs X body as t) : VS X st as (vWhile tc t) := ⟨PSimp (g hc.pt hb.ps) fun D' σ H ⟨e, fp, E, hE, ⟨W, ⟨m0, w0⟩, turn⟩, k⟩ => by
  refine ⟨fun m σ' H' => ∃ e' fp', W m e' ∧ Pst X.K H fp σ as e' σ' H' fp', ⟨m0, e, fp, w0, .refl hE⟩, fun m σ1 H1 ⟨e1, fp1, w1, p1⟩ => ?_⟩
  refine ⟨e1, fp1, _, p1.own, turn m e1 w1, fun b e2 H2 fp2 h o f n _ => ?_⟩
  have p2 : Pst X.K H fp σ as e2 σ1 H2 fp2 := (p1.trans (as2 := []) hE.mut (.expr o f n)).mono fun i hi => by simpa using hi
  cases b with
  | false => exact k.nx e2 σ1 H2 fp2 h p2
  | true =>
    refine ⟨fun σ' H' => ∃ e' fp' m', m' < m ∧ W m' e' ∧ Pst X.K H fp σ as e' σ' H' fp', fun σ' H' ⟨e', fp', m', hm, w, p⟩ => ⟨m', hm, e', fp', w, p⟩, e2, fp2, _, o, h, ?_⟩
    have tr : ∀ {e3 σ3 H3 fp3}, Pst X.K H2 fp2 σ1 as e3 σ3 H3 fp3 → Pst X.K H fp σ as e3 σ3 H3 fp3 := fun {e3 σ3 H3 fp3} b => (p2.trans hE.mut b).mono fun i hi => by
      rcases List.mem_append.mp hi with z | z <;> exact z
    exact ⟨fun e' σ' H' fp' ⟨m', hm, w⟩ p => ⟨e', fp', m', hm, w, tr p⟩, fun d e' v σ' H' fp' fr h p o' d' n' => k.rt d e' v σ' H' fp' fr h (tr p) o' d' (New.trans hE.mut p2.fr p2.new n'),
      fun e' σ' H' fp' h p => k.nx e' σ' H' fp' h (tr p), fun e' σ' H' fp' ⟨m', hm, w⟩ p => ⟨e', fp', m', hm, w, tr p⟩⟩⟩
end
end L2.VL
set_option Elab.async false
set_option linter.all false
set_option maxRecDepth 100000
namespace L2.VL
open PySem PySem.Spec PyProof.Rows

/-! ### what is walked: its items, the slots that must stay bound as they are, what must stay true of the slots -/
structure SrcOk (K : PySem.W.Frag) (J : It) (ds : List D) (deps : List Nat) (stays : SE → Prop) (σ1 : St) (H1 : Hp) (fp1 : List Addr) : Prop where
  im : ∀ d ∈ ds, d.im = true
  run : ∀ e σ H fp, OwnE K H e σ fp → Fr fp1 H1 H → (∀ j ∈ deps, σ[j]? = σ1[j]?) → stays e →
    (∀ i d, ds[i]? = some d → J.go i H ∧ ∀ x H', J.yld i H x H' → Same H H' ∧ Own K H' d x []) ∧ J.stop ds.length H
abbrev TVI := SE → (List D → List Nat → (SE → Prop) → SE → Prop) → Prop
def rdI (K : PySem.W.Frag) (t : TVI) : TI := fun σ H R => ∃ e fp T, OwnE K H e σ fp ∧ t e T ∧ ∀ ds deps stays e' J H' fp', T ds deps stays e' → OwnE K H' e' σ fp' → Fr fp H H' → New fp H fp' → SrcOk K J ds deps stays σ H' fp' → R J H'
structure VI (X : Cx) (tg iter : Expr) (t : TVI) : Prop where
  pi : PI X tg iter (rdI X.K t)
theorem PIimp {X : Cx} {tg x : Expr} {t t' : TI} (h : PI X tg x t) (i : ∀ σ H Q, t' σ H Q → t σ H Q) : PI X tg x t' := ⟨fun pins s σ H Q I w => h.run pins s σ H Q I (i _ _ _ w)⟩

section
variable {X : Cx} {st : Stmt} {body : List Stmt} {x tg it : Expr} {q : Bool} {t : TVS} {te : TV} {ti : TVI} {g : TVG} {as ag : List Nat} {pos : Pos} {ta : TVA} {es : List Expr}
/-- a list that stands in a slot -/
@[simp] def viSlot (te : TV) : TVI := fun e T => te e fun r e1 => r.at fun j p => p = [] ∧ ∃ ds, e1[j]? = some (some (.lst ds)) ∧ D.ims ds = true ∧ T ds [j] (fun e => e[j]? = some (some (.lst ds))) e1
/-- a list of one's own, or one that never changes -/
@[simp] def viVal (te : TV) : TVI := fun e T => te e fun r e1 => ∃ ds, r = .val (.lst ds) ∧ D.ims ds = true ∧ T ds [] (fun _ => True) e1
@[simp] def viTup (te : TV) : TVI := fun e T => te e fun r e1 => ∃ ds, r.get e1 = some (.tup ds) ∧ D.ims ds = true ∧ T ds [] (fun _ => True) e1
theorem ims_mem : ∀ {ds : List D}, D.ims ds = true → ∀ d ∈ ds, d.im = true
  | [], _, d, h => nomatch h
  | a :: r, h, d, hd => by
    simp only [D.ims, Bool.and_eq_true] at h
    rcases List.mem_cons.mp hd with rfl | hd
    · exact h.1
    · exact ims_mem h.2 d hd
theorem Owns.get_im {K : PySem.W.Frag} {H : Hp} : ∀ {ds : List D} {vs : List V} {fp : List Addr}, Owns K H ds vs fp → D.ims ds = true → ∀ {i : Nat} {d : D}, ds[i]? = some d → ∃ v, vs[i]? = some v ∧ Own K H d v [] := fun {ds vs fp} o h {i d} hd => by
  obtain ⟨w, fk, h1, h2, _, _⟩ := o.lens hd
  have z := h2.imf (ims_mem h d (List.mem_of_getElem? hd))
  subst z
  exact ⟨w, h1, h2⟩
theorem src_list {K : PySem.W.Frag} {H : Hp} {ds : List D} {a : Addr} {f : List Addr} (o : Own K H (.lst ds) (.ref a) f) (h : D.ims ds = true) :
    (∀ i d, ds[i]? = some d → (Itl K a).go i H ∧ ∀ x H', (Itl K a).yld i H x H' → Same H H' ∧ Own K H' d x []) ∧ (Itl K a).stop ds.length H := by
  cases o with
  | @lst _ vs _ fp e os n =>
    refine ⟨fun i d hd => ?_, vs, .of e, by rw [os.len]; exact Nat.le_refl _⟩
    obtain ⟨v, h1, h2⟩ := os.get_im h hd
    refine ⟨⟨vs, v, .of e, h1⟩, fun x H' ⟨hH, hx⟩ => ?_⟩
    subst hH
    have := hx vs (.of e)
    rw [h1] at this
    cases this
    exact ⟨Same.refl _, h2⟩
theorem vi_slot (he : VE X x q te) : VI X tg x (viSlot te) := ⟨PIimp (pi_list he.pe) fun σ H R ⟨e, fp, T, hE, ht, k⟩ => by
  refine ⟨e, fp, _, hE, ht, fun r e1 v H1 fp1 fr hat hE1 hR hF hN _ _ => ?_⟩
  obtain ⟨j, p, hr, hp, ds, hj, hi, hT⟩ := RV.at_iff.mp hat
  subst hp
  subst hr
  obtain ⟨u, fd, h1, h2, _, _⟩ := hE1.lens hj
  have ev : v = u := by
    cases hR with
    | plc a b =>
      rw [h1] at a
      cases a
      exact Eq.symm b
  subst ev
  obtain ⟨a, rfl⟩ := h2.isM_ref rfl
  refine ⟨a, rfl, ?_, k ds [j] _ e1 _ H1 fp1 hT hE1 hF hN ⟨ims_mem hi, fun e' σ' H' fp' o' f' hd hs => ?_⟩⟩
  · cases h2 with
    | lst e _ _ => exact ⟨_, .of e⟩
  · obtain ⟨u', fd', g1, g2, _, _⟩ := o'.lens hs
    rw [hd j (by simp), h1] at g1
    cases g1
    exact src_list g2 hi⟩
theorem vi_val (he : VE X x q te) : VI X tg x (viVal te) := ⟨PIimp (pi_list he.pe) fun σ H R ⟨e, fp, T, hE, ht, k⟩ => by
  refine ⟨e, fp, _, hE, ht, fun r e1 v H1 fp1 fr ⟨ds, hr, hi, hT⟩ hE1 hR hF hN _ _ => ?_⟩
  subst hr
  cases hR with
  | val o n =>
    obtain ⟨a, rfl⟩ := o.isM_ref rfl
    refine ⟨a, rfl, ?_, k ds [] _ e1 _ H1 fp1 hT hE1 hF hN ⟨ims_mem hi, fun e' σ' H' fp' o' f' hd hs => src_list (o.fr n hE1.mut f') hi⟩⟩
    cases o with
    | lst e _ _ => exact ⟨_, .of e⟩⟩
theorem vi_tup (he : VE X x q te) : VI X tg x (viTup te) := ⟨PIimp (pi_tup he.pe) fun σ H R ⟨e, fp, T, hE, ht, k⟩ => by
  refine ⟨e, fp, _, hE, ht, fun r e1 v H1 fp1 fr ⟨ds, hr, hi, hT⟩ hE1 hR hF hN _ _ => ?_⟩
  obtain ⟨fd, o, _⟩ := hR.read hE1 hr
  have z := o.imf (show D.im (.tup ds) = true from hi)
  subst z
  have key : ∀ H', Fr fp1 H1 H' → Own X.K H' (.tup ds) v [] := fun H' f => o.fr (fun _ z => nomatch z) hE1.mut f
  cases o with
  | @tup _ vs a _ e os =>
    refine ⟨a, rfl, ⟨vs, .of e⟩, k ds [] _ e1 _ H1 fp1 hT hE1 hF hN ⟨ims_mem hi, fun e' σ' H' fp' o' f' hd hs => ?_⟩⟩
    have q := key H' f'
    cases q with
    | @tup _ vs' _ _ e' os' =>
      refine ⟨fun i d hd => ?_, vs', .of e', by rw [os'.len]; exact Nat.le_refl _⟩
      obtain ⟨v, h1, h2⟩ := os'.get_im hi hd
      refine ⟨⟨vs', v, .of e', h1⟩, fun x H'' ⟨hH, hx⟩ => ?_⟩
      subst hH
      have := hx vs' (.of e')
      rw [h1] at this
      cases this
      exact ⟨Same.refl _, h2⟩⟩
/-- ranges -/
def rangeD (lo : Int) (n : Nat) : List D := (List.range n).map fun i => D.int (lo + (i : Nat))
theorem rangeD_len (lo : Int) (n : Nat) : (rangeD lo n).length = n := by simp [rangeD]
theorem rangeD_get {lo : Int} {n i : Nat} {d : D} (h : (rangeD lo n)[i]? = some d) : i < n ∧ d = .int (lo + (i : Nat)) := by
  unfold rangeD at h
  rw [List.getElem?_map] at h
  by_cases hi : i < n
  · rw [List.getElem?_range hi] at h
    exact ⟨hi, (Option.some.inj h).symm⟩
  · rw [List.getElem?_eq_none (by simpa using hi)] at h
    cases h
theorem src_range {K : PySem.W.Frag} {lo : Int} {n : Nat} {deps : List Nat} {stays : SE → Prop} {σ1 : St} {H1 : Hp} {fp1 : List Addr} : SrcOk K (Itr lo n) (rangeD lo n) deps stays σ1 H1 fp1 := ⟨fun d hd => by
    obtain ⟨i, _, rfl⟩ := List.mem_map.mp hd
    rfl, fun e σ H fp _ _ _ _ => ⟨fun i d hd => by
    obtain ⟨hi, rfl⟩ := rangeD_get hd
    exact ⟨hi, fun x H' ⟨h1, h2⟩ => by
      subst h1 h2
      exact ⟨Same.refl _, .int _⟩⟩, by
    rw [rangeD_len]
    exact Nat.le_refl _⟩⟩
@[simp] def viR1 (t : TVA) : TVI := fun e T => t e fun rs e1 => ∃ n : Int, GetL rs e1 [.int n] ∧ n < 4611686018427387904 ∧ -4611686018427387904 ≤ n ∧ T (rangeD 0 n.toNat) [] (fun _ => True) e1
@[simp] def viR2 (t : TVA) : TVI := fun e T => t e fun rs e1 => ∃ a b : Int, GetL rs e1 [.int a, .int b] ∧ (a < 4611686018427387904 ∧ -4611686018427387904 ≤ a ∧ b < 4611686018427387904 ∧ -4611686018427387904 ≤ b) ∧ T (rangeD a (b - a).toNat) [] (fun _ => True) e1
theorem ReadL.one_int {K : PySem.W.Frag} {H : Hp} {n : Int} {vs : List V} (h : ReadL K H [.int n] vs) : vs = [.int n] := by
  cases h with
  | cons o r =>
    cases r
    cases o
    rfl
theorem ReadL.two_int {K : PySem.W.Frag} {H : Hp} {n m : Int} {vs : List V} (h : ReadL K H [.int n, .int m] vs) : vs = [.int n, .int m] := by
  cases h with
  | cons o r =>
    cases o
    rw [r.one_int]
theorem vi_range1 (g : ∀ {ta : TA}, PA X es ta → PI X tg x (iRng1 ta)) (ha : VA X es q ta) : VI X tg x (viR1 ta) := ⟨PIimp (g ha.pa) fun σ H R ⟨e, fp, T, hE, ht, k⟩ => by
  refine ⟨e, fp, _, hE, ht, fun rs e1 vs H1 fp1 fr ⟨n, g, h1, h2, hT⟩ hE1 hR hF hN _ _ => ?_⟩
  have z := (hR.read hE1 g).one_int
  subst z
  exact ⟨n, rfl, by simpa using h2, by simpa using h1, k _ [] _ e1 _ H1 fp1 hT hE1 hF hN src_range⟩⟩
theorem vi_range2 (g : ∀ {ta : TA}, PA X es ta → PI X tg x (iRng2 ta)) (ha : VA X es q ta) : VI X tg x (viR2 ta) := ⟨PIimp (g ha.pa) fun σ H R ⟨e, fp, T, hE, ht, k⟩ => by
  refine ⟨e, fp, _, hE, ht, fun rs e1 vs H1 fp1 fr ⟨a, b, g, ⟨h1, h2, h3, h4⟩, hT⟩ hE1 hR hF hN _ _ => ?_⟩
  have z := (hR.read hE1 g).two_int
  subst z
  exact ⟨a, b, rfl, ⟨by simpa using h2, by simpa using h1, by simpa using h4, by simpa using h3⟩, k _ [] _ e1 _ H1 fp1 hT hE1 hF hN src_range⟩⟩
/-- range(a, b, -1) -/
def rangeC (lo c : Int) (n : Nat) : List D := (List.range n).map fun i => D.int (lo + (i : Nat) * c)
theorem rangeC_len (lo c : Int) (n : Nat) : (rangeC lo c n).length = n := by simp [rangeC]
theorem rangeC_get {lo c : Int} {n i : Nat} {d : D} (h : (rangeC lo c n)[i]? = some d) : i < n ∧ d = .int (lo + (i : Nat) * c) := by
  unfold rangeC at h
  rw [List.getElem?_map] at h
  by_cases hi : i < n
  · rw [List.getElem?_range hi] at h
    exact ⟨hi, (Option.some.inj h).symm⟩
  · rw [List.getElem?_eq_none (by simpa using hi)] at h
    cases h
theorem src_rangeC {K : PySem.W.Frag} {lo c : Int} {n : Nat} {deps : List Nat} {stays : SE → Prop} {σ1 : St} {H1 : Hp} {fp1 : List Addr} : SrcOk K (Itc lo c n) (rangeC lo c n) deps stays σ1 H1 fp1 := ⟨fun d hd => by
    obtain ⟨i, _, rfl⟩ := List.mem_map.mp hd
    rfl, fun e σ H fp _ _ _ _ => ⟨fun i d hd => by
    obtain ⟨hi, rfl⟩ := rangeC_get hd
    exact ⟨hi, fun x H' ⟨h1, h2⟩ => by
      subst h1 h2
      exact ⟨Same.refl _, .int _⟩⟩, by
    rw [rangeC_len]
    exact Nat.le_refl _⟩⟩
/-- a text, sign by sign -/
def signsD (z : Str) : List D := z.cps.toList.map fun c => D.str ⟨#[c]⟩
@[simp] def viStr (te : TV) : TVI := fun e T => te e fun r e1 => ∃ z, r.get e1 = some (.str z) ∧ T (signsD z) [] (fun _ => True) e1
theorem vi_str (g : ∀ {te : TE}, PE X x te → PI X tg x (fun σ H R => te σ H fun v H1 => ∃ z, v = .str z ∧ R (Its z) H1)) (he : VE X x q te) : VI X tg x (viStr te) := ⟨PIimp (g he.pe) fun σ H R ⟨e, fp, T, hE, ht, k⟩ => by
  refine ⟨e, fp, _, hE, ht, fun r e1 v H1 fp1 fr ⟨z, hr, hT⟩ hE1 hR hF hN _ _ => ?_⟩
  obtain ⟨fd, o, _⟩ := hR.read hE1 hr
  cases o
  refine ⟨z, rfl, k _ [] _ e1 _ H1 fp1 hT hE1 hF hN ⟨fun d hd => ?_, fun e' σ' H' fp' o' f' _ _ => ⟨fun i d hd => ?_, ?_⟩⟩⟩
  · obtain ⟨c, _, rfl⟩ := List.mem_map.mp hd
    rfl
  · unfold signsD at hd
    rw [List.getElem?_map] at hd
    cases hc : z.cps.toList[i]? with
    | none => rw [hc] at hd; cases hd
    | some c =>
      rw [hc] at hd
      cases hd
      have hi : i < z.cps.size := by
        have := (List.getElem?_eq_some_iff.mp hc).1
        simpa using this
      refine ⟨walk_str.goes i H' hi True.intro, fun y H'' hy => ?_⟩
      obtain ⟨hH, c', hc', hv⟩ := walk_str.yields i H' y H'' hi True.intro hy
      subst hH
      rw [← Array.getElem?_toList, hc] at hc'
      cases hc'
      rw [hv]
      exact ⟨Same.refl _, .str _⟩
  · have := (walk_str (z := z)).stops H' True.intro
    have l : (signsD z).length = z.cps.size := by simp [signsD]
    rw [l]
    exact this⟩
/-! ### for -/
def vFor (as : List Nat) (ti : TVI) (g : TVG) (t : TVS) : TVS := fun E e => ti e fun ds deps stays e1 => (deps.all fun j => !as.contains j) = true ∧ ∃ W : Nat → SE → Prop, W 0 e1 ∧ (∀ i e, W i e → stays e) ∧
  (∀ i d e, ds[i]? = some d → W i e → g d e fun e' => t { E with nx := W (i + 1), ct := W (i + 1), bk := E.nx } e') ∧ ∀ e, W ds.length e → E.nx e
theorem vs_for (f : ∀ {wi : TI} {g : TG} {tb : TS}, PI X tg it wi → PG X tg g → PSs X body tb → PS X st (tFor wi g tb)) (hi : VI X tg it ti) (hg : VG X tg ag g) (hb : VSs X body as t) : VS X st (ag ++ as) (vFor (ag ++ as) ti g t) :=
  ⟨PSimp (f hi.pi hg.pg hb.ps) fun D' σ H ⟨e, fp, E, hE, ht, k⟩ => by
    refine ⟨e, fp, _, hE, ht, fun ds deps stays e1 J H1 fp1 ⟨hdep, W, w0, wst, turn, done⟩ hE1 hF1 hN1 S => ?_⟩
    have p1 : Pst X.K H fp σ (ag ++ as) e1 σ H1 fp1 := .expr hE1 hF1 hN1
    have hdep' : ∀ j ∈ deps, j ∉ ag ++ as := fun j hj => by
      have := List.all_eq_true.mp hdep j hj
      simpa using this
    refine ⟨fun i m σ' H' => m = ds.length - i ∧ i ≤ ds.length ∧ ∃ e' fp', W i e' ∧ Pst X.K H1 fp1 σ (ag ++ as) e' σ' H' fp', ⟨ds.length, by simp, Nat.zero_le _, e1, fp1, w0, .refl hE1⟩, fun i m σ2 H2 ⟨hm, hi, e2, fp2, w2, p2⟩ => ?_⟩
    subst hm
    obtain ⟨s1, s2⟩ := S.run e2 σ2 H2 fp2 p2.own p2.fr (fun j hj => p2.keep.at_ j (hdep' j hj)) (wst i e2 w2)
    have up : ∀ {e' σ' H' fp'}, Pst X.K H1 fp1 σ (ag ++ as) e' σ' H' fp' → Pst X.K H fp σ (ag ++ as) e' σ' H' fp' := fun {e' σ' H' fp'} p => (p1.trans hE.mut p).mono fun i hi => by
      rcases List.mem_append.mp hi with z | z <;> exact z
    by_cases hlt : i < ds.length
    · have hd : ds[i]? = some ds[i] := List.getElem?_eq_getElem hlt
      obtain ⟨go, yl⟩ := s1 i ds[i] hd
      refine .inr ⟨go, fun σ' H' => ∃ e' fp', W (i + 1) e' ∧ Pst X.K H1 fp1 σ (ag ++ as) e' σ' H' fp', fun σ' H' ⟨e', fp', w, p⟩ => ⟨ds.length - (i + 1), by omega, rfl, hlt, e', fp', w, p⟩, fun x H3 hy => ?_⟩
      obtain ⟨sm, ox⟩ := yl x H3 hy
      refine ⟨ds[i], e2, fp2, [], _, p2.own.same sm, ox, (fun _ z => nomatch z), turn i ds[i] e2 hd w2, fun e4 σ4 fp4 h4 o4 n4 k4 => ?_⟩
      have p4 : Pst X.K H1 fp1 σ (ag ++ as) e4 σ4 H3 fp4 := ⟨o4, p2.fr.trans p2.new (Fr.of_same sm), fun b hb => by
        rcases n4 b hb with z | z
        · exact p2.new b z
        · exact absurd z (List.not_mem_nil), (p2.keep.trans k4).mono fun i hi => by
        rcases List.mem_append.mp hi with z | z
        · exact z
        · exact List.mem_append_left _ z⟩
      have tr : ∀ {e5 σ5 H5 fp5}, Pst X.K H3 fp4 σ4 as e5 σ5 H5 fp5 → Pst X.K H1 fp1 σ (ag ++ as) e5 σ5 H5 fp5 := fun {e5 σ5 H5 fp5} p => (p4.trans hE1.mut p).mono fun i hi => by
        rcases List.mem_append.mp hi with z | z
        · exact z
        · exact List.mem_append_right _ z
      exact ⟨e4, fp4, _, o4, h4, ⟨fun e' σ' H' fp' h p => ⟨e', fp', h, tr p⟩, fun d e' v σ' H' fp' fr h p o' d' n' => k.rt d e' v σ' H' fp' fr h (up (tr p)) o' d' (New.trans hE.mut (up p4).fr (up p4).new n'),
        fun e' σ' H' fp' h p => k.nx e' σ' H' fp' h (up (tr p)), fun e' σ' H' fp' h p => ⟨e', fp', h, tr p⟩⟩⟩
    · have ei : i = ds.length := by omega
      subst ei
      exact .inl ⟨s2, k.nx e2 σ2 H2 fp2 (done e2 w2) (up p2)⟩⟩
end
end L2.VL
set_option Elab.async false
set_option linter.all false
set_option maxRecDepth 100000
namespace L2.VL
open PySem PySem.Spec PyProof.Rows

/-! ### comprehensions -/
@[simp] def wipeE (e : SE) : List Nat → SE
  | [] => e
  | v :: vs => (wipeE e vs).set v none
section
variable {K : PySem.W.Frag} {H H' : Hp}
theorem OwnE.wiped {e : SE} {σ : St} {fp : List Addr} (o : OwnE K H e σ fp) : ∀ vs : List Nat, ∃ fr, OwnE K H (wipeE e vs) (wipe σ vs) fr ∧ ∀ a ∈ fr, a ∈ fp
  | [] => ⟨fp, o, fun _ h => h⟩
  | v :: vs => by
    obtain ⟨fr, h1, h2⟩ := o.wiped vs
    obtain ⟨fq, h3, h4⟩ := h1.drop v
    by_cases hv : v < (wipeE e vs).length
    · exact ⟨fq, h3.any none (by simp [hv]), fun a ha => h2 a (h4 a ha)⟩
    · have l := h1.len
      refine ⟨fq, ?_, fun a ha => h2 a (h4 a ha)⟩
      show OwnE K H ((wipeE e vs).set v none) ((wipe σ vs).set v none) fq
      rw [List.set_eq_of_length_le (l := wipe σ vs) (by omega)]
      exact h3
theorem wipeE_len (e : SE) : ∀ vs, (wipeE e vs).length = e.length
  | [] => rfl
  | v :: vs => by
    show ((wipeE e vs).set v none).length = _
    rw [List.length_set, wipeE_len e vs]
theorem wipeE_get (e : SE) : ∀ (vs : List Nat) (i : Nat), (wipeE e vs)[i]? = if i ∈ vs then (if i < e.length then some none else none) else e[i]?
  | [], i => by simp [wipeE]
  | v :: vs, i => by
    show ((wipeE e vs).set v none)[i]? = _
    rw [List.getElem?_set]
    by_cases h : v = i
    · subst h
      simp [wipeE_len]
    · rw [if_neg h, wipeE_get e vs i]
      have h' : ¬ i = v := fun z => h z.symm
      simp [h']
theorem wipeE_idem (e : SE) (vs : List Nat) : wipeE (wipeE e vs) vs = wipeE e vs := by
  apply List.ext_getElem?
  intro i
  rw [wipeE_get, wipeE_get, wipeE_len]
  by_cases h : i ∈ vs <;> simp [h]
theorem wipe_get (σ : St) : ∀ (vs : List Nat) (i : Nat), (wipe σ vs)[i]? = if i ∈ vs then (if i < σ.length then some none else none) else σ[i]?
  | [], i => by simp [wipe]
  | v :: vs, i => by
    show ((wipe σ vs).set v none)[i]? = _
    rw [List.getElem?_set]
    by_cases h : v = i
    · subst h
      simp [wipe_length]
    · rw [if_neg h, wipe_get σ vs i]
      have h' : ¬ i = v := fun z => h z.symm
      simp [h']
theorem wipe_eq {σ σ' : St} {ag vs : List Nat} (hl : σ'.length = σ.length) (k : ∀ i, i ∉ ag → σ'[i]? = (wipe σ vs)[i]?) (h : ∀ i ∈ ag, i ∈ vs) : wipe σ' vs = wipe σ vs := by
  apply List.ext_getElem?
  intro i
  rw [wipe_get, wipe_get]
  by_cases hi : i ∈ vs
  · simp only [hi, if_true]
    rw [hl]
  · rw [if_neg hi, if_neg hi]
    have q := k i fun z => hi (h i z)
    rw [wipe_get, if_neg hi] at q
    exact q
/-- empty slots by any values -/
theorem OwnE.unwipe {e : SE} : ∀ {σ σ' : St} {fp : List Addr}, OwnE K H e σ fp → σ'.length = σ.length → (∀ (i : Nat) (v : D), e[i]? = some (some v) → σ'[i]? = σ[i]?) → OwnE K H e σ' fp := by
  intro σ σ' fp o
  induction o generalizing σ' with
  | nil =>
    intro hl _
    cases σ' with
    | nil => exact .nil
    | cons a r => simp at hl
  | skip r ih =>
    intro hl hs
    cases σ' with
    | nil => simp at hl
    | cons a r' => exact .skip (ih (by simpa using hl) fun i v hv => by simpa using hs (i + 1) v (by simpa using hv))
  | hold o r n ih =>
    intro hl hs
    cases σ' with
    | nil => simp at hl
    | cons a r' =>
      have q := hs 0 _ rfl
      simp at q
      subst q
      exact .hold o (ih (by simpa using hl) fun i v hv => by simpa using hs (i + 1) v (by simpa using hv)) n
theorem Owns.snoc : ∀ {ds : List D} {vs : List V} {fs f : List Addr} {d : D} {v : V}, Owns K H ds vs fs → Own K H d v f → Dis f fs → ∃ fq, Owns K H (ds ++ [d]) (vs ++ [v]) fq ∧ ∀ a, a ∈ fq ↔ a ∈ fs ∨ a ∈ f
  | _, _, _, f, d, v, .nil, o, n => ⟨f ++ [], .cons o .nil (fun _ _ z => nomatch z), fun a => by simp⟩
  | _, _, _, f, d, v, .cons (fp := f0) (fps := f1) o0 r n0, o, n => by
    obtain ⟨fq, h1, h2⟩ := r.snoc o fun a ha hb => n a ha (List.mem_append_right _ hb)
    refine ⟨f0 ++ fq, .cons o0 h1 fun a ha hb => ?_, fun a => ?_⟩
    · rcases (h2 a).mp hb with q | q
      · exact n0 a ha q
      · exact n a q (List.mem_append_left _ ha)
    · simp only [List.mem_append, h2 a]
      exact or_assoc.symm
end
structure VTs (X : Cx) (ifs : List Expr) (q : Bool) (t : TVT) : Prop where
  pts : PTs X ifs (rdT X.K q t)
@[simp] def vYes : TVT := fun e R => R true e
theorem vts_nil {X : Cx} : VTs X [] true vYes := ⟨⟨fun pins s σ H Q I ⟨e, fp, R, hE, ht, hQ⟩ => pts_nil.run pins s σ H Q I (hQ true e H fp ht hE (Fr.refl _ _) (New.refl _ _) fun _ => ⟨rfl, Same.refl _⟩)⟩⟩
theorem vts_one {X : Cx} {c : Expr} {q : Bool} {t : TVT} (h : VT X c q t) : VTs X [c] q t := ⟨pts_one h.pt⟩
def vLc (vs : List Nat) (ti : TVI) (g : TVG) (tt : TVT) (te : TV) : TV := fun e R => ti e fun ds deps stays e1 => (deps.all fun j => !vs.contains j) = true ∧ ∃ W : Nat → List D → SE → Prop, W 0 [] (wipeE e1 vs) ∧ (∀ i acc e, W i acc e → stays e) ∧
  (∀ i d acc e, ds[i]? = some d → W i acc e → g d e fun e' => tt e' fun b e2 => if b = true then te e2 fun r e3 => ∃ y, Mv r e3 y ∧ acc.length < 16777216 ∧ W (i + 1) (acc ++ [y]) (wipeE e3 vs) else W (i + 1) acc (wipeE e2 vs)) ∧
  ∀ acc e, W ds.length acc e → R (.val (.lst acc)) e
theorem rd_lc {K : PySem.W.Frag} {vs ag : List Nat} {qt qe : Bool} {ti : TVI} {g : TVG} {tt : TVT} {te : TV} (hag : (ag.all fun i => vs.contains i) = true) (σ : St) (H : Hp) (Q : VK) (h : rd K false (vLc vs ti g tt te) σ H Q) :
    tLc (rdI K ti) (rdG K ag g) (rdT K qt tt) (rd K qe te) vs σ H Q := by
  obtain ⟨e, fp, R, hE, ht, hQ⟩ := h
  have hag' : ∀ i ∈ ag, i ∈ vs := fun i hi => by simpa using List.all_eq_true.mp hag i hi
  refine ⟨e, fp, _, hE, ht, fun ds deps stays e1 J H1 fp1 ⟨hdep, W, w0, wst, turn, done⟩ hE1 hF1 hN1 S L hL => ?_⟩
  have hdep' : ∀ j ∈ deps, j ∉ vs := fun j hj => by simpa using List.all_eq_true.mp hdep j hj
  -- the state at a turn
  let I : Nat → Nat → Hp → Prop := fun i m H2 => m = ds.length - i ∧ i ≤ ds.length ∧ ∃ acc e2 fp2 av fa, W i acc e2 ∧ wipeE e2 vs = e2 ∧ OwnE K H2 e2 (wipe σ vs) fp2 ∧ Fr fp1 H1 H2 ∧ New fp1 H1 fp2 ∧ H2 L = some (.lst av) ∧ Owns K H2 acc av fa ∧ Dis fa fp2 ∧ L ∉ fp2 ∧ L ∉ fa ∧ New fp1 H1 fa
  refine ⟨I, ⟨ds.length, ?_⟩, fun i m H2 ⟨hm, hi, acc, e2, fp2, av, fa, w2, z2, o2, f2, n2, hL2, oa, dfa, lfp, lfa, nfa⟩ => ?_⟩
  · obtain ⟨fr, h1, h2⟩ := hE1.wiped vs
    have sm : Same H1 (upd H1 L (.lst [])) := upd_same' hL
    exact ⟨by simp, Nat.zero_le _, [], _, fr, [], [], w0, wipeE_idem _ _, h1.same sm, Fr.of_same sm, fun b hb => .inl (h2 b hb), upd_same, .nil, (fun _ z => nomatch z), fun z => hE1.ne_none (h2 _ z) hL, (fun z => nomatch z), New.nil _ _⟩
  subst hm
  obtain ⟨s1, s2⟩ := S.run e2 (wipe σ vs) H2 fp2 o2 f2 (fun j hj => by rw [wipe_get, if_neg (hdep' j hj)]) (wst i acc e2 w2)
  by_cases hlt : i < ds.length
  · have hd : ds[i]? = some ds[i] := List.getElem?_eq_getElem hlt
    obtain ⟨go, yl⟩ := s1 i ds[i] hd
    refine .inr ⟨go, fun H' => I (i + 1) (ds.length - (i + 1)) H', fun H' hI => ⟨ds.length - (i + 1), by omega, hI⟩, fun x H3 hy => ?_⟩
    obtain ⟨sm, ox⟩ := yl x H3 hy
    refine ⟨ds[i], e2, fp2, [], _, o2.same sm, ox, (fun _ z => nomatch z), turn i ds[i] acc e2 hd w2, fun e4 σ4 fp4 h4 o4 n4 k4 => ?_⟩
    have hlen : σ4.length = σ.length := by rw [k4.len, wipe_length]
    have hw4 : wipe σ4 vs = wipe σ vs := wipe_eq hlen k4.at_ hag'
    have f3 : Fr fp1 H1 H3 := f2.trans n2 (Fr.of_same sm)
    have n3 : New fp1 H1 fp4 := fun b hb => by
      rcases n4 b hb with z | z
      · exact n2 b z
      · exact absurd z List.not_mem_nil
    have hL3 : H3 L = some (.lst av) := sm _ _ hL2
    have lfp4 : L ∉ fp4 := fun z => by
      rcases n4 _ z with y | y
      · exact lfp y
      · exact absurd y List.not_mem_nil
    have dfa4 : Dis fa fp4 := fun b hb hc => by
      rcases n4 b hc with y | y
      · exact dfa b hb y
      · exact absurd y List.not_mem_nil
    refine ⟨hw4, e4, fp4, _, o4, h4, fun b e5 H5 fp5 h5 o5 f5 n5 _ => ?_⟩
    have oa3 : Owns K H3 acc av fa := oa.same sm
    have oa5 : Owns K H5 acc av fa := oa3.fr dfa4 o4.mut f5
    have f5' : Fr fp1 H1 H5 := f3.trans n3 f5
    have n5' : New fp1 H1 fp5 := New.trans hE1.mut f3 n3 n5
    have hL5 : H5 L = some (.lst av) := f5 _ _ hL3 lfp4
    have lfp5 : L ∉ fp5 := fun z => by
      rcases n5 _ z with y | y
      · exact lfp4 y
      · rw [hL3] at y
        cases y
    have dfa5 : Dis fa fp5 := fun b hb hc => by
      rcases n5 b hc with y | y
      · exact dfa4 b hb y
      · exact oa3.ne_none hb y
    cases b with
    | false =>
      rw [if_neg Bool.false_ne_true] at h5
      obtain ⟨fr, r1, r2⟩ := o5.wiped vs
      rw [hw4] at r1
      exact ⟨rfl, hlt, acc, _, fr, av, fa, h5, wipeE_idem _ _, r1, f5', fun b hb => n5' b (r2 b hb), hL5, oa5, fun b hb hc => dfa5 b hb (r2 b hc), fun z => lfp5 (r2 _ z), lfa, nfa⟩
    | true =>
      rw [if_pos rfl] at h5
      refine ⟨e5, fp5, _, o5, h5, fun r e6 v H6 fp6 fr6 ⟨y, hm, hsz, hW⟩ o6 or6 f6 n6 m6 _ => ?_⟩
      have oy := or6.move o6 hm
      have hL6 : H6 L = some (.lst av) := f6 _ _ hL5 lfp5
      have oa6 : Owns K H6 acc av fa := oa5.fr dfa5 o5.mut f6
      have f6' : Fr fp1 H1 H6 := f5'.trans n5' f6
      have n6' : New fp1 H1 fp6 := New.trans hE1.mut f5' n5' n6
      have m6' : New fp1 H1 fr6 := New.trans hE1.mut f5' n5' m6
      have lfp6 : L ∉ fp6 := fun z => by
        rcases n6 _ z with y | y
        · exact lfp5 y
        · rw [hL5] at y
          cases y
      have lfr6 : L ∉ fr6 := fun z => by
        rcases m6 _ z with y | y
        · exact lfp5 y
        · rw [hL5] at y
          cases y
      have dfa6 : Dis fa fp6 := fun b hb hc => by
        rcases n6 b hc with y | y
        · exact dfa5 b hb y
        · exact oa5.ne_none hb y
      have dya : Dis fr6 fa := fun b hb hc => by
        rcases m6 b hb with y | y
        · exact dfa5 b hc y
        · exact oa5.ne_none hc y
      refine ⟨av, hL6, by rw [← oa6.len, sizeLine_eq]; exact hsz, ?_⟩
      have up : ∀ b o, H6 b = some o → b ≠ L → upd H6 L (.lst (av ++ [v])) b = some o := fun b o e n => by
        rw [upd_ne n]
        exact e
      have kp : ∀ {S : List Addr}, L ∉ S → Fr S H6 (upd H6 L (.lst (av ++ [v]))) → True := fun _ _ => True.intro
      have fL : Fr [L] H6 (upd H6 L (.lst (av ++ [v]))) := fun b o e n => up b o e fun z => n (by simp [z])
      have mL : ∀ b ∈ [L], Mut (H6 b) := fun b hb => by
        have : b = L := by simpa using hb
        rw [this, hL6]
        exact True.intro
      have dL : ∀ {S : List Addr}, L ∉ S → Dis S [L] := fun h b hb hc => by
        have : b = L := by simpa using hc
        rw [this] at hb
        exact h hb
      obtain ⟨fq, q1, q2⟩ := (oa6.fr (dL lfa) mL fL).snoc (oy.fr (dL lfr6) mL fL) dya
      obtain ⟨fw, r1, r2⟩ := (o6.fr (dL lfp6) mL fL).wiped vs
      rw [hw4] at r1
      refine ⟨rfl, hlt, acc ++ [y], _, fw, av ++ [v], fq, hW, wipeE_idem _ _, r1, fun b o e n => up b o (f6' b o e n) (ne_of_none e hL), fun b hb => n6' b (r2 b hb), upd_same, q1, fun b hb hc => ?_, fun z => lfp6 (r2 _ z), fun z => ?_, fun b hb => ?_⟩
      · rcases (q2 b).mp hb with z | z
        · exact dfa6 b z (r2 b hc)
        · exact or6.dis b z (r2 b hc)
      · rcases (q2 _).mp z with z | z
        · exact lfa z
        · exact lfr6 z
      · rcases (q2 b).mp hb with z | z
        · exact nfa b z
        · exact m6' b z
  · have ei : i = ds.length := by omega
    subst ei
    refine .inl ⟨s2, ?_⟩
    have hlen := o2.len
    have oF : OwnE K H2 e2 σ fp2 := o2.unwipe (by rw [wipe_length]) fun j v hv => by
      rw [wipe_get]
      by_cases hj : j ∈ vs
      · exfalso
        rw [← z2, wipeE_get, if_pos hj] at hv
        split at hv <;> simp at hv
      · rw [if_neg hj]
    refine hQ _ e2 (.ref L) H2 fp2 (L :: fa) (done acc e2 w2) oF (.val (.lst hL2 oa lfa) fun b hb => ?_) (hF1.trans hN1 f2) (New.trans hE.mut hF1 hN1 n2) (fun b hb => ?_) fun z => nomatch z
    · rcases List.mem_cons.mp hb with rfl | hb
      · exact lfp
      · exact dfa b hb
    · rcases List.mem_cons.mp hb with rfl | hb
      · by_cases hbf : b ∈ fp
        · exact .inl hbf
        · exact .inr (hF1.none hE.mut hL hbf)
      · exact New.trans hE.mut hF1 hN1 nfa b hb
section
variable {X : Cx}
theorem ve_lc {elt tg iter : Expr} {ifs : List Expr} {scope : Scope} {own : List (Str × Nat)} {pos : Pos} {ti : TVI} {g : TVG} {tt : TVT} {te : TV} {qt qe : Bool} {ag : List Nat} (hc : X.calm = true) (hN : X.N.Nodup) (hi : VI X tg iter ti) (ok : BlkOk X.N X.env.scope scope own)
    (hg : ∀ (s : Shared) (H : Hp) (C : Addr) (cl : List (Str × Addr)) (fp : List Addr), VG (X.blk s H scope (compEnvC scope cl C X.env) fp) tg ag g) (ht : ∀ (s : Shared) (H : Hp) (C : Addr) (cl : List (Str × Addr)) (fp : List Addr), VTs (X.blk s H scope (compEnvC scope cl C X.env) fp) ifs qt tt)
    (he : ∀ (s : Shared) (H : Hp) (C : Addr) (cl : List (Str × Addr)) (fp : List Addr), VE (X.blk s H scope (compEnvC scope cl C X.env) fp) elt qe te) (hag : (ag.all fun i => (own.map (·.2)).contains i) = true := by rfl) (hs : ∀ x, foldedSetIterable iter X.env x = pure x := by intro _; rfl) :
    VE X (.ListComp elt [⟨tg, iter, ifs, 0⟩] scope pos) false (vLc (own.map (·.2)) ti g tt te) :=
  ⟨PEimp (pe_lc hc hN hi.pi ok (fun s H C cl fp => (hg s H C cl fp).pg) (fun s H C cl fp => (ht s H C cl fp).pts) (fun s H C cl fp => (he s H C cl fp).pe) hs) fun σ H Q h => rd_lc hag σ H Q h⟩
theorem vs_setLc {i : Nat} {y : Str} {py : Pos} {elt tg iter : Expr} {ifs : List Expr} {scope : Scope} {own : List (Str × Nat)} {pos spos : Pos} {ti : TVI} {g : TVG} {tt : TVT} {te : TV} {qt qe : Bool} {ag : List Nat} (hc : X.calm = true) (hN : X.N.Nodup) (hy : X.N[i]? = some y) (hyl : X.env.scope.names.lookup y = some .local)
    (hsw : swapsWith (.ListComp elt [⟨tg, iter, ifs, 0⟩] scope pos) (some (.Name y py)) spos.line X.env = pure true) (hi : VI X tg iter ti) (ok : BlkOk X.N X.env.scope scope own)
    (hg : ∀ (s : Shared) (H : Hp) (C : Addr) (cl : List (Str × Addr)) (fp : List Addr), VG (X.blk s H scope (compEnvC scope cl C X.env) fp) tg ag g) (ht : ∀ (s : Shared) (H : Hp) (C : Addr) (cl : List (Str × Addr)) (fp : List Addr), VTs (X.blk s H scope (compEnvC scope cl C X.env) fp) ifs qt tt)
    (he : ∀ (s : Shared) (H : Hp) (C : Addr) (cl : List (Str × Addr)) (fp : List Addr), VE (X.blk s H scope (compEnvC scope cl C X.env) fp) elt qe te) (hag : (ag.all fun i => (own.map (·.2)).contains i) = true := by rfl) (hs : ∀ x, foldedSetIterable iter X.env x = pure x := by intro _; rfl) :
    VS X (.Assign [.Name y py] (.ListComp elt [⟨tg, iter, ifs, 0⟩] scope pos) spos) [i] (vAsg (vLc (own.map (·.2)) ti g tt te) (vgN i)) :=
  vs_setR (q := false) (ps_setLc hc hN hy hyl hsw hi.pi ok (fun s H C cl fp => (hg s H C cl fp).pg) (fun s H C cl fp => (ht s H C cl fp).pts) (fun s H C cl fp => (he s H C cl fp).pe) hs) fun σ H Q h => rd_lc hag σ H Q h
end
end L2.VL
set_option Elab.async false
set_option linter.all false
set_option maxRecDepth 100000
namespace L2.VL
open PySem PySem.Spec PyProof.Rows

/-! ### what a def promises, by values: its answer and what its parameters hold at the end (none: not told) -/
abbrev VF := List D → (D → SE → Prop) → Prop
def spV (K : PySem.W.Frag) (n : Nat) (vf : VF) : Sp := fun vs H Q _ => ∃ ds fp R, Owns K H ds vs fp ∧ ds.length = n ∧ vf ds R ∧
  ∀ r ds' v H' fp' fr, R r ds' → OwnE K H' ds' (vs.map some) fp' → Own K H' r v fr → Dis fr fp' → Fr fp H H' → New fp H fp' → New fp H fr → Q v H'
@[simp] def finP (as : List Nat) : Nat → Nat → SE → SE
  | _, 0, _ => []
  | i, n + 1, [] => none :: finP as (i + 1) n []
  | i, n + 1, d :: e => (if as.contains i then none else d) :: finP as (i + 1) n e
section
variable {K : PySem.W.Frag} {H : Hp}
theorem OwnE.fin {as : List Nat} : ∀ {vs : List V} {i : Nat} {e : SE} {σ : St} {fp : List Addr}, OwnE K H e σ fp → vs.length ≤ e.length → (∀ k v, vs[k]? = some v → i + k ∉ as → σ[k]? = some (some v)) →
    ∃ fq, OwnE K H (finP as i vs.length e) (vs.map some) fq ∧ ∀ a ∈ fq, a ∈ fp
  | [], i, e, σ, fp, o, hl, hs => ⟨[], by
      cases e <;> exact .nil, fun _ h => nomatch h⟩
  | v :: vs, i, [], σ, fp, o, hl, hs => by simp at hl
  | v :: vs, i, none :: e, _, fp, .skip (x := x) (σ := σ) o, hl, hs => by
    obtain ⟨fq, h1, h2⟩ := OwnE.fin (as := as) (i := i + 1) o (by simpa using hl) fun k w hk hn => by
      have := hs (k + 1) w (by simpa using hk) (by rwa [show i + (k + 1) = i + 1 + k by omega])
      simpa using this
    refine ⟨fq, ?_, h2⟩
    show OwnE K H ((if as.contains i then none else none) :: finP as (i + 1) vs.length e) (some v :: vs.map some) fq
    rw [ite_self]
    exact .skip h1
  | v :: vs, i, some d :: e, _, _, .hold (v := w') (σ := σ) (fp := f0) (fps := f1) o r n, hl, hs => by
    obtain ⟨fq, h1, h2⟩ := OwnE.fin (as := as) (i := i + 1) r (by simpa using hl) fun k w hk hn => by
      have := hs (k + 1) w (by simpa using hk) (by rwa [show i + (k + 1) = i + 1 + k by omega])
      simpa using this
    by_cases hi : i ∈ as
    · refine ⟨fq, ?_, fun a ha => List.mem_append_right _ (h2 a ha)⟩
      show OwnE K H ((if as.contains i then none else some d) :: finP as (i + 1) vs.length e) (some v :: vs.map some) fq
      rw [if_pos (by simpa using hi)]
      exact .skip h1
    · have q := hs 0 v rfl (by simpa using hi)
      have q' : some (some w') = some (some v) := q
      cases q'
      refine ⟨f0 ++ fq, ?_, fun a ha => ?_⟩
      · show OwnE K H ((if as.contains i then none else some d) :: finP as (i + 1) vs.length e) (some _ :: vs.map some) (f0 ++ fq)
        rw [if_neg (by simpa using hi)]
        exact .hold o h1 fun a ha hb => n a ha (h2 a hb)
      · rcases List.mem_append.mp ha with z | z
        · exact List.mem_append_left _ z
        · exact List.mem_append_right _ (h2 a z)
theorem OwnE.empty : ∀ n : Nat, OwnE K H (List.replicate n none) (List.replicate n none) []
  | 0 => .nil
  | n + 1 => .skip (OwnE.empty n)
theorem Owns.slots {n : Nat} : ∀ {ds : List D} {vs : List V} {fp : List Addr}, Owns K H ds vs fp → OwnE K H (ds.map some ++ List.replicate n none) (vs.map some ++ List.replicate n none) fp
  | _, _, _, .nil => OwnE.empty n
  | _, _, _, .cons o r d => .hold o r.slots d
end
section
variable {P : Program} {w : World} {K : PySem.W.Frag} {mg : Str → Option Value} {base : Heap}
/-- THE RULE for a def -/
theorem okV {x qual : Str} {st : Stmt} {f : Addr} {fd : FuncData} {N ps : List Str} {k : Nat} {vf : VF} (F : Fun K x qual st f fd) (S : FnScope N ps (defScope st)) (as : List Nat)
    (hbody : ∀ (cdv : Value) (A : Around) (outer : List PySem.Env) (s : Shared) (H : Hp) (E : XK), Room k (A.deeper (envOfC qual (defScope st) s.heap.objs.size f cdv)) →
      ∃ t, VSs (cxOf CX0 P w K mg base N qual (defScope st) f cdv A outer s H E).nox (defBody st) as t ∧
        ∀ ds R, ds.length = ps.length → vf ds R → t ⟨fun e => R .non (finP as 0 ps.length e), fun d e => R d (finP as 0 ps.length e), fun _ => False, fun _ => False⟩ (ds.map some ++ List.replicate (N.length - ds.length) none)) :
    FnOk P w K mg base CX0 (k + 1) f fd ps (spV K ps.length vf) := by
  refine F.ok S (fun vs H Q E ⟨ds, fp, R, o, hl, _⟩ => by rw [← o.len]; exact hl) fun cdv A outer s H vs Q E hr ⟨ds, fp, R, o, hl, hv, hQ⟩ => ?_
  obtain ⟨t, ht, hb⟩ := hbody cdv A outer s H E hr
  refine ⟨_, ht.ps, ?_⟩
  have hlen := o.len
  have hN : ps.length ≤ N.length := by
    have := congrArg List.length S.pre
    rw [List.length_take] at this
    omega
  have oe : OwnE K H (ds.map some ++ List.replicate (N.length - ds.length) none) (start N vs) fp := by
    unfold start
    rw [← hlen]
    exact o.slots
  have fin : ∀ {e' : SE} {σ' : St} {H' : Hp} {fp' : List Addr}, Pst K H fp (start N vs) as e' σ' H' fp' → ∃ fq, OwnE K H' (finP as 0 ps.length e') (vs.map some) fq ∧ ∀ a ∈ fq, a ∈ fp' := fun {e' σ' H' fp'} p => by
    have q := OwnE.fin (as := as) (vs := vs) (i := 0) p.own (by
      rw [p.own.len, p.keep.len]
      unfold start
      simp) fun k v hk hn => by
        rw [p.keep.at_ k (by simpa using hn)]
        unfold start
        rw [List.getElem?_append_left (by
          have := (List.getElem?_eq_some_iff.mp hk).1
          simpa using this), List.getElem?_map, hk]
        rfl
    rw [← hlen, hl] at q
    exact q
  refine ⟨_, fp, _, oe, hb ds R hl hv, ⟨fun e' σ' H' fp' h p => ?_, fun d e' v σ' H' fp' fr h p ov d' n => ?_, fun e' σ' H' fp' h p => h.elim, fun e' σ' H' fp' h p => h.elim⟩⟩
  · obtain ⟨fq, q1, q2⟩ := fin p
    exact hQ .non _ .non H' fq [] h q1 .non (fun _ z => nomatch z) p.fr (fun b hb => p.new b (q2 b hb)) (New.nil _ _)
  · obtain ⟨fq, q1, q2⟩ := fin p
    exact hQ d _ v H' fq fr h q1 ov (fun b hb hc => d' b hb (q2 b hc)) p.fr (fun b hb => p.new b (q2 b hb)) n
end
/-! ### calls -/
@[simp] def ArgsR : List Bool → List RV → SE → List D → SE → Prop
  | [], [], e, ds, e' => ds = [] ∧ e' = e
  | false :: io, r :: rs, e, ds, e' => ∃ d dr, ds = d :: dr ∧ Mv r e d ∧ ArgsR io rs e dr e'
  | true :: io, r :: rs, e, ds, e' => r.at fun j p => p = [] ∧ ∃ d dr, e[j]? = some (some d) ∧ ds = d :: dr ∧ ArgsR io rs (e.set j none) dr e'
  | _, _, _, _, _ => False
@[simp] def Back : List Bool → List RV → SE → SE → SE
  | true :: io, .plc j [] :: rs, d' :: ds', e => Back io rs ds' (e.set j d')
  | _ :: io, _ :: rs, _ :: ds', e => Back io rs ds' e
  | _, _, _, e => e
section
variable {K : PySem.W.Frag} {H : Hp} {σ : St}
theorem OwnRs.mono {fp fp' : List Addr} (h : ∀ b ∈ fp', b ∈ fp) : ∀ {rs : List RV} {vs : List V} {fr : List Addr}, OwnRs K H σ fp rs vs fr → OwnRs K H σ fp' rs vs fr
  | _, _, _, .nil => .nil
  | _, _, _, .cons (.val o n) r d => .cons (.val o fun a ha hb => n a ha (h a hb)) (r.mono h) d
  | _, _, _, .cons (.plc a b) r d => .cons (.plc a b) (r.mono h) d
theorem ArgsR.own : ∀ {io : List Bool} {rs : List RV} {e : SE} {fp fr : List Addr} {vs : List V} {ds : List D} {e0 : SE}, OwnE K H e σ fp → OwnRs K H σ fp rs vs fr → ArgsR io rs e ds e0 →
    ∃ fa f0, Owns K H ds vs fa ∧ OwnE K H e0 σ f0 ∧ Dis fa f0 ∧ (∀ b ∈ fa, b ∈ fr ∨ b ∈ fp) ∧ ∀ b ∈ f0, b ∈ fp
  | [], [], e, fp, fr, vs, ds, e0, o, rs, ⟨h1, h2⟩ => by
    subst h1 h2
    cases rs
    exact ⟨[], fp, .nil, o, (fun _ z => nomatch z), (fun _ z => nomatch z), fun _ h => h⟩
  | false :: io, r :: rs, e, fp, _, _, ds, e0, o, .cons (f := f) (fs := fs) r1 rr n, ⟨d, dr, h1, h2, h3⟩ => by
    subst h1
    obtain ⟨fa, f0, a1, a2, a3, a4, a5⟩ := ArgsR.own o rr h3
    have od := r1.move o h2
    refine ⟨f ++ fa, f0, .cons od a1 fun b hb hc => ?_, a2, fun b hb hc => ?_, fun b hb => ?_, a5⟩
    · rcases a4 b hc with z | z
      · exact n b hb z
      · exact r1.dis b hb z
    · rcases List.mem_append.mp hb with z | z
      · exact r1.dis b z (a5 b hc)
      · exact a3 b z hc
    · rcases List.mem_append.mp hb with z | z
      · exact .inl (List.mem_append_left _ z)
      · rcases a4 b z with y | y
        · exact .inl (List.mem_append_right _ y)
        · exact .inr y
  | true :: io, r :: rs, e, fp, _, _, ds, e0, o, .cons (f := f) (fs := fs) (v := v) r1 rr n, hat => by
    obtain ⟨j, p, h0, hp, d, dr, h1, h2, h3⟩ := RV.at_iff.mp hat
    subst hp
    subst h0 h2
    obtain ⟨u, fd, f1, b1, b2, b3, b4, b5⟩ := o.take h1
    have ev : v = u := by
      cases r1 with
      | plc a b =>
        rw [b1] at a
        cases a
        exact Eq.symm b
    subst ev
    obtain ⟨fa, f0, a1, a2, a3, a4, a5⟩ := ArgsR.own b3 (rr.mono fun b hb => (b5 b).mpr (.inr hb)) h3
    refine ⟨fd ++ fa, f0, .cons b2 a1 fun b hb hc => ?_, a2, fun b hb hc => ?_, fun b hb => ?_, fun b hb => (b5 b).mpr (.inr (a5 b hb))⟩
    · rcases a4 b hc with z | z
      · exact rr.dis b z ((b5 b).mpr (.inl hb))
      · exact b4 b hb z
    · rcases List.mem_append.mp hb with z | z
      · exact b4 b z (a5 b hc)
      · exact a3 b z hc
    · rcases List.mem_append.mp hb with z | z
      · exact .inr ((b5 b).mpr (.inl z))
      · rcases a4 b z with y | y
        · exact .inl (List.mem_append_right _ y)
        · exact .inr ((b5 b).mpr (.inr y))
theorem OwnE.setO {e : SE} {f0 fd : List Addr} {j : Nat} {d : D} {v : V} (o : OwnE K H e σ f0) (hv : σ[j]? = some (some v)) (od : Own K H d v fd) (n : Dis fd f0) : ∃ fq, OwnE K H (e.set j (some d)) σ fq ∧ ∀ a ∈ fq, a ∈ fd ∨ a ∈ f0 := by
  obtain ⟨fq, h1, h2⟩ := o.bind j od n
  rw [set_self hv] at h1
  exact ⟨fq, h1, h2⟩
theorem Back.own : ∀ {io : List Bool} {rs : List RV} {vs : List V} {e : SE} {fx fr fp' f0 : List Addr} {ds' : SE} {H0 : Hp}, OwnRs K H0 σ fx rs vs fr → OwnE K H ds' (vs.map some) fp' → OwnE K H e σ f0 → Dis fp' f0 →
    ∃ fq, OwnE K H (Back io rs ds' e) σ fq ∧ ∀ a ∈ fq, a ∈ fp' ∨ a ∈ f0
  | io, [], vs, e, fx, fr, fp', f0, ds', H0, rs, o1, o2, n => by
    have : Back io [] ds' e = e := by
      cases io with
      | nil => rfl
      | cons b io => cases b <;> rfl
    rw [this]
    exact ⟨f0, o2, fun _ h => .inr h⟩
  | [], r :: rs, vs, e, fx, fr, fp', f0, ds', H0, _, o1, o2, n => ⟨f0, o2, fun _ h => .inr h⟩
  | b :: io, r :: rs, _, e, fx, _, fp', f0, [], H0, .cons r1 rr _, o1, o2, n => by
    cases o1
  | b :: io, r :: rs, _, e, fx, _, _, f0, none :: ds', H0, .cons (v := v) r1 rr _, .skip o1, o2, n => by
    have key : (b = true ∧ ∃ j, r = .plc j [] ∧ True) ∨ True := .inr True.intro
    cases b with
    | false =>
      have : Back (false :: io) (r :: rs) (none :: ds') e = Back io rs ds' e := by
        cases r <;> rfl
      rw [this]
      exact Back.own rr o1 o2 n
    | true =>
      cases r with
      | val d => exact Back.own (io := io) rr o1 o2 n
      | plc j p =>
        cases p with
        | nil =>
          obtain ⟨f1, h1, h2⟩ := o2.drop j
          obtain ⟨fq, q1, q2⟩ := Back.own (io := io) rr o1 h1 fun a ha hb => n a ha (h2 a hb)
          exact ⟨fq, q1, fun a ha => (q2 a ha).imp id (h2 a)⟩
        | cons i p => exact Back.own (io := io) rr o1 o2 n
  | b :: io, r :: rs, _, e, fx, _, _, f0, some d :: ds', H0, .cons (v := v) r1 rr _, .hold (fp := fd) (fps := fs) od o1 nd, o2, n => by
    have skip : ∃ fq, OwnE K H (Back io rs ds' e) σ fq ∧ ∀ a ∈ fq, a ∈ fd ++ fs ∨ a ∈ f0 := by
      obtain ⟨fq, q1, q2⟩ := Back.own (io := io) rr o1 o2 fun a ha hb => n a (List.mem_append_right _ ha) hb
      exact ⟨fq, q1, fun a ha => (q2 a ha).imp (List.mem_append_right _) id⟩
    cases b with
    | false =>
      have : Back (false :: io) (r :: rs) (some d :: ds') e = Back io rs ds' e := by
        cases r <;> rfl
      rw [this]
      exact skip
    | true =>
      cases r1 with
      | val d0 n0 => exact skip
      | @plc j p u _ hj hs =>
        cases p with
        | nil =>
          have hs' : u = v := hs
          subst hs'
          obtain ⟨f1, h1, h2⟩ := o2.setO hj od fun a ha hb => n a (List.mem_append_left _ ha) hb
          obtain ⟨fq, q1, q2⟩ := Back.own (io := io) rr o1 h1 fun a ha hb => by
            rcases h2 a hb with z | z
            · exact nd a z ha
            · exact n a (List.mem_append_right _ ha) z
          refine ⟨fq, q1, fun a ha => ?_⟩
          rcases q2 a ha with z | z
          · exact .inl (List.mem_append_right _ z)
          · exact (h2 a z).imp (List.mem_append_left _) id
        | cons i p => exact skip
end
end L2.VL
set_option Elab.async false
set_option linter.all false
set_option maxRecDepth 100000
namespace L2.VL
open PySem PySem.Spec PyProof.Rows

section
variable {X : Cx} {x o : Expr} {es : List Expr} {q qo qa : Bool} {ta : TVA} {to : TV} {vf : VF} {n : Nat} {E0' : XK} {C : Addr} {m : Str}
@[simp] def vCall (n : Nat) (io : List Bool) (vf : VF) (ta : TVA) : TV := fun e R => ta e fun rs e1 => ∃ ds e0, ArgsR io rs e1 ds e0 ∧ ds.length = n ∧ vf ds fun r ds' => R (.val r) (Back io rs ds' e0)
theorem call_end {K : PySem.W.Frag} {io : List Bool} {e1 e0 : SE} {σ : St} {H H1 : Hp} {fp fp1 fr : List Addr} {rs : List RV} {vs : List V} {ds : List D} {Q : VK} {R : RV → SE → Prop}
    (hm : ∀ b ∈ fp, Mut (H b)) (hF : Fr fp H H1) (hN : New fp H fp1) (hM : New fp H fr) (hE : OwnE K H1 e1 σ fp1) (ho : OwnRs K H1 σ fp1 rs vs fr) (ha : ArgsR io rs e1 ds e0) (hl : ds.length = n)
    (hv : vf ds fun r ds' => R (.val r) (Back io rs ds' e0))
    (hQ : ∀ r e' v H' fp' fr, R r e' → OwnE K H' e' σ fp' → OwnR K H' σ fp' r v fr → Fr fp H H' → New fp H fp' → New fp H fr → Q v H') : spV K n vf vs H1 Q E0' := by
  obtain ⟨fa, f0, a1, a2, a3, a4, a5⟩ := ArgsR.own hE ho ha
  refine ⟨ds, fa, _, a1, hl, hv, fun r ds' v H' fp' fr' hR o1 o2 d1 f1 n1 n2 => ?_⟩
  have o0 : OwnE K H' e0 σ f0 := a2.fr a3.symm a1.mut f1
  have fa_in : ∀ b ∈ fa, b ∈ fp ∨ H b = none := fun b hb => by
    rcases a4 b hb with z | z
    · exact hM b z
    · exact hN b z
  have back : ∀ b, b ∈ fa ∨ H1 b = none → b ∈ fp ∨ H b = none := fun b hb => by
    rcases hb with z | z
    · exact fa_in b z
    · by_cases hbf : b ∈ fp
      · exact .inl hbf
      · exact .inr (hF.none hm z hbf)
  have dis0 : ∀ b, b ∈ fa ∨ H1 b = none → b ∉ f0 := fun b hb hc => by
    rcases hb with z | z
    · exact a3 b z hc
    · exact a2.ne_none hc z
  obtain ⟨fq, q1, q2⟩ := Back.own (io := io) ho o1 o0 fun b hb => dis0 b (n1 b hb)
  refine hQ _ _ v H' fq fr' hR q1 (.val o2 fun b hb hc => ?_) (fun b u e hb => ?_) (fun b hb => ?_) fun b hb => back b (n2 b hb)
  · rcases q2 b hc with z | z
    · exact d1 b hb z
    · exact dis0 b (n2 b hb) z
  · refine f1 b u (hF b u e hb) fun z => ?_
    rcases fa_in b z with y | y
    · exact hb y
    · rw [y] at e
      cases e
  · rcases q2 b hb with z | z
    · exact back b (n1 b z)
    · exact hN b (a5 b z)
theorem ve_call (io : List Bool) (g : ∀ {t : TA}, PA X es t → PE X x (tCall (spV X.K n vf) [] E0' t)) (ha : VA X es qa ta) : VE X x false (vCall n io vf ta) := ⟨PEimp (g ha.pa) fun σ H Q ⟨e, fp, R, hE, ht, hQ⟩ => by
  refine ⟨e, fp, _, hE, ht, fun rs e1 vs H1 fp1 f1 ⟨ds, e0, h1, h2, h3⟩ hE1 hR1 hF1 hN1 hM1 _ => ?_⟩
  show spV X.K n vf (vs ++ []) H1 Q E0'
  rw [List.append_nil]
  exact call_end hE.mut hF1 hN1 hM1 hE1 hR1 h1 h2 h3 fun r e' v H' fp' fr a b c d e f => hQ r e' v H' fp' fr a b c d e f (fun z => nomatch z)⟩
theorem ve_call0 (g : PE X x (tCall (spV X.K n vf) [] E0' tNil)) : VE X x false (vCall n [] vf vNil) := ⟨PEimp g fun σ H Q ⟨e, fp, R, hE, ⟨ds, e0, h1, h2, h3⟩, hQ⟩ => by
  show spV X.K n vf [] H Q E0'
  exact call_end hE.mut (Fr.refl _ _) (New.refl _ _) (New.nil _ _) hE .nil h1 h2 h3 fun r e' v H' fp' fr a b c d e f => hQ r e' v H' fp' fr a b c d e f (fun z => nomatch z)⟩
/-- o.m(..) -/
@[simp] def vMeth (C : Addr) (m : Str) (n : Nat) (io : List Bool) (vf : VF) (to : TV) (ta : TVA) : TV := fun e R => to e fun r0 e1 => r0.deep = false ∧ (∃ fs ks, r0.get e1 = some (.obj C fs ks) ∧ (fs.contains m) = false) ∧ ta e1 fun rs e2 =>
  ∃ ds e0, ArgsR io (r0 :: rs) e2 ds e0 ∧ ds.length = n ∧ vf ds fun r ds' => R (.val r) (Back io (r0 :: rs) ds' e0)
theorem lookup_none {α : Type} {f : Str} : ∀ {kvs : List (Str × α)}, ((kvs.map (·.1)).contains f) = false → kvs.lookup f = none
  | [], _ => rfl
  | (g, v) :: r, h => by
    simp only [List.map_cons, List.contains_cons, Bool.or_eq_false_iff] at h
    have := lookup_none (kvs := r) h.2
    unfold List.lookup
    rw [h.1]
    exact this
theorem rd_meth {K : PySem.W.Frag} {io : List Bool} (σ : St) (H : Hp) (Q : VK) (h : rd K false (vMeth C m n io vf to ta) σ H Q) : tMeth C m (spV K n vf) [] E0' (rd K qo to) (rdA K qa ta) σ H Q := by
  obtain ⟨e, fp, R, hE, ht, hQ⟩ := h
  refine ⟨e, fp, _, hE, ht, fun r1 e1 v1 H1 fp1 f1 ⟨hd, ⟨fs, ks, g1, hn⟩, hr1⟩ hE1 hR1 hF1 hN1 hM1 hq1 => ?_⟩
  obtain ⟨fd, o1, _⟩ := hR1.read hE1 g1
  cases o1 with
  | @obj _ _ _ dx kvs a fp0 ea ek os na =>
    subst ek
    refine ⟨a, dx, kvs, rfl, ea, lookup_none hn, e1, fp1, _, hE1, hr1, fun rs e2 vs H2 fp2 f2 ⟨ds, e0, h1, h2, h3⟩ hE2 hR2 hF2 hN2 hM2 hq2 => ?_⟩
    have o2 : OwnR K H2 σ fp2 r1 (.ref a) f1 := hR1.after hE1.mut hF2 hN2 fun z => by rw [hd] at z; cases z
    show spV K n vf (.ref a :: (vs ++ [])) H2 Q E0'
    rw [List.append_nil]
    refine call_end (io := io) (rs := r1 :: rs) (fr := f1 ++ f2) hE.mut (hF1.trans hN1 hF2) (New.trans hE.mut hF1 hN1 hN2) (fun b hb => ?_) hE2 (.cons o2 hR2 fun b hb hc => ?_) h1 h2 h3 fun r e' v H' fp' fr a b c d e f => hQ r e' v H' fp' fr a b c d e f (fun z => nomatch z)
    · rcases List.mem_append.mp hb with z | z
      · exact hM1 b z
      · exact New.trans hE.mut hF1 hN1 hM2 b z
    · rcases hM2 b hc with z | z
      · exact hR1.dis b hb z
      · have := hR1.mut b hb
        rw [z] at this
        exact this
theorem ve_meth (io : List Bool) (g : ∀ {to : TE} {t : TA}, PE X o to → PA X es t → PE X x (tMeth C m (spV X.K n vf) [] E0' to t)) (ho : VE X o qo to) (ha : VA X es qa ta) : VE X x false (vMeth C m n io vf to ta) :=
  ⟨PEimp (g ho.pe ha.pa) fun σ H Q h => rd_meth σ H Q h⟩
theorem rdA_nil {K : PySem.W.Frag} (σ : St) (H : Hp) (Q : List V → Hp → Prop) (h : rdA K true vNil σ H Q) : tNil σ H Q := by
  obtain ⟨e, fp, R, hE, ht, hQ⟩ := h
  exact hQ [] e [] H fp [] ht hE .nil (Fr.refl _ _) (New.refl _ _) (New.nil _ _) fun _ => ⟨rfl, Same.refl _⟩
theorem ve_meth0 (io : List Bool) (g : ∀ {to : TE}, PE X o to → PE X x (tMeth C m (spV X.K n vf) [] E0' to tNil)) (ho : VE X o qo to) : VE X x false (vMeth C m n io vf to vNil) :=
  ⟨PEimp (g ho.pe) fun σ H Q h => by
    have q : tMeth C m (spV X.K n vf) [] E0' (rd X.K qo to) (rdA X.K true vNil) σ H Q := rd_meth σ H Q h
    obtain ⟨e, fp, R, hE, ht, hQ⟩ := q
    refine ⟨e, fp, R, hE, ht, fun r e' v H' fp' fr a b c d e f g => ?_⟩
    obtain ⟨a, dx, fs, h1, h2, h3, h4⟩ := hQ r e' v H' fp' fr a b c d e f g
    exact ⟨a, dx, fs, h1, h2, h3, rdA_nil _ _ _ h4⟩⟩
/-- C(..) -/
@[simp] def vMake (C : Addr) (n : Nat) (io : List Bool) (vf : VF) (ta : TVA) : TV := fun e R => ta e fun rs e1 => ∃ ds e0, ArgsR io rs e1 ds e0 ∧ ds.length + 1 = n ∧ vf (.obj C [] [] :: ds) fun r ds' => r = .non ∧ ∃ d rest, ds' = some d :: rest ∧ R (.val d) (Back io rs rest e0)
theorem ve_make (io : List Bool) (g : ∀ {t : TA}, PA X es t → PE X x (tMake C (spV X.K n vf) [] E0' t)) (ha : VA X es qa ta) : VE X x false (vMake C n io vf ta) := ⟨PEimp (g ha.pa) fun σ H Q ⟨e, fp, R, hE, ht, hQ⟩ => by
  refine ⟨e, fp, _, hE, ht, fun rs e1 vs H1 fp1 fr ⟨ds, e0, ha, hl, hv⟩ hE1 ho hF hN hM _ => fun x dx nx ndx nex => ?_⟩
  obtain ⟨fa, f0, a1, a2, a3, a4, a5⟩ := ArgsR.own hE1 ho ha
  show spV X.K n vf (.ref x :: (vs ++ [])) (upd (upd H1 dx (.own x)) x (.ins C dx [])) (fun v H2 => v = .non ∧ Q (.ref x) H2) E0'
  rw [List.append_nil]
  have s1 : Same H1 (upd H1 dx (.own x)) := upd_same' ndx
  have nx1 : upd H1 dx (.own x) x = none := by rw [upd_ne (Ne.symm nex)]; exact nx
  have s2 : Same H1 (upd (upd H1 dx (.own x)) x (.ins C dx [])) := s1.trans (upd_same' nx1)
  have xa : x ∉ fa := fun z => a1.ne_none z nx
  have x0 : x ∉ f0 := fun z => a2.ne_none z nx
  have ox : Own X.K (upd (upd H1 dx (.own x)) x (.ins C dx [])) (.obj C [] []) (.ref x) [x] := .obj (kvs := []) upd_same rfl .nil (fun z => nomatch z)
  refine ⟨.obj C [] [] :: ds, [x] ++ fa, _, .cons ox (a1.same s2) (fun b hb => ?_), hl, hv, fun r ds' v H' fp' fr' ⟨hr, d, rest, hd, hR⟩ o1 o2 d1 f1 n1 n2 => ?_⟩
  · have : b = x := by simpa using hb
    rw [this]
    exact xa
  subst hr hd
  cases o2
  refine ⟨rfl, ?_⟩
  cases o1 with
  | @hold _ _ _ _ fd fs od or nd =>
    have m2 : ∀ b ∈ [x] ++ fa, Mut (upd (upd H1 dx (.own x)) x (.ins C dx []) b) := fun b hb => by
      rcases List.mem_append.mp hb with z | z
      · have : b = x := by simpa using z
        rw [this, upd_same]
        exact True.intro
      · exact (a1.same s2).mut b z
    have o0 : OwnE X.K H' e0 σ f0 := (a2.same s2).fr (fun b hb hc => by
      rcases List.mem_append.mp hc with z | z
      · have : b = x := by simpa using z
        rw [this] at hb
        exact x0 hb
      · exact a3 b z hb) m2 f1
    have old : ∀ b, b ∈ fd ∨ b ∈ fs → (b ∈ fa ∨ H1 b = none) := fun b hb => by
      have hb' : b ∈ fd ++ fs := List.mem_append.mpr hb
      rcases n1 b hb' with z | z
      · rcases List.mem_append.mp z with y | y
        · have : b = x := by simpa using y
          rw [this]
          exact .inr nx
        · exact .inl y
      · refine .inr ?_
        cases hq : H1 b with
        | none => rfl
        | some u =>
          rw [s2 b u hq] at z
          cases z
    have fa_in : ∀ b ∈ fa, b ∈ fp ∨ H b = none := fun b hb => by
      rcases a4 b hb with z | z
      · exact hM b z
      · exact hN b z
    have back : ∀ b, b ∈ fa ∨ H1 b = none → b ∈ fp ∨ H b = none := fun b hb => by
      rcases hb with z | z
      · exact fa_in b z
      · by_cases hbf : b ∈ fp
        · exact .inl hbf
        · exact .inr (hF.none hE.mut z hbf)
    have dis0 : ∀ b, b ∈ fa ∨ H1 b = none → b ∉ f0 := fun b hb hc => by
      rcases hb with z | z
      · exact a3 b z hc
      · exact a2.ne_none hc z
    obtain ⟨fq, q1, q2⟩ := Back.own (io := io) ho or o0 fun b hb => dis0 b (old b (.inr hb))
    refine hQ _ _ (.ref x) H' fq fd hR q1 (.val od fun b hb hc => ?_) (fun b u e hb => ?_) (fun b hb => ?_) (fun b hb => back b (old b (.inl hb))) (fun z => nomatch z)
    · rcases q2 b hc with z | z
      · exact nd b hb z
      · exact dis0 b (old b (.inl hb)) z
    · refine f1 b u (s2 b u (hF b u e hb)) fun z => ?_
      rcases List.mem_append.mp z with y | y
      · have : b = x := by simpa using y
        have e2 := hF b u e hb
        rw [this, nx] at e2
        cases e2
      · rcases fa_in b y with t | t
        · exact hb t
        · rw [t] at e
          cases e
    · rcases q2 b hb with z | z
      · exact back b (old b (.inr z))
      · exact hN b (a5 b z)⟩
/-! ### fields -/
def fIx (f : Str) : List Str → Option Nat
  | [] => none
  | g :: r => if f == g then some 0 else (fIx f r).map (· + 1)
theorem fIx_look {f : Str} : ∀ {kvs : List (Str × V)} {i : Nat}, fIx f (kvs.map (·.1)) = some i → ∃ v, kvs.lookup f = some v ∧ (kvs.map (·.2))[i]? = some v
  | [], i, h => by simp [fIx] at h
  | (g, v) :: r, i, h => by
    simp only [List.map_cons, fIx] at h
    by_cases hb : (f == g) = true
    · rw [if_pos hb] at h
      cases h
      exact ⟨v, by unfold List.lookup; rw [hb], rfl⟩
    · rw [if_neg hb] at h
      cases hi : fIx f (r.map (·.1)) with
      | none => rw [hi] at h; cases h
      | some j =>
        rw [hi] at h
        cases h
        obtain ⟨w, h1, h2⟩ := fIx_look hi
        refine ⟨w, ?_, by simpa using h2⟩
        unfold List.lookup
        have : (f == g) = false := by simpa using hb
        rw [this]
        exact h1
theorem Sub.snoc {H : Hp} {i : Nat} {a : Addr} {v : V} (c : Child H a i v) : ∀ {p : List Nat} {u : V}, Sub H u p (.ref a) → Sub H u (p ++ [i]) v
  | [], _, h => ⟨a, v, h, c, rfl⟩
  | j :: p, _, ⟨b, w, e, k, s⟩ => ⟨b, w, e, k, s.snoc c⟩
/-- e.f where e is a place -/
@[simp] def vFld (C : Addr) (f : Str) (to : TV) : TV := fun e R => to e fun r e1 => r.at fun j p => ∃ fs ks i, SE.look e1 j p = some (.obj C fs ks) ∧ fIx f fs = some i ∧ i < ks.length ∧ R (.plc j (p ++ [i])) e1
theorem ve_fld {f : Str} (c : Cls X.K C) (na : NoAttr X.K C f) (g : ∀ {to : TE}, PE X o to → PE X x (tFld X.K to f)) (ho : VE X o qo to) : VE X x qo (vFld C f to) := ⟨PEimp (g ho.pe) fun σ H Q ⟨e, fp, R, hE, ht, hQ⟩ => by
  refine ⟨e, fp, _, hE, ht, fun r1 e1 v1 H1 fp1 f1 hat hE1 hR1 hF1 hN1 hM1 hq1 => ?_⟩
  obtain ⟨j, p, hr, fs, ks, i, hl, hf, hi, hR⟩ := RV.at_iff.mp hat
  subst hr
  obtain ⟨u, w, fd, h1, h2, h3, _⟩ := hE1.at_ hl
  have ew : v1 = w := by
    cases hR1 with
    | plc hj q =>
      rw [hj] at h1
      cases h1
      exact q.fn h2
  subst ew
  cases h3 with
  | @obj _ _ _ dx kvs a fp0 ea ek os na' =>
    subst ek
    obtain ⟨v, l1, l2⟩ := fIx_look hf
    exact ⟨a, C, dx, kvs, v, rfl, ea, c, na, l1, hQ _ e1 v H1 fp1 [] hR hE1 (.plc h1 (Sub.snoc ⟨_, l2, .inr (.inr (.inr ⟨C, dx, kvs, ea, rfl⟩))⟩ h2)) hF1 hN1 (New.nil _ _) hq1⟩⟩
/-- o.f = e, o a name -/
@[simp] def putN (f : Str) : List Str → List Str
  | [] => [f]
  | g :: r => if g = f then g :: r else g :: putN f r
@[simp] def putD (f : Str) (d : D) : List Str → List D → List D
  | [], _ => [d]
  | g :: r, [] => []
  | g :: r, x :: xs => if g = f then d :: xs else x :: putD f d r xs
theorem putF_own {K : PySem.W.Frag} {H : Hp} {f : Str} {d : D} {v : V} {fd : List Addr} (od : Own K H d v fd) : ∀ {kvs : List (Str × V)} {ds : List D} {fp : List Addr}, Owns K H ds (kvs.map (·.2)) fp → Dis fd fp →
    (putF f v kvs).map (·.1) = putN f (kvs.map (·.1)) ∧ ∃ fq, Owns K H (putD f d (kvs.map (·.1)) ds) ((putF f v kvs).map (·.2)) fq ∧ ∀ a ∈ fq, a ∈ fd ∨ a ∈ fp
  | [], ds, fp, o, n => ⟨rfl, by
    cases o
    exact ⟨fd ++ [], .cons od .nil (fun _ _ z => nomatch z), fun a ha => .inl (by simpa using ha)⟩⟩
  | (g, y) :: r, _, _, .cons (d := e) (ds := ds) (fp := f0) (fps := f1) o r0 n0, n => by
    show ((if g = f then (g, v) :: r else (g, y) :: putF f v r).map (·.1)) = (if g = f then g :: r.map (·.1) else g :: putN f (r.map (·.1))) ∧ ∃ fq, Owns K H (if g = f then d :: ds else e :: putD f d (r.map (·.1)) ds) ((if g = f then (g, v) :: r else (g, y) :: putF f v r).map (·.2)) fq ∧ _
    by_cases hg : g = f
    · simp only [if_pos hg]
      refine ⟨rfl, fd ++ f1, .cons od r0 fun a ha hb => n a ha (List.mem_append_right _ hb), fun a ha => ?_⟩
      rcases List.mem_append.mp ha with z | z
      · exact .inl z
      · exact .inr (List.mem_append_right _ z)
    · simp only [if_neg hg]
      obtain ⟨h1, fq, h2, h3⟩ := putF_own od r0 fun a ha hb => n a ha (List.mem_append_right _ hb)
      refine ⟨by rw [List.map_cons, h1], f0 ++ fq, .cons o h2 fun a ha hb => ?_, fun a ha => ?_⟩
      · rcases h3 a hb with z | z
        · exact n a z (List.mem_append_left _ ha)
        · exact n0 a ha z
      · rcases List.mem_append.mp ha with z | z
        · exact .inr (List.mem_append_left _ z)
        · exact (h3 a z).imp id (List.mem_append_right _)
@[simp] def vSetF (C : Addr) (f : Str) (j : Nat) (te : TV) : TVS := fun E e => te e fun r e1 => ∃ d fs ks, Mv r e1 d ∧ e1[j]? = some (some (.obj C fs ks)) ∧ fs.length < 1000 ∧ E.nx (e1.set j (some (.obj C (putN f fs) (putD f d fs ks))))
theorem vs_fld {st : Stmt} {f : Str} {j : Nat} {te : TV} (c : Cls X.K C) (na : NoAttr X.K C f) (g : ∀ {to tv : TE}, PE X o to → PE X x tv → PS X st (sFld X.K to tv f)) (ho : PE X o (tVar j)) (he : VE X x q te) : VS X st [] (vSetF C f j te) := ⟨PSimp (g ho he.pe) fun D' σ H ⟨e, fp, E, hE, ht, k⟩ => by
  refine ⟨e, fp, _, hE, ht, fun r e1 v H1 fp1 fr ⟨d, fs, ks, hm, hj, hl, hx⟩ hE1 hR1 hF1 hN1 hM1 _ => ?_⟩
  have od := hR1.move hE1 hm
  have dis := hR1.dis
  obtain ⟨u, fo, h1, h2, h3, h4⟩ := hE1.lens hj
  refine ⟨u, h1, ?_⟩
  cases h2 with
  | @obj _ _ _ dx kvs a fp0 ea ek os na' =>
    subst ek
    have hd : Dis fr fp0 := fun b hb hc => dis b hb (h3 b (List.mem_cons_of_mem _ hc))
    have ha : a ∉ fr := fun z => dis a z (h3 a List.mem_cons_self)
    have fL : Fr [a] H1 (upd H1 a (.ins C dx (putF f v kvs))) := fun b o e n => by
      rw [upd_ne fun z => n (by simp [z])]
      exact e
    have mL : ∀ b ∈ [a], Mut (H1 b) := fun b hb => by
      have : b = a := by simpa using hb
      rw [this, ea]
      exact True.intro
    have dL : ∀ {S : List Addr}, a ∉ S → Dis S [a] := fun h b hb hc => by
      have : b = a := by simpa using hc
      rw [this] at hb
      exact h hb
    obtain ⟨p1, fq, p2, p3⟩ := putF_own (f := f) (od.fr (dL ha) mL fL) (os.fr (dL na') mL fL) hd
    have naq : a ∉ fq := fun z => by
      rcases p3 a z with y | y
      · exact ha y
      · exact na' y
    have on : Own X.K (upd H1 a (.ins C dx (putF f v kvs))) (.obj C (putN f (kvs.map (·.1))) (putD f d (kvs.map (·.1)) ks)) (.ref a) (a :: fq) := .obj upd_same p1 p2 naq
    obtain ⟨fw, w1, w2⟩ := h4 _ _ (a :: fq) (fun b o e n => by
      rw [upd_ne fun z => n (by rw [z]; exact List.mem_cons_self)]
      exact e) on fun b hb => by
        rcases List.mem_cons.mp hb with z | z
        · exact .inl (by rw [z]; exact List.mem_cons_self)
        · rcases p3 b z with y | y
          · exact .inr (dis b y)
          · exact .inl (List.mem_cons_of_mem _ y)
    refine ⟨a, C, dx, kvs, rfl, ea, c, na, by simpa using hl, k.nx _ σ _ fw hx ⟨w1, fun b o e n => ?_, fun b hb => ?_, Keep.refl _ _⟩⟩
    · have e1' := hF1 b o e n
      rw [upd_ne]
      · exact e1'
      · intro z
        rcases hN1 a (h3 a List.mem_cons_self) with y | y
        · rw [← z] at y
          exact n y
        · rw [← z, e] at y
          cases y
    · rcases w2 b hb with ⟨y, _⟩ | y
      · exact hN1 b y
      · rcases List.mem_cons.mp y with z | z
        · rw [z]
          exact hN1 a (h3 a List.mem_cons_self)
        · rcases p3 b z with t | t
          · exact hM1 b t
          · exact hN1 b (h3 b (List.mem_cons_of_mem _ t))⟩
end
end L2.VL
set_option Elab.async false
set_option linter.all false
set_option maxRecDepth 100000
namespace L2.VL
open PySem PySem.Spec PyProof.Rows

/-! ### the operators by values -/
section
variable {K : PySem.W.Frag} {H : Hp}
theorem k0 {Q : VK} {R : D → Prop} (k : ∀ d v H' fr, R d → Own K H' d v fr → Same H H' → (∀ b ∈ fr, H b = none) → Q v H') {d : D} {v : V} (h : R d) (o : Own K H d v []) : Q v H := k d v H [] h o (Same.refl _) fun _ z => nomatch z
theorem kNewL {Q : VK} {R : D → Prop} (k : ∀ d v H' fr, R d → Own K H' d v fr → Same H H' → (∀ b ∈ fr, H b = none) → Q v H') {ds : List D} {vs : List V} {p : Addr} (h : R (.lst ds)) (hp : H p = none) (o : Owns K H ds vs []) : Q (.ref p) (upd H p (.lst vs)) :=
  k _ _ _ [p] h (.lst upd_same (o.same (upd_same' hp)) List.not_mem_nil) (upd_same' hp) fun b hb => by
    have : b = p := by simpa using hb
    rw [this]
    exact hp
theorem kNewT {Q : VK} {R : D → Prop} (k : ∀ d v H' fr, R d → Own K H' d v fr → Same H H' → (∀ b ∈ fr, H b = none) → Q v H') {ds : List D} {vs : List V} {p : Addr} (h : R (.tup ds)) (hp : H p = none) (o : Owns K H ds vs []) : Q (.ref p) (upd H p (.tup vs)) :=
  k _ _ _ [] h (.tup upd_same (o.same (upd_same' hp))) (upd_same' hp) fun _ z => nomatch z
theorem Owns.appN : ∀ {as bs : List D} {vs ws : List V} {f : List Addr}, Owns K H as vs f → f = [] → Owns K H bs ws [] → Owns K H (as ++ bs) (vs ++ ws) []
  | _, _, _, _, _, .nil, _, o => o
  | _, _, _, _, _, .cons (fp := f0) (fps := f1) o r n, e, o2 => by
    have h0 : f0 = [] := (List.append_eq_nil_iff.mp e).1
    have h1 : f1 = [] := (List.append_eq_nil_iff.mp e).2
    subst h0 h1
    exact .cons (fp := []) (fps := []) o (r.appN rfl o2) fun _ z => nomatch z
theorem Owns.sub : ∀ {as : List D} {vs : List V} {f : List Addr}, Owns K H as vs f → f = [] → ∀ n, Owns K H (as.take n) (vs.take n) []
  | _, _, _, _, _, 0 => .nil
  | _, _, _, .nil, _, n + 1 => .nil
  | _, _, _, .cons (fp := f0) (fps := f1) o r _, e, n + 1 => by
    have h0 : f0 = [] := (List.append_eq_nil_iff.mp e).1
    have h1 : f1 = [] := (List.append_eq_nil_iff.mp e).2
    subst h0 h1
    exact .cons (fp := []) (fps := []) o (r.sub rfl n) fun _ z => nomatch z
theorem Owns.dropN : ∀ {as : List D} {vs : List V} {f : List Addr}, Owns K H as vs f → f = [] → ∀ n, Owns K H (as.drop n) (vs.drop n) []
  | _, _, _, o, e, 0 => by
    subst e
    exact o
  | _, _, _, .nil, _, n + 1 => .nil
  | _, _, _, .cons (fp := f0) (fps := f1) o r _, e, n + 1 => r.dropN (List.append_eq_nil_iff.mp e).2 n
end
@[simp] def fAdd : F2
  | .int a, .int b, R => R (.int (a + b))
  | .str a, .str b, R => a.length + b.length ≤ 16777216 ∧ R (.str (a ++ b))
  | .lst a, .lst b, R => D.ims a = true ∧ D.ims b = true ∧ a.length + b.length ≤ 16777216 ∧ R (.lst (a ++ b))
  | .tup a, .tup b, R => D.ims a = true ∧ D.ims b = true ∧ a ≠ [] ∧ a.length + b.length ≤ 16777216 ∧ R (.tup (a ++ b))
  | _, _, _ => False
section
variable {X : Cx} {K : PySem.W.Frag}
def rAddA (K : PySem.W.Frag) : R2 := fun x y H Q => (rI0 (fun i j => .int (i + j)) x y H Q) ∨ ((∃ i j, x = .str i ∧ y = .str j ∧ i.length + j.length ≤ sizeLine ∧ Q (.str (i ++ j)) H) ∨ (rCat x y H Q ∨ rCatT K x y H Q))
theorem or_add : OpR X (binaryOp .Add) (rAddA X.K) := op_add.or (op_add_str.or (op_cat.or op_catT))
theorem o2_add : Op2 K (rAddA K) fAdd := by
  intro H d1 v1 f1 d2 v2 f2 Q R o1 o2 h k
  cases o1 with
  | int i =>
    cases o2 with
    | int j => exact .inl ⟨i, j, rfl, rfl, k0 k h (.int _)⟩
    | _ => exact h.elim
  | str a =>
    cases o2 with
    | str b => exact .inr (.inl ⟨a, b, rfl, rfl, by rw [sizeLine_eq]; exact h.1, k0 k h.2 (.str _)⟩)
    | _ => exact h.elim
  | lst e os n =>
    cases o2 with
    | lst e' os' n' =>
      obtain ⟨h1, h2, h3, h4⟩ := h
      have z1 := os.imf h1
      have z2 := os'.imf h2
      subst z1 z2
      exact .inr (.inr (.inl ⟨_, _, _, _, rfl, rfl, e, e', by rw [← os.len, ← os'.len, sizeLine_eq]; exact h3, fun p hp => kNewL k h4 hp (os.appN rfl os')⟩))
    | _ => exact h.elim
  | tup e os =>
    cases o2 with
    | tup e' os' =>
      obtain ⟨h1, h2, h5, h3, h4⟩ := h
      have z1 := os.imf h1
      have z2 := os'.imf h2
      subst z1 z2
      refine .inr (.inr (.inr ⟨_, _, _, _, rfl, rfl, .of e, .of e', fun z => ?_, by rw [← os.len, ← os'.len, sizeLine_eq]; exact h3, fun z => ?_, fun _ p hp => kNewT k h4 hp (os.appN rfl os')⟩))
      · subst z
        cases os
        exact h5 rfl
      · subst z
        cases os'
        rw [List.append_nil] at h4
        exact k0 k h4 (.tup e os)
    | _ => exact h.elim
  | _ => exact h.elim
@[simp] def fI2 (C : Int → Int → Prop) (g : Int → Int → D) : F2
  | .int a, .int b, R => C a b ∧ R (g a b)
  | _, _, _ => False
@[simp] def fI20 (g : Int → Int → D) : F2
  | .int a, .int b, R => R (g a b)
  | _, _, _ => False
theorem o2_int {C : Int → Int → Prop} {g : Int → Int → Int} : Op2 K (rI C fun i j => .int (g i j)) (fI2 C fun i j => .int (g i j)) := by
  intro H d1 v1 f1 d2 v2 f2 Q R o1 o2 h k
  cases o1 with
  | int i =>
    cases o2 with
    | int j => exact ⟨i, j, rfl, rfl, h.1, k0 k h.2 (.int _)⟩
    | _ => exact h.elim
  | _ => exact h.elim
theorem o2_int0 {g : Int → Int → Int} : Op2 K (rI0 fun i j => .int (g i j)) (fI20 fun i j => .int (g i j)) := by
  intro H d1 v1 f1 d2 v2 f2 Q R o1 o2 h k
  cases o1 with
  | int i =>
    cases o2 with
    | int j => exact ⟨i, j, rfl, rfl, k0 k h (.int _)⟩
    | _ => exact h.elim
  | _ => exact h.elim
theorem o2_bl0 {g : Int → Int → Bool} : Op2 K (rI0 fun i j => .bl (g i j)) (fI20 fun i j => .bl (g i j)) := by
  intro H d1 v1 f1 d2 v2 f2 Q R o1 o2 h k
  cases o1 with
  | int i =>
    cases o2 with
    | int j => exact ⟨i, j, rfl, rfl, k0 k h (.bl _)⟩
    | _ => exact h.elim
  | _ => exact h.elim
/-! ### ==, != -/
mutual
def D.py : D → PyData
  | .bl b => .bool b
  | .int i => .int i
  | .str x => .str x
  | .tup l => .tuple (D.pys l)
  | .lst l => .list (D.pys l)
  | _ => .none
def D.pys : List D → List PyData
  | [] => []
  | d :: r => d.py :: D.pys r
end
mutual
/-- none, bools, ints, texts, lists, tuples of such -/
def D.plain : D → Bool
  | .non => true
  | .bl _ => true
  | .int _ => true
  | .str _ => true
  | .tup l => D.plains l
  | .lst l => D.plains l
  | _ => false
def D.plains : List D → Bool
  | [] => true
  | d :: r => d.plain && D.plains r
end
mutual
theorem Own.dp {H : Hp} : ∀ {d : D} {v : V} {f : List Addr}, Own K H d v f → d.plain = true → Dp K H v d.py
  | _, _, _, .non, _ => .non
  | _, _, _, .bl b, _ => .bl b
  | _, _, _, .int i, _ => .int i
  | _, _, _, .str x, _ => .str x
  | _, _, _, .tup e o, h => .tup (.of e) (Owns.dp o (by simpa [D.plain] using h))
  | _, _, _, .lst e o _, h => .lst (.of e) (Owns.dp o (by simpa [D.plain] using h))
  | _, _, _, .ty _, h => by simp [D.plain] at h
  | _, _, _, .adr _, h => by simp [D.plain] at h
  | _, _, _, .rol _, h => by simp [D.plain] at h
  | _, _, _, .dK _ _ _ _, h => by simp [D.plain] at h
  | _, _, _, .dT _ _ _ _, h => by simp [D.plain] at h
  | _, _, _, .obj _ _ _ _, h => by simp [D.plain] at h
theorem Owns.dp {H : Hp} : ∀ {d : List D} {v : List V} {f : List Addr}, Owns K H d v f → D.plains d = true → DpAll K H v (D.pys d)
  | _, _, _, .nil, _ => .nil
  | _, _, _, .cons o r _, h => by
    simp only [D.plains, Bool.and_eq_true] at h
    exact .cons (Own.dp o h.1) (Owns.dp r h.2)
end
@[simp] def fEq : F2
  | .int a, .int b, R => R (.bl (decide (a = b)))
  | .str a, .str b, R => R (.bl (decide (a = b)))
  | .bl a, .bl b, R => R (.bl (a == b))
  | d, e, R => d.plain = true ∧ e.plain = true ∧ SeqAt.shaped d.py = true ∧ SeqAt.shaped e.py = true ∧ R (.bl (PyData.eqv d.py e.py))
@[simp] def fNe : F2
  | .int a, .int b, R => R (.bl (!decide (a = b)))
  | .str a, .str b, R => R (.bl (!decide (a = b)))
  | .bl a, .bl b, R => R (.bl (!(a == b)))
  | d, e, R => d.plain = true ∧ e.plain = true ∧ SeqAt.shaped d.py = true ∧ SeqAt.shaped e.py = true ∧ R (.bl (!PyData.eqv d.py e.py))
theorem or_eq (hu : X.A.units + 64 < cLine) : OpR X (compareOp .Eq) (fun x y H Q => rEq x y H Q ∨ rEqD X.K x y H Q) := op_eq.or (op_eqD hu)
theorem or_ne (hu : X.A.units + 64 < cLine) : OpR X (compareOp .NotEq) (fun x y H Q => rNe x y H Q ∨ rNeD X.K x y H Q) := op_ne.or (op_neD hu)
theorem o2_eq : Op2 K (fun x y H Q => rEq x y H Q ∨ rEqD K x y H Q) fEq := by
  intro H d1 v1 f1 d2 v2 f2 Q R o1 o2 h k
  have gen : (d1.plain = true ∧ d2.plain = true ∧ SeqAt.shaped d1.py = true ∧ SeqAt.shaped d2.py = true ∧ R (.bl (PyData.eqv d1.py d2.py))) → rEq v1 v2 H Q ∨ rEqD K v1 v2 H Q := fun ⟨p1, p2, s1, s2, r⟩ => .inr ⟨d1.py, d2.py, o1.dp p1, o2.dp p2, s1, s2, k0 k r (.bl _)⟩
  cases o1 <;> cases o2 <;> first
    | exact gen h
    | exact .inl ⟨rfl, k0 k (by rw [dec_int, Bool.beq_eq_decide_eq]; exact h) (.bl _)⟩
    | exact .inl ⟨rfl, k0 k (by rw [dec_str, Bool.beq_eq_decide_eq]; exact h) (.bl _)⟩
    | exact .inl ⟨rfl, k0 k (by rw [dec_bl]; exact h) (.bl _)⟩
theorem o2_ne : Op2 K (fun x y H Q => rNe x y H Q ∨ rNeD K x y H Q) fNe := by
  intro H d1 v1 f1 d2 v2 f2 Q R o1 o2 h k
  have gen : (d1.plain = true ∧ d2.plain = true ∧ SeqAt.shaped d1.py = true ∧ SeqAt.shaped d2.py = true ∧ R (.bl (!PyData.eqv d1.py d2.py))) → rNe v1 v2 H Q ∨ rNeD K v1 v2 H Q := fun ⟨p1, p2, s1, s2, r⟩ => .inr ⟨d1.py, d2.py, o1.dp p1, o2.dp p2, s1, s2, k0 k r (.bl _)⟩
  cases o1 <;> cases o2 <;> first
    | exact gen h
    | exact .inl ⟨rfl, k0 k (by rw [dec_int, Bool.beq_eq_decide_eq]; exact h) (.bl _)⟩
    | exact .inl ⟨rfl, k0 k (by rw [dec_str, Bool.beq_eq_decide_eq]; exact h) (.bl _)⟩
    | exact .inl ⟨rfl, k0 k (by rw [dec_bl]; exact h) (.bl _)⟩
/-! ### in, not in -/
@[simp] def D.flat : D → Bool
  | .non => true
  | .bl _ => true
  | .int _ => true
  | .str _ => true
  | _ => false
def D.v : D → V
  | .bl b => .bl b
  | .int i => .int i
  | .str x => .str x
  | _ => .non
theorem Own.flat {H : Hp} {d : D} {v : V} {f : List Addr} (o : Own K H d v f) (h : d.flat = true) : v = d.v ∧ flatV v = true := by
  cases o <;> first
    | exact ⟨rfl, rfl⟩
    | simp [D.flat] at h
theorem Owns.flat {H : Hp} : ∀ {ds : List D} {vs : List V} {f : List Addr}, Owns K H ds vs f → ds.all D.flat = true → vs = ds.map D.v ∧ vs.all flatV = true
  | _, _, _, .nil, _ => ⟨rfl, rfl⟩
  | _, _, _, .cons o r _, h => by
    simp only [List.all_cons, Bool.and_eq_true] at h
    obtain ⟨h1, h2⟩ := o.flat h.1
    obtain ⟨h3, h4⟩ := r.flat h.2
    subst h1 h3
    exact ⟨rfl, by simp only [List.all_cons, Bool.and_eq_true]; exact ⟨h2, h4⟩⟩
/-- one of them is it -/
def D.isIn (d : D) (ds : List D) : Bool := inV d.v (ds.map D.v)
@[simp] def fInG (neg : Bool) : F2
  | .str a, .str b, R => R (.bl (if neg then !(!(Builtin.Str.occurrences b a 0 b.length 1).isEmpty) else !(Builtin.Str.occurrences b a 0 b.length 1).isEmpty))
  | d, .lst ds, R => d.flat = true ∧ ds.all D.flat = true ∧ R (.bl (if neg then !(d.isIn ds) else d.isIn ds))
  | d, .tup ds, R => d.flat = true ∧ ds.all D.flat = true ∧ R (.bl (if neg then !(d.isIn ds) else d.isIn ds))
  | _, _, _ => False
theorem or_in : OpR X (compareOp .In) (fun x y H Q => (∃ i j, x = .str i ∧ y = .str j ∧ Q (.bl (!(Builtin.Str.occurrences j i 0 j.length 1).isEmpty)) H) ∨ rIn X.K false x y H Q) := op_in_str.or op_in_seq
theorem or_notin : OpR X (compareOp .NotIn) (fun x y H Q => (∃ i j, x = .str i ∧ y = .str j ∧ Q (.bl (!(!(Builtin.Str.occurrences j i 0 j.length 1).isEmpty))) H) ∨ rIn X.K true x y H Q) := op_notin_str.or op_notIn_seq
theorem in_seq {H : Hp} {neg : Bool} {d1 : D} {v1 : V} {f1 : List Addr} {ds : List D} {vs : List V} {p : Addr} {fs : List Addr} {Q : VK} {R : D → Prop} (o1 : Own K H d1 v1 f1) (os : Owns K H ds vs fs) (hp : SqL K H p vs ∨ SqT K H p vs)
    (h : d1.flat = true ∧ ds.all D.flat = true ∧ R (.bl (if neg then !(d1.isIn ds) else d1.isIn ds))) (k : ∀ d v H' fr, R d → Own K H' d v fr → Same H H' → (∀ b ∈ fr, H b = none) → Q v H') : rIn K neg v1 (.ref p) H Q := by
  obtain ⟨h1, h2, h3⟩ := h
  obtain ⟨e1, g1⟩ := o1.flat h1
  obtain ⟨e2, g2⟩ := os.flat h2
  refine ⟨p, vs, rfl, hp, g1, g2, ?_⟩
  subst e1 e2
  cases neg with
  | false => exact k0 k h3 (.bl _)
  | true => exact k0 k h3 (.bl _)
theorem o2_in : Op2 K (fun x y H Q => (∃ i j, x = .str i ∧ y = .str j ∧ Q (.bl (!(Builtin.Str.occurrences j i 0 j.length 1).isEmpty)) H) ∨ rIn K false x y H Q) (fInG false) := by
  intro H d1 v1 f1 d2 v2 f2 Q R o1 o2 h k
  cases o2 with
  | str b =>
    cases o1 with
    | str a => exact .inl ⟨a, b, rfl, rfl, k0 k h (.bl _)⟩
    | _ => exact h.elim
  | lst e os n => exact .inr (in_seq o1 os (.inl (.of e)) (by cases d1 <;> exact h) k)
  | tup e os => exact .inr (in_seq o1 os (.inr (.of e)) (by cases d1 <;> exact h) k)
  | _ => cases o1 <;> exact h.elim
theorem o2_notin : Op2 K (fun x y H Q => (∃ i j, x = .str i ∧ y = .str j ∧ Q (.bl (!(!(Builtin.Str.occurrences j i 0 j.length 1).isEmpty))) H) ∨ rIn K true x y H Q) (fInG true) := by
  intro H d1 v1 f1 d2 v2 f2 Q R o1 o2 h k
  cases o2 with
  | str b =>
    cases o1 with
    | str a => exact .inl ⟨a, b, rfl, rfl, k0 k h (.bl _)⟩
    | _ => exact h.elim
  | lst e os n => exact .inr (in_seq o1 os (.inl (.of e)) (by cases d1 <;> exact h) k)
  | tup e os => exact .inr (in_seq o1 os (.inr (.of e)) (by cases d1 <;> exact h) k)
  | _ => cases o1 <;> exact h.elim
/-! ### is None -/
@[simp] def D.isNon : D → Bool
  | .non => true
  | _ => false
@[simp] def fIsN : F2
  | d, .non, R => R (.bl d.isNon)
  | _, _, _ => False
@[simp] def fNotN : F2
  | d, .non, R => R (.bl (!d.isNon))
  | _, _, _ => False
theorem Own.isNon {H : Hp} {d : D} {v : V} {f : List Addr} (o : Own K H d v f) : decide (v = .non) = d.isNon := by
  cases o <;> rfl
theorem o2_isN : Op2 K (fun x y H Q => y = .non ∧ Q (.bl (decide (x = .non))) H) fIsN := by
  intro H d1 v1 f1 d2 v2 f2 Q R o1 o2 h k
  cases o2 with
  | non => exact ⟨rfl, by rw [o1.isNon]; exact k0 k (by cases d1 <;> exact h) (.bl _)⟩
  | _ => cases d1 <;> exact h.elim
theorem o2_notN : Op2 K (fun x y H Q => y = .non ∧ Q (.bl (!decide (x = .non))) H) fNotN := by
  intro H d1 v1 f1 d2 v2 f2 Q R o1 o2 h k
  cases o2 with
  | non => exact ⟨rfl, by rw [o1.isNon]; exact k0 k (by cases d1 <;> exact h) (.bl _)⟩
  | _ => cases d1 <;> exact h.elim
/-! ### subscripts -/
@[simp] def fIdx : F2
  | .lst ds, .int i, R => ∃ d, atI ds i = some d ∧ d.im = true ∧ R d
  | .tup ds, .int i, R => ∃ d, atI ds i = some d ∧ d.im = true ∧ R d
  | .str z, .int i, R => z.length ≤ 16777216 ∧ ∃ c, atI z.cps.toList i = some c ∧ R (.str ⟨#[c]⟩)
  | _, _, _ => False
theorem atI_own {H : Hp} {ds : List D} {vs : List V} {fs : List Addr} {i : Int} {d : D} (o : Owns K H ds vs fs) (h : atI ds i = some d) (hi : d.im = true) : ∃ v, atI vs i = some v ∧ Own K H d v [] := by
  unfold atI at h ⊢
  rw [o.len] at h
  cases hj : ixN vs.length i with
  | none => rw [hj] at h; cases h
  | some j =>
    rw [hj] at h
    obtain ⟨w, fk, h1, h2, _, _⟩ := o.lens (show ds[j]? = some d from h)
    have z := h2.imf hi
    subst z
    exact ⟨w, h1, h2⟩
theorem o2_idx : Op2 K (rIx K) fIdx := by
  intro H d1 v1 f1 d2 v2 f2 Q R o1 o2 h k
  cases o1 with
  | lst e os n =>
    cases o2 with
    | int i =>
      obtain ⟨d, h1, h2, h3⟩ := h
      obtain ⟨v, g1, g2⟩ := atI_own os h1 h2
      exact .inl ⟨_, _, i, v, rfl, rfl, .of e, g1, k0 k h3 g2⟩
    | _ => exact h.elim
  | tup e os =>
    cases o2 with
    | int i =>
      obtain ⟨d, h1, h2, h3⟩ := h
      obtain ⟨v, g1, g2⟩ := atI_own os h1 h2
      exact .inr (.inl ⟨_, _, i, v, rfl, rfl, .of e, g1, k0 k h3 g2⟩)
    | _ => exact h.elim
  | str z =>
    cases o2 with
    | int i =>
      obtain ⟨h0, c, h1, h2⟩ := h
      exact .inr (.inr ⟨z, i, c, rfl, rfl, by rw [sizeLine_eq]; exact h0, h1, k0 k h2 (.str _)⟩)
    | _ => exact h.elim
  | _ => cases o2 <;> exact h.elim
end
end L2.VL
set_option Elab.async false
set_option linter.all false
set_option maxRecDepth 100000
namespace L2.VL
open PySem PySem.Spec PyProof.Rows

section
variable {X : Cx} {K : PySem.W.Frag} {x a b o e : Expr} {q qa qb qo : Bool} {ta tb to te : TV} {pos : Pos} {es : List Expr} {tl : TVA}
/-! ### a place within: xs[i] -/
@[simp] def vIxP (to ti : TV) : TV := fun e R => to e fun r e1 => ti e1 fun ri e2 => r.at fun j p => ∃ ds i k, ri.get e2 = some (.int i) ∧ SE.look e2 j p = some (.lst ds) ∧ ixN ds.length i = some k ∧ R (.plc j (p ++ [k])) e2
theorem ve_ixP (g : ∀ {ta tb : TE}, PE X o ta → PE X a tb → PE X x (tOp (rIx X.K) ta tb)) (ho : VE X o qo to) (ha : VE X a true ta) : VE X x (qo && true) (vIxP to ta) := ⟨PEimp (g ho.pe ha.pe) fun σ H Q ⟨e, fp, R, hE, ht, hQ⟩ => by
  refine ⟨e, fp, _, hE, ht, fun r1 e1 v1 H1 fp1 f1 hr1 hE1 hR1 hF1 hN1 hM1 hq1 => ⟨e1, fp1, _, hE1, hr1, fun r2 e2 v2 H2 fp2 f2 hat hE2 hR2 hF2 hN2 hM2 hq2 => ?_⟩⟩
  obtain ⟨j, p, hr, ds, i, k, hi, hl, hk, hR⟩ := RV.at_iff.mp hat
  subst hr
  obtain ⟨q1, q2⟩ := hq2 rfl
  have o1 := hR1.after hE1.mut hF2 hN2 fun _ => q2
  obtain ⟨fi, oi, _⟩ := hR2.read hE2 hi
  cases oi
  obtain ⟨u, w, fd, h1, h2, h3, _⟩ := hE2.at_ hl
  have ew : v1 = w := by
    cases o1 with
    | plc hj q =>
      rw [hj] at h1
      cases h1
      exact q.fn h2
  subst ew
  cases h3 with
  | @lst _ vs ad fp0 ea os na =>
    have hkl : k < vs.length := by
      rw [← os.len]
      exact (ixN_seq hk).2.1
    have hv : vs[k]? = some vs[k] := List.getElem?_eq_getElem hkl
    refine .inl ⟨ad, vs, i, vs[k], rfl, rfl, .of ea, ?_, hQ _ e2 _ H2 fp2 [] hR hE2 (.plc h1 (Sub.snoc ⟨vs, hv, .inl ea⟩ h2)) (hF1.trans hN1 hF2) (New.trans hE.mut hF1 hN1 hN2) (New.nil _ _) fun z => ?_⟩
    · unfold atI
      rw [← os.len, hk]
      exact hv
    · obtain ⟨p1, p2⟩ := hq1 (and_t z).1
      exact ⟨q1.trans p1, p2.trans q2⟩⟩
/-! ### slices -/
abbrev TVO := SE → (Option Int → SE → Prop) → Prop
def rdO (K : PySem.W.Frag) (q : Bool) (t : TVO) : TO := fun σ H Q => ∃ e fp R, OwnE K H e σ fp ∧ t e R ∧ ∀ r e' H' fp', R r e' → OwnE K H' e' σ fp' → Fr fp H H' → New fp H fp' → (q = true → e' = e ∧ Same H H') → Q r H'
structure VO (X : Cx) (x : Option Expr) (q : Bool) (t : TVO) : Prop where
  po : PO X x (rdO X.K q t)
theorem POimp {X : Cx} {x : Option Expr} {t t' : TO} (h : PO X x t) (i : ∀ σ H Q, t' σ H Q → t σ H Q) : PO X x t' := ⟨fun pins s σ H Q I w => h.run pins s σ H Q I (i _ _ _ w)⟩
@[simp] def voNone : TVO := fun e R => R none e
@[simp] def voSome (t : TV) : TVO := fun e R => t e fun r e1 => ∃ i, r.get e1 = some (.int i) ∧ R (some i) e1
theorem vo_none : VO X none true voNone := ⟨POimp po_none fun σ H Q ⟨e, fp, R, hE, ht, hQ⟩ => hQ none e H fp ht hE (Fr.refl _ _) (New.refl _ _) fun _ => ⟨rfl, Same.refl _⟩⟩
theorem vo_some (h : VE X a q ta) : VO X (some a) q (voSome ta) := ⟨POimp (po_some h.pe) fun σ H Q ⟨e, fp, R, hE, ht, hQ⟩ =>
  ⟨e, fp, _, hE, ht, fun r e1 v H1 fp1 fr ⟨i, g, hR⟩ hE1 o hF hN _ hq => by
    obtain ⟨fd, od, _⟩ := o.read hE1 g
    cases od
    exact ⟨i, rfl, hQ _ e1 H1 fp1 hR hE1 hF hN hq⟩⟩⟩
abbrev FSl := D → Option Int → Option Int → (D → Prop) → Prop
def cutL {α : Type} (xs : List α) (lo hi : Option Int) : List α := (xs.drop (HT.sIx xs.length 0 lo)).take (HT.sIx xs.length xs.length hi - HT.sIx xs.length 0 lo)
@[simp] def fSl : FSl
  | .lst ds, lo, hi, R => D.ims ds = true ∧ R (.lst (cutL ds lo hi))
  | .rol ns, lo, hi, R => R (.lst ((cutL ns lo hi).map D.int))
  | .str z, lo, hi, R => z.length ≤ 16777216 ∧ R (.str (Txt.slice z lo hi))
  | .tup ds, lo, hi, R => D.ims ds = true ∧ ¬ (HT.sIx ds.length 0 lo = 0 ∧ HT.sIx ds.length ds.length hi = ds.length) ∧ R (.tup (cutL ds lo hi))
  | _, _, _, _ => False
def rSlA (K : PySem.W.Frag) : V → Option Int → Option Int → Hp → VK → Prop := fun x lo hi H Q => rSlL K x lo hi H Q ∨ (C8.rSlX x lo hi H Q ∨ rSlT K x lo hi H Q)
theorem sl_all : SlR X (rSlA X.K) := sl_list.or (C8.sl_txt.or sl_tup)
theorem cutL_own {H : Hp} {ds : List D} {vs : List V} (o : Owns K H ds vs []) (lo hi : Option Int) : Owns K H (cutL ds lo hi) (cutV vs lo hi) [] := by
  unfold cutL cutV
  rw [o.len]
  exact (o.dropN rfl _).sub rfl _
theorem Owns.ints {H : Hp} : ∀ ns : List Int, Owns K H (ns.map D.int) (ns.map V.int) []
  | [] => .nil
  | n :: r => .cons (fp := []) (fps := []) (.int n) (Owns.ints r) fun _ z => nomatch z
theorem cutV_ints (ns : List Int) (lo hi : Option Int) : cutV (ns.map V.int) lo hi = (cutL ns lo hi).map V.int := by
  unfold cutL cutV
  rw [List.length_map, List.map_take, List.map_drop]
theorem sl_own {H : Hp} {d : D} {v : V} {f : List Addr} {lo hi : Option Int} {Q : VK} {R : D → Prop} (o : Own K H d v f) (h : fSl d lo hi R) (k : ∀ d v H' fr, R d → Own K H' d v fr → Same H H' → (∀ b ∈ fr, H b = none) → Q v H') : rSlA K v lo hi H Q := by
  cases o with
  | lst e os n =>
    obtain ⟨h1, h2⟩ := h
    have z := os.imf h1
    subst z
    exact .inl ⟨_, _, rfl, .of e, fun p hp => kNewL k h2 hp (cutL_own os lo hi)⟩
  | @rol ns ad hr =>
    refine .inl ⟨_, _, rfl, hr.seq, fun p hp => ?_⟩
    rw [cutV_ints]
    exact kNewL k h hp (Owns.ints _)
  | str z => exact .inr (.inl ⟨z, rfl, by rw [sizeLine_eq]; exact h.1, k0 k h.2 (.str _)⟩)
  | tup e os =>
    obtain ⟨h1, h2, h3⟩ := h
    have z := os.imf h1
    subst z
    refine .inr (.inr ⟨_, _, rfl, .of e, by rw [← os.len]; exact h2, fun p hp => kNewT k h3 hp (cutL_own os lo hi)⟩)
  | _ => exact h.elim
@[simp] def vSl (qp : Bool) (te : TV) (tl th : TVO) : TV := fun e R => te e fun r e1 => (r.deep = true → qp = true) ∧ tl e1 fun lo e2 => th e2 fun hi e3 => ∃ d, r.get e3 = some d ∧ fSl d lo hi fun d => R (.val d) e3
theorem ve_slice {lo hi : Option Expr} {ql qh : Bool} {tlo thi : TVO} (g : ∀ {te : TE} {tl th : TO}, PE X e te → PO X lo tl → PO X hi th → PE X x (tSl (rSlA X.K) te tl th)) (he : VE X e q te) (hl : VO X lo ql tlo) (hh : VO X hi qh thi) :
    VE X x (q && (ql && qh)) (vSl (ql && qh) te tlo thi) := ⟨PEimp (g he.pe hl.po hh.po) fun σ H Q ⟨e, fp, R, hE, ht, hQ⟩ => by
  refine ⟨e, fp, _, hE, ht, fun r1 e1 v1 H1 fp1 f1 ⟨hd, hr1⟩ hE1 hR1 hF1 hN1 hM1 hq1 => ⟨e1, fp1, _, hE1, hr1, fun l e2 H2 fp2 hr2 hE2 hF2 hN2 hq2 => ⟨e2, fp2, _, hE2, hr2, fun h e3 H3 fp3 ⟨d, g, hf⟩ hE3 hF3 hN3 hq3 => ?_⟩⟩⟩
  have q23 : (ql && qh) = true → e3 = e1 ∧ Same H1 H3 := fun z => by
    obtain ⟨z1, z2⟩ := and_t z
    obtain ⟨p1, p2⟩ := hq2 z1
    obtain ⟨p3, p4⟩ := hq3 z2
    exact ⟨p3.trans p1, p2.trans p4⟩
  have f13 : Fr fp1 H1 H3 := hF2.trans hN2 hF3
  have n13 : New fp1 H1 fp3 := New.trans hE1.mut hF2 hN2 hN3
  have o1 := hR1.after hE1.mut f13 n13 fun z => (q23 (hd z)).2
  obtain ⟨fd, od, _⟩ := o1.read hE3 g
  refine sl_own od hf fun d v H' fr hR hO hS hn => ?_
  have F : Fr fp H H3 := hF1.trans hN1 f13
  have N : New fp H fp3 := New.trans hE.mut hF1 hN1 n13
  refine hQ _ e3 v H' fp3 fr hR (hE3.same hS) (.val hO fun a ha hb => hE3.ne_none hb (hn a ha)) (F.trans N (Fr.of_same hS)) N (fun b hb => ?_) fun z => ?_
  · by_cases hbf : b ∈ fp
    · exact .inl hbf
    · exact .inr (F.none hE.mut (hn b hb) hbf)
  · obtain ⟨z1, z2⟩ := and_t z
    obtain ⟨p1, p2⟩ := hq1 z1
    obtain ⟨p3, p4⟩ := q23 z2
    exact ⟨p3.trans p1, (p2.trans p4).trans hS⟩⟩
/-! ### built-in calls -/
@[simp] def fLen : FN
  | [.str z], R => z.length ≤ 16777216 ∧ R (.int z.length)
  | [.lst ds], R => R (.int ds.length)
  | [.tup ds], R => R (.int ds.length)
  | _, _ => False
theorem ReadL.one {H : Hp} {d : D} {vs : List V} (h : ReadL K H [d] vs) : ∃ v f, vs = [v] ∧ Own K H d v f := by
  cases h with
  | cons o r =>
    cases r
    exact ⟨_, _, rfl, o⟩
theorem ReadL.two {H : Hp} {d e : D} {vs : List V} (h : ReadL K H [d, e] vs) : ∃ v f w g, vs = [v, w] ∧ Own K H d v f ∧ Own K H e w g := by
  cases h with
  | cons o r =>
    obtain ⟨w, g, rfl, o2⟩ := r.one
    exact ⟨_, _, _, _, rfl, o, o2⟩
theorem on_len : OpN K (fun xs H Q => ∃ x n, xs = [x] ∧ LenV K x H n ∧ Q (.int n) H) fLen := by
  intro H ds vs Q R o h k
  match ds, o, h with
  | [.str z], o, h =>
    obtain ⟨v, f, rfl, ov⟩ := o.one
    cases ov
    exact ⟨_, _, rfl, ⟨by rw [sizeLine_eq]; exact h.1, rfl⟩, k0 k h.2 (.int _)⟩
  | [.lst ds], o, h =>
    obtain ⟨v, f, rfl, ov⟩ := o.one
    cases ov with
    | lst e os n => exact ⟨_, _, rfl, .inl ⟨_, .of e, os.len⟩, k0 k h (.int _)⟩
  | [.tup ds], o, h =>
    obtain ⟨v, f, rfl, ov⟩ := o.one
    cases ov with
    | tup e os => exact ⟨_, _, rfl, .inr ⟨_, .of e, os.len⟩, k0 k h (.int _)⟩
@[simp] def fInt : FN
  | [.int i], R => R (.int i)
  | [.bl b], R => R (.int (if b then 1 else 0))
  | [.str z], R => ∃ n, PySem.intText? z = some n ∧ z.length ≤ 640 ∧ R (.int n)
  | _, _ => False
def rIntA : List V → Hp → VK → Prop := fun xs H Q => ((∃ i, xs = [.int i] ∧ Q (.int i) H) ∨ ∃ k, xs = [.bl k] ∧ Q (.int (if k then 1 else 0)) H) ∨ ∃ a n, xs = [.str a] ∧ PySem.intText? a = some n ∧ a.length ≤ 640 ∧ Q (.int n) H
theorem call_intA : CallR X (.type "int") rIntA := call_int1.or call_int_str
theorem on_int : OpN K rIntA fInt := by
  intro H ds vs Q R o h k
  match ds, o, h with
  | [.int z], o, h =>
    obtain ⟨v, f, rfl, ov⟩ := o.one
    cases ov
    exact .inl (.inl ⟨_, rfl, k0 k h (.int _)⟩)
  | [.bl z], o, h =>
    obtain ⟨v, f, rfl, ov⟩ := o.one
    cases ov
    exact .inl (.inr ⟨_, rfl, k0 k h (.int _)⟩)
  | [.str z], o, h =>
    obtain ⟨v, f, rfl, ov⟩ := o.one
    cases ov
    obtain ⟨n, h1, h2, h3⟩ := h
    exact .inr ⟨z, n, rfl, h1, h2, k0 k h3 (.int _)⟩
@[simp] def fStr : FN
  | [.int i], R => i.natAbs.log2 < 1920 ∧ R (.str (toString i))
  | [.str z], R => R (.str z)
  | _, _ => False
def rStrA : List V → Hp → VK → Prop := fun xs H Q => (∃ i, xs = [.int i] ∧ i.natAbs.log2 < 1920 ∧ Q (.str (toString i)) H) ∨ ∃ a, xs = [.str a] ∧ Q (.str a) H
theorem call_strA : CallR X (.type "str") rStrA := call_str_int.or SkE.call_str_str
theorem on_str : OpN K rStrA fStr := by
  intro H ds vs Q R o h k
  match ds, o, h with
  | [.int z], o, h =>
    obtain ⟨v, f, rfl, ov⟩ := o.one
    cases ov
    exact .inl ⟨_, rfl, h.1, k0 k h.2 (.str _)⟩
  | [.str z], o, h =>
    obtain ⟨v, f, rfl, ov⟩ := o.one
    cases ov
    exact .inr ⟨z, rfl, k0 k h (.str _)⟩
@[simp] def fList : FN
  | [.lst ds], R => D.ims ds = true ∧ R (.lst ds)
  | [.tup ds], R => D.ims ds = true ∧ R (.lst ds)
  | _, _ => False
theorem on_list : OpN K (fun xs H Q => ∃ p ys, xs = [.ref p] ∧ (SqL K H p ys ∨ SqT K H p ys) ∧ ∀ l, H l = none → Q (.ref l) (upd H l (.lst ys))) fList := by
  intro H ds vs Q R o h k
  match ds, o, h with
  | [.lst ds], o, h =>
    obtain ⟨v, f, rfl, ov⟩ := o.one
    cases ov with
    | lst e os n =>
      have z := os.imf h.1
      subst z
      exact ⟨_, _, rfl, .inl (.of e), fun l hl => kNewL k h.2 hl os⟩
  | [.tup ds], o, h =>
    obtain ⟨v, f, rfl, ov⟩ := o.one
    cases ov with
    | tup e os =>
      have z := os.imf h.1
      subst z
      exact ⟨_, _, rfl, .inr (.of e), fun l hl => kNewL k h.2 hl os⟩
@[simp] def fTuple : FN
  | [.lst ds], R => D.ims ds = true ∧ R (.tup ds)
  | [.tup ds], R => D.ims ds = true ∧ R (.tup ds)
  | _, _ => False
theorem on_tuple : OpN K (fun xs H Q => ∃ p ys, xs = [.ref p] ∧ ((SqL K H p ys ∧ ∀ l, H l = none → Q (.ref l) (upd H l (.tup ys))) ∨ (SqT K H p ys ∧ Q (.ref p) H))) fTuple := by
  intro H ds vs Q R o h k
  match ds, o, h with
  | [.lst ds], o, h =>
    obtain ⟨v, f, rfl, ov⟩ := o.one
    cases ov with
    | lst e os n =>
      have z := os.imf h.1
      subst z
      exact ⟨_, _, rfl, .inl ⟨.of e, fun l hl => kNewT k h.2 hl os⟩⟩
  | [.tup ds], o, h =>
    obtain ⟨v, f, rfl, ov⟩ := o.one
    cases ov with
    | tup e os =>
      have z := os.imf h.1
      subst z
      exact ⟨_, _, rfl, .inr ⟨.of e, k0 k h.2 (.tup e os)⟩⟩
/-! ### isinstance -/
@[simp] def D.tyIs : D → Option String
  | .non => some "NoneType"
  | .bl _ => some "bool"
  | .int _ => some "int"
  | .str _ => some "str"
  | .lst _ => some "list"
  | .tup _ => some "tuple"
  | .dK _ _ => some "dict"
  | .dT _ _ => some "dict"
  | _ => none
theorem Own.ty' {H : Hp} {d : D} {v : V} {f : List Addr} {t : String} (o : Own K H d v f) (h : d.tyIs = some t) : TyX K H v (.type t) := by
  cases o <;> simp only [D.tyIs, Option.some.injEq, reduceCtorEq] at h <;> first
    | (subst h; exact .base .non)
    | (subst h; exact .base (.bl _))
    | (subst h; exact .base (.int _))
    | (subst h; exact .base (.str _))
    | (subst h; exact .base (.lst (by assumption)))
    | (subst h; exact .base (.tup (by assumption)))
    | (subst h; exact .base (.dK (by assumption)))
    | (subst h; exact .base (.dT (by assumption)))
@[simp] def fIsi : FN
  | [d, .ty n], R => ∃ t b, d.tyIs = some t ∧ kitB t n = some b ∧ R (.bl b)
  | _, _ => False
theorem on_isi : OpN K (rIsi K) fIsi := by
  intro H ds vs Q R o h k
  match ds, o, h with
  | [d, .ty n], o, h =>
    obtain ⟨v, f, w, g, rfl, ov, ow⟩ := o.two
    cases ow
    obtain ⟨t, b, h1, h2, h3⟩ := h
    exact ⟨v, .ty n, _, _, b, rfl, .ty n, ov.ty' h1, kit_ty h2, k0 k h3 (.bl _)⟩
/-- a tuple of classes -/
@[simp] def tyNames : List D → Option (List String)
  | [] => some []
  | .ty n :: r => (tyNames r).map (n :: ·)
  | _ => none
def kitN (t : String) : List String → Option Bool
  | [] => some false
  | n :: r => match kitB t n with
    | some true => some true
    | some false => kitN t r
    | none => none
theorem kitN_ok {t : String} : ∀ {ns : List String} {b : Bool}, kitN t ns = some b → PySem.W.kitAny K (.type t) (ns.map Value.type) = some b
  | [], b, h => by
    rw [List.map_nil, kitAny_nil]
    exact h
  | n :: r, b, h => by
    unfold kitN at h
    cases hb : kitB t n with
    | none => rw [hb] at h; cases h
    | some b' =>
      rw [hb] at h
      cases b' with
      | true =>
        cases h
        exact kitAny_cons (kit_ty hb) (fun z => nomatch z) fun _ => rfl
      | false => exact kitAny_cons (kit_ty hb) (fun _ => kitN_ok h) fun z => nomatch z
theorem tyNames_own {H : Hp} : ∀ {cs : List D} {vs : List V} {fs : List Addr} {ns : List String}, Owns K H cs vs fs → tyNames cs = some ns → Paired ClsV vs (ns.map Value.type)
  | [], _, _, ns, .nil, h => by
    cases h
    exact .nil
  | c :: cs, _, _, ns, .cons o r _, h => by
    cases o with
    | ty n =>
      unfold tyNames at h
      cases hr : tyNames cs with
      | none => rw [hr] at h; cases h
      | some ms =>
        rw [hr] at h
        cases h
        exact .cons (.ty n) (tyNames_own r hr)
    | _ => simp [tyNames] at h
@[simp] def fIsiT : FN
  | [d, .tup cs], R => ∃ t ns b, d.tyIs = some t ∧ tyNames cs = some ns ∧ kitN t ns = some b ∧ R (.bl b)
  | _, _ => False
theorem on_isiT : OpN K (rIsiT K) fIsiT := by
  intro H ds vs Q R o h k
  match ds, o, h with
  | [d, .tup cs], o, h =>
    obtain ⟨v, f, w, g, rfl, ov, ow⟩ := o.two
    obtain ⟨t, ns, b, h1, h2, h3, h4⟩ := h
    cases ow with
    | tup e os => exact ⟨v, _, _, _, _, b, rfl, e, tyNames_own os h2, ov.ty' h1, kitN_ok h3, k0 k h4 (.bl _)⟩
/-! ### -a -/
@[simp] def fNeg : F1
  | .int i, R => R (.int (-i))
  | _, _ => False
theorem o1_neg : Op1 K (rU fun i => .int (-i)) fNeg := by
  intro H d v f Q R o h k
  cases o with
  | int i => exact ⟨i, rfl, k0 k h (.int _)⟩
  | _ => exact h.elim
/-! ### methods -/
@[simp] def isL (d : D) : Prop := ∃ l, d = .lst l
@[simp] def isS (d : D) : Prop := ∃ z, d = .str z
theorem ty_l : TyD K "list" isL := fun H d v f o ⟨l, e⟩ => by
  subst e
  cases o with
  | lst e os n => exact .inl ⟨rfl, _, .of e⟩
theorem ty_s : TyD K "str" isS := fun H d v f o ⟨l, e⟩ => by
  subst e
  cases o
  exact rfl
@[simp] def fAppend : FM
  | .lst ds, [d], R => ds.length < 16777216 ∧ R .non (.lst (ds ++ [d]))
  | _, _, _ => False
theorem keep_upd {H : Hp} {a : Addr} {u : HO} : ∀ b o, H b = some o → b ≠ a → upd H a u b = some o := fun b o e n => by
  rw [upd_ne n]
  exact e
theorem Owns.updA {H : Hp} {a : Addr} {u : HO} {ds : List D} {vs : List V} {f : List Addr} (o : Owns K H ds vs f) (hm : Mut (H a)) (n : a ∉ f) : Owns K (upd H a u) ds vs f :=
  o.fr (fp := [a]) (fun b hb hc => by
    have : b = a := by simpa using hc
    rw [this] at hb
    exact n hb) (fun b hb => by
    have : b = a := by simpa using hb
    rw [this]
    exact hm) fun b o e n => keep_upd b o e fun z => n (by simp [z])
theorem Own.updA {H : Hp} {a : Addr} {u : HO} {d : D} {v : V} {f : List Addr} (o : Own K H d v f) (hm : Mut (H a)) (n : a ∉ f) : Own K (upd H a u) d v f :=
  o.fr (fp := [a]) (fun b hb hc => by
    have : b = a := by simpa using hc
    rw [this] at hb
    exact n hb) (fun b hb => by
    have : b = a := by simpa using hb
    rw [this]
    exact hm) fun b o e n => keep_upd b o e fun z => n (by simp [z])
theorem mt_ofM {id : String} {r : V → List V → Hp → VK → Prop} (h : MtM X id r) : MtR X id r := fun pins s σ H x xs v us Q I r1 r2 q => h pins s σ H x xs v us Q I r1 r2 q
theorem mu_append : MutR K rAppend fAppend := by
  intro H a d0 f0 ds vs fs Q R o os hd h k
  match d0, ds, o, os, h with
  | .lst ls, [d], .lst (vs := lv) (fp := fl) e ol na, .cons (v := v) (fp := f) od .nil _, ⟨h1, h2⟩ =>
    have hm : Mut (H a) := by rw [e]; exact True.intro
    have naf : a ∉ f := fun z => hd a (by simpa using z) List.mem_cons_self
    obtain ⟨fq, q1, q2⟩ := (ol.updA (u := .lst (lv ++ [v])) hm na).snoc (od.updA (u := .lst (lv ++ [v])) hm naf) fun b hb hc => hd b (by simpa using hb) (List.mem_cons_of_mem _ hc)
    refine ⟨a, lv, v, rfl, rfl, e, by rw [← ol.len, sizeLine_eq]; exact h1, k .non _ .non _ [] (a :: fq) h2 (.lst upd_same q1 fun z => ?_) .non (fun _ z => nomatch z) keep_upd (fun b hb => ?_) fun _ z => nomatch z⟩
    · rcases (q2 a).mp z with y | y
      · exact na y
      · exact naf y
    · rcases List.mem_cons.mp hb with y | y
      · exact .inl (by rw [y]; exact List.mem_cons_self)
      · rcases (q2 b).mp y with t | t
        · exact .inl (List.mem_cons_of_mem _ t)
        · exact .inr (.inl (by simpa using t))
theorem Owns.unsnoc {H : Hp} : ∀ {ds : List D} {vs : List V} {f : List Addr} {d : D}, Owns K H ds vs f → ds[ds.length - 1]? = some d → ∃ v f1 f2, vs[vs.length - 1]? = some v ∧ Owns K H ds.dropLast vs.dropLast f1 ∧ Own K H d v f2 ∧ Dis f2 f1 ∧ (∀ b ∈ f1, b ∈ f) ∧ ∀ b ∈ f2, b ∈ f
  | _, _, _, d, .nil, h => by simp at h
  | _, _, _, d, .cons (fp := f0) o .nil n, h => by
    simp at h
    subst h
    exact ⟨_, [], f0, rfl, .nil, o, (fun _ _ z => nomatch z), (fun _ z => nomatch z), fun b hb => List.mem_append_left _ hb⟩
  | _, _, _, d, .cons (d := d0) (v := v0) (fp := f0) o (.cons (d := d1) (v := v1) (ds := dr) (vs := vr) o1 r1 n1) n, h => by
    have h' : (d1 :: dr)[(d1 :: dr).length - 1]? = some d := by simpa using h
    obtain ⟨v, f1, f2, g1, g2, g3, g4, g5, g6⟩ := Owns.unsnoc (.cons o1 r1 n1) h'
    refine ⟨v, f0 ++ f1, f2, by simpa using g1, .cons o g2 fun b hb hc => n b hb (g5 b hc), g3, fun b hb hc => ?_, fun b hb => ?_, fun b hb => List.mem_append_right _ (g6 b hb)⟩
    · rcases List.mem_append.mp hc with z | z
      · exact n b z (g6 b hb)
      · exact g4 b hb z
    · rcases List.mem_append.mp hb with z | z
      · exact List.mem_append_left _ z
      · exact List.mem_append_right _ (g5 b z)
@[simp] def fPop : FM
  | .lst ds, [], R => ∃ d, ds[ds.length - 1]? = some d ∧ R d (.lst ds.dropLast)
  | _, _, _ => False
theorem mu_pop : MutR K rPop fPop := by
  intro H a d0 f0 ds vs fs Q R o os hd h k
  match d0, ds, o, os, h with
  | .lst ls, [], .lst (vs := lv) (fp := fl) e ol na, .nil, ⟨d, h1, h2⟩ =>
    have hm : Mut (H a) := by rw [e]; exact True.intro
    obtain ⟨v, f1, f2, g1, g2, g3, g4, g5, g6⟩ := ol.unsnoc h1
    refine ⟨a, lv, v, rfl, rfl, e, g1, k d _ v _ f2 (a :: f1) h2 (.lst upd_same (g2.updA hm fun z => na (g5 a z)) fun z => na (g5 a z)) (g3.updA hm fun z => na (g6 a z)) (fun b hb hc => ?_) keep_upd (fun b hb => ?_) fun b hb => .inl (List.mem_cons_of_mem _ (g6 b hb))⟩
    · rcases List.mem_cons.mp hc with z | z
      · rw [z] at hb
        exact na (g6 a hb)
      · exact g4 b hb z
    · rcases List.mem_cons.mp hb with z | z
      · exact .inl (by rw [z]; exact List.mem_cons_self)
      · exact .inl (List.mem_cons_of_mem _ (g5 b z))
theorem Owns.erase {H : Hp} : ∀ {ds : List D} {vs : List V} {f : List Addr} {i : Nat} {d : D}, Owns K H ds vs f → ds[i]? = some d → ∃ v f1 f2, vs[i]? = some v ∧ Owns K H (ds.eraseIdx i) (vs.eraseIdx i) f1 ∧ Own K H d v f2 ∧ Dis f2 f1 ∧ (∀ b ∈ f1, b ∈ f) ∧ ∀ b ∈ f2, b ∈ f
  | _, _, _, _, d, .nil, h => by simp at h
  | _, _, _, 0, d, .cons (fp := f0) (fps := f1) o r n, h => by
    simp at h
    subst h
    exact ⟨_, f1, f0, rfl, r, o, n, (fun b hb => List.mem_append_right _ hb), fun b hb => List.mem_append_left _ hb⟩
  | _, _, _, i + 1, d, .cons (fp := f0) (fps := fs) o r n, h => by
    obtain ⟨v, f1, f2, g1, g2, g3, g4, g5, g6⟩ := Owns.erase r (by simpa using h)
    refine ⟨v, f0 ++ f1, f2, by simpa using g1, .cons o g2 fun b hb hc => n b hb (g5 b hc), g3, fun b hb hc => ?_, fun b hb => ?_, fun b hb => List.mem_append_right _ (g6 b hb)⟩
    · rcases List.mem_append.mp hc with z | z
      · exact n b z (g6 b hb)
      · exact g4 b hb z
    · rcases List.mem_append.mp hb with z | z
      · exact List.mem_append_left _ z
      · exact List.mem_append_right _ (g5 b z)
@[simp] def fPopAt : FM
  | .lst ds, [.int i], R => -9223372036854775808 ≤ i ∧ i < 9223372036854775808 ∧ ∃ k d, seqIndex? i ds.length = some k ∧ ds[k]? = some d ∧ R d (.lst (ds.eraseIdx k))
  | _, _, _ => False
theorem mu_popAt : MutR K rPopAt fPopAt := by
  intro H a d0 f0 ds vs fs Q R o os hd h k
  match d0, ds, o, os, h with
  | .lst ls, [.int i], .lst (vs := lv) (fp := fl) e ol na, .cons (.int _) .nil _, ⟨b1, b2, j, d, h0, h1, h2⟩ =>
    have hm : Mut (H a) := by rw [e]; exact True.intro
    obtain ⟨v, f1, f2, g1, g2, g3, g4, g5, g6⟩ := ol.erase h1
    refine ⟨a, lv, i, j, v, rfl, rfl, e, b1, b2, by rw [← ol.len]; exact h0, g1, k d _ v _ f2 (a :: f1) h2 (.lst upd_same (g2.updA hm fun z => na (g5 a z)) fun z => na (g5 a z)) (g3.updA hm fun z => na (g6 a z)) (fun b hb hc => ?_) keep_upd (fun b hb => ?_) fun b hb => .inl (List.mem_cons_of_mem _ (g6 b hb))⟩
    · rcases List.mem_cons.mp hc with z | z
      · rw [z] at hb
        exact na (g6 a hb)
      · exact g4 b hb z
    · rcases List.mem_cons.mp hb with z | z
      · exact .inl (by rw [z]; exact List.mem_cons_self)
      · exact .inl (List.mem_cons_of_mem _ (g5 b z))
theorem Owns.rev {H : Hp} : ∀ {ds : List D} {vs : List V} {f : List Addr}, Owns K H ds vs f → ∃ fq, Owns K H ds.reverse vs.reverse fq ∧ ∀ b, b ∈ fq ↔ b ∈ f
  | _, _, _, .nil => ⟨[], .nil, fun _ => Iff.rfl⟩
  | _, _, _, .cons (fp := f0) (fps := fs) o r n => by
    obtain ⟨fq, h1, h2⟩ := r.rev
    obtain ⟨fw, h3, h4⟩ := h1.snoc o fun b hb hc => n b hb ((h2 b).mp hc)
    refine ⟨fw, by simpa using h3, fun b => ?_⟩
    rw [h4 b, h2 b, List.mem_append]
    exact or_comm
@[simp] def fReverse : FM
  | .lst ds, [], R => R .non (.lst ds.reverse)
  | _, _, _ => False
theorem mu_reverse : MutR K rReverse fReverse := by
  intro H a d0 f0 ds vs fs Q R o os hd h k
  match d0, ds, o, os, h with
  | .lst ls, [], .lst (vs := lv) (fp := fl) e ol na, .nil, h =>
    have hm : Mut (H a) := by rw [e]; exact True.intro
    obtain ⟨fq, q1, q2⟩ := (ol.updA (u := .lst lv.reverse) hm na).rev
    refine ⟨a, lv, rfl, rfl, e, k .non _ .non _ [] (a :: fq) h (.lst upd_same q1 fun z => na ((q2 a).mp z)) .non (fun _ z => nomatch z) keep_upd (fun b hb => ?_) fun _ z => nomatch z⟩
    rcases List.mem_cons.mp hb with z | z
    · exact .inl (by rw [z]; exact List.mem_cons_self)
    · exact .inl (List.mem_cons_of_mem _ ((q2 b).mp z))
@[simp] def fClear : FM
  | .lst ds, [], R => R .non (.lst [])
  | _, _, _ => False
theorem mu_clear : MutR K rClear fClear := by
  intro H a d0 f0 ds vs fs Q R o os hd h k
  match d0, ds, o, os, h with
  | .lst ls, [], .lst (vs := lv) (fp := fl) e ol na, .nil, h =>
    refine ⟨a, lv, rfl, rfl, e, k .non _ .non _ [] [a] h (.lst upd_same .nil List.not_mem_nil) .non (fun _ z => nomatch z) keep_upd (fun b hb => ?_) fun _ z => nomatch z⟩
    have : b = a := by simpa using hb
    exact .inl (by rw [this]; exact List.mem_cons_self)
/-- xs.extend(ys), ys a list of things that never change -/
@[simp] def fExtend : FM
  | .lst ds, [.lst es], R => D.ims es = true ∧ ds.length + es.length ≤ 16777216 ∧ R .non (.lst (ds ++ es))
  | _, _, _ => False
theorem Owns.app {H : Hp} : ∀ {as bs : List D} {vs ws : List V} {f : List Addr}, Owns K H as vs f → Owns K H bs ws [] → ∃ fq, Owns K H (as ++ bs) (vs ++ ws) fq ∧ ∀ b, b ∈ fq ↔ b ∈ f
  | _, bs, _, _, _, .nil, o => ⟨[], o, fun _ => Iff.rfl⟩
  | _, bs, _, _, _, .cons (fp := f0) (fps := fs) o r n, o2 => by
    obtain ⟨fq, h1, h2⟩ := r.app o2
    exact ⟨f0 ++ fq, .cons o h1 (fun b hb hc => n b hb ((h2 b).mp hc)), fun b => by simp only [List.mem_append, h2 b]⟩
theorem mu_extend : MutR K rExtend fExtend := by
  intro H a d0 f0 ds vs fs Q R o os hd h k
  match d0, ds, o, os, h with
  | .lst ls, [.lst es], .lst (vs := lv) (fp := fl) e ol na, .cons (.lst (a := b0) (vs := bv) (fp := fb) e2 ob nb) .nil _, ⟨h1, h2, h3⟩ =>
    have hm : Mut (H a) := by rw [e]; exact True.intro
    have z := ob.imf h1
    subst z
    obtain ⟨fq, q1, q2⟩ := (ol.updA (u := .lst (lv ++ bv)) hm na).app (ob.updA (u := .lst (lv ++ bv)) hm List.not_mem_nil)
    refine ⟨a, b0, lv, bv, rfl, rfl, e, e2, by rw [← ol.len, ← ob.len, sizeLine_eq]; exact h2, k .non _ .non _ [] (a :: fq) h3 (.lst upd_same q1 fun z => na ((q2 a).mp z)) .non (fun _ z => nomatch z) keep_upd (fun b hb => ?_) fun _ z => nomatch z⟩
    rcases List.mem_cons.mp hb with z | z
    · exact .inl (by rw [z]; exact List.mem_cons_self)
    · exact .inl (List.mem_cons_of_mem _ ((q2 b).mp z))
/-- sep.join(list of texts) -/
def D.strs : List D → Option (List Str)
  | [] => some []
  | .str z :: r => (D.strs r).map (z :: ·)
  | _ => none
theorem strs_own {H : Hp} : ∀ {ds : List D} {vs : List V} {f : List Addr} {zs : List Str}, Owns K H ds vs f → D.strs ds = some zs → vs = zs.map V.str
  | [], _, _, zs, .nil, h => by
    cases h
    rfl
  | d :: ds, _, _, zs, .cons o r _, h => by
    cases o with
    | str z =>
      unfold D.strs at h
      cases hr : D.strs ds with
      | none => rw [hr] at h; cases h
      | some ws =>
        rw [hr] at h
        cases h
        rw [strs_own r hr]
        rfl
    | _ => simp [D.strs] at h
@[simp] def fJoin : D → List D → (D → Prop) → Prop
  | .str a, [.lst ds], R => ∃ zs, D.strs ds = some zs ∧ (zs.map (·.length)).sum + zs.length * a.length ≤ 16777216 ∧ R (.str (Txt.join a zs))
  | _, _, _ => False
theorem om_join : OpM K (fun x xs H Q => ∃ a p, ∃ ys : List Str, x = .str a ∧ xs = [.ref p] ∧ (SqL K H p (ys.map V.str) ∨ SqT K H p (ys.map V.str)) ∧
    (ys.map (·.length)).sum + ys.length * a.length ≤ 16777216 ∧ Q (.str (Txt.join a ys)) H) fJoin := by
  intro H d0 v0 f0 ds vs Q R o os h k
  match d0, ds, o, os, h with
  | .str a, [.lst ls], .str _, os, ⟨zs, h1, h2, h3⟩ =>
    obtain ⟨v, f, rfl, ov⟩ := os.one
    cases ov with
    | lst e ol n =>
      refine ⟨a, _, zs, rfl, rfl, .inl (.of ?_), h2, k0 k h3 (.str _)⟩
      rw [e, strs_own ol h1]
end
end L2.VL
set_option Elab.async false
set_option linter.all false
set_option maxRecDepth 100000
namespace L2.VL
open PySem PySem.Spec PyProof.Rows

section
variable {X : Cx} {K : PySem.W.Frag} {x a b c o e : Expr} {q qa qb qc qo : Bool} {ta tb tc to te : TV} {pos : Pos} {st : Stmt}
/-! ### xs[i] = e -/
theorem Owns.put {H : Hp} : ∀ {ds : List D} {vs : List V} {f fd : List Addr} {k : Nat} {d : D} {v : V}, Owns K H ds vs f → Own K H d v fd → Dis fd f → ∃ fq, Owns K H (ds.set k d) (vs.set k v) fq ∧ ∀ b ∈ fq, b ∈ fd ∨ b ∈ f
  | _, _, _, _, _, _, _, .nil, _, _ => ⟨[], .nil, fun _ z => nomatch z⟩
  | _, _, _, fd, 0, _, _, .cons (fp := f0) (fps := f1) o r n, od, nd => ⟨fd ++ f1, .cons od r (fun b hb hc => nd b hb (List.mem_append_right _ hc)), fun b hb => (List.mem_append.mp hb).imp id (List.mem_append_right _)⟩
  | _, _, _, fd, k + 1, _, _, .cons (fp := f0) (fps := f1) o r n, od, nd => by
    obtain ⟨fq, h1, h2⟩ := r.put (k := k) od fun b hb hc => nd b hb (List.mem_append_right _ hc)
    refine ⟨f0 ++ fq, .cons o h1 fun b hb hc => ?_, fun b hb => ?_⟩
    · rcases h2 b hc with z | z
      · exact nd b z (List.mem_append_left _ hb)
      · exact n b hb z
    · rcases List.mem_append.mp hb with z | z
      · exact .inr (List.mem_append_left _ z)
      · exact (h2 b z).imp id (List.mem_append_right _)
@[simp] def vSetI (te to ti : TV) : TVS := fun E e => te e fun r e1 => r.deep = false ∧ to e1 fun ro e2 => ti e2 fun ri e3 => ro.at fun j p => ∃ d ds i k, Mv r e3 d ∧ ri.get e3 = some (.int i) ∧ SE.look e3 j p = some (.lst ds) ∧ ixN ds.length i = some k ∧ E.nx (SE.put e3 j p (.lst (ds.set k d)))
theorem vs_setI (g : ∀ {te to ti : TE}, PE X x te → PE X o to → PE X a ti → PS X st (tAsg te (gSub to ti rSetL))) (he : VE X x q te) (ho : VE X o true to) (ha : VE X a true ta) : VS X st [] (vSetI te to ta) := ⟨PSimp (g he.pe ho.pe ha.pe) fun D' σ H ⟨e, fp, E, hE, ht, k⟩ => by
  refine ⟨e, fp, _, hE, ht, fun r e1 v H1 fp1 fr ⟨hd, hr⟩ hE1 hR1 hF1 hN1 hM1 _ => ⟨e1, fp1, _, hE1, hr, fun ro e2 vo H2 fp2 fo hro hE2 hR2 hF2 hN2 hM2 hq2 => ⟨e2, fp2, _, hE2, hro, fun ri e3 vi H3 fp3 fi hat hE3 hR3 hF3 hN3 hM3 hq3 => ?_⟩⟩⟩
  obtain ⟨j, p, er, d, ds, i, kk, hm, gi, gl, hk, hx⟩ := RV.at_iff.mp hat
  subst er
  have s2 := (hq2 rfl).2
  have s3 := (hq3 rfl).2
  have r1 : OwnR X.K H3 σ fp3 r v fr := (hR1.after hE1.mut hF2 hN2 fun _ => s2).after hE2.mut hF3 hN3 fun _ => s3
  have r2 := hR2.after hE2.mut hF3 hN3 fun _ => s3
  obtain ⟨f', oi, _⟩ := hR3.read hE3 gi
  cases oi
  have od := r1.move hE3 hm
  have dis := r1.dis
  obtain ⟨u, w, fx, h1, h2, h3, h4, h5⟩ := hE3.replace gl
  have ew : vo = w := by
    cases r2 with
    | plc hj q =>
      rw [hj] at h1
      cases h1
      exact q.fn h2
  subst ew
  have F : Fr fp H H3 := (hF1.trans hN1 hF2).trans (New.trans hE.mut hF1 hN1 hN2) hF3
  have N3 : New fp H fp3 := New.trans hE.mut (hF1.trans hN1 hF2) (New.trans hE.mut hF1 hN1 hN2) hN3
  cases h3 with
  | @lst _ vs ad fp0 ea os na =>
    refine ⟨ad, vs, i, kk, rfl, rfl, ea, by rw [← os.len]; exact hk, ?_⟩
    have hmu : Mut (H3 ad) := by rw [ea]; exact True.intro
    have naf : ad ∉ fr := fun z => dis ad z (h4 ad List.mem_cons_self)
    obtain ⟨fq, q1, q2⟩ := (os.updA (u := .lst (vs.set kk v)) hmu na).put (k := kk) (od.updA (u := .lst (vs.set kk v)) hmu naf) fun b hb hc => dis b hb (h4 b (List.mem_cons_of_mem _ hc))
    have naq : ad ∉ fq := fun z => by
      rcases q2 ad z with y | y
      · exact naf y
      · exact na y
    obtain ⟨fw, w1, w2⟩ := h5 _ (.lst (ds.set kk d)) (ad :: fq) (fun b u e n => keep_upd b u e fun z => n (by rw [z]; exact List.mem_cons_self)) (.lst upd_same q1 naq) fun b hb => by
      rcases List.mem_cons.mp hb with z | z
      · exact .inl (by rw [z]; exact List.mem_cons_self)
      · rcases q2 b z with y | y
        · exact .inr (dis b y)
        · exact .inl (List.mem_cons_of_mem _ y)
    refine k.nx _ σ _ fw hx ⟨w1, fun b u e n => keep_upd b u (F b u e n) fun z => ?_, fun b hb => ?_, Keep.refl _ _⟩
    · rcases N3 ad (h4 ad List.mem_cons_self) with y | y
      · rw [← z] at y
        exact n y
      · rw [← z, e] at y
        cases y
    · rcases w2 b hb with ⟨y, _⟩ | y
      · exact N3 b y
      · rcases List.mem_cons.mp y with z | z
        · rw [z]
          exact N3 ad (h4 ad List.mem_cons_self)
        · rcases q2 b z with t | t
          · exact hM1 b t
          · exact N3 b (h4 b (List.mem_cons_of_mem _ t))⟩
/-! ### a < b < c of ints -/
@[simp] def vChain (qb qc : Bool) (p p' : Int → Int → Bool) (ta tb tc : TV) : TV := fun e R => ta e fun r1 e1 => (r1.deep = true → qb = true) ∧ tb e1 fun r2 e2 => ∃ i j, r1.get e2 = some (.int i) ∧ r2.get e2 = some (.int j) ∧
  if p i j = true then tc e2 fun r3 e3 => ∃ k, r3.get e3 = some (.int k) ∧ R (.val (.bl (p' j k))) e3 else R (.val (.bl false)) e2
theorem rd_chain {K : PySem.W.Frag} {p p' : Int → Int → Bool} (σ : St) (H : Hp) (Q : VK) (h : rd K (qa && (qb && qc)) (vChain qb qc p p' ta tb tc) σ H Q) :
    tChain (rI0 fun i j => .bl (p i j)) (rI0 fun i j => .bl (p' i j)) (rd K qa ta) (rd K qb tb) (rd K qc tc) σ H Q := by
  obtain ⟨e, fp, R, hE, ht, hQ⟩ := h
  refine ⟨e, fp, _, hE, ht, fun r1 e1 v1 H1 fp1 f1 ⟨hd, hr1⟩ hE1 hR1 hF1 hN1 hM1 hq1 => ⟨e1, fp1, _, hE1, hr1, fun r2 e2 v2 H2 fp2 f2 ⟨i, j, g1, g2, hc⟩ hE2 hR2 hF2 hN2 hM2 hq2 => ?_⟩⟩
  have o1 := hR1.after hE1.mut hF2 hN2 fun z => (hq2 (hd z)).2
  obtain ⟨_, p1, _⟩ := o1.read hE2 g1
  obtain ⟨_, p2, _⟩ := hR2.read hE2 g2
  cases p1
  cases p2
  have F := hF1.trans hN1 hF2
  have N := New.trans hE.mut hF1 hN1 hN2
  refine ⟨i, j, rfl, rfl, p i j, rfl, ?_⟩
  cases hp : p i j with
  | false =>
    rw [hp, if_neg Bool.false_ne_true] at hc
    refine hQ _ e2 _ H2 fp2 [] hc hE2 (.val (.bl false) fun _ z => nomatch z) F N (New.nil _ _) fun z => ?_
    obtain ⟨z1, z2⟩ := and_t z
    obtain ⟨t1, t2⟩ := hq1 z1
    obtain ⟨t3, t4⟩ := hq2 (and_t z2).1
    exact ⟨t3.trans t1, t2.trans t4⟩
  | true =>
    rw [hp, if_pos rfl] at hc
    refine ⟨e2, fp2, _, hE2, hc, fun r3 e3 v3 H3 fp3 f3 ⟨k, g3, hk⟩ hE3 hR3 hF3 hN3 hM3 hq3 => ?_⟩
    obtain ⟨_, p3, _⟩ := hR3.read hE3 g3
    cases p3
    refine ⟨j, k, rfl, rfl, hQ _ e3 _ H3 fp3 [] hk hE3 (.val (.bl _) fun _ z => nomatch z) (F.trans N hF3) (New.trans hE.mut F N hN3) (New.nil _ _) fun z => ?_⟩
    obtain ⟨z1, z2⟩ := and_t z
    obtain ⟨z3, z4⟩ := and_t z2
    obtain ⟨t1, t2⟩ := hq1 z1
    obtain ⟨t3, t4⟩ := hq2 z3
    obtain ⟨t5, t6⟩ := hq3 z4
    exact ⟨t5.trans (t3.trans t1), t2.trans (t4.trans t6)⟩
theorem ve_chain {p p' : Int → Int → Bool} (g : ∀ {ta tb tc : TE}, PE X a ta → PE X b tb → PE X c tc → PE X x (tChain (rI0 fun i j => .bl (p i j)) (rI0 fun i j => .bl (p' i j)) ta tb tc)) (ha : VE X a qa ta) (hb : VE X b qb tb) (hc : VE X c qc tc) :
    VE X x (qa && (qb && qc)) (vChain qb qc p p' ta tb tc) := ⟨PEimp (g ha.pe hb.pe hc.pe) fun σ H Q h => rd_chain σ H Q h⟩
theorem vt_chain {p p' : Int → Int → Bool} (g : ∀ {ta tb tc : TE}, PE X a ta → PE X b tb → PE X c tc → PT X x (tTest (tChain (rI0 fun i j => .bl (p i j)) (rI0 fun i j => .bl (p' i j)) ta tb tc))) (ha : VE X a qa ta) (hb : VE X b qb tb) (hc : VE X c qc tc) :
    VT X x (qa && (qb && qc)) (vTest (vChain qb qc p p' ta tb tc)) := ⟨PTimp (g ha.pe hb.pe hc.pe) fun σ H Q h => rd_chain σ H _ (rd_test σ H Q h)⟩
/-! ### list(range(..)), tuple(range(..)) -/
theorem Owns.rg {H : Hp} (a b : Int) : Owns K H (rangeD a (b - a).toNat) (rgV a b) [] := by
  unfold rangeD rgV
  have : ∀ l : List Nat, Owns K H (l.map fun i => D.int (a + (i : Nat))) (l.map fun i => V.int (a + (i : Nat))) [] := by
    intro l
    induction l with
    | nil => exact .nil
    | cons n r ih => exact .cons (fp := []) (fps := []) (.int _) ih fun _ z => nomatch z
  exact this _
@[simp] def vLstRg (t : TV) : TV := fun e R => t e fun r e1 => ∃ n, r.get e1 = some (.int n) ∧ 0 ≤ n ∧ n ≤ 16777216 ∧ R (.val (.lst (rangeD 0 n.toNat))) e1
theorem ve_lstRg (g : ∀ {ta : TE}, PE X a ta → PE X x (tLstRg (tRg1 ta))) (ha : VE X a qa ta) : VE X x qa (vLstRg ta) := ⟨PEimp (g ha.pe) fun σ H Q ⟨e, fp, R, hE, ht, hQ⟩ => by
  refine ⟨e, fp, _, hE, ht, fun r e1 v H1 fp1 fr ⟨n, g, h0, h1, hR⟩ hE1 o hF hN _ hq => ?_⟩
  obtain ⟨fd, od, _⟩ := o.read hE1 g
  cases od
  refine ⟨n, rfl, .of_le (by omega) (by omega) (by omega) (by omega), fun p hp => ?_⟩
  have s : Same H1 (upd H1 p (.lst (rgV 0 n))) := upd_same' hp
  have os := (Owns.rg (K := X.K) (H := H1) 0 n)
  rw [show (n - 0 : Int) = n by omega] at os
  refine hQ _ e1 (.ref p) _ fp1 [p] hR (hE1.same s) (.val (.lst upd_same (os.same s) List.not_mem_nil) fun b hb => ?_) (hF.trans hN (Fr.of_same s)) hN (fun b hb => ?_) fun z => ?_
  · have : b = p := by simpa using hb
    rw [this]
    exact fun z => hE1.ne_none z hp
  · have : b = p := by simpa using hb
    rw [this]
    by_cases hbf : p ∈ fp
    · exact .inl hbf
    · exact .inr (hF.none hE.mut hp hbf)
  · obtain ⟨y1, y2⟩ := hq z
    exact ⟨y1, y2.trans s⟩⟩
end
end L2.VL
set_option Elab.async false
set_option linter.all false
set_option maxRecDepth 100000
namespace L2.VL
open PySem PySem.Spec PyProof.Rows

section
variable {X : Cx} {K : PySem.W.Frag} {x a b c o e tg : Expr} {q qa qb qc qo : Bool} {ta tb tc to te : TV} {pos : Pos} {st : Stmt} {es : List Expr} {tl : TVA}
/-- range(a, b, -1) -/
@[simp] def viRD (t : TVA) : TVI := fun e T => t e fun rs e1 => ∃ a b : Int, GetL rs e1 [.int a, .int b, .int (-1)] ∧ (a < 4611686018427387904 ∧ -4611686018427387904 ≤ a ∧ b < 4611686018427387904 ∧ -4611686018427387904 ≤ b) ∧ T (rangeC a (-1) (a - b).toNat) [] (fun _ => True) e1
theorem vi_rangeD (g : ∀ {ta : TA}, PA X es ta → PI X tg x (iRng3 ta)) (ha : VA X es q tl) : VI X tg x (viRD tl) := ⟨PIimp (g ha.pa) fun σ H R ⟨e, fp, T, hE, ht, k⟩ => by
  refine ⟨e, fp, _, hE, ht, fun rs e1 vs H1 fp1 fr ⟨a, b, g, ⟨h1, h2, h3, h4⟩, hT⟩ hE1 hR hF hN _ _ => ?_⟩
  have z := hR.read hE1 g
  cases z with
  | cons oa z =>
    cases oa
    have y := z.two_int
    subst y
    exact ⟨a, b, -1, (a - b).toNat, rfl, .neg (by simpa using h2) (by simpa using h1) (by simpa using h4) (by simpa using h3), k _ [] _ e1 _ H1 fp1 hT hE1 hF hN src_rangeC⟩⟩
/-- o.f += e, ints -/
@[simp] def vAugF (C : Addr) (f : Str) (j : Nat) (te : TV) : TVS := fun E e => ∃ fs ks i n, e[j]? = some (some (.obj C fs ks)) ∧ fIx f fs = some i ∧ ks[i]? = some (.int n) ∧ fs.length < 1000 ∧ te e fun r e1 => ∃ m, r.get e1 = some (.int m) ∧ e1[j]? = some (some (.obj C fs ks)) ∧ E.nx (e1.set j (some (.obj C (putN f fs) (putD f (.int (n + m)) fs ks))))
theorem vs_fldaug {f : Str} {j : Nat} (c : Cls X.K C) (na : NoAttr X.K C f) (g : ∀ {to tv : TE}, PE X o to → PE X x tv → PS X st (sFldAug X.K to tv rAdd f)) (ho : PE X o (tVar j)) (he : VE X x q te) : VS X st [] (vAugF C f j te) := ⟨PSimp (g ho he.pe) fun D' σ H ⟨e, fp, E, hE, ⟨fs, ks, i, n, hj, hf, hi, hl, ht⟩, k⟩ => by
  obtain ⟨u, fo, h1, h2, _, _⟩ := hE.lens hj
  refine ⟨u, h1, ?_⟩
  cases h2 with
  | @obj _ _ _ dx kvs a fp0 ea ek os na' =>
    subst ek
    obtain ⟨v, l1, l2⟩ := fIx_look hf
    obtain ⟨w, fk, g1, g2, _, _⟩ := os.lens hi
    rw [l2] at g1
    cases g1
    cases g2
    refine ⟨a, C, dx, kvs, .int n, rfl, ea, c, na, l1, e, fp, _, hE, ht, fun r e1 v H1 fp1 fr ⟨m, gm, hj1, hx⟩ hE1 hR1 hF1 hN1 hM1 _ => ?_⟩
    obtain ⟨_, om, _⟩ := hR1.read hE1 gm
    cases om
    refine ⟨n, m, rfl, rfl, ?_⟩
    obtain ⟨u', fo', t1, t2, t3, t4⟩ := hE1.lens hj1
    rw [h1] at t1
    cases t1
    cases t2 with
    | @obj _ _ _ dx' kvs' _ fp0' ea' ek' os' na'' =>
      have fL : Fr [a] H1 (upd H1 a (.ins C dx' (putF f (.int (n + m)) kvs'))) := fun b o e n => by
        rw [upd_ne fun z => n (by simp [z])]
        exact e
      have hmu : Mut (H1 a) := by rw [ea']; exact True.intro
      obtain ⟨p1, fq, p2, p3⟩ := putF_own (f := f) (K := X.K) (H := upd H1 a (.ins C dx' (putF f (.int (n + m)) kvs'))) (.int (n + m)) (os'.updA hmu na'') fun _ z => nomatch z
      have naq : a ∉ fq := fun z => by
        rcases p3 a z with y | y
        · cases y
        · exact na'' y
      rw [ek'] at p1 p2
      have on : Own X.K (upd H1 a (.ins C dx' (putF f (.int (n + m)) kvs'))) (.obj C (putN f (kvs.map (·.1))) (putD f (.int (n + m)) (kvs.map (·.1)) ks)) (.ref a) (a :: fq) := .obj upd_same p1 p2 naq
      obtain ⟨fw, w1, w2⟩ := t4 _ _ (a :: fq) (fun b o e n => by
        rw [upd_ne fun z => n (by rw [z]; exact List.mem_cons_self)]
        exact e) on fun b hb => by
          rcases List.mem_cons.mp hb with z | z
          · exact .inl (by rw [z]; exact List.mem_cons_self)
          · rcases p3 b z with y | y
            · cases y
            · exact .inl (List.mem_cons_of_mem _ y)
      have hl' : kvs'.length < 1000 := by
        have := congrArg List.length ek'
        simp at this hl
        omega
      refine ⟨dx', kvs', ea', hl', k.nx _ σ _ fw hx ⟨w1, fun b o e n => ?_, fun b hb => ?_, Keep.refl _ _⟩⟩
      · have e1' := hF1 b o e n
        rw [upd_ne]
        · exact e1'
        · intro z
          rcases hN1 a (t3 a List.mem_cons_self) with y | y
          · rw [← z] at y
            exact n y
          · rw [← z, e] at y
            cases y
      · rcases w2 b hb with ⟨y, _⟩ | y
        · exact hN1 b y
        · rcases List.mem_cons.mp y with z | z
          · rw [z]
            exact hN1 a (t3 a List.mem_cons_self)
          · rcases p3 b z with t | t
            · cases t
            · exact hN1 b (t3 b (List.mem_cons_of_mem _ t))⟩
end
end L2.VL
set_option Elab.async false
set_option linter.all false
set_option maxRecDepth 100000
namespace L2.VL
open PySem PySem.Spec PyProof.Rows
/-! ### running by simp -/
theorem ims_ints : ∀ l : List Int, D.ims (l.map D.int) = true
  | [] => rfl
  | _ :: r => by simp only [List.map_cons, D.ims, D.im, Bool.true_and, ims_ints r]
theorem ims_strs : ∀ l : List Str, D.ims (l.map D.str) = true
  | [] => rfl
  | _ :: r => by simp only [List.map_cons, D.ims, D.im, Bool.true_and, ims_strs r]
theorem plains_ints : ∀ l : List Int, D.plains (l.map D.int) = true
  | [] => rfl
  | _ :: r => by simp only [List.map_cons, D.plains, D.plain, Bool.true_and, plains_ints r]
theorem strs_map : ∀ l : List Str, D.strs (l.map D.str) = some l
  | [] => rfl
  | z :: r => by simp only [List.map_cons, D.strs, strs_map r, Option.map_some]
theorem flat_ints (l : List Int) : (l.map D.int).all D.flat = true := by
  induction l with
  | nil => rfl
  | cons a r ih => simp only [List.map_cons, List.all_cons, D.flat, Bool.true_and, ih]
theorem isIn_ints (a : Int) (l : List Int) : (D.int a).isIn (l.map D.int) = decide (a ∈ l) := by
  unfold D.isIn inV
  rw [List.map_map]
  induction l with
  | nil => rfl
  | cons b r ih =>
    rw [List.map_cons, List.any_cons, ih]
    show ((b == a) || decide (a ∈ r)) = decide (a ∈ b :: r)
    by_cases h : b = a
    · subst h
      simp
    · have h' : ¬ a = b := fun z => h z.symm
      simp [h, h']
theorem ixN_nat {n k : Nat} (h : k < n) : ixN n (k : Int) = some k := by
  unfold ixN
  rw [if_pos (by omega), if_pos (by omega)]
  simp
theorem ixN_int {n : Nat} {i : Int} (h0 : 0 ≤ i) (h : i < n) : ixN n i = some i.toNat := by
  unfold ixN
  rw [if_pos h0, if_pos h]
theorem ixN_last {n : Nat} (h : 0 < n) : ixN n (-1) = some (n - 1) := by
  unfold ixN
  rw [if_neg (by omega), if_pos (by omega)]
  congr 1
  omega
theorem atI_mem {α : Type} {xs : List α} {i : Int} (h0 : 0 ≤ i) (h : i < xs.length) : ∃ x, atI xs i = some x ∧ x ∈ xs := by
  have hk : i.toNat < xs.length := by omega
  refine ⟨xs[i.toNat], ?_, List.getElem_mem _⟩
  unfold atI
  rw [ixN_int h0 h]
  exact List.getElem?_eq_getElem hk
theorem atI_int {α : Type} {xs : List α} {i : Int} (h0 : 0 ≤ i) (h : i < xs.length) : atI xs i = xs[i.toNat]? := by
  unfold atI
  rw [ixN_int h0 h]
  rfl
theorem seqIndex_int {n : Nat} {i : Int} (h0 : 0 ≤ i) (h : i < n) : seqIndex? i n = some i.toNat := (ixN_seq (ixN_int h0 h)).1
theorem map_last {α β : Type} (f : α → β) (l : List α) : (l.map f)[(l.map f).length - 1]? = (l[l.length - 1]?).map f := by
  rw [List.length_map, List.getElem?_map]
theorem last_some {α : Type} {l : List α} (h : l ≠ []) : ∃ x, l[l.length - 1]? = some x := by
  have : 0 < l.length := List.length_pos_iff.mpr h
  exact ⟨l[l.length - 1], List.getElem?_eq_getElem (by omega)⟩
end L2.VL
set_option Elab.async false
set_option linter.all false
set_option maxRecDepth 100000
namespace L2.VL
open PySem PySem.Spec PyProof.Rows
/-! ### the readings run step by step, from the left: no continuation is entered ahead of its turn -/
def opt {α : Type} (o : Option α) (P : α → Prop) : Prop := ∃ d, o = some d ∧ P d
def optS (o : Option (Option D)) (P : D → Prop) : Prop := ∃ d, o = some (some d) ∧ P d
theorem opt_some {α : Type} (a : α) (P : α → Prop) : opt (some a) P = P a := propext ⟨fun ⟨d, h, p⟩ => by cases h; exact p, fun p => ⟨a, rfl, p⟩⟩
theorem optS_some (a : D) (P : D → Prop) : optS (some (some a)) P = P a := propext ⟨fun ⟨d, h, p⟩ => by cases h; exact p, fun p => ⟨a, rfl, p⟩⟩
def optB (o : Option D) (R : Bool → SE → Prop) (e : SE) : Prop := ∃ b, o = some (.bl b) ∧ R b e
theorem optB_some (b : Bool) (R : Bool → SE → Prop) (e : SE) : optB (some (.bl b)) R e = R b e := propext ⟨fun ⟨d, h, p⟩ => by cases h; exact p, fun p => ⟨b, rfl, p⟩⟩
def optI (o : Option D) (R : Option Int → SE → Prop) (e : SE) : Prop := ∃ i, o = some (.int i) ∧ R (some i) e
theorem optI_some (i : Int) (R : Option Int → SE → Prop) (e : SE) : optI (some (.int i)) R e = R (some i) e := propext ⟨fun ⟨d, h, p⟩ => by cases h; exact p, fun p => ⟨i, rfl, p⟩⟩
def mv (r : RV) (e : SE) (P : D → Prop) : Prop := ∃ d, Mv r e d ∧ P d
theorem mv_val (d : D) (e : SE) (P : D → Prop) : mv (.val d) e P = P d := propext ⟨fun ⟨x, h, p⟩ => by have h' : d = x := h; rw [h']; exact p, fun p => ⟨d, rfl, p⟩⟩
def cIm (P : D → Prop) (d : D) : Prop := d.im = true ∧ P d
theorem mv_plc (j : Nat) (p : List Nat) (e : SE) (P : D → Prop) : mv (.plc j p) e P = opt (SE.look e j p) (cIm P) := propext ⟨fun ⟨d, ⟨h1, h2⟩, h3⟩ => ⟨d, h1, h2, h3⟩, fun ⟨d, h1, h2, h3⟩ => ⟨d, ⟨h1, h2⟩, h3⟩⟩
def mvl (rs : List RV) (e : SE) (P : List D → Prop) : Prop := ∃ ds, MvL rs e ds ∧ P ds
def cMvl (rs : List RV) (e : SE) (P : List D → Prop) (d : D) : Prop := mvl rs e (fun dr => P (d :: dr))
def cKons (d : D) (P : List D → Prop) (dr : List D) : Prop := P (d :: dr)
theorem mvl_nil (e : SE) (P : List D → Prop) : mvl [] e P = P [] := propext ⟨fun ⟨x, h, p⟩ => by have h' : x = [] := h; rw [← h']; exact p, fun p => ⟨[], rfl, p⟩⟩
theorem mvl_cons (r : RV) (rs : List RV) (e : SE) (P : List D → Prop) : mvl (r :: rs) e P = mv r e (cMvl rs e P) := propext
  ⟨fun ⟨x, ⟨d, dr, h1, h2, h3⟩, p⟩ => ⟨d, h2, dr, h3, by subst h1; exact p⟩, fun ⟨d, h2, dr, h3, p⟩ => ⟨d :: dr, ⟨d, dr, rfl, h2, h3⟩, p⟩⟩
theorem cMvl_run (rs : List RV) (e : SE) (P : List D → Prop) (d : D) : cMvl rs e P d = mvl rs e (cKons d P) := rfl
def getl (rs : List RV) (e : SE) (P : List D → Prop) : Prop := ∃ ds, GetL rs e ds ∧ P ds
def cGetl (rs : List RV) (e : SE) (P : List D → Prop) (d : D) : Prop := getl rs e (cKons d P)
theorem getl_nil (e : SE) (P : List D → Prop) : getl [] e P = P [] := propext ⟨fun ⟨x, h, p⟩ => by have h' : x = [] := h; rw [← h']; exact p, fun p => ⟨[], rfl, p⟩⟩
theorem getl_cons (r : RV) (rs : List RV) (e : SE) (P : List D → Prop) : getl (r :: rs) e P = opt (r.get e) (cGetl rs e P) := propext
  ⟨fun ⟨x, ⟨d, dr, h1, h2, h3⟩, p⟩ => ⟨d, h2, dr, h3, by subst h1; exact p⟩, fun ⟨d, h2, dr, h3, p⟩ => ⟨d :: dr, ⟨d, dr, rfl, h2, h3⟩, p⟩⟩
theorem cGetl_run (rs : List RV) (e : SE) (P : List D → Prop) (d : D) : cGetl rs e P d = getl rs e (cKons d P) := rfl
theorem cKons_run (d : D) (P : List D → Prop) (dr : List D) : cKons d P dr = P (d :: dr) := rfl
theorem cIm_run (P : D → Prop) (d : D) : cIm P d = (d.im = true ∧ P d) := rfl
def lookO (o : Option (Option D)) (p : List Nat) : Option D := match o with
  | some (some d) => d.look p
  | _ => none
theorem look_run (e : SE) (j : Nat) (p : List Nat) : SE.look e j p = lookO e[j]? p := rfl
theorem lookO_run (d : D) (p : List Nat) : lookO (some (some d)) p = d.look p := rfl
def putO (o : Option (Option D)) (e : SE) (j : Nat) (p : List Nat) (x : D) : SE := match o with
  | some (some d) => e.set j (some (d.put p x))
  | _ => e
theorem put_run (e : SE) (j : Nat) (p : List Nat) (x : D) : SE.put e j p x = putO e[j]? e j p x := rfl
theorem putO_run (d : D) (e : SE) (j : Nat) (p : List Nat) (x : D) : putO (some (some d)) e j p x = e.set j (some (d.put p x)) := rfl
theorem get_val (d : D) (e : SE) : (RV.val d).get e = some d := rfl
theorem get_plc (j : Nat) (p : List Nat) (e : SE) : (RV.plc j p).get e = SE.look e j p := rfl
theorem dlook_nil (d : D) : d.look [] = some d := by cases d <;> rfl
def kidO (o : Option D) (p : List Nat) : Option D := match o with
  | some d => d.look p
  | none => none
theorem dlook_lst (l : List D) (i : Nat) (p : List Nat) : (D.lst l).look (i :: p) = kidO l[i]? p := by
  unfold D.look kidO
  rfl
theorem dlook_obj (C : Addr) (fs : List Str) (l : List D) (i : Nat) (p : List Nat) : (D.obj C fs l).look (i :: p) = kidO l[i]? p := by
  unfold D.look kidO
  rfl
theorem kidO_run (d : D) (p : List Nat) : kidO (some d) p = d.look p := rfl
def kidP (o : Option D) (i : Nat) (p : List Nat) (x : D) (l : List D) : List D := match o with
  | some k => l.set i (k.put p x)
  | none => l
theorem dput_nil (d x : D) : d.put [] x = x := by cases d <;> rfl
theorem set_none {α : Type} {l : List α} {i : Nat} {x : α} (h : l[i]? = none) : l.set i x = l := List.set_eq_of_length_le (by simpa using h)
theorem dput_lst (l : List D) (i : Nat) (p : List Nat) (x : D) : (D.lst l).put (i :: p) x = .lst (kidP l[i]? i p x l) := by
  unfold D.put kidP
  cases h : l[i]? with
  | none => simp [D.kids, h]
  | some k => simp [D.kids, D.setKids, h]
theorem dput_obj (C : Addr) (fs : List Str) (l : List D) (i : Nat) (p : List Nat) (x : D) : (D.obj C fs l).put (i :: p) x = .obj C fs (kidP l[i]? i p x l) := by
  unfold D.put kidP
  cases h : l[i]? with
  | none => simp [D.kids, h]
  | some k => simp [D.kids, D.setKids, h]
theorem kidP_run (k : D) (i : Nat) (p : List Nat) (x : D) (l : List D) : kidP (some k) i p x l = l.set i (k.put p x) := rfl
def cR (R : RV → SE → Prop) (e : SE) (d : D) : Prop := R (.val d) e
theorem cR_run (R : RV → SE → Prop) (e : SE) (d : D) : cR R e d = R (.val d) e := rfl
def app1 (o : Option D) (f : F1) (Q : D → Prop) : Prop := ∃ d, o = some d ∧ f d Q
theorem app1_some (d : D) (f : F1) (Q : D → Prop) : app1 (some d) f Q = f d Q := propext ⟨fun ⟨x, h, p⟩ => by cases h; exact p, fun p => ⟨d, rfl, p⟩⟩
def app2 (o o' : Option D) (f : F2) (Q : D → Prop) : Prop := ∃ d d', o = some d ∧ o' = some d' ∧ f d d' Q
theorem app2_some (d d' : D) (f : F2) (Q : D → Prop) : app2 (some d) (some d') f Q = f d d' Q := propext ⟨fun ⟨x, y, h, h', p⟩ => by cases h; cases h'; exact p, fun p => ⟨d, d', rfl, rfl, p⟩⟩
theorem deep_val (d : D) : (RV.val d).deep = false := rfl
theorem deep_nil (j : Nat) : (RV.plc j []).deep = false := rfl
theorem deep_cons (j i : Nat) (p : List Nat) : (RV.plc j (i :: p)).deep = true := rfl
section
variable (i j n : Nat) (d d0 : D) (e e1 e2 e3 : SE) (R : RV → SE → Prop) (RB : Bool → SE → Prop) (RL : List RV → SE → Prop) (ta tb te to ti : TV) (tl : TVA) (ut wt : TVT) (f : F2) (g1 : F1) (fn : FN) (qa qb : Bool) (r r0 r1 r2 ri : RV) (rs : List RV) (E : VD) (t u : TVS) (b c : Bool)
def cVar (_d : D) : Prop := R (.plc i []) e
theorem vVar_run : vVar i e R = optS e[i]? (cVar i e R) := rfl
theorem cVar_run : cVar i e R d = R (.plc i []) e := rfl
theorem vC_run : vC d e R = R (.val d) e := rfl
def cMv : Prop := R (.val d) (e.set i none)
theorem vMv_run : vMv i e R = optS e[i]? (fun d => cMv i d e R) := rfl
def cMv' (d : D) : Prop := R (.val d) (e.set i none)
theorem vMv_run' : vMv i e R = optS e[i]? (cMv' i e R) := rfl
theorem cMv'_run : cMv' i e R d = R (.val d) (e.set i none) := rfl
def cBin2 (r2 : RV) (e2 : SE) : Prop := app2 (r1.get e2) (r2.get e2) f (cR R e2)
def cBin (r1 : RV) (e1 : SE) : Prop := (r1.deep = true → qb = true) ∧ tb e1 (cBin2 R f r1)
theorem vBin_run : vBin qb f ta tb e R = ta e (cBin R tb f qb) := rfl
theorem cBin_run : cBin R tb f qb r1 e1 = ((r1.deep = true → qb = true) ∧ tb e1 (cBin2 R f r1)) := rfl
theorem cBin2_run : cBin2 R f r1 r2 e2 = app2 (r1.get e2) (r2.get e2) f (cR R e2) := rfl
def cTest (r : RV) (e1 : SE) : Prop := optB (r.get e1) RB e1
theorem vTest_run : vTest ta e RB = ta e (cTest RB) := rfl
theorem cTest_run : cTest RB r e1 = optB (r.get e1) RB e1 := rfl
def cUn (r : RV) (e1 : SE) : Prop := app1 (r.get e1) g1 (cR R e1)
theorem vUn_run : vUn g1 ta e R = ta e (cUn R g1) := rfl
theorem cUn_run : cUn R g1 r e1 = app1 (r.get e1) g1 (cR R e1) := rfl
def cAnd (c : Bool) (e1 : SE) : Prop := if c = true then ut e1 RB else RB false e1
theorem vAnd_run : vAnd wt ut e RB = wt e (cAnd RB ut) := rfl
theorem cAnd_t : cAnd RB ut true e1 = ut e1 RB := if_pos rfl
theorem cAnd_f : cAnd RB ut false e1 = RB false e1 := if_neg Bool.false_ne_true
def cOr (c : Bool) (e1 : SE) : Prop := if c = true then RB true e1 else ut e1 RB
theorem vOr_run : vOr wt ut e RB = wt e (cOr RB ut) := rfl
theorem cOr_t : cOr RB ut true e1 = RB true e1 := if_pos rfl
theorem cOr_f : cOr RB ut false e1 = ut e1 RB := if_neg Bool.false_ne_true
def cNot (c : Bool) (e1 : SE) : Prop := RB (!c) e1
theorem vNot_run : vNot wt e RB = wt e (cNot RB) := rfl
theorem cNot_run : cNot RB c e1 = RB (!c) e1 := rfl
def cAndV2 (c : Bool) (e1 : SE) : Prop := if c = true then tb e1 R else R (.val (.bl false)) e1
def cAndV (r : RV) (e1 : SE) : Prop := optB (r.get e1) (cAndV2 R tb) e1
theorem vAndV_run : vAndV ta tb e R = ta e (cAndV R tb) := rfl
theorem cAndV_run : cAndV R tb r e1 = optB (r.get e1) (cAndV2 R tb) e1 := rfl
theorem cAndV2_t : cAndV2 R tb true e1 = tb e1 R := if_pos rfl
theorem cAndV2_f : cAndV2 R tb false e1 = R (.val (.bl false)) e1 := if_neg Bool.false_ne_true
def cOrV2 (c : Bool) (e1 : SE) : Prop := if c = true then R (.val (.bl true)) e1 else tb e1 R
def cOrV (r : RV) (e1 : SE) : Prop := optB (r.get e1) (cOrV2 R tb) e1
theorem vOrV_run : vOrV ta tb e R = ta e (cOrV R tb) := rfl
theorem cOrV_run : cOrV R tb r e1 = optB (r.get e1) (cOrV2 R tb) e1 := rfl
theorem cOrV2_t : cOrV2 R tb true e1 = R (.val (.bl true)) e1 := if_pos rfl
theorem cOrV2_f : cOrV2 R tb false e1 = tb e1 R := if_neg Bool.false_ne_true
def cNotV2 (c : Bool) (e1 : SE) : Prop := R (.val (.bl (!c))) e1
def cNotV (r : RV) (e1 : SE) : Prop := optB (r.get e1) (cNotV2 R) e1
theorem vNotV_run : vNotV ta e R = ta e (cNotV R) := rfl
theorem cNotV_run : cNotV R r e1 = optB (r.get e1) (cNotV2 R) e1 := rfl
theorem cNotV2_run : cNotV2 R c e1 = R (.val (.bl (!c))) e1 := rfl
def cIfE (c : Bool) (e1 : SE) : Prop := if c = true then ta e1 R else tb e1 R
theorem vIfE_run : vIfE wt ta tb e R = wt e (cIfE R ta tb) := rfl
theorem cIfE_t : cIfE R ta tb true e1 = ta e1 R := if_pos rfl
theorem cIfE_f : cIfE R ta tb false e1 = tb e1 R := if_neg Bool.false_ne_true
theorem vNil_run : vNil e RL = RL [] e := rfl
def cCons2 (rs : List RV) (e2 : SE) : Prop := RL (r :: rs) e2
def cCons (r : RV) (e1 : SE) : Prop := (r.deep = true → qb = true) ∧ tl e1 (cCons2 RL r)
theorem vCons_run : vCons qb ta tl e RL = ta e (cCons RL tl qb) := rfl
theorem cCons_run : cCons RL tl qb r e1 = ((r.deep = true → qb = true) ∧ tl e1 (cCons2 RL r)) := rfl
theorem cCons2_run : cCons2 RL r rs e2 = RL (r :: rs) e2 := rfl
def cTup2 (ds : List D) : Prop := ds.length ≤ 16777216 ∧ R (.val (.tup ds)) e1
def cTup (rs : List RV) (e1 : SE) : Prop := mvl rs e1 (cTup2 e1 R)
theorem vTup_run : vTup tl e R = tl e (cTup R) := rfl
theorem cTup_run : cTup R rs e1 = mvl rs e1 (cTup2 e1 R) := rfl
theorem cTup2_run (ds : List D) : cTup2 e1 R ds = (ds.length ≤ 16777216 ∧ R (.val (.tup ds)) e1) := rfl
def cLst2 (ds : List D) : Prop := ds.length ≤ 16777216 ∧ R (.val (.lst ds)) e1
def cLst (rs : List RV) (e1 : SE) : Prop := mvl rs e1 (cLst2 e1 R)
theorem vLst_run : vLst tl e R = tl e (cLst R) := rfl
theorem cLst_run : cLst R rs e1 = mvl rs e1 (cLst2 e1 R) := rfl
theorem cLst2_run (ds : List D) : cLst2 e1 R ds = (ds.length ≤ 16777216 ∧ R (.val (.lst ds)) e1) := rfl
def cFun2 (ds : List D) : Prop := fn ds (cR R e1)
def cFun (rs : List RV) (e1 : SE) : Prop := getl rs e1 (cFun2 e1 R fn)
theorem vFun_run : vFun fn tl e R = tl e (cFun R fn) := rfl
theorem cFun_run : cFun R fn rs e1 = getl rs e1 (cFun2 e1 R fn) := rfl
theorem cFun2_run (ds : List D) : cFun2 e1 R fn ds = fn ds (cR R e1) := rfl
end
section
variable (j : Nat) (pa : List Nat) (d d0 d' res : D) (e e1 e2 e3 : SE) (R : RV → SE → Prop) (ta tb te to ti : TV) (tl : TVA) (qa : Bool) (p : D → Prop) (fm : D → List D → (D → Prop) → Prop) (f : FM) (r r0 : RV) (rs : List RV) (ds : List D)
def cRM4 (ds : List D) : Prop := fm d0 ds (cR R e2)
def cRM3 (d0 : D) : Prop := getl rs e2 (cRM4 d0 e2 R fm)
def cRM2 (rs : List RV) (e2 : SE) : Prop := opt (r0.get e2) (cRM3 e2 R fm rs)
def cRM (r0 : RV) (e1 : SE) : Prop := (r0.deep = true → qa = true) ∧ opt (r0.get e1) p ∧ tl e1 (cRM2 R fm r0)
theorem rm2_eq : cRM2 R fm r0 rs e2 = ∃ d0 ds, r0.get e2 = some d0 ∧ GetL rs e2 ds ∧ fm d0 ds fun d => R (.val d) e2 := propext ⟨fun ⟨d0, h1, ds, h2, h3⟩ => ⟨d0, ds, h1, h2, h3⟩, fun ⟨d0, ds, h1, h2, h3⟩ => ⟨d0, h1, ds, h2, h3⟩⟩
theorem vRM_run : vRM qa p fm to tl e R = to e (cRM R tl qa p fm) := by
  unfold vRM
  congr 1
  funext r0 e1
  show (_ ∧ _ ∧ _) = (_ ∧ _ ∧ _)
  congr 2
  congr 1
  funext rs e2
  exact (rm2_eq e2 R fm r0 rs).symm
theorem cRM_run : cRM R tl qa p fm r0 e1 = ((r0.deep = true → qa = true) ∧ opt (r0.get e1) p ∧ tl e1 (cRM2 R fm r0)) := rfl
theorem cRM2_run : cRM2 R fm r0 rs e2 = opt (r0.get e2) (cRM3 e2 R fm rs) := rfl
theorem cRM3_run : cRM3 e2 R fm rs d0 = getl rs e2 (cRM4 d0 e2 R fm) := rfl
theorem cRM4_run : cRM4 d0 e2 R fm ds = fm d0 ds (cR R e2) := rfl
def cMut5 (res d' : D) : Prop := R (.val res) (SE.put e2 j pa d')
def cMut4 (d0 : D) : Prop := d0.isM = true ∧ f d0 ds (cMut5 j pa e2 R)
def cMut3 (ds : List D) : Prop := opt (SE.look e2 j pa) (cMut4 j pa e2 R f ds)
def cMut2 (rs : List RV) (e2 : SE) : Prop := mvl rs e2 (cMut3 j pa e2 R f)
def cMut (r0 : RV) (e1 : SE) : Prop := r0.at fun j pa => (pa ≠ [] → qa = true) ∧ opt (SE.look e1 j pa) p ∧ tl e1 (cMut2 j pa R f)
theorem mut2_eq : cMut2 j pa R f rs e2 = ∃ ds d0, MvL rs e2 ds ∧ SE.look e2 j pa = some d0 ∧ d0.isM = true ∧ f d0 ds fun res d' => R (.val res) (SE.put e2 j pa d') :=
  propext ⟨fun ⟨ds, h1, d0, h2, h3⟩ => ⟨ds, d0, h1, h2, h3⟩, fun ⟨ds, d0, h1, h2, h3⟩ => ⟨ds, h1, d0, h2, h3⟩⟩
theorem vMut_run : vMut qa p f to tl e R = to e (cMut R tl qa p f) := by
  unfold vMut
  congr 1
  funext r0 e1
  cases r0 with
  | val d => rfl
  | plc j pa =>
    show (_ ∧ _ ∧ _) = (_ ∧ _ ∧ _)
    congr 2
    congr 1
    funext rs e2
    exact (mut2_eq j pa e2 R f rs).symm
theorem cMut_run : cMut R tl qa p f (.plc j pa) e1 = ((pa ≠ [] → qa = true) ∧ opt (SE.look e1 j pa) p ∧ tl e1 (cMut2 j pa R f)) := rfl
theorem cMut2_run : cMut2 j pa R f rs e2 = mvl rs e2 (cMut3 j pa e2 R f) := rfl
theorem cMut3_run : cMut3 j pa e2 R f ds = opt (SE.look e2 j pa) (cMut4 j pa e2 R f ds) := rfl
theorem cMut4_run : cMut4 j pa e2 R f ds d0 = (d0.isM = true ∧ f d0 ds (cMut5 j pa e2 R)) := rfl
theorem cMut5_run : cMut5 j pa e2 R res d' = R (.val res) (SE.put e2 j pa d') := rfl
theorem isL_run (l : List D) : isL (.lst l) = True := propext ⟨fun _ => True.intro, fun _ => ⟨l, rfl⟩⟩
theorem isS_run (z : Str) : isS (.str z) = True := propext ⟨fun _ => True.intro, fun _ => ⟨z, rfl⟩⟩
/-! slices, places -/
variable (lo hi : Option Int) (tlo thi : TVO)
def cSl4 (d : D) : Prop := fSl d lo hi (cR R e3)
def cSl3 (hi : Option Int) (e3 : SE) : Prop := opt (r.get e3) (cSl4 e3 R lo hi)
def cSl2 (lo : Option Int) (e2 : SE) : Prop := thi e2 (cSl3 R r lo)
def cSl (r : RV) (e1 : SE) : Prop := (r.deep = true → qa = true) ∧ tlo e1 (cSl2 R r thi)
theorem vSl_run : vSl qa te tlo thi e R = te e (cSl R qa tlo thi) := rfl
theorem cSl_run : cSl R qa tlo thi r e1 = ((r.deep = true → qa = true) ∧ tlo e1 (cSl2 R r thi)) := rfl
theorem cSl2_run : cSl2 R r thi lo e2 = thi e2 (cSl3 R r lo) := rfl
theorem cSl3_run : cSl3 R r lo hi e3 = opt (r.get e3) (cSl4 e3 R lo hi) := rfl
theorem cSl4_run : cSl4 e3 R lo hi d = fSl d lo hi (cR R e3) := rfl
variable (RO : Option Int → SE → Prop)
theorem voNone_run : voNone e RO = RO none e := rfl
def cVo (r : RV) (e1 : SE) : Prop := optI (r.get e1) RO e1
theorem voSome_run : voSome te e RO = te e (cVo RO) := rfl
theorem cVo_run : cVo RO r e1 = optI (r.get e1) RO e1 := rfl
def ixO (o o' : Option D) (Q : Nat → Prop) : Prop := ∃ ds i k, o = some (.int i) ∧ o' = some (.lst ds) ∧ ixN ds.length i = some k ∧ Q k
theorem ixO_run (i : Int) (ds : List D) (Q : Nat → Prop) : ixO (some (.int i)) (some (.lst ds)) Q = opt (ixN ds.length i) Q := propext
  ⟨fun ⟨ds', i', k, h1, h2, h3, h4⟩ => by cases h1; cases h2; exact ⟨k, h3, h4⟩, fun ⟨k, h3, h4⟩ => ⟨ds, i, k, rfl, rfl, h3, h4⟩⟩
def cIxP3 (k : Nat) : Prop := R (.plc j (pa ++ [k])) e2
def cIxP2 (ri : RV) (e2 : SE) : Prop := r.at fun j pa => ixO (ri.get e2) (SE.look e2 j pa) (cIxP3 j pa e2 R)
def cIxP (r : RV) (e1 : SE) : Prop := ti e1 (cIxP2 R r)
theorem vIxP_run : vIxP to ti e R = to e (cIxP R ti) := rfl
theorem cIxP_run : cIxP R ti r e1 = ti e1 (cIxP2 R r) := rfl
theorem cIxP2_run (ri : RV) : cIxP2 R (.plc j pa) ri e2 = ixO (ri.get e2) (SE.look e2 j pa) (cIxP3 j pa e2 R) := rfl
theorem cIxP3_run (k : Nat) : cIxP3 j pa e2 R k = R (.plc j (pa ++ [k])) e2 := rfl
def cLstRg2 (o : Option Int) (e1 : SE) : Prop := ∃ n, o = some n ∧ 0 ≤ n ∧ n ≤ 16777216 ∧ R (.val (.lst (rangeD 0 n.toNat))) e1
def cLstRg (r : RV) (e1 : SE) : Prop := optI (r.get e1) (cLstRg2 R) e1
theorem vLstRg_run : vLstRg te e R = te e (cLstRg R) := by
  unfold vLstRg
  congr 1
  funext r e1
  exact propext ⟨fun ⟨n, h1, h2⟩ => ⟨n, h1, n, rfl, h2⟩, fun ⟨n, h1, m, h2, h3⟩ => ⟨n, h1, by cases h2; exact h3⟩⟩
theorem cLstRg_run : cLstRg R r e1 = optI (r.get e1) (cLstRg2 R) e1 := rfl
theorem cLstRg2_run (n : Int) : cLstRg2 R (some n) e1 = (0 ≤ n ∧ n ≤ 16777216 ∧ R (.val (.lst (rangeD 0 n.toNat))) e1) := propext ⟨fun ⟨m, h, h2⟩ => by cases h; exact h2, fun h => ⟨n, rfl, h⟩⟩
end
end L2.VL
set_option Elab.async false
set_option linter.all false
set_option maxRecDepth 100000
namespace L2.VL
open PySem PySem.Spec PyProof.Rows
section
variable (i j n : Nat) (d d0 : D) (e e1 e2 e3 : SE) (R : RV → SE → Prop) (ta tb tc te to ti : TV) (tl : TVA) (ut : TVT) (f : F2) (qb qc : Bool) (r r0 r1 r2 ri : RV) (rs : List RV) (E : VD) (t u : TVS) (b c : Bool) (tg : TVG) (tgs : TVGs) (P : SE → Prop) (ds : List D) (C : Addr) (fd : Str)
theorem vNext_run : vNext E e = E.nx e := rfl
theorem vBreak_run : vBreak E e = E.bk e := rfl
theorem vCont_run : vCont E e = E.ct e := rfl
theorem vSeq_run : vSeq t u E e = t ⟨u E, E.rt, E.bk, E.ct⟩ e := rfl
def cDrop (r : RV) (e1 : SE) : Prop := E.nx e1
theorem vDrop_run : vDrop te E e = te e (cDrop E) := rfl
theorem cDrop_run : cDrop E r e1 = E.nx e1 := rfl
def cRet2 (d : D) : Prop := E.rt d e1
def cRet (r : RV) (e1 : SE) : Prop := mv r e1 (cRet2 e1 E)
theorem vRet_run : vRet te E e = te e (cRet E) := rfl
theorem cRet_run : cRet E r e1 = mv r e1 (cRet2 e1 E) := rfl
theorem cRet2_run : cRet2 e1 E d = E.rt d e1 := rfl
theorem vRetN_run : vRetN E e = E.rt .non e := rfl
def cIf (b : Bool) (e1 : SE) : Prop := if b = true then t E e1 else u E e1
theorem vIf_run : vIf ut t u E e = ut e (cIf E t u) := rfl
theorem cIf_t : cIf E t u true e1 = t E e1 := if_pos rfl
theorem cIf_f : cIf E t u false e1 = u E e1 := if_neg Bool.false_ne_true
theorem cIf_i {E : VD} {t u : TVS} {b : Bool} {e1 : SE} (h1 : b = true → t E e1) (h2 : b = false → u E e1) : cIf E t u b e1 := by
  cases b with
  | true => exact h1 rfl
  | false => exact h2 rfl
theorem cIf_d {E : VD} {t u : TVS} {p : Prop} [Decidable p] {e1 : SE} (h1 : p → t E e1) (h2 : ¬ p → u E e1) : cIf E t u (decide p) e1 :=
  cIf_i (fun h => h1 (of_decide_eq_true h)) fun h => h2 (of_decide_eq_false h)
theorem vgN_run : vgN i d e P = P (e.set i (some d)) := rfl
theorem vgNil_run : vgNil [] e P = P e := propext ⟨fun h => h.2, fun h => ⟨rfl, h⟩⟩
def cG (ds : List D) (e1 : SE) : Prop := tgs ds e1 P
theorem vgCons_run : vgCons tg tgs (d :: ds) e P = tg d e (cG tgs P ds) := propext ⟨fun ⟨x, y, h, k⟩ => by cases h; exact k, fun h => ⟨d, ds, rfl, h⟩⟩
theorem cG_run : cG tgs P ds e1 = tgs ds e1 P := rfl
theorem vgTup_run : vgTup n tgs (.tup ds) e P = (ds.length = n ∧ tgs ds e P) := propext ⟨fun ⟨x, h, k⟩ => by cases h; exact k, fun h => ⟨ds, rfl, h⟩⟩
def cAsg2 (d : D) : Prop := tg d e1 E.nx
def cAsg (r : RV) (e1 : SE) : Prop := mv r e1 (cAsg2 e1 E tg)
theorem vAsg_run : vAsg te tg E e = te e (cAsg E tg) := rfl
theorem cAsg_run : cAsg E tg r e1 = mv r e1 (cAsg2 e1 E tg) := rfl
theorem cAsg2_run : cAsg2 e1 E tg d = tg d e1 E.nx := rfl
def cPar2 (ds : List D) : Prop := ∃ d1 d2, ds = [d1, d2] ∧ E.nx ((e1.set i (some d1)).set j (some d2))
def cPar (rs : List RV) (e1 : SE) : Prop := mvl rs e1 (cPar2 i j e1 E)
theorem vPar_run : vPar i j tl E e = tl e (cPar i j E) := by
  unfold vPar
  congr 1
  funext rs e1
  exact propext ⟨fun ⟨d1, d2, h1, h2⟩ => ⟨_, h1, d1, d2, rfl, h2⟩, fun ⟨ds, h1, d1, d2, h2, h3⟩ => ⟨d1, d2, by subst h2; exact h1, h3⟩⟩
theorem cPar_run : cPar i j E rs e1 = mvl rs e1 (cPar2 i j e1 E) := rfl
theorem cPar2_run (d1 d2 : D) : cPar2 i j e1 E [d1, d2] = E.nx ((e1.set i (some d1)).set j (some d2)) := propext ⟨fun ⟨x, y, h, k⟩ => by cases h; exact k, fun h => ⟨d1, d2, rfl, h⟩⟩
def cAug3 (d : D) : Prop := E.nx (e1.set i (some d))
def cAug2 (d0 : D) (r : RV) (e1 : SE) : Prop := app1 (r.get e1) (f d0) (cAug3 i e1 E)
def cAug (d0 : D) : Prop := d0.im = true ∧ te e (cAug2 i f E d0)
theorem vAug_run : vAug i te f E e = optS e[i]? (cAug i e te f E) := rfl
theorem cAug_run : cAug i e te f E d0 = (d0.im = true ∧ te e (cAug2 i f E d0)) := rfl
theorem cAug2_run : cAug2 i f E d0 r e1 = app1 (r.get e1) (f d0) (cAug3 i e1 E) := rfl
theorem cAug3_run : cAug3 i e1 E d = E.nx (e1.set i (some d)) := rfl
/-! loops -/
variable (as vs : List Nat) (ti' : TVI) (stays : SE → Prop) (T : List D → List Nat → (SE → Prop) → SE → Prop) (wt : TVT)
def forL (ds : List D) (stays : SE → Prop) (g : TVG) (t : TVS) (E : VD) (e1 : SE) : Prop := ∃ W : Nat → SE → Prop, W 0 e1 ∧ (∀ i e, W i e → stays e) ∧
  (∀ i d e, ds[i]? = some d → W i e → g d e fun e' => t { E with nx := W (i + 1), ct := W (i + 1), bk := E.nx } e') ∧ ∀ e, W ds.length e → E.nx e
def cFor (ds : List D) (deps : List Nat) (stays : SE → Prop) (e1 : SE) : Prop := (deps.all fun j => !as.contains j) = true ∧ forL ds stays tg t E e1
theorem vFor_run : vFor as ti' tg t E e = ti' e (cFor E t tg as) := rfl
theorem cFor_run (deps : List Nat) : cFor E t tg as ds deps stays e1 = ((deps.all fun j => !as.contains j) = true ∧ forL ds stays tg t E e1) := rfl
def lcL (vs : List Nat) (ds : List D) (stays : SE → Prop) (g : TVG) (tt : TVT) (te : TV) (e1 : SE) (R : RV → SE → Prop) : Prop := ∃ W : Nat → List D → SE → Prop, W 0 [] (wipeE e1 vs) ∧ (∀ i acc e, W i acc e → stays e) ∧
  (∀ i d acc e, ds[i]? = some d → W i acc e → g d e fun e' => tt e' fun b e2 => if b = true then te e2 fun r e3 => ∃ y, Mv r e3 y ∧ acc.length < 16777216 ∧ W (i + 1) (acc ++ [y]) (wipeE e3 vs) else W (i + 1) acc (wipeE e2 vs)) ∧
  ∀ acc e, W ds.length acc e → R (.val (.lst acc)) e
def cLc (ds : List D) (deps : List Nat) (stays : SE → Prop) (e1 : SE) : Prop := (deps.all fun j => !vs.contains j) = true ∧ lcL vs ds stays tg wt te e1 R
theorem vLc_run : vLc vs ti' tg wt te e R = ti' e (cLc R te tg vs wt) := rfl
theorem cLc_run (deps : List Nat) : cLc R te tg vs wt ds deps stays e1 = ((deps.all fun j => !vs.contains j) = true ∧ lcL vs ds stays tg wt te e1 R) := rfl
theorem vYes_run (RB : Bool → SE → Prop) : vYes e RB = RB true e := rfl
def staysAt (e : SE) : Prop := e[j]? = some (some (.lst ds))
def staysT (_e : SE) : Prop := True
def optLst (o : Option (Option D)) (Q : List D → Prop) : Prop := ∃ ds, o = some (some (.lst ds)) ∧ Q ds
theorem optLst_run (Q : List D → Prop) : optLst (some (some (.lst ds))) Q = Q ds := propext ⟨fun ⟨x, h, p⟩ => by cases h; exact p, fun p => ⟨ds, rfl, p⟩⟩
def cSlot2 (ds : List D) : Prop := D.ims ds = true ∧ T ds [j] (staysAt j ds) e1
def cSlot (r : RV) (e1 : SE) : Prop := r.at fun j p => p = [] ∧ optLst e1[j]? (cSlot2 j e1 T)
theorem viSlot_run : viSlot te e T = te e (cSlot T) := rfl
theorem cSlot_run (p : List Nat) : cSlot T (.plc j p) e1 = (p = [] ∧ optLst e1[j]? (cSlot2 j e1 T)) := rfl
theorem cSlot2_run : cSlot2 j e1 T ds = (D.ims ds = true ∧ T ds [j] (staysAt j ds) e1) := rfl
def cVal (r : RV) (e1 : SE) : Prop := ∃ ds, r = .val (.lst ds) ∧ D.ims ds = true ∧ T ds [] staysT e1
theorem viVal_run : viVal te e T = te e (cVal T) := rfl
theorem cVal_run : cVal T (.val (.lst ds)) e1 = (D.ims ds = true ∧ T ds [] staysT e1) := propext ⟨fun ⟨x, h, p⟩ => by cases h; exact p, fun p => ⟨ds, rfl, p⟩⟩
def optTup (o : Option D) (Q : List D → Prop) : Prop := ∃ ds, o = some (.tup ds) ∧ Q ds
theorem optTup_run (Q : List D → Prop) : optTup (some (.tup ds)) Q = Q ds := propext ⟨fun ⟨x, h, p⟩ => by cases h; exact p, fun p => ⟨ds, rfl, p⟩⟩
def cTupI2 (ds : List D) : Prop := D.ims ds = true ∧ T ds [] staysT e1
def cTupI (r : RV) (e1 : SE) : Prop := optTup (r.get e1) (cTupI2 e1 T)
theorem viTup_run : viTup te e T = te e (cTupI T) := rfl
theorem cTupI_run : cTupI T r e1 = optTup (r.get e1) (cTupI2 e1 T) := rfl
theorem cTupI2_run : cTupI2 e1 T ds = (D.ims ds = true ∧ T ds [] staysT e1) := rfl
def cR1b (ds : List D) : Prop := ∃ n : Int, ds = [.int n] ∧ n < 4611686018427387904 ∧ -4611686018427387904 ≤ n ∧ T (rangeD 0 n.toNat) [] staysT e1
def cR1 (rs : List RV) (e1 : SE) : Prop := getl rs e1 (cR1b e1 T)
theorem viR1_run : viR1 tl e T = tl e (cR1 T) := by
  unfold viR1
  congr 1
  funext rs e1
  exact propext ⟨fun ⟨n, h1, h2⟩ => ⟨_, h1, n, rfl, h2⟩, fun ⟨ds, h1, n, h2, h3⟩ => ⟨n, by subst h2; exact h1, h3⟩⟩
theorem cR1_run : cR1 T rs e1 = getl rs e1 (cR1b e1 T) := rfl
theorem cR1b_run (n : Int) : cR1b e1 T [.int n] = (n < 4611686018427387904 ∧ -4611686018427387904 ≤ n ∧ T (rangeD 0 n.toNat) [] staysT e1) := propext ⟨fun ⟨x, h, p⟩ => by cases h; exact p, fun p => ⟨n, rfl, p⟩⟩
def cR2b (ds : List D) : Prop := ∃ a b : Int, ds = [.int a, .int b] ∧ (a < 4611686018427387904 ∧ -4611686018427387904 ≤ a ∧ b < 4611686018427387904 ∧ -4611686018427387904 ≤ b) ∧ T (rangeD a (b - a).toNat) [] staysT e1
def cR2 (rs : List RV) (e1 : SE) : Prop := getl rs e1 (cR2b e1 T)
theorem viR2_run : viR2 tl e T = tl e (cR2 T) := by
  unfold viR2
  congr 1
  funext rs e1
  exact propext ⟨fun ⟨a, b, h1, h2⟩ => ⟨_, h1, a, b, rfl, h2⟩, fun ⟨ds, h1, a, b, h2, h3⟩ => ⟨a, b, by subst h2; exact h1, h3⟩⟩
theorem cR2_run : cR2 T rs e1 = getl rs e1 (cR2b e1 T) := rfl
theorem cR2b_run (a b : Int) : cR2b e1 T [.int a, .int b] = ((a < 4611686018427387904 ∧ -4611686018427387904 ≤ a ∧ b < 4611686018427387904 ∧ -4611686018427387904 ≤ b) ∧ T (rangeD a (b - a).toNat) [] staysT e1) := propext ⟨fun ⟨x, y, h, p⟩ => by cases h; exact p, fun p => ⟨a, b, rfl, p⟩⟩
def cRDb (ds : List D) : Prop := ∃ a b : Int, ds = [.int a, .int b, .int (-1)] ∧ (a < 4611686018427387904 ∧ -4611686018427387904 ≤ a ∧ b < 4611686018427387904 ∧ -4611686018427387904 ≤ b) ∧ T (rangeC a (-1) (a - b).toNat) [] staysT e1
def cRD (rs : List RV) (e1 : SE) : Prop := getl rs e1 (cRDb e1 T)
theorem viRD_run : viRD tl e T = tl e (cRD T) := by
  unfold viRD
  congr 1
  funext rs e1
  exact propext ⟨fun ⟨a, b, h1, h2⟩ => ⟨_, h1, a, b, rfl, h2⟩, fun ⟨ds, h1, a, b, h2, h3⟩ => ⟨a, b, by subst h2; exact h1, h3⟩⟩
theorem cRD_run : cRD T rs e1 = getl rs e1 (cRDb e1 T) := rfl
theorem cRDb_run (a b : Int) : cRDb e1 T [.int a, .int b, .int (-1)] = ((a < 4611686018427387904 ∧ -4611686018427387904 ≤ a ∧ b < 4611686018427387904 ∧ -4611686018427387904 ≤ b) ∧ T (rangeC a (-1) (a - b).toNat) [] staysT e1) := propext ⟨fun ⟨x, y, h, p⟩ => by cases h; exact p, fun p => ⟨a, b, rfl, p⟩⟩
def optStr (o : Option D) (Q : Str → Prop) : Prop := ∃ z, o = some (.str z) ∧ Q z
theorem optStr_run (z : Str) (Q : Str → Prop) : optStr (some (.str z)) Q = Q z := propext ⟨fun ⟨x, h, p⟩ => by cases h; exact p, fun p => ⟨z, rfl, p⟩⟩
def cStrI2 (z : Str) : Prop := T (signsD z) [] staysT e1
def cStrI (r : RV) (e1 : SE) : Prop := optStr (r.get e1) (cStrI2 e1 T)
theorem viStr_run : viStr te e T = te e (cStrI T) := rfl
theorem cStrI_run : cStrI T r e1 = optStr (r.get e1) (cStrI2 e1 T) := rfl
theorem cStrI2_run (z : Str) : cStrI2 e1 T z = T (signsD z) [] staysT e1 := rfl
/-! stores -/
variable (p : List Nat)
def setO (o o' : Option D) (Q : List D → Nat → Prop) : Prop := ∃ ds i k, o = some (.int i) ∧ o' = some (.lst ds) ∧ ixN ds.length i = some k ∧ Q ds k
theorem setO_run (i : Int) (Q : List D → Nat → Prop) : setO (some (.int i)) (some (.lst ds)) Q = opt (ixN ds.length i) (Q ds) := propext
  ⟨fun ⟨ds', i', k, h1, h2, h3, h4⟩ => by cases h1; cases h2; exact ⟨k, h3, h4⟩, fun ⟨k, h3, h4⟩ => ⟨ds, i, k, rfl, rfl, h3, h4⟩⟩
def cSetI5 (d : D) (ds : List D) (k : Nat) : Prop := E.nx (SE.put e3 j p (.lst (ds.set k d)))
def cSetI4 (ri : RV) (d : D) : Prop := setO (ri.get e3) (SE.look e3 j p) (cSetI5 j e3 E p d)
def cSetI3 (ro ri : RV) (e3 : SE) : Prop := ro.at fun j p => mv r e3 (cSetI4 j e3 E p ri)
def cSetI2 (ro : RV) (e2 : SE) : Prop := ti e2 (cSetI3 r E ro)
def cSetI (r : RV) (e1 : SE) : Prop := r.deep = false ∧ to e1 (cSetI2 ti r E)
theorem setI3_eq (ro : RV) : cSetI3 r E ro ri e3 = (ro.at fun j p => ∃ d ds i k, Mv r e3 d ∧ ri.get e3 = some (.int i) ∧ SE.look e3 j p = some (.lst ds) ∧ ixN ds.length i = some k ∧ E.nx (SE.put e3 j p (.lst (ds.set k d)))) := by
  cases ro with
  | val d => rfl
  | plc j p => exact propext ⟨fun ⟨d, h0, ds, i, k, h1, h2, h3, h4⟩ => ⟨d, ds, i, k, h0, h1, h2, h3, h4⟩, fun ⟨d, ds, i, k, h0, h1, h2, h3, h4⟩ => ⟨d, h0, ds, i, k, h1, h2, h3, h4⟩⟩
theorem vSetI_run : vSetI te to ti E e = te e (cSetI to ti E) := by
  unfold vSetI
  congr 1
  funext r e1
  show (_ ∧ _) = (_ ∧ _)
  congr 2
  funext ro e2
  show ti e2 _ = ti e2 _
  congr 1
  funext ri e3
  exact (setI3_eq e3 r ri E ro).symm
theorem cSetI_run : cSetI to ti E r e1 = (r.deep = false ∧ to e1 (cSetI2 ti r E)) := rfl
theorem cSetI2_run (ro : RV) : cSetI2 ti r E ro e2 = ti e2 (cSetI3 r E ro) := rfl
theorem cSetI3_run : cSetI3 r E (.plc j p) ri e3 = mv r e3 (cSetI4 j e3 E p ri) := rfl
theorem cSetI4_run : cSetI4 j e3 E p ri d = setO (ri.get e3) (SE.look e3 j p) (cSetI5 j e3 E p d) := rfl
theorem cSetI5_run (k : Nat) : cSetI5 j e3 E p d ds k = E.nx (SE.put e3 j p (.lst (ds.set k d))) := rfl
/-! fields -/
def fldO (C : Addr) (f : Str) (o : Option D) (Q : Nat → Prop) : Prop := ∃ fs ks i, o = some (.obj C fs ks) ∧ fIx f fs = some i ∧ i < ks.length ∧ Q i
def cF2 (ks : List D) (Q : Nat → Prop) (i : Nat) : Prop := i < ks.length ∧ Q i
theorem fldO_run (fs : List Str) (ks : List D) (Q : Nat → Prop) : fldO C fd (some (.obj C fs ks)) Q = opt (fIx fd fs) (cF2 ks Q) := propext
  ⟨fun ⟨fs', ks', i, h1, h2, h3⟩ => by cases h1; exact ⟨i, h2, h3⟩, fun ⟨i, h2, h3⟩ => ⟨fs, ks, i, rfl, h2, h3⟩⟩
theorem cF2_run (ks : List D) (Q : Nat → Prop) : cF2 ks Q i = (i < ks.length ∧ Q i) := rfl
def cFld2 (i : Nat) : Prop := R (.plc j (p ++ [i])) e1
def cFld (r : RV) (e1 : SE) : Prop := r.at fun j p => fldO C fd (SE.look e1 j p) (cFld2 j e1 R p)
theorem vFld_run : vFld C fd to e R = to e (cFld R C fd) := by
  unfold vFld
  congr 1
theorem cFld_run : cFld R C fd (.plc j p) e1 = fldO C fd (SE.look e1 j p) (cFld2 j e1 R p) := rfl
theorem cFld2_run : cFld2 j e1 R p i = R (.plc j (p ++ [i])) e1 := rfl
def objO (C : Addr) (o : Option (Option D)) (Q : List Str → List D → Prop) : Prop := ∃ fs ks, o = some (some (.obj C fs ks)) ∧ fs.length < 1000 ∧ Q fs ks
theorem objO_run (fs : List Str) (ks : List D) (Q : List Str → List D → Prop) : objO C (some (some (.obj C fs ks))) Q = (fs.length < 1000 ∧ Q fs ks) := propext ⟨fun ⟨a, b, h, k⟩ => by cases h; exact k, fun h => ⟨fs, ks, rfl, h⟩⟩
def cSetF3 (d : D) (fs : List Str) (ks : List D) : Prop := E.nx (e1.set j (some (.obj C (putN fd fs) (putD fd d fs ks))))
def cSetF2 (d : D) : Prop := objO C e1[j]? (cSetF3 j e1 E C fd d)
def cSetF (r : RV) (e1 : SE) : Prop := mv r e1 (cSetF2 j e1 E C fd)
theorem vSetF_run : vSetF C fd j te E e = te e (cSetF j E C fd) := by
  unfold vSetF
  congr 1
  funext r e1
  exact propext ⟨fun ⟨d, fs, ks, h1, h2, h3⟩ => ⟨d, h1, fs, ks, h2, h3⟩, fun ⟨d, h1, fs, ks, h2, h3⟩ => ⟨d, fs, ks, h1, h2, h3⟩⟩
theorem cSetF_run : cSetF j E C fd r e1 = mv r e1 (cSetF2 j e1 E C fd) := rfl
theorem cSetF2_run : cSetF2 j e1 E C fd d = objO C e1[j]? (cSetF3 j e1 E C fd d) := rfl
theorem cSetF3_run (fs : List Str) (ks : List D) : cSetF3 j e1 E C fd d fs ks = E.nx (e1.set j (some (.obj C (putN fd fs) (putD fd d fs ks)))) := rfl
/-! calls -/
variable (io : List Bool) (vf : VF) (ds' e0 : SE) (m : Str)
def args (io : List Bool) (rs : List RV) (e : SE) (Q : List D → SE → Prop) : Prop := ∃ ds e0, ArgsR io rs e ds e0 ∧ Q ds e0
def cArgs2 (d : D) (Q : List D → SE → Prop) (ds : List D) (e0 : SE) : Prop := Q (d :: ds) e0
def cArgs (io : List Bool) (rs : List RV) (e : SE) (Q : List D → SE → Prop) (d : D) : Prop := args io rs e (cArgs2 d Q)
variable (QA : List D → SE → Prop)
theorem args_nil : args [] [] e QA = QA [] e := propext ⟨fun ⟨a, b, ⟨h1, h2⟩, h⟩ => by subst h1 h2; exact h, fun h => ⟨[], e, ⟨rfl, rfl⟩, h⟩⟩
theorem args_f : args (false :: io) (r :: rs) e QA = mv r e (cArgs io rs e QA) := propext
  ⟨fun ⟨a, b, ⟨d, dr, h1, h2, h3⟩, h⟩ => ⟨d, h2, dr, b, h3, by subst h1; exact h⟩, fun ⟨d, h2, dr, b, h3, h⟩ => ⟨d :: dr, b, ⟨d, dr, rfl, h2, h3⟩, h⟩⟩
theorem args_t : args (true :: io) (.plc j [] :: rs) e QA = optS e[j]? (cArgs io rs (e.set j none) QA) := propext
  ⟨fun ⟨a, b, ⟨h0, d, dr, h1, h2, h3⟩, h⟩ => ⟨d, h1, dr, b, h3, by subst h2; exact h⟩, fun ⟨d, h2, dr, b, h3, h⟩ => ⟨d :: dr, b, ⟨rfl, d, dr, h2, rfl, h3⟩, h⟩⟩
theorem cArgs_run : cArgs io rs e QA d = args io rs e (cArgs2 d QA) := rfl
theorem cArgs2_run : cArgs2 d QA ds e0 = QA (d :: ds) e0 := rfl
theorem back_t : Back (true :: io) (.plc j [] :: rs) (some d :: ds') e = Back io rs ds' (e.set j (some d)) := rfl
theorem back_tn : Back (true :: io) (.plc j [] :: rs) (none :: ds') e = Back io rs ds' (e.set j none) := rfl
theorem back_f (x : Option D) : Back (false :: io) (r :: rs) (x :: ds') e = Back io rs ds' e := by cases r <;> rfl
theorem back_nil : Back [] [] [] e = e := rfl
theorem back_nil' (l : SE) : Back [] [] l e = e := by cases l <;> rfl
def cBack (r : D) (ds' : SE) : Prop := R (.val r) (Back io rs ds' e0)
def cCall2 (ds : List D) (e0 : SE) : Prop := ds.length = n ∧ vf ds (cBack R rs io e0)
def cCall (rs : List RV) (e1 : SE) : Prop := args io rs e1 (cCall2 n R rs io vf)
theorem vCall_run : vCall n io vf tl e R = tl e (cCall n R io vf) := rfl
theorem cCall_run : cCall n R io vf rs e1 = args io rs e1 (cCall2 n R rs io vf) := rfl
theorem cCall2_run : cCall2 n R rs io vf ds e0 = (ds.length = n ∧ vf ds (cBack R rs io e0)) := rfl
theorem cBack_run : cBack R rs io e0 d ds' = R (.val d) (Back io rs ds' e0) := rfl
def objM (C : Addr) (m : Str) (o : Option D) : Prop := ∃ fs ks, o = some (.obj C fs ks) ∧ (fs.contains m) = false
theorem objM_run (fs : List Str) (ks : List D) : objM C m (some (.obj C fs ks)) = ((fs.contains m) = false) := propext ⟨fun ⟨a, b, h, k⟩ => by cases h; exact k, fun h => ⟨fs, ks, rfl, h⟩⟩
def cMeth2 (rs : List RV) (e2 : SE) : Prop := args io (r0 :: rs) e2 (cCall2 n R (r0 :: rs) io vf)
def cMeth (r0 : RV) (e1 : SE) : Prop := r0.deep = false ∧ objM C m (r0.get e1) ∧ tl e1 (cMeth2 n R r0 io vf)
theorem vMeth_run : vMeth C m n io vf to tl e R = to e (cMeth n R tl C io vf m) := rfl
theorem cMeth_run : cMeth n R tl C io vf m r0 e1 = (r0.deep = false ∧ objM C m (r0.get e1) ∧ tl e1 (cMeth2 n R r0 io vf)) := rfl
theorem cMeth2_run : cMeth2 n R r0 io vf rs e2 = args io (r0 :: rs) e2 (cCall2 n R (r0 :: rs) io vf) := rfl
def cMake3 (r : D) (ds' : SE) : Prop := r = .non ∧ ∃ d rest, ds' = some d :: rest ∧ R (.val d) (Back io rs rest e0)
def cMake2 (ds : List D) (e0 : SE) : Prop := ds.length + 1 = n ∧ vf (.obj C [] [] :: ds) (cMake3 R rs io e0)
def cMake (rs : List RV) (e1 : SE) : Prop := args io rs e1 (cMake2 n R rs C io vf)
theorem vMake_run : vMake C n io vf tl e R = tl e (cMake n R C io vf) := rfl
theorem cMake_run : cMake n R C io vf rs e1 = args io rs e1 (cMake2 n R rs C io vf) := rfl
theorem cMake2_run : cMake2 n R rs C io vf ds e0 = (ds.length + 1 = n ∧ vf (.obj C [] [] :: ds) (cMake3 R rs io e0)) := rfl
theorem cMake3_run (rest : SE) : cMake3 R rs io e0 .non (some d :: rest) = R (.val d) (Back io rs rest e0) := propext ⟨fun ⟨_, a, b, h, k⟩ => by cases h; exact k, fun h => ⟨rfl, d, rest, rfl, h⟩⟩
/-! chains, += of fields -/
variable (pp pp' : Int → Int → Bool)
def optI1 (o : Option D) (Q : Int → Prop) : Prop := ∃ i, o = some (.int i) ∧ Q i
theorem optI1_run (i : Int) (Q : Int → Prop) : optI1 (some (.int i)) Q = Q i := propext ⟨fun ⟨x, h, p⟩ => by cases h; exact p, fun p => ⟨i, rfl, p⟩⟩
def cCh5 (j : Int) (k : Int) : Prop := R (.val (.bl (pp' j k))) e3
def cCh4 (j : Int) (r3 : RV) (e3 : SE) : Prop := optI1 (r3.get e3) (cCh5 e3 R pp' j)
def cCh3 (j : Int) (b : Bool) : Prop := if b = true then tc e2 (cCh4 R pp' j) else R (.val (.bl false)) e2
def cCh2 (r2 : RV) (e2 : SE) : Prop := ∃ i j, r1.get e2 = some (.int i) ∧ r2.get e2 = some (.int j) ∧ cCh3 e2 R tc pp' j (pp i j)
def cCh (r1 : RV) (e1 : SE) : Prop := (r1.deep = true → qb = true) ∧ tb e1 (cCh2 R tc r1 pp pp')
theorem vChain_run : vChain qb qc pp pp' ta tb tc e R = ta e (cCh R tb tc qb pp pp') := rfl
theorem cCh_run : cCh R tb tc qb pp pp' r1 e1 = ((r1.deep = true → qb = true) ∧ tb e1 (cCh2 R tc r1 pp pp')) := rfl
def chO (o o' : Option D) (Q : Int → Bool → Prop) : Prop := ∃ i j, o = some (.int i) ∧ o' = some (.int j) ∧ Q j (pp i j)
theorem cCh2_run : cCh2 R tc r1 pp pp' r2 e2 = chO pp (r1.get e2) (r2.get e2) (cCh3 e2 R tc pp') := rfl
theorem chO_run (i j : Int) (Q : Int → Bool → Prop) : chO pp (some (.int i)) (some (.int j)) Q = Q j (pp i j) := propext ⟨fun ⟨a, b, h, h', k⟩ => by cases h; cases h'; exact k, fun h => ⟨i, j, rfl, rfl, h⟩⟩
theorem cCh3_t (j : Int) : cCh3 e2 R tc pp' j true = tc e2 (cCh4 R pp' j) := if_pos rfl
theorem cCh3_f (j : Int) : cCh3 e2 R tc pp' j false = R (.val (.bl false)) e2 := if_neg Bool.false_ne_true
theorem cCh4_run (j : Int) (r3 : RV) : cCh4 R pp' j r3 e3 = optI1 (r3.get e3) (cCh5 e3 R pp' j) := rfl
theorem cCh5_run (j k : Int) : cCh5 e3 R pp' j k = R (.val (.bl (pp' j k))) e3 := rfl
def augO (C : Addr) (f : Str) (o : Option (Option D)) (Q : List Str → List D → Int → Prop) : Prop := ∃ fs ks i n, o = some (some (.obj C fs ks)) ∧ fIx f fs = some i ∧ ks[i]? = some (.int n) ∧ fs.length < 1000 ∧ Q fs ks n
def cAugO (fs : List Str) (ks : List D) (Q : List Str → List D → Int → Prop) (i : Nat) : Prop := optI1 ks[i]? (fun n => fs.length < 1000 ∧ Q fs ks n)
def cAugO2 (fs : List Str) (ks : List D) (Q : List Str → List D → Int → Prop) (n : Int) : Prop := fs.length < 1000 ∧ Q fs ks n
theorem augO_run (fs : List Str) (ks : List D) (Q : List Str → List D → Int → Prop) : augO C fd (some (some (.obj C fs ks))) Q = opt (fIx fd fs) (cAugO fs ks Q) := propext
  ⟨fun ⟨a, b, i, n, h, h1, h2, h3, h4⟩ => by cases h; exact ⟨i, h1, n, h2, h3, h4⟩, fun ⟨i, h1, n, h2, h3, h4⟩ => ⟨fs, ks, i, n, rfl, h1, h2, h3, h4⟩⟩
theorem cAugO_run (fs : List Str) (ks : List D) (Q : List Str → List D → Int → Prop) : cAugO fs ks Q i = optI1 ks[i]? (cAugO2 fs ks Q) := rfl
theorem cAugO2_run (fs : List Str) (ks : List D) (Q : List Str → List D → Int → Prop) (n : Int) : cAugO2 fs ks Q n = (fs.length < 1000 ∧ Q fs ks n) := rfl
def cAugF2 (fs : List Str) (ks : List D) (n : Int) (r : RV) (e1 : SE) : Prop := ∃ m, r.get e1 = some (.int m) ∧ e1[j]? = some (some (.obj C fs ks)) ∧ E.nx (e1.set j (some (.obj C (putN fd fs) (putD fd (.int (n + m)) fs ks))))
def cAugF (fs : List Str) (ks : List D) (n : Int) : Prop := te e (cAugF2 j E C fd fs ks n)
theorem vAugF_run : vAugF C fd j te E e = augO C fd e[j]? (cAugF j e te E C fd) := rfl
theorem cAugF_run (fs : List Str) (ks : List D) (n : Int) : cAugF j e te E C fd fs ks n = te e (cAugF2 j E C fd fs ks n) := rfl
def cAugF3 (fs : List Str) (ks : List D) (n m : Int) : Prop := e1[j]? = some (some (.obj C fs ks)) ∧ E.nx (e1.set j (some (.obj C (putN fd fs) (putD fd (.int (n + m)) fs ks))))
theorem cAugF2_run (fs : List Str) (ks : List D) (n : Int) : cAugF2 j E C fd fs ks n r e1 = optI1 (r.get e1) (cAugF3 j e1 E C fd fs ks n) := rfl
theorem cAugF3_run (fs : List Str) (ks : List D) (n m : Int) : cAugF3 j e1 E C fd fs ks n m = (e1[j]? = some (some (.obj C fs ks)) ∧ E.nx (e1.set j (some (.obj C (putN fd fs) (putD fd (.int (n + m)) fs ks))))) := rfl
end
end L2.VL
set_option Elab.async false
set_option linter.all false
set_option maxRecDepth 100000
namespace L2.VL
open PySem PySem.Spec PyProof.Rows
theorem map_get {α β : Type} {f : α → β} {xs : List α} {i : Nat} {d : β} (h : (xs.map f)[i]? = some d) : ∃ x, xs[i]? = some x ∧ d = f x := by
  rw [List.getElem?_map] at h
  cases hx : xs[i]? with
  | none => rw [hx] at h; cases h
  | some x =>
    rw [hx] at h
    exact ⟨x, rfl, (Option.some.inj h).symm⟩
theorem cutL_len {α : Type} (xs : List α) (lo : Option Int) (n : Nat) : (cutL xs none (some (n : Int))).length ≤ n := by
  unfold cutL
  rw [HT.sIx_none, HT.sIx_nat, List.length_take]
  omega
theorem cut63 {α : Type} (xs : List α) : (cutL xs none (some 63)).length ≤ 63 := cutL_len xs none 63
theorem cAnd_i {RB : Bool → SE → Prop} {ut : TVT} {b : Bool} {e1 : SE} (h1 : b = true → ut e1 RB) (h2 : b = false → RB false e1) : cAnd RB ut b e1 := by
  cases b with
  | true => exact h1 rfl
  | false => exact h2 rfl
theorem cAnd_d {RB : Bool → SE → Prop} {ut : TVT} {p : Prop} [Decidable p] {e1 : SE} (h1 : p → ut e1 RB) (h2 : ¬ p → RB false e1) : cAnd RB ut (decide p) e1 :=
  cAnd_i (fun h => h1 (of_decide_eq_true h)) fun h => h2 (of_decide_eq_false h)
theorem cOr_i {RB : Bool → SE → Prop} {ut : TVT} {b : Bool} {e1 : SE} (h1 : b = true → RB true e1) (h2 : b = false → ut e1 RB) : cOr RB ut b e1 := by
  cases b with
  | true => exact h1 rfl
  | false => exact h2 rfl
theorem cOr_d {RB : Bool → SE → Prop} {ut : TVT} {p : Prop} [Decidable p] {e1 : SE} (h1 : p → RB true e1) (h2 : ¬ p → ut e1 RB) : cOr RB ut (decide p) e1 :=
  cOr_i (fun h => h1 (of_decide_eq_true h)) fun h => h2 (of_decide_eq_false h)
theorem cAndV2_i {R : RV → SE → Prop} {tb : TV} {b : Bool} {e1 : SE} (h1 : b = true → tb e1 R) (h2 : b = false → R (.val (.bl false)) e1) : cAndV2 R tb b e1 := by
  cases b with
  | true => exact h1 rfl
  | false => exact h2 rfl
theorem cOrV2_i {R : RV → SE → Prop} {tb : TV} {b : Bool} {e1 : SE} (h1 : b = true → R (.val (.bl true)) e1) (h2 : b = false → tb e1 R) : cOrV2 R tb b e1 := by
  cases b with
  | true => exact h1 rfl
  | false => exact h2 rfl
theorem cIfE_i {R : RV → SE → Prop} {ta tb : TV} {b : Bool} {e1 : SE} (h1 : b = true → ta e1 R) (h2 : b = false → tb e1 R) : cIfE R ta tb b e1 := by
  cases b with
  | true => exact h1 rfl
  | false => exact h2 rfl
theorem cCh3_i {e2 : SE} {R : RV → SE → Prop} {tc : TV} {pp' : Int → Int → Bool} {j : Int} {b : Bool} (h1 : b = true → tc e2 (cCh4 R pp' j)) (h2 : b = false → R (.val (.bl false)) e2) : cCh3 e2 R tc pp' j b := by
  cases b with
  | true => exact h1 rfl
  | false => exact h2 rfl
theorem lt_of_get {α : Type} {xs : List α} {i : Nat} {x : α} (h : xs[i]? = some x) : i < xs.length := (List.getElem?_eq_some_iff.mp h).1
theorem snoc_map {α : Type} (f : α → D) (xs : List α) (x : α) : xs.map f ++ [f x] = (xs ++ [x]).map f := by simp
theorem set_map {α : Type} (f : α → D) (xs : List α) (k : Nat) (x : α) : (xs.map f).set k (f x) = (xs.set k x).map f := by simp
theorem snocI (xs : List Int) (x : Int) : xs.map D.int ++ [D.int x] = (xs ++ [x]).map D.int := by simp
theorem snocS (xs : List Str) (x : Str) : xs.map D.str ++ [D.str x] = (xs ++ [x]).map D.str := by simp
theorem setI (xs : List Int) (k : Nat) (x : Int) : (xs.map D.int).set k (D.int x) = (xs.set k x).map D.int := by simp
theorem dropI (xs : List Int) : (xs.map D.int).dropLast = xs.dropLast.map D.int := by simp
theorem revI (xs : List Int) : (xs.map D.int).reverse = xs.reverse.map D.int := by simp
theorem nilI : ([] : List D) = ([] : List Int).map D.int := rfl
theorem atI_ints {xs : List Int} {i : Int} (h0 : 0 ≤ i) (h : i < xs.length) : ∃ x, atI (xs.map D.int) i = some (.int x) ∧ xs[i.toNat]? = some x := by
  have hk : i.toNat < xs.length := by omega
  refine ⟨xs[i.toNat], ?_, List.getElem?_eq_getElem hk⟩
  rw [atI_int h0 (by simpa using h), List.getElem?_map, List.getElem?_eq_getElem hk]
  rfl
theorem cIf_cut {E : VD} {t u : TVS} {b : Bool} {e : SE} (P : SE → Prop) (hN : ∀ e', P e' → E.nx e') (h : ∀ N : SE → Prop, (∀ e', P e' → N e') → cIf ⟨N, E.rt, E.bk, E.ct⟩ t u b e) : cIf E t u b e := h E.nx hN
theorem seq_cut {E : VD} {t u : TVS} {e : SE} (P : SE → Prop) (hN : ∀ e', P e' → u E e') (h : ∀ N : SE → Prop, (∀ e', P e' → N e') → t ⟨N, E.rt, E.bk, E.ct⟩ e) : vSeq t u E e := h (u E) hN
/-! ### loops, as one proves them -/
theorem forL_i {ds : List D} {stays : SE → Prop} {g : TVG} {t : TVS} {E : VD} {e1 : SE} (W : Nat → SE → Prop) (h0 : W 0 e1) (hst : ∀ i e, W i e → stays e)
    (hs : ∀ i d e, ds[i]? = some d → W i e → g d e (t ⟨W (i + 1), E.rt, E.nx, W (i + 1)⟩)) (hd : ∀ e, W ds.length e → E.nx e) : forL ds stays g t E e1 := ⟨W, h0, hst, hs, hd⟩
theorem forL_r {lo : Int} {n : Nat} {g : TVG} {t : TVS} {E : VD} {e1 : SE} (W : Nat → SE → Prop) (h0 : W 0 e1)
    (hs : ∀ i e, i < n → W i e → g (.int (lo + (i : Nat))) e (t ⟨W (i + 1), E.rt, E.nx, W (i + 1)⟩)) (hd : ∀ e, W n e → E.nx e) : forL (rangeD lo n) staysT g t E e1 :=
  forL_i W h0 (fun _ _ _ => True.intro) (fun i d e hd hw => by
    obtain ⟨hi, rfl⟩ := rangeD_get hd
    exact hs i e hi hw) (by rw [rangeD_len]; exact hd)
theorem forL_r0 {n : Nat} {g : TVG} {t : TVS} {E : VD} {e1 : SE} (W : Nat → SE → Prop) (h0 : W 0 e1)
    (hs : ∀ i e, i < n → W i e → g (.int ((i : Nat) : Int)) e (t ⟨W (i + 1), E.rt, E.nx, W (i + 1)⟩)) (hd : ∀ e, W n e → E.nx e) : forL (rangeD 0 n) staysT g t E e1 :=
  forL_r W h0 (fun i e hi hw => by rw [Int.zero_add]; exact hs i e hi hw) hd
theorem forL_c {lo c : Int} {n : Nat} {g : TVG} {t : TVS} {E : VD} {e1 : SE} (W : Nat → SE → Prop) (h0 : W 0 e1)
    (hs : ∀ i e, i < n → W i e → g (.int (lo + (i : Nat) * c)) e (t ⟨W (i + 1), E.rt, E.nx, W (i + 1)⟩)) (hd : ∀ e, W n e → E.nx e) : forL (rangeC lo c n) staysT g t E e1 :=
  forL_i W h0 (fun _ _ _ => True.intro) (fun i d e hd hw => by
    obtain ⟨hi, rfl⟩ := rangeC_get hd
    exact hs i e hi hw) (by rw [rangeC_len]; exact hd)
/-- over a mapped list -/
theorem forL_m {α : Type} {mk : α → D} {xs : List α} {stays : SE → Prop} {g : TVG} {t : TVS} {E : VD} {e1 : SE} (W : Nat → SE → Prop) (h0 : W 0 e1) (hst : ∀ i e, W i e → stays e)
    (hs : ∀ i x e, xs[i]? = some x → W i e → g (mk x) e (t ⟨W (i + 1), E.rt, E.nx, W (i + 1)⟩)) (hd : ∀ e, W xs.length e → E.nx e) : forL (xs.map mk) stays g t E e1 :=
  forL_i W h0 hst (fun i d e hd hw => by
    rw [List.getElem?_map] at hd
    cases hx : xs[i]? with
    | none => rw [hx] at hd; cases hd
    | some x =>
      rw [hx] at hd
      cases hd
      exact hs i x e hx hw) (by rw [List.length_map]; exact hd)
/-- while -/
def cWh (t : TVS) (E : VD) (W : Nat → SE → Prop) (m : Nat) (b : Bool) (e1 : SE) : Prop := if b = true then t ⟨fun e' => ∃ m', m' < m ∧ W m' e', E.rt, E.nx, fun e' => ∃ m', m' < m ∧ W m' e'⟩ e1 else E.nx e1
def lessW (W : Nat → SE → Prop) (m : Nat) (e' : SE) : Prop := ∃ m', m' < m ∧ W m' e'
theorem whL_i {c : TVT} {t : TVS} {E : VD} {e : SE} (W : Nat → SE → Prop) (m0 : Nat) (h0 : W m0 e) (hs : ∀ m e, W m e → c e (cWh t E W m)) : vWhile c t E e := ⟨W, ⟨m0, h0⟩, hs⟩
theorem cWh_t (t : TVS) (E : VD) (W : Nat → SE → Prop) (m : Nat) (e1 : SE) : cWh t E W m true e1 = t ⟨lessW W m, E.rt, E.nx, lessW W m⟩ e1 := if_pos rfl
theorem cWh_f (t : TVS) (E : VD) (W : Nat → SE → Prop) (m : Nat) (e1 : SE) : cWh t E W m false e1 = E.nx e1 := if_neg Bool.false_ne_true
theorem cWh_d {t : TVS} {E : VD} {W : Nat → SE → Prop} {m : Nat} {e1 : SE} {p : Prop} [Decidable p] (h1 : p → t ⟨lessW W m, E.rt, E.nx, lessW W m⟩ e1) (h2 : ¬ p → E.nx e1) : cWh t E W m (decide p) e1 := by
  by_cases h : p
  · rw [decide_eq_true h, cWh_t]
    exact h1 h
  · rw [decide_eq_false h, cWh_f]
    exact h2 h
/-- comprehensions -/
def cLc4 (vs : List Nat) (W : Nat → List D → SE → Prop) (i : Nat) (acc : List D) (e3 : SE) (y : D) : Prop := acc.length < 16777216 ∧ W (i + 1) (acc ++ [y]) (wipeE e3 vs)
def cLc3 (vs : List Nat) (W : Nat → List D → SE → Prop) (i : Nat) (acc : List D) (r : RV) (e3 : SE) : Prop := mv r e3 (cLc4 vs W i acc e3)
def cLc2 (te : TV) (vs : List Nat) (W : Nat → List D → SE → Prop) (i : Nat) (acc : List D) (b : Bool) (e2 : SE) : Prop := if b = true then te e2 (cLc3 vs W i acc) else W (i + 1) acc (wipeE e2 vs)
def cLc1 (tt : TVT) (te : TV) (vs : List Nat) (W : Nat → List D → SE → Prop) (i : Nat) (acc : List D) (e' : SE) : Prop := tt e' (cLc2 te vs W i acc)
theorem cLc1_run (tt : TVT) (te : TV) (vs : List Nat) (W : Nat → List D → SE → Prop) (i : Nat) (acc : List D) (e' : SE) : cLc1 tt te vs W i acc e' = tt e' (cLc2 te vs W i acc) := rfl
theorem cLc2_t (te : TV) (vs : List Nat) (W : Nat → List D → SE → Prop) (i : Nat) (acc : List D) (e2 : SE) : cLc2 te vs W i acc true e2 = te e2 (cLc3 vs W i acc) := if_pos rfl
theorem cLc2_f (te : TV) (vs : List Nat) (W : Nat → List D → SE → Prop) (i : Nat) (acc : List D) (e2 : SE) : cLc2 te vs W i acc false e2 = W (i + 1) acc (wipeE e2 vs) := if_neg Bool.false_ne_true
theorem cLc2_d {te : TV} {vs : List Nat} {W : Nat → List D → SE → Prop} {i : Nat} {acc : List D} {e2 : SE} {p : Prop} [Decidable p] (h1 : p → te e2 (cLc3 vs W i acc)) (h2 : ¬ p → W (i + 1) acc (wipeE e2 vs)) : cLc2 te vs W i acc (decide p) e2 := by
  by_cases h : p
  · rw [decide_eq_true h, cLc2_t]
    exact h1 h
  · rw [decide_eq_false h, cLc2_f]
    exact h2 h
theorem cLc3_run (vs : List Nat) (W : Nat → List D → SE → Prop) (i : Nat) (acc : List D) (r : RV) (e3 : SE) : cLc3 vs W i acc r e3 = mv r e3 (cLc4 vs W i acc e3) := rfl
theorem cLc4_run (vs : List Nat) (W : Nat → List D → SE → Prop) (i : Nat) (acc : List D) (e3 : SE) (y : D) : cLc4 vs W i acc e3 y = (acc.length < 16777216 ∧ W (i + 1) (acc ++ [y]) (wipeE e3 vs)) := rfl
theorem lcL_i {vs : List Nat} {ds : List D} {stays : SE → Prop} {g : TVG} {tt : TVT} {te : TV} {e1 : SE} {R : RV → SE → Prop} (W : Nat → List D → SE → Prop) (h0 : W 0 [] (wipeE e1 vs)) (hst : ∀ i acc e, W i acc e → stays e)
    (hs : ∀ i d acc e, ds[i]? = some d → W i acc e → g d e (cLc1 tt te vs W i acc)) (hd : ∀ acc e, W ds.length acc e → R (.val (.lst acc)) e) : lcL vs ds stays g tt te e1 R := ⟨W, h0, hst, hs, hd⟩
/-- a comprehension without an if that leaves the slots as they are: f item by item -/
theorem lcL_map {α : Type} {mk : α → D} {xs : List α} {f : α → D} {vs : List Nat} {stays : SE → Prop} {g : TVG} {te : TV} {e1 : SE} {R : RV → SE → Prop} (hl : xs.length < 16777216) (hst : stays (wipeE e1 vs))
    (hs : ∀ (x : α) (N : D → Prop), x ∈ xs → N (f x) → g (mk x) (wipeE e1 vs) fun e' => te e' fun r e3 => mv r e3 fun y => N y ∧ wipeE e3 vs = wipeE e1 vs) (hd : R (.val (.lst (xs.map f))) (wipeE e1 vs))
    (mono : ∀ d e P P', (∀ e', P e' → P' e') → g d e P → g d e P') (monoE : ∀ e P P', (∀ r e', P r e' → P' r e') → te e P → te e P') : lcL vs (xs.map mk) stays g vYes te e1 R := by
  refine lcL_i (fun i acc e => acc = (xs.take i).map f ∧ i ≤ xs.length ∧ e = wipeE e1 vs) ⟨by simp, Nat.zero_le _, rfl⟩ (fun i acc e ⟨_, _, h⟩ => by rw [h]; exact hst) (fun i d acc e hd ⟨ha, hi, he⟩ => ?_) fun acc e ⟨ha, _, he⟩ => ?_
  · rw [List.getElem?_map] at hd
    cases hx : xs[i]? with
    | none => rw [hx] at hd; cases hd
    | some x =>
      rw [hx] at hd
      cases hd
      subst he
      have hlt : i < xs.length := (List.getElem?_eq_some_iff.mp hx).1
      have q := hs x (fun y => y = f x) (List.mem_of_getElem? hx) rfl
      refine mono _ _ _ _ (fun e' h => ?_) q
      show vYes e' (cLc2 te vs _ i acc)
      rw [vYes_run, cLc2_t]
      refine monoE _ _ _ (fun r e3 h => ?_) h
      obtain ⟨y, h1, h2, h3⟩ := h
      refine ⟨y, h1, ?_, ?_, hlt, h3⟩
      · rw [ha, List.length_map, List.length_take]
        omega
      · rw [ha, h2, List.take_add_one, hx, List.map_append]
        rfl
  · rw [List.length_map, List.take_length] at ha
    rw [ha, he]
    exact hd
end L2.VL
set_option Elab.async false
set_option linter.all false
set_option maxRecDepth 100000
namespace L2.VL
open PySem PySem.Spec PyProof.Rows
section
variable (R : D → Prop) (RM : D → D → Prop) (ds : List D) (d : D) (i : Int) (z : Str)
def cMap {α β : Type} (f : α → β) (P : β → Prop) (x : α) : Prop := P (f x)
theorem cMap_run {α β : Type} (f : α → β) (P : β → Prop) (x : α) : cMap f P x = P (f x) := rfl
theorem opt_map {α β : Type} (f : α → β) (o : Option α) (P : β → Prop) : opt (o.map f) P = opt o (cMap f P) := by
  cases o with
  | none => exact propext ⟨(fun ⟨_, h, _⟩ => nomatch h), (fun ⟨_, h, _⟩ => nomatch h)⟩
  | some a => rw [Option.map_some, opt_some, opt_some, cMap_run]
theorem atI_map {α β : Type} (f : α → β) (xs : List α) (i : Int) : atI (xs.map f) i = (atI xs i).map f := by
  unfold atI
  rw [List.length_map]
  cases ixN xs.length i with
  | none => rfl
  | some k => exact List.getElem?_map
theorem fIdx_l : fIdx (.lst ds) (.int i) R = opt (atI ds i) (cIm R) := rfl
theorem fIdx_t : fIdx (.tup ds) (.int i) R = opt (atI ds i) (cIm R) := rfl
def cSgn (c : Nat) : Prop := R (.str ⟨#[c]⟩)
theorem cSgn_run (c : Nat) : cSgn R c = R (.str ⟨#[c]⟩) := rfl
theorem fIdx_s : fIdx (.str z) (.int i) R = (z.length ≤ 16777216 ∧ opt (atI z.cps.toList i) (cSgn R)) := rfl
def cPop (d : D) : Prop := RM d (.lst ds.dropLast)
theorem fPop_run : fPop (.lst ds) [] RM = opt ds[ds.length - 1]? (cPop RM ds) := rfl
theorem cPop_run : cPop RM ds d = RM d (.lst ds.dropLast) := rfl
def cPopAt2 (k : Nat) (d : D) : Prop := RM d (.lst (ds.eraseIdx k))
def cPopAt (k : Nat) : Prop := opt ds[k]? (cPopAt2 RM ds k)
theorem fPopAt_run : fPopAt (.lst ds) [.int i] RM = (-9223372036854775808 ≤ i ∧ i < 9223372036854775808 ∧ opt (seqIndex? i ds.length) (cPopAt RM ds)) :=
  propext ⟨fun ⟨h1, h2, k, d, h3, h4, h5⟩ => ⟨h1, h2, k, h3, d, h4, h5⟩, fun ⟨h1, h2, k, h3, d, h4, h5⟩ => ⟨h1, h2, k, d, h3, h4, h5⟩⟩
theorem cPopAt_run (k : Nat) : cPopAt RM ds k = opt ds[k]? (cPopAt2 RM ds k) := rfl
theorem cPopAt2_run (k : Nat) : cPopAt2 RM ds k d = RM d (.lst (ds.eraseIdx k)) := rfl
theorem eraseI (xs : List Int) (k : Nat) : (xs.map D.int).eraseIdx k = (xs.eraseIdx k).map D.int := by
  induction xs generalizing k with
  | nil => rfl
  | cons a r ih =>
    cases k with
    | zero => rfl
    | succ k => simp [ih]
def cIntS (n : Int) : Prop := z.length ≤ 640 ∧ R (.int n)
theorem fInt_s : fInt [.str z] R = opt (PySem.intText? z) (cIntS R z) := rfl
theorem cIntS_run (n : Int) : cIntS R z n = (z.length ≤ 640 ∧ R (.int n)) := rfl
def cIsi2 (b : Bool) : Prop := R (.bl b)
theorem cIsi2_run (b : Bool) : cIsi2 R b = R (.bl b) := rfl
def cIsi (n : String) (t : String) : Prop := opt (kitB t n) (cIsi2 R)
theorem fIsi_run (n : String) : fIsi [d, .ty n] R = opt d.tyIs (cIsi R n) := propext ⟨fun ⟨t, b, h1, h2, h3⟩ => ⟨t, h1, b, h2, h3⟩, fun ⟨t, h1, b, h2, h3⟩ => ⟨t, b, h1, h2, h3⟩⟩
theorem cIsi_run (n t : String) : cIsi R n t = opt (kitB t n) (cIsi2 R) := rfl
def cIsiT2 (t : String) (ns : List String) : Prop := opt (kitN t ns) (cIsi2 R)
def cIsiT (cs : List D) (t : String) : Prop := opt (tyNames cs) (cIsiT2 R t)
theorem fIsiT_run (cs : List D) : fIsiT [d, .tup cs] R = opt d.tyIs (cIsiT R cs) := propext ⟨fun ⟨t, ns, b, h1, h2, h3, h4⟩ => ⟨t, h1, ns, h2, b, h3, h4⟩, fun ⟨t, h1, ns, h2, b, h3, h4⟩ => ⟨t, ns, b, h1, h2, h3, h4⟩⟩
theorem cIsiT_run (cs : List D) (t : String) : cIsiT R cs t = opt (tyNames cs) (cIsiT2 R t) := rfl
theorem cIsiT2_run (t : String) (ns : List String) : cIsiT2 R t ns = opt (kitN t ns) (cIsi2 R) := rfl
def cJoin (a : Str) (zs : List Str) : Prop := (zs.map (·.length)).sum + zs.length * a.length ≤ 16777216 ∧ R (.str (Txt.join a zs))
theorem fJoin_run (a : Str) : fJoin (.str a) [.lst ds] R = opt (D.strs ds) (cJoin R a) := rfl
theorem cJoin_run (a : Str) (zs : List Str) : cJoin R a zs = ((zs.map (·.length)).sum + zs.length * a.length ≤ 16777216 ∧ R (.str (Txt.join a zs))) := rfl
end
theorem kb_NoneType_tuple : kitB "NoneType" "tuple" = some false := by decide +kernel
theorem kb_NoneType_list : kitB "NoneType" "list" = some false := by decide +kernel
theorem kb_NoneType_bool : kitB "NoneType" "bool" = some false := by decide +kernel
theorem kb_NoneType_int : kitB "NoneType" "int" = some false := by decide +kernel
theorem kb_NoneType_str : kitB "NoneType" "str" = some false := by decide +kernel
theorem kb_NoneType_dict : kitB "NoneType" "dict" = some false := by decide +kernel
theorem kb_bool_tuple : kitB "bool" "tuple" = some false := by decide +kernel
theorem kb_bool_list : kitB "bool" "list" = some false := by decide +kernel
theorem kb_bool_bool : kitB "bool" "bool" = some true := by decide +kernel
theorem kb_bool_int : kitB "bool" "int" = some true := by decide +kernel
theorem kb_bool_str : kitB "bool" "str" = some false := by decide +kernel
theorem kb_bool_dict : kitB "bool" "dict" = some false := by decide +kernel
theorem kb_int_tuple : kitB "int" "tuple" = some false := by decide +kernel
theorem kb_int_list : kitB "int" "list" = some false := by decide +kernel
theorem kb_int_bool : kitB "int" "bool" = some false := by decide +kernel
theorem kb_int_int : kitB "int" "int" = some true := by decide +kernel
theorem kb_int_str : kitB "int" "str" = some false := by decide +kernel
theorem kb_int_dict : kitB "int" "dict" = some false := by decide +kernel
theorem kb_str_tuple : kitB "str" "tuple" = some false := by decide +kernel
theorem kb_str_list : kitB "str" "list" = some false := by decide +kernel
theorem kb_str_bool : kitB "str" "bool" = some false := by decide +kernel
theorem kb_str_int : kitB "str" "int" = some false := by decide +kernel
theorem kb_str_str : kitB "str" "str" = some true := by decide +kernel
theorem kb_str_dict : kitB "str" "dict" = some false := by decide +kernel
theorem kb_list_tuple : kitB "list" "tuple" = some false := by decide +kernel
theorem kb_list_list : kitB "list" "list" = some true := by decide +kernel
theorem kb_list_bool : kitB "list" "bool" = some false := by decide +kernel
theorem kb_list_int : kitB "list" "int" = some false := by decide +kernel
theorem kb_list_str : kitB "list" "str" = some false := by decide +kernel
theorem kb_list_dict : kitB "list" "dict" = some false := by decide +kernel
theorem kb_tuple_tuple : kitB "tuple" "tuple" = some true := by decide +kernel
theorem kb_tuple_list : kitB "tuple" "list" = some false := by decide +kernel
theorem kb_tuple_bool : kitB "tuple" "bool" = some false := by decide +kernel
theorem kb_tuple_int : kitB "tuple" "int" = some false := by decide +kernel
theorem kb_tuple_str : kitB "tuple" "str" = some false := by decide +kernel
theorem kb_tuple_dict : kitB "tuple" "dict" = some false := by decide +kernel
theorem kb_dict_tuple : kitB "dict" "tuple" = some false := by decide +kernel
theorem kb_dict_list : kitB "dict" "list" = some false := by decide +kernel
theorem kb_dict_bool : kitB "dict" "bool" = some false := by decide +kernel
theorem kb_dict_int : kitB "dict" "int" = some false := by decide +kernel
theorem kb_dict_str : kitB "dict" "str" = some false := by decide +kernel
theorem kb_dict_dict : kitB "dict" "dict" = some true := by decide +kernel
theorem kN_nil (t : String) : kitN t [] = some false := rfl
def orK (o p : Option Bool) : Option Bool := match o with
  | some true => some true
  | some false => p
  | none => none
theorem kN_cons (t n : String) (r : List String) : kitN t (n :: r) = orK (kitB t n) (kitN t r) := rfl
theorem orK_t (p : Option Bool) : orK (some true) p = some true := rfl
theorem orK_f (p : Option Bool) : orK (some false) p = p := rfl
theorem seqIndex_run {n : Nat} {i : Int} (h0 : 0 ≤ i) (h : i < n) (P : Nat → Prop) : opt (seqIndex? i n) P = P i.toNat := by rw [seqIndex_int h0 h, opt_some]
theorem atI_ex {α : Type} {xs : List α} {i : Int} (h0 : 0 ≤ i) (h : i < xs.length) : ∃ x, atI xs i = some x ∧ xs[i.toNat]? = some x ∧ x ∈ xs := by
  have hk : i.toNat < xs.length := by omega
  exact ⟨xs[i.toNat], by rw [atI_int h0 h, List.getElem?_eq_getElem hk], List.getElem?_eq_getElem hk, List.getElem_mem _⟩
theorem fn_false {P : Program} {w : World} {K : PySem.W.Frag} {mg : Str → Option Value} {base : Heap} {CX : CXT} {k : Nat} {f : Addr} {fd : FuncData} {ps : List Str} {n : Nat} {vf : VF} (_ : Nat) (h : vf = fun _ _ => False) : FnOk P w K mg base CX k f fd ps (spV K n vf) := by
  subst h
  exact ⟨fun vs H Q E hs => (by obtain ⟨_, _, _, _, _, hv, _⟩ := hs; exact hv.elim), fun A outer s H args us vs Q E hr he hb hv hs => (by obtain ⟨_, _, _, _, _, hv, _⟩ := hs; exact hv.elim)⟩
end L2.VL
set_option Elab.async false
set_option linter.all false
set_option maxRecDepth 100000
namespace L2.VL
open PySem PySem.Spec PyProof.Rows
abbrev S (l : List Nat) : Str := ⟨l.toArray⟩
/-- the signs of a whole number -/
def itx (n : Int) : List Nat := if 0 ≤ n then TL.numL n.toNat else 45 :: TL.numL n.natAbs
theorem itx_S (n : Int) : Str.ofString (toString n) = S (itx n) := by
  apply TL.ext_tl
  unfold itx
  by_cases h : 0 ≤ n
  · rw [if_pos h]
    obtain ⟨m, rfl⟩ := Int.eq_ofNat_of_zero_le h
    exact TL.tl_num m
  · rw [if_neg h]
    obtain ⟨m, rfl⟩ : ∃ m : Nat, n = Int.negSucc m := by
      cases n with
      | ofNat k => exact absurd (Int.natCast_nonneg k) h
      | negSucc m => exact ⟨m, rfl⟩
    have e : toString (Int.negSucc m) = "-" ++ toString (((m + 1 : Nat)) : Int) := rfl
    rw [TL.tl_ofString, e, String.toList_append, List.map_append, ← TL.tl_ofString, ← TL.tl_ofString, TL.tl_num]
    rfl
theorem numL_len' {n k : Nat} (hk : 0 < k) (h : n < 10 ^ k) : (TL.numL n).length ≤ k := TL.numL_len hk h
theorem itx_len {n : Int} {k : Nat} (hk : 0 < k) (h : n.natAbs < 10 ^ k) : (itx n).length ≤ k + 1 := by
  unfold itx
  split
  · have := TL.numL_len (n := n.toNat) hk (by omega)
    omega
  · have := TL.numL_len (n := n.natAbs) hk h
    simp
    omega
theorem itx_back {n : Int} (h : (itx n).length ≤ 4300) : PySem.intText? (S (itx n)) = some n := by
  unfold itx at h ⊢
  by_cases hn : 0 ≤ n
  · rw [if_pos hn] at h ⊢
    obtain ⟨m, rfl⟩ := Int.eq_ofNat_of_zero_le hn
    have q := PySem.intText_digits (x := S (TL.numL m)) (TL.numL_digits m) (TL.numL_ne m) (by rw [SX.S_len]; exact h)
    have v : ((NumText.digitsVal (S (TL.numL m)).cps.toList : Nat) : Int) = m := by
      show ((NumText.digitsVal (TL.numL m) : Nat) : Int) = m
      rw [TL.numL_val]
    rw [v] at q
    exact q
  · rw [if_neg hn] at h ⊢
    have q := PySem.intText_neg (x := S (45 :: TL.numL n.natAbs)) (cs := TL.numL n.natAbs) rfl (TL.numL_digits _) (TL.numL_ne _) (by rw [SX.S_len]; exact h)
    rw [TL.numL_val] at q
    rw [q]
    congr 1
    omega
theorem jn0 (ps : List (List Nat)) : Txt.join (S []) (ps.map S) = S ps.flatten := by
  rw [SX.join_S]
  congr 1
  congr 1
  induction ps with
  | nil => rfl
  | cons p r ih =>
    cases r with
    | nil => simp [TL.joinL]
    | cons q r =>
      rw [TL.joinL, ih]
      simp
theorem jn0_len (ps : List (List Nat)) : ((ps.map S).map (·.length)).sum = ps.flatten.length := by
  rw [SX.lens, List.length_flatten]
theorem digit_bd {n : Nat} {c : Nat} (h : c ∈ TL.numL n) : 48 ≤ c ∧ c ≤ 57 := TL.numL_digits n c h
theorem S_cps (l : List Nat) : (S l).cps.toList = l := rfl
theorem S_len' (l : List Nat) : (S l).length = l.length := SX.S_len l
theorem S_cat' (a b : List Nat) : S a ++ S b = S (a ++ b) := SX.S_cat a b
theorem signs_S (l : List Nat) : signsD (S l) = l.map fun c => D.str (S [c]) := rfl
theorem in1 (a : List Nat) (c : Nat) : (!(Builtin.Str.occurrences (S a) ⟨#[c]⟩ 0 a.length 1).isEmpty) = decide (c ∈ a) := by
  have := SX.in_one a c
  rw [SX.S_len] at this
  exact this
theorem in0 (a : List Nat) (c : Nat) : (!(Builtin.Str.occurrences (S a) (S [c]) 0 a.length 1).isEmpty) = decide (c ∈ a) := in1 a c
theorem S_eq1 (a b : List Nat) : (S a = S b) = (a = b) := propext ⟨SX.S_inj, fun h => by rw [h]⟩
theorem S_eq2 (c : Nat) (b : List Nat) : ((⟨#[c]⟩ : Str) = S b) = ([c] = b) := S_eq1 [c] b
theorem slice_mid (a x r : List Nat) {i j : Int} (hi : i = a.length) (hj : j = ((a.length + x.length : Nat) : Int)) : Txt.slice (S (a ++ (x ++ r))) (some i) (some j) = S x := by
  subst hi hj
  have hl : (S (a ++ (x ++ r))).length = a.length + (x.length + r.length) := by rw [SX.S_len]; simp
  refine (beq_iff_eq.mp (PyProof.Rows.slice_closesL (x := S (a ++ (x ++ r))) (by omega) (by omega) (by omega))).trans (TL.ext_tl ?_)
  show ((a ++ (x ++ r)).drop (a.length : Int).toNat).take (((a.length + x.length : Nat) : Int) - a.length).toNat = x
  rw [Int.toNat_natCast, List.drop_left, show (((a.length + x.length : Nat) : Int) - a.length).toNat = x.length by omega, List.take_left]
theorem atI_nat {α : Type} {xs : List α} {k : Nat} {x : α} (h : xs[k]? = some x) : atI xs (k : Int) = some x := by
  have hk := lt_of_get h
  rw [atI_int (by omega) (by omega)]
  exact h
theorem tw_pos {l : List Nat} {q c : Nat} {P : Nat → Bool} (h : l[q]? = some c) (hc : P c = true) : ((l.drop q).takeWhile P).length = 1 + ((l.drop (q + 1)).takeWhile P).length := by
  obtain ⟨hk, rfl⟩ := List.getElem?_eq_some_iff.mp h
  rw [List.drop_eq_getElem_cons hk, List.takeWhile_cons_of_pos hc, List.length_cons]
  omega
theorem tw_neg {l : List Nat} {q c : Nat} {P : Nat → Bool} (h : l[q]? = some c) (hc : P c = false) : ((l.drop q).takeWhile P).length = 0 := by
  obtain ⟨hk, rfl⟩ := List.getElem?_eq_some_iff.mp h
  rw [List.drop_eq_getElem_cons hk, List.takeWhile_cons_of_neg (by simp [hc])]
  rfl
theorem tw_end {l : List Nat} {q : Nat} {P : Nat → Bool} (h : l.length ≤ q) : ((l.drop q).takeWhile P).length = 0 := by
  rw [List.drop_eq_nil_of_le h]
  rfl
theorem tw_all {x r : List Nat} {P : Nat → Bool} (h : ∀ c ∈ x, P c = true) (hr : ∀ c, r.head? = some c → P c = false) : ((x ++ r).takeWhile P).length = x.length := by
  induction x with
  | nil =>
    cases r with
    | nil => rfl
    | cons c r => rw [List.nil_append, List.takeWhile_cons_of_neg (by simp [hr c rfl])]
  | cons c x ih =>
    rw [List.cons_append, List.takeWhile_cons_of_pos (h c (List.mem_cons_self ..)), List.length_cons, List.length_cons, ih fun d hd => h d (List.mem_cons_of_mem _ hd)]
theorem get_ex {α : Type} {xs : List α} {k : Nat} (h : k < xs.length) : ∃ x, xs[k]? = some x := ⟨xs[k], List.getElem?_eq_getElem h⟩
section
variable {α : Type} (a b c d e : α) (r : List α)
theorem atI_c0 : atI (a :: r) 0 = some a := atI_nat (k := 0) rfl
theorem atI_c1 : atI (a :: b :: r) 1 = some b := atI_nat (k := 1) rfl
theorem atI_c2 : atI (a :: b :: c :: r) 2 = some c := atI_nat (k := 2) rfl
theorem atI_c3 : atI (a :: b :: c :: d :: r) 3 = some d := atI_nat (k := 3) rfl
theorem atI_c4 : atI (a :: b :: c :: d :: e :: r) 4 = some e := atI_nat (k := 4) rfl
end
theorem mv_get {r : RV} {e : SE} {d : D} {P : D → Prop} (h : r.get e = some d) (hi : d.im = true) (k : P d) : mv r e P := by
  cases r with
  | val x =>
    rw [get_val] at h
    cases h
    rw [mv_val]
    exact k
  | plc j p =>
    rw [get_plc] at h
    rw [mv_plc, h, opt_some, cIm_run]
    exact ⟨hi, k⟩
theorem cIfE_cut {R : RV → SE → Prop} {ta tb : TV} {b : Bool} {e1 : SE} (P : RV → SE → Prop) (hN : ∀ r e, P r e → R r e) (h : ∀ N : RV → SE → Prop, (∀ r e, P r e → N r e) → cIfE N ta tb b e1) : cIfE R ta tb b e1 := h R hN
theorem flat_strs (l : List Str) : (l.map D.str).all D.flat = true := by
  rw [List.all_eq_true]
  intro d hd
  obtain ⟨i, _, rfl⟩ := List.mem_map.mp hd
  rfl
theorem isIn_strs (a : Str) (l : List Str) : (D.str a).isIn (l.map D.str) = decide (a ∈ l) := by
  unfold D.isIn inV
  rw [List.map_map]
  induction l with
  | nil => rfl
  | cons b r ih =>
    rw [List.map_cons, List.any_cons, ih]
    show ((b == a) || decide (a ∈ r)) = decide (a ∈ b :: r)
    by_cases h : b = a
    · subst h
      simp
    · have h' : ¬ a = b := fun z => h z.symm
      have h2 : (b == a) = false := beq_eq_false_iff_ne.mpr h
      simp [h2, h']
theorem fInG_s1 (c : Nat) (a : List Nat) (R : D → Prop) : fInG false (.str ⟨#[c]⟩) (.str (S a)) R = R (.bl (decide (c ∈ a))) := by
  have h := SX.in_one a c
  show R (.bl (!(Builtin.Str.occurrences (S a) ⟨#[c]⟩ 0 (S a).length 1).isEmpty)) = _
  exact congrArg (fun b => R (.bl b)) h
theorem fInG_s0 (c : Nat) (a : List Nat) (R : D → Prop) : fInG false (.str (S [c])) (.str (S a)) R = R (.bl (decide (c ∈ a))) := fInG_s1 c a R
theorem fInG_l (n : Bool) (d : D) (ds : List D) (R : D → Prop) : fInG n d (.lst ds) R = (d.flat = true ∧ ds.all D.flat = true ∧ R (.bl (if n = true then !(d.isIn ds) else d.isIn ds))) := by cases d <;> rfl
theorem fInG_t (n : Bool) (d : D) (ds : List D) (R : D → Prop) : fInG n d (.tup ds) R = (d.flat = true ∧ ds.all D.flat = true ∧ R (.bl (if n = true then !(d.isIn ds) else d.isIn ds))) := by cases d <;> rfl
end L2.VL
set_option Elab.async false
set_option linter.all false
set_option maxRecDepth 100000
namespace L2.VL
open PySem PySem.Spec PyProof.Rows
/-! ### trees -/
def isAl (c : Nat) : Bool := decide (97 ≤ c) && decide (c ≤ 122)
def word (z : Str) : Bool := decide (z.cps.toList ≠ []) && z.cps.toList.all isAl
mutual
def isTr : D → Bool
  | .int n => decide (n.natAbs < 10 ^ 30)
  | .str z => word z
  | .tup ds => isTrs ds
  | _ => false
def isTrs : List D → Bool
  | [] => true
  | d :: r => isTr d && isTrs r
end
mutual
def tx : D → List Nat
  | .int n => itx n
  | .str z => z.cps.toList
  | .tup ds => 40 :: (txs ds ++ [41])
  | _ => []
def txs : List D → List Nat
  | [] => []
  | d :: r => tx d ++ txr r
def txr : List D → List Nat
  | [] => []
  | d :: r => 44 :: 32 :: (tx d ++ txr r)
end
mutual
def tdp : D → Nat
  | .tup ds => tdps ds + 1
  | _ => 0
def tdps : List D → Nat
  | [] => 0
  | d :: r => max (tdp d) (tdps r)
end
mutual
theorem tr_im : ∀ d : D, isTr d = true → d.im = true
  | .int _, _ => rfl
  | .str _, _ => rfl
  | .tup ds, h => trs_im ds h
  | .non, h => by simp [isTr] at h
  | .bl _, h => by simp [isTr] at h
  | .ty _, h => by simp [isTr] at h
  | .adr _, h => by simp [isTr] at h
  | .rol _, h => by simp [isTr] at h
  | .lst _, h => by simp [isTr] at h
  | .dK _ _, h => by simp [isTr] at h
  | .dT _ _, h => by simp [isTr] at h
  | .obj _ _ _, h => by simp [isTr] at h
theorem trs_im : ∀ ds : List D, isTrs ds = true → D.ims ds = true
  | [], _ => rfl
  | d :: r, h => by
    simp only [isTrs, Bool.and_eq_true] at h
    simp only [D.ims, Bool.and_eq_true]
    exact ⟨tr_im d h.1, trs_im r h.2⟩
end
theorem isTrs_mem : ∀ {ds : List D}, isTrs ds = true → ∀ d ∈ ds, isTr d = true
  | d :: r, h, x, hx => by
    simp only [isTrs, Bool.and_eq_true] at h
    rcases List.mem_cons.mp hx with rfl | hx
    · exact h.1
    · exact isTrs_mem h.2 x hx
theorem isTrs_of : ∀ {ds : List D}, (∀ d ∈ ds, isTr d = true) → isTrs ds = true
  | [], _ => rfl
  | d :: r, h => by
    simp only [isTrs, Bool.and_eq_true]
    exact ⟨h d (List.mem_cons_self ..), isTrs_of fun x hx => h x (List.mem_cons_of_mem _ hx)⟩
theorem tdps_mem : ∀ {ds : List D} {d : D}, d ∈ ds → tdp d ≤ tdps ds
  | e :: r, d, h => by
    simp only [tdps]
    rcases List.mem_cons.mp h with rfl | h
    · omega
    · have := tdps_mem h
      omega
theorem tdps_le : ∀ {ds : List D} {n : Nat}, (∀ d ∈ ds, tdp d ≤ n) → tdps ds ≤ n
  | [], _, _ => Nat.zero_le _
  | d :: r, n, h => by
    simp only [tdps]
    have h1 := h d (List.mem_cons_self ..)
    have h2 := tdps_le (ds := r) fun x hx => h x (List.mem_cons_of_mem _ hx)
    omega
theorem tx_leaf_pos {d : D} (h : isTr d = true) : 1 ≤ (tx d).length := by
  cases d <;> first
    | (simp [isTr] at h; done)
    | skip
  · rename_i n
    simp only [tx, itx]
    split
    · have := TL.numL_ne n.toNat
      have := List.length_pos_iff.mpr this
      omega
    · simp
  · rename_i z
    simp only [isTr, word, Bool.and_eq_true, decide_eq_true_eq] at h
    simp only [tx]
    exact List.length_pos_iff.mpr h.1
  · simp only [tx]
    simp
/-! ### the pile of things to write -/
inductive It where
  | txt (z : List Nat)
  | tr (d : D)
def It.ok : It → Prop
  | .txt _ => True
  | .tr d => isTr d = true
def It.tx : It → List Nat
  | .txt z => z
  | .tr d => VL.tx d
def rend : List It → List Nat
  | [] => []
  | x :: r => rend r ++ x.tx
theorem rend_append : ∀ a b : List It, rend (a ++ b) = rend b ++ rend a
  | [], b => by simp [rend]
  | x :: a, b => by simp [rend, rend_append a b]
mutual
def cst : D → Nat
  | .tup ds => 3 + csts ds
  | _ => 1
def csts : List D → Nat
  | [] => 0
  | d :: r => cst d + 1 + csts r
end
def It.c : It → Nat
  | .txt _ => 1
  | .tr d => cst d
def cost : List It → Nat
  | [] => 0
  | x :: r => x.c + cost r
theorem cost_append : ∀ a b : List It, cost (a ++ b) = cost a + cost b
  | [], b => by simp [cost]
  | x :: a, b => by simp [cost, cost_append a b]; omega
theorem It.c_pos : ∀ x : It, 1 ≤ x.c
  | .txt _ => Nat.le_refl _
  | .tr d => by
    cases d <;> simp [It.c, cst]
    omega
theorem cost_zero : ∀ {a : List It}, cost a = 0 → a = []
  | [], _ => rfl
  | x :: a, h => by
    have := x.c_pos
    simp only [cost] at h
    omega
/-- what a tuple's items leave on the pile, the last item at the bottom; each after a comma -/
def pu : List D → List It
  | [] => []
  | d :: r => pu r ++ [.tr d, .txt [44, 32]]
def pua : List D → List It
  | [] => []
  | d :: r => pu r ++ [.tr d]
theorem rend_pu : ∀ ds, rend (pu ds) = txr ds
  | [] => rfl
  | d :: r => by
    rw [pu, rend_append, rend_pu r]
    simp [rend, It.tx, txr]
theorem rend_pua (ds : List D) : rend (pua ds) = txs ds := by
  cases ds with
  | nil => rfl
  | cons d r =>
    rw [pua, rend_append, rend_pu r]
    simp [rend, It.tx, txs]
theorem cost_pu : ∀ ds, cost (pu ds) = csts ds
  | [] => rfl
  | d :: r => by
    rw [pu, cost_append, cost_pu r]
    simp [cost, It.c, csts]
    omega
theorem cost_pua (ds : List D) : cost (pua ds) ≤ csts ds := by
  cases ds with
  | nil => exact Nat.le_refl _
  | cons d r =>
    rw [pua, cost_append, cost_pu r]
    simp [cost, It.c, csts]
    omega
/-- after i items from the end -/
def puAt (ds : List D) (i : Nat) : List It := if i < ds.length then pu (ds.drop (ds.length - i)) else pua ds
theorem puAt_zero (ds : List D) : puAt ds 0 = [] := by
  unfold puAt
  split
  · rw [Nat.sub_zero, List.drop_length]
    rfl
  · have : ds = [] := List.eq_nil_of_length_eq_zero (by omega)
    rw [this]
    rfl
theorem puAt_all (ds : List D) : puAt ds ds.length = pua ds := if_neg (Nat.lt_irrefl _)
theorem puAt_step {ds : List D} {i : Nat} {d : D} (hd : ds[ds.length - 1 - i]? = some d) (hi : i + 1 < ds.length) : puAt ds (i + 1) = puAt ds i ++ [.tr d, .txt [44, 32]] := by
  unfold puAt
  rw [if_pos hi, if_pos (by omega)]
  obtain ⟨hk, rfl⟩ := List.getElem?_eq_some_iff.mp hd
  have e : ds.drop (ds.length - (i + 1)) = ds[ds.length - 1 - i] :: ds.drop (ds.length - i) := by
    rw [show ds.length - (i + 1) = ds.length - 1 - i by omega, List.drop_eq_getElem_cons hk]
    congr 2
    omega
  rw [e, pu]
theorem puAt_last {ds : List D} {d : D} (hd : ds[0]? = some d) : puAt ds ds.length = puAt ds (ds.length - 1) ++ [.tr d] := by
  cases ds with
  | nil => cases hd
  | cons a r =>
    have : a = d := by simpa using hd
    subst this
    unfold puAt
    rw [if_neg (Nat.lt_irrefl _), if_pos (by simp), show (a :: r).length - ((a :: r).length - 1) = 1 by simp]
    rfl
mutual
theorem cst_le : ∀ d : D, isTr d = true → cst d ≤ 2 * (tx d).length
  | .int n, h => by have := tx_leaf_pos h; simp only [cst]; omega
  | .str n, h => by have := tx_leaf_pos h; simp only [cst]; omega
  | .tup ds, h => by
    have := csts_le ds h
    simp only [cst, tx, List.length_cons, List.length_append, List.length_nil]
    omega
  | .non, h => by simp [isTr] at h
  | .bl _, h => by simp [isTr] at h
  | .ty _, h => by simp [isTr] at h
  | .adr _, h => by simp [isTr] at h
  | .rol _, h => by simp [isTr] at h
  | .lst _, h => by simp [isTr] at h
  | .dK _ _, h => by simp [isTr] at h
  | .dT _ _, h => by simp [isTr] at h
  | .obj _ _ _, h => by simp [isTr] at h
theorem csts_le : ∀ ds : List D, isTrs ds = true → csts ds ≤ 2 * (txs ds).length + 1
  | [], _ => by simp [csts]
  | d :: r, h => by
    simp only [isTrs, Bool.and_eq_true] at h
    have h1 := cst_le d h.1
    have h2 := cstr_le r h.2
    simp only [csts, txs, List.length_append]
    omega
theorem cstr_le : ∀ ds : List D, isTrs ds = true → csts ds ≤ 2 * (txr ds).length
  | [], _ => by simp [csts]
  | d :: r, h => by
    simp only [isTrs, Bool.and_eq_true] at h
    have h1 := cst_le d h.1
    have h2 := cstr_le r h.2
    simp only [csts, txr, List.length_cons, List.length_append]
    omega
end
end L2.VL
set_option Elab.async false
set_option linter.all false
set_option maxRecDepth 100000
namespace L2.VL
open PySem PySem.Spec PyProof.Rows
abbrev Tk := Str × D
def isDg (c : Nat) : Bool := decide (48 ≤ c) && decide (c ≤ 57)
def sgns : List Nat := [40, 41, 44, 58]
abbrev kInt : Str := Str.ofString "integer"
abbrev kWord : Str := Str.ofString "word"
abbrev kEnd : Str := Str.ofString "end"
/-- a text and its tokens, the end left out -/
inductive TkR : List Nat → List Tk → Prop
  | nil : TkR [] []
  | sp {r : List Nat} {t : List Tk} : TkR r t → TkR (32 :: r) t
  | sign {c : Nat} {r : List Nat} {t : List Tk} : c ∈ sgns → TkR r t → TkR (c :: r) ((S [c], .str (S [c])) :: t)
  | word {w r : List Nat} {t : List Tk} : w ≠ [] → w.all isAl = true → (∀ c, r.head? = some c → isAl c = false) → TkR r t → TkR (w ++ r) ((kWord, .str (S w)) :: t)
  | int {n : Int} {r : List Nat} {t : List Tk} : (itx n).length ≤ 600 → (∀ c, r.head? = some c → isDg c = false) → TkR r t → TkR (itx n ++ r) ((kInt, .int n) :: t)
theorem numL_head (n : Nat) : ∃ c r, TL.numL n = c :: r ∧ 48 ≤ c ∧ c ≤ 57 ∧ ∀ x ∈ r, 48 ≤ x ∧ x ≤ 57 := by
  cases h : TL.numL n with
  | nil => exact absurd h (TL.numL_ne n)
  | cons c r =>
    have := digit_bd (n := n) (c := c) (by rw [h]; simp)
    exact ⟨c, r, rfl, this.1, this.2, fun x hx => digit_bd (n := n) (by rw [h]; exact List.mem_cons_of_mem _ hx)⟩
theorem numL_zero : ∀ (n : Nat) (r : List Nat), TL.numL n = 48 :: r → r = [] := by
  intro n
  induction n using Nat.strongRecOn with
  | ind n ih =>
    intro r h
    by_cases hn : n < 10
    · rw [TL.numL_lt hn] at h
      exact (List.cons.inj h).2.symm
    · rw [TL.numL_step (by omega)] at h
      cases hq : TL.numL (n / 10) with
      | nil => exact absurd hq (TL.numL_ne _)
      | cons c q =>
        rw [hq] at h
        have hc : c = 48 := (List.cons.inj h).1
        subst hc
        have hq0 := ih (n / 10) (by omega) q hq
        subst hq0
        have v := TL.numL_val (n / 10)
        rw [hq] at v
        have : n / 10 = 0 := by rw [← v]; decide
        omega
/-- a whole number's first sign -/
theorem itx_head (n : Int) : ∃ c r, itx n = c :: r ∧ (c = 45 ∨ isDg c = true) ∧ ∀ x ∈ r, isDg x = true := by
  unfold itx
  split
  · obtain ⟨c, r, e, h1, h2, h3⟩ := numL_head n.toNat
    exact ⟨c, r, e, .inr (by simp [isDg]; omega), fun x hx => by have := h3 x hx; simp [isDg]; omega⟩
  · refine ⟨45, _, rfl, .inl rfl, fun x hx => ?_⟩
    have := digit_bd hx
    simp [isDg]
    omega
theorem TkR.unsp : ∀ {l : List Nat} {t : List Tk}, TkR (32 :: l) t → TkR l t := by
  intro l t h
  generalize e : 32 :: l = m at h
  cases h with
  | nil => cases e
  | sp h =>
    cases e
    exact h
  | sign hc h =>
    cases e
    simp [sgns] at hc
  | word hw ha hr h =>
    rename_i w r t
    cases w with
    | nil => exact absurd rfl hw
    | cons c w =>
      cases (List.cons.inj e).1
      simp [isAl] at ha
  | int hl hr h =>
    rename_i n r t
    obtain ⟨c, q, e', hc, _⟩ := itx_head n
    rw [e'] at e
    cases (List.cons.inj e).1
    rcases hc with hc | hc
    · cases hc
    · simp [isDg] at hc
theorem TkR.drop_sp {l : List Nat} {t : List Tk} (h : TkR l t) : TkR (l.dropWhile (· == 32)) t := by
  induction l with
  | nil => exact h
  | cons c r ih =>
    rw [List.dropWhile_cons]
    split
    · rename_i hc
      have hc : c = 32 := by simpa using hc
      subst hc
      exact ih h.unsp
    · exact h
theorem TkR.sps {l : List Nat} {t : List Tk} (h : TkR l t) : ∀ k, TkR (List.replicate k 32 ++ l) t
  | 0 => h
  | k + 1 => .sp (h.sps k)
/-! ### a tree's tokens -/
mutual
def tkt : D → List Tk
  | .int n => [(kInt, .int n)]
  | .str z => [(kWord, .str z)]
  | .tup ds => (S [40], .str (S [40])) :: (tkts ds ++ [(S [41], .str (S [41]))])
  | _ => []
def tkts : List D → List Tk
  | [] => []
  | d :: r => tkt d ++ tktr r
def tktr : List D → List Tk
  | [] => []
  | d :: r => (S [44], .str (S [44])) :: (tkt d ++ tktr r)
end
/-- the text with other blanks -/
inductive Lo : List Nat → List Nat → Prop
  | nil : Lo [] []
  | sign {c : Nat} {r r' : List Nat} (a b : Nat) : c = 40 ∨ c = 41 ∨ c = 44 → Lo r r' → Lo (c :: r) (List.replicate a 32 ++ (c :: (List.replicate b 32 ++ r')))
  | sp {r r' : List Nat} (a : Nat) : Lo r r' → Lo (32 :: r) (List.replicate a 32 ++ r')
  | other {c : Nat} {r r' : List Nat} : c ≠ 40 → c ≠ 41 → c ≠ 44 → c ≠ 32 → Lo r r' → Lo (c :: r) (c :: r')
theorem Lo.refl : ∀ l : List Nat, Lo l l
  | [] => .nil
  | c :: r => by
    by_cases h : c = 40 ∨ c = 41 ∨ c = 44
    · exact .sign (r' := r) 0 0 h (Lo.refl r)
    · by_cases h2 : c = 32
      · subst h2
        exact .sp 1 (Lo.refl r)
      · exact .other (fun e => h (.inl e)) (fun e => h (.inr (.inl e))) (fun e => h (.inr (.inr e))) h2 (Lo.refl r)
theorem Lo.app {a b a' b' : List Nat} (h : Lo a a') (g : Lo b b') : Lo (a ++ b) (a' ++ b') := by
  induction h with
  | nil => exact g
  | sign i j hc _ ih =>
    rw [List.append_assoc, List.cons_append, List.cons_append, List.append_assoc]
    exact .sign i j hc ih
  | sp i _ ih =>
    rw [List.append_assoc]
    exact .sp i ih
  | other h1 h2 h3 h4 _ ih => exact .other h1 h2 h3 h4 ih
theorem Lo.split : ∀ {a b l : List Nat}, Lo (a ++ b) l → ∃ la lb, l = la ++ lb ∧ Lo a la ∧ Lo b lb
  | [], b, l, h => ⟨[], l, rfl, .nil, h⟩
  | c :: a, b, l, h => by
    rw [List.cons_append] at h
    cases h with
    | sign i j hc h =>
      obtain ⟨la, lb, rfl, h1, h2⟩ := Lo.split h
      exact ⟨_, lb, by simp, .sign i j hc h1, h2⟩
    | sp i h =>
      obtain ⟨la, lb, rfl, h1, h2⟩ := Lo.split h
      exact ⟨_, lb, by simp, .sp i h1, h2⟩
    | other g1 g2 g3 g4 h =>
      obtain ⟨la, lb, rfl, h1, h2⟩ := Lo.split h
      exact ⟨_, lb, rfl, .other g1 g2 g3 g4 h1, h2⟩
theorem Lo.plain : ∀ {a l : List Nat}, (∀ c ∈ a, c = 45 ∨ 48 ≤ c) → Lo a l → l = a
  | [], _, _, .nil => rfl
  | c :: a, l, hp, h => by
    have hc := hp c (List.mem_cons_self ..)
    cases h with
    | sign i j h' h => omega
    | sp i h => omega
    | other g1 g2 g3 g4 h => rw [Lo.plain (fun x hx => hp x (List.mem_cons_of_mem _ hx)) h]
/-- what may come after a word or a number -/
def Stop (l : List Nat) : Prop := ∀ c, l.head? = some c → isAl c = false ∧ isDg c = false
theorem stop_rep {k : Nat} {c : Nat} {l : List Nat} (h : isAl c = false ∧ isDg c = false) : Stop (List.replicate k 32 ++ c :: l) := by
  intro x hx
  cases k with
  | zero => simp at hx; subst hx; exact h
  | succ k => simp [List.replicate_succ] at hx; subst hx; decide
theorem itx_plain (n : Int) : ∀ c ∈ itx n, c = 45 ∨ 48 ≤ c := by
  obtain ⟨c, r, e, h1, h2⟩ := itx_head n
  intro x hx
  rw [e] at hx
  rcases List.mem_cons.mp hx with rfl | hx
  · rcases h1 with h | h
    · exact .inl h
    · simp [isDg] at h
      exact .inr h.1
  · have := h2 x hx
    simp [isDg] at this
    exact .inr this.1
theorem tr_int_len {n : Int} (h : isTr (.int n) = true) : (itx n).length ≤ 31 := by
  simp only [isTr, decide_eq_true_eq] at h
  exact itx_len (by decide) h
mutual
theorem tk_tree : ∀ (d : D) {l r : List Nat} {t : List Tk}, isTr d = true → Lo (tx d) l → Stop r → TkR r t → TkR (l ++ r) (tkt d ++ t)
  | .int n, l, r, t, h, hl, hs, ht => by
    have e := Lo.plain (itx_plain n) hl
    subst e
    exact .int (Nat.le_trans (tr_int_len h) (by decide)) (fun c hc => (hs c hc).2) ht
  | .str z, l, r, t, h, hl, hs, ht => by
    simp only [isTr, word, Bool.and_eq_true, decide_eq_true_eq] at h
    simp only [tx] at hl
    have e := Lo.plain (fun c hc => by have := List.all_eq_true.mp h.2 c hc; simp [isAl] at this; exact .inr (by omega)) hl
    subst e
    exact .word h.1 h.2 (fun c hc => (hs c hc).1) ht
  | .tup ds, l, r, t, h, hl, hs, ht => by
    simp only [tx] at hl
    cases hl with
    | sign a b hc hl =>
      obtain ⟨la, lb, rfl, h1, h2⟩ := Lo.split hl
      cases h2 with
      | sign a2 b2 hc2 h2 =>
        cases h2
        have q := tk_trees ds (l := la) (r := List.replicate a2 32 ++ (41 :: (List.replicate b2 32 ++ r))) (t := (S [41], .str (S [41])) :: t) h h1 (stop_rep (by decide)) ((TkR.sign (by decide) (ht.sps b2)).sps a2)
        have q2 := (TkR.sign (c := 40) (by decide) (q.sps b)).sps a
        simpa [tkt] using q2
      | other g _ _ _ _ => omega
    | other g _ _ _ _ => omega
  | .non, l, r, t, h, _, _, _ => by simp [isTr] at h
  | .bl _, l, r, t, h, _, _, _ => by simp [isTr] at h
  | .ty _, l, r, t, h, _, _, _ => by simp [isTr] at h
  | .adr _, l, r, t, h, _, _, _ => by simp [isTr] at h
  | .rol _, l, r, t, h, _, _, _ => by simp [isTr] at h
  | .lst _, l, r, t, h, _, _, _ => by simp [isTr] at h
  | .dK _ _, l, r, t, h, _, _, _ => by simp [isTr] at h
  | .dT _ _, l, r, t, h, _, _, _ => by simp [isTr] at h
  | .obj _ _ _, l, r, t, h, _, _, _ => by simp [isTr] at h
theorem tk_trees : ∀ (ds : List D) {l r : List Nat} {t : List Tk}, isTrs ds = true → Lo (txs ds) l → Stop r → TkR r t → TkR (l ++ r) (tkts ds ++ t)
  | [], l, r, t, h, hl, hs, ht => by
    simp only [txs] at hl
    cases hl
    exact ht
  | d :: ds, l, r, t, h, hl, hs, ht => by
    simp only [isTrs, Bool.and_eq_true] at h
    simp only [txs] at hl
    obtain ⟨la, lb, rfl, h1, h2⟩ := Lo.split hl
    obtain ⟨q, hq⟩ := tk_rest ds h.2 h2 hs ht
    have := tk_tree d h.1 h1 hq q
    simpa [tkts] using this
theorem tk_rest : ∀ (ds : List D) {l r : List Nat} {t : List Tk}, isTrs ds = true → Lo (txr ds) l → Stop r → TkR r t → TkR (l ++ r) (tktr ds ++ t) ∧ Stop (l ++ r)
  | [], l, r, t, h, hl, hs, ht => by
    simp only [txr] at hl
    cases hl
    exact ⟨ht, hs⟩
  | d :: ds, l, r, t, h, hl, hs, ht => by
    simp only [isTrs, Bool.and_eq_true] at h
    simp only [txr] at hl
    cases hl with
    | sign a b hc hl =>
      cases hl with
      | sp i hl =>
        obtain ⟨la, lb, rfl, h1, h2⟩ := Lo.split hl
        obtain ⟨q, hq⟩ := tk_rest ds h.2 h2 hs ht
        have q1 := tk_tree d h.1 h1 hq q
        have q2 := (TkR.sign (c := 44) (by decide) ((q1.sps i).sps b)).sps a
        refine ⟨by simpa [tktr] using q2, ?_⟩
        have := stop_rep (k := a) (c := 44) (l := List.replicate b 32 ++ (List.replicate i 32 ++ (la ++ lb)) ++ r) (by decide)
        simpa using this
      | sign _ _ hc _ => omega
      | other _ _ _ g _ => omega
    | other _ _ g _ _ => omega
end
/-- a tree's text, blanks put in, and blanks ahead and behind -/
theorem tk_text {d : D} {l : List Nat} (h : isTr d = true) (hl : Lo (tx d) l) (i j : Nat) : TkR (List.replicate i 32 ++ (l ++ List.replicate j 32)) (tkt d) := by
  have e : TkR (List.replicate j 32) [] := by
    have := TkR.nil.sps j
    simpa using this
  have q := tk_tree d h hl (r := List.replicate j 32) (t := []) (fun c hc => by cases j with
    | zero => simp at hc
    | succ j => simp [List.replicate_succ] at hc; subst hc; decide) e
  have := q.sps i
  simpa using this
theorem tk_plain {d : D} (h : isTr d = true) : TkR (tx d) (tkt d) := by
  have := tk_text h (Lo.refl _) 0 0
  simpa using this
/-- one token -/
inductive One : List Nat → List Nat → Tk → Prop
  | sign {c : Nat} (r : List Nat) : c ∈ sgns → One [c] r (S [c], .str (S [c]))
  | word {w r : List Nat} : w ≠ [] → w.all isAl = true → (∀ c, r.head? = some c → isAl c = false) → One w r (kWord, .str (S w))
  | int {n : Int} {r : List Nat} : (itx n).length ≤ 600 → (∀ c, r.head? = some c → isDg c = false) → One (itx n) r (kInt, .int n)
theorem One.im {x r : List Nat} {tk : Tk} (h : One x r tk) : tk.2.im = true := by cases h <;> rfl
theorem TkR.inv {l : List Nat} {t : List Tk} (h : TkR l t) (hne : l ≠ []) (h32 : l.head? ≠ some 32) : ∃ x r tk t', l = x ++ r ∧ One x r tk ∧ t = tk :: t' ∧ TkR r t' ∧ x ≠ [] := by
  cases h with
  | nil => exact absurd rfl hne
  | sp h => exact absurd rfl h32
  | sign hc h => exact ⟨[_], _, _, _, rfl, .sign _ hc, rfl, h, by simp⟩
  | word hw ha hr h => exact ⟨_, _, _, _, rfl, .word hw ha hr, rfl, h, hw⟩
  | int hl hr h =>
    refine ⟨_, _, _, _, rfl, .int hl hr, rfl, h, ?_⟩
    obtain ⟨c, q, e, _, _⟩ := itx_head _
    rw [e]
    simp
theorem TkR.nil_inv {t : List Tk} (h : TkR [] t) : t = [] := by
  generalize e : ([] : List Nat) = m at h
  cases h with
  | nil => rfl
  | sp h => cases e
  | sign hc h => cases e
  | word hw ha hr h => exact absurd (List.append_eq_nil_iff.mp e.symm).1 hw
  | int hl hr h =>
    obtain ⟨c, q, e', _, _⟩ := itx_head _
    rw [e'] at e
    cases e
def tkD (x : Int × Tk) : D := .tup [.int x.1, .str x.2.1, x.2.2]
abbrev ln (C : Addr) (ts : List (Int × Tk)) (k : Nat) : D := .obj C ["tokens", "taken"] [.lst (ts.map tkD), .int (k : Nat)]
theorem itx_parts (n : Int) : ∃ sg ds, itx n = sg ++ ds ∧ (sg = [] ∨ sg = [45]) ∧ ds ≠ [] ∧ (∀ c ∈ ds, isDg c = true) ∧ (∀ q, ds = 48 :: q → sg = [] ∧ q = []) := by
  unfold itx
  split
  · refine ⟨[], TL.numL n.toNat, rfl, .inl rfl, TL.numL_ne _, fun c hc => ?_, fun q e => ⟨rfl, numL_zero _ q e⟩⟩
    have := digit_bd hc
    simp [isDg]
    omega
  · refine ⟨[45], TL.numL n.natAbs, rfl, .inr rfl, TL.numL_ne _, fun c hc => ?_, fun q e => ?_⟩
    · have := digit_bd hc
      simp [isDg]
      omega
    · exfalso
      have hq := numL_zero _ q e
      subst hq
      have v := TL.numL_val n.natAbs
      rw [e] at v
      have : n.natAbs = 0 := by rw [← v]; decide
      omega
theorem isDg_in {c : Nat} (h : isDg c = true) : decide (c ∈ [48, 49, 50, 51, 52, 53, 54, 55, 56, 57]) = true := by
  simp only [isDg, Bool.and_eq_true, decide_eq_true_eq] at h
  simp only [decide_eq_true_eq, List.mem_cons, List.not_mem_nil, or_false]
  omega
theorem isDg_out {c : Nat} (h : isDg c = false) : decide (c ∈ [48, 49, 50, 51, 52, 53, 54, 55, 56, 57]) = false := by
  cases e : decide (c ∈ [48, 49, 50, 51, 52, 53, 54, 55, 56, 57]) with
  | false => rfl
  | true =>
    simp only [decide_eq_true_eq, List.mem_cons, List.not_mem_nil, or_false] at e
    have : isDg c = true := by
      simp only [isDg, Bool.and_eq_true, decide_eq_true_eq]
      omega
    rw [this] at h
    cases h
abbrev abc : List Nat := [97, 98, 99, 100, 101, 102, 103, 104, 105, 106, 107, 108, 109, 110, 111, 112, 113, 114, 115, 116, 117, 118, 119, 120, 121, 122]
theorem isAl_in {c : Nat} (h : isAl c = true) : decide (c ∈ abc) = true := by
  simp only [isAl, Bool.and_eq_true, decide_eq_true_eq] at h
  simp only [abc, decide_eq_true_eq, List.mem_cons, List.not_mem_nil, or_false]
  omega
theorem isAl_out {c : Nat} (h : isAl c = false) : decide (c ∈ abc) = false := by
  cases e : decide (c ∈ abc) with
  | false => rfl
  | true =>
    simp only [abc, decide_eq_true_eq, List.mem_cons, List.not_mem_nil, or_false] at e
    have : isAl c = true := by
      simp only [isAl, Bool.and_eq_true, decide_eq_true_eq]
      omega
    rw [this] at h
    cases h
theorem skip0 : ∀ {m : List Nat} {t : List Tk}, TkR m t → (m.takeWhile fun c => decide (c ∈ [32])).length ≤ m.length ∧ (m.drop (m.takeWhile fun c => decide (c ∈ [32])).length).head? ≠ some 32 ∧ TkR (m.drop (m.takeWhile fun c => decide (c ∈ [32])).length) t
  | [], t, h => ⟨Nat.le_refl _, by simp, h⟩
  | c :: m, t, h => by
    by_cases hc : c = 32
    · subst hc
      obtain ⟨h1, h2, h3⟩ := skip0 h.unsp
      rw [List.takeWhile_cons_of_pos (by decide), List.length_cons, List.drop_succ_cons, List.length_cons]
      exact ⟨by omega, h2, h3⟩
    · rw [List.takeWhile_cons_of_neg (by simpa using hc)]
      exact ⟨Nat.zero_le _, by simpa using hc, h⟩
theorem skip {l : List Nat} {p : Nat} {t : List Tk} (hp : p ≤ l.length) (h : TkR (l.drop p) t) : p + ((l.drop p).takeWhile fun c => decide (c ∈ [32])).length ≤ l.length ∧ (l.drop (p + ((l.drop p).takeWhile fun c => decide (c ∈ [32])).length)).head? ≠ some 32 ∧ TkR (l.drop (p + ((l.drop p).takeWhile fun c => decide (c ∈ [32])).length)) t := by
  obtain ⟨h1, h2, h3⟩ := skip0 h
  rw [List.drop_drop] at h2 h3
  rw [List.length_drop] at h1
  exact ⟨by omega, h2, h3⟩
theorem One.kind {x r : List Nat} {tk : Tk} (h : One x r tk) : ¬ tk.1 = S [] := by
  cases h with
  | sign r hc =>
    intro e
    have := SX.S_inj e
    cases this
  | word _ _ _ => exact (by decide +kernel : ¬ kWord = S [])
  | int _ _ => exact (by decide +kernel : ¬ kInt = S [])
/-- how write_tree holds its pile, and how _law_text does -/
def w1 : It → D
  | .txt z => .tup [.bl true, .str (S z)]
  | .tr d => .tup [.bl false, d]
def w2 : It → D
  | .txt z => .lst [.str (S z)]
  | .tr d => d
theorem last_split {α : Type} {l : List α} {x : α} (h : l[l.length - 1]? = some x) : l = l.dropLast ++ [x] := by
  have hne : l ≠ [] := by
    rintro rfl
    simp at h
  have e : l.getLast hne = x := by
    rw [← List.getLast?_eq_getElem?, List.getLast?_eq_some_getLast hne] at h
    exact Option.some.inj h
  rw [← e]
  exact (List.dropLast_concat_getLast hne).symm
theorem rend_snoc (a : List It) (x : It) : rend (a ++ [x]) = x.tx ++ rend a := by
  rw [rend_append]
  simp [rend]
theorem cost_snoc (a : List It) (x : It) : cost (a ++ [x]) = cost a + x.c := by
  rw [cost_append]
  simp [cost]
theorem drop_map {α β : Type} (f : α → β) (l : List α) : (l.map f).dropLast = l.dropLast.map f := (List.map_dropLast).symm
theorem pu_ok : ∀ {ds : List D}, isTrs ds = true → ∀ w ∈ pu ds, w.ok
  | [], _, w, h => by simp [pu] at h
  | d :: r, ht, w, h => by
    simp only [isTrs, Bool.and_eq_true] at ht
    rw [pu, List.mem_append] at h
    rcases h with h | h
    · exact pu_ok ht.2 w h
    · simp at h
      rcases h with rfl | rfl
      · exact ht.1
      · trivial
theorem pua_ok {ds : List D} (ht : isTrs ds = true) : ∀ w ∈ pua ds, w.ok := by
  cases ds with
  | nil => intro w h; simp [pua] at h
  | cons d r =>
    simp only [isTrs, Bool.and_eq_true] at ht
    intro w h
    rw [pua, List.mem_append] at h
    rcases h with h | h
    · exact pu_ok ht.2 w h
    · simp at h
      subst h
      exact ht.1
theorem log_ok {n : Int} (h : isTr (.int n) = true) : n.natAbs.log2 < 1920 := by
  simp only [isTr, decide_eq_true_eq] at h
  by_cases h0 : n.natAbs = 0
  · rw [h0]
    decide
  · exact Nat.lt_trans ((Nat.log2_lt h0).mpr (Nat.lt_trans h (by decide : 10 ^ 30 < 2 ^ 100))) (by decide)
theorem flat_len (ps : List (List Nat)) (z : List Nat) : (ps ++ [z]).flatten = ps.flatten ++ z := by simp
theorem len_cost : ∀ ws : List It, ws.length ≤ cost ws
  | [] => Nat.le_refl _
  | w :: r => by
    have h1 := w.c_pos
    have h2 := len_cost r
    simp only [List.length_cons, cost]
    omega
theorem S_all (z : Str) : S z.cps.toList = z := SX.S_tl z
theorem app_ok {a b : List It} (h : ∀ w ∈ a, w.ok) (g : ∀ w ∈ b, w.ok) : ∀ w ∈ a ++ b, w.ok := fun w hw => (List.mem_append.mp hw).elim (h w) (g w)
theorem one_ok {x : It} (h : x.ok) : ∀ w ∈ [x], w.ok := fun w hw => by
  simp at hw
  subst hw
  exact h
theorem len_csts : ∀ ds : List D, ds.length ≤ csts ds
  | [] => Nat.le_refl _
  | d :: r => by
    have h2 := len_csts r
    simp only [List.length_cons, csts]
    omega
theorem pu_len : ∀ ds : List D, (pu ds).length = 2 * ds.length
  | [] => rfl
  | d :: r => by
    have h2 := pu_len r
    simp only [List.length_cons, pu, List.length_append, List.length_nil, h2]
    omega
theorem puAt_len (ds : List D) (i : Nat) : (puAt ds i).length ≤ 2 * ds.length := by
  unfold puAt
  split
  · rw [pu_len, List.length_drop]
    omega
  · cases ds with
    | nil => exact Nat.le_refl _
    | cons d r =>
      simp only [pua, List.length_append, pu_len, List.length_cons, List.length_nil]
      omega
theorem pu_at {ds : List D} {i : Nat} {x : D} (hi : i < ds.length) (hx : ds[ds.length - 1 - i]? = some x) (hl : ¬ i + 1 < ds.length) : puAt ds (i + 1) = puAt ds i ++ [.tr x] := by
  have e : ds.length - 1 - i = 0 := by omega
  rw [e] at hx
  have := puAt_last hx
  rw [show i + 1 = ds.length by omega, this, show ds.length - 1 = i by omega]
theorem flat_rep (b : Bool) : ∀ n, (List.replicate n (D.bl b)).all D.flat = true
  | 0 => rfl
  | n + 1 => by rw [List.replicate_succ, List.all_cons, flat_rep b n]; rfl
theorem isIn_rep : ∀ n, (D.bl false).isIn (List.replicate n (D.bl true)) = false
  | 0 => rfl
  | n + 1 => by
    have h := isIn_rep n
    unfold D.isIn inV at h ⊢
    rw [List.replicate_succ, List.map_cons, List.any_cons, h]
    rfl
theorem csts_mem : ∀ {ds : List D} {d : D}, d ∈ ds → cst d ≤ csts ds
  | e :: r, d, h => by
    simp only [csts]
    rcases List.mem_cons.mp h with rfl | h
    · omega
    · have := csts_mem h
      omega
/-! ### reading back -/
abbrev Fm := List D × List D
def ctk : List Fm → List Tk
  | [] => []
  | f :: F => tktr f.2 ++ (S [41], .str (S [41])) :: ctk F
def plug : List Fm → D → D
  | [], x => x
  | f :: F, x => plug F (.tup (f.1 ++ x :: f.2))
def slotF : List Fm → List D
  | [] => []
  | f :: F => slotF F ++ [.lst f.1]
theorem isTrs_app : ∀ {a b : List D}, isTrs (a ++ b) = true → isTrs a = true ∧ isTrs b = true
  | [], b, h => ⟨rfl, h⟩
  | d :: a, b, h => by
    rw [List.cons_append] at h
    simp only [isTrs, Bool.and_eq_true] at h ⊢
    obtain ⟨h1, h2⟩ := isTrs_app h.2
    exact ⟨⟨h.1, h1⟩, h2⟩
theorem plug_tr : ∀ {F : List Fm} {x : D}, isTr (plug F x) = true → isTr x = true ∧ ∀ f ∈ F, isTrs f.1 = true ∧ isTrs f.2 = true
  | [], x, h => ⟨h, fun f hf => by cases hf⟩
  | f :: F, x, h => by
    obtain ⟨h1, h2⟩ := plug_tr (F := F) h
    obtain ⟨h3, h4⟩ := isTrs_app (show isTrs (f.1 ++ x :: f.2) = true from h1)
    simp only [isTrs, Bool.and_eq_true] at h4
    refine ⟨h4.1, fun g hg => ?_⟩
    rcases List.mem_cons.mp hg with rfl | hg
    · exact ⟨h3, h4.2⟩
    · exact h2 g hg
theorem tkt_head {d : D} (h : isTr d = true) : ∃ tk q, tkt d = tk :: q ∧ tk.2.im = true ∧ ¬ tk.1 = S [41] := by
  cases d <;> first
    | (simp [isTr] at h; done)
    | exact ⟨_, _, rfl, rfl, (by decide +kernel : ¬ kInt = S [41])⟩
    | exact ⟨_, _, rfl, rfl, (by decide +kernel : ¬ kWord = S [41])⟩
    | exact ⟨_, _, rfl, rfl, (by decide +kernel : ¬ S [40] = S [41])⟩
theorem tk_at {ts : List (Int × Tk)} {k : Nat} {tk : Tk} {q : List Tk} (h : (ts.map (·.2)).drop k = tk :: q) : (∃ s, ts[k]? = some (s, tk)) ∧ (ts.map (·.2)).drop (k + 1) = q := by
  have h0 : (ts.map (·.2))[k]? = some tk := by
    have := congrArg (fun l => l[0]?) h
    simpa [List.getElem?_drop] using this
  refine ⟨?_, ?_⟩
  · rw [List.getElem?_map] at h0
    cases hx : ts[k]? with
    | none => rw [hx] at h0; cases h0
    | some x =>
      rw [hx] at h0
      have h0 : x.2 = tk := by simpa using h0
      exact ⟨x.1, by rw [← h0]⟩
  · rw [← List.drop_drop, h]
    rfl
theorem slotF_last (F : List Fm) (f : Fm) : slotF (f :: F) = slotF F ++ [.lst f.1] := rfl
theorem sp5 {d : D} (h : d ∈ [D.str (S []), D.str (S []), D.str (S []), D.str (S [32]), D.str (S [32, 32])]) : ∃ a, a ≤ 2 ∧ d = .str (S (List.replicate a 32)) := by
  simp only [List.mem_cons, List.not_mem_nil, or_false] at h
  rcases h with h | h | h | h | h
  · exact ⟨0, by omega, h⟩
  · exact ⟨0, by omega, h⟩
  · exact ⟨0, by omega, h⟩
  · exact ⟨1, by omega, h⟩
  · exact ⟨2, by omega, h⟩
theorem sp3 {d : D} (h : d ∈ [D.str (S []), D.str (S []), D.str (S [32])]) : ∃ a, a ≤ 1 ∧ d = .str (S (List.replicate a 32)) := by
  simp only [List.mem_cons, List.not_mem_nil, or_false] at h
  rcases h with h | h | h
  · exact ⟨0, by omega, h⟩
  · exact ⟨0, by omega, h⟩
  · exact ⟨1, by omega, h⟩
theorem take_succ {l : List Nat} {i c : Nat} (h : l[i]? = some c) : l.take (i + 1) = l.take i ++ [c] := by
  rw [List.take_add_one, h]
  rfl
theorem cutL_to {α : Type} (ds : List α) (k : Nat) : cutL ds none (some (k : Int)) = ds.take k := by
  unfold cutL
  rw [HT.sIx_none, HT.sIx_nat]
  simp [List.take_eq_take_iff]
theorem cutL_from {α : Type} (ds : List α) (k : Nat) : cutL ds (some (k : Int)) none = ds.drop k := by
  unfold cutL
  rw [HT.sIx_none, HT.sIx_nat]
  by_cases h : k ≤ ds.length
  · rw [Nat.min_eq_left h]
    exact List.take_of_length_le (by rw [List.length_drop] <;> omega)
  · rw [Nat.min_eq_right (by omega), List.drop_length, List.drop_eq_nil_of_le (by omega)]
    simp
theorem txr_app : ∀ a b : List D, txr (a ++ b) = txr a ++ txr b
  | [], b => rfl
  | d :: a, b => by simp [txr, txr_app a b]
theorem txs_le (a : List D) : (txs a).length ≤ (txr a).length := by
  cases a with
  | nil => exact Nat.le_refl _
  | cons d r =>
    simp [txs, txr]
    omega
theorem len_txr : ∀ a : List D, 2 * a.length ≤ (txr a).length
  | [] => Nat.le_refl _
  | d :: r => by
    have := len_txr r
    simp [txr]
    omega
theorem txr_len_app (a b : List D) : (txr (a ++ b)).length = (txr a).length + (txr b).length := by rw [txr_app, List.length_append]
theorem tdps_app : ∀ a b : List D, tdps (a ++ b) = max (tdps a) (tdps b)
  | [], b => by simp [tdps]
  | d :: a, b => by simp only [List.cons_append, tdps, tdps_app a b]; omega
theorem isTrs_app2 {a b : List D} (h : isTrs a = true) (g : isTrs b = true) : isTrs (a ++ b) = true := isTrs_of fun d hd => (List.mem_append.mp hd).elim (isTrs_mem h d) (isTrs_mem g d)
/-- a row, its last items made one -/
theorem row_step {ds : List D} {k : Nat} (h : isTrs ds = true) : isTrs (ds.take k ++ [.tup (ds.drop k)]) = true ∧ tdps (ds.take k ++ [.tup (ds.drop k)]) ≤ tdps ds + 1 ∧ (txr (ds.take k ++ [.tup (ds.drop k)])).length ≤ (txr ds).length + 4 := by
  have e : ds.take k ++ ds.drop k = ds := List.take_append_drop k ds
  have h' := h
  rw [← e] at h'
  obtain ⟨h1, h2⟩ := isTrs_app h'
  have d0 := tdps_app (ds.take k) (ds.drop k)
  rw [e] at d0
  have t0 := txr_len_app (ds.take k) (ds.drop k)
  rw [e] at t0
  have t1 := txs_le (ds.drop k)
  refine ⟨isTrs_app2 h1 (by simp only [isTrs, isTr, h2]; rfl), ?_, ?_⟩
  · rw [tdps_app]
    simp only [tdps, tdp]
    omega
  · rw [txr_len_app]
    simp only [txr, tx, List.length_cons, List.length_append, List.length_nil]
    omega
theorem leaf_int {n : Int} (h : n.natAbs < 10 ^ 21) : isTr (.int n) = true ∧ tdp (.int n) ≤ 1 ∧ (tx (.int n)).length ≤ 25 := by
  refine ⟨?_, by simp [tdp], ?_⟩
  · simp only [isTr, decide_eq_true_eq]
    exact Nat.lt_trans h (by decide)
  · simp only [tx]
    exact Nat.le_trans (itx_len (k := 21) (by decide) h) (by decide)
theorem leaf_word {w : List Nat} (h0 : w ≠ []) (h1 : w.length ≤ 9) (h2 : ∀ c ∈ w, isAl c = true) : isTr (.str (S w)) = true ∧ tdp (.str (S w)) ≤ 1 ∧ (tx (.str (S w))).length ≤ 25 := by
  refine ⟨?_, by simp [tdp], ?_⟩
  · simp only [isTr, word, S_cps, Bool.and_eq_true, decide_eq_true_eq]
    exact ⟨h0, List.all_eq_true.mpr h2⟩
  · simp only [tx, S_cps]
    omega
theorem abc_al {c : Nat} (h : c ∈ abc) : isAl c = true := by
  cases e : isAl c with
  | true => rfl
  | false =>
    have := isAl_out e
    rw [decide_eq_true h] at this
    cases this
theorem ones_flat (l : List Nat) : (l.map fun c => [c]).flatten = l := by
  induction l with
  | nil => rfl
  | cons a r ih => rw [List.map_cons, List.flatten_cons, ih]; rfl
theorem slotF_len : ∀ F : List Fm, (slotF F).length = F.length
  | [] => rfl
  | f :: F => by
    have := slotF_len F
    simp [slotF, this]
theorem TkR.len {l : List Nat} {t : List Tk} (h : TkR l t) : t.length ≤ l.length := by
  induction h with
  | nil => exact Nat.le_refl _
  | sp _ ih => simp only [List.length_cons]; omega
  | sign _ _ ih => simp only [List.length_cons]; omega
  | word hw _ _ _ ih =>
    have := List.length_pos_iff.mpr hw
    simp only [List.length_cons, List.length_append]
    omega
  | int _ _ _ ih =>
    rename_i n r t _ _ _
    obtain ⟨c, q, e, _, _⟩ := itx_head n
    rw [e]
    simp only [List.length_cons, List.length_append]
    omega
theorem ims_app : ∀ {a b : List D}, D.ims a = true → D.ims b = true → D.ims (a ++ b) = true
  | [], b, _, h => h
  | d :: a, b, g, h => by
    rw [List.cons_append]
    simp only [D.ims, Bool.and_eq_true] at g ⊢
    exact ⟨g.1, ims_app g.2 h⟩
theorem sn_get {α : Type} (L : List α) (x : α) : (L ++ [x])[L.length]? = some x := by simp
theorem sn_get1 {α : Type} (L : List α) (x : α) : (L ++ [x])[L.length + 1 - 1]? = some x := by simp
theorem sn_ix (n : Nat) : ixN (n + 1) (-1) = some n := ixN_last (Nat.succ_pos _)
theorem sn_set {α : Type} (L : List α) (x y : α) : (L ++ [x]).set L.length y = L ++ [y] := by simp
theorem sn_drop {α : Type} (L : List α) (x : α) : (L ++ [x]).dropLast = L := by simp
def Sm (d : D) : Prop := isTr d = true ∨ ∃ z, d = .str z
theorem sp2 {d : D} (h : d ∈ [D.str (S []), D.str (S [32])]) : ∃ a, a ≤ 1 ∧ d = .str (S (List.replicate a 32)) := by
  simp only [List.mem_cons, List.not_mem_nil, or_false] at h
  rcases h with h | h
  · exact ⟨0, by omega, h⟩
  · exact ⟨1, by omega, h⟩
theorem sp4 {d : D} (h : d ∈ [D.str (S []), D.str (S []), D.str (S [32, 32])]) : ∃ a, a ≤ 2 ∧ d = .str (S (List.replicate a 32)) := by
  simp only [List.mem_cons, List.not_mem_nil, or_false] at h
  rcases h with h | h | h
  · exact ⟨0, by omega, h⟩
  · exact ⟨0, by omega, h⟩
  · exact ⟨2, by omega, h⟩
def deepD : Nat → D
  | 0 => .tup []
  | n + 1 => .tup [deepD n]
theorem deep_im (n : Nat) : (deepD n).im = true := by
  induction n with
  | zero => rfl
  | succ n ih => simp [deepD, D.im, D.ims, ih]
def kIn : D := .tup [.str (Str.ofString "in"), .int 2, .tup [.tup [.int 1, .int 0]], .tup []]
def kA : D := .tup [.tup [.tup []], .tup [.int 5], .str (Str.ofString "a")]
theorem kIn_tx : tx kIn = [40, 105, 110, 44, 32, 50, 44, 32, 40, 40, 49, 44, 32, 48, 41, 41, 44, 32, 40, 41, 41] := by decide +kernel
theorem kA_tx : tx kA = [40, 40, 40, 41, 41, 44, 32, 40, 53, 41, 44, 32, 97, 41] := by decide +kernel
theorem kIn_tr : isTr kIn = true := by decide +kernel
theorem kA_tr : isTr kA = true := by decide +kernel
theorem deep_tr : isTr (deepD 18) = true := by decide +kernel
theorem deep_len : (tx (deepD 18)).length ≤ 1000 := by decide +kernel
theorem deep_dp : tdp (deepD 18) ≤ 20 := by decide +kernel
end L2.VL
set_option Elab.async false
set_option linter.all false
set_option maxRecDepth 100000
namespace L2.VL.K73
open PySem PySem.Spec PyProof.Rows
theorem fx_Line_0_tokens : fIx "tokens" [] = none := by decide +kernel
theorem fx_Line_0_taken : fIx "taken" [] = none := by decide +kernel
theorem fx_Line_1_tokens : fIx "tokens" ["tokens"] = some 0 := by decide +kernel
theorem fx_Line_1_taken : fIx "taken" ["tokens"] = none := by decide +kernel
theorem fx_Line_2_tokens : fIx "tokens" ["tokens", "taken"] = some 0 := by decide +kernel
theorem fx_Line_2_taken : fIx "taken" ["tokens", "taken"] = some 1 := by decide +kernel
theorem ne_taken_tokens : ((Str.ofString "taken") = (Str.ofString "tokens")) = False := eq_false (by decide +kernel)
theorem ne_tokens_taken : ((Str.ofString "tokens") = (Str.ofString "taken")) = False := eq_false (by decide +kernel)
theorem cs_0 : D.str (Str.ofString "(") = D.str (S [40]) := congrArg D.str (by decide +kernel)
theorem cs_1 : D.str (Str.ofString ")") = D.str (S [41]) := congrArg D.str (by decide +kernel)
theorem cs_2 : D.str (Str.ofString ", ") = D.str (S [44, 32]) := congrArg D.str (by decide +kernel)
theorem cs_3 : D.str (Str.ofString "") = D.str (S []) := congrArg D.str (by decide +kernel)
theorem cs_4 : D.str (Str.ofString ",") = D.str (S [44]) := congrArg D.str (by decide +kernel)
theorem cs_5 : D.str (Str.ofString " ") = D.str (S [32]) := congrArg D.str (by decide +kernel)
theorem cs_6 : D.str (Str.ofString "  ") = D.str (S [32, 32]) := congrArg D.str (by decide +kernel)
theorem cs_7 : D.str (Str.ofString "-") = D.str (S [45]) := congrArg D.str (by decide +kernel)
theorem cs_8 : D.str (Str.ofString "0") = D.str (S [48]) := congrArg D.str (by decide +kernel)
theorem cs_9 : D.str (Str.ofString "(,)") = D.str (S [40, 44, 41]) := congrArg D.str (by decide +kernel)
theorem cs_10 : D.str (Str.ofString "(),:") = D.str (S [40, 41, 44, 58]) := congrArg D.str (by decide +kernel)
theorem cs_11 : D.str (Str.ofString "abcdefghijklmnopqrstuvwxyz") = D.str (S [97, 98, 99, 100, 101, 102, 103, 104, 105, 106, 107, 108, 109, 110, 111, 112, 113, 114, 115, 116, 117, 118, 119, 120, 121, 122]) := congrArg D.str (by decide +kernel)
theorem cs_12 : D.str (Str.ofString "0123456789") = D.str (S [48, 49, 50, 51, 52, 53, 54, 55, 56, 57]) := congrArg D.str (by decide +kernel)
theorem cs_13 : D.str (Str.ofString "(in, 2, ((1, 0)), ())") = D.str (S [40, 105, 110, 44, 32, 50, 44, 32, 40, 40, 49, 44, 32, 48, 41, 41, 44, 32, 40, 41, 41]) := congrArg D.str (by decide +kernel)
theorem cs_14 : D.str (Str.ofString "((()), (5), a)") = D.str (S [40, 40, 40, 41, 41, 44, 32, 40, 53, 41, 44, 32, 97, 41]) := congrArg D.str (by decide +kernel)
def topS (i : Nat) : Stmt := PySem.Challenge.pw_exchangetowers_k73_trees_written_and_rea.main.body.getD i (.Pass ⟨0, 0, 0, 0⟩)
abbrev s__law_draws : Stmt := topS 18
abbrev s__law_take : Stmt := topS 19
abbrev s__law_pick : Stmt := topS 20
abbrev s_run_end : Stmt := topS 8
abbrev s_integer_in : Stmt := topS 9
abbrev s_token_in : Stmt := topS 10
abbrev s_tokens_of : Stmt := topS 11
abbrev s_Line_kind : Stmt := inClass (topS 12) 1
abbrev s_Line_value : Stmt := inClass (topS 12) 2
abbrev s_Line_init : Stmt := inClass (topS 12) 0
abbrev s_Line_take : Stmt := inClass (topS 12) 5
abbrev s_Line_take_one_of : Stmt := inClass (topS 12) 6
abbrev s_write_tree : Stmt := topS 14
abbrev s_take_tree : Stmt := topS 15
abbrev s_read_tree : Stmt := topS 16
abbrev s__law_same : Stmt := topS 21
abbrev s__law_text : Stmt := topS 22
abbrev s__law_spaced : Stmt := topS 23
abbrev s__law_leaf : Stmt := topS 24
abbrev s__law_tree : Stmt := topS 25
abbrev s_law : Stmt := topS 26
theorem sc__law_draws : FnScope ["script", "many", "cells", "left", "draws", "k", "place", "mixed", "cell"] ["script", "many"] (defScope s__law_draws) := ⟨rfl, rfl, rfl, by decide +kernel, rfl, by decide +kernel, by decide +kernel⟩
theorem sc__law_take : FnScope ["draws", "many"] ["draws", "many"] (defScope s__law_take) := ⟨rfl, rfl, rfl, by decide +kernel, rfl, by decide +kernel, by decide +kernel⟩
theorem sc__law_pick : FnScope ["draws", "row"] ["draws", "row"] (defScope s__law_pick) := ⟨rfl, rfl, rfl, by decide +kernel, rfl, by decide +kernel, by decide +kernel⟩
theorem sc_run_end : FnScope ["text", "start", "chars", "end"] ["text", "start", "chars"] (defScope s_run_end) := ⟨rfl, rfl, rfl, by decide +kernel, rfl, by decide +kernel, by decide +kernel⟩
theorem sc_integer_in : FnScope ["text", "start", "first", "end"] ["text", "start"] (defScope s_integer_in) := ⟨rfl, rfl, rfl, by decide +kernel, rfl, by decide +kernel, by decide +kernel⟩
theorem sc_token_in : FnScope ["text", "start", "char", "end"] ["text", "start"] (defScope s_token_in) := ⟨rfl, rfl, rfl, by decide +kernel, rfl, by decide +kernel, by decide +kernel⟩
theorem sc_tokens_of : FnScope ["text", "found", "start", "kind", "value", "end"] ["text"] (defScope s_tokens_of) := ⟨rfl, rfl, rfl, by decide +kernel, rfl, by decide +kernel, by decide +kernel⟩
theorem sc_Line_kind : FnScope ["self"] ["self"] (defScope s_Line_kind) := ⟨rfl, rfl, rfl, by decide +kernel, rfl, by decide +kernel, by decide +kernel⟩
theorem sc_Line_value : FnScope ["self"] ["self"] (defScope s_Line_value) := ⟨rfl, rfl, rfl, by decide +kernel, rfl, by decide +kernel, by decide +kernel⟩
theorem sc_Line_init : FnScope ["self", "text"] ["self", "text"] (defScope s_Line_init) := ⟨rfl, rfl, rfl, by decide +kernel, rfl, by decide +kernel, by decide +kernel⟩
theorem sc_Line_take : FnScope ["self", "kind", "value"] ["self", "kind"] (defScope s_Line_take) := ⟨rfl, rfl, rfl, by decide +kernel, rfl, by decide +kernel, by decide +kernel⟩
theorem sc_Line_take_one_of : FnScope ["self", "kinds"] ["self", "kinds"] (defScope s_Line_take_one_of) := ⟨rfl, rfl, rfl, by decide +kernel, rfl, by decide +kernel, by decide +kernel⟩
theorem sc_write_tree : FnScope ["thing", "parts", "waiting", "is_text", "one", "spot"] ["thing"] (defScope s_write_tree) := ⟨rfl, rfl, rfl, by decide +kernel, rfl, by decide +kernel, by decide +kernel⟩
theorem sc_take_tree : FnScope ["line", "waiting", "found"] ["line"] (defScope s_take_tree) := ⟨rfl, rfl, rfl, by decide +kernel, rfl, by decide +kernel, by decide +kernel⟩
theorem sc_read_tree : FnScope ["text", "line", "found"] ["text"] (defScope s_read_tree) := ⟨rfl, rfl, rfl, by decide +kernel, rfl, by decide +kernel, by decide +kernel⟩
theorem sc__law_same : FnScope ["actual", "due", "k"] ["actual", "due"] (defScope s__law_same) := ⟨rfl, rfl, rfl, by decide +kernel, rfl, by decide +kernel, by decide +kernel⟩
theorem sc__law_text : FnScope ["tree", "told", "left", "turn", "thing", "k"] ["tree"] (defScope s__law_text) := ⟨rfl, rfl, rfl, by decide +kernel, rfl, by decide +kernel, by decide +kernel⟩
theorem sc__law_spaced : FnScope ["draws", "text", "told", "sign"] ["draws", "text"] (defScope s__law_spaced) := ⟨rfl, rfl, rfl, by decide +kernel, rfl, by decide +kernel, by decide +kernel⟩
theorem sc__law_leaf : FnScope ["draws", "great", "pick", "size", "number", "k"] ["draws", "great"] (defScope s__law_leaf) := ⟨rfl, rfl, rfl, by decide +kernel, rfl, by decide +kernel, by decide +kernel⟩
theorem sc__law_tree : FnScope ["draws", "great", "row", "turn", "k"] ["draws", "great"] (defScope s__law_tree) := ⟨rfl, rfl, rfl, by decide +kernel, rfl, by decide +kernel, by decide +kernel⟩
theorem sc_law : FnScope ["script", "draws", "turn", "tree", "text", "told", "loose", "deep"] ["script"] (defScope s_law) := ⟨rfl, rfl, rfl, by decide +kernel, rfl, by decide +kernel, by decide +kernel⟩
/-- what the top has written -/
structure Facts (K : PySem.W.Frag) (mg : Str → Option Value) where
  f__law_draws : Addr
  fd__law_draws : FuncData
  F__law_draws : Fun K "_law_draws" "_law_draws" s__law_draws f__law_draws fd__law_draws
  b__law_draws : Binds K fd__law_draws ["script", "many"] []
  g__law_draws : mg "_law_draws" = some (.ref f__law_draws)
  f__law_take : Addr
  fd__law_take : FuncData
  F__law_take : Fun K "_law_take" "_law_take" s__law_take f__law_take fd__law_take
  b__law_take : Binds K fd__law_take ["draws", "many"] []
  g__law_take : mg "_law_take" = some (.ref f__law_take)
  f__law_pick : Addr
  fd__law_pick : FuncData
  F__law_pick : Fun K "_law_pick" "_law_pick" s__law_pick f__law_pick fd__law_pick
  b__law_pick : Binds K fd__law_pick ["draws", "row"] []
  g__law_pick : mg "_law_pick" = some (.ref f__law_pick)
  f_run_end : Addr
  fd_run_end : FuncData
  F_run_end : Fun K "run_end" "run_end" s_run_end f_run_end fd_run_end
  b_run_end : Binds K fd_run_end ["text", "start", "chars"] []
  g_run_end : mg "run_end" = some (.ref f_run_end)
  f_integer_in : Addr
  fd_integer_in : FuncData
  F_integer_in : Fun K "integer_in" "integer_in" s_integer_in f_integer_in fd_integer_in
  b_integer_in : Binds K fd_integer_in ["text", "start"] []
  g_integer_in : mg "integer_in" = some (.ref f_integer_in)
  f_token_in : Addr
  fd_token_in : FuncData
  F_token_in : Fun K "token_in" "token_in" s_token_in f_token_in fd_token_in
  b_token_in : Binds K fd_token_in ["text", "start"] []
  g_token_in : mg "token_in" = some (.ref f_token_in)
  f_tokens_of : Addr
  fd_tokens_of : FuncData
  F_tokens_of : Fun K "tokens_of" "tokens_of" s_tokens_of f_tokens_of fd_tokens_of
  b_tokens_of : Binds K fd_tokens_of ["text"] []
  g_tokens_of : mg "tokens_of" = some (.ref f_tokens_of)
  f_Line_kind : Addr
  fd_Line_kind : FuncData
  F_Line_kind : Fun K "kind" "Line.kind" s_Line_kind f_Line_kind fd_Line_kind
  b_Line_kind : Binds K fd_Line_kind ["self"] []
  f_Line_value : Addr
  fd_Line_value : FuncData
  F_Line_value : Fun K "value" "Line.value" s_Line_value f_Line_value fd_Line_value
  b_Line_value : Binds K fd_Line_value ["self"] []
  f_Line_init : Addr
  fd_Line_init : FuncData
  F_Line_init : Fun K "__init__" "Line.__init__" s_Line_init f_Line_init fd_Line_init
  b_Line_init : Binds K fd_Line_init ["self", "text"] []
  f_Line_take : Addr
  fd_Line_take : FuncData
  F_Line_take : Fun K "take" "Line.take" s_Line_take f_Line_take fd_Line_take
  b_Line_take : Binds K fd_Line_take ["self", "kind"] []
  f_Line_take_one_of : Addr
  fd_Line_take_one_of : FuncData
  F_Line_take_one_of : Fun K "take_one_of" "Line.take_one_of" s_Line_take_one_of f_Line_take_one_of fd_Line_take_one_of
  b_Line_take_one_of : Binds K fd_Line_take_one_of ["self", "kinds"] []
  f_write_tree : Addr
  fd_write_tree : FuncData
  F_write_tree : Fun K "write_tree" "write_tree" s_write_tree f_write_tree fd_write_tree
  b_write_tree : Binds K fd_write_tree ["thing"] []
  g_write_tree : mg "write_tree" = some (.ref f_write_tree)
  f_take_tree : Addr
  fd_take_tree : FuncData
  F_take_tree : Fun K "take_tree" "take_tree" s_take_tree f_take_tree fd_take_tree
  b_take_tree : Binds K fd_take_tree ["line"] []
  g_take_tree : mg "take_tree" = some (.ref f_take_tree)
  f_read_tree : Addr
  fd_read_tree : FuncData
  F_read_tree : Fun K "read_tree" "read_tree" s_read_tree f_read_tree fd_read_tree
  b_read_tree : Binds K fd_read_tree ["text"] []
  g_read_tree : mg "read_tree" = some (.ref f_read_tree)
  f__law_same : Addr
  fd__law_same : FuncData
  F__law_same : Fun K "_law_same" "_law_same" s__law_same f__law_same fd__law_same
  b__law_same : Binds K fd__law_same ["actual", "due"] []
  g__law_same : mg "_law_same" = some (.ref f__law_same)
  f__law_text : Addr
  fd__law_text : FuncData
  F__law_text : Fun K "_law_text" "_law_text" s__law_text f__law_text fd__law_text
  b__law_text : Binds K fd__law_text ["tree"] []
  g__law_text : mg "_law_text" = some (.ref f__law_text)
  f__law_spaced : Addr
  fd__law_spaced : FuncData
  F__law_spaced : Fun K "_law_spaced" "_law_spaced" s__law_spaced f__law_spaced fd__law_spaced
  b__law_spaced : Binds K fd__law_spaced ["draws", "text"] []
  g__law_spaced : mg "_law_spaced" = some (.ref f__law_spaced)
  f__law_leaf : Addr
  fd__law_leaf : FuncData
  F__law_leaf : Fun K "_law_leaf" "_law_leaf" s__law_leaf f__law_leaf fd__law_leaf
  b__law_leaf : Binds K fd__law_leaf ["draws", "great"] []
  g__law_leaf : mg "_law_leaf" = some (.ref f__law_leaf)
  f__law_tree : Addr
  fd__law_tree : FuncData
  F__law_tree : Fun K "_law_tree" "_law_tree" s__law_tree f__law_tree fd__law_tree
  b__law_tree : Binds K fd__law_tree ["draws", "great"] []
  g__law_tree : mg "_law_tree" = some (.ref f__law_tree)
  f_law : Addr
  fd_law : FuncData
  F_law : Fun K "law" "law" s_law f_law fd_law
  b_law : Binds K fd_law ["script"] []
  g_law : mg "law" = some (.ref f_law)
  C_Line : Addr
  cl_Line : Cls K C_Line
  g_Line : mg "Line" = some (.ref C_Line)
  na_Line_tokens : NoAttr K C_Line "tokens"
  na_Line_taken : NoAttr K C_Line "taken"
  m_Line_kind : Meth K C_Line "kind" f_Line_kind
  m_Line_value : Meth K C_Line "value" f_Line_value
  mk_Line : Mk K C_Line f_Line_init
  m_Line_take : Meth K C_Line "take" f_Line_take
  m_Line_take_one_of : Meth K C_Line "take_one_of" f_Line_take_one_of
  z_bool : mg "bool" = none
  z_int : mg "int" = none
  z_isinstance : mg "isinstance" = none
  z_len : mg "len" = none
  z_list : mg "list" = none
  z_range : mg "range" = none
  z_str : mg "str" = none
  z_tuple : mg "tuple" = none
  c_DIGITS : ∃ u, mg "DIGITS" = some u ∧ RelV (.str "0123456789") u
  c_LETTERS : ∃ u, mg "LETTERS" = some u ∧ RelV (.str "abcdefghijklmnopqrstuvwxyz") u
  c_SIGNS : ∃ u, mg "SIGNS" = some u ∧ RelV (.str "(),:") u
end L2.VL.K73
set_option Elab.async false
set_option linter.all false
set_option maxRecDepth 100000
namespace L2.VL.K73
open PySem PySem.Spec PyProof.Rows
local macro_rules | `(tactic| walk_at "v") => `(tactic| simp only [opt_some, optS_some, optB_some, optI_some, mv_val, mv_plc, mvl_nil, mvl_cons, cMvl_run, getl_nil, getl_cons, cGetl_run, cKons_run, cIm_run, look_run, lookO_run, put_run, putO_run, get_val, get_plc, dlook_nil, dlook_lst, dlook_obj, kidO_run, dput_nil, dput_lst, dput_obj, kidP_run, cR_run, app1_some, app2_some, deep_val, deep_nil, deep_cons, vVar_run, cVar_run, vC_run, vMv_run', cMv'_run, vBin_run, cBin_run, cBin2_run, vTest_run, cTest_run, vUn_run, cUn_run, vAnd_run, cAnd_t, cAnd_f, vOr_run, cOr_t, cOr_f, vNot_run, cNot_run, vAndV_run, cAndV_run, cAndV2_t, cAndV2_f, vOrV_run, cOrV_run, cOrV2_t, cOrV2_f, vNotV_run, cNotV_run, cNotV2_run, vIfE_run, cIfE_t, cIfE_f, vNil_run, vCons_run, cCons_run, cCons2_run, vTup_run, cTup_run, cTup2_run, vLst_run, cLst_run, cLst2_run, vFun_run, cFun_run, cFun2_run, vRM_run, cRM_run, cRM2_run, cRM3_run, cRM4_run, vMut_run, cMut_run, cMut2_run, cMut3_run, cMut4_run, cMut5_run, isL_run, isS_run, vSl_run, cSl_run, cSl2_run, cSl3_run, cSl4_run, voNone_run, voSome_run, cVo_run, ixO_run, vIxP_run, cIxP_run, cIxP2_run, cIxP3_run, vLstRg_run, cLstRg_run, cLstRg2_run, vNext_run, vBreak_run, vCont_run, vSeq_run, vDrop_run, cDrop_run, vRet_run, cRet_run, cRet2_run, vRetN_run, vIf_run, cIf_t, cIf_f, vgN_run, vgNil_run, vgCons_run, cG_run, vgTup_run, vAsg_run, cAsg_run, cAsg2_run, vPar_run, cPar_run, cPar2_run, vAug_run, cAug_run, cAug2_run, cAug3_run, vFor_run, cFor_run, vLc_run, cLc_run, vYes_run, optLst_run, viSlot_run, cSlot_run, cSlot2_run, viVal_run, cVal_run, optTup_run, viTup_run, cTupI_run, cTupI2_run, viR1_run, cR1_run, cR1b_run, viR2_run, cR2_run, cR2b_run, viRD_run, cRD_run, cRDb_run, optStr_run, viStr_run, cStrI_run, cStrI2_run, setO_run, vSetI_run, cSetI_run, cSetI2_run, cSetI3_run, cSetI4_run, cSetI5_run, fldO_run, cF2_run, vFld_run, cFld_run, cFld2_run, objO_run, vSetF_run, cSetF_run, cSetF2_run, cSetF3_run, args_nil, args_f, args_t, cArgs_run, cArgs2_run, back_t, back_tn, back_f, back_nil, back_nil', vCall_run, cCall_run, cCall2_run, cBack_run, objM_run, vMeth_run, cMeth_run, cMeth2_run, vMake_run, cMake_run, cMake2_run, cMake3_run, optI1_run, vChain_run, cCh_run, cCh2_run, chO_run, cCh3_t, cCh3_f, cCh4_run, cCh5_run, augO_run, cAugO_run, cAugO2_run, vAugF_run, cAugF_run, cAugF2_run, cAugF3_run, snocI, snocS, setI, dropI, revI, cWh_t, cWh_f, cLc1_run, cLc2_t, cLc2_f, cLc3_run, cLc4_run, cMap_run, opt_map, atI_map, fIdx_l, fIdx_t, cSgn_run, fIdx_s, fPop_run, cPop_run, fPopAt_run, cPopAt_run, cPopAt2_run, eraseI, fInt_s, cIntS_run, cIsi2_run, fIsi_run, cIsi_run, fIsiT_run, cIsiT_run, cIsiT2_run, fJoin_run, cJoin_run, kb_NoneType_tuple, kb_NoneType_list, kb_NoneType_bool, kb_NoneType_int, kb_NoneType_str, kb_NoneType_dict, kb_bool_tuple, kb_bool_list, kb_bool_bool, kb_bool_int, kb_bool_str, kb_bool_dict, kb_int_tuple, kb_int_list, kb_int_bool, kb_int_int, kb_int_str, kb_int_dict, kb_str_tuple, kb_str_list, kb_str_bool, kb_str_int, kb_str_str, kb_str_dict, kb_list_tuple, kb_list_list, kb_list_bool, kb_list_int, kb_list_str, kb_list_dict, kb_tuple_tuple, kb_tuple_list, kb_tuple_bool, kb_tuple_int, kb_tuple_str, kb_tuple_dict, kb_dict_tuple, kb_dict_list, kb_dict_bool, kb_dict_int, kb_dict_str, kb_dict_dict, kN_nil, kN_cons, orK_t, orK_f, fn_false, fAdd.eq_1, fAdd.eq_2, fAdd.eq_3, fAdd.eq_4, fI2.eq_1, fI20.eq_1, fEq.eq_1, fEq.eq_2, fEq.eq_3, fNe.eq_1, fNe.eq_2, fNe.eq_3, fSl.eq_1, fSl.eq_2, fSl.eq_3, fSl.eq_4, fLen.eq_1, fLen.eq_2, fLen.eq_3, fInt.eq_1, fInt.eq_2, fStr.eq_1, fStr.eq_2, fList.eq_1, fList.eq_2, fTuple.eq_1, fTuple.eq_2, fNeg.eq_1, fAppend.eq_1, fReverse.eq_1, fClear.eq_1, fExtend.eq_1, List.getElem?_map, Option.map_some, Option.map_none, D.isM, D.im, D.ims, D.flat, fIsN, fNotN, D.isNon, D.tyIs, tyNames, putN, putD, wipeE, finP, ims_ints, ims_strs, strs_map, flat_ints, isIn_ints, staysT, CDiv, CPow, CMul, List.getElem?_cons_zero, List.getElem?_cons_succ, List.getElem?_nil, List.set_cons_zero, List.set_cons_succ, List.map_cons, List.map_nil, List.replicate, List.cons_append, List.nil_append, List.append_nil, List.length_cons, List.length_nil, List.length_map, List.all_cons, List.all_nil, List.contains_cons, List.contains_nil, List.elem_cons, List.elem_nil, List.append_eq, List.length_append, true_and, and_true, false_and, and_false, not_true_eq_false, not_false_eq_true, ne_eq, reduceCtorEq, Bool.false_eq_true, false_implies, true_implies, implies_true, forall_const, imp_self, decide_true, decide_false, decide_eq_true_eq, Bool.not_true, Bool.not_false, Bool.or_false, Bool.and_true, Bool.true_and, Bool.false_and, if_true, if_false, ite_true, ite_false, true_or, or_true, false_or, or_false, Nat.add_zero, Nat.zero_add, Nat.reduceAdd, Nat.reduceSub, Nat.reduceEqDiff, beq_self_eq_true, BEq.rfl, Int.zero_add, Nat.reduceBEq, Nat.reduceLeDiff, Nat.reduceLT, Int.reduceLT, Int.reduceLE, Int.reduceToNat, Int.reduceNeg, Option.some.injEq, atI_c0, atI_c1, atI_c2, atI_c3, atI_c4, S_cps, S_len', S_cat', signs_S, fInG_s1, fInG_s0, fInG_l, fInG_t, S_eq1, S_eq2, itx_S, jn0, jn0_len, Int.toNat_natCast, sn_get, sn_get1, sn_ix, sn_set, sn_drop, fx_Line_0_tokens, fx_Line_0_taken, fx_Line_1_tokens, fx_Line_1_taken, fx_Line_2_tokens, fx_Line_2_taken, ne_taken_tokens, ne_tokens_taken, cs_0, cs_1, cs_2, cs_3, cs_4, cs_5, cs_6, cs_7, cs_8, cs_9, cs_10, cs_11, cs_12, cs_13, cs_14])
local macro_rules | `(tactic| walk_at "c") => `(tactic| repeat (refine And.intro (by first | omega | rfl | assumption | decide | decide +kernel) ?_))
local macro_rules | `(tactic| walk_at "vc") => `(tactic| ((try walk_at "v"); walk_at "c"))
section
variable {P : Program} {w : World} {K : PySem.W.Frag} {mg : Str → Option Value} {base : Heap}

def vf__law_draws : VF := fun ds R => ∃ (ns : List Int) (many : Int), ds = [.rol ns, .int many] ∧ 0 ≤ many ∧ many ≤ 100000 ∧ ∀ xs : List Int, xs.length = many.toNat → R (.lst (xs.map D.int)) [some (.rol ns), some (.int many)]
theorem ok__law_draws (T : Facts K mg) : FnOk P w K mg base CX0 1 T.f__law_draws T.fd__law_draws ["script", "many"] (spV K 2 (vf__law_draws)) := by
  refine okV T.F__law_draws sc__law_draws _ fun cdv A outer s H E hr => ⟨_, (vss_cons (vs_setLc (i := 2) (own := [("cell", 8)]) rfl sc__law_draws.nd rfl rfl (sw_true rfl rfl rfl (by decide +kernel)) (vi_val (ve_slice (fun h l u => pe_slice sl_all h l u) (ve_var (pv 0)) vo_none (vo_some ve_int))) (blkOk_by (own := [("cell", 8)]) (N := ["script", "many", "cells", "left", "draws", "k", "place", "mixed", "cell"]) (sc := defScope s__law_draws) (by decide +kernel)) (fun _ _ _ _ _ => (vg_name (pg_name (i := 8) sc__law_draws.nd rfl (.inl rfl)))) (fun _ _ _ _ _ => vts_nil) (fun _ _ _ _ _ => (ve_bin (fun h g => pe_op op_mod h g) o2_int (ve_fun (fun h => pe_callTy call_intA (by rfl) T.z_int (by decide +kernel) h) on_int (va_cons (ve_var (pv 8)) va_nil)) (ve_bin (fun h g => pe_op op_shl h g) o2_int ve_int ve_int))))
      (vss_cons (vs_if (vt_bin (fun h g => pt_cmpR (or_eq hr.units) h g (nomark _)) o2_eq (ve_fun (fun h => pe_callB call_len (by rfl) T.z_len (by decide +kernel) h) on_len (va_cons (ve_var (pv 2)) va_nil)) ve_int) (vss_one (vs_expr (ve_mut (fun ho h => pe_bm PySem.F.plainAttrs_list PySem.F.slot_list_append PySem.F.type_list_append mt_append ho h) ty_l mu_append (ve_var (pv 2)) (va_cons ve_int va_nil)))) vss_nil)
      (vss_cons (vs_set (i := 3) (fun h => ps_set sc__law_draws.nd rfl (.inl rfl) h) (ve_fun (fun h => pe_callTy call_list_of (by rfl) T.z_list (by decide +kernel) h) on_list (va_cons (ve_var (pv 2)) va_nil)))
      (vss_cons (vs_set (i := 4) (fun h => ps_set sc__law_draws.nd rfl (.inl rfl) h) (ve_lst va_nil))
      (vss_cons (vs_for (fun hi hg hb => ps_for PassesOwn.never rfl hi hg hb) (vi_range1 (fun h => pi_range1 (by rfl) T.z_range h) (va_cons (ve_var (pv 1)) va_nil)) (vg_name (pg_name (i := 5) sc__law_draws.nd rfl (.inl rfl))) (vss_cons (vs_set (i := 6) (fun h => ps_set sc__law_draws.nd rfl (.inl rfl) h) (ve_bin (fun h g => pe_op op_mod h g) o2_int (ve_fun (fun h => pe_callTy call_intA (by rfl) T.z_int (by decide +kernel) h) on_int (va_cons (ve_var (pv 5)) va_nil)) (ve_fun (fun h => pe_callB call_len (by rfl) T.z_len (by decide +kernel) h) on_len (va_cons (ve_var (pv 2)) va_nil))))
      (vss_one (vs_if (VW.vt (vw_and (vt_bin (fun h g => pt_cmpR op_ge h g (nomark _)) o2_bl0 (ve_bin (fun h g => pe_ix ix_seq h g (fun _ _ => rfl)) o2_idx (ve_var (pv 2)) (ve_var (pv 6))) (ve_bin (fun h g => pe_op op_pow h g) o2_int ve_int ve_int)) (vw_and1 (vt_bin (fun h g => pt_cmpR op_gt h g (nomark _)) o2_bl0 (ve_bin (fun h g => pe_ix ix_seq h g (fun _ _ => rfl)) o2_idx (ve_var (pv 3)) (ve_var (pv 6))) ve_int)))) (vss_cons (vs_expr (ve_mut (fun ho h => pe_bm PySem.F.plainAttrs_list PySem.F.slot_list_append PySem.F.type_list_append mt_append ho h) ty_l mu_append (ve_var (pv 4)) (va_cons (ve_bin (fun h g => pe_op op_mod h g) o2_int (ve_fun (fun h => pe_callTy call_intA (by rfl) T.z_int (by decide +kernel) h) on_int (va_cons (ve_bin (fun h g => pe_ix ix_seq h g (fun _ _ => rfl)) o2_idx (ve_var (pv 3)) (ve_var (pv 6))) va_nil)) ve_int) va_nil)))
      (vss_one (vs_setI (fun h ho hi => ps_asg h (pg_sub ho hi set_list)) (ve_bin (fun h g => pe_op op_fdiv h g) o2_int (ve_bin (fun h g => pe_ix ix_seq h g (fun _ _ => rfl)) o2_idx (ve_var (pv 3)) (ve_var (pv 6))) ve_int) (ve_var (pv 3)) (ve_var (pv 6))))) (vss_cons (vs_set (i := 7) (fun h => ps_set sc__law_draws.nd rfl (.inl rfl) h) (ve_bin (fun h g => pe_op op_mod h g) o2_int (ve_fun (fun h => pe_callTy call_intA (by rfl) T.z_int (by decide +kernel) h) on_int (va_cons (ve_bin (fun h g => pe_op or_add h g) o2_add (ve_bin (fun h g => pe_op or_add h g) o2_add (ve_bin (fun h g => pe_op op_mul h g) o2_int (ve_bin (fun h g => pe_ix ix_seq h g (fun _ _ => rfl)) o2_idx (ve_var (pv 2)) (ve_var (pv 6))) ve_int) (ve_bin (fun h g => pe_op op_mul h g) o2_int (ve_var (pv 5)) ve_int)) ve_int) va_nil)) ve_int))
      (vss_one (vs_expr (ve_mut (fun ho h => pe_bm PySem.F.plainAttrs_list PySem.F.slot_list_append PySem.F.type_list_append mt_append ho h) ty_l mu_append (ve_var (pv 4)) (va_cons (ve_bin (fun h g => pe_op op_mod h g) o2_int (ve_fun (fun h => pe_callTy call_intA (by rfl) T.z_int (by decide +kernel) h) on_int (va_cons (ve_bin (fun h g => pe_op or_add h g) o2_add (ve_bin (fun h g => pe_op or_add h g) o2_add (ve_bin (fun h g => pe_op op_mul h g) o2_int (ve_var (pv 7)) (ve_var (pv 7))) (ve_bin (fun h g => pe_op op_mul h g) o2_int ve_int (ve_var (pv 7)))) (ve_var (pv 5))) va_nil)) ve_int) va_nil)))))))))
      (vss_cons (vs_expr (ve_mut0 (fun ho => pe_bm0 PySem.F.plainAttrs_list PySem.F.slot_list_reverse PySem.F.type_list_reverse mt_reverse ho) ty_l mu_reverse (ve_var (pv 4))))
      (vss_one (vs_ret (ve_mv (pv 4)))))))))), ?_⟩
  intro ds R _hl hv
  obtain ⟨ns, many, rfl, h0, h1, k⟩ := hv
  walk_at "v"
  refine lcL_i (fun i acc e => ∃ xs : List Int, acc = xs.map D.int ∧ e = [some (.rol ns), some (.int many), none, none, none, none, none, none, none] ∧ xs.length = i) ⟨[], rfl, rfl, rfl⟩ (fun _ _ _ _ => True.intro) ?_ ?_
  · rintro i d acc e hd ⟨xs, rfl, rfl, hl⟩
    obtain ⟨c, hc, rfl⟩ := map_get hd
    have hi := lt_of_get hc
    have h63 := cut63 ns
    walk_at "v"
    refine ⟨?_, ?_, ?_⟩
    · decide
    · decide
    · exact ⟨by omega, xs ++ [_], rfl, by simp [hl]⟩
  · rintro acc e ⟨xs, rfl, rfl, hl⟩
    walk_at "v"
    refine cIf_cut (fun e => ∃ cells : List Int, cells ≠ [] ∧ cells.length ≤ 16777216 ∧ e = [some (.rol ns), some (.int many), some (.lst (cells.map D.int)), none, none, none, none, none, none]) ?_ fun N hN => ?_
    · rintro e ⟨cells, hc, hc2, rfl⟩
      have hp : 0 < cells.length := List.length_pos_iff.mpr hc
      walk_at "v"
      refine ⟨by omega, by omega, forL_r0 (fun i e => ∃ (left draws : List Int) (a b c : Option D), e = [some (.rol ns), some (.int many), some (.lst (cells.map D.int)), some (.lst (left.map D.int)), some (.lst (draws.map D.int)), a, b, c, none] ∧ left.length = cells.length ∧ draws.length = i) ⟨cells, [], none, none, none, rfl, rfl, rfl⟩ ?_ ?_⟩
      · rintro i e hi ⟨left, draws, a, b, c, rfl, hl1, hl2⟩
        walk_at "v"
        have m0 : 0 ≤ (i : Int) % (cells.length : Int) := Int.emod_nonneg _ (by omega)
        have m1 : (i : Int) % (cells.length : Int) < cells.length := Int.emod_lt_of_pos _ (by omega)
        refine ⟨by omega, ?_⟩
        obtain ⟨x, hx, _, _⟩ := atI_ex m0 m1
        obtain ⟨y, hy, _, _⟩ := atI_ex (xs := left) m0 (by omega)
        rw [hx]
        have q0 : 0 ≤ (x * 48271 + ↑i * 69621 + 11) % 2147483647 := Int.emod_nonneg _ (by decide)
        have q1 : (x * 48271 + ↑i * 69621 + 11) % 2147483647 < 2147483647 := Int.emod_lt_of_pos _ (by decide)
        walk_at "vc"
        refine cAnd_d (fun h => ?_) fun h => ?_
        · walk_at "v"
          rw [hy]
          walk_at "v"
          refine cIf_d (fun h => ?_) fun h => ?_
          · walk_at "v"
            rw [hy]
            walk_at "vc"
            rw [hy]
            walk_at "vc"
            refine ⟨_, ixN_int m0 (by omega), ?_⟩
            walk_at "v"
            exact ⟨_, _, _, _, _, rfl, by simp [hl1], by simp [hl2]⟩
          · walk_at "v"
            rw [hx]
            walk_at "vc"
            exact ⟨_, _, _, _, _, rfl, hl1, by simp [hl2]⟩
        · walk_at "v"
          rw [hx]
          walk_at "vc"
          exact ⟨_, _, _, _, _, rfl, hl1, by simp [hl2]⟩
      · rintro e ⟨left, draws, a, b, c, rfl, hl1, hl2⟩
        walk_at "v"
        exact k _ (by simp [hl2])
    · refine cIf_d (fun h => ?_) fun h => ?_
      · have : xs = [] := List.eq_nil_of_length_eq_zero (by omega)
        subst this
        walk_at "v"
        exact hN _ ⟨[0], by simp, by simp, rfl⟩
      · walk_at "v"
        have h63 := cut63 ns
        exact hN _ ⟨xs, fun z => h (by rw [z]; rfl), by simp at hl; omega, rfl⟩
end
end L2.VL.K73
set_option Elab.async false
set_option linter.all false
set_option maxRecDepth 100000
namespace L2.VL.K73
open PySem PySem.Spec PyProof.Rows
local macro_rules | `(tactic| walk_at "v") => `(tactic| simp only [opt_some, optS_some, optB_some, optI_some, mv_val, mv_plc, mvl_nil, mvl_cons, cMvl_run, getl_nil, getl_cons, cGetl_run, cKons_run, cIm_run, look_run, lookO_run, put_run, putO_run, get_val, get_plc, dlook_nil, dlook_lst, dlook_obj, kidO_run, dput_nil, dput_lst, dput_obj, kidP_run, cR_run, app1_some, app2_some, deep_val, deep_nil, deep_cons, vVar_run, cVar_run, vC_run, vMv_run', cMv'_run, vBin_run, cBin_run, cBin2_run, vTest_run, cTest_run, vUn_run, cUn_run, vAnd_run, cAnd_t, cAnd_f, vOr_run, cOr_t, cOr_f, vNot_run, cNot_run, vAndV_run, cAndV_run, cAndV2_t, cAndV2_f, vOrV_run, cOrV_run, cOrV2_t, cOrV2_f, vNotV_run, cNotV_run, cNotV2_run, vIfE_run, cIfE_t, cIfE_f, vNil_run, vCons_run, cCons_run, cCons2_run, vTup_run, cTup_run, cTup2_run, vLst_run, cLst_run, cLst2_run, vFun_run, cFun_run, cFun2_run, vRM_run, cRM_run, cRM2_run, cRM3_run, cRM4_run, vMut_run, cMut_run, cMut2_run, cMut3_run, cMut4_run, cMut5_run, isL_run, isS_run, vSl_run, cSl_run, cSl2_run, cSl3_run, cSl4_run, voNone_run, voSome_run, cVo_run, ixO_run, vIxP_run, cIxP_run, cIxP2_run, cIxP3_run, vLstRg_run, cLstRg_run, cLstRg2_run, vNext_run, vBreak_run, vCont_run, vSeq_run, vDrop_run, cDrop_run, vRet_run, cRet_run, cRet2_run, vRetN_run, vIf_run, cIf_t, cIf_f, vgN_run, vgNil_run, vgCons_run, cG_run, vgTup_run, vAsg_run, cAsg_run, cAsg2_run, vPar_run, cPar_run, cPar2_run, vAug_run, cAug_run, cAug2_run, cAug3_run, vFor_run, cFor_run, vLc_run, cLc_run, vYes_run, optLst_run, viSlot_run, cSlot_run, cSlot2_run, viVal_run, cVal_run, optTup_run, viTup_run, cTupI_run, cTupI2_run, viR1_run, cR1_run, cR1b_run, viR2_run, cR2_run, cR2b_run, viRD_run, cRD_run, cRDb_run, optStr_run, viStr_run, cStrI_run, cStrI2_run, setO_run, vSetI_run, cSetI_run, cSetI2_run, cSetI3_run, cSetI4_run, cSetI5_run, fldO_run, cF2_run, vFld_run, cFld_run, cFld2_run, objO_run, vSetF_run, cSetF_run, cSetF2_run, cSetF3_run, args_nil, args_f, args_t, cArgs_run, cArgs2_run, back_t, back_tn, back_f, back_nil, back_nil', vCall_run, cCall_run, cCall2_run, cBack_run, objM_run, vMeth_run, cMeth_run, cMeth2_run, vMake_run, cMake_run, cMake2_run, cMake3_run, optI1_run, vChain_run, cCh_run, cCh2_run, chO_run, cCh3_t, cCh3_f, cCh4_run, cCh5_run, augO_run, cAugO_run, cAugO2_run, vAugF_run, cAugF_run, cAugF2_run, cAugF3_run, snocI, snocS, setI, dropI, revI, cWh_t, cWh_f, cLc1_run, cLc2_t, cLc2_f, cLc3_run, cLc4_run, cMap_run, opt_map, atI_map, fIdx_l, fIdx_t, cSgn_run, fIdx_s, fPop_run, cPop_run, fPopAt_run, cPopAt_run, cPopAt2_run, eraseI, fInt_s, cIntS_run, cIsi2_run, fIsi_run, cIsi_run, fIsiT_run, cIsiT_run, cIsiT2_run, fJoin_run, cJoin_run, kb_NoneType_tuple, kb_NoneType_list, kb_NoneType_bool, kb_NoneType_int, kb_NoneType_str, kb_NoneType_dict, kb_bool_tuple, kb_bool_list, kb_bool_bool, kb_bool_int, kb_bool_str, kb_bool_dict, kb_int_tuple, kb_int_list, kb_int_bool, kb_int_int, kb_int_str, kb_int_dict, kb_str_tuple, kb_str_list, kb_str_bool, kb_str_int, kb_str_str, kb_str_dict, kb_list_tuple, kb_list_list, kb_list_bool, kb_list_int, kb_list_str, kb_list_dict, kb_tuple_tuple, kb_tuple_list, kb_tuple_bool, kb_tuple_int, kb_tuple_str, kb_tuple_dict, kb_dict_tuple, kb_dict_list, kb_dict_bool, kb_dict_int, kb_dict_str, kb_dict_dict, kN_nil, kN_cons, orK_t, orK_f, fn_false, fAdd.eq_1, fAdd.eq_2, fAdd.eq_3, fAdd.eq_4, fI2.eq_1, fI20.eq_1, fEq.eq_1, fEq.eq_2, fEq.eq_3, fNe.eq_1, fNe.eq_2, fNe.eq_3, fSl.eq_1, fSl.eq_2, fSl.eq_3, fSl.eq_4, fLen.eq_1, fLen.eq_2, fLen.eq_3, fInt.eq_1, fInt.eq_2, fStr.eq_1, fStr.eq_2, fList.eq_1, fList.eq_2, fTuple.eq_1, fTuple.eq_2, fNeg.eq_1, fAppend.eq_1, fReverse.eq_1, fClear.eq_1, fExtend.eq_1, List.getElem?_map, Option.map_some, Option.map_none, D.isM, D.im, D.ims, D.flat, fIsN, fNotN, D.isNon, D.tyIs, tyNames, putN, putD, wipeE, finP, ims_ints, ims_strs, strs_map, flat_ints, isIn_ints, staysT, CDiv, CPow, CMul, List.getElem?_cons_zero, List.getElem?_cons_succ, List.getElem?_nil, List.set_cons_zero, List.set_cons_succ, List.map_cons, List.map_nil, List.replicate, List.cons_append, List.nil_append, List.append_nil, List.length_cons, List.length_nil, List.length_map, List.all_cons, List.all_nil, List.contains_cons, List.contains_nil, List.elem_cons, List.elem_nil, List.append_eq, List.length_append, true_and, and_true, false_and, and_false, not_true_eq_false, not_false_eq_true, ne_eq, reduceCtorEq, Bool.false_eq_true, false_implies, true_implies, implies_true, forall_const, imp_self, decide_true, decide_false, decide_eq_true_eq, Bool.not_true, Bool.not_false, Bool.or_false, Bool.and_true, Bool.true_and, Bool.false_and, if_true, if_false, ite_true, ite_false, true_or, or_true, false_or, or_false, Nat.add_zero, Nat.zero_add, Nat.reduceAdd, Nat.reduceSub, Nat.reduceEqDiff, beq_self_eq_true, BEq.rfl, Int.zero_add, Nat.reduceBEq, Nat.reduceLeDiff, Nat.reduceLT, Int.reduceLT, Int.reduceLE, Int.reduceToNat, Int.reduceNeg, Option.some.injEq, atI_c0, atI_c1, atI_c2, atI_c3, atI_c4, S_cps, S_len', S_cat', signs_S, fInG_s1, fInG_s0, fInG_l, fInG_t, S_eq1, S_eq2, itx_S, jn0, jn0_len, Int.toNat_natCast, sn_get, sn_get1, sn_ix, sn_set, sn_drop, fx_Line_0_tokens, fx_Line_0_taken, fx_Line_1_tokens, fx_Line_1_taken, fx_Line_2_tokens, fx_Line_2_taken, ne_taken_tokens, ne_tokens_taken, cs_0, cs_1, cs_2, cs_3, cs_4, cs_5, cs_6, cs_7, cs_8, cs_9, cs_10, cs_11, cs_12, cs_13, cs_14])
local macro_rules | `(tactic| walk_at "c") => `(tactic| repeat (refine And.intro (by first | omega | rfl | assumption | decide | decide +kernel) ?_))
local macro_rules | `(tactic| walk_at "vc") => `(tactic| ((try walk_at "v"); walk_at "c"))
section
variable {P : Program} {w : World} {K : PySem.W.Frag} {mg : Str → Option Value} {base : Heap}

def vf__law_take : VF := fun ds R => ∃ (xs : List Int) (many : Int), ds = [.lst (xs.map D.int), .int many] ∧ 0 < many ∧ ∀ (ys : List Int) (k : Int), 0 ≤ k → k < many → R (.int k) [some (.lst (ys.map D.int)), some (.int many)]
theorem ok__law_take (T : Facts K mg) : FnOk P w K mg base CX0 1 T.f__law_take T.fd__law_take ["draws", "many"] (spV K 2 (vf__law_take)) := by
  refine okV T.F__law_take sc__law_take _ fun cdv A outer s H E hr => ⟨_, (vss_cons (vs_if (vt_bin (fun h g => pt_cmpR (or_eq hr.units) h g (nomark _)) o2_eq (ve_fun (fun h => pe_callB call_len (by rfl) T.z_len (by decide +kernel) h) on_len (va_cons (ve_var (pv 0)) va_nil)) ve_int) (vss_one (vs_ret ve_int)) vss_nil)
      (vss_one (vs_ret (ve_bin (fun h g => pe_op op_mod h g) o2_int (ve_fun (fun h => pe_callTy call_intA (by rfl) T.z_int (by decide +kernel) h) on_int (va_cons (ve_mut0 (fun ho => pe_bm0 PySem.F.plainAttrs_list PySem.F.slot_list_pop PySem.F.type_list_pop mt_pop ho) ty_l mu_pop (ve_var (pv 0))) va_nil)) (ve_var (pv 1)))))), ?_⟩
  intro ds R _hl hv
  obtain ⟨xs, many, rfl, hm, k⟩ := hv
  walk_at "v"
  refine cIf_d (fun h => ?_) fun h => ?_
  · walk_at "v"
    exact k xs 0 (by omega) hm
  · have hx : xs ≠ [] := fun z => h (by rw [z]; rfl)
    obtain ⟨a, ha⟩ := last_some hx
    walk_at "v"
    rw [ha]
    walk_at "vc"
    exact k _ _ (Int.emod_nonneg _ (by omega)) (Int.emod_lt_of_pos _ hm)
end
end L2.VL.K73
set_option Elab.async false
set_option linter.all false
set_option maxRecDepth 100000
namespace L2.VL.K73
open PySem PySem.Spec PyProof.Rows
local macro_rules | `(tactic| walk_at "v") => `(tactic| simp only [opt_some, optS_some, optB_some, optI_some, mv_val, mv_plc, mvl_nil, mvl_cons, cMvl_run, getl_nil, getl_cons, cGetl_run, cKons_run, cIm_run, look_run, lookO_run, put_run, putO_run, get_val, get_plc, dlook_nil, dlook_lst, dlook_obj, kidO_run, dput_nil, dput_lst, dput_obj, kidP_run, cR_run, app1_some, app2_some, deep_val, deep_nil, deep_cons, vVar_run, cVar_run, vC_run, vMv_run', cMv'_run, vBin_run, cBin_run, cBin2_run, vTest_run, cTest_run, vUn_run, cUn_run, vAnd_run, cAnd_t, cAnd_f, vOr_run, cOr_t, cOr_f, vNot_run, cNot_run, vAndV_run, cAndV_run, cAndV2_t, cAndV2_f, vOrV_run, cOrV_run, cOrV2_t, cOrV2_f, vNotV_run, cNotV_run, cNotV2_run, vIfE_run, cIfE_t, cIfE_f, vNil_run, vCons_run, cCons_run, cCons2_run, vTup_run, cTup_run, cTup2_run, vLst_run, cLst_run, cLst2_run, vFun_run, cFun_run, cFun2_run, vRM_run, cRM_run, cRM2_run, cRM3_run, cRM4_run, vMut_run, cMut_run, cMut2_run, cMut3_run, cMut4_run, cMut5_run, isL_run, isS_run, vSl_run, cSl_run, cSl2_run, cSl3_run, cSl4_run, voNone_run, voSome_run, cVo_run, ixO_run, vIxP_run, cIxP_run, cIxP2_run, cIxP3_run, vLstRg_run, cLstRg_run, cLstRg2_run, vNext_run, vBreak_run, vCont_run, vSeq_run, vDrop_run, cDrop_run, vRet_run, cRet_run, cRet2_run, vRetN_run, vIf_run, cIf_t, cIf_f, vgN_run, vgNil_run, vgCons_run, cG_run, vgTup_run, vAsg_run, cAsg_run, cAsg2_run, vPar_run, cPar_run, cPar2_run, vAug_run, cAug_run, cAug2_run, cAug3_run, vFor_run, cFor_run, vLc_run, cLc_run, vYes_run, optLst_run, viSlot_run, cSlot_run, cSlot2_run, viVal_run, cVal_run, optTup_run, viTup_run, cTupI_run, cTupI2_run, viR1_run, cR1_run, cR1b_run, viR2_run, cR2_run, cR2b_run, viRD_run, cRD_run, cRDb_run, optStr_run, viStr_run, cStrI_run, cStrI2_run, setO_run, vSetI_run, cSetI_run, cSetI2_run, cSetI3_run, cSetI4_run, cSetI5_run, fldO_run, cF2_run, vFld_run, cFld_run, cFld2_run, objO_run, vSetF_run, cSetF_run, cSetF2_run, cSetF3_run, args_nil, args_f, args_t, cArgs_run, cArgs2_run, back_t, back_tn, back_f, back_nil, back_nil', vCall_run, cCall_run, cCall2_run, cBack_run, objM_run, vMeth_run, cMeth_run, cMeth2_run, vMake_run, cMake_run, cMake2_run, cMake3_run, optI1_run, vChain_run, cCh_run, cCh2_run, chO_run, cCh3_t, cCh3_f, cCh4_run, cCh5_run, augO_run, cAugO_run, cAugO2_run, vAugF_run, cAugF_run, cAugF2_run, cAugF3_run, snocI, snocS, setI, dropI, revI, cWh_t, cWh_f, cLc1_run, cLc2_t, cLc2_f, cLc3_run, cLc4_run, cMap_run, opt_map, atI_map, fIdx_l, fIdx_t, cSgn_run, fIdx_s, fPop_run, cPop_run, fPopAt_run, cPopAt_run, cPopAt2_run, eraseI, fInt_s, cIntS_run, cIsi2_run, fIsi_run, cIsi_run, fIsiT_run, cIsiT_run, cIsiT2_run, fJoin_run, cJoin_run, kb_NoneType_tuple, kb_NoneType_list, kb_NoneType_bool, kb_NoneType_int, kb_NoneType_str, kb_NoneType_dict, kb_bool_tuple, kb_bool_list, kb_bool_bool, kb_bool_int, kb_bool_str, kb_bool_dict, kb_int_tuple, kb_int_list, kb_int_bool, kb_int_int, kb_int_str, kb_int_dict, kb_str_tuple, kb_str_list, kb_str_bool, kb_str_int, kb_str_str, kb_str_dict, kb_list_tuple, kb_list_list, kb_list_bool, kb_list_int, kb_list_str, kb_list_dict, kb_tuple_tuple, kb_tuple_list, kb_tuple_bool, kb_tuple_int, kb_tuple_str, kb_tuple_dict, kb_dict_tuple, kb_dict_list, kb_dict_bool, kb_dict_int, kb_dict_str, kb_dict_dict, kN_nil, kN_cons, orK_t, orK_f, fn_false, fAdd.eq_1, fAdd.eq_2, fAdd.eq_3, fAdd.eq_4, fI2.eq_1, fI20.eq_1, fEq.eq_1, fEq.eq_2, fEq.eq_3, fNe.eq_1, fNe.eq_2, fNe.eq_3, fSl.eq_1, fSl.eq_2, fSl.eq_3, fSl.eq_4, fLen.eq_1, fLen.eq_2, fLen.eq_3, fInt.eq_1, fInt.eq_2, fStr.eq_1, fStr.eq_2, fList.eq_1, fList.eq_2, fTuple.eq_1, fTuple.eq_2, fNeg.eq_1, fAppend.eq_1, fReverse.eq_1, fClear.eq_1, fExtend.eq_1, List.getElem?_map, Option.map_some, Option.map_none, D.isM, D.im, D.ims, D.flat, fIsN, fNotN, D.isNon, D.tyIs, tyNames, putN, putD, wipeE, finP, ims_ints, ims_strs, strs_map, flat_ints, isIn_ints, staysT, CDiv, CPow, CMul, List.getElem?_cons_zero, List.getElem?_cons_succ, List.getElem?_nil, List.set_cons_zero, List.set_cons_succ, List.map_cons, List.map_nil, List.replicate, List.cons_append, List.nil_append, List.append_nil, List.length_cons, List.length_nil, List.length_map, List.all_cons, List.all_nil, List.contains_cons, List.contains_nil, List.elem_cons, List.elem_nil, List.append_eq, List.length_append, true_and, and_true, false_and, and_false, not_true_eq_false, not_false_eq_true, ne_eq, reduceCtorEq, Bool.false_eq_true, false_implies, true_implies, implies_true, forall_const, imp_self, decide_true, decide_false, decide_eq_true_eq, Bool.not_true, Bool.not_false, Bool.or_false, Bool.and_true, Bool.true_and, Bool.false_and, if_true, if_false, ite_true, ite_false, true_or, or_true, false_or, or_false, Nat.add_zero, Nat.zero_add, Nat.reduceAdd, Nat.reduceSub, Nat.reduceEqDiff, beq_self_eq_true, BEq.rfl, Int.zero_add, Nat.reduceBEq, Nat.reduceLeDiff, Nat.reduceLT, Int.reduceLT, Int.reduceLE, Int.reduceToNat, Int.reduceNeg, Option.some.injEq, atI_c0, atI_c1, atI_c2, atI_c3, atI_c4, S_cps, S_len', S_cat', signs_S, fInG_s1, fInG_s0, fInG_l, fInG_t, S_eq1, S_eq2, itx_S, jn0, jn0_len, Int.toNat_natCast, sn_get, sn_get1, sn_ix, sn_set, sn_drop, fx_Line_0_tokens, fx_Line_0_taken, fx_Line_1_tokens, fx_Line_1_taken, fx_Line_2_tokens, fx_Line_2_taken, ne_taken_tokens, ne_tokens_taken, cs_0, cs_1, cs_2, cs_3, cs_4, cs_5, cs_6, cs_7, cs_8, cs_9, cs_10, cs_11, cs_12, cs_13, cs_14])
local macro_rules | `(tactic| walk_at "c") => `(tactic| repeat (refine And.intro (by first | omega | rfl | assumption | decide | decide +kernel) ?_))
local macro_rules | `(tactic| walk_at "vc") => `(tactic| ((try walk_at "v"); walk_at "c"))
section
variable {P : Program} {w : World} {K : PySem.W.Frag} {mg : Str → Option Value} {base : Heap}

def vf__law_pick : VF := fun ds R => ∃ (xs : List Int) (row : List D), ds = [.lst (xs.map D.int), .lst row] ∧ row ≠ [] ∧ D.ims row = true ∧ ∀ (ys : List Int) (d : D), d ∈ row → R d [some (.lst (ys.map D.int)), some (.lst row)]
theorem ok__law_pick (T : Facts K mg) : FnOk P w K mg base CX0 2 T.f__law_pick T.fd__law_pick ["draws", "row"] (spV K 2 (vf__law_pick)) := by
  refine okV T.F__law_pick sc__law_pick _ fun cdv A outer s H E hr => ⟨_, (vss_one (vs_ret (ve_bin (fun h g => pe_ix ix_seq h g (fun _ _ => rfl)) o2_idx (ve_var (pv 1)) (ve_call [true, false] (fun h => pe_call (ok__law_take T) (hr.mono (by omega)) (by rfl) T.g__law_take T.F__law_take.kp T.b__law_take .nil pass0 h) (va_cons (ve_var (pv 0)) (va_cons (ve_fun (fun h => pe_callB call_len (by rfl) T.z_len (by decide +kernel) h) on_len (va_cons (ve_var (pv 1)) va_nil)) va_nil)))))), ?_⟩
  intro ds R _hl hv
  obtain ⟨xs, row, rfl, hn, hi, k⟩ := hv
  walk_at "v"
  have hp : 0 < row.length := List.length_pos_iff.mpr hn
  refine ⟨xs, row.length, rfl, by omega, fun ys j j0 j1 => ?_⟩
  obtain ⟨d, hd, _, hm⟩ := atI_ex j0 j1
  walk_at "v"
  rw [hd]
  walk_at "v"
  exact ⟨ims_mem hi d hm, k ys d hm⟩
end
end L2.VL.K73
set_option Elab.async false
set_option linter.all false
set_option maxRecDepth 100000
namespace L2.VL.K73
open PySem PySem.Spec PyProof.Rows
local macro_rules | `(tactic| walk_at "v") => `(tactic| simp only [opt_some, optS_some, optB_some, optI_some, mv_val, mv_plc, mvl_nil, mvl_cons, cMvl_run, getl_nil, getl_cons, cGetl_run, cKons_run, cIm_run, look_run, lookO_run, put_run, putO_run, get_val, get_plc, dlook_nil, dlook_lst, dlook_obj, kidO_run, dput_nil, dput_lst, dput_obj, kidP_run, cR_run, app1_some, app2_some, deep_val, deep_nil, deep_cons, vVar_run, cVar_run, vC_run, vMv_run', cMv'_run, vBin_run, cBin_run, cBin2_run, vTest_run, cTest_run, vUn_run, cUn_run, vAnd_run, cAnd_t, cAnd_f, vOr_run, cOr_t, cOr_f, vNot_run, cNot_run, vAndV_run, cAndV_run, cAndV2_t, cAndV2_f, vOrV_run, cOrV_run, cOrV2_t, cOrV2_f, vNotV_run, cNotV_run, cNotV2_run, vIfE_run, cIfE_t, cIfE_f, vNil_run, vCons_run, cCons_run, cCons2_run, vTup_run, cTup_run, cTup2_run, vLst_run, cLst_run, cLst2_run, vFun_run, cFun_run, cFun2_run, vRM_run, cRM_run, cRM2_run, cRM3_run, cRM4_run, vMut_run, cMut_run, cMut2_run, cMut3_run, cMut4_run, cMut5_run, isL_run, isS_run, vSl_run, cSl_run, cSl2_run, cSl3_run, cSl4_run, voNone_run, voSome_run, cVo_run, ixO_run, vIxP_run, cIxP_run, cIxP2_run, cIxP3_run, vLstRg_run, cLstRg_run, cLstRg2_run, vNext_run, vBreak_run, vCont_run, vSeq_run, vDrop_run, cDrop_run, vRet_run, cRet_run, cRet2_run, vRetN_run, vIf_run, cIf_t, cIf_f, vgN_run, vgNil_run, vgCons_run, cG_run, vgTup_run, vAsg_run, cAsg_run, cAsg2_run, vPar_run, cPar_run, cPar2_run, vAug_run, cAug_run, cAug2_run, cAug3_run, vFor_run, cFor_run, vLc_run, cLc_run, vYes_run, optLst_run, viSlot_run, cSlot_run, cSlot2_run, viVal_run, cVal_run, optTup_run, viTup_run, cTupI_run, cTupI2_run, viR1_run, cR1_run, cR1b_run, viR2_run, cR2_run, cR2b_run, viRD_run, cRD_run, cRDb_run, optStr_run, viStr_run, cStrI_run, cStrI2_run, setO_run, vSetI_run, cSetI_run, cSetI2_run, cSetI3_run, cSetI4_run, cSetI5_run, fldO_run, cF2_run, vFld_run, cFld_run, cFld2_run, objO_run, vSetF_run, cSetF_run, cSetF2_run, cSetF3_run, args_nil, args_f, args_t, cArgs_run, cArgs2_run, back_t, back_tn, back_f, back_nil, back_nil', vCall_run, cCall_run, cCall2_run, cBack_run, objM_run, vMeth_run, cMeth_run, cMeth2_run, vMake_run, cMake_run, cMake2_run, cMake3_run, optI1_run, vChain_run, cCh_run, cCh2_run, chO_run, cCh3_t, cCh3_f, cCh4_run, cCh5_run, augO_run, cAugO_run, cAugO2_run, vAugF_run, cAugF_run, cAugF2_run, cAugF3_run, snocI, snocS, setI, dropI, revI, cWh_t, cWh_f, cLc1_run, cLc2_t, cLc2_f, cLc3_run, cLc4_run, cMap_run, opt_map, atI_map, fIdx_l, fIdx_t, cSgn_run, fIdx_s, fPop_run, cPop_run, fPopAt_run, cPopAt_run, cPopAt2_run, eraseI, fInt_s, cIntS_run, cIsi2_run, fIsi_run, cIsi_run, fIsiT_run, cIsiT_run, cIsiT2_run, fJoin_run, cJoin_run, kb_NoneType_tuple, kb_NoneType_list, kb_NoneType_bool, kb_NoneType_int, kb_NoneType_str, kb_NoneType_dict, kb_bool_tuple, kb_bool_list, kb_bool_bool, kb_bool_int, kb_bool_str, kb_bool_dict, kb_int_tuple, kb_int_list, kb_int_bool, kb_int_int, kb_int_str, kb_int_dict, kb_str_tuple, kb_str_list, kb_str_bool, kb_str_int, kb_str_str, kb_str_dict, kb_list_tuple, kb_list_list, kb_list_bool, kb_list_int, kb_list_str, kb_list_dict, kb_tuple_tuple, kb_tuple_list, kb_tuple_bool, kb_tuple_int, kb_tuple_str, kb_tuple_dict, kb_dict_tuple, kb_dict_list, kb_dict_bool, kb_dict_int, kb_dict_str, kb_dict_dict, kN_nil, kN_cons, orK_t, orK_f, fn_false, fAdd.eq_1, fAdd.eq_2, fAdd.eq_3, fAdd.eq_4, fI2.eq_1, fI20.eq_1, fEq.eq_1, fEq.eq_2, fEq.eq_3, fNe.eq_1, fNe.eq_2, fNe.eq_3, fSl.eq_1, fSl.eq_2, fSl.eq_3, fSl.eq_4, fLen.eq_1, fLen.eq_2, fLen.eq_3, fInt.eq_1, fInt.eq_2, fStr.eq_1, fStr.eq_2, fList.eq_1, fList.eq_2, fTuple.eq_1, fTuple.eq_2, fNeg.eq_1, fAppend.eq_1, fReverse.eq_1, fClear.eq_1, fExtend.eq_1, List.getElem?_map, Option.map_some, Option.map_none, D.isM, D.im, D.ims, D.flat, fIsN, fNotN, D.isNon, D.tyIs, tyNames, putN, putD, wipeE, finP, ims_ints, ims_strs, strs_map, flat_ints, isIn_ints, staysT, CDiv, CPow, CMul, List.getElem?_cons_zero, List.getElem?_cons_succ, List.getElem?_nil, List.set_cons_zero, List.set_cons_succ, List.map_cons, List.map_nil, List.replicate, List.cons_append, List.nil_append, List.append_nil, List.length_cons, List.length_nil, List.length_map, List.all_cons, List.all_nil, List.contains_cons, List.contains_nil, List.elem_cons, List.elem_nil, List.append_eq, List.length_append, true_and, and_true, false_and, and_false, not_true_eq_false, not_false_eq_true, ne_eq, reduceCtorEq, Bool.false_eq_true, false_implies, true_implies, implies_true, forall_const, imp_self, decide_true, decide_false, decide_eq_true_eq, Bool.not_true, Bool.not_false, Bool.or_false, Bool.and_true, Bool.true_and, Bool.false_and, if_true, if_false, ite_true, ite_false, true_or, or_true, false_or, or_false, Nat.add_zero, Nat.zero_add, Nat.reduceAdd, Nat.reduceSub, Nat.reduceEqDiff, beq_self_eq_true, BEq.rfl, Int.zero_add, Nat.reduceBEq, Nat.reduceLeDiff, Nat.reduceLT, Int.reduceLT, Int.reduceLE, Int.reduceToNat, Int.reduceNeg, Option.some.injEq, atI_c0, atI_c1, atI_c2, atI_c3, atI_c4, S_cps, S_len', S_cat', signs_S, fInG_s1, fInG_s0, fInG_l, fInG_t, S_eq1, S_eq2, itx_S, jn0, jn0_len, Int.toNat_natCast, sn_get, sn_get1, sn_ix, sn_set, sn_drop, fx_Line_0_tokens, fx_Line_0_taken, fx_Line_1_tokens, fx_Line_1_taken, fx_Line_2_tokens, fx_Line_2_taken, ne_taken_tokens, ne_tokens_taken, cs_0, cs_1, cs_2, cs_3, cs_4, cs_5, cs_6, cs_7, cs_8, cs_9, cs_10, cs_11, cs_12, cs_13, cs_14])
local macro_rules | `(tactic| walk_at "c") => `(tactic| repeat (refine And.intro (by first | omega | rfl | assumption | decide | decide +kernel) ?_))
local macro_rules | `(tactic| walk_at "vc") => `(tactic| ((try walk_at "v"); walk_at "c"))
section
variable {P : Program} {w : World} {K : PySem.W.Frag} {mg : Str → Option Value} {base : Heap}

def vf_run_end : VF := fun ds R => ∃ (l : List Nat) (p : Nat) (cs : List Nat), ds = [.str (S l), .int p, .str (S cs)] ∧ p ≤ l.length ∧ l.length ≤ 16777216 ∧ R (.int ((p + ((l.drop p).takeWhile fun c => decide (c ∈ cs)).length : Nat) : Int)) [some (.str (S l)), some (.int p), some (.str (S cs))]
theorem ok_run_end (T : Facts K mg) : FnOk P w K mg base CX0 1 T.f_run_end T.fd_run_end ["text", "start", "chars"] (spV K 3 (vf_run_end)) := by
  refine okV T.F_run_end sc_run_end _ fun cdv A outer s H E hr => ⟨_, (vss_cons (vs_set (i := 3) (fun h => ps_set sc_run_end.nd rfl (.inl rfl) h) (ve_var (pv 1)))
      (vss_cons (vs_while (fun hc hb => ps_while PassesOwn.never hc hb) (VW.vt (vw_and (vt_bin (fun h g => pt_cmpR op_lt h g (nomark _)) o2_bl0 (ve_var (pv 3)) (ve_fun (fun h => pe_callB call_len (by rfl) T.z_len (by decide +kernel) h) on_len (va_cons (ve_var (pv 0)) va_nil))) (vw_and1 (vt_bin (fun h g => pt_cmpR or_in h g (by rfl)) o2_in (ve_bin (fun h g => pe_ix ix_seq h g (fun _ _ => rfl)) o2_idx (ve_var (pv 0)) (ve_var (pv 3))) (ve_var (pv 2)))))) (vss_one (vs_aug (i := 3) (fun h => ps_aug sc_run_end.nd rfl (.inl rfl) h iop_add) o2_int0 ve_int)))
      (vss_one (vs_ret (ve_var (pv 3)))))), ?_⟩
  intro ds R _hl hv
  obtain ⟨l, p, cs, rfl, hp, hl, k⟩ := hv
  walk_at "v"
  refine whL_i (fun m e => ∃ q : Nat, e = [some (.str (S l)), some (.int p), some (.str (S cs)), some (.int q)] ∧ q ≤ l.length ∧ m = l.length - q ∧ p + ((l.drop p).takeWhile fun c => decide (c ∈ cs)).length = q + ((l.drop q).takeWhile fun c => decide (c ∈ cs)).length) _ ⟨p, rfl, hp, rfl, rfl⟩ ?_
  rintro m e ⟨q, rfl, hq, rfl, he⟩
  rw [he] at k
  walk_at "vc"
  refine cAnd_d (fun h => ?_) fun h => ?_
  · obtain ⟨c, hc⟩ := get_ex (xs := l) (k := q) (by omega)
    walk_at "vc"
    rw [atI_nat hc]
    walk_at "v"
    refine cWh_d (fun h2 => ?_) fun h2 => ?_
    · walk_at "v"
      refine ⟨l.length - (q + 1), by omega, q + 1, by simp, by omega, rfl, ?_⟩
      rw [he, tw_pos hc (by simpa using h2)]
      omega
    · walk_at "v"
      rw [tw_neg hc (by simpa using h2)] at k
      exact k
  · walk_at "v"
    rw [tw_end (by omega)] at k
    exact k
end
end L2.VL.K73
set_option Elab.async false
set_option linter.all false
set_option maxRecDepth 100000
namespace L2.VL.K73
open PySem PySem.Spec PyProof.Rows
local macro_rules | `(tactic| walk_at "v") => `(tactic| simp only [opt_some, optS_some, optB_some, optI_some, mv_val, mv_plc, mvl_nil, mvl_cons, cMvl_run, getl_nil, getl_cons, cGetl_run, cKons_run, cIm_run, look_run, lookO_run, put_run, putO_run, get_val, get_plc, dlook_nil, dlook_lst, dlook_obj, kidO_run, dput_nil, dput_lst, dput_obj, kidP_run, cR_run, app1_some, app2_some, deep_val, deep_nil, deep_cons, vVar_run, cVar_run, vC_run, vMv_run', cMv'_run, vBin_run, cBin_run, cBin2_run, vTest_run, cTest_run, vUn_run, cUn_run, vAnd_run, cAnd_t, cAnd_f, vOr_run, cOr_t, cOr_f, vNot_run, cNot_run, vAndV_run, cAndV_run, cAndV2_t, cAndV2_f, vOrV_run, cOrV_run, cOrV2_t, cOrV2_f, vNotV_run, cNotV_run, cNotV2_run, vIfE_run, cIfE_t, cIfE_f, vNil_run, vCons_run, cCons_run, cCons2_run, vTup_run, cTup_run, cTup2_run, vLst_run, cLst_run, cLst2_run, vFun_run, cFun_run, cFun2_run, vRM_run, cRM_run, cRM2_run, cRM3_run, cRM4_run, vMut_run, cMut_run, cMut2_run, cMut3_run, cMut4_run, cMut5_run, isL_run, isS_run, vSl_run, cSl_run, cSl2_run, cSl3_run, cSl4_run, voNone_run, voSome_run, cVo_run, ixO_run, vIxP_run, cIxP_run, cIxP2_run, cIxP3_run, vLstRg_run, cLstRg_run, cLstRg2_run, vNext_run, vBreak_run, vCont_run, vSeq_run, vDrop_run, cDrop_run, vRet_run, cRet_run, cRet2_run, vRetN_run, vIf_run, cIf_t, cIf_f, vgN_run, vgNil_run, vgCons_run, cG_run, vgTup_run, vAsg_run, cAsg_run, cAsg2_run, vPar_run, cPar_run, cPar2_run, vAug_run, cAug_run, cAug2_run, cAug3_run, vFor_run, cFor_run, vLc_run, cLc_run, vYes_run, optLst_run, viSlot_run, cSlot_run, cSlot2_run, viVal_run, cVal_run, optTup_run, viTup_run, cTupI_run, cTupI2_run, viR1_run, cR1_run, cR1b_run, viR2_run, cR2_run, cR2b_run, viRD_run, cRD_run, cRDb_run, optStr_run, viStr_run, cStrI_run, cStrI2_run, setO_run, vSetI_run, cSetI_run, cSetI2_run, cSetI3_run, cSetI4_run, cSetI5_run, fldO_run, cF2_run, vFld_run, cFld_run, cFld2_run, objO_run, vSetF_run, cSetF_run, cSetF2_run, cSetF3_run, args_nil, args_f, args_t, cArgs_run, cArgs2_run, back_t, back_tn, back_f, back_nil, back_nil', vCall_run, cCall_run, cCall2_run, cBack_run, objM_run, vMeth_run, cMeth_run, cMeth2_run, vMake_run, cMake_run, cMake2_run, cMake3_run, optI1_run, vChain_run, cCh_run, cCh2_run, chO_run, cCh3_t, cCh3_f, cCh4_run, cCh5_run, augO_run, cAugO_run, cAugO2_run, vAugF_run, cAugF_run, cAugF2_run, cAugF3_run, snocI, snocS, setI, dropI, revI, cWh_t, cWh_f, cLc1_run, cLc2_t, cLc2_f, cLc3_run, cLc4_run, cMap_run, opt_map, atI_map, fIdx_l, fIdx_t, cSgn_run, fIdx_s, fPop_run, cPop_run, fPopAt_run, cPopAt_run, cPopAt2_run, eraseI, fInt_s, cIntS_run, cIsi2_run, fIsi_run, cIsi_run, fIsiT_run, cIsiT_run, cIsiT2_run, fJoin_run, cJoin_run, kb_NoneType_tuple, kb_NoneType_list, kb_NoneType_bool, kb_NoneType_int, kb_NoneType_str, kb_NoneType_dict, kb_bool_tuple, kb_bool_list, kb_bool_bool, kb_bool_int, kb_bool_str, kb_bool_dict, kb_int_tuple, kb_int_list, kb_int_bool, kb_int_int, kb_int_str, kb_int_dict, kb_str_tuple, kb_str_list, kb_str_bool, kb_str_int, kb_str_str, kb_str_dict, kb_list_tuple, kb_list_list, kb_list_bool, kb_list_int, kb_list_str, kb_list_dict, kb_tuple_tuple, kb_tuple_list, kb_tuple_bool, kb_tuple_int, kb_tuple_str, kb_tuple_dict, kb_dict_tuple, kb_dict_list, kb_dict_bool, kb_dict_int, kb_dict_str, kb_dict_dict, kN_nil, kN_cons, orK_t, orK_f, fn_false, fAdd.eq_1, fAdd.eq_2, fAdd.eq_3, fAdd.eq_4, fI2.eq_1, fI20.eq_1, fEq.eq_1, fEq.eq_2, fEq.eq_3, fNe.eq_1, fNe.eq_2, fNe.eq_3, fSl.eq_1, fSl.eq_2, fSl.eq_3, fSl.eq_4, fLen.eq_1, fLen.eq_2, fLen.eq_3, fInt.eq_1, fInt.eq_2, fStr.eq_1, fStr.eq_2, fList.eq_1, fList.eq_2, fTuple.eq_1, fTuple.eq_2, fNeg.eq_1, fAppend.eq_1, fReverse.eq_1, fClear.eq_1, fExtend.eq_1, List.getElem?_map, Option.map_some, Option.map_none, D.isM, D.im, D.ims, D.flat, fIsN, fNotN, D.isNon, D.tyIs, tyNames, putN, putD, wipeE, finP, ims_ints, ims_strs, strs_map, flat_ints, isIn_ints, staysT, CDiv, CPow, CMul, List.getElem?_cons_zero, List.getElem?_cons_succ, List.getElem?_nil, List.set_cons_zero, List.set_cons_succ, List.map_cons, List.map_nil, List.replicate, List.cons_append, List.nil_append, List.append_nil, List.length_cons, List.length_nil, List.length_map, List.all_cons, List.all_nil, List.contains_cons, List.contains_nil, List.elem_cons, List.elem_nil, List.append_eq, List.length_append, true_and, and_true, false_and, and_false, not_true_eq_false, not_false_eq_true, ne_eq, reduceCtorEq, Bool.false_eq_true, false_implies, true_implies, implies_true, forall_const, imp_self, decide_true, decide_false, decide_eq_true_eq, Bool.not_true, Bool.not_false, Bool.or_false, Bool.and_true, Bool.true_and, Bool.false_and, if_true, if_false, ite_true, ite_false, true_or, or_true, false_or, or_false, Nat.add_zero, Nat.zero_add, Nat.reduceAdd, Nat.reduceSub, Nat.reduceEqDiff, beq_self_eq_true, BEq.rfl, Int.zero_add, Nat.reduceBEq, Nat.reduceLeDiff, Nat.reduceLT, Int.reduceLT, Int.reduceLE, Int.reduceToNat, Int.reduceNeg, Option.some.injEq, atI_c0, atI_c1, atI_c2, atI_c3, atI_c4, S_cps, S_len', S_cat', signs_S, fInG_s1, fInG_s0, fInG_l, fInG_t, S_eq1, S_eq2, itx_S, jn0, jn0_len, Int.toNat_natCast, sn_get, sn_get1, sn_ix, sn_set, sn_drop, fx_Line_0_tokens, fx_Line_0_taken, fx_Line_1_tokens, fx_Line_1_taken, fx_Line_2_tokens, fx_Line_2_taken, ne_taken_tokens, ne_tokens_taken, cs_0, cs_1, cs_2, cs_3, cs_4, cs_5, cs_6, cs_7, cs_8, cs_9, cs_10, cs_11, cs_12, cs_13, cs_14])
local macro_rules | `(tactic| walk_at "c") => `(tactic| repeat (refine And.intro (by first | omega | rfl | assumption | decide | decide +kernel) ?_))
local macro_rules | `(tactic| walk_at "vc") => `(tactic| ((try walk_at "v"); walk_at "c"))
section
variable {P : Program} {w : World} {K : PySem.W.Frag} {mg : Str → Option Value} {base : Heap}

def vf_integer_in : VF := fun ds R => ∃ (a r : List Nat) (n : Int), ds = [.str (S (a ++ (itx n ++ r))), .int a.length] ∧ (a ++ (itx n ++ r)).length ≤ 16777216 ∧ (itx n).length ≤ 600 ∧ (∀ c, r.head? = some c → isDg c = false) ∧
  R (.tup [.str kInt, .int n, .int ((a.length + (itx n).length : Nat) : Int)]) [some (.str (S (a ++ (itx n ++ r)))), some (.int a.length)]
theorem ok_integer_in (T : Facts K mg) : FnOk P w K mg base CX0 2 T.f_integer_in T.fd_integer_in ["text", "start"] (spV K 2 (vf_integer_in)) := by
  refine okV T.F_integer_in sc_integer_in _ fun cdv A outer s H E hr => ⟨_, (vss_cons (vs_set (i := 2) (fun h => ps_set sc_integer_in.nd rfl (.inl rfl) h) (ve_if (vt_bin (fun h g => pt_cmpR (or_eq hr.units) h g (nomark _)) o2_eq (ve_bin (fun h g => pe_ix ix_seq h g (fun _ _ => rfl)) o2_idx (ve_var (pv 0)) (ve_var (pv 1))) ve_str) (ve_bin (fun h g => pe_op or_add h g) o2_add (ve_var (pv 1)) ve_int) (ve_var (pv 1))))
      (vss_cons (vs_set (i := 3) (fun h => ps_set sc_integer_in.nd rfl (.inl rfl) h) (ve_call [false, false, false] (fun h => pe_call (ok_run_end T) (hr.mono (by omega)) (by rfl) T.g_run_end T.F_run_end.kp T.b_run_end .nil pass0 h) (va_cons (ve_var (pv 0)) (va_cons (ve_var (pv 2)) (va_cons (ve_const (C8.pe_gc (by rfl) T.c_DIGITS) fun _ => .str _) va_nil)))))
      (vss_cons (vs_if (VW.vt (vw_or (vt_bin (fun h g => pt_cmpR (or_eq hr.units) h g (nomark _)) o2_eq (ve_var (pv 2)) (ve_var (pv 3))) (vw_or1 (VW.vt (vw_and (vt_bin (fun h g => pt_cmpR (or_eq hr.units) h g (nomark _)) o2_eq (ve_bin (fun h g => pe_ix ix_seq h g (fun _ _ => rfl)) o2_idx (ve_var (pv 0)) (ve_var (pv 2))) ve_str) (vw_and1 (vt_bin (fun h g => pt_cmpR op_gt h g (nomark _)) o2_bl0 (ve_bin (fun h g => pe_op op_sub h g) o2_int0 (ve_var (pv 3)) (ve_var (pv 1))) ve_int))))))) (vss_one (vs_ret (ve_tup (va_cons ve_str (va_cons ve_int (va_cons (ve_var (pv 1)) va_nil)))))) vss_nil)
      (vss_one (vs_ret (ve_tup (va_cons ve_str (va_cons (ve_fun (fun h => pe_callTy call_intA (by rfl) T.z_int (by decide +kernel) h) on_int (va_cons (ve_slice (fun h l u => pe_slice sl_all h l u) (ve_var (pv 0)) (vo_some (ve_var (pv 1))) (vo_some (ve_var (pv 3)))) va_nil)) (va_cons (ve_var (pv 3)) va_nil))))))))), ?_⟩
  intro ds R _hl hv
  obtain ⟨a, r, n, rfl, hl, hn, hr, k⟩ := hv
  obtain ⟨sg, ds, e1, e2, e3, e4, e5⟩ := itx_parts n
  have h0 : ∀ (c : Nat) (q : List Nat), sg ++ ds = c :: q → (a ++ (sg ++ ds ++ r))[a.length]? = some c := fun c q e => by rw [e]; simp
  have h1 : ∀ (c : Nat) (q : List Nat), ds = c :: q → (a ++ (sg ++ ds ++ r))[a.length + sg.length]? = some c := fun c q e => by rw [e]; simp [List.getElem?_append]
  have tw : (((a ++ (sg ++ ds ++ r)).drop (a.length + sg.length)).takeWhile fun c => decide (c ∈ [48, 49, 50, 51, 52, 53, 54, 55, 56, 57])).length = ds.length := by
    rw [show a ++ (sg ++ ds ++ r) = (a ++ sg) ++ (ds ++ r) by simp, show a.length + sg.length = (a ++ sg).length by simp, List.drop_left]
    exact tw_all (fun c hc => isDg_in (e4 c hc)) fun c hc => isDg_out (hr c hc)
  have sl : Txt.slice (S (a ++ (sg ++ ds ++ r))) (some (a.length : Int)) (some ((a.length + sg.length + ds.length : Nat) : Int)) = S (sg ++ ds) := slice_mid a (sg ++ ds) r rfl (by simp; omega)
  have bk := itx_back (n := n) (by omega)
  rw [e1] at k hl hn bk ⊢
  have hlen : a.length + (sg.length + ds.length + r.length) ≤ 16777216 := by
    simp only [List.length_append] at hl
    exact hl
  obtain ⟨c, q, hc⟩ : ∃ c q, sg ++ ds = c :: q := List.exists_cons_of_ne_nil (by simp [e3])
  obtain ⟨c1, q1, hc1⟩ : ∃ c q, ds = c :: q := List.exists_cons_of_ne_nil e3
  have hdl : 0 < ds.length := List.length_pos_iff.mpr e3
  have hn' : sg.length + ds.length ≤ 600 := by
    simp only [List.length_append] at hn
    exact hn
  walk_at "v"
  refine ⟨hlen, ?_⟩
  rw [atI_nat (h0 c q hc)]
  walk_at "v"
  refine cIfE_cut (fun r' e' => e' = [some (.str (S (a ++ (sg ++ ds ++ r)))), some (.int a.length), none, none] ∧ r'.get e' = some (.int ((a.length + sg.length : Nat) : Int))) ?_ fun N hN => ?_
  · rintro r' e' ⟨rfl, hg⟩
    walk_at "v"
    refine mv_get hg rfl ?_
    walk_at "v"
    refine ⟨_, _, _, rfl, by simp <;> omega, by simp <;> omega, ?_⟩
    rw [tw]
    walk_at "v"
    refine cOr_d (fun h => absurd h (by omega)) fun h => ?_
    walk_at "v"
    refine ⟨hlen, ?_⟩
    rw [atI_nat (h1 c1 q1 hc1)]
    walk_at "v"
    refine cAnd_d (fun h => ?_) fun h => ?_
    · walk_at "v"
      refine cIf_d (fun h2 => ?_) fun h2 => ?_
      · have hc48 : c1 = 48 := by simpa using h
        subst hc48
        obtain ⟨g1, g2⟩ := e5 q1 hc1
        subst g1 g2
        rw [hc1] at h2
        simp at h2
        omega
      · walk_at "v"
        refine ⟨hlen, ?_⟩
        rw [sl, bk]
        walk_at "v"
        refine ⟨by omega, ?_⟩
        rw [List.length_append, ← Nat.add_assoc] at k
        exact k
    · walk_at "v"
      refine ⟨hlen, ?_⟩
      rw [sl, bk]
      walk_at "v"
      refine ⟨by omega, ?_⟩
      rw [List.length_append, ← Nat.add_assoc] at k
      exact k
  · rcases e2 with rfl | rfl
    · have hd := e4 c (by rw [List.nil_append] at hc; rw [hc]; simp)
      refine cIfE_i (fun h => ?_) fun h => ?_
      · have : c = 45 := by simpa using h
        subst this
        simp [isDg] at hd
      · walk_at "v"
        exact hN _ _ ⟨rfl, rfl⟩
    · have : c = 45 := by simpa using (List.cons.inj hc).1.symm
      subst this
      refine cIfE_i (fun h => ?_) fun h => ?_
      · walk_at "v"
        exact hN _ _ ⟨rfl, rfl⟩
      · simp at h
end
end L2.VL.K73
set_option Elab.async false
set_option linter.all false
set_option maxRecDepth 100000
namespace L2.VL.K73
open PySem PySem.Spec PyProof.Rows
local macro_rules | `(tactic| walk_at "v") => `(tactic| simp only [opt_some, optS_some, optB_some, optI_some, mv_val, mv_plc, mvl_nil, mvl_cons, cMvl_run, getl_nil, getl_cons, cGetl_run, cKons_run, cIm_run, look_run, lookO_run, put_run, putO_run, get_val, get_plc, dlook_nil, dlook_lst, dlook_obj, kidO_run, dput_nil, dput_lst, dput_obj, kidP_run, cR_run, app1_some, app2_some, deep_val, deep_nil, deep_cons, vVar_run, cVar_run, vC_run, vMv_run', cMv'_run, vBin_run, cBin_run, cBin2_run, vTest_run, cTest_run, vUn_run, cUn_run, vAnd_run, cAnd_t, cAnd_f, vOr_run, cOr_t, cOr_f, vNot_run, cNot_run, vAndV_run, cAndV_run, cAndV2_t, cAndV2_f, vOrV_run, cOrV_run, cOrV2_t, cOrV2_f, vNotV_run, cNotV_run, cNotV2_run, vIfE_run, cIfE_t, cIfE_f, vNil_run, vCons_run, cCons_run, cCons2_run, vTup_run, cTup_run, cTup2_run, vLst_run, cLst_run, cLst2_run, vFun_run, cFun_run, cFun2_run, vRM_run, cRM_run, cRM2_run, cRM3_run, cRM4_run, vMut_run, cMut_run, cMut2_run, cMut3_run, cMut4_run, cMut5_run, isL_run, isS_run, vSl_run, cSl_run, cSl2_run, cSl3_run, cSl4_run, voNone_run, voSome_run, cVo_run, ixO_run, vIxP_run, cIxP_run, cIxP2_run, cIxP3_run, vLstRg_run, cLstRg_run, cLstRg2_run, vNext_run, vBreak_run, vCont_run, vSeq_run, vDrop_run, cDrop_run, vRet_run, cRet_run, cRet2_run, vRetN_run, vIf_run, cIf_t, cIf_f, vgN_run, vgNil_run, vgCons_run, cG_run, vgTup_run, vAsg_run, cAsg_run, cAsg2_run, vPar_run, cPar_run, cPar2_run, vAug_run, cAug_run, cAug2_run, cAug3_run, vFor_run, cFor_run, vLc_run, cLc_run, vYes_run, optLst_run, viSlot_run, cSlot_run, cSlot2_run, viVal_run, cVal_run, optTup_run, viTup_run, cTupI_run, cTupI2_run, viR1_run, cR1_run, cR1b_run, viR2_run, cR2_run, cR2b_run, viRD_run, cRD_run, cRDb_run, optStr_run, viStr_run, cStrI_run, cStrI2_run, setO_run, vSetI_run, cSetI_run, cSetI2_run, cSetI3_run, cSetI4_run, cSetI5_run, fldO_run, cF2_run, vFld_run, cFld_run, cFld2_run, objO_run, vSetF_run, cSetF_run, cSetF2_run, cSetF3_run, args_nil, args_f, args_t, cArgs_run, cArgs2_run, back_t, back_tn, back_f, back_nil, back_nil', vCall_run, cCall_run, cCall2_run, cBack_run, objM_run, vMeth_run, cMeth_run, cMeth2_run, vMake_run, cMake_run, cMake2_run, cMake3_run, optI1_run, vChain_run, cCh_run, cCh2_run, chO_run, cCh3_t, cCh3_f, cCh4_run, cCh5_run, augO_run, cAugO_run, cAugO2_run, vAugF_run, cAugF_run, cAugF2_run, cAugF3_run, snocI, snocS, setI, dropI, revI, cWh_t, cWh_f, cLc1_run, cLc2_t, cLc2_f, cLc3_run, cLc4_run, cMap_run, opt_map, atI_map, fIdx_l, fIdx_t, cSgn_run, fIdx_s, fPop_run, cPop_run, fPopAt_run, cPopAt_run, cPopAt2_run, eraseI, fInt_s, cIntS_run, cIsi2_run, fIsi_run, cIsi_run, fIsiT_run, cIsiT_run, cIsiT2_run, fJoin_run, cJoin_run, kb_NoneType_tuple, kb_NoneType_list, kb_NoneType_bool, kb_NoneType_int, kb_NoneType_str, kb_NoneType_dict, kb_bool_tuple, kb_bool_list, kb_bool_bool, kb_bool_int, kb_bool_str, kb_bool_dict, kb_int_tuple, kb_int_list, kb_int_bool, kb_int_int, kb_int_str, kb_int_dict, kb_str_tuple, kb_str_list, kb_str_bool, kb_str_int, kb_str_str, kb_str_dict, kb_list_tuple, kb_list_list, kb_list_bool, kb_list_int, kb_list_str, kb_list_dict, kb_tuple_tuple, kb_tuple_list, kb_tuple_bool, kb_tuple_int, kb_tuple_str, kb_tuple_dict, kb_dict_tuple, kb_dict_list, kb_dict_bool, kb_dict_int, kb_dict_str, kb_dict_dict, kN_nil, kN_cons, orK_t, orK_f, fn_false, fAdd.eq_1, fAdd.eq_2, fAdd.eq_3, fAdd.eq_4, fI2.eq_1, fI20.eq_1, fEq.eq_1, fEq.eq_2, fEq.eq_3, fNe.eq_1, fNe.eq_2, fNe.eq_3, fSl.eq_1, fSl.eq_2, fSl.eq_3, fSl.eq_4, fLen.eq_1, fLen.eq_2, fLen.eq_3, fInt.eq_1, fInt.eq_2, fStr.eq_1, fStr.eq_2, fList.eq_1, fList.eq_2, fTuple.eq_1, fTuple.eq_2, fNeg.eq_1, fAppend.eq_1, fReverse.eq_1, fClear.eq_1, fExtend.eq_1, List.getElem?_map, Option.map_some, Option.map_none, D.isM, D.im, D.ims, D.flat, fIsN, fNotN, D.isNon, D.tyIs, tyNames, putN, putD, wipeE, finP, ims_ints, ims_strs, strs_map, flat_ints, isIn_ints, staysT, CDiv, CPow, CMul, List.getElem?_cons_zero, List.getElem?_cons_succ, List.getElem?_nil, List.set_cons_zero, List.set_cons_succ, List.map_cons, List.map_nil, List.replicate, List.cons_append, List.nil_append, List.append_nil, List.length_cons, List.length_nil, List.length_map, List.all_cons, List.all_nil, List.contains_cons, List.contains_nil, List.elem_cons, List.elem_nil, List.append_eq, List.length_append, true_and, and_true, false_and, and_false, not_true_eq_false, not_false_eq_true, ne_eq, reduceCtorEq, Bool.false_eq_true, false_implies, true_implies, implies_true, forall_const, imp_self, decide_true, decide_false, decide_eq_true_eq, Bool.not_true, Bool.not_false, Bool.or_false, Bool.and_true, Bool.true_and, Bool.false_and, if_true, if_false, ite_true, ite_false, true_or, or_true, false_or, or_false, Nat.add_zero, Nat.zero_add, Nat.reduceAdd, Nat.reduceSub, Nat.reduceEqDiff, beq_self_eq_true, BEq.rfl, Int.zero_add, Nat.reduceBEq, Nat.reduceLeDiff, Nat.reduceLT, Int.reduceLT, Int.reduceLE, Int.reduceToNat, Int.reduceNeg, Option.some.injEq, atI_c0, atI_c1, atI_c2, atI_c3, atI_c4, S_cps, S_len', S_cat', signs_S, fInG_s1, fInG_s0, fInG_l, fInG_t, S_eq1, S_eq2, itx_S, jn0, jn0_len, Int.toNat_natCast, sn_get, sn_get1, sn_ix, sn_set, sn_drop, fx_Line_0_tokens, fx_Line_0_taken, fx_Line_1_tokens, fx_Line_1_taken, fx_Line_2_tokens, fx_Line_2_taken, ne_taken_tokens, ne_tokens_taken, cs_0, cs_1, cs_2, cs_3, cs_4, cs_5, cs_6, cs_7, cs_8, cs_9, cs_10, cs_11, cs_12, cs_13, cs_14])
local macro_rules | `(tactic| walk_at "c") => `(tactic| repeat (refine And.intro (by first | omega | rfl | assumption | decide | decide +kernel) ?_))
local macro_rules | `(tactic| walk_at "vc") => `(tactic| ((try walk_at "v"); walk_at "c"))
section
variable {P : Program} {w : World} {K : PySem.W.Frag} {mg : Str → Option Value} {base : Heap}

def vf_token_in : VF := fun ds R => ∃ (a x r : List Nat) (tk : Tk), ds = [.str (S (a ++ (x ++ r))), .int a.length] ∧ (a ++ (x ++ r)).length ≤ 16777216 ∧ One x r tk ∧
  R (.tup [.str tk.1, tk.2, .int ((a.length + x.length : Nat) : Int)]) [some (.str (S (a ++ (x ++ r)))), some (.int a.length)]
theorem ok_token_in (T : Facts K mg) : FnOk P w K mg base CX0 3 T.f_token_in T.fd_token_in ["text", "start"] (spV K 2 (vf_token_in)) := by
  refine okV T.F_token_in sc_token_in _ fun cdv A outer s H E hr => ⟨_, (vss_cons (vs_set (i := 2) (fun h => ps_set sc_token_in.nd rfl (.inl rfl) h) (ve_bin (fun h g => pe_ix ix_seq h g (fun _ _ => rfl)) o2_idx (ve_var (pv 0)) (ve_var (pv 1))))
      (vss_cons (vs_if (vt_bin (fun h g => pt_cmpR or_in h g (by rfl)) o2_in (ve_var (pv 2)) (ve_const (C8.pe_gc (by rfl) T.c_SIGNS) fun _ => .str _)) (vss_one (vs_ret (ve_tup (va_cons (ve_var (pv 2)) (va_cons (ve_var (pv 2)) (va_cons (ve_bin (fun h g => pe_op or_add h g) o2_add (ve_var (pv 1)) ve_int) va_nil)))))) vss_nil)
      (vss_cons (vs_if (vt_bin (fun h g => pt_cmpR or_in h g (by rfl)) o2_in (ve_var (pv 2)) (ve_const (C8.pe_gc (by rfl) T.c_LETTERS) fun _ => .str _)) (vss_cons (vs_set (i := 3) (fun h => ps_set sc_token_in.nd rfl (.inl rfl) h) (ve_call [false, false, false] (fun h => pe_call (ok_run_end T) (hr.mono (by omega)) (by rfl) T.g_run_end T.F_run_end.kp T.b_run_end .nil pass0 h) (va_cons (ve_var (pv 0)) (va_cons (ve_var (pv 1)) (va_cons (ve_const (C8.pe_gc (by rfl) T.c_LETTERS) fun _ => .str _) va_nil)))))
      (vss_one (vs_ret (ve_tup (va_cons ve_str (va_cons (ve_slice (fun h l u => pe_slice sl_all h l u) (ve_var (pv 0)) (vo_some (ve_var (pv 1))) (vo_some (ve_var (pv 3)))) (va_cons (ve_var (pv 3)) va_nil))))))) vss_nil)
      (vss_one (vs_ret (ve_call [false, false] (fun h => pe_call (ok_integer_in T) (hr.mono (by omega)) (by rfl) T.g_integer_in T.F_integer_in.kp T.b_integer_in .nil pass0 h) (va_cons (ve_var (pv 0)) (va_cons (ve_var (pv 1)) va_nil)))))))), ?_⟩
  intro ds R _hl hv
  obtain ⟨a, x, r, tk, rfl, hl, ho, k⟩ := hv
  have hlen : a.length + (x.length + r.length) ≤ 16777216 := by
    simp only [List.length_append] at hl
    exact hl
  have h0 : ∀ (c : Nat) (q : List Nat), x = c :: q → (a ++ (x ++ r))[a.length]? = some c := fun c q e => by rw [e]; simp
  walk_at "v"
  refine ⟨hlen, ?_⟩
  cases ho with
  | sign r hc =>
    rename_i c
    rw [atI_nat (h0 c [] rfl)]
    walk_at "v"
    refine cIf_d (fun h => ?_) fun h => absurd hc h
    walk_at "vc"
    exact k
  | word hw ha hr2 =>
    obtain ⟨c, q, hc⟩ : ∃ c q, x = c :: q := List.exists_cons_of_ne_nil hw
    have hcl : isAl c = true := List.all_eq_true.mp ha c (by rw [hc]; simp)
    rw [atI_nat (h0 c q hc)]
    walk_at "v"
    refine cIf_d (fun h => ?_) fun h => ?_
    · exfalso
      simp [isAl] at hcl
      simp at h
      omega
    walk_at "v"
    refine cIf_d (fun h => ?_) fun h => absurd (of_decide_eq_true (isAl_in hcl)) h
    walk_at "v"
    refine ⟨_, _, _, rfl, by simp, by simp <;> omega, ?_⟩
    rw [List.drop_left, tw_all (fun c hc => isAl_in (List.all_eq_true.mp ha c hc)) fun c hc => isAl_out (hr2 c hc)]
    walk_at "v"
    refine ⟨hlen, ?_⟩
    rw [slice_mid a x r rfl rfl]
    walk_at "vc"
    exact k
  | int hn hr2 =>
    rename_i n
    obtain ⟨c, q, hc, hc2, _⟩ := itx_head n
    rw [atI_nat (h0 c q hc)]
    have hb : c = 45 ∨ (48 ≤ c ∧ c ≤ 57) := by
      rcases hc2 with h | h
      · exact .inl h
      · simp [isDg] at h
        exact .inr h
    walk_at "v"
    refine cIf_d (fun h => ?_) fun h => ?_
    · exfalso
      simp at h
      omega
    walk_at "v"
    refine cIf_d (fun h => ?_) fun h => ?_
    · exfalso
      simp at h
      omega
    walk_at "v"
    refine ⟨_, _, _, rfl, hl, hn, hr2, ?_⟩
    walk_at "vc"
    exact k
end
end L2.VL.K73
set_option Elab.async false
set_option linter.all false
set_option maxRecDepth 100000
namespace L2.VL.K73
open PySem PySem.Spec PyProof.Rows
local macro_rules | `(tactic| walk_at "v") => `(tactic| simp only [opt_some, optS_some, optB_some, optI_some, mv_val, mv_plc, mvl_nil, mvl_cons, cMvl_run, getl_nil, getl_cons, cGetl_run, cKons_run, cIm_run, look_run, lookO_run, put_run, putO_run, get_val, get_plc, dlook_nil, dlook_lst, dlook_obj, kidO_run, dput_nil, dput_lst, dput_obj, kidP_run, cR_run, app1_some, app2_some, deep_val, deep_nil, deep_cons, vVar_run, cVar_run, vC_run, vMv_run', cMv'_run, vBin_run, cBin_run, cBin2_run, vTest_run, cTest_run, vUn_run, cUn_run, vAnd_run, cAnd_t, cAnd_f, vOr_run, cOr_t, cOr_f, vNot_run, cNot_run, vAndV_run, cAndV_run, cAndV2_t, cAndV2_f, vOrV_run, cOrV_run, cOrV2_t, cOrV2_f, vNotV_run, cNotV_run, cNotV2_run, vIfE_run, cIfE_t, cIfE_f, vNil_run, vCons_run, cCons_run, cCons2_run, vTup_run, cTup_run, cTup2_run, vLst_run, cLst_run, cLst2_run, vFun_run, cFun_run, cFun2_run, vRM_run, cRM_run, cRM2_run, cRM3_run, cRM4_run, vMut_run, cMut_run, cMut2_run, cMut3_run, cMut4_run, cMut5_run, isL_run, isS_run, vSl_run, cSl_run, cSl2_run, cSl3_run, cSl4_run, voNone_run, voSome_run, cVo_run, ixO_run, vIxP_run, cIxP_run, cIxP2_run, cIxP3_run, vLstRg_run, cLstRg_run, cLstRg2_run, vNext_run, vBreak_run, vCont_run, vSeq_run, vDrop_run, cDrop_run, vRet_run, cRet_run, cRet2_run, vRetN_run, vIf_run, cIf_t, cIf_f, vgN_run, vgNil_run, vgCons_run, cG_run, vgTup_run, vAsg_run, cAsg_run, cAsg2_run, vPar_run, cPar_run, cPar2_run, vAug_run, cAug_run, cAug2_run, cAug3_run, vFor_run, cFor_run, vLc_run, cLc_run, vYes_run, optLst_run, viSlot_run, cSlot_run, cSlot2_run, viVal_run, cVal_run, optTup_run, viTup_run, cTupI_run, cTupI2_run, viR1_run, cR1_run, cR1b_run, viR2_run, cR2_run, cR2b_run, viRD_run, cRD_run, cRDb_run, optStr_run, viStr_run, cStrI_run, cStrI2_run, setO_run, vSetI_run, cSetI_run, cSetI2_run, cSetI3_run, cSetI4_run, cSetI5_run, fldO_run, cF2_run, vFld_run, cFld_run, cFld2_run, objO_run, vSetF_run, cSetF_run, cSetF2_run, cSetF3_run, args_nil, args_f, args_t, cArgs_run, cArgs2_run, back_t, back_tn, back_f, back_nil, back_nil', vCall_run, cCall_run, cCall2_run, cBack_run, objM_run, vMeth_run, cMeth_run, cMeth2_run, vMake_run, cMake_run, cMake2_run, cMake3_run, optI1_run, vChain_run, cCh_run, cCh2_run, chO_run, cCh3_t, cCh3_f, cCh4_run, cCh5_run, augO_run, cAugO_run, cAugO2_run, vAugF_run, cAugF_run, cAugF2_run, cAugF3_run, snocI, snocS, setI, dropI, revI, cWh_t, cWh_f, cLc1_run, cLc2_t, cLc2_f, cLc3_run, cLc4_run, cMap_run, opt_map, atI_map, fIdx_l, fIdx_t, cSgn_run, fIdx_s, fPop_run, cPop_run, fPopAt_run, cPopAt_run, cPopAt2_run, eraseI, fInt_s, cIntS_run, cIsi2_run, fIsi_run, cIsi_run, fIsiT_run, cIsiT_run, cIsiT2_run, fJoin_run, cJoin_run, kb_NoneType_tuple, kb_NoneType_list, kb_NoneType_bool, kb_NoneType_int, kb_NoneType_str, kb_NoneType_dict, kb_bool_tuple, kb_bool_list, kb_bool_bool, kb_bool_int, kb_bool_str, kb_bool_dict, kb_int_tuple, kb_int_list, kb_int_bool, kb_int_int, kb_int_str, kb_int_dict, kb_str_tuple, kb_str_list, kb_str_bool, kb_str_int, kb_str_str, kb_str_dict, kb_list_tuple, kb_list_list, kb_list_bool, kb_list_int, kb_list_str, kb_list_dict, kb_tuple_tuple, kb_tuple_list, kb_tuple_bool, kb_tuple_int, kb_tuple_str, kb_tuple_dict, kb_dict_tuple, kb_dict_list, kb_dict_bool, kb_dict_int, kb_dict_str, kb_dict_dict, kN_nil, kN_cons, orK_t, orK_f, fn_false, fAdd.eq_1, fAdd.eq_2, fAdd.eq_3, fAdd.eq_4, fI2.eq_1, fI20.eq_1, fEq.eq_1, fEq.eq_2, fEq.eq_3, fNe.eq_1, fNe.eq_2, fNe.eq_3, fSl.eq_1, fSl.eq_2, fSl.eq_3, fSl.eq_4, fLen.eq_1, fLen.eq_2, fLen.eq_3, fInt.eq_1, fInt.eq_2, fStr.eq_1, fStr.eq_2, fList.eq_1, fList.eq_2, fTuple.eq_1, fTuple.eq_2, fNeg.eq_1, fAppend.eq_1, fReverse.eq_1, fClear.eq_1, fExtend.eq_1, List.getElem?_map, Option.map_some, Option.map_none, D.isM, D.im, D.ims, D.flat, fIsN, fNotN, D.isNon, D.tyIs, tyNames, putN, putD, wipeE, finP, ims_ints, ims_strs, strs_map, flat_ints, isIn_ints, staysT, CDiv, CPow, CMul, List.getElem?_cons_zero, List.getElem?_cons_succ, List.getElem?_nil, List.set_cons_zero, List.set_cons_succ, List.map_cons, List.map_nil, List.replicate, List.cons_append, List.nil_append, List.append_nil, List.length_cons, List.length_nil, List.length_map, List.all_cons, List.all_nil, List.contains_cons, List.contains_nil, List.elem_cons, List.elem_nil, List.append_eq, List.length_append, true_and, and_true, false_and, and_false, not_true_eq_false, not_false_eq_true, ne_eq, reduceCtorEq, Bool.false_eq_true, false_implies, true_implies, implies_true, forall_const, imp_self, decide_true, decide_false, decide_eq_true_eq, Bool.not_true, Bool.not_false, Bool.or_false, Bool.and_true, Bool.true_and, Bool.false_and, if_true, if_false, ite_true, ite_false, true_or, or_true, false_or, or_false, Nat.add_zero, Nat.zero_add, Nat.reduceAdd, Nat.reduceSub, Nat.reduceEqDiff, beq_self_eq_true, BEq.rfl, Int.zero_add, Nat.reduceBEq, Nat.reduceLeDiff, Nat.reduceLT, Int.reduceLT, Int.reduceLE, Int.reduceToNat, Int.reduceNeg, Option.some.injEq, atI_c0, atI_c1, atI_c2, atI_c3, atI_c4, S_cps, S_len', S_cat', signs_S, fInG_s1, fInG_s0, fInG_l, fInG_t, S_eq1, S_eq2, itx_S, jn0, jn0_len, Int.toNat_natCast, sn_get, sn_get1, sn_ix, sn_set, sn_drop, fx_Line_0_tokens, fx_Line_0_taken, fx_Line_1_tokens, fx_Line_1_taken, fx_Line_2_tokens, fx_Line_2_taken, ne_taken_tokens, ne_tokens_taken, cs_0, cs_1, cs_2, cs_3, cs_4, cs_5, cs_6, cs_7, cs_8, cs_9, cs_10, cs_11, cs_12, cs_13, cs_14])
local macro_rules | `(tactic| walk_at "c") => `(tactic| repeat (refine And.intro (by first | omega | rfl | assumption | decide | decide +kernel) ?_))
local macro_rules | `(tactic| walk_at "vc") => `(tactic| ((try walk_at "v"); walk_at "c"))
section
variable {P : Program} {w : World} {K : PySem.W.Frag} {mg : Str → Option Value} {base : Heap}

def vf_tokens_of : VF := fun ds R => ∃ (l : List Nat) (t : List Tk), ds = [.str (S l)] ∧ l.length ≤ 1000000 ∧ TkR l t ∧ ∀ ts : List (Int × Tk), ts.map (·.2) = t ++ [(kEnd, .int 0)] → R (.lst (ts.map tkD)) [some (.str (S l))]
theorem ok_tokens_of (T : Facts K mg) : FnOk P w K mg base CX0 4 T.f_tokens_of T.fd_tokens_of ["text"] (spV K 1 (vf_tokens_of)) := by
  refine okV T.F_tokens_of sc_tokens_of _ fun cdv A outer s H E hr => ⟨_, (vss_cons (vs_set (i := 1) (fun h => ps_set sc_tokens_of.nd rfl (.inl rfl) h) (ve_lst va_nil))
      (vss_cons (vs_set (i := 2) (fun h => ps_set sc_tokens_of.nd rfl (.inl rfl) h) (ve_call [false, false, false] (fun h => pe_call (ok_run_end T) (hr.mono (by omega)) (by rfl) T.g_run_end T.F_run_end.kp T.b_run_end .nil pass0 h) (va_cons (ve_var (pv 0)) (va_cons ve_int (va_cons ve_str va_nil)))))
      (vss_cons (vs_while (fun hc hb => ps_while PassesOwn.never hc hb) (vt_bin (fun h g => pt_cmpR op_lt h g (nomark _)) o2_bl0 (ve_var (pv 2)) (ve_fun (fun h => pe_callB call_len (by rfl) T.z_len (by decide +kernel) h) on_len (va_cons (ve_var (pv 0)) va_nil))) (vss_cons (vs_asg (fun h g => ps_asg h g) (ve_call [false, false] (fun h => pe_call (ok_token_in T) (hr.mono (by omega)) (by rfl) T.g_token_in T.F_token_in.kp T.b_token_in .nil pass0 h) (va_cons (ve_var (pv 0)) (va_cons (ve_var (pv 2)) va_nil))) (vg_tup (fun h => pg_tup rfl h) (vgs_cons (vg_name (pg_name (i := 3) sc_tokens_of.nd rfl (.inl rfl))) (vgs_cons (vg_name (pg_name (i := 4) sc_tokens_of.nd rfl (.inl rfl))) (vgs_cons (vg_name (pg_name (i := 5) sc_tokens_of.nd rfl (.inl rfl))) vgs_nil)))))
      (vss_cons (vs_expr (ve_mut (fun ho h => pe_bm PySem.F.plainAttrs_list PySem.F.slot_list_append PySem.F.type_list_append mt_append ho h) ty_l mu_append (ve_var (pv 1)) (va_cons (ve_tup (va_cons (ve_var (pv 2)) (va_cons (ve_var (pv 3)) (va_cons (ve_var (pv 4)) va_nil)))) va_nil)))
      (vss_cons (vs_if (vt_bin (fun h g => pt_cmpR (or_eq hr.units) h g (nomark _)) o2_eq (ve_var (pv 3)) ve_str) (vss_one (vs_ret (ve_mv (pv 1)))) vss_nil)
      (vss_one (vs_set (i := 2) (fun h => ps_set sc_tokens_of.nd rfl (.inl rfl) h) (ve_call [false, false, false] (fun h => pe_call (ok_run_end T) (hr.mono (by omega)) (by rfl) T.g_run_end T.F_run_end.kp T.b_run_end .nil pass0 h) (va_cons (ve_var (pv 0)) (va_cons (ve_var (pv 5)) (va_cons ve_str va_nil))))))))))
      (vss_cons (vs_expr (ve_mut (fun ho h => pe_bm PySem.F.plainAttrs_list PySem.F.slot_list_append PySem.F.type_list_append mt_append ho h) ty_l mu_append (ve_var (pv 1)) (va_cons (ve_tup (va_cons (ve_fun (fun h => pe_callB call_len (by rfl) T.z_len (by decide +kernel) h) on_len (va_cons (ve_var (pv 0)) va_nil)) (va_cons ve_str (va_cons ve_int va_nil)))) va_nil)))
      (vss_one (vs_ret (ve_mv (pv 1)))))))), ?_⟩
  intro ds R _hl hv
  obtain ⟨l, t, rfl, hl, ht, k⟩ := hv
  walk_at "v"
  refine ⟨l, 0, [32], rfl, by simp, by omega, ?_⟩
  walk_at "v"
  obtain ⟨s1, s2, s3⟩ := skip (p := 0) (Nat.zero_le _) ht
  rw [Nat.zero_add] at s1 s2 s3
  refine whL_i (fun m e => ∃ (q : Nat) (ps : List (Int × Tk)) (t' : List Tk) (x y z : Option D), e = [some (.str (S l)), some (.lst (ps.map tkD)), some (.int q), x, y, z] ∧ q ≤ l.length ∧ m = l.length - q ∧ ps.length ≤ q ∧ (l.drop q).head? ≠ some 32 ∧ TkR (l.drop q) t' ∧ ps.map (·.2) ++ t' = t) _ ⟨_, [], t, none, none, none, rfl, s1, rfl, by simp, s2, s3, rfl⟩ ?_
  rintro m e ⟨q, ps, t', x, y, z, rfl, hq, rfl, hp, h32, ht', het⟩
  walk_at "vc"
  refine cWh_d (fun h => ?_) fun h => ?_
  · have hne : l.drop q ≠ [] := fun e => by
      have := congrArg List.length e
      rw [List.length_drop] at this
      simp at this
      omega
    obtain ⟨x, r, tk, t2, hxr, ho, rfl, ht2, hx⟩ := ht'.inv hne h32
    have hla : l = l.take q ++ (x ++ r) := by rw [← hxr, List.take_append_drop]
    have hq2 : (l.take q).length = q := by rw [List.length_take, Nat.min_eq_left hq]
    have hxl : 0 < x.length := List.length_pos_iff.mpr hx
    have hlen : q + (x.length + r.length) = l.length := by
      have := congrArg List.length hla
      rw [List.length_append, List.length_append, hq2] at this
      exact this.symm
    have hd2 : l.drop (q + x.length) = r := by rw [← List.drop_drop, hxr, List.drop_left]
    walk_at "v"
    refine ⟨l.take q, x, r, tk, by rw [← hla, hq2], by rw [← hla]; omega, ho, ?_⟩
    rw [← hla, hq2]
    walk_at "vc"
    refine ⟨ho.im, ?_⟩
    walk_at "vc"
    refine cIf_d (fun h => absurd h ho.kind) fun h => ?_
    walk_at "v"
    refine ⟨_, _, _, rfl, by omega, by omega, ?_⟩
    walk_at "v"
    obtain ⟨s1, s2, s3⟩ := skip (l := l) (p := q + x.length) (by omega) (by rw [hd2]; exact ht2)
    refine ⟨_, by omega, _, ps ++ [(((q : Nat) : Int), tk)], t2, _, _, _, by rw [List.map_append]; rfl, s1, rfl, by simp; omega, s2, s3, by rw [← het]; simp⟩
  · have hql : q = l.length := by omega
    subst hql
    rw [List.drop_length] at ht'
    have := ht'.nil_inv
    subst this
    walk_at "vc"
    have := k (ps ++ [(((l.length : Nat) : Int), kEnd, .int 0)]) (by rw [← het]; simp)
    rw [List.map_append] at this
    exact this
end
end L2.VL.K73
set_option Elab.async false
set_option linter.all false
set_option maxRecDepth 100000
namespace L2.VL.K73
open PySem PySem.Spec PyProof.Rows
local macro_rules | `(tactic| walk_at "v") => `(tactic| simp only [opt_some, optS_some, optB_some, optI_some, mv_val, mv_plc, mvl_nil, mvl_cons, cMvl_run, getl_nil, getl_cons, cGetl_run, cKons_run, cIm_run, look_run, lookO_run, put_run, putO_run, get_val, get_plc, dlook_nil, dlook_lst, dlook_obj, kidO_run, dput_nil, dput_lst, dput_obj, kidP_run, cR_run, app1_some, app2_some, deep_val, deep_nil, deep_cons, vVar_run, cVar_run, vC_run, vMv_run', cMv'_run, vBin_run, cBin_run, cBin2_run, vTest_run, cTest_run, vUn_run, cUn_run, vAnd_run, cAnd_t, cAnd_f, vOr_run, cOr_t, cOr_f, vNot_run, cNot_run, vAndV_run, cAndV_run, cAndV2_t, cAndV2_f, vOrV_run, cOrV_run, cOrV2_t, cOrV2_f, vNotV_run, cNotV_run, cNotV2_run, vIfE_run, cIfE_t, cIfE_f, vNil_run, vCons_run, cCons_run, cCons2_run, vTup_run, cTup_run, cTup2_run, vLst_run, cLst_run, cLst2_run, vFun_run, cFun_run, cFun2_run, vRM_run, cRM_run, cRM2_run, cRM3_run, cRM4_run, vMut_run, cMut_run, cMut2_run, cMut3_run, cMut4_run, cMut5_run, isL_run, isS_run, vSl_run, cSl_run, cSl2_run, cSl3_run, cSl4_run, voNone_run, voSome_run, cVo_run, ixO_run, vIxP_run, cIxP_run, cIxP2_run, cIxP3_run, vLstRg_run, cLstRg_run, cLstRg2_run, vNext_run, vBreak_run, vCont_run, vSeq_run, vDrop_run, cDrop_run, vRet_run, cRet_run, cRet2_run, vRetN_run, vIf_run, cIf_t, cIf_f, vgN_run, vgNil_run, vgCons_run, cG_run, vgTup_run, vAsg_run, cAsg_run, cAsg2_run, vPar_run, cPar_run, cPar2_run, vAug_run, cAug_run, cAug2_run, cAug3_run, vFor_run, cFor_run, vLc_run, cLc_run, vYes_run, optLst_run, viSlot_run, cSlot_run, cSlot2_run, viVal_run, cVal_run, optTup_run, viTup_run, cTupI_run, cTupI2_run, viR1_run, cR1_run, cR1b_run, viR2_run, cR2_run, cR2b_run, viRD_run, cRD_run, cRDb_run, optStr_run, viStr_run, cStrI_run, cStrI2_run, setO_run, vSetI_run, cSetI_run, cSetI2_run, cSetI3_run, cSetI4_run, cSetI5_run, fldO_run, cF2_run, vFld_run, cFld_run, cFld2_run, objO_run, vSetF_run, cSetF_run, cSetF2_run, cSetF3_run, args_nil, args_f, args_t, cArgs_run, cArgs2_run, back_t, back_tn, back_f, back_nil, back_nil', vCall_run, cCall_run, cCall2_run, cBack_run, objM_run, vMeth_run, cMeth_run, cMeth2_run, vMake_run, cMake_run, cMake2_run, cMake3_run, optI1_run, vChain_run, cCh_run, cCh2_run, chO_run, cCh3_t, cCh3_f, cCh4_run, cCh5_run, augO_run, cAugO_run, cAugO2_run, vAugF_run, cAugF_run, cAugF2_run, cAugF3_run, snocI, snocS, setI, dropI, revI, cWh_t, cWh_f, cLc1_run, cLc2_t, cLc2_f, cLc3_run, cLc4_run, cMap_run, opt_map, atI_map, fIdx_l, fIdx_t, cSgn_run, fIdx_s, fPop_run, cPop_run, fPopAt_run, cPopAt_run, cPopAt2_run, eraseI, fInt_s, cIntS_run, cIsi2_run, fIsi_run, cIsi_run, fIsiT_run, cIsiT_run, cIsiT2_run, fJoin_run, cJoin_run, kb_NoneType_tuple, kb_NoneType_list, kb_NoneType_bool, kb_NoneType_int, kb_NoneType_str, kb_NoneType_dict, kb_bool_tuple, kb_bool_list, kb_bool_bool, kb_bool_int, kb_bool_str, kb_bool_dict, kb_int_tuple, kb_int_list, kb_int_bool, kb_int_int, kb_int_str, kb_int_dict, kb_str_tuple, kb_str_list, kb_str_bool, kb_str_int, kb_str_str, kb_str_dict, kb_list_tuple, kb_list_list, kb_list_bool, kb_list_int, kb_list_str, kb_list_dict, kb_tuple_tuple, kb_tuple_list, kb_tuple_bool, kb_tuple_int, kb_tuple_str, kb_tuple_dict, kb_dict_tuple, kb_dict_list, kb_dict_bool, kb_dict_int, kb_dict_str, kb_dict_dict, kN_nil, kN_cons, orK_t, orK_f, fn_false, fAdd.eq_1, fAdd.eq_2, fAdd.eq_3, fAdd.eq_4, fI2.eq_1, fI20.eq_1, fEq.eq_1, fEq.eq_2, fEq.eq_3, fNe.eq_1, fNe.eq_2, fNe.eq_3, fSl.eq_1, fSl.eq_2, fSl.eq_3, fSl.eq_4, fLen.eq_1, fLen.eq_2, fLen.eq_3, fInt.eq_1, fInt.eq_2, fStr.eq_1, fStr.eq_2, fList.eq_1, fList.eq_2, fTuple.eq_1, fTuple.eq_2, fNeg.eq_1, fAppend.eq_1, fReverse.eq_1, fClear.eq_1, fExtend.eq_1, List.getElem?_map, Option.map_some, Option.map_none, D.isM, D.im, D.ims, D.flat, fIsN, fNotN, D.isNon, D.tyIs, tyNames, putN, putD, wipeE, finP, ims_ints, ims_strs, strs_map, flat_ints, isIn_ints, staysT, CDiv, CPow, CMul, List.getElem?_cons_zero, List.getElem?_cons_succ, List.getElem?_nil, List.set_cons_zero, List.set_cons_succ, List.map_cons, List.map_nil, List.replicate, List.cons_append, List.nil_append, List.append_nil, List.length_cons, List.length_nil, List.length_map, List.all_cons, List.all_nil, List.contains_cons, List.contains_nil, List.elem_cons, List.elem_nil, List.append_eq, List.length_append, true_and, and_true, false_and, and_false, not_true_eq_false, not_false_eq_true, ne_eq, reduceCtorEq, Bool.false_eq_true, false_implies, true_implies, implies_true, forall_const, imp_self, decide_true, decide_false, decide_eq_true_eq, Bool.not_true, Bool.not_false, Bool.or_false, Bool.and_true, Bool.true_and, Bool.false_and, if_true, if_false, ite_true, ite_false, true_or, or_true, false_or, or_false, Nat.add_zero, Nat.zero_add, Nat.reduceAdd, Nat.reduceSub, Nat.reduceEqDiff, beq_self_eq_true, BEq.rfl, Int.zero_add, Nat.reduceBEq, Nat.reduceLeDiff, Nat.reduceLT, Int.reduceLT, Int.reduceLE, Int.reduceToNat, Int.reduceNeg, Option.some.injEq, atI_c0, atI_c1, atI_c2, atI_c3, atI_c4, S_cps, S_len', S_cat', signs_S, fInG_s1, fInG_s0, fInG_l, fInG_t, S_eq1, S_eq2, itx_S, jn0, jn0_len, Int.toNat_natCast, sn_get, sn_get1, sn_ix, sn_set, sn_drop, fx_Line_0_tokens, fx_Line_0_taken, fx_Line_1_tokens, fx_Line_1_taken, fx_Line_2_tokens, fx_Line_2_taken, ne_taken_tokens, ne_tokens_taken, cs_0, cs_1, cs_2, cs_3, cs_4, cs_5, cs_6, cs_7, cs_8, cs_9, cs_10, cs_11, cs_12, cs_13, cs_14])
local macro_rules | `(tactic| walk_at "c") => `(tactic| repeat (refine And.intro (by first | omega | rfl | assumption | decide | decide +kernel) ?_))
local macro_rules | `(tactic| walk_at "vc") => `(tactic| ((try walk_at "v"); walk_at "c"))
section
variable {P : Program} {w : World} {K : PySem.W.Frag} {mg : Str → Option Value} {base : Heap}

def vf_Line_kind (C : Addr) : VF := fun ds R => ∃ (ts : List (Int × Tk)) (k : Nat) (x : Int × Tk), ds = [ln C ts k] ∧ ts[k]? = some x ∧ x.2.2.im = true ∧ R (.str x.2.1) [some (ln C ts k)]
theorem ok_Line_kind (T : Facts K mg) : FnOk P w K mg base CX0 1 T.f_Line_kind T.fd_Line_kind ["self"] (spV K 1 (vf_Line_kind T.C_Line)) := by
  refine okV T.F_Line_kind sc_Line_kind _ fun cdv A outer s H E hr => ⟨_, (vss_one (vs_ret (ve_bin (fun h g => pe_ix ix_seq h g (fun _ _ => rfl)) o2_idx (ve_bin (fun h g => pe_ix ix_seq h g (fun _ _ => rfl)) o2_idx (ve_fld T.cl_Line T.na_Line_tokens (fun h => pe_fld h rfl) (ve_var (pv 0))) (ve_fld T.cl_Line T.na_Line_taken (fun h => pe_fld h rfl) (ve_var (pv 0)))) ve_int))), ?_⟩
  intro ds R _hl hv
  obtain ⟨ts, j, x, rfl, hx, him, k⟩ := hv
  walk_at "vc"
  rw [atI_nat hx]
  walk_at "v"
  rw [tkD]
  walk_at "vc"
  exact k
end
end L2.VL.K73
set_option Elab.async false
set_option linter.all false
set_option maxRecDepth 100000
namespace L2.VL.K73
open PySem PySem.Spec PyProof.Rows
local macro_rules | `(tactic| walk_at "v") => `(tactic| simp only [opt_some, optS_some, optB_some, optI_some, mv_val, mv_plc, mvl_nil, mvl_cons, cMvl_run, getl_nil, getl_cons, cGetl_run, cKons_run, cIm_run, look_run, lookO_run, put_run, putO_run, get_val, get_plc, dlook_nil, dlook_lst, dlook_obj, kidO_run, dput_nil, dput_lst, dput_obj, kidP_run, cR_run, app1_some, app2_some, deep_val, deep_nil, deep_cons, vVar_run, cVar_run, vC_run, vMv_run', cMv'_run, vBin_run, cBin_run, cBin2_run, vTest_run, cTest_run, vUn_run, cUn_run, vAnd_run, cAnd_t, cAnd_f, vOr_run, cOr_t, cOr_f, vNot_run, cNot_run, vAndV_run, cAndV_run, cAndV2_t, cAndV2_f, vOrV_run, cOrV_run, cOrV2_t, cOrV2_f, vNotV_run, cNotV_run, cNotV2_run, vIfE_run, cIfE_t, cIfE_f, vNil_run, vCons_run, cCons_run, cCons2_run, vTup_run, cTup_run, cTup2_run, vLst_run, cLst_run, cLst2_run, vFun_run, cFun_run, cFun2_run, vRM_run, cRM_run, cRM2_run, cRM3_run, cRM4_run, vMut_run, cMut_run, cMut2_run, cMut3_run, cMut4_run, cMut5_run, isL_run, isS_run, vSl_run, cSl_run, cSl2_run, cSl3_run, cSl4_run, voNone_run, voSome_run, cVo_run, ixO_run, vIxP_run, cIxP_run, cIxP2_run, cIxP3_run, vLstRg_run, cLstRg_run, cLstRg2_run, vNext_run, vBreak_run, vCont_run, vSeq_run, vDrop_run, cDrop_run, vRet_run, cRet_run, cRet2_run, vRetN_run, vIf_run, cIf_t, cIf_f, vgN_run, vgNil_run, vgCons_run, cG_run, vgTup_run, vAsg_run, cAsg_run, cAsg2_run, vPar_run, cPar_run, cPar2_run, vAug_run, cAug_run, cAug2_run, cAug3_run, vFor_run, cFor_run, vLc_run, cLc_run, vYes_run, optLst_run, viSlot_run, cSlot_run, cSlot2_run, viVal_run, cVal_run, optTup_run, viTup_run, cTupI_run, cTupI2_run, viR1_run, cR1_run, cR1b_run, viR2_run, cR2_run, cR2b_run, viRD_run, cRD_run, cRDb_run, optStr_run, viStr_run, cStrI_run, cStrI2_run, setO_run, vSetI_run, cSetI_run, cSetI2_run, cSetI3_run, cSetI4_run, cSetI5_run, fldO_run, cF2_run, vFld_run, cFld_run, cFld2_run, objO_run, vSetF_run, cSetF_run, cSetF2_run, cSetF3_run, args_nil, args_f, args_t, cArgs_run, cArgs2_run, back_t, back_tn, back_f, back_nil, back_nil', vCall_run, cCall_run, cCall2_run, cBack_run, objM_run, vMeth_run, cMeth_run, cMeth2_run, vMake_run, cMake_run, cMake2_run, cMake3_run, optI1_run, vChain_run, cCh_run, cCh2_run, chO_run, cCh3_t, cCh3_f, cCh4_run, cCh5_run, augO_run, cAugO_run, cAugO2_run, vAugF_run, cAugF_run, cAugF2_run, cAugF3_run, snocI, snocS, setI, dropI, revI, cWh_t, cWh_f, cLc1_run, cLc2_t, cLc2_f, cLc3_run, cLc4_run, cMap_run, opt_map, atI_map, fIdx_l, fIdx_t, cSgn_run, fIdx_s, fPop_run, cPop_run, fPopAt_run, cPopAt_run, cPopAt2_run, eraseI, fInt_s, cIntS_run, cIsi2_run, fIsi_run, cIsi_run, fIsiT_run, cIsiT_run, cIsiT2_run, fJoin_run, cJoin_run, kb_NoneType_tuple, kb_NoneType_list, kb_NoneType_bool, kb_NoneType_int, kb_NoneType_str, kb_NoneType_dict, kb_bool_tuple, kb_bool_list, kb_bool_bool, kb_bool_int, kb_bool_str, kb_bool_dict, kb_int_tuple, kb_int_list, kb_int_bool, kb_int_int, kb_int_str, kb_int_dict, kb_str_tuple, kb_str_list, kb_str_bool, kb_str_int, kb_str_str, kb_str_dict, kb_list_tuple, kb_list_list, kb_list_bool, kb_list_int, kb_list_str, kb_list_dict, kb_tuple_tuple, kb_tuple_list, kb_tuple_bool, kb_tuple_int, kb_tuple_str, kb_tuple_dict, kb_dict_tuple, kb_dict_list, kb_dict_bool, kb_dict_int, kb_dict_str, kb_dict_dict, kN_nil, kN_cons, orK_t, orK_f, fn_false, fAdd.eq_1, fAdd.eq_2, fAdd.eq_3, fAdd.eq_4, fI2.eq_1, fI20.eq_1, fEq.eq_1, fEq.eq_2, fEq.eq_3, fNe.eq_1, fNe.eq_2, fNe.eq_3, fSl.eq_1, fSl.eq_2, fSl.eq_3, fSl.eq_4, fLen.eq_1, fLen.eq_2, fLen.eq_3, fInt.eq_1, fInt.eq_2, fStr.eq_1, fStr.eq_2, fList.eq_1, fList.eq_2, fTuple.eq_1, fTuple.eq_2, fNeg.eq_1, fAppend.eq_1, fReverse.eq_1, fClear.eq_1, fExtend.eq_1, List.getElem?_map, Option.map_some, Option.map_none, D.isM, D.im, D.ims, D.flat, fIsN, fNotN, D.isNon, D.tyIs, tyNames, putN, putD, wipeE, finP, ims_ints, ims_strs, strs_map, flat_ints, isIn_ints, staysT, CDiv, CPow, CMul, List.getElem?_cons_zero, List.getElem?_cons_succ, List.getElem?_nil, List.set_cons_zero, List.set_cons_succ, List.map_cons, List.map_nil, List.replicate, List.cons_append, List.nil_append, List.append_nil, List.length_cons, List.length_nil, List.length_map, List.all_cons, List.all_nil, List.contains_cons, List.contains_nil, List.elem_cons, List.elem_nil, List.append_eq, List.length_append, true_and, and_true, false_and, and_false, not_true_eq_false, not_false_eq_true, ne_eq, reduceCtorEq, Bool.false_eq_true, false_implies, true_implies, implies_true, forall_const, imp_self, decide_true, decide_false, decide_eq_true_eq, Bool.not_true, Bool.not_false, Bool.or_false, Bool.and_true, Bool.true_and, Bool.false_and, if_true, if_false, ite_true, ite_false, true_or, or_true, false_or, or_false, Nat.add_zero, Nat.zero_add, Nat.reduceAdd, Nat.reduceSub, Nat.reduceEqDiff, beq_self_eq_true, BEq.rfl, Int.zero_add, Nat.reduceBEq, Nat.reduceLeDiff, Nat.reduceLT, Int.reduceLT, Int.reduceLE, Int.reduceToNat, Int.reduceNeg, Option.some.injEq, atI_c0, atI_c1, atI_c2, atI_c3, atI_c4, S_cps, S_len', S_cat', signs_S, fInG_s1, fInG_s0, fInG_l, fInG_t, S_eq1, S_eq2, itx_S, jn0, jn0_len, Int.toNat_natCast, sn_get, sn_get1, sn_ix, sn_set, sn_drop, fx_Line_0_tokens, fx_Line_0_taken, fx_Line_1_tokens, fx_Line_1_taken, fx_Line_2_tokens, fx_Line_2_taken, ne_taken_tokens, ne_tokens_taken, cs_0, cs_1, cs_2, cs_3, cs_4, cs_5, cs_6, cs_7, cs_8, cs_9, cs_10, cs_11, cs_12, cs_13, cs_14])
local macro_rules | `(tactic| walk_at "c") => `(tactic| repeat (refine And.intro (by first | omega | rfl | assumption | decide | decide +kernel) ?_))
local macro_rules | `(tactic| walk_at "vc") => `(tactic| ((try walk_at "v"); walk_at "c"))
section
variable {P : Program} {w : World} {K : PySem.W.Frag} {mg : Str → Option Value} {base : Heap}

def vf_Line_value (C : Addr) : VF := fun ds R => ∃ (ts : List (Int × Tk)) (k : Nat) (x : Int × Tk), ds = [ln C ts k] ∧ ts[k]? = some x ∧ x.2.2.im = true ∧ R x.2.2 [some (ln C ts k)]
theorem ok_Line_value (T : Facts K mg) : FnOk P w K mg base CX0 1 T.f_Line_value T.fd_Line_value ["self"] (spV K 1 (vf_Line_value T.C_Line)) := by
  refine okV T.F_Line_value sc_Line_value _ fun cdv A outer s H E hr => ⟨_, (vss_one (vs_ret (ve_bin (fun h g => pe_ix ix_seq h g (fun _ _ => rfl)) o2_idx (ve_bin (fun h g => pe_ix ix_seq h g (fun _ _ => rfl)) o2_idx (ve_fld T.cl_Line T.na_Line_tokens (fun h => pe_fld h rfl) (ve_var (pv 0))) (ve_fld T.cl_Line T.na_Line_taken (fun h => pe_fld h rfl) (ve_var (pv 0)))) ve_int))), ?_⟩
  intro ds R _hl hv
  obtain ⟨ts, j, x, rfl, hx, him, k⟩ := hv
  walk_at "vc"
  rw [atI_nat hx]
  walk_at "v"
  rw [tkD]
  walk_at "vc"
  exact k
end
end L2.VL.K73
set_option Elab.async false
set_option linter.all false
set_option maxRecDepth 100000
namespace L2.VL.K73
open PySem PySem.Spec PyProof.Rows
local macro_rules | `(tactic| walk_at "v") => `(tactic| simp only [opt_some, optS_some, optB_some, optI_some, mv_val, mv_plc, mvl_nil, mvl_cons, cMvl_run, getl_nil, getl_cons, cGetl_run, cKons_run, cIm_run, look_run, lookO_run, put_run, putO_run, get_val, get_plc, dlook_nil, dlook_lst, dlook_obj, kidO_run, dput_nil, dput_lst, dput_obj, kidP_run, cR_run, app1_some, app2_some, deep_val, deep_nil, deep_cons, vVar_run, cVar_run, vC_run, vMv_run', cMv'_run, vBin_run, cBin_run, cBin2_run, vTest_run, cTest_run, vUn_run, cUn_run, vAnd_run, cAnd_t, cAnd_f, vOr_run, cOr_t, cOr_f, vNot_run, cNot_run, vAndV_run, cAndV_run, cAndV2_t, cAndV2_f, vOrV_run, cOrV_run, cOrV2_t, cOrV2_f, vNotV_run, cNotV_run, cNotV2_run, vIfE_run, cIfE_t, cIfE_f, vNil_run, vCons_run, cCons_run, cCons2_run, vTup_run, cTup_run, cTup2_run, vLst_run, cLst_run, cLst2_run, vFun_run, cFun_run, cFun2_run, vRM_run, cRM_run, cRM2_run, cRM3_run, cRM4_run, vMut_run, cMut_run, cMut2_run, cMut3_run, cMut4_run, cMut5_run, isL_run, isS_run, vSl_run, cSl_run, cSl2_run, cSl3_run, cSl4_run, voNone_run, voSome_run, cVo_run, ixO_run, vIxP_run, cIxP_run, cIxP2_run, cIxP3_run, vLstRg_run, cLstRg_run, cLstRg2_run, vNext_run, vBreak_run, vCont_run, vSeq_run, vDrop_run, cDrop_run, vRet_run, cRet_run, cRet2_run, vRetN_run, vIf_run, cIf_t, cIf_f, vgN_run, vgNil_run, vgCons_run, cG_run, vgTup_run, vAsg_run, cAsg_run, cAsg2_run, vPar_run, cPar_run, cPar2_run, vAug_run, cAug_run, cAug2_run, cAug3_run, vFor_run, cFor_run, vLc_run, cLc_run, vYes_run, optLst_run, viSlot_run, cSlot_run, cSlot2_run, viVal_run, cVal_run, optTup_run, viTup_run, cTupI_run, cTupI2_run, viR1_run, cR1_run, cR1b_run, viR2_run, cR2_run, cR2b_run, viRD_run, cRD_run, cRDb_run, optStr_run, viStr_run, cStrI_run, cStrI2_run, setO_run, vSetI_run, cSetI_run, cSetI2_run, cSetI3_run, cSetI4_run, cSetI5_run, fldO_run, cF2_run, vFld_run, cFld_run, cFld2_run, objO_run, vSetF_run, cSetF_run, cSetF2_run, cSetF3_run, args_nil, args_f, args_t, cArgs_run, cArgs2_run, back_t, back_tn, back_f, back_nil, back_nil', vCall_run, cCall_run, cCall2_run, cBack_run, objM_run, vMeth_run, cMeth_run, cMeth2_run, vMake_run, cMake_run, cMake2_run, cMake3_run, optI1_run, vChain_run, cCh_run, cCh2_run, chO_run, cCh3_t, cCh3_f, cCh4_run, cCh5_run, augO_run, cAugO_run, cAugO2_run, vAugF_run, cAugF_run, cAugF2_run, cAugF3_run, snocI, snocS, setI, dropI, revI, cWh_t, cWh_f, cLc1_run, cLc2_t, cLc2_f, cLc3_run, cLc4_run, cMap_run, opt_map, atI_map, fIdx_l, fIdx_t, cSgn_run, fIdx_s, fPop_run, cPop_run, fPopAt_run, cPopAt_run, cPopAt2_run, eraseI, fInt_s, cIntS_run, cIsi2_run, fIsi_run, cIsi_run, fIsiT_run, cIsiT_run, cIsiT2_run, fJoin_run, cJoin_run, kb_NoneType_tuple, kb_NoneType_list, kb_NoneType_bool, kb_NoneType_int, kb_NoneType_str, kb_NoneType_dict, kb_bool_tuple, kb_bool_list, kb_bool_bool, kb_bool_int, kb_bool_str, kb_bool_dict, kb_int_tuple, kb_int_list, kb_int_bool, kb_int_int, kb_int_str, kb_int_dict, kb_str_tuple, kb_str_list, kb_str_bool, kb_str_int, kb_str_str, kb_str_dict, kb_list_tuple, kb_list_list, kb_list_bool, kb_list_int, kb_list_str, kb_list_dict, kb_tuple_tuple, kb_tuple_list, kb_tuple_bool, kb_tuple_int, kb_tuple_str, kb_tuple_dict, kb_dict_tuple, kb_dict_list, kb_dict_bool, kb_dict_int, kb_dict_str, kb_dict_dict, kN_nil, kN_cons, orK_t, orK_f, fn_false, fAdd.eq_1, fAdd.eq_2, fAdd.eq_3, fAdd.eq_4, fI2.eq_1, fI20.eq_1, fEq.eq_1, fEq.eq_2, fEq.eq_3, fNe.eq_1, fNe.eq_2, fNe.eq_3, fSl.eq_1, fSl.eq_2, fSl.eq_3, fSl.eq_4, fLen.eq_1, fLen.eq_2, fLen.eq_3, fInt.eq_1, fInt.eq_2, fStr.eq_1, fStr.eq_2, fList.eq_1, fList.eq_2, fTuple.eq_1, fTuple.eq_2, fNeg.eq_1, fAppend.eq_1, fReverse.eq_1, fClear.eq_1, fExtend.eq_1, List.getElem?_map, Option.map_some, Option.map_none, D.isM, D.im, D.ims, D.flat, fIsN, fNotN, D.isNon, D.tyIs, tyNames, putN, putD, wipeE, finP, ims_ints, ims_strs, strs_map, flat_ints, isIn_ints, staysT, CDiv, CPow, CMul, List.getElem?_cons_zero, List.getElem?_cons_succ, List.getElem?_nil, List.set_cons_zero, List.set_cons_succ, List.map_cons, List.map_nil, List.replicate, List.cons_append, List.nil_append, List.append_nil, List.length_cons, List.length_nil, List.length_map, List.all_cons, List.all_nil, List.contains_cons, List.contains_nil, List.elem_cons, List.elem_nil, List.append_eq, List.length_append, true_and, and_true, false_and, and_false, not_true_eq_false, not_false_eq_true, ne_eq, reduceCtorEq, Bool.false_eq_true, false_implies, true_implies, implies_true, forall_const, imp_self, decide_true, decide_false, decide_eq_true_eq, Bool.not_true, Bool.not_false, Bool.or_false, Bool.and_true, Bool.true_and, Bool.false_and, if_true, if_false, ite_true, ite_false, true_or, or_true, false_or, or_false, Nat.add_zero, Nat.zero_add, Nat.reduceAdd, Nat.reduceSub, Nat.reduceEqDiff, beq_self_eq_true, BEq.rfl, Int.zero_add, Nat.reduceBEq, Nat.reduceLeDiff, Nat.reduceLT, Int.reduceLT, Int.reduceLE, Int.reduceToNat, Int.reduceNeg, Option.some.injEq, atI_c0, atI_c1, atI_c2, atI_c3, atI_c4, S_cps, S_len', S_cat', signs_S, fInG_s1, fInG_s0, fInG_l, fInG_t, S_eq1, S_eq2, itx_S, jn0, jn0_len, Int.toNat_natCast, sn_get, sn_get1, sn_ix, sn_set, sn_drop, fx_Line_0_tokens, fx_Line_0_taken, fx_Line_1_tokens, fx_Line_1_taken, fx_Line_2_tokens, fx_Line_2_taken, ne_taken_tokens, ne_tokens_taken, cs_0, cs_1, cs_2, cs_3, cs_4, cs_5, cs_6, cs_7, cs_8, cs_9, cs_10, cs_11, cs_12, cs_13, cs_14])
local macro_rules | `(tactic| walk_at "c") => `(tactic| repeat (refine And.intro (by first | omega | rfl | assumption | decide | decide +kernel) ?_))
local macro_rules | `(tactic| walk_at "vc") => `(tactic| ((try walk_at "v"); walk_at "c"))
section
variable {P : Program} {w : World} {K : PySem.W.Frag} {mg : Str → Option Value} {base : Heap}

def vf_Line_init (C : Addr) : VF := fun ds R => ∃ (l : List Nat) (t : List Tk), ds = [.obj C [] [], .str (S l)] ∧ l.length ≤ 1000000 ∧ TkR l t ∧ ∀ ts : List (Int × Tk), ts.map (·.2) = t ++ [(kEnd, .int 0)] → R .non [some (ln C ts 0), some (.str (S l))]
theorem ok_Line_init (T : Facts K mg) : FnOk P w K mg base CX0 5 T.f_Line_init T.fd_Line_init ["self", "text"] (spV K 2 (vf_Line_init T.C_Line)) := by
  refine okV T.F_Line_init sc_Line_init _ fun cdv A outer s H E hr => ⟨_, (vss_cons (vs_fld T.cl_Line T.na_Line_tokens (fun ho h => ps_fld ho h rfl) (pv 0) (ve_call [false] (fun h => pe_call (ok_tokens_of T) (hr.mono (by omega)) (by rfl) T.g_tokens_of T.F_tokens_of.kp T.b_tokens_of .nil pass0 h) (va_cons (ve_var (pv 1)) va_nil)))
      (vss_one (vs_fld T.cl_Line T.na_Line_taken (fun ho h => ps_fld ho h rfl) (pv 0) ve_int))), ?_⟩
  intro ds R _hl hv
  obtain ⟨l, t, rfl, hl, ht, k⟩ := hv
  walk_at "vc"
  refine ⟨l, t, rfl, hl, ht, fun ts hts => ?_⟩
  walk_at "vc"
  exact k ts hts
end
end L2.VL.K73
set_option Elab.async false
set_option linter.all false
set_option maxRecDepth 100000
namespace L2.VL.K73
open PySem PySem.Spec PyProof.Rows
local macro_rules | `(tactic| walk_at "v") => `(tactic| simp only [opt_some, optS_some, optB_some, optI_some, mv_val, mv_plc, mvl_nil, mvl_cons, cMvl_run, getl_nil, getl_cons, cGetl_run, cKons_run, cIm_run, look_run, lookO_run, put_run, putO_run, get_val, get_plc, dlook_nil, dlook_lst, dlook_obj, kidO_run, dput_nil, dput_lst, dput_obj, kidP_run, cR_run, app1_some, app2_some, deep_val, deep_nil, deep_cons, vVar_run, cVar_run, vC_run, vMv_run', cMv'_run, vBin_run, cBin_run, cBin2_run, vTest_run, cTest_run, vUn_run, cUn_run, vAnd_run, cAnd_t, cAnd_f, vOr_run, cOr_t, cOr_f, vNot_run, cNot_run, vAndV_run, cAndV_run, cAndV2_t, cAndV2_f, vOrV_run, cOrV_run, cOrV2_t, cOrV2_f, vNotV_run, cNotV_run, cNotV2_run, vIfE_run, cIfE_t, cIfE_f, vNil_run, vCons_run, cCons_run, cCons2_run, vTup_run, cTup_run, cTup2_run, vLst_run, cLst_run, cLst2_run, vFun_run, cFun_run, cFun2_run, vRM_run, cRM_run, cRM2_run, cRM3_run, cRM4_run, vMut_run, cMut_run, cMut2_run, cMut3_run, cMut4_run, cMut5_run, isL_run, isS_run, vSl_run, cSl_run, cSl2_run, cSl3_run, cSl4_run, voNone_run, voSome_run, cVo_run, ixO_run, vIxP_run, cIxP_run, cIxP2_run, cIxP3_run, vLstRg_run, cLstRg_run, cLstRg2_run, vNext_run, vBreak_run, vCont_run, vSeq_run, vDrop_run, cDrop_run, vRet_run, cRet_run, cRet2_run, vRetN_run, vIf_run, cIf_t, cIf_f, vgN_run, vgNil_run, vgCons_run, cG_run, vgTup_run, vAsg_run, cAsg_run, cAsg2_run, vPar_run, cPar_run, cPar2_run, vAug_run, cAug_run, cAug2_run, cAug3_run, vFor_run, cFor_run, vLc_run, cLc_run, vYes_run, optLst_run, viSlot_run, cSlot_run, cSlot2_run, viVal_run, cVal_run, optTup_run, viTup_run, cTupI_run, cTupI2_run, viR1_run, cR1_run, cR1b_run, viR2_run, cR2_run, cR2b_run, viRD_run, cRD_run, cRDb_run, optStr_run, viStr_run, cStrI_run, cStrI2_run, setO_run, vSetI_run, cSetI_run, cSetI2_run, cSetI3_run, cSetI4_run, cSetI5_run, fldO_run, cF2_run, vFld_run, cFld_run, cFld2_run, objO_run, vSetF_run, cSetF_run, cSetF2_run, cSetF3_run, args_nil, args_f, args_t, cArgs_run, cArgs2_run, back_t, back_tn, back_f, back_nil, back_nil', vCall_run, cCall_run, cCall2_run, cBack_run, objM_run, vMeth_run, cMeth_run, cMeth2_run, vMake_run, cMake_run, cMake2_run, cMake3_run, optI1_run, vChain_run, cCh_run, cCh2_run, chO_run, cCh3_t, cCh3_f, cCh4_run, cCh5_run, augO_run, cAugO_run, cAugO2_run, vAugF_run, cAugF_run, cAugF2_run, cAugF3_run, snocI, snocS, setI, dropI, revI, cWh_t, cWh_f, cLc1_run, cLc2_t, cLc2_f, cLc3_run, cLc4_run, cMap_run, opt_map, atI_map, fIdx_l, fIdx_t, cSgn_run, fIdx_s, fPop_run, cPop_run, fPopAt_run, cPopAt_run, cPopAt2_run, eraseI, fInt_s, cIntS_run, cIsi2_run, fIsi_run, cIsi_run, fIsiT_run, cIsiT_run, cIsiT2_run, fJoin_run, cJoin_run, kb_NoneType_tuple, kb_NoneType_list, kb_NoneType_bool, kb_NoneType_int, kb_NoneType_str, kb_NoneType_dict, kb_bool_tuple, kb_bool_list, kb_bool_bool, kb_bool_int, kb_bool_str, kb_bool_dict, kb_int_tuple, kb_int_list, kb_int_bool, kb_int_int, kb_int_str, kb_int_dict, kb_str_tuple, kb_str_list, kb_str_bool, kb_str_int, kb_str_str, kb_str_dict, kb_list_tuple, kb_list_list, kb_list_bool, kb_list_int, kb_list_str, kb_list_dict, kb_tuple_tuple, kb_tuple_list, kb_tuple_bool, kb_tuple_int, kb_tuple_str, kb_tuple_dict, kb_dict_tuple, kb_dict_list, kb_dict_bool, kb_dict_int, kb_dict_str, kb_dict_dict, kN_nil, kN_cons, orK_t, orK_f, fn_false, fAdd.eq_1, fAdd.eq_2, fAdd.eq_3, fAdd.eq_4, fI2.eq_1, fI20.eq_1, fEq.eq_1, fEq.eq_2, fEq.eq_3, fNe.eq_1, fNe.eq_2, fNe.eq_3, fSl.eq_1, fSl.eq_2, fSl.eq_3, fSl.eq_4, fLen.eq_1, fLen.eq_2, fLen.eq_3, fInt.eq_1, fInt.eq_2, fStr.eq_1, fStr.eq_2, fList.eq_1, fList.eq_2, fTuple.eq_1, fTuple.eq_2, fNeg.eq_1, fAppend.eq_1, fReverse.eq_1, fClear.eq_1, fExtend.eq_1, List.getElem?_map, Option.map_some, Option.map_none, D.isM, D.im, D.ims, D.flat, fIsN, fNotN, D.isNon, D.tyIs, tyNames, putN, putD, wipeE, finP, ims_ints, ims_strs, strs_map, flat_ints, isIn_ints, staysT, CDiv, CPow, CMul, List.getElem?_cons_zero, List.getElem?_cons_succ, List.getElem?_nil, List.set_cons_zero, List.set_cons_succ, List.map_cons, List.map_nil, List.replicate, List.cons_append, List.nil_append, List.append_nil, List.length_cons, List.length_nil, List.length_map, List.all_cons, List.all_nil, List.contains_cons, List.contains_nil, List.elem_cons, List.elem_nil, List.append_eq, List.length_append, true_and, and_true, false_and, and_false, not_true_eq_false, not_false_eq_true, ne_eq, reduceCtorEq, Bool.false_eq_true, false_implies, true_implies, implies_true, forall_const, imp_self, decide_true, decide_false, decide_eq_true_eq, Bool.not_true, Bool.not_false, Bool.or_false, Bool.and_true, Bool.true_and, Bool.false_and, if_true, if_false, ite_true, ite_false, true_or, or_true, false_or, or_false, Nat.add_zero, Nat.zero_add, Nat.reduceAdd, Nat.reduceSub, Nat.reduceEqDiff, beq_self_eq_true, BEq.rfl, Int.zero_add, Nat.reduceBEq, Nat.reduceLeDiff, Nat.reduceLT, Int.reduceLT, Int.reduceLE, Int.reduceToNat, Int.reduceNeg, Option.some.injEq, atI_c0, atI_c1, atI_c2, atI_c3, atI_c4, S_cps, S_len', S_cat', signs_S, fInG_s1, fInG_s0, fInG_l, fInG_t, S_eq1, S_eq2, itx_S, jn0, jn0_len, Int.toNat_natCast, sn_get, sn_get1, sn_ix, sn_set, sn_drop, fx_Line_0_tokens, fx_Line_0_taken, fx_Line_1_tokens, fx_Line_1_taken, fx_Line_2_tokens, fx_Line_2_taken, ne_taken_tokens, ne_tokens_taken, cs_0, cs_1, cs_2, cs_3, cs_4, cs_5, cs_6, cs_7, cs_8, cs_9, cs_10, cs_11, cs_12, cs_13, cs_14])
local macro_rules | `(tactic| walk_at "c") => `(tactic| repeat (refine And.intro (by first | omega | rfl | assumption | decide | decide +kernel) ?_))
local macro_rules | `(tactic| walk_at "vc") => `(tactic| ((try walk_at "v"); walk_at "c"))
section
variable {P : Program} {w : World} {K : PySem.W.Frag} {mg : Str → Option Value} {base : Heap}

def vf_Line_take (C : Addr) : VF := fun ds R => ∃ (ts : List (Int × Tk)) (k : Nat) (x : Int × Tk), ds = [ln C ts k, .str x.2.1] ∧ ts[k]? = some x ∧ x.2.2.im = true ∧ R x.2.2 [some (ln C ts (k + 1)), some (.str x.2.1)]
theorem ok_Line_take (T : Facts K mg) : FnOk P w K mg base CX0 2 T.f_Line_take T.fd_Line_take ["self", "kind"] (spV K 2 (vf_Line_take T.C_Line)) := by
  refine okV T.F_Line_take sc_Line_take _ fun cdv A outer s H E hr => ⟨_, (vss_cons (vs_if (vt_bin (fun h g => pt_cmpR (or_ne hr.units) h g (nomark _)) o2_ne (ve_meth0 [true] (fun ho => pe_meth0 ho T.cl_Line T.m_Line_kind (ok_Line_kind T) (hr.mono (by omega)) T.b_Line_kind .nil pass0) (ve_var (pv 0))) (ve_var (pv 1))) (vss_one vs_never) vss_nil)
      (vss_cons (vs_set (i := 2) (fun h => ps_set sc_Line_take.nd rfl (.inl rfl) h) (ve_meth0 [true] (fun ho => pe_meth0 ho T.cl_Line T.m_Line_value (ok_Line_value T) (hr.mono (by omega)) T.b_Line_value .nil pass0) (ve_var (pv 0))))
      (vss_cons (vs_fldaug T.cl_Line T.na_Line_taken (fun ho h => ps_fldaug ho h in_add) (pv 0) ve_int)
      (vss_one (vs_ret (ve_var (pv 2))))))), ?_⟩
  intro ds R _hl hv
  obtain ⟨ts, j, x, rfl, hx, him, k⟩ := hv
  walk_at "vc"
  refine ⟨_, _, _, rfl, hx, him, ?_⟩
  walk_at "vc"
  refine ⟨_, _, _, rfl, hx, him, ?_⟩
  walk_at "vc"
  exact k
end
end L2.VL.K73
set_option Elab.async false
set_option linter.all false
set_option maxRecDepth 100000
namespace L2.VL.K73
open PySem PySem.Spec PyProof.Rows
local macro_rules | `(tactic| walk_at "v") => `(tactic| simp only [opt_some, optS_some, optB_some, optI_some, mv_val, mv_plc, mvl_nil, mvl_cons, cMvl_run, getl_nil, getl_cons, cGetl_run, cKons_run, cIm_run, look_run, lookO_run, put_run, putO_run, get_val, get_plc, dlook_nil, dlook_lst, dlook_obj, kidO_run, dput_nil, dput_lst, dput_obj, kidP_run, cR_run, app1_some, app2_some, deep_val, deep_nil, deep_cons, vVar_run, cVar_run, vC_run, vMv_run', cMv'_run, vBin_run, cBin_run, cBin2_run, vTest_run, cTest_run, vUn_run, cUn_run, vAnd_run, cAnd_t, cAnd_f, vOr_run, cOr_t, cOr_f, vNot_run, cNot_run, vAndV_run, cAndV_run, cAndV2_t, cAndV2_f, vOrV_run, cOrV_run, cOrV2_t, cOrV2_f, vNotV_run, cNotV_run, cNotV2_run, vIfE_run, cIfE_t, cIfE_f, vNil_run, vCons_run, cCons_run, cCons2_run, vTup_run, cTup_run, cTup2_run, vLst_run, cLst_run, cLst2_run, vFun_run, cFun_run, cFun2_run, vRM_run, cRM_run, cRM2_run, cRM3_run, cRM4_run, vMut_run, cMut_run, cMut2_run, cMut3_run, cMut4_run, cMut5_run, isL_run, isS_run, vSl_run, cSl_run, cSl2_run, cSl3_run, cSl4_run, voNone_run, voSome_run, cVo_run, ixO_run, vIxP_run, cIxP_run, cIxP2_run, cIxP3_run, vLstRg_run, cLstRg_run, cLstRg2_run, vNext_run, vBreak_run, vCont_run, vSeq_run, vDrop_run, cDrop_run, vRet_run, cRet_run, cRet2_run, vRetN_run, vIf_run, cIf_t, cIf_f, vgN_run, vgNil_run, vgCons_run, cG_run, vgTup_run, vAsg_run, cAsg_run, cAsg2_run, vPar_run, cPar_run, cPar2_run, vAug_run, cAug_run, cAug2_run, cAug3_run, vFor_run, cFor_run, vLc_run, cLc_run, vYes_run, optLst_run, viSlot_run, cSlot_run, cSlot2_run, viVal_run, cVal_run, optTup_run, viTup_run, cTupI_run, cTupI2_run, viR1_run, cR1_run, cR1b_run, viR2_run, cR2_run, cR2b_run, viRD_run, cRD_run, cRDb_run, optStr_run, viStr_run, cStrI_run, cStrI2_run, setO_run, vSetI_run, cSetI_run, cSetI2_run, cSetI3_run, cSetI4_run, cSetI5_run, fldO_run, cF2_run, vFld_run, cFld_run, cFld2_run, objO_run, vSetF_run, cSetF_run, cSetF2_run, cSetF3_run, args_nil, args_f, args_t, cArgs_run, cArgs2_run, back_t, back_tn, back_f, back_nil, back_nil', vCall_run, cCall_run, cCall2_run, cBack_run, objM_run, vMeth_run, cMeth_run, cMeth2_run, vMake_run, cMake_run, cMake2_run, cMake3_run, optI1_run, vChain_run, cCh_run, cCh2_run, chO_run, cCh3_t, cCh3_f, cCh4_run, cCh5_run, augO_run, cAugO_run, cAugO2_run, vAugF_run, cAugF_run, cAugF2_run, cAugF3_run, snocI, snocS, setI, dropI, revI, cWh_t, cWh_f, cLc1_run, cLc2_t, cLc2_f, cLc3_run, cLc4_run, cMap_run, opt_map, atI_map, fIdx_l, fIdx_t, cSgn_run, fIdx_s, fPop_run, cPop_run, fPopAt_run, cPopAt_run, cPopAt2_run, eraseI, fInt_s, cIntS_run, cIsi2_run, fIsi_run, cIsi_run, fIsiT_run, cIsiT_run, cIsiT2_run, fJoin_run, cJoin_run, kb_NoneType_tuple, kb_NoneType_list, kb_NoneType_bool, kb_NoneType_int, kb_NoneType_str, kb_NoneType_dict, kb_bool_tuple, kb_bool_list, kb_bool_bool, kb_bool_int, kb_bool_str, kb_bool_dict, kb_int_tuple, kb_int_list, kb_int_bool, kb_int_int, kb_int_str, kb_int_dict, kb_str_tuple, kb_str_list, kb_str_bool, kb_str_int, kb_str_str, kb_str_dict, kb_list_tuple, kb_list_list, kb_list_bool, kb_list_int, kb_list_str, kb_list_dict, kb_tuple_tuple, kb_tuple_list, kb_tuple_bool, kb_tuple_int, kb_tuple_str, kb_tuple_dict, kb_dict_tuple, kb_dict_list, kb_dict_bool, kb_dict_int, kb_dict_str, kb_dict_dict, kN_nil, kN_cons, orK_t, orK_f, fn_false, fAdd.eq_1, fAdd.eq_2, fAdd.eq_3, fAdd.eq_4, fI2.eq_1, fI20.eq_1, fEq.eq_1, fEq.eq_2, fEq.eq_3, fNe.eq_1, fNe.eq_2, fNe.eq_3, fSl.eq_1, fSl.eq_2, fSl.eq_3, fSl.eq_4, fLen.eq_1, fLen.eq_2, fLen.eq_3, fInt.eq_1, fInt.eq_2, fStr.eq_1, fStr.eq_2, fList.eq_1, fList.eq_2, fTuple.eq_1, fTuple.eq_2, fNeg.eq_1, fAppend.eq_1, fReverse.eq_1, fClear.eq_1, fExtend.eq_1, List.getElem?_map, Option.map_some, Option.map_none, D.isM, D.im, D.ims, D.flat, fIsN, fNotN, D.isNon, D.tyIs, tyNames, putN, putD, wipeE, finP, ims_ints, ims_strs, strs_map, flat_ints, isIn_ints, staysT, CDiv, CPow, CMul, List.getElem?_cons_zero, List.getElem?_cons_succ, List.getElem?_nil, List.set_cons_zero, List.set_cons_succ, List.map_cons, List.map_nil, List.replicate, List.cons_append, List.nil_append, List.append_nil, List.length_cons, List.length_nil, List.length_map, List.all_cons, List.all_nil, List.contains_cons, List.contains_nil, List.elem_cons, List.elem_nil, List.append_eq, List.length_append, true_and, and_true, false_and, and_false, not_true_eq_false, not_false_eq_true, ne_eq, reduceCtorEq, Bool.false_eq_true, false_implies, true_implies, implies_true, forall_const, imp_self, decide_true, decide_false, decide_eq_true_eq, Bool.not_true, Bool.not_false, Bool.or_false, Bool.and_true, Bool.true_and, Bool.false_and, if_true, if_false, ite_true, ite_false, true_or, or_true, false_or, or_false, Nat.add_zero, Nat.zero_add, Nat.reduceAdd, Nat.reduceSub, Nat.reduceEqDiff, beq_self_eq_true, BEq.rfl, Int.zero_add, Nat.reduceBEq, Nat.reduceLeDiff, Nat.reduceLT, Int.reduceLT, Int.reduceLE, Int.reduceToNat, Int.reduceNeg, Option.some.injEq, atI_c0, atI_c1, atI_c2, atI_c3, atI_c4, S_cps, S_len', S_cat', signs_S, fInG_s1, fInG_s0, fInG_l, fInG_t, S_eq1, S_eq2, itx_S, jn0, jn0_len, Int.toNat_natCast, sn_get, sn_get1, sn_ix, sn_set, sn_drop, fx_Line_0_tokens, fx_Line_0_taken, fx_Line_1_tokens, fx_Line_1_taken, fx_Line_2_tokens, fx_Line_2_taken, ne_taken_tokens, ne_tokens_taken, cs_0, cs_1, cs_2, cs_3, cs_4, cs_5, cs_6, cs_7, cs_8, cs_9, cs_10, cs_11, cs_12, cs_13, cs_14])
local macro_rules | `(tactic| walk_at "c") => `(tactic| repeat (refine And.intro (by first | omega | rfl | assumption | decide | decide +kernel) ?_))
local macro_rules | `(tactic| walk_at "vc") => `(tactic| ((try walk_at "v"); walk_at "c"))
section
variable {P : Program} {w : World} {K : PySem.W.Frag} {mg : Str → Option Value} {base : Heap}

def vf_Line_take_one_of (C : Addr) : VF := fun ds R => ∃ (ts : List (Int × Tk)) (k : Nat) (x : Int × Tk) (ks : List Str), ds = [ln C ts k, .tup (ks.map D.str)] ∧ ts[k]? = some x ∧ x.2.1 ∈ ks ∧ x.2.2.im = true ∧ R x.2.2 [some (ln C ts (k + 1)), some (.tup (ks.map D.str))]
theorem ok_Line_take_one_of (T : Facts K mg) : FnOk P w K mg base CX0 3 T.f_Line_take_one_of T.fd_Line_take_one_of ["self", "kinds"] (spV K 2 (vf_Line_take_one_of T.C_Line)) := by
  refine okV T.F_Line_take_one_of sc_Line_take_one_of _ fun cdv A outer s H E hr => ⟨_, (vss_cons (vs_if (vt_bin (fun h g => pt_cmpR or_notin h g (by rfl)) o2_notin (ve_meth0 [true] (fun ho => pe_meth0 ho T.cl_Line T.m_Line_kind (ok_Line_kind T) (hr.mono (by omega)) T.b_Line_kind .nil pass0) (ve_var (pv 0))) (ve_var (pv 1))) (vss_one vs_never) vss_nil)
      (vss_one (vs_ret (ve_meth [true, false] (fun ho h => pe_meth ho T.cl_Line T.m_Line_take (ok_Line_take T) (hr.mono (by omega)) T.b_Line_take .nil pass0 h) (ve_var (pv 0)) (va_cons (ve_meth0 [true] (fun ho => pe_meth0 ho T.cl_Line T.m_Line_kind (ok_Line_kind T) (hr.mono (by omega)) T.b_Line_kind .nil pass0) (ve_var (pv 0))) va_nil))))), ?_⟩
  intro ds R _hl hv
  obtain ⟨ts, j, x, ks, rfl, hx, hk, him, k⟩ := hv
  walk_at "vc"
  refine ⟨_, _, _, rfl, hx, him, ?_⟩
  walk_at "v"
  refine ⟨flat_strs ks, ?_⟩
  rw [isIn_strs, decide_eq_true hk]
  walk_at "vc"
  refine ⟨_, _, _, rfl, hx, him, ?_⟩
  walk_at "vc"
  refine ⟨_, _, _, rfl, hx, him, ?_⟩
  walk_at "vc"
  exact k
end
end L2.VL.K73
set_option Elab.async false
set_option linter.all false
set_option maxRecDepth 100000
namespace L2.VL.K73
open PySem PySem.Spec PyProof.Rows
local macro_rules | `(tactic| walk_at "v") => `(tactic| simp only [opt_some, optS_some, optB_some, optI_some, mv_val, mv_plc, mvl_nil, mvl_cons, cMvl_run, getl_nil, getl_cons, cGetl_run, cKons_run, cIm_run, look_run, lookO_run, put_run, putO_run, get_val, get_plc, dlook_nil, dlook_lst, dlook_obj, kidO_run, dput_nil, dput_lst, dput_obj, kidP_run, cR_run, app1_some, app2_some, deep_val, deep_nil, deep_cons, vVar_run, cVar_run, vC_run, vMv_run', cMv'_run, vBin_run, cBin_run, cBin2_run, vTest_run, cTest_run, vUn_run, cUn_run, vAnd_run, cAnd_t, cAnd_f, vOr_run, cOr_t, cOr_f, vNot_run, cNot_run, vAndV_run, cAndV_run, cAndV2_t, cAndV2_f, vOrV_run, cOrV_run, cOrV2_t, cOrV2_f, vNotV_run, cNotV_run, cNotV2_run, vIfE_run, cIfE_t, cIfE_f, vNil_run, vCons_run, cCons_run, cCons2_run, vTup_run, cTup_run, cTup2_run, vLst_run, cLst_run, cLst2_run, vFun_run, cFun_run, cFun2_run, vRM_run, cRM_run, cRM2_run, cRM3_run, cRM4_run, vMut_run, cMut_run, cMut2_run, cMut3_run, cMut4_run, cMut5_run, isL_run, isS_run, vSl_run, cSl_run, cSl2_run, cSl3_run, cSl4_run, voNone_run, voSome_run, cVo_run, ixO_run, vIxP_run, cIxP_run, cIxP2_run, cIxP3_run, vLstRg_run, cLstRg_run, cLstRg2_run, vNext_run, vBreak_run, vCont_run, vSeq_run, vDrop_run, cDrop_run, vRet_run, cRet_run, cRet2_run, vRetN_run, vIf_run, cIf_t, cIf_f, vgN_run, vgNil_run, vgCons_run, cG_run, vgTup_run, vAsg_run, cAsg_run, cAsg2_run, vPar_run, cPar_run, cPar2_run, vAug_run, cAug_run, cAug2_run, cAug3_run, vFor_run, cFor_run, vLc_run, cLc_run, vYes_run, optLst_run, viSlot_run, cSlot_run, cSlot2_run, viVal_run, cVal_run, optTup_run, viTup_run, cTupI_run, cTupI2_run, viR1_run, cR1_run, cR1b_run, viR2_run, cR2_run, cR2b_run, viRD_run, cRD_run, cRDb_run, optStr_run, viStr_run, cStrI_run, cStrI2_run, setO_run, vSetI_run, cSetI_run, cSetI2_run, cSetI3_run, cSetI4_run, cSetI5_run, fldO_run, cF2_run, vFld_run, cFld_run, cFld2_run, objO_run, vSetF_run, cSetF_run, cSetF2_run, cSetF3_run, args_nil, args_f, args_t, cArgs_run, cArgs2_run, back_t, back_tn, back_f, back_nil, back_nil', vCall_run, cCall_run, cCall2_run, cBack_run, objM_run, vMeth_run, cMeth_run, cMeth2_run, vMake_run, cMake_run, cMake2_run, cMake3_run, optI1_run, vChain_run, cCh_run, cCh2_run, chO_run, cCh3_t, cCh3_f, cCh4_run, cCh5_run, augO_run, cAugO_run, cAugO2_run, vAugF_run, cAugF_run, cAugF2_run, cAugF3_run, snocI, snocS, setI, dropI, revI, cWh_t, cWh_f, cLc1_run, cLc2_t, cLc2_f, cLc3_run, cLc4_run, cMap_run, opt_map, atI_map, fIdx_l, fIdx_t, cSgn_run, fIdx_s, fPop_run, cPop_run, fPopAt_run, cPopAt_run, cPopAt2_run, eraseI, fInt_s, cIntS_run, cIsi2_run, fIsi_run, cIsi_run, fIsiT_run, cIsiT_run, cIsiT2_run, fJoin_run, cJoin_run, kb_NoneType_tuple, kb_NoneType_list, kb_NoneType_bool, kb_NoneType_int, kb_NoneType_str, kb_NoneType_dict, kb_bool_tuple, kb_bool_list, kb_bool_bool, kb_bool_int, kb_bool_str, kb_bool_dict, kb_int_tuple, kb_int_list, kb_int_bool, kb_int_int, kb_int_str, kb_int_dict, kb_str_tuple, kb_str_list, kb_str_bool, kb_str_int, kb_str_str, kb_str_dict, kb_list_tuple, kb_list_list, kb_list_bool, kb_list_int, kb_list_str, kb_list_dict, kb_tuple_tuple, kb_tuple_list, kb_tuple_bool, kb_tuple_int, kb_tuple_str, kb_tuple_dict, kb_dict_tuple, kb_dict_list, kb_dict_bool, kb_dict_int, kb_dict_str, kb_dict_dict, kN_nil, kN_cons, orK_t, orK_f, fn_false, fAdd.eq_1, fAdd.eq_2, fAdd.eq_3, fAdd.eq_4, fI2.eq_1, fI20.eq_1, fEq.eq_1, fEq.eq_2, fEq.eq_3, fNe.eq_1, fNe.eq_2, fNe.eq_3, fSl.eq_1, fSl.eq_2, fSl.eq_3, fSl.eq_4, fLen.eq_1, fLen.eq_2, fLen.eq_3, fInt.eq_1, fInt.eq_2, fStr.eq_1, fStr.eq_2, fList.eq_1, fList.eq_2, fTuple.eq_1, fTuple.eq_2, fNeg.eq_1, fAppend.eq_1, fReverse.eq_1, fClear.eq_1, fExtend.eq_1, List.getElem?_map, Option.map_some, Option.map_none, D.isM, D.im, D.ims, D.flat, fIsN, fNotN, D.isNon, D.tyIs, tyNames, putN, putD, wipeE, finP, ims_ints, ims_strs, strs_map, flat_ints, isIn_ints, staysT, CDiv, CPow, CMul, List.getElem?_cons_zero, List.getElem?_cons_succ, List.getElem?_nil, List.set_cons_zero, List.set_cons_succ, List.map_cons, List.map_nil, List.replicate, List.cons_append, List.nil_append, List.append_nil, List.length_cons, List.length_nil, List.length_map, List.all_cons, List.all_nil, List.contains_cons, List.contains_nil, List.elem_cons, List.elem_nil, List.append_eq, List.length_append, true_and, and_true, false_and, and_false, not_true_eq_false, not_false_eq_true, ne_eq, reduceCtorEq, Bool.false_eq_true, false_implies, true_implies, implies_true, forall_const, imp_self, decide_true, decide_false, decide_eq_true_eq, Bool.not_true, Bool.not_false, Bool.or_false, Bool.and_true, Bool.true_and, Bool.false_and, if_true, if_false, ite_true, ite_false, true_or, or_true, false_or, or_false, Nat.add_zero, Nat.zero_add, Nat.reduceAdd, Nat.reduceSub, Nat.reduceEqDiff, beq_self_eq_true, BEq.rfl, Int.zero_add, Nat.reduceBEq, Nat.reduceLeDiff, Nat.reduceLT, Int.reduceLT, Int.reduceLE, Int.reduceToNat, Int.reduceNeg, Option.some.injEq, atI_c0, atI_c1, atI_c2, atI_c3, atI_c4, S_cps, S_len', S_cat', signs_S, fInG_s1, fInG_s0, fInG_l, fInG_t, S_eq1, S_eq2, itx_S, jn0, jn0_len, Int.toNat_natCast, sn_get, sn_get1, sn_ix, sn_set, sn_drop, fx_Line_0_tokens, fx_Line_0_taken, fx_Line_1_tokens, fx_Line_1_taken, fx_Line_2_tokens, fx_Line_2_taken, ne_taken_tokens, ne_tokens_taken, cs_0, cs_1, cs_2, cs_3, cs_4, cs_5, cs_6, cs_7, cs_8, cs_9, cs_10, cs_11, cs_12, cs_13, cs_14])
local macro_rules | `(tactic| walk_at "c") => `(tactic| repeat (refine And.intro (by first | omega | rfl | assumption | decide | decide +kernel) ?_))
local macro_rules | `(tactic| walk_at "vc") => `(tactic| ((try walk_at "v"); walk_at "c"))
section
variable {P : Program} {w : World} {K : PySem.W.Frag} {mg : Str → Option Value} {base : Heap}

def vf_write_tree : VF := fun ds R => ∃ d : D, ds = [d] ∧ isTr d = true ∧ (tx d).length ≤ 100000 ∧ R (.str (S (tx d))) [some d]
theorem ok_write_tree (T : Facts K mg) : FnOk P w K mg base CX0 1 T.f_write_tree T.fd_write_tree ["thing"] (spV K 1 (vf_write_tree)) := by
  refine okV T.F_write_tree sc_write_tree _ fun cdv A outer s H E hr => ⟨_, (vss_cons (vs_set (i := 1) (fun h => ps_set sc_write_tree.nd rfl (.inl rfl) h) (ve_lst va_nil))
      (vss_cons (vs_set (i := 2) (fun h => ps_set sc_write_tree.nd rfl (.inl rfl) h) (ve_lst (va_cons (ve_tup (va_cons ve_bl (va_cons (ve_var (pv 0)) va_nil))) va_nil)))
      (vss_cons (vs_while (fun hc hb => ps_while PassesOwn.never hc hb) (vt_bin (fun h g => pt_cmpR op_gt h g (nomark _)) o2_bl0 (ve_fun (fun h => pe_callB call_len (by rfl) T.z_len (by decide +kernel) h) on_len (va_cons (ve_var (pv 2)) va_nil)) ve_int) (vss_cons (vs_asg (fun h g => ps_asg h g) (ve_mut0 (fun ho => pe_bm0 PySem.F.plainAttrs_list PySem.F.slot_list_pop PySem.F.type_list_pop mt_pop ho) ty_l mu_pop (ve_var (pv 2))) (vg_tup (fun h => pg_tup rfl h) (vgs_cons (vg_name (pg_name (i := 3) sc_write_tree.nd rfl (.inl rfl))) (vgs_cons (vg_name (pg_name (i := 4) sc_write_tree.nd rfl (.inl rfl))) vgs_nil))))
      (vss_one (vs_if (VW.vt (vw_or (vt_val (ve_var (pv 3))) (vw_or1 (vt_not (vt_val (ve_fun (fun h => pe_callB call_isi (by rfl) T.z_isinstance (by decide +kernel) h) on_isi (va_cons (ve_var (pv 4)) (va_cons (ve_const (pe_bltn (v := .ty "tuple") (by rfl) T.z_tuple (by decide +kernel) rfl) fun _ => .ty _) va_nil)))))))) (vss_one (vs_expr (ve_mut (fun ho h => pe_bm PySem.F.plainAttrs_list PySem.F.slot_list_append PySem.F.type_list_append mt_append ho h) ty_l mu_append (ve_var (pv 1)) (va_cons (ve_fun (fun h => pe_callTy call_strA (by rfl) T.z_str (by decide +kernel) h) on_str (va_cons (ve_var (pv 4)) va_nil)) va_nil)))) (vss_cons (vs_expr (ve_mut (fun ho h => pe_bm PySem.F.plainAttrs_list PySem.F.slot_list_append PySem.F.type_list_append mt_append ho h) ty_l mu_append (ve_var (pv 2)) (va_cons (ve_tup (va_cons ve_bl (va_cons ve_str va_nil))) va_nil)))
      (vss_cons (vs_for (fun hi hg hb => ps_for PassesOwn.never rfl hi hg hb) (vi_rangeD (fun h => pi_range3 (by rfl) T.z_range h) (va_cons (ve_bin (fun h g => pe_op op_sub h g) o2_int0 (ve_fun (fun h => pe_callB call_len (by rfl) T.z_len (by decide +kernel) h) on_len (va_cons (ve_var (pv 4)) va_nil)) ve_int) (va_cons (ve_un (fun h => pe_un un_neg h) o1_neg ve_int) (va_cons (ve_un (fun h => pe_un un_neg h) o1_neg ve_int) va_nil)))) (vg_name (pg_name (i := 5) sc_write_tree.nd rfl (.inl rfl))) (vss_cons (vs_expr (ve_mut (fun ho h => pe_bm PySem.F.plainAttrs_list PySem.F.slot_list_append PySem.F.type_list_append mt_append ho h) ty_l mu_append (ve_var (pv 2)) (va_cons (ve_tup (va_cons ve_bl (va_cons (ve_bin (fun h g => pe_ix ix_seq h g (fun _ _ => rfl)) o2_idx (ve_var (pv 4)) (ve_var (pv 5))) va_nil))) va_nil)))
      (vss_one (vs_if (vt_bin (fun h g => pt_cmpR op_gt h g (nomark _)) o2_bl0 (ve_var (pv 5)) ve_int) (vss_one (vs_expr (ve_mut (fun ho h => pe_bm PySem.F.plainAttrs_list PySem.F.slot_list_append PySem.F.type_list_append mt_append ho h) ty_l mu_append (ve_var (pv 2)) (va_cons (ve_tup (va_cons ve_bl (va_cons ve_str va_nil))) va_nil)))) vss_nil))))
      (vss_one (vs_expr (ve_mut (fun ho h => pe_bm PySem.F.plainAttrs_list PySem.F.slot_list_append PySem.F.type_list_append mt_append ho h) ty_l mu_append (ve_var (pv 2)) (va_cons (ve_tup (va_cons ve_bl (va_cons ve_str va_nil))) va_nil))))))))))
      (vss_one (vs_ret (ve_rm (fun ho h => pe_bm PySem.F.plainAttrs_str PySem.F.slot_str_join PySem.F.type_str_join mt_join ho h) ty_s om_join ve_str (va_cons (ve_var (pv 1)) va_nil))))))), ?_⟩
  intro ds R _hl hv
  obtain ⟨d, rfl, hd, hl, k⟩ := hv
  walk_at "v"
  have hc0 := cst_le d hd
  refine ⟨tr_im d hd, whL_i (fun m e => ∃ (ps : List (List Nat)) (ws : List It) (x y z : Option D), e = [some d, some (.lst ((ps.map S).map D.str)), some (.lst (ws.map w1)), x, y, z] ∧ m = cost ws ∧ ps.length + cost ws ≤ 200000 ∧ (∀ w ∈ ws, w.ok) ∧ ps.flatten ++ rend ws = tx d) _ ⟨[], [.tr d], none, none, none, rfl, rfl, ?_, one_ok hd, ?_⟩ ?_⟩
  · simp [cost, It.c]
    omega
  · simp [rend, It.tx]
  rintro m e ⟨ps, ws, x, y, z, rfl, rfl, hp, hok, he⟩
  walk_at "vc"
  refine cWh_d (fun h => ?_) fun h => ?_
  · have hne : ws ≠ [] := fun z => by rw [z] at h; simp at h
    obtain ⟨w, hw⟩ := last_some hne
    have hs := last_split hw
    have hcs := cost_snoc ws.dropLast w
    have hrs := rend_snoc ws.dropLast w
    rw [← hs] at hcs hrs
    have hwo : w.ok := hok w (List.mem_of_getElem? hw)
    have hdo : ∀ w ∈ ws.dropLast, w.ok := fun w h => hok w (List.dropLast_subset ws h)
    have hcp := w.c_pos
    have hlc := len_cost ws.dropLast
    walk_at "v"
    rw [hw]
    walk_at "v"
    rw [drop_map]
    rw [hrs] at he
    cases w with
    | txt s =>
      rw [w1]
      walk_at "vc"
      simp only [It.tx] at he
      exact ⟨cost ws.dropLast, by omega, ps ++ [s], ws.dropLast, _, _, _, by simp only [List.map_append]; rfl, rfl, by simp; omega, hdo, by rw [flat_len, ← he]; simp⟩
    | tr d2 =>
      rw [w1]
      simp only [It.tx] at he
      cases d2 with
      | int n =>
        walk_at "v"
        have hlg := log_ok hwo
        walk_at "vc"
        exact ⟨cost ws.dropLast, by omega, ps ++ [itx n], ws.dropLast, _, _, _, by simp only [List.map_append]; rfl, rfl, by simp; omega, hdo, by rw [flat_len, ← he]; simp [tx]⟩
      | str z2 =>
        walk_at "vc"
        exact ⟨cost ws.dropLast, by omega, ps ++ [z2.cps.toList], ws.dropLast, _, _, _, by simp only [List.map_append]; rfl, rfl, by simp; omega, hdo, by rw [flat_len, ← he]; simp [tx]⟩
      | tup ds =>
        have hds : isTrs ds = true := hwo
        have hdi := trs_im ds hds
        have hcp2 := cost_pua ds
        have hcl := len_cost (pua ds)
        simp only [It.c, cst] at hcs
        have hll := len_csts ds
        have e : ((ds.length : Int) - 1 - -1).toNat = ds.length := by omega
        walk_at "vc"
        rw [e]
        refine forL_c (fun i e => ∃ f, e = [some d, some (.lst ((ps.map S).map D.str)), some (.lst ((ws.dropLast ++ [It.txt [41]] ++ puAt ds i).map w1)), some (.bl false), some (.tup ds), f]) ⟨z, by rw [puAt_zero, List.append_nil, List.map_append]; rfl⟩ ?_ ?_
        · rintro i e hi ⟨f, rfl⟩
          obtain ⟨x, hx⟩ := get_ex (xs := ds) (k := ds.length - 1 - i) (by omega)
          have hat : atI ds ((ds.length : Int) - 1 + (i : Int) * -1) = some x := by
            rw [show (ds.length : Int) - 1 + (i : Int) * -1 = ((ds.length - 1 - i : Nat) : Int) by omega]
            exact atI_nat hx
          have hxi := ims_mem hdi x (List.mem_of_getElem? hx)
          have hpl := puAt_len ds i
          walk_at "v"
          rw [hat]
          walk_at "vc"
          refine cIf_d (fun h2 => ?_) fun h2 => ?_
          · walk_at "vc"
            exact ⟨_, by rw [puAt_step hx (by omega)]; simp only [List.map_append, List.append_assoc]; rfl⟩
          · walk_at "vc"
            exact ⟨_, by rw [pu_at hi hx (by omega)]; simp only [List.map_append, List.append_assoc]; rfl⟩
        · rintro e ⟨f, rfl⟩
          rw [puAt_all]
          walk_at "vc"
          refine ⟨cost (ws.dropLast ++ [It.txt [41]] ++ pua ds ++ [It.txt [40]]), ?_, ps, ws.dropLast ++ [It.txt [41]] ++ pua ds ++ [It.txt [40]], _, _, _, by simp only [List.map_append]; rfl, rfl, ?_, ?_, ?_⟩
          · simp only [cost_append, cost, It.c]
            omega
          · simp only [cost_append, cost, It.c]
            omega
          · exact app_ok (app_ok (app_ok hdo (one_ok trivial)) (pua_ok hds)) (one_ok trivial)
          · rw [← he]
            simp [rend_append, rend, It.tx, rend_pua, tx]
      | _ => simp [It.ok, isTr] at hwo
  · have : ws = [] := List.eq_nil_of_length_eq_zero (by omega)
    subst this
    simp only [rend, List.append_nil] at he
    walk_at "v"
    rw [he]
    refine ⟨by omega, k⟩
end
end L2.VL.K73
set_option Elab.async false
set_option linter.all false
set_option maxRecDepth 100000
namespace L2.VL.K73
open PySem PySem.Spec PyProof.Rows
local macro_rules | `(tactic| walk_at "v") => `(tactic| simp only [opt_some, optS_some, optB_some, optI_some, mv_val, mv_plc, mvl_nil, mvl_cons, cMvl_run, getl_nil, getl_cons, cGetl_run, cKons_run, cIm_run, look_run, lookO_run, put_run, putO_run, get_val, get_plc, dlook_nil, dlook_lst, dlook_obj, kidO_run, dput_nil, dput_lst, dput_obj, kidP_run, cR_run, app1_some, app2_some, deep_val, deep_nil, deep_cons, vVar_run, cVar_run, vC_run, vMv_run', cMv'_run, vBin_run, cBin_run, cBin2_run, vTest_run, cTest_run, vUn_run, cUn_run, vAnd_run, cAnd_t, cAnd_f, vOr_run, cOr_t, cOr_f, vNot_run, cNot_run, vAndV_run, cAndV_run, cAndV2_t, cAndV2_f, vOrV_run, cOrV_run, cOrV2_t, cOrV2_f, vNotV_run, cNotV_run, cNotV2_run, vIfE_run, cIfE_t, cIfE_f, vNil_run, vCons_run, cCons_run, cCons2_run, vTup_run, cTup_run, cTup2_run, vLst_run, cLst_run, cLst2_run, vFun_run, cFun_run, cFun2_run, vRM_run, cRM_run, cRM2_run, cRM3_run, cRM4_run, vMut_run, cMut_run, cMut2_run, cMut3_run, cMut4_run, cMut5_run, isL_run, isS_run, vSl_run, cSl_run, cSl2_run, cSl3_run, cSl4_run, voNone_run, voSome_run, cVo_run, ixO_run, vIxP_run, cIxP_run, cIxP2_run, cIxP3_run, vLstRg_run, cLstRg_run, cLstRg2_run, vNext_run, vBreak_run, vCont_run, vSeq_run, vDrop_run, cDrop_run, vRet_run, cRet_run, cRet2_run, vRetN_run, vIf_run, cIf_t, cIf_f, vgN_run, vgNil_run, vgCons_run, cG_run, vgTup_run, vAsg_run, cAsg_run, cAsg2_run, vPar_run, cPar_run, cPar2_run, vAug_run, cAug_run, cAug2_run, cAug3_run, vFor_run, cFor_run, vLc_run, cLc_run, vYes_run, optLst_run, viSlot_run, cSlot_run, cSlot2_run, viVal_run, cVal_run, optTup_run, viTup_run, cTupI_run, cTupI2_run, viR1_run, cR1_run, cR1b_run, viR2_run, cR2_run, cR2b_run, viRD_run, cRD_run, cRDb_run, optStr_run, viStr_run, cStrI_run, cStrI2_run, setO_run, vSetI_run, cSetI_run, cSetI2_run, cSetI3_run, cSetI4_run, cSetI5_run, fldO_run, cF2_run, vFld_run, cFld_run, cFld2_run, objO_run, vSetF_run, cSetF_run, cSetF2_run, cSetF3_run, args_nil, args_f, args_t, cArgs_run, cArgs2_run, back_t, back_tn, back_f, back_nil, back_nil', vCall_run, cCall_run, cCall2_run, cBack_run, objM_run, vMeth_run, cMeth_run, cMeth2_run, vMake_run, cMake_run, cMake2_run, cMake3_run, optI1_run, vChain_run, cCh_run, cCh2_run, chO_run, cCh3_t, cCh3_f, cCh4_run, cCh5_run, augO_run, cAugO_run, cAugO2_run, vAugF_run, cAugF_run, cAugF2_run, cAugF3_run, snocI, snocS, setI, dropI, revI, cWh_t, cWh_f, cLc1_run, cLc2_t, cLc2_f, cLc3_run, cLc4_run, cMap_run, opt_map, atI_map, fIdx_l, fIdx_t, cSgn_run, fIdx_s, fPop_run, cPop_run, fPopAt_run, cPopAt_run, cPopAt2_run, eraseI, fInt_s, cIntS_run, cIsi2_run, fIsi_run, cIsi_run, fIsiT_run, cIsiT_run, cIsiT2_run, fJoin_run, cJoin_run, kb_NoneType_tuple, kb_NoneType_list, kb_NoneType_bool, kb_NoneType_int, kb_NoneType_str, kb_NoneType_dict, kb_bool_tuple, kb_bool_list, kb_bool_bool, kb_bool_int, kb_bool_str, kb_bool_dict, kb_int_tuple, kb_int_list, kb_int_bool, kb_int_int, kb_int_str, kb_int_dict, kb_str_tuple, kb_str_list, kb_str_bool, kb_str_int, kb_str_str, kb_str_dict, kb_list_tuple, kb_list_list, kb_list_bool, kb_list_int, kb_list_str, kb_list_dict, kb_tuple_tuple, kb_tuple_list, kb_tuple_bool, kb_tuple_int, kb_tuple_str, kb_tuple_dict, kb_dict_tuple, kb_dict_list, kb_dict_bool, kb_dict_int, kb_dict_str, kb_dict_dict, kN_nil, kN_cons, orK_t, orK_f, fn_false, fAdd.eq_1, fAdd.eq_2, fAdd.eq_3, fAdd.eq_4, fI2.eq_1, fI20.eq_1, fEq.eq_1, fEq.eq_2, fEq.eq_3, fNe.eq_1, fNe.eq_2, fNe.eq_3, fSl.eq_1, fSl.eq_2, fSl.eq_3, fSl.eq_4, fLen.eq_1, fLen.eq_2, fLen.eq_3, fInt.eq_1, fInt.eq_2, fStr.eq_1, fStr.eq_2, fList.eq_1, fList.eq_2, fTuple.eq_1, fTuple.eq_2, fNeg.eq_1, fAppend.eq_1, fReverse.eq_1, fClear.eq_1, fExtend.eq_1, List.getElem?_map, Option.map_some, Option.map_none, D.isM, D.im, D.ims, D.flat, fIsN, fNotN, D.isNon, D.tyIs, tyNames, putN, putD, wipeE, finP, ims_ints, ims_strs, strs_map, flat_ints, isIn_ints, staysT, CDiv, CPow, CMul, List.getElem?_cons_zero, List.getElem?_cons_succ, List.getElem?_nil, List.set_cons_zero, List.set_cons_succ, List.map_cons, List.map_nil, List.replicate, List.cons_append, List.nil_append, List.append_nil, List.length_cons, List.length_nil, List.length_map, List.all_cons, List.all_nil, List.contains_cons, List.contains_nil, List.elem_cons, List.elem_nil, List.append_eq, List.length_append, true_and, and_true, false_and, and_false, not_true_eq_false, not_false_eq_true, ne_eq, reduceCtorEq, Bool.false_eq_true, false_implies, true_implies, implies_true, forall_const, imp_self, decide_true, decide_false, decide_eq_true_eq, Bool.not_true, Bool.not_false, Bool.or_false, Bool.and_true, Bool.true_and, Bool.false_and, if_true, if_false, ite_true, ite_false, true_or, or_true, false_or, or_false, Nat.add_zero, Nat.zero_add, Nat.reduceAdd, Nat.reduceSub, Nat.reduceEqDiff, beq_self_eq_true, BEq.rfl, Int.zero_add, Nat.reduceBEq, Nat.reduceLeDiff, Nat.reduceLT, Int.reduceLT, Int.reduceLE, Int.reduceToNat, Int.reduceNeg, Option.some.injEq, atI_c0, atI_c1, atI_c2, atI_c3, atI_c4, S_cps, S_len', S_cat', signs_S, fInG_s1, fInG_s0, fInG_l, fInG_t, S_eq1, S_eq2, itx_S, jn0, jn0_len, Int.toNat_natCast, sn_get, sn_get1, sn_ix, sn_set, sn_drop, fx_Line_0_tokens, fx_Line_0_taken, fx_Line_1_tokens, fx_Line_1_taken, fx_Line_2_tokens, fx_Line_2_taken, ne_taken_tokens, ne_tokens_taken, cs_0, cs_1, cs_2, cs_3, cs_4, cs_5, cs_6, cs_7, cs_8, cs_9, cs_10, cs_11, cs_12, cs_13, cs_14])
local macro_rules | `(tactic| walk_at "c") => `(tactic| repeat (refine And.intro (by first | omega | rfl | assumption | decide | decide +kernel) ?_))
local macro_rules | `(tactic| walk_at "vc") => `(tactic| ((try walk_at "v"); walk_at "c"))
section
variable {P : Program} {w : World} {K : PySem.W.Frag} {mg : Str → Option Value} {base : Heap}

def vf_take_tree (C : Addr) : VF := fun ds R => ∃ (d : D) (ts : List (Int × Tk)) (rest : List Tk), ds = [ln C ts 0] ∧ ts.map (·.2) = tkt d ++ rest ∧ ts.length ≤ 2000000 ∧ isTr d = true ∧ R d [some (ln C ts (tkt d).length)]
theorem ok_take_tree (T : Facts K mg) : FnOk P w K mg base CX0 4 T.f_take_tree T.fd_take_tree ["line"] (spV K 1 (vf_take_tree T.C_Line)) := by
  refine okV T.F_take_tree sc_take_tree _ fun cdv A outer s H E hr => ⟨_, (vss_cons (vs_set (i := 1) (fun h => ps_set sc_take_tree.nd rfl (.inl rfl) h) (ve_lst va_nil))
      (vss_cons (vs_set (i := 2) (fun h => ps_set sc_take_tree.nd rfl (.inl rfl) h) ve_non)
      (vss_cons (vs_while (fun hc hb => ps_while PassesOwn.never hc hb) (VW.vt (vw_or (vt_bin (fun h g => pt_cmpR op_isN h g (nomark _)) o2_isN (ve_var (pv 2)) ve_non) (vw_or1 (vt_bin (fun h g => pt_cmpR op_gt h g (nomark _)) o2_bl0 (ve_fun (fun h => pe_callB call_len (by rfl) T.z_len (by decide +kernel) h) on_len (va_cons (ve_var (pv 1)) va_nil)) ve_int)))) (vss_one (vs_if (vt_bin (fun h g => pt_cmpR op_notN h g (nomark _)) o2_notN (ve_var (pv 2)) ve_non) (vss_cons (vs_expr (ve_mut (fun ho h => pe_bm PySem.F.plainAttrs_list PySem.F.slot_list_append PySem.F.type_list_append mt_append ho h) ty_l mu_append (ve_ixP (fun h g => pe_ix ix_seq h g (fun _ _ => rfl)) (ve_var (pv 1)) (ve_un (fun h => pe_un un_neg h) o1_neg ve_int)) (va_cons (ve_var (pv 2)) va_nil)))
      (vss_cons (vs_set (i := 2) (fun h => ps_set sc_take_tree.nd rfl (.inl rfl) h) ve_non)
      (vss_one (vs_if (vt_bin (fun h g => pt_cmpR (or_eq hr.units) h g (nomark _)) o2_eq (ve_meth [true, false] (fun ho h => pe_meth ho T.cl_Line T.m_Line_take_one_of (ok_Line_take_one_of T) (hr.mono (by omega)) T.b_Line_take_one_of .nil pass0 h) (ve_var (pv 0)) (va_cons (ve_tup (va_cons ve_str (va_cons ve_str va_nil))) va_nil)) ve_str) (vss_one (vs_set (i := 2) (fun h => ps_set sc_take_tree.nd rfl (.inl rfl) h) (ve_fun (fun h => pe_callTy call_tuple_of (by rfl) T.z_tuple (by decide +kernel) h) on_tuple (va_cons (ve_mut0 (fun ho => pe_bm0 PySem.F.plainAttrs_list PySem.F.slot_list_pop PySem.F.type_list_pop mt_pop ho) ty_l mu_pop (ve_var (pv 1))) va_nil)))) vss_nil)))) (vss_one (vs_if (vt_bin (fun h g => pt_cmpR (or_eq hr.units) h g (nomark _)) o2_eq (ve_meth0 [true] (fun ho => pe_meth0 ho T.cl_Line T.m_Line_kind (ok_Line_kind T) (hr.mono (by omega)) T.b_Line_kind .nil pass0) (ve_var (pv 0))) ve_str) (vss_cons (vs_expr (ve_meth [true, false] (fun ho h => pe_meth ho T.cl_Line T.m_Line_take (ok_Line_take T) (hr.mono (by omega)) T.b_Line_take .nil pass0 h) (ve_var (pv 0)) (va_cons ve_str va_nil)))
      (vss_cons (vs_expr (ve_mut (fun ho h => pe_bm PySem.F.plainAttrs_list PySem.F.slot_list_append PySem.F.type_list_append mt_append ho h) ty_l mu_append (ve_var (pv 1)) (va_cons (ve_lst va_nil) va_nil)))
      (vss_one (vs_if (vt_bin (fun h g => pt_cmpR (or_eq hr.units) h g (nomark _)) o2_eq (ve_meth0 [true] (fun ho => pe_meth0 ho T.cl_Line T.m_Line_kind (ok_Line_kind T) (hr.mono (by omega)) T.b_Line_kind .nil pass0) (ve_var (pv 0))) ve_str) (vss_cons (vs_expr (ve_meth [true, false] (fun ho h => pe_meth ho T.cl_Line T.m_Line_take (ok_Line_take T) (hr.mono (by omega)) T.b_Line_take .nil pass0 h) (ve_var (pv 0)) (va_cons ve_str va_nil)))
      (vss_one (vs_set (i := 2) (fun h => ps_set sc_take_tree.nd rfl (.inl rfl) h) (ve_fun (fun h => pe_callTy call_tuple_of (by rfl) T.z_tuple (by decide +kernel) h) on_tuple (va_cons (ve_mut0 (fun ho => pe_bm0 PySem.F.plainAttrs_list PySem.F.slot_list_pop PySem.F.type_list_pop mt_pop ho) ty_l mu_pop (ve_var (pv 1))) va_nil))))) vss_nil)))) (vss_one (vs_set (i := 2) (fun h => ps_set sc_take_tree.nd rfl (.inl rfl) h) (ve_meth [true, false] (fun ho h => pe_meth ho T.cl_Line T.m_Line_take_one_of (ok_Line_take_one_of T) (hr.mono (by omega)) T.b_Line_take_one_of .nil pass0 h) (ve_var (pv 0)) (va_cons (ve_tup (va_cons ve_str (va_cons ve_str va_nil))) va_nil)))))))))
      (vss_one (vs_ret (ve_var (pv 2))))))), ?_⟩
  intro ds R _hl hv
  obtain ⟨d, ts, rest, rfl, hts, hlt, hd, k⟩ := hv
  walk_at "v"
  refine whL_i (fun m e => ∃ (F : List Fm) (x : D) (j : Nat), m = (tkt d).length - j ∧ plug F x = d ∧ F.length ≤ j ∧ (∀ f ∈ F, f.1.length ≤ j) ∧
    ((e = [some (ln T.C_Line ts j), some (.lst (slotF F)), some .non] ∧ (ts.map (·.2)).drop j = tkt x ++ (ctk F ++ rest) ∧ j + ((tkt x).length + (ctk F).length) = (tkt d).length) ∨
     (e = [some (ln T.C_Line ts j), some (.lst (slotF F)), some x] ∧ (ts.map (·.2)).drop j = ctk F ++ rest ∧ j + (ctk F).length = (tkt d).length))) _ ⟨[], d, 0, rfl, rfl, Nat.le_refl _, (fun f hf => by cases hf), .inl ⟨rfl, by rw [List.drop_zero, hts]; rfl, by simp [ctk]⟩⟩ ?_
  rintro m e ⟨F, x, j, rfl, hpl, hFj, hFl, h⟩
  have up1 : ∀ f ∈ F, f.1.length ≤ j + 1 := fun f hf => Nat.le_succ_of_le (hFl f hf)
  have up2 : ∀ f ∈ F, f.1.length ≤ j + 1 + 1 := fun f hf => Nat.le_succ_of_le (up1 f hf)
  obtain ⟨hx, hF⟩ := plug_tr (F := F) (x := x) (by rw [hpl]; exact hd)
  rcases h with ⟨rfl, hdr, hj⟩ | ⟨rfl, hdr, hj⟩
  · walk_at "vc"
    cases x with
    | int n =>
      obtain ⟨⟨s, hs⟩, hd2⟩ := tk_at hdr
      refine ⟨_, _, _, rfl, hs, rfl, ?_⟩
      walk_at "vc"
      refine cIf_d (fun h => absurd h (by decide +kernel : ¬ kInt = S [40])) fun _ => ?_
      walk_at "vc"
      refine ⟨_, _, _, [kInt, kWord], rfl, hs, by simp, rfl, ?_⟩
      walk_at "vc"
      have hl1 : (tkt (.int n)).length = 1 := rfl
      exact ⟨(tkt d).length - (j + 1), by omega, F, .int n, j + 1, rfl, hpl, by omega, up1, .inr ⟨rfl, hd2, by omega⟩⟩
    | str z =>
      obtain ⟨⟨s, hs⟩, hd2⟩ := tk_at hdr
      refine ⟨_, _, _, rfl, hs, rfl, ?_⟩
      walk_at "vc"
      refine cIf_d (fun h => absurd h (by decide +kernel : ¬ kWord = S [40])) fun _ => ?_
      walk_at "vc"
      refine ⟨_, _, _, [kInt, kWord], rfl, hs, by simp, rfl, ?_⟩
      walk_at "vc"
      have hl1 : (tkt (.str z)).length = 1 := rfl
      exact ⟨(tkt d).length - (j + 1), by omega, F, .str z, j + 1, rfl, hpl, by omega, up1, .inr ⟨rfl, hd2, by omega⟩⟩
    | tup ds =>
      obtain ⟨⟨s, hs⟩, hd2⟩ := tk_at hdr
      have hsz : (tkt d).length ≤ ts.length := by
        have := congrArg List.length hts
        simp at this
        omega
      have hsl := slotF_len F
      refine ⟨_, _, _, rfl, hs, rfl, ?_⟩
      walk_at "vc"
      refine ⟨_, _, _, rfl, hs, rfl, ?_⟩
      walk_at "vc"
      cases ds with
      | nil =>
        obtain ⟨⟨s2, hs2⟩, hd3⟩ := tk_at hd2
        refine ⟨_, _, _, rfl, hs2, rfl, ?_⟩
        walk_at "vc"
        refine ⟨_, _, _, rfl, hs2, rfl, ?_⟩
        walk_at "vc"
        have hl2 : (tkt (.tup [])).length = 2 := rfl
        exact ⟨(tkt d).length - (j + 1 + 1), by omega, F, .tup [], j + 1 + 1, rfl, hpl, by omega, up2, .inr ⟨rfl, hd3, by omega⟩⟩
      | cons t r =>
        have hxt : isTrs (t :: r) = true := hx
        simp only [isTrs, Bool.and_eq_true] at hxt
        obtain ⟨tk, q, hq, hqi, hqk⟩ := tkt_head hxt.1
        have hd2' : (ts.map (·.2)).drop (j + 1) = tkt t ++ (ctk (([], r) :: F) ++ rest) := by
          rw [hd2]
          simp [tkts, ctk]
        have hd2'' := hd2'
        rw [hq, List.cons_append] at hd2''
        obtain ⟨⟨s2, hs2⟩, hd3⟩ := tk_at hd2''
        refine ⟨_, _, _, rfl, hs2, hqi, ?_⟩
        walk_at "vc"
        refine cIf_d (fun h => absurd h hqk) fun _ => ?_
        walk_at "vc"
        have hj2 : j + 1 + ((tkt t).length + (ctk (([], r) :: F)).length) = (tkt d).length := by
          rw [← hj]
          simp [tkt, tkts, ctk]
          omega
        exact ⟨(tkt d).length - (j + 1), by rw [hq] at hj2; simp at hj2; omega, ([], r) :: F, t, j + 1, rfl, hpl, by simp; omega, (fun f hf => (List.mem_cons.mp hf).elim (fun e => by rw [e]; exact Nat.zero_le _) (up1 f)), .inl ⟨rfl, hd2', hj2⟩⟩
    | _ => simp [isTr] at hx
  · cases F with
    | nil =>
      simp only [slotF, ctk, plug, List.length_nil, Nat.add_zero] at hpl hj
      subst hpl
      cases x <;> (try (simp [isTr] at hx; done))
      all_goals (
        rw [slotF]
        walk_at "vc"
        refine cWh_d (fun h => absurd h (by decide)) fun _ => ?_
        walk_at "vc"
        subst hj
        first
          | exact k
          | exact ⟨trs_im _ hx, k⟩)
    | cons f F =>
      obtain ⟨a, b⟩ := f
      rw [slotF]
      have hsl := slotF_len F
      have hlen : (tkt d).length ≤ ts.length := by
        have := congrArg List.length hts
        simp at this
        omega
      have hai : D.ims a = true := trs_im a (hF (a, b) (List.mem_cons_self ..)).1
      have hbt := (hF (a, b) (List.mem_cons_self ..)).2
      have hxi := tr_im x hx
      have hax : D.ims (a ++ [x]) = true := ims_app hai (by simp [D.ims, hxi])
      have hal : a.length ≤ j := hFl (a, b) (List.mem_cons_self ..)
      have up3 : ∀ f ∈ F, f.1.length ≤ j + 1 := fun f hf => up1 f (List.mem_cons_of_mem _ hf)
      simp only [List.length_cons] at hFj
      cases b with
      | nil =>
        obtain ⟨⟨s, hs⟩, hd3⟩ := tk_at hdr
        have hj2 : j + 1 + (ctk F).length = (tkt d).length := by
          rw [← hj]
          simp [ctk, tktr]
          omega
        cases x <;> (try (simp [isTr] at hx; done))
        all_goals (
          walk_at "vc"
          refine cWh_d (fun _ => ?_) fun h => absurd h (by omega)
          walk_at "vc"
          refine ⟨_, _, _, [S [44], S [41]], rfl, hs, by simp, rfl, ?_⟩
          walk_at "vc"
          exact ⟨(tkt d).length - (j + 1), by omega, F, .tup (a ++ [_]), j + 1, rfl, hpl, by omega, up3, .inr ⟨rfl, hd3, hj2⟩⟩)
      | cons t r =>
        obtain ⟨⟨s, hs⟩, hd3⟩ := tk_at hdr
        simp only [isTrs, Bool.and_eq_true] at hbt
        have hj2 : j + 1 + ((tkt t).length + (ctk ((a ++ [x], r) :: F)).length) = (tkt d).length := by
          rw [← hj]
          simp [ctk, tktr]
          omega
        have hd4 : (ts.map (·.2)).drop (j + 1) = tkt t ++ (ctk ((a ++ [x], r) :: F) ++ rest) := by
          rw [hd3]
          simp [ctk, tktr]
        have hpl2 : plug ((a ++ [x], r) :: F) t = d := by
          rw [← hpl]
          simp [plug]
        cases x <;> (try (simp [isTr] at hx; done))
        all_goals (
          walk_at "vc"
          refine cWh_d (fun _ => ?_) fun h => absurd h (by omega)
          walk_at "vc"
          refine ⟨_, _, _, [S [44], S [41]], rfl, hs, by simp, rfl, ?_⟩
          walk_at "vc"
          refine cIf_d (fun h => absurd h (by decide)) fun _ => ?_
          walk_at "vc"
          exact ⟨(tkt d).length - (j + 1), by omega, (a ++ [_], r) :: F, t, j + 1, rfl, hpl2, by simp; omega, (fun f hf => (List.mem_cons.mp hf).elim (fun e => by rw [e]; simp; omega) (up3 f)), .inl ⟨rfl, hd4, hj2⟩⟩)
end
end L2.VL.K73
set_option Elab.async false
set_option linter.all false
set_option maxRecDepth 100000
namespace L2.VL.K73
open PySem PySem.Spec PyProof.Rows
local macro_rules | `(tactic| walk_at "v") => `(tactic| simp only [opt_some, optS_some, optB_some, optI_some, mv_val, mv_plc, mvl_nil, mvl_cons, cMvl_run, getl_nil, getl_cons, cGetl_run, cKons_run, cIm_run, look_run, lookO_run, put_run, putO_run, get_val, get_plc, dlook_nil, dlook_lst, dlook_obj, kidO_run, dput_nil, dput_lst, dput_obj, kidP_run, cR_run, app1_some, app2_some, deep_val, deep_nil, deep_cons, vVar_run, cVar_run, vC_run, vMv_run', cMv'_run, vBin_run, cBin_run, cBin2_run, vTest_run, cTest_run, vUn_run, cUn_run, vAnd_run, cAnd_t, cAnd_f, vOr_run, cOr_t, cOr_f, vNot_run, cNot_run, vAndV_run, cAndV_run, cAndV2_t, cAndV2_f, vOrV_run, cOrV_run, cOrV2_t, cOrV2_f, vNotV_run, cNotV_run, cNotV2_run, vIfE_run, cIfE_t, cIfE_f, vNil_run, vCons_run, cCons_run, cCons2_run, vTup_run, cTup_run, cTup2_run, vLst_run, cLst_run, cLst2_run, vFun_run, cFun_run, cFun2_run, vRM_run, cRM_run, cRM2_run, cRM3_run, cRM4_run, vMut_run, cMut_run, cMut2_run, cMut3_run, cMut4_run, cMut5_run, isL_run, isS_run, vSl_run, cSl_run, cSl2_run, cSl3_run, cSl4_run, voNone_run, voSome_run, cVo_run, ixO_run, vIxP_run, cIxP_run, cIxP2_run, cIxP3_run, vLstRg_run, cLstRg_run, cLstRg2_run, vNext_run, vBreak_run, vCont_run, vSeq_run, vDrop_run, cDrop_run, vRet_run, cRet_run, cRet2_run, vRetN_run, vIf_run, cIf_t, cIf_f, vgN_run, vgNil_run, vgCons_run, cG_run, vgTup_run, vAsg_run, cAsg_run, cAsg2_run, vPar_run, cPar_run, cPar2_run, vAug_run, cAug_run, cAug2_run, cAug3_run, vFor_run, cFor_run, vLc_run, cLc_run, vYes_run, optLst_run, viSlot_run, cSlot_run, cSlot2_run, viVal_run, cVal_run, optTup_run, viTup_run, cTupI_run, cTupI2_run, viR1_run, cR1_run, cR1b_run, viR2_run, cR2_run, cR2b_run, viRD_run, cRD_run, cRDb_run, optStr_run, viStr_run, cStrI_run, cStrI2_run, setO_run, vSetI_run, cSetI_run, cSetI2_run, cSetI3_run, cSetI4_run, cSetI5_run, fldO_run, cF2_run, vFld_run, cFld_run, cFld2_run, objO_run, vSetF_run, cSetF_run, cSetF2_run, cSetF3_run, args_nil, args_f, args_t, cArgs_run, cArgs2_run, back_t, back_tn, back_f, back_nil, back_nil', vCall_run, cCall_run, cCall2_run, cBack_run, objM_run, vMeth_run, cMeth_run, cMeth2_run, vMake_run, cMake_run, cMake2_run, cMake3_run, optI1_run, vChain_run, cCh_run, cCh2_run, chO_run, cCh3_t, cCh3_f, cCh4_run, cCh5_run, augO_run, cAugO_run, cAugO2_run, vAugF_run, cAugF_run, cAugF2_run, cAugF3_run, snocI, snocS, setI, dropI, revI, cWh_t, cWh_f, cLc1_run, cLc2_t, cLc2_f, cLc3_run, cLc4_run, cMap_run, opt_map, atI_map, fIdx_l, fIdx_t, cSgn_run, fIdx_s, fPop_run, cPop_run, fPopAt_run, cPopAt_run, cPopAt2_run, eraseI, fInt_s, cIntS_run, cIsi2_run, fIsi_run, cIsi_run, fIsiT_run, cIsiT_run, cIsiT2_run, fJoin_run, cJoin_run, kb_NoneType_tuple, kb_NoneType_list, kb_NoneType_bool, kb_NoneType_int, kb_NoneType_str, kb_NoneType_dict, kb_bool_tuple, kb_bool_list, kb_bool_bool, kb_bool_int, kb_bool_str, kb_bool_dict, kb_int_tuple, kb_int_list, kb_int_bool, kb_int_int, kb_int_str, kb_int_dict, kb_str_tuple, kb_str_list, kb_str_bool, kb_str_int, kb_str_str, kb_str_dict, kb_list_tuple, kb_list_list, kb_list_bool, kb_list_int, kb_list_str, kb_list_dict, kb_tuple_tuple, kb_tuple_list, kb_tuple_bool, kb_tuple_int, kb_tuple_str, kb_tuple_dict, kb_dict_tuple, kb_dict_list, kb_dict_bool, kb_dict_int, kb_dict_str, kb_dict_dict, kN_nil, kN_cons, orK_t, orK_f, fn_false, fAdd.eq_1, fAdd.eq_2, fAdd.eq_3, fAdd.eq_4, fI2.eq_1, fI20.eq_1, fEq.eq_1, fEq.eq_2, fEq.eq_3, fNe.eq_1, fNe.eq_2, fNe.eq_3, fSl.eq_1, fSl.eq_2, fSl.eq_3, fSl.eq_4, fLen.eq_1, fLen.eq_2, fLen.eq_3, fInt.eq_1, fInt.eq_2, fStr.eq_1, fStr.eq_2, fList.eq_1, fList.eq_2, fTuple.eq_1, fTuple.eq_2, fNeg.eq_1, fAppend.eq_1, fReverse.eq_1, fClear.eq_1, fExtend.eq_1, List.getElem?_map, Option.map_some, Option.map_none, D.isM, D.im, D.ims, D.flat, fIsN, fNotN, D.isNon, D.tyIs, tyNames, putN, putD, wipeE, finP, ims_ints, ims_strs, strs_map, flat_ints, isIn_ints, staysT, CDiv, CPow, CMul, List.getElem?_cons_zero, List.getElem?_cons_succ, List.getElem?_nil, List.set_cons_zero, List.set_cons_succ, List.map_cons, List.map_nil, List.replicate, List.cons_append, List.nil_append, List.append_nil, List.length_cons, List.length_nil, List.length_map, List.all_cons, List.all_nil, List.contains_cons, List.contains_nil, List.elem_cons, List.elem_nil, List.append_eq, List.length_append, true_and, and_true, false_and, and_false, not_true_eq_false, not_false_eq_true, ne_eq, reduceCtorEq, Bool.false_eq_true, false_implies, true_implies, implies_true, forall_const, imp_self, decide_true, decide_false, decide_eq_true_eq, Bool.not_true, Bool.not_false, Bool.or_false, Bool.and_true, Bool.true_and, Bool.false_and, if_true, if_false, ite_true, ite_false, true_or, or_true, false_or, or_false, Nat.add_zero, Nat.zero_add, Nat.reduceAdd, Nat.reduceSub, Nat.reduceEqDiff, beq_self_eq_true, BEq.rfl, Int.zero_add, Nat.reduceBEq, Nat.reduceLeDiff, Nat.reduceLT, Int.reduceLT, Int.reduceLE, Int.reduceToNat, Int.reduceNeg, Option.some.injEq, atI_c0, atI_c1, atI_c2, atI_c3, atI_c4, S_cps, S_len', S_cat', signs_S, fInG_s1, fInG_s0, fInG_l, fInG_t, S_eq1, S_eq2, itx_S, jn0, jn0_len, Int.toNat_natCast, sn_get, sn_get1, sn_ix, sn_set, sn_drop, fx_Line_0_tokens, fx_Line_0_taken, fx_Line_1_tokens, fx_Line_1_taken, fx_Line_2_tokens, fx_Line_2_taken, ne_taken_tokens, ne_tokens_taken, cs_0, cs_1, cs_2, cs_3, cs_4, cs_5, cs_6, cs_7, cs_8, cs_9, cs_10, cs_11, cs_12, cs_13, cs_14])
local macro_rules | `(tactic| walk_at "c") => `(tactic| repeat (refine And.intro (by first | omega | rfl | assumption | decide | decide +kernel) ?_))
local macro_rules | `(tactic| walk_at "vc") => `(tactic| ((try walk_at "v"); walk_at "c"))
section
variable {P : Program} {w : World} {K : PySem.W.Frag} {mg : Str → Option Value} {base : Heap}

def vf_read_tree : VF := fun ds R => ∃ (d : D) (l : List Nat), ds = [.str (S l)] ∧ l.length ≤ 1000000 ∧ TkR l (tkt d) ∧ isTr d = true ∧ R d [some (.str (S l))]
theorem ok_read_tree (T : Facts K mg) : FnOk P w K mg base CX0 7 T.f_read_tree T.fd_read_tree ["text"] (spV K 1 (vf_read_tree)) := by
  refine okV T.F_read_tree sc_read_tree _ fun cdv A outer s H E hr => ⟨_, (vss_cons (vs_set (i := 1) (fun h => ps_set sc_read_tree.nd rfl (.inl rfl) h) (ve_make [false] (fun h => pe_make T.mk_Line (ok_Line_init T) (hr.mono (by omega)) (by rfl) T.g_Line T.b_Line_init .nil pass0 h) (va_cons (ve_var (pv 0)) va_nil)))
      (vss_cons (vs_set (i := 2) (fun h => ps_set sc_read_tree.nd rfl (.inl rfl) h) (ve_call [true] (fun h => pe_call (ok_take_tree T) (hr.mono (by omega)) (by rfl) T.g_take_tree T.F_take_tree.kp T.b_take_tree .nil pass0 h) (va_cons (ve_var (pv 1)) va_nil)))
      (vss_cons (vs_expr (ve_meth [true, false] (fun ho h => pe_meth ho T.cl_Line T.m_Line_take (ok_Line_take T) (hr.mono (by omega)) T.b_Line_take .nil pass0 h) (ve_var (pv 1)) (va_cons ve_str va_nil)))
      (vss_one (vs_ret (ve_var (pv 2))))))), ?_⟩
  intro ds R _hl hv
  obtain ⟨d, l, rfl, hl, ht, hd, k⟩ := hv
  walk_at "v"
  refine ⟨l, tkt d, rfl, hl, ht, fun ts hts => ?_⟩
  walk_at "v"
  have hlen : ts.length ≤ 2000000 := by
    have h1 := congrArg List.length hts
    have h2 := ht.len
    simp at h1
    omega
  refine ⟨d, ts, _, rfl, hts, hlen, hd, ?_⟩
  walk_at "vc"
  obtain ⟨⟨s, hs⟩, _⟩ := tk_at (ts := ts) (k := (tkt d).length) (tk := (kEnd, .int 0)) (q := []) (by rw [hts, List.drop_left])
  refine ⟨ts, _, _, rfl, hs, rfl, ?_⟩
  walk_at "vc"
  refine ⟨tr_im d hd, ?_⟩
  walk_at "vc"
  exact k
end
end L2.VL.K73
set_option Elab.async false
set_option linter.all false
set_option maxRecDepth 100000
namespace L2.VL.K73
open PySem PySem.Spec PyProof.Rows
local macro_rules | `(tactic| walk_at "v") => `(tactic| simp only [opt_some, optS_some, optB_some, optI_some, mv_val, mv_plc, mvl_nil, mvl_cons, cMvl_run, getl_nil, getl_cons, cGetl_run, cKons_run, cIm_run, look_run, lookO_run, put_run, putO_run, get_val, get_plc, dlook_nil, dlook_lst, dlook_obj, kidO_run, dput_nil, dput_lst, dput_obj, kidP_run, cR_run, app1_some, app2_some, deep_val, deep_nil, deep_cons, vVar_run, cVar_run, vC_run, vMv_run', cMv'_run, vBin_run, cBin_run, cBin2_run, vTest_run, cTest_run, vUn_run, cUn_run, vAnd_run, cAnd_t, cAnd_f, vOr_run, cOr_t, cOr_f, vNot_run, cNot_run, vAndV_run, cAndV_run, cAndV2_t, cAndV2_f, vOrV_run, cOrV_run, cOrV2_t, cOrV2_f, vNotV_run, cNotV_run, cNotV2_run, vIfE_run, cIfE_t, cIfE_f, vNil_run, vCons_run, cCons_run, cCons2_run, vTup_run, cTup_run, cTup2_run, vLst_run, cLst_run, cLst2_run, vFun_run, cFun_run, cFun2_run, vRM_run, cRM_run, cRM2_run, cRM3_run, cRM4_run, vMut_run, cMut_run, cMut2_run, cMut3_run, cMut4_run, cMut5_run, isL_run, isS_run, vSl_run, cSl_run, cSl2_run, cSl3_run, cSl4_run, voNone_run, voSome_run, cVo_run, ixO_run, vIxP_run, cIxP_run, cIxP2_run, cIxP3_run, vLstRg_run, cLstRg_run, cLstRg2_run, vNext_run, vBreak_run, vCont_run, vSeq_run, vDrop_run, cDrop_run, vRet_run, cRet_run, cRet2_run, vRetN_run, vIf_run, cIf_t, cIf_f, vgN_run, vgNil_run, vgCons_run, cG_run, vgTup_run, vAsg_run, cAsg_run, cAsg2_run, vPar_run, cPar_run, cPar2_run, vAug_run, cAug_run, cAug2_run, cAug3_run, vFor_run, cFor_run, vLc_run, cLc_run, vYes_run, optLst_run, viSlot_run, cSlot_run, cSlot2_run, viVal_run, cVal_run, optTup_run, viTup_run, cTupI_run, cTupI2_run, viR1_run, cR1_run, cR1b_run, viR2_run, cR2_run, cR2b_run, viRD_run, cRD_run, cRDb_run, optStr_run, viStr_run, cStrI_run, cStrI2_run, setO_run, vSetI_run, cSetI_run, cSetI2_run, cSetI3_run, cSetI4_run, cSetI5_run, fldO_run, cF2_run, vFld_run, cFld_run, cFld2_run, objO_run, vSetF_run, cSetF_run, cSetF2_run, cSetF3_run, args_nil, args_f, args_t, cArgs_run, cArgs2_run, back_t, back_tn, back_f, back_nil, back_nil', vCall_run, cCall_run, cCall2_run, cBack_run, objM_run, vMeth_run, cMeth_run, cMeth2_run, vMake_run, cMake_run, cMake2_run, cMake3_run, optI1_run, vChain_run, cCh_run, cCh2_run, chO_run, cCh3_t, cCh3_f, cCh4_run, cCh5_run, augO_run, cAugO_run, cAugO2_run, vAugF_run, cAugF_run, cAugF2_run, cAugF3_run, snocI, snocS, setI, dropI, revI, cWh_t, cWh_f, cLc1_run, cLc2_t, cLc2_f, cLc3_run, cLc4_run, cMap_run, opt_map, atI_map, fIdx_l, fIdx_t, cSgn_run, fIdx_s, fPop_run, cPop_run, fPopAt_run, cPopAt_run, cPopAt2_run, eraseI, fInt_s, cIntS_run, cIsi2_run, fIsi_run, cIsi_run, fIsiT_run, cIsiT_run, cIsiT2_run, fJoin_run, cJoin_run, kb_NoneType_tuple, kb_NoneType_list, kb_NoneType_bool, kb_NoneType_int, kb_NoneType_str, kb_NoneType_dict, kb_bool_tuple, kb_bool_list, kb_bool_bool, kb_bool_int, kb_bool_str, kb_bool_dict, kb_int_tuple, kb_int_list, kb_int_bool, kb_int_int, kb_int_str, kb_int_dict, kb_str_tuple, kb_str_list, kb_str_bool, kb_str_int, kb_str_str, kb_str_dict, kb_list_tuple, kb_list_list, kb_list_bool, kb_list_int, kb_list_str, kb_list_dict, kb_tuple_tuple, kb_tuple_list, kb_tuple_bool, kb_tuple_int, kb_tuple_str, kb_tuple_dict, kb_dict_tuple, kb_dict_list, kb_dict_bool, kb_dict_int, kb_dict_str, kb_dict_dict, kN_nil, kN_cons, orK_t, orK_f, fn_false, fAdd.eq_1, fAdd.eq_2, fAdd.eq_3, fAdd.eq_4, fI2.eq_1, fI20.eq_1, fEq.eq_1, fEq.eq_2, fEq.eq_3, fNe.eq_1, fNe.eq_2, fNe.eq_3, fSl.eq_1, fSl.eq_2, fSl.eq_3, fSl.eq_4, fLen.eq_1, fLen.eq_2, fLen.eq_3, fInt.eq_1, fInt.eq_2, fStr.eq_1, fStr.eq_2, fList.eq_1, fList.eq_2, fTuple.eq_1, fTuple.eq_2, fNeg.eq_1, fAppend.eq_1, fReverse.eq_1, fClear.eq_1, fExtend.eq_1, List.getElem?_map, Option.map_some, Option.map_none, D.isM, D.im, D.ims, D.flat, fIsN, fNotN, D.isNon, D.tyIs, tyNames, putN, putD, wipeE, finP, ims_ints, ims_strs, strs_map, flat_ints, isIn_ints, staysT, CDiv, CPow, CMul, List.getElem?_cons_zero, List.getElem?_cons_succ, List.getElem?_nil, List.set_cons_zero, List.set_cons_succ, List.map_cons, List.map_nil, List.replicate, List.cons_append, List.nil_append, List.append_nil, List.length_cons, List.length_nil, List.length_map, List.all_cons, List.all_nil, List.contains_cons, List.contains_nil, List.elem_cons, List.elem_nil, List.append_eq, List.length_append, true_and, and_true, false_and, and_false, not_true_eq_false, not_false_eq_true, ne_eq, reduceCtorEq, Bool.false_eq_true, false_implies, true_implies, implies_true, forall_const, imp_self, decide_true, decide_false, decide_eq_true_eq, Bool.not_true, Bool.not_false, Bool.or_false, Bool.and_true, Bool.true_and, Bool.false_and, if_true, if_false, ite_true, ite_false, true_or, or_true, false_or, or_false, Nat.add_zero, Nat.zero_add, Nat.reduceAdd, Nat.reduceSub, Nat.reduceEqDiff, beq_self_eq_true, BEq.rfl, Int.zero_add, Nat.reduceBEq, Nat.reduceLeDiff, Nat.reduceLT, Int.reduceLT, Int.reduceLE, Int.reduceToNat, Int.reduceNeg, Option.some.injEq, atI_c0, atI_c1, atI_c2, atI_c3, atI_c4, S_cps, S_len', S_cat', signs_S, fInG_s1, fInG_s0, fInG_l, fInG_t, S_eq1, S_eq2, itx_S, jn0, jn0_len, Int.toNat_natCast, sn_get, sn_get1, sn_ix, sn_set, sn_drop, fx_Line_0_tokens, fx_Line_0_taken, fx_Line_1_tokens, fx_Line_1_taken, fx_Line_2_tokens, fx_Line_2_taken, ne_taken_tokens, ne_tokens_taken, cs_0, cs_1, cs_2, cs_3, cs_4, cs_5, cs_6, cs_7, cs_8, cs_9, cs_10, cs_11, cs_12, cs_13, cs_14])
local macro_rules | `(tactic| walk_at "c") => `(tactic| repeat (refine And.intro (by first | omega | rfl | assumption | decide | decide +kernel) ?_))
local macro_rules | `(tactic| walk_at "vc") => `(tactic| ((try walk_at "v"); walk_at "c"))
section
variable {P : Program} {w : World} {K : PySem.W.Frag} {mg : Str → Option Value} {base : Heap}

def vf__law_same : Nat → VF
  | 0 => fun _ _ => False
  | n + 1 => fun ds R => ∃ d : D, ds = [d, d] ∧ Sm d ∧ tdp d ≤ n ∧ cst d ≤ 200000 ∧ R (.bl true) [some d, some d]
theorem okn__law_same (T : Facts K mg) : ∀ n, FnOk P w K mg base CX0 (1 + n) T.f__law_same T.fd__law_same ["actual", "due"] (spV K 2 (vf__law_same n)) := by
  intro n
  induction n with
  | zero => exact fn_false 0 rfl
  | succ n ih =>
  refine okV T.F__law_same sc__law_same _ fun cdv A outer s H E hr => ⟨_, (vss_cons (vs_if (vt_val (ve_fun (fun h => pe_callB call_isiT (by rfl) T.z_isinstance (by decide +kernel) h) on_isiT (va_cons (ve_var (pv 1)) (va_cons (ve_tup (va_cons (ve_const (pe_bltn (v := .ty "tuple") (by rfl) T.z_tuple (by decide +kernel) rfl) fun _ => .ty _) (va_cons (ve_const (pe_bltn (v := .ty "list") (by rfl) T.z_list (by decide +kernel) rfl) fun _ => .ty _) va_nil))) va_nil)))) (vss_cons (vs_if (VW.vt (vw_or (vt_bin (fun h g => pt_cmpR (or_ne hr.units) h g (nomark _)) o2_ne (ve_fun (fun h => pe_callB call_isi (by rfl) T.z_isinstance (by decide +kernel) h) on_isi (va_cons (ve_var (pv 0)) (va_cons (ve_const (pe_bltn (v := .ty "tuple") (by rfl) T.z_tuple (by decide +kernel) rfl) fun _ => .ty _) va_nil))) (ve_fun (fun h => pe_callB call_isi (by rfl) T.z_isinstance (by decide +kernel) h) on_isi (va_cons (ve_var (pv 1)) (va_cons (ve_const (pe_bltn (v := .ty "tuple") (by rfl) T.z_tuple (by decide +kernel) rfl) fun _ => .ty _) va_nil)))) (vw_or1 (vt_bin (fun h g => pt_cmpR (or_ne hr.units) h g (nomark _)) o2_ne (ve_fun (fun h => pe_callB call_isi (by rfl) T.z_isinstance (by decide +kernel) h) on_isi (va_cons (ve_var (pv 0)) (va_cons (ve_const (pe_bltn (v := .ty "list") (by rfl) T.z_list (by decide +kernel) rfl) fun _ => .ty _) va_nil))) (ve_fun (fun h => pe_callB call_isi (by rfl) T.z_isinstance (by decide +kernel) h) on_isi (va_cons (ve_var (pv 1)) (va_cons (ve_const (pe_bltn (v := .ty "list") (by rfl) T.z_list (by decide +kernel) rfl) fun _ => .ty _) va_nil))))))) (vss_one (vs_ret ve_bl)) vss_nil)
      (vss_cons (vs_if (vt_bin (fun h g => pt_cmpR (or_ne hr.units) h g (nomark _)) o2_ne (ve_fun (fun h => pe_callB call_len (by rfl) T.z_len (by decide +kernel) h) on_len (va_cons (ve_var (pv 0)) va_nil)) (ve_fun (fun h => pe_callB call_len (by rfl) T.z_len (by decide +kernel) h) on_len (va_cons (ve_var (pv 1)) va_nil))) (vss_one (vs_ret ve_bl)) vss_nil)
      (vss_one (vs_ret (ve_bin (fun h g => pe_cmpR or_notin h g (by rfl)) o2_notin ve_bl (ve_lc (own := [("k", 2)]) rfl sc__law_same.nd (vi_range1 (fun h => pi_range1 (by rfl) T.z_range h) (va_cons (ve_fun (fun h => pe_callB call_len (by rfl) T.z_len (by decide +kernel) h) on_len (va_cons (ve_var (pv 1)) va_nil)) va_nil)) (blkOk_by (own := [("k", 2)]) (N := ["actual", "due", "k"]) (sc := defScope s__law_same) (by decide +kernel)) (fun _ _ _ _ _ => (vg_name (pg_name (i := 2) sc__law_same.nd rfl (.inl rfl)))) (fun _ _ _ _ _ => vts_nil) (fun _ _ _ _ _ => (ve_call [false, false] (fun h => pe_call ih (hr.mono (Nat.le_refl _)) (by rfl) T.g__law_same T.F__law_same.kp T.b__law_same .nil pass0 h) (va_cons (ve_bin (fun h g => pe_ix ix_seq h g (fun _ _ => rfl)) o2_idx (ve_var (pv 0)) (ve_var (pv 2))) (va_cons (ve_bin (fun h g => pe_ix ix_seq h g (fun _ _ => rfl)) o2_idx (ve_var (pv 1)) (ve_var (pv 2))) va_nil)))))))))) vss_nil)
      (vss_cons (vs_if (VW.vt (vw_or (vt_bin (fun h g => pt_cmpR (or_ne hr.units) h g (nomark _)) o2_ne (ve_fun (fun h => pe_callB call_isi (by rfl) T.z_isinstance (by decide +kernel) h) on_isi (va_cons (ve_var (pv 0)) (va_cons (ve_const (pe_bltn (v := .ty "bool") (by rfl) T.z_bool (by decide +kernel) rfl) fun _ => .ty _) va_nil))) (ve_fun (fun h => pe_callB call_isi (by rfl) T.z_isinstance (by decide +kernel) h) on_isi (va_cons (ve_var (pv 1)) (va_cons (ve_const (pe_bltn (v := .ty "bool") (by rfl) T.z_bool (by decide +kernel) rfl) fun _ => .ty _) va_nil)))) (vw_or1 (vt_bin (fun h g => pt_cmpR (or_ne hr.units) h g (nomark _)) o2_ne (ve_fun (fun h => pe_callB call_isi (by rfl) T.z_isinstance (by decide +kernel) h) on_isi (va_cons (ve_var (pv 0)) (va_cons (ve_const (pe_bltn (v := .ty "int") (by rfl) T.z_int (by decide +kernel) rfl) fun _ => .ty _) va_nil))) (ve_fun (fun h => pe_callB call_isi (by rfl) T.z_isinstance (by decide +kernel) h) on_isi (va_cons (ve_var (pv 1)) (va_cons (ve_const (pe_bltn (v := .ty "int") (by rfl) T.z_int (by decide +kernel) rfl) fun _ => .ty _) va_nil))))))) (vss_one (vs_ret ve_bl)) vss_nil)
      (vss_cons (vs_if (VW.vt (vw_or (vt_bin (fun h g => pt_cmpR (or_ne hr.units) h g (nomark _)) o2_ne (ve_fun (fun h => pe_callB call_isi (by rfl) T.z_isinstance (by decide +kernel) h) on_isi (va_cons (ve_var (pv 0)) (va_cons (ve_const (pe_bltn (v := .ty "str") (by rfl) T.z_str (by decide +kernel) rfl) fun _ => .ty _) va_nil))) (ve_fun (fun h => pe_callB call_isi (by rfl) T.z_isinstance (by decide +kernel) h) on_isi (va_cons (ve_var (pv 1)) (va_cons (ve_const (pe_bltn (v := .ty "str") (by rfl) T.z_str (by decide +kernel) rfl) fun _ => .ty _) va_nil)))) (vw_or1 (vt_bin (fun h g => pt_cmpR (or_ne hr.units) h g (nomark _)) o2_ne (ve_bin (fun h g => pe_cmpR op_isN h g (nomark _)) o2_isN (ve_var (pv 0)) ve_non) (ve_bin (fun h g => pe_cmpR op_isN h g (nomark _)) o2_isN (ve_var (pv 1)) ve_non))))) (vss_one (vs_ret ve_bl)) vss_nil)
      (vss_one (vs_ret (ve_bin (fun h g => pe_cmpR (or_eq hr.units) h g (nomark _)) o2_eq (ve_var (pv 0)) (ve_var (pv 1)))))))), ?_⟩
  intro ds R _hl hv
  obtain ⟨d, rfl, hd, hn, hcd, k⟩ := hv
  cases d with
  | int i =>
    walk_at "vc"
    exact k
  | str z =>
    walk_at "vc"
    exact k
  | tup ds =>
    simp only [tdp] at hn
    obtain ⟨m, rfl⟩ : ∃ m, n = m + 1 := ⟨n - 1, by omega⟩
    have hds : isTrs ds = true := hd.elim id fun ⟨z, h⟩ => nomatch h
    have hdi := trs_im ds hds
    simp only [cst] at hcd
    have hll := len_csts ds
    · walk_at "vc"
      refine lcL_i (fun i acc e => acc = List.replicate i (.bl true) ∧ e = [some (.tup ds), some (.tup ds), none]) ⟨rfl, rfl⟩ (fun _ _ _ _ => True.intro) ?_ ?_
      · rintro i x acc e hx ⟨rfl, rfl⟩
        obtain ⟨hi, rfl⟩ := rangeD_get hx
        rw [Int.zero_add]
        obtain ⟨y, hy⟩ := get_ex hi
        have hym := List.mem_of_getElem? hy
        have hyi := ims_mem hdi y hym
        have hyd := tdps_mem hym
        have hyc := csts_mem hym
        walk_at "v"
        rw [atI_nat hy]
        walk_at "vc"
        rw [atI_nat hy]
        walk_at "vc"
        refine ⟨y, rfl, Or.inl (isTrs_mem hds y hym), by omega, by omega, ?_⟩
        walk_at "v"
        exact ⟨by simp; omega, List.replicate_succ'.symm⟩
      · rintro acc e ⟨rfl, rfl⟩
        rw [rangeD_len]
        walk_at "v"
        refine ⟨flat_rep _ _, ?_⟩
        rw [isIn_rep]
        walk_at "v"
        exact k
  | _ => simp [isTr, Sm] at hd
theorem ok__law_same (T : Facts K mg) : FnOk P w K mg base CX0 41 T.f__law_same T.fd__law_same ["actual", "due"] (spV K 2 (vf__law_same 40)) := okn__law_same T 40
end
end L2.VL.K73
set_option Elab.async false
set_option linter.all false
set_option maxRecDepth 100000
namespace L2.VL.K73
open PySem PySem.Spec PyProof.Rows
local macro_rules | `(tactic| walk_at "v") => `(tactic| simp only [opt_some, optS_some, optB_some, optI_some, mv_val, mv_plc, mvl_nil, mvl_cons, cMvl_run, getl_nil, getl_cons, cGetl_run, cKons_run, cIm_run, look_run, lookO_run, put_run, putO_run, get_val, get_plc, dlook_nil, dlook_lst, dlook_obj, kidO_run, dput_nil, dput_lst, dput_obj, kidP_run, cR_run, app1_some, app2_some, deep_val, deep_nil, deep_cons, vVar_run, cVar_run, vC_run, vMv_run', cMv'_run, vBin_run, cBin_run, cBin2_run, vTest_run, cTest_run, vUn_run, cUn_run, vAnd_run, cAnd_t, cAnd_f, vOr_run, cOr_t, cOr_f, vNot_run, cNot_run, vAndV_run, cAndV_run, cAndV2_t, cAndV2_f, vOrV_run, cOrV_run, cOrV2_t, cOrV2_f, vNotV_run, cNotV_run, cNotV2_run, vIfE_run, cIfE_t, cIfE_f, vNil_run, vCons_run, cCons_run, cCons2_run, vTup_run, cTup_run, cTup2_run, vLst_run, cLst_run, cLst2_run, vFun_run, cFun_run, cFun2_run, vRM_run, cRM_run, cRM2_run, cRM3_run, cRM4_run, vMut_run, cMut_run, cMut2_run, cMut3_run, cMut4_run, cMut5_run, isL_run, isS_run, vSl_run, cSl_run, cSl2_run, cSl3_run, cSl4_run, voNone_run, voSome_run, cVo_run, ixO_run, vIxP_run, cIxP_run, cIxP2_run, cIxP3_run, vLstRg_run, cLstRg_run, cLstRg2_run, vNext_run, vBreak_run, vCont_run, vSeq_run, vDrop_run, cDrop_run, vRet_run, cRet_run, cRet2_run, vRetN_run, vIf_run, cIf_t, cIf_f, vgN_run, vgNil_run, vgCons_run, cG_run, vgTup_run, vAsg_run, cAsg_run, cAsg2_run, vPar_run, cPar_run, cPar2_run, vAug_run, cAug_run, cAug2_run, cAug3_run, vFor_run, cFor_run, vLc_run, cLc_run, vYes_run, optLst_run, viSlot_run, cSlot_run, cSlot2_run, viVal_run, cVal_run, optTup_run, viTup_run, cTupI_run, cTupI2_run, viR1_run, cR1_run, cR1b_run, viR2_run, cR2_run, cR2b_run, viRD_run, cRD_run, cRDb_run, optStr_run, viStr_run, cStrI_run, cStrI2_run, setO_run, vSetI_run, cSetI_run, cSetI2_run, cSetI3_run, cSetI4_run, cSetI5_run, fldO_run, cF2_run, vFld_run, cFld_run, cFld2_run, objO_run, vSetF_run, cSetF_run, cSetF2_run, cSetF3_run, args_nil, args_f, args_t, cArgs_run, cArgs2_run, back_t, back_tn, back_f, back_nil, back_nil', vCall_run, cCall_run, cCall2_run, cBack_run, objM_run, vMeth_run, cMeth_run, cMeth2_run, vMake_run, cMake_run, cMake2_run, cMake3_run, optI1_run, vChain_run, cCh_run, cCh2_run, chO_run, cCh3_t, cCh3_f, cCh4_run, cCh5_run, augO_run, cAugO_run, cAugO2_run, vAugF_run, cAugF_run, cAugF2_run, cAugF3_run, snocI, snocS, setI, dropI, revI, cWh_t, cWh_f, cLc1_run, cLc2_t, cLc2_f, cLc3_run, cLc4_run, cMap_run, opt_map, atI_map, fIdx_l, fIdx_t, cSgn_run, fIdx_s, fPop_run, cPop_run, fPopAt_run, cPopAt_run, cPopAt2_run, eraseI, fInt_s, cIntS_run, cIsi2_run, fIsi_run, cIsi_run, fIsiT_run, cIsiT_run, cIsiT2_run, fJoin_run, cJoin_run, kb_NoneType_tuple, kb_NoneType_list, kb_NoneType_bool, kb_NoneType_int, kb_NoneType_str, kb_NoneType_dict, kb_bool_tuple, kb_bool_list, kb_bool_bool, kb_bool_int, kb_bool_str, kb_bool_dict, kb_int_tuple, kb_int_list, kb_int_bool, kb_int_int, kb_int_str, kb_int_dict, kb_str_tuple, kb_str_list, kb_str_bool, kb_str_int, kb_str_str, kb_str_dict, kb_list_tuple, kb_list_list, kb_list_bool, kb_list_int, kb_list_str, kb_list_dict, kb_tuple_tuple, kb_tuple_list, kb_tuple_bool, kb_tuple_int, kb_tuple_str, kb_tuple_dict, kb_dict_tuple, kb_dict_list, kb_dict_bool, kb_dict_int, kb_dict_str, kb_dict_dict, kN_nil, kN_cons, orK_t, orK_f, fn_false, fAdd.eq_1, fAdd.eq_2, fAdd.eq_3, fAdd.eq_4, fI2.eq_1, fI20.eq_1, fEq.eq_1, fEq.eq_2, fEq.eq_3, fNe.eq_1, fNe.eq_2, fNe.eq_3, fSl.eq_1, fSl.eq_2, fSl.eq_3, fSl.eq_4, fLen.eq_1, fLen.eq_2, fLen.eq_3, fInt.eq_1, fInt.eq_2, fStr.eq_1, fStr.eq_2, fList.eq_1, fList.eq_2, fTuple.eq_1, fTuple.eq_2, fNeg.eq_1, fAppend.eq_1, fReverse.eq_1, fClear.eq_1, fExtend.eq_1, List.getElem?_map, Option.map_some, Option.map_none, D.isM, D.im, D.ims, D.flat, fIsN, fNotN, D.isNon, D.tyIs, tyNames, putN, putD, wipeE, finP, ims_ints, ims_strs, strs_map, flat_ints, isIn_ints, staysT, CDiv, CPow, CMul, List.getElem?_cons_zero, List.getElem?_cons_succ, List.getElem?_nil, List.set_cons_zero, List.set_cons_succ, List.map_cons, List.map_nil, List.replicate, List.cons_append, List.nil_append, List.append_nil, List.length_cons, List.length_nil, List.length_map, List.all_cons, List.all_nil, List.contains_cons, List.contains_nil, List.elem_cons, List.elem_nil, List.append_eq, List.length_append, true_and, and_true, false_and, and_false, not_true_eq_false, not_false_eq_true, ne_eq, reduceCtorEq, Bool.false_eq_true, false_implies, true_implies, implies_true, forall_const, imp_self, decide_true, decide_false, decide_eq_true_eq, Bool.not_true, Bool.not_false, Bool.or_false, Bool.and_true, Bool.true_and, Bool.false_and, if_true, if_false, ite_true, ite_false, true_or, or_true, false_or, or_false, Nat.add_zero, Nat.zero_add, Nat.reduceAdd, Nat.reduceSub, Nat.reduceEqDiff, beq_self_eq_true, BEq.rfl, Int.zero_add, Nat.reduceBEq, Nat.reduceLeDiff, Nat.reduceLT, Int.reduceLT, Int.reduceLE, Int.reduceToNat, Int.reduceNeg, Option.some.injEq, atI_c0, atI_c1, atI_c2, atI_c3, atI_c4, S_cps, S_len', S_cat', signs_S, fInG_s1, fInG_s0, fInG_l, fInG_t, S_eq1, S_eq2, itx_S, jn0, jn0_len, Int.toNat_natCast, sn_get, sn_get1, sn_ix, sn_set, sn_drop, fx_Line_0_tokens, fx_Line_0_taken, fx_Line_1_tokens, fx_Line_1_taken, fx_Line_2_tokens, fx_Line_2_taken, ne_taken_tokens, ne_tokens_taken, cs_0, cs_1, cs_2, cs_3, cs_4, cs_5, cs_6, cs_7, cs_8, cs_9, cs_10, cs_11, cs_12, cs_13, cs_14])
local macro_rules | `(tactic| walk_at "c") => `(tactic| repeat (refine And.intro (by first | omega | rfl | assumption | decide | decide +kernel) ?_))
local macro_rules | `(tactic| walk_at "vc") => `(tactic| ((try walk_at "v"); walk_at "c"))
section
variable {P : Program} {w : World} {K : PySem.W.Frag} {mg : Str → Option Value} {base : Heap}

def vf__law_text : VF := fun ds R => ∃ d : D, ds = [d] ∧ isTr d = true ∧ (tx d).length ≤ 100000 ∧ R (.str (S (tx d))) [some d]
theorem ok__law_text (T : Facts K mg) : FnOk P w K mg base CX0 1 T.f__law_text T.fd__law_text ["tree"] (spV K 1 (vf__law_text)) := by
  refine okV T.F__law_text sc__law_text _ fun cdv A outer s H E hr => ⟨_, (vss_cons (vs_par (i := 1) (j := 2) (fun h => ps_par rfl sc__law_text.nd rfl rfl (by decide) rfl rfl h (by rfl)) (va_cons (ve_lst va_nil) (va_cons (ve_lst (va_cons (ve_var (pv 0)) va_nil)) va_nil)))
      (vss_cons (vs_for (fun hi hg hb => ps_for PassesOwn.never rfl hi hg hb) (vi_range1 (fun h => pi_range1 (by rfl) T.z_range h) (va_cons ve_int va_nil)) (vg_name (pg_name (i := 3) sc__law_text.nd rfl (.inl rfl))) (vss_cons (vs_if (vt_bin (fun h g => pt_cmpR (or_eq hr.units) h g (nomark _)) o2_eq (ve_fun (fun h => pe_callB call_len (by rfl) T.z_len (by decide +kernel) h) on_len (va_cons (ve_var (pv 2)) va_nil)) ve_int) (vss_one vs_break) vss_nil)
      (vss_cons (vs_set (i := 4) (fun h => ps_set sc__law_text.nd rfl (.inl rfl) h) (ve_mut0 (fun ho => pe_bm0 PySem.F.plainAttrs_list PySem.F.slot_list_pop PySem.F.type_list_pop mt_pop ho) ty_l mu_pop (ve_var (pv 2))))
      (vss_one (vs_if (vt_val (ve_fun (fun h => pe_callB call_isi (by rfl) T.z_isinstance (by decide +kernel) h) on_isi (va_cons (ve_var (pv 4)) (va_cons (ve_const (pe_bltn (v := .ty "list") (by rfl) T.z_list (by decide +kernel) rfl) fun _ => .ty _) va_nil)))) (vss_one (vs_expr (ve_mut (fun ho h => pe_bm PySem.F.plainAttrs_list PySem.F.slot_list_append PySem.F.type_list_append mt_append ho h) ty_l mu_append (ve_var (pv 1)) (va_cons (ve_bin (fun h g => pe_ix ix_seq h g (fun _ _ => rfl)) o2_idx (ve_var (pv 4)) ve_int) va_nil)))) (vss_one (vs_if (vt_val (ve_fun (fun h => pe_callB call_isi (by rfl) T.z_isinstance (by decide +kernel) h) on_isi (va_cons (ve_var (pv 4)) (va_cons (ve_const (pe_bltn (v := .ty "tuple") (by rfl) T.z_tuple (by decide +kernel) rfl) fun _ => .ty _) va_nil)))) (vss_cons (vs_expr (ve_mut (fun ho h => pe_bm PySem.F.plainAttrs_list PySem.F.slot_list_append PySem.F.type_list_append mt_append ho h) ty_l mu_append (ve_var (pv 2)) (va_cons (ve_lst (va_cons ve_str va_nil)) va_nil)))
      (vss_cons (vs_for (fun hi hg hb => ps_for PassesOwn.never rfl hi hg hb) (vi_range1 (fun h => pi_range1 (by rfl) T.z_range h) (va_cons (ve_fun (fun h => pe_callB call_len (by rfl) T.z_len (by decide +kernel) h) on_len (va_cons (ve_var (pv 4)) va_nil)) va_nil)) (vg_name (pg_name (i := 5) sc__law_text.nd rfl (.inl rfl))) (vss_cons (vs_expr (ve_mut (fun ho h => pe_bm PySem.F.plainAttrs_list PySem.F.slot_list_append PySem.F.type_list_append mt_append ho h) ty_l mu_append (ve_var (pv 2)) (va_cons (ve_bin (fun h g => pe_ix ix_seq h g (fun _ _ => rfl)) o2_idx (ve_var (pv 4)) (ve_bin (fun h g => pe_op op_sub h g) o2_int0 (ve_bin (fun h g => pe_op op_sub h g) o2_int0 (ve_fun (fun h => pe_callB call_len (by rfl) T.z_len (by decide +kernel) h) on_len (va_cons (ve_var (pv 4)) va_nil)) ve_int) (ve_var (pv 5)))) va_nil)))
      (vss_one (vs_if (vt_bin (fun h g => pt_cmpR op_lt h g (nomark _)) o2_bl0 (ve_var (pv 5)) (ve_bin (fun h g => pe_op op_sub h g) o2_int0 (ve_fun (fun h => pe_callB call_len (by rfl) T.z_len (by decide +kernel) h) on_len (va_cons (ve_var (pv 4)) va_nil)) ve_int)) (vss_one (vs_expr (ve_mut (fun ho h => pe_bm PySem.F.plainAttrs_list PySem.F.slot_list_append PySem.F.type_list_append mt_append ho h) ty_l mu_append (ve_var (pv 2)) (va_cons (ve_lst (va_cons ve_str va_nil)) va_nil)))) vss_nil))))
      (vss_one (vs_expr (ve_mut (fun ho h => pe_bm PySem.F.plainAttrs_list PySem.F.slot_list_append PySem.F.type_list_append mt_append ho h) ty_l mu_append (ve_var (pv 2)) (va_cons (ve_lst (va_cons ve_str va_nil)) va_nil)))))) (vss_one (vs_expr (ve_mut (fun ho h => pe_bm PySem.F.plainAttrs_list PySem.F.slot_list_append PySem.F.type_list_append mt_append ho h) ty_l mu_append (ve_var (pv 1)) (va_cons (ve_fun (fun h => pe_callTy call_strA (by rfl) T.z_str (by decide +kernel) h) on_str (va_cons (ve_var (pv 4)) va_nil)) va_nil)))))))))))
      (vss_one (vs_ret (ve_rm (fun ho h => pe_bm PySem.F.plainAttrs_str PySem.F.slot_str_join PySem.F.type_str_join mt_join ho h) ty_s om_join ve_str (va_cons (ve_var (pv 1)) va_nil)))))), ?_⟩
  intro ds R _hl hv
  obtain ⟨d, rfl, hd, hl, k⟩ := hv
  walk_at "v"
  have hc0 := cst_le d hd
  refine ⟨tr_im d hd, forL_r0 (fun i e => ∃ (ps : List (List Nat)) (ws : List It) (x y z : Option D), e = [some d, some (.lst ((ps.map S).map D.str)), some (.lst (ws.map w2)), x, y, z] ∧ i + cost ws ≤ 400000 ∧ ps.length + cost ws ≤ 200000 ∧ (∀ w ∈ ws, w.ok) ∧ ps.flatten ++ rend ws = tx d) ⟨[], [.tr d], none, none, none, rfl, ?_, ?_, one_ok hd, ?_⟩ ?_ ?_⟩
  · simp [cost, It.c]
    omega
  · simp [cost, It.c]
    omega
  · simp [rend, It.tx]
  · rintro i0 e hi ⟨ps, ws, x, y, z, rfl, hic, hp, hok, he⟩
    walk_at "vc"
    refine cIf_d (fun h => ?_) fun h => ?_
    · have : ws = [] := List.eq_nil_of_length_eq_zero (by omega)
      subst this
      simp only [rend, List.append_nil] at he
      walk_at "v"
      rw [he]
      refine ⟨by omega, k⟩
    have hne : ws ≠ [] := fun z => by rw [z] at h; simp at h
    obtain ⟨w, hw⟩ := last_some hne
    have hs := last_split hw
    have hcs := cost_snoc ws.dropLast w
    have hrs := rend_snoc ws.dropLast w
    rw [← hs] at hcs hrs
    have hwo : w.ok := hok w (List.mem_of_getElem? hw)
    have hdo : ∀ w ∈ ws.dropLast, w.ok := fun w h => hok w (List.dropLast_subset ws h)
    have hcp := w.c_pos
    have hlc := len_cost ws.dropLast
    walk_at "v"
    rw [hw]
    walk_at "v"
    rw [drop_map]
    rw [hrs] at he
    cases w with
    | txt s =>
      rw [w2]
      walk_at "vc"
      simp only [It.tx] at he
      exact ⟨ps ++ [s], ws.dropLast, _, _, _, by simp only [List.map_append]; rfl, by omega, by simp; omega, hdo, by rw [flat_len, ← he]; simp⟩
    | tr d2 =>
      rw [w2]
      simp only [It.tx] at he
      cases d2 with
      | int n =>
        walk_at "v"
        have hlg := log_ok hwo
        walk_at "vc"
        exact ⟨ps ++ [itx n], ws.dropLast, _, _, _, by simp only [List.map_append]; rfl, by omega, by simp; omega, hdo, by rw [flat_len, ← he]; simp [tx]⟩
      | str z2 =>
        walk_at "vc"
        exact ⟨ps ++ [z2.cps.toList], ws.dropLast, _, _, _, by simp only [List.map_append]; rfl, by omega, by simp; omega, hdo, by rw [flat_len, ← he]; simp [tx]⟩
      | tup ds =>
        have hds : isTrs ds = true := hwo
        have hdi := trs_im ds hds
        have hcp2 := cost_pua ds
        have hcl := len_cost (pua ds)
        simp only [It.c, cst] at hcs
        have hll := len_csts ds
        walk_at "vc"
        refine forL_r0 (fun i e => ∃ f, e = [some d, some (.lst ((ps.map S).map D.str)), some (.lst ((ws.dropLast ++ [It.txt [41]] ++ puAt ds i).map w2)), some (.int i0), some (.tup ds), f]) ⟨z, by rw [puAt_zero, List.append_nil, List.map_append]; rfl⟩ ?_ ?_
        · rintro i e hi ⟨f, rfl⟩
          obtain ⟨x, hx⟩ := get_ex (xs := ds) (k := ds.length - 1 - i) (by omega)
          have hat : atI ds ((ds.length : Int) - 1 - (i : Int)) = some x := by
            rw [show (ds.length : Int) - 1 - (i : Int) = ((ds.length - 1 - i : Nat) : Int) by omega]
            exact atI_nat hx
          have hxi := ims_mem hdi x (List.mem_of_getElem? hx)
          have hpl := puAt_len ds i
          walk_at "v"
          rw [hat]
          walk_at "vc"
          refine cIf_d (fun h2 => ?_) fun h2 => ?_
          · walk_at "vc"
            exact ⟨_, by rw [puAt_step hx (by omega)]; simp only [List.map_append, List.append_assoc]; rfl⟩
          · walk_at "vc"
            exact ⟨_, by rw [pu_at hi hx (by omega)]; simp only [List.map_append, List.append_assoc]; rfl⟩
        · rintro e ⟨f, rfl⟩
          rw [puAt_all]
          walk_at "vc"
          refine ⟨ps, ws.dropLast ++ [.txt [41]] ++ pua ds ++ [.txt [40]], _, _, _, by simp only [List.map_append]; rfl, ?_, ?_, ?_, ?_⟩
          · simp only [cost_append, cost, It.c]
            omega
          · simp only [cost_append, cost, It.c]
            omega
          · exact app_ok (app_ok (app_ok hdo (one_ok trivial)) (pua_ok hds)) (one_ok trivial)
          · rw [← he]
            simp [rend_append, rend, It.tx, rend_pua, tx]
      | _ => simp [It.ok, isTr] at hwo
  · rintro e ⟨ps, ws, x, y, z, rfl, hic, hp, hok, he⟩
    have : ws = [] := cost_zero (by omega)
    subst this
    simp only [rend, List.append_nil] at he
    walk_at "v"
    rw [he]
    refine ⟨by omega, k⟩
end
end L2.VL.K73
set_option Elab.async false
set_option linter.all false
set_option maxRecDepth 100000
namespace L2.VL.K73
open PySem PySem.Spec PyProof.Rows
local macro_rules | `(tactic| walk_at "v") => `(tactic| simp only [opt_some, optS_some, optB_some, optI_some, mv_val, mv_plc, mvl_nil, mvl_cons, cMvl_run, getl_nil, getl_cons, cGetl_run, cKons_run, cIm_run, look_run, lookO_run, put_run, putO_run, get_val, get_plc, dlook_nil, dlook_lst, dlook_obj, kidO_run, dput_nil, dput_lst, dput_obj, kidP_run, cR_run, app1_some, app2_some, deep_val, deep_nil, deep_cons, vVar_run, cVar_run, vC_run, vMv_run', cMv'_run, vBin_run, cBin_run, cBin2_run, vTest_run, cTest_run, vUn_run, cUn_run, vAnd_run, cAnd_t, cAnd_f, vOr_run, cOr_t, cOr_f, vNot_run, cNot_run, vAndV_run, cAndV_run, cAndV2_t, cAndV2_f, vOrV_run, cOrV_run, cOrV2_t, cOrV2_f, vNotV_run, cNotV_run, cNotV2_run, vIfE_run, cIfE_t, cIfE_f, vNil_run, vCons_run, cCons_run, cCons2_run, vTup_run, cTup_run, cTup2_run, vLst_run, cLst_run, cLst2_run, vFun_run, cFun_run, cFun2_run, vRM_run, cRM_run, cRM2_run, cRM3_run, cRM4_run, vMut_run, cMut_run, cMut2_run, cMut3_run, cMut4_run, cMut5_run, isL_run, isS_run, vSl_run, cSl_run, cSl2_run, cSl3_run, cSl4_run, voNone_run, voSome_run, cVo_run, ixO_run, vIxP_run, cIxP_run, cIxP2_run, cIxP3_run, vLstRg_run, cLstRg_run, cLstRg2_run, vNext_run, vBreak_run, vCont_run, vSeq_run, vDrop_run, cDrop_run, vRet_run, cRet_run, cRet2_run, vRetN_run, vIf_run, cIf_t, cIf_f, vgN_run, vgNil_run, vgCons_run, cG_run, vgTup_run, vAsg_run, cAsg_run, cAsg2_run, vPar_run, cPar_run, cPar2_run, vAug_run, cAug_run, cAug2_run, cAug3_run, vFor_run, cFor_run, vLc_run, cLc_run, vYes_run, optLst_run, viSlot_run, cSlot_run, cSlot2_run, viVal_run, cVal_run, optTup_run, viTup_run, cTupI_run, cTupI2_run, viR1_run, cR1_run, cR1b_run, viR2_run, cR2_run, cR2b_run, viRD_run, cRD_run, cRDb_run, optStr_run, viStr_run, cStrI_run, cStrI2_run, setO_run, vSetI_run, cSetI_run, cSetI2_run, cSetI3_run, cSetI4_run, cSetI5_run, fldO_run, cF2_run, vFld_run, cFld_run, cFld2_run, objO_run, vSetF_run, cSetF_run, cSetF2_run, cSetF3_run, args_nil, args_f, args_t, cArgs_run, cArgs2_run, back_t, back_tn, back_f, back_nil, back_nil', vCall_run, cCall_run, cCall2_run, cBack_run, objM_run, vMeth_run, cMeth_run, cMeth2_run, vMake_run, cMake_run, cMake2_run, cMake3_run, optI1_run, vChain_run, cCh_run, cCh2_run, chO_run, cCh3_t, cCh3_f, cCh4_run, cCh5_run, augO_run, cAugO_run, cAugO2_run, vAugF_run, cAugF_run, cAugF2_run, cAugF3_run, snocI, snocS, setI, dropI, revI, cWh_t, cWh_f, cLc1_run, cLc2_t, cLc2_f, cLc3_run, cLc4_run, cMap_run, opt_map, atI_map, fIdx_l, fIdx_t, cSgn_run, fIdx_s, fPop_run, cPop_run, fPopAt_run, cPopAt_run, cPopAt2_run, eraseI, fInt_s, cIntS_run, cIsi2_run, fIsi_run, cIsi_run, fIsiT_run, cIsiT_run, cIsiT2_run, fJoin_run, cJoin_run, kb_NoneType_tuple, kb_NoneType_list, kb_NoneType_bool, kb_NoneType_int, kb_NoneType_str, kb_NoneType_dict, kb_bool_tuple, kb_bool_list, kb_bool_bool, kb_bool_int, kb_bool_str, kb_bool_dict, kb_int_tuple, kb_int_list, kb_int_bool, kb_int_int, kb_int_str, kb_int_dict, kb_str_tuple, kb_str_list, kb_str_bool, kb_str_int, kb_str_str, kb_str_dict, kb_list_tuple, kb_list_list, kb_list_bool, kb_list_int, kb_list_str, kb_list_dict, kb_tuple_tuple, kb_tuple_list, kb_tuple_bool, kb_tuple_int, kb_tuple_str, kb_tuple_dict, kb_dict_tuple, kb_dict_list, kb_dict_bool, kb_dict_int, kb_dict_str, kb_dict_dict, kN_nil, kN_cons, orK_t, orK_f, fn_false, fAdd.eq_1, fAdd.eq_2, fAdd.eq_3, fAdd.eq_4, fI2.eq_1, fI20.eq_1, fEq.eq_1, fEq.eq_2, fEq.eq_3, fNe.eq_1, fNe.eq_2, fNe.eq_3, fSl.eq_1, fSl.eq_2, fSl.eq_3, fSl.eq_4, fLen.eq_1, fLen.eq_2, fLen.eq_3, fInt.eq_1, fInt.eq_2, fStr.eq_1, fStr.eq_2, fList.eq_1, fList.eq_2, fTuple.eq_1, fTuple.eq_2, fNeg.eq_1, fAppend.eq_1, fReverse.eq_1, fClear.eq_1, fExtend.eq_1, List.getElem?_map, Option.map_some, Option.map_none, D.isM, D.im, D.ims, D.flat, fIsN, fNotN, D.isNon, D.tyIs, tyNames, putN, putD, wipeE, finP, ims_ints, ims_strs, strs_map, flat_ints, isIn_ints, staysT, CDiv, CPow, CMul, List.getElem?_cons_zero, List.getElem?_cons_succ, List.getElem?_nil, List.set_cons_zero, List.set_cons_succ, List.map_cons, List.map_nil, List.replicate, List.cons_append, List.nil_append, List.append_nil, List.length_cons, List.length_nil, List.length_map, List.all_cons, List.all_nil, List.contains_cons, List.contains_nil, List.elem_cons, List.elem_nil, List.append_eq, List.length_append, true_and, and_true, false_and, and_false, not_true_eq_false, not_false_eq_true, ne_eq, reduceCtorEq, Bool.false_eq_true, false_implies, true_implies, implies_true, forall_const, imp_self, decide_true, decide_false, decide_eq_true_eq, Bool.not_true, Bool.not_false, Bool.or_false, Bool.and_true, Bool.true_and, Bool.false_and, if_true, if_false, ite_true, ite_false, true_or, or_true, false_or, or_false, Nat.add_zero, Nat.zero_add, Nat.reduceAdd, Nat.reduceSub, Nat.reduceEqDiff, beq_self_eq_true, BEq.rfl, Int.zero_add, Nat.reduceBEq, Nat.reduceLeDiff, Nat.reduceLT, Int.reduceLT, Int.reduceLE, Int.reduceToNat, Int.reduceNeg, Option.some.injEq, atI_c0, atI_c1, atI_c2, atI_c3, atI_c4, S_cps, S_len', S_cat', signs_S, fInG_s1, fInG_s0, fInG_l, fInG_t, S_eq1, S_eq2, itx_S, jn0, jn0_len, Int.toNat_natCast, sn_get, sn_get1, sn_ix, sn_set, sn_drop, fx_Line_0_tokens, fx_Line_0_taken, fx_Line_1_tokens, fx_Line_1_taken, fx_Line_2_tokens, fx_Line_2_taken, ne_taken_tokens, ne_tokens_taken, cs_0, cs_1, cs_2, cs_3, cs_4, cs_5, cs_6, cs_7, cs_8, cs_9, cs_10, cs_11, cs_12, cs_13, cs_14])
local macro_rules | `(tactic| walk_at "c") => `(tactic| repeat (refine And.intro (by first | omega | rfl | assumption | decide | decide +kernel) ?_))
local macro_rules | `(tactic| walk_at "vc") => `(tactic| ((try walk_at "v"); walk_at "c"))
section
variable {P : Program} {w : World} {K : PySem.W.Frag} {mg : Str → Option Value} {base : Heap}

def vf__law_spaced : VF := fun ds R => ∃ (xs : List Int) (l : List Nat), ds = [.lst (xs.map D.int), .str (S l)] ∧ l.length ≤ 100000 ∧ ∀ (ys : List Int) (l' : List Nat), Lo l l' → l'.length ≤ 4 * l.length → R (.str (S l')) [some (.lst (ys.map D.int)), some (.str (S l))]
theorem ok__law_spaced (T : Facts K mg) : FnOk P w K mg base CX0 3 T.f__law_spaced T.fd__law_spaced ["draws", "text"] (spV K 2 (vf__law_spaced)) := by
  refine okV T.F__law_spaced sc__law_spaced _ fun cdv A outer s H E hr => ⟨_, (vss_cons (vs_set (i := 2) (fun h => ps_set sc__law_spaced.nd rfl (.inl rfl) h) (ve_lst va_nil))
      (vss_cons (vs_for (fun hi hg hb => ps_for PassesOwn.never rfl hi hg hb) (vi_str (fun h => pi_str h) (ve_var (pv 1))) (vg_name (pg_name (i := 3) sc__law_spaced.nd rfl (.inl rfl))) (vss_one (vs_if (vt_bin (fun h g => pt_cmpR or_in h g (by rfl)) o2_in (ve_var (pv 3)) ve_str) (vss_one (vs_expr (ve_mut (fun ho h => pe_bm PySem.F.plainAttrs_list PySem.F.slot_list_append PySem.F.type_list_append mt_append ho h) ty_l mu_append (ve_var (pv 2)) (va_cons (ve_bin (fun h g => pe_op or_add h g) o2_add (ve_bin (fun h g => pe_op or_add h g) o2_add (ve_call [true, false] (fun h => pe_call (ok__law_pick T) (hr.mono (by omega)) (by rfl) T.g__law_pick T.F__law_pick.kp T.b__law_pick .nil pass0 h) (va_cons (ve_var (pv 0)) (va_cons (ve_lst (va_cons ve_str (va_cons ve_str (va_cons ve_str (va_cons ve_str (va_cons ve_str va_nil)))))) va_nil))) (ve_var (pv 3))) (ve_call [true, false] (fun h => pe_call (ok__law_pick T) (hr.mono (by omega)) (by rfl) T.g__law_pick T.F__law_pick.kp T.b__law_pick .nil pass0 h) (va_cons (ve_var (pv 0)) (va_cons (ve_lst (va_cons ve_str (va_cons ve_str (va_cons ve_str va_nil)))) va_nil)))) va_nil)))) (vss_one (vs_if (vt_bin (fun h g => pt_cmpR (or_ne hr.units) h g (nomark _)) o2_ne (ve_var (pv 3)) ve_str) (vss_one (vs_expr (ve_mut (fun ho h => pe_bm PySem.F.plainAttrs_list PySem.F.slot_list_append PySem.F.type_list_append mt_append ho h) ty_l mu_append (ve_var (pv 2)) (va_cons (ve_var (pv 3)) va_nil)))) vss_nil)))))
      (vss_one (vs_ret (ve_rm (fun ho h => pe_bm PySem.F.plainAttrs_str PySem.F.slot_str_join PySem.F.type_str_join mt_join ho h) ty_s om_join ve_str (va_cons (ve_var (pv 2)) va_nil)))))), ?_⟩
  intro ds R _hl hv
  obtain ⟨xs, l, rfl, hl, k⟩ := hv
  walk_at "v"
  refine forL_m (fun i e => ∃ (ys : List Int) (ps : List (List Nat)) (c : Option D), e = [some (.lst (ys.map D.int)), some (.str (S l)), some (.lst ((ps.map S).map D.str)), c] ∧ ps.length ≤ i ∧ Lo (l.take i) ps.flatten ∧ ps.flatten.length ≤ 4 * i) ⟨xs, [], none, rfl, Nat.le_refl _, .nil, Nat.le_refl _⟩ (fun _ _ _ => True.intro) ?_ ?_
  · rintro i c e hc ⟨ys, ps, c0, rfl, hpl, hlo, hfl⟩
    have hil := lt_of_get hc
    walk_at "v"
    refine cIf_d (fun h => ?_) fun h => ?_
    · walk_at "v"
      refine ⟨ys, _, rfl, by simp, rfl, fun ys2 d hd => ?_⟩
      obtain ⟨a, ha, rfl⟩ := sp5 hd
      walk_at "v"
      refine ⟨by simp; omega, ?_⟩
      walk_at "vc"
      refine ⟨ys2, _, rfl, by simp, rfl, fun ys3 d hd => ?_⟩
      obtain ⟨b, hb, rfl⟩ := sp3 hd
      walk_at "v"
      refine ⟨by simp; omega, by omega, ys3, ps ++ [List.replicate a 32 ++ [c] ++ List.replicate b 32], _, by simp only [List.map_append]; rfl, by simp; omega, ?_, ?_⟩
      · rw [take_succ hc, flat_len]
        refine Lo.app hlo ?_
        have hc3 : c = 40 ∨ c = 41 ∨ c = 44 := by
          simp at h
          omega
        have := Lo.sign a b hc3 Lo.nil
        simpa using this
      · rw [flat_len]
        simp only [List.length_append, List.length_replicate, List.length_cons, List.length_nil]
        omega
    · walk_at "v"
      refine cIf_i (fun h2 => ?_) fun h2 => ?_
      · walk_at "vc"
        have hc32 : ¬ c = 32 := by simpa using h2
        simp at h
        refine ⟨ys, ps ++ [[c]], _, by simp only [List.map_append]; rfl, by simp; omega, ?_, by rw [flat_len]; simp only [List.length_append, List.length_cons, List.length_nil]; omega⟩
        rw [take_succ hc, flat_len]
        exact Lo.app hlo (Lo.other (by omega) (by omega) (by omega) hc32 .nil)
      · walk_at "vc"
        have hc32 : c = 32 := by simpa using h2
        subst hc32
        refine ⟨ys, ps, _, rfl, by omega, ?_, by omega⟩
        rw [take_succ hc]
        have := Lo.app hlo (Lo.sp 0 Lo.nil)
        simpa using this
  · rintro e ⟨ys, ps, c0, rfl, hpl, hlo, hfl⟩
    walk_at "v"
    rw [List.take_length] at hlo
    exact ⟨by omega, k ys _ hlo (by omega)⟩
end
end L2.VL.K73
set_option Elab.async false
set_option linter.all false
set_option maxRecDepth 100000
namespace L2.VL.K73
open PySem PySem.Spec PyProof.Rows
local macro_rules | `(tactic| walk_at "v") => `(tactic| simp only [opt_some, optS_some, optB_some, optI_some, mv_val, mv_plc, mvl_nil, mvl_cons, cMvl_run, getl_nil, getl_cons, cGetl_run, cKons_run, cIm_run, look_run, lookO_run, put_run, putO_run, get_val, get_plc, dlook_nil, dlook_lst, dlook_obj, kidO_run, dput_nil, dput_lst, dput_obj, kidP_run, cR_run, app1_some, app2_some, deep_val, deep_nil, deep_cons, vVar_run, cVar_run, vC_run, vMv_run', cMv'_run, vBin_run, cBin_run, cBin2_run, vTest_run, cTest_run, vUn_run, cUn_run, vAnd_run, cAnd_t, cAnd_f, vOr_run, cOr_t, cOr_f, vNot_run, cNot_run, vAndV_run, cAndV_run, cAndV2_t, cAndV2_f, vOrV_run, cOrV_run, cOrV2_t, cOrV2_f, vNotV_run, cNotV_run, cNotV2_run, vIfE_run, cIfE_t, cIfE_f, vNil_run, vCons_run, cCons_run, cCons2_run, vTup_run, cTup_run, cTup2_run, vLst_run, cLst_run, cLst2_run, vFun_run, cFun_run, cFun2_run, vRM_run, cRM_run, cRM2_run, cRM3_run, cRM4_run, vMut_run, cMut_run, cMut2_run, cMut3_run, cMut4_run, cMut5_run, isL_run, isS_run, vSl_run, cSl_run, cSl2_run, cSl3_run, cSl4_run, voNone_run, voSome_run, cVo_run, ixO_run, vIxP_run, cIxP_run, cIxP2_run, cIxP3_run, vLstRg_run, cLstRg_run, cLstRg2_run, vNext_run, vBreak_run, vCont_run, vSeq_run, vDrop_run, cDrop_run, vRet_run, cRet_run, cRet2_run, vRetN_run, vIf_run, cIf_t, cIf_f, vgN_run, vgNil_run, vgCons_run, cG_run, vgTup_run, vAsg_run, cAsg_run, cAsg2_run, vPar_run, cPar_run, cPar2_run, vAug_run, cAug_run, cAug2_run, cAug3_run, vFor_run, cFor_run, vLc_run, cLc_run, vYes_run, optLst_run, viSlot_run, cSlot_run, cSlot2_run, viVal_run, cVal_run, optTup_run, viTup_run, cTupI_run, cTupI2_run, viR1_run, cR1_run, cR1b_run, viR2_run, cR2_run, cR2b_run, viRD_run, cRD_run, cRDb_run, optStr_run, viStr_run, cStrI_run, cStrI2_run, setO_run, vSetI_run, cSetI_run, cSetI2_run, cSetI3_run, cSetI4_run, cSetI5_run, fldO_run, cF2_run, vFld_run, cFld_run, cFld2_run, objO_run, vSetF_run, cSetF_run, cSetF2_run, cSetF3_run, args_nil, args_f, args_t, cArgs_run, cArgs2_run, back_t, back_tn, back_f, back_nil, back_nil', vCall_run, cCall_run, cCall2_run, cBack_run, objM_run, vMeth_run, cMeth_run, cMeth2_run, vMake_run, cMake_run, cMake2_run, cMake3_run, optI1_run, vChain_run, cCh_run, cCh2_run, chO_run, cCh3_t, cCh3_f, cCh4_run, cCh5_run, augO_run, cAugO_run, cAugO2_run, vAugF_run, cAugF_run, cAugF2_run, cAugF3_run, snocI, snocS, setI, dropI, revI, cWh_t, cWh_f, cLc1_run, cLc2_t, cLc2_f, cLc3_run, cLc4_run, cMap_run, opt_map, atI_map, fIdx_l, fIdx_t, cSgn_run, fIdx_s, fPop_run, cPop_run, fPopAt_run, cPopAt_run, cPopAt2_run, eraseI, fInt_s, cIntS_run, cIsi2_run, fIsi_run, cIsi_run, fIsiT_run, cIsiT_run, cIsiT2_run, fJoin_run, cJoin_run, kb_NoneType_tuple, kb_NoneType_list, kb_NoneType_bool, kb_NoneType_int, kb_NoneType_str, kb_NoneType_dict, kb_bool_tuple, kb_bool_list, kb_bool_bool, kb_bool_int, kb_bool_str, kb_bool_dict, kb_int_tuple, kb_int_list, kb_int_bool, kb_int_int, kb_int_str, kb_int_dict, kb_str_tuple, kb_str_list, kb_str_bool, kb_str_int, kb_str_str, kb_str_dict, kb_list_tuple, kb_list_list, kb_list_bool, kb_list_int, kb_list_str, kb_list_dict, kb_tuple_tuple, kb_tuple_list, kb_tuple_bool, kb_tuple_int, kb_tuple_str, kb_tuple_dict, kb_dict_tuple, kb_dict_list, kb_dict_bool, kb_dict_int, kb_dict_str, kb_dict_dict, kN_nil, kN_cons, orK_t, orK_f, fn_false, fAdd.eq_1, fAdd.eq_2, fAdd.eq_3, fAdd.eq_4, fI2.eq_1, fI20.eq_1, fEq.eq_1, fEq.eq_2, fEq.eq_3, fNe.eq_1, fNe.eq_2, fNe.eq_3, fSl.eq_1, fSl.eq_2, fSl.eq_3, fSl.eq_4, fLen.eq_1, fLen.eq_2, fLen.eq_3, fInt.eq_1, fInt.eq_2, fStr.eq_1, fStr.eq_2, fList.eq_1, fList.eq_2, fTuple.eq_1, fTuple.eq_2, fNeg.eq_1, fAppend.eq_1, fReverse.eq_1, fClear.eq_1, fExtend.eq_1, List.getElem?_map, Option.map_some, Option.map_none, D.isM, D.im, D.ims, D.flat, fIsN, fNotN, D.isNon, D.tyIs, tyNames, putN, putD, wipeE, finP, ims_ints, ims_strs, strs_map, flat_ints, isIn_ints, staysT, CDiv, CPow, CMul, List.getElem?_cons_zero, List.getElem?_cons_succ, List.getElem?_nil, List.set_cons_zero, List.set_cons_succ, List.map_cons, List.map_nil, List.replicate, List.cons_append, List.nil_append, List.append_nil, List.length_cons, List.length_nil, List.length_map, List.all_cons, List.all_nil, List.contains_cons, List.contains_nil, List.elem_cons, List.elem_nil, List.append_eq, List.length_append, true_and, and_true, false_and, and_false, not_true_eq_false, not_false_eq_true, ne_eq, reduceCtorEq, Bool.false_eq_true, false_implies, true_implies, implies_true, forall_const, imp_self, decide_true, decide_false, decide_eq_true_eq, Bool.not_true, Bool.not_false, Bool.or_false, Bool.and_true, Bool.true_and, Bool.false_and, if_true, if_false, ite_true, ite_false, true_or, or_true, false_or, or_false, Nat.add_zero, Nat.zero_add, Nat.reduceAdd, Nat.reduceSub, Nat.reduceEqDiff, beq_self_eq_true, BEq.rfl, Int.zero_add, Nat.reduceBEq, Nat.reduceLeDiff, Nat.reduceLT, Int.reduceLT, Int.reduceLE, Int.reduceToNat, Int.reduceNeg, Option.some.injEq, atI_c0, atI_c1, atI_c2, atI_c3, atI_c4, S_cps, S_len', S_cat', signs_S, fInG_s1, fInG_s0, fInG_l, fInG_t, S_eq1, S_eq2, itx_S, jn0, jn0_len, Int.toNat_natCast, sn_get, sn_get1, sn_ix, sn_set, sn_drop, fx_Line_0_tokens, fx_Line_0_taken, fx_Line_1_tokens, fx_Line_1_taken, fx_Line_2_tokens, fx_Line_2_taken, ne_taken_tokens, ne_tokens_taken, cs_0, cs_1, cs_2, cs_3, cs_4, cs_5, cs_6, cs_7, cs_8, cs_9, cs_10, cs_11, cs_12, cs_13, cs_14])
local macro_rules | `(tactic| walk_at "c") => `(tactic| repeat (refine And.intro (by first | omega | rfl | assumption | decide | decide +kernel) ?_))
local macro_rules | `(tactic| walk_at "vc") => `(tactic| ((try walk_at "v"); walk_at "c"))
section
variable {P : Program} {w : World} {K : PySem.W.Frag} {mg : Str → Option Value} {base : Heap}

def vf__law_leaf : VF := fun ds R => ∃ (xs : List Int) (g : Bool), ds = [.lst (xs.map D.int), .bl g] ∧ ∀ (ys : List Int) (d : D), isTr d = true → tdp d ≤ 1 → (tx d).length ≤ 25 → R d [some (.lst (ys.map D.int)), some (.bl g)]
theorem ok__law_leaf (T : Facts K mg) : FnOk P w K mg base CX0 3 T.f__law_leaf T.fd__law_leaf ["draws", "great"] (spV K 2 (vf__law_leaf)) := by
  refine okV T.F__law_leaf sc__law_leaf _ fun cdv A outer s H E hr => ⟨_, (vss_cons (vs_set (i := 2) (fun h => ps_set sc__law_leaf.nd rfl (.inl rfl) h) (ve_call [true, false] (fun h => pe_call (ok__law_take T) (hr.mono (by omega)) (by rfl) T.g__law_take T.F__law_take.kp T.b__law_take .nil pass0 h) (va_cons (ve_var (pv 0)) (va_cons ve_int va_nil))))
      (vss_cons (vs_if (vt_bin (fun h g => pt_cmpR (or_eq hr.units) h g (nomark _)) o2_eq (ve_var (pv 2)) ve_int) (vss_one (vs_ret (ve_tup va_nil))) vss_nil)
      (vss_cons (vs_if (vt_bin (fun h g => pt_cmpR op_lt h g (nomark _)) o2_bl0 (ve_var (pv 2)) ve_int) (vss_cons (vs_set (i := 3) (fun h => ps_set sc__law_leaf.nd rfl (.inl rfl) h) (ve_bin (fun h g => pe_op or_add h g) o2_add ve_int (ve_call [true, false] (fun h => pe_call (ok__law_take T) (hr.mono (by omega)) (by rfl) T.g__law_take T.F__law_take.kp T.b__law_take .nil pass0 h) (va_cons (ve_var (pv 0)) (va_cons ve_int va_nil)))))
      (vss_one (vs_ret (ve_rm (fun ho h => pe_bm PySem.F.plainAttrs_str PySem.F.slot_str_join PySem.F.type_str_join mt_join ho h) ty_s om_join ve_str (va_cons (ve_lc (own := [("k", 5)]) rfl sc__law_leaf.nd (vi_range1 (fun h => pi_range1 (by rfl) T.z_range h) (va_cons (ve_var (pv 3)) va_nil)) (blkOk_by (own := [("k", 5)]) (N := ["draws", "great", "pick", "size", "number", "k"]) (sc := defScope s__law_leaf) (by decide +kernel)) (fun _ _ _ _ _ => (vg_name (pg_name (i := 5) sc__law_leaf.nd rfl (.inl rfl)))) (fun _ _ _ _ _ => vts_nil) (fun _ _ _ _ _ => (ve_bin (fun h g => pe_ix ix_seq h g (fun _ _ => rfl)) o2_idx ve_str (ve_call [true, false] (fun h => pe_call (ok__law_take T) (hr.mono (by omega)) (by rfl) T.g__law_take T.F__law_take.kp T.b__law_take .nil pass0 h) (va_cons (ve_var (pv 0)) (va_cons ve_int va_nil)))))) va_nil))))) vss_nil)
      (vss_cons (vs_set (i := 4) (fun h => ps_set sc__law_leaf.nd rfl (.inl rfl) h) (ve_call [true, false] (fun h => pe_call (ok__law_pick T) (hr.mono (by omega)) (by rfl) T.g__law_pick T.F__law_pick.kp T.b__law_pick .nil pass0 h) (va_cons (ve_var (pv 0)) (va_cons (ve_lst (va_cons ve_int (va_cons (ve_call [true, false] (fun h => pe_call (ok__law_take T) (hr.mono (by omega)) (by rfl) T.g__law_take T.F__law_take.kp T.b__law_take .nil pass0 h) (va_cons (ve_var (pv 0)) (va_cons ve_int va_nil))) (va_cons (ve_call [true, false] (fun h => pe_call (ok__law_take T) (hr.mono (by omega)) (by rfl) T.g__law_take T.F__law_take.kp T.b__law_take .nil pass0 h) (va_cons (ve_var (pv 0)) (va_cons ve_int va_nil))) (va_cons ve_int (va_cons (ve_bin (fun h g => pe_op or_add h g) o2_add (ve_bin (fun h g => pe_op op_pow h g) o2_int ve_int ve_int) (ve_call [true, false] (fun h => pe_call (ok__law_take T) (hr.mono (by omega)) (by rfl) T.g__law_take T.F__law_take.kp T.b__law_take .nil pass0 h) (va_cons (ve_var (pv 0)) (va_cons ve_int va_nil)))) va_nil)))))) va_nil))))
      (vss_cons (vs_if (VW.vt (vw_and (vt_val (ve_var (pv 1))) (vw_and1 (vt_bin (fun h g => pt_cmpR (or_eq hr.units) h g (nomark _)) o2_eq (ve_call [true, false] (fun h => pe_call (ok__law_take T) (hr.mono (by omega)) (by rfl) T.g__law_take T.F__law_take.kp T.b__law_take .nil pass0 h) (va_cons (ve_var (pv 0)) (va_cons ve_int va_nil))) ve_int)))) (vss_one (vs_set (i := 4) (fun h => ps_set sc__law_leaf.nd rfl (.inl rfl) h) (ve_bin (fun h g => pe_op or_add h g) o2_add (ve_bin (fun h g => pe_op op_pow h g) o2_int ve_int ve_int) (ve_call [true, false] (fun h => pe_call (ok__law_take T) (hr.mono (by omega)) (by rfl) T.g__law_take T.F__law_take.kp T.b__law_take .nil pass0 h) (va_cons (ve_var (pv 0)) (va_cons ve_int va_nil)))))) vss_nil)
      (vss_one (vs_ret (ve_bin (fun h g => pe_op op_mul h g) o2_int (ve_var (pv 4)) (ve_call [true, false] (fun h => pe_call (ok__law_pick T) (hr.mono (by omega)) (by rfl) T.g__law_pick T.F__law_pick.kp T.b__law_pick .nil pass0 h) (va_cons (ve_var (pv 0)) (va_cons (ve_lst (va_cons ve_int (va_cons ve_int (va_cons (ve_un (fun h => pe_un un_neg h) o1_neg ve_int) va_nil)))) va_nil))))))))))), ?_⟩
  intro ds R _hl hv
  obtain ⟨xs, g, rfl, k⟩ := hv
  walk_at "v"
  refine ⟨xs, 7, rfl, by decide, fun ys p p0 p1 => ?_⟩
  walk_at "v"
  refine cIf_d (fun h => ?_) fun h => ?_
  · walk_at "vc"
    exact k ys (.tup []) rfl (by simp [tdp, tdps]) (by decide)
  walk_at "v"
  refine cIf_d (fun h => ?_) fun h => ?_
  · walk_at "vc"
    refine ⟨ys, 9, rfl, by decide, fun ys q q0 q1 => ?_⟩
    walk_at "vc"
    refine lcL_i (fun i acc e => ∃ (ys : List Int) (w : List Nat), acc = ((w.map fun c => [c]).map S).map D.str ∧ e = [some (.lst (ys.map D.int)), some (.bl g), some (.int p), some (.int (1 + q)), none, none] ∧ w.length = i ∧ ∀ c ∈ w, isAl c = true) ⟨ys, [], rfl, rfl, rfl, by simp⟩ (fun _ _ _ _ => True.intro) ?_ ?_
    · rintro i x acc e hx ⟨ys, w, rfl, rfl, hwl, hw⟩
      obtain ⟨hi, rfl⟩ := rangeD_get hx
      walk_at "vc"
      refine ⟨ys, 26, rfl, by decide, fun ys r r0 r1 => ?_⟩
      obtain ⟨c, hc, _, hm⟩ := atI_ex (xs := abc) r0 r1
      walk_at "vc"
      rw [hc]
      walk_at "vc"
      refine ⟨ys, w ++ [c], by simp, rfl, by simp [hwl], fun x hx => ?_⟩
      rcases List.mem_append.mp hx with hx | hx
      · exact hw x hx
      · simp at hx
        subst hx
        exact abc_al hm
    · rintro acc e ⟨ys, w, rfl, rfl, hwl, hw⟩
      rw [rangeD_len] at hwl
      walk_at "v"
      rw [ones_flat]
      have hl := leaf_word (w := w) (by rintro rfl; simp at hwl; omega) (by omega) hw
      refine ⟨by omega, k ys _ hl.1 hl.2.1 hl.2.2⟩
  walk_at "v"
  refine ⟨ys, 10, rfl, by decide, fun ys q q0 q1 => ?_⟩
  walk_at "vc"
  refine ⟨ys, 1000, rfl, by decide, fun ys r r0 r1 => ?_⟩
  walk_at "vc"
  refine ⟨ys, 997, rfl, by decide, fun ys t t0 t1 => ?_⟩
  walk_at "vc"
  refine ⟨ys, _, rfl, by simp, rfl, fun ys d hd => ?_⟩
  obtain ⟨m, rfl, m0, m1⟩ : ∃ m : Int, d = .int m ∧ 0 ≤ m ∧ m < 10 ^ 20 + 997 := by
    simp only [List.mem_cons, List.not_mem_nil, or_false] at hd
    rcases hd with rfl | rfl | rfl | rfl | rfl
    · exact ⟨_, rfl, by omega, by omega⟩
    · exact ⟨_, rfl, by omega, by omega⟩
    · exact ⟨_, rfl, by omega, by omega⟩
    · exact ⟨_, rfl, by omega, by omega⟩
    · exact ⟨_, rfl, by omega, by omega⟩
  walk_at "vc"
  have fin : ∀ (ys : List Int) (m v : Int), 0 ≤ m → m < 10 ^ 20 + 997 → (v = 1 ∨ v = -1) → R (.int (m * v)) [some (.lst (ys.map D.int)), some (.bl g)] := fun ys m v h0 h1 hv => by
    have hb : (m * v).natAbs < 10 ^ 21 := by
      rcases hv with rfl | rfl <;> omega
    obtain ⟨a1, a2, a3⟩ := leaf_int hb
    exact k ys _ a1 a2 a3
  have pm : ∀ {d : D}, d ∈ [D.int 1, D.int 1, D.int (-1)] → ∃ v : Int, d = .int v ∧ (v = 1 ∨ v = -1) := fun {d} hd => by
    simp only [List.mem_cons, List.not_mem_nil, or_false] at hd
    rcases hd with rfl | rfl | rfl
    · exact ⟨_, rfl, .inl rfl⟩
    · exact ⟨_, rfl, .inl rfl⟩
    · exact ⟨_, rfl, .inr rfl⟩
  refine cAnd_i (fun hg => ?_) fun hg => ?_
  · walk_at "vc"
    refine ⟨ys, 3, rfl, by decide, fun ys u u0 u1 => ?_⟩
    walk_at "vc"
    refine cIf_d (fun h => ?_) fun h => ?_
    · walk_at "vc"
      refine ⟨ys, 997, rfl, by decide, fun ys t t0 t1 => ?_⟩
      walk_at "vc"
      refine ⟨ys, _, rfl, by simp, rfl, fun ys d hd => ?_⟩
      obtain ⟨v, rfl, hv⟩ := pm hd
      walk_at "vc"
      exact fin ys _ v (by omega) (by omega) hv
    · walk_at "vc"
      refine ⟨ys, _, rfl, by simp, rfl, fun ys d hd => ?_⟩
      obtain ⟨v, rfl, hv⟩ := pm hd
      walk_at "vc"
      exact fin ys _ v m0 m1 hv
  · walk_at "vc"
    refine ⟨ys, _, rfl, by simp, rfl, fun ys d hd => ?_⟩
    obtain ⟨v, rfl, hv⟩ := pm hd
    walk_at "vc"
    exact fin ys _ v m0 m1 hv
end
end L2.VL.K73
set_option Elab.async false
set_option linter.all false
set_option maxRecDepth 100000
namespace L2.VL.K73
open PySem PySem.Spec PyProof.Rows
local macro_rules | `(tactic| walk_at "v") => `(tactic| simp only [opt_some, optS_some, optB_some, optI_some, mv_val, mv_plc, mvl_nil, mvl_cons, cMvl_run, getl_nil, getl_cons, cGetl_run, cKons_run, cIm_run, look_run, lookO_run, put_run, putO_run, get_val, get_plc, dlook_nil, dlook_lst, dlook_obj, kidO_run, dput_nil, dput_lst, dput_obj, kidP_run, cR_run, app1_some, app2_some, deep_val, deep_nil, deep_cons, vVar_run, cVar_run, vC_run, vMv_run', cMv'_run, vBin_run, cBin_run, cBin2_run, vTest_run, cTest_run, vUn_run, cUn_run, vAnd_run, cAnd_t, cAnd_f, vOr_run, cOr_t, cOr_f, vNot_run, cNot_run, vAndV_run, cAndV_run, cAndV2_t, cAndV2_f, vOrV_run, cOrV_run, cOrV2_t, cOrV2_f, vNotV_run, cNotV_run, cNotV2_run, vIfE_run, cIfE_t, cIfE_f, vNil_run, vCons_run, cCons_run, cCons2_run, vTup_run, cTup_run, cTup2_run, vLst_run, cLst_run, cLst2_run, vFun_run, cFun_run, cFun2_run, vRM_run, cRM_run, cRM2_run, cRM3_run, cRM4_run, vMut_run, cMut_run, cMut2_run, cMut3_run, cMut4_run, cMut5_run, isL_run, isS_run, vSl_run, cSl_run, cSl2_run, cSl3_run, cSl4_run, voNone_run, voSome_run, cVo_run, ixO_run, vIxP_run, cIxP_run, cIxP2_run, cIxP3_run, vLstRg_run, cLstRg_run, cLstRg2_run, vNext_run, vBreak_run, vCont_run, vSeq_run, vDrop_run, cDrop_run, vRet_run, cRet_run, cRet2_run, vRetN_run, vIf_run, cIf_t, cIf_f, vgN_run, vgNil_run, vgCons_run, cG_run, vgTup_run, vAsg_run, cAsg_run, cAsg2_run, vPar_run, cPar_run, cPar2_run, vAug_run, cAug_run, cAug2_run, cAug3_run, vFor_run, cFor_run, vLc_run, cLc_run, vYes_run, optLst_run, viSlot_run, cSlot_run, cSlot2_run, viVal_run, cVal_run, optTup_run, viTup_run, cTupI_run, cTupI2_run, viR1_run, cR1_run, cR1b_run, viR2_run, cR2_run, cR2b_run, viRD_run, cRD_run, cRDb_run, optStr_run, viStr_run, cStrI_run, cStrI2_run, setO_run, vSetI_run, cSetI_run, cSetI2_run, cSetI3_run, cSetI4_run, cSetI5_run, fldO_run, cF2_run, vFld_run, cFld_run, cFld2_run, objO_run, vSetF_run, cSetF_run, cSetF2_run, cSetF3_run, args_nil, args_f, args_t, cArgs_run, cArgs2_run, back_t, back_tn, back_f, back_nil, back_nil', vCall_run, cCall_run, cCall2_run, cBack_run, objM_run, vMeth_run, cMeth_run, cMeth2_run, vMake_run, cMake_run, cMake2_run, cMake3_run, optI1_run, vChain_run, cCh_run, cCh2_run, chO_run, cCh3_t, cCh3_f, cCh4_run, cCh5_run, augO_run, cAugO_run, cAugO2_run, vAugF_run, cAugF_run, cAugF2_run, cAugF3_run, snocI, snocS, setI, dropI, revI, cWh_t, cWh_f, cLc1_run, cLc2_t, cLc2_f, cLc3_run, cLc4_run, cMap_run, opt_map, atI_map, fIdx_l, fIdx_t, cSgn_run, fIdx_s, fPop_run, cPop_run, fPopAt_run, cPopAt_run, cPopAt2_run, eraseI, fInt_s, cIntS_run, cIsi2_run, fIsi_run, cIsi_run, fIsiT_run, cIsiT_run, cIsiT2_run, fJoin_run, cJoin_run, kb_NoneType_tuple, kb_NoneType_list, kb_NoneType_bool, kb_NoneType_int, kb_NoneType_str, kb_NoneType_dict, kb_bool_tuple, kb_bool_list, kb_bool_bool, kb_bool_int, kb_bool_str, kb_bool_dict, kb_int_tuple, kb_int_list, kb_int_bool, kb_int_int, kb_int_str, kb_int_dict, kb_str_tuple, kb_str_list, kb_str_bool, kb_str_int, kb_str_str, kb_str_dict, kb_list_tuple, kb_list_list, kb_list_bool, kb_list_int, kb_list_str, kb_list_dict, kb_tuple_tuple, kb_tuple_list, kb_tuple_bool, kb_tuple_int, kb_tuple_str, kb_tuple_dict, kb_dict_tuple, kb_dict_list, kb_dict_bool, kb_dict_int, kb_dict_str, kb_dict_dict, kN_nil, kN_cons, orK_t, orK_f, fn_false, fAdd.eq_1, fAdd.eq_2, fAdd.eq_3, fAdd.eq_4, fI2.eq_1, fI20.eq_1, fEq.eq_1, fEq.eq_2, fEq.eq_3, fNe.eq_1, fNe.eq_2, fNe.eq_3, fSl.eq_1, fSl.eq_2, fSl.eq_3, fSl.eq_4, fLen.eq_1, fLen.eq_2, fLen.eq_3, fInt.eq_1, fInt.eq_2, fStr.eq_1, fStr.eq_2, fList.eq_1, fList.eq_2, fTuple.eq_1, fTuple.eq_2, fNeg.eq_1, fAppend.eq_1, fReverse.eq_1, fClear.eq_1, fExtend.eq_1, List.getElem?_map, Option.map_some, Option.map_none, D.isM, D.im, D.ims, D.flat, fIsN, fNotN, D.isNon, D.tyIs, tyNames, putN, putD, wipeE, finP, ims_ints, ims_strs, strs_map, flat_ints, isIn_ints, staysT, CDiv, CPow, CMul, List.getElem?_cons_zero, List.getElem?_cons_succ, List.getElem?_nil, List.set_cons_zero, List.set_cons_succ, List.map_cons, List.map_nil, List.replicate, List.cons_append, List.nil_append, List.append_nil, List.length_cons, List.length_nil, List.length_map, List.all_cons, List.all_nil, List.contains_cons, List.contains_nil, List.elem_cons, List.elem_nil, List.append_eq, List.length_append, true_and, and_true, false_and, and_false, not_true_eq_false, not_false_eq_true, ne_eq, reduceCtorEq, Bool.false_eq_true, false_implies, true_implies, implies_true, forall_const, imp_self, decide_true, decide_false, decide_eq_true_eq, Bool.not_true, Bool.not_false, Bool.or_false, Bool.and_true, Bool.true_and, Bool.false_and, if_true, if_false, ite_true, ite_false, true_or, or_true, false_or, or_false, Nat.add_zero, Nat.zero_add, Nat.reduceAdd, Nat.reduceSub, Nat.reduceEqDiff, beq_self_eq_true, BEq.rfl, Int.zero_add, Nat.reduceBEq, Nat.reduceLeDiff, Nat.reduceLT, Int.reduceLT, Int.reduceLE, Int.reduceToNat, Int.reduceNeg, Option.some.injEq, atI_c0, atI_c1, atI_c2, atI_c3, atI_c4, S_cps, S_len', S_cat', signs_S, fInG_s1, fInG_s0, fInG_l, fInG_t, S_eq1, S_eq2, itx_S, jn0, jn0_len, Int.toNat_natCast, sn_get, sn_get1, sn_ix, sn_set, sn_drop, fx_Line_0_tokens, fx_Line_0_taken, fx_Line_1_tokens, fx_Line_1_taken, fx_Line_2_tokens, fx_Line_2_taken, ne_taken_tokens, ne_tokens_taken, cs_0, cs_1, cs_2, cs_3, cs_4, cs_5, cs_6, cs_7, cs_8, cs_9, cs_10, cs_11, cs_12, cs_13, cs_14])
local macro_rules | `(tactic| walk_at "c") => `(tactic| repeat (refine And.intro (by first | omega | rfl | assumption | decide | decide +kernel) ?_))
local macro_rules | `(tactic| walk_at "vc") => `(tactic| ((try walk_at "v"); walk_at "c"))
section
variable {P : Program} {w : World} {K : PySem.W.Frag} {mg : Str → Option Value} {base : Heap}

def vf__law_tree : VF := fun ds R => ∃ (xs : List Int) (g : Bool), ds = [.lst (xs.map D.int), .bl g] ∧ ∀ (ys : List Int) (d : D), isTr d = true → tdp d ≤ 20 → (tx d).length ≤ 1000 → R d [some (.lst (ys.map D.int)), some (.bl g)]
theorem ok__law_tree (T : Facts K mg) : FnOk P w K mg base CX0 4 T.f__law_tree T.fd__law_tree ["draws", "great"] (spV K 2 (vf__law_tree)) := by
  refine okV T.F__law_tree sc__law_tree _ fun cdv A outer s H E hr => ⟨_, (vss_cons (vs_set (i := 2) (fun h => ps_set sc__law_tree.nd rfl (.inl rfl) h) (ve_lst (va_cons (ve_call [true, false] (fun h => pe_call (ok__law_leaf T) (hr.mono (by omega)) (by rfl) T.g__law_leaf T.F__law_leaf.kp T.b__law_leaf .nil pass0 h) (va_cons (ve_var (pv 0)) (va_cons (ve_var (pv 1)) va_nil))) va_nil)))
      (vss_cons (vs_for (fun hi hg hb => ps_for PassesOwn.never rfl hi hg hb) (vi_range1 (fun h => pi_range1 (by rfl) T.z_range h) (va_cons (ve_call [true, false] (fun h => pe_call (ok__law_take T) (hr.mono (by omega)) (by rfl) T.g__law_take T.F__law_take.kp T.b__law_take .nil pass0 h) (va_cons (ve_var (pv 0)) (va_cons ve_int va_nil))) va_nil)) (vg_name (pg_name (i := 3) sc__law_tree.nd rfl (.inl rfl))) (vss_cons (vs_expr (ve_mut (fun ho h => pe_bm PySem.F.plainAttrs_list PySem.F.slot_list_append PySem.F.type_list_append mt_append ho h) ty_l mu_append (ve_var (pv 2)) (va_cons (ve_call [true, false] (fun h => pe_call (ok__law_leaf T) (hr.mono (by omega)) (by rfl) T.g__law_leaf T.F__law_leaf.kp T.b__law_leaf .nil pass0 h) (va_cons (ve_var (pv 0)) (va_cons (ve_var (pv 1)) va_nil))) va_nil)))
      (vss_cons (vs_set (i := 4) (fun h => ps_set sc__law_tree.nd rfl (.inl rfl) h) (ve_call [true, false] (fun h => pe_call (ok__law_take T) (hr.mono (by omega)) (by rfl) T.g__law_take T.F__law_take.kp T.b__law_take .nil pass0 h) (va_cons (ve_var (pv 0)) (va_cons (ve_bin (fun h g => pe_op or_add h g) o2_add (ve_fun (fun h => pe_callB call_len (by rfl) T.z_len (by decide +kernel) h) on_len (va_cons (ve_var (pv 2)) va_nil)) ve_int) va_nil))))
      (vss_one (vs_set (i := 2) (fun h => ps_set sc__law_tree.nd rfl (.inl rfl) h) (ve_bin (fun h g => pe_op or_add h g) o2_add (ve_slice (fun h l u => pe_slice sl_all h l u) (ve_var (pv 2)) vo_none (vo_some (ve_var (pv 4)))) (ve_lst (va_cons (ve_fun (fun h => pe_callTy call_tuple_of (by rfl) T.z_tuple (by decide +kernel) h) on_tuple (va_cons (ve_slice (fun h l u => pe_slice sl_all h l u) (ve_var (pv 2)) (vo_some (ve_var (pv 4))) vo_none) va_nil)) va_nil))))))))
      (vss_cons (vs_if (vt_bin (fun h g => pt_cmpR (or_eq hr.units) h g (nomark _)) o2_eq (ve_fun (fun h => pe_callB call_len (by rfl) T.z_len (by decide +kernel) h) on_len (va_cons (ve_var (pv 2)) va_nil)) ve_int) (vss_one (vs_ret (ve_bin (fun h g => pe_ix ix_seq h g (fun _ _ => rfl)) o2_idx (ve_var (pv 2)) ve_int))) vss_nil)
      (vss_one (vs_ret (ve_fun (fun h => pe_callTy call_tuple_of (by rfl) T.z_tuple (by decide +kernel) h) on_tuple (va_cons (ve_var (pv 2)) va_nil))))))), ?_⟩
  intro ds R _hl hv
  obtain ⟨xs, g, rfl, k⟩ := hv
  walk_at "v"
  refine ⟨xs, g, rfl, fun ys d hd1 hd2 hd3 => ?_⟩
  walk_at "vc"
  refine ⟨ys, 15, rfl, by decide, fun ys n n0 n1 => ?_⟩
  walk_at "vc"
  refine forL_r0 (fun i e => ∃ (ys : List Int) (ds : List D) (a b : Option D), e = [some (.lst (ys.map D.int)), some (.bl g), some (.lst ds), a, b] ∧ ds ≠ [] ∧ isTrs ds = true ∧ tdps ds ≤ i + 1 ∧ (txr ds).length ≤ 27 + 31 * i) ⟨ys, [d], none, none, rfl, by simp, by simp [isTrs, hd1], by simp [tdps]; omega, by simp [txr]; omega⟩ ?_ ?_
  · rintro i e hi ⟨ys, ds, a, b, rfl, hne, htr, hdp, hsz⟩
    have hln := len_txr ds
    walk_at "vc"
    refine ⟨ys, g, rfl, fun ys d hd1 hd2 hd3 => ?_⟩
    have hdi := tr_im d hd1
    walk_at "vc"
    refine ⟨ys, _, rfl, by omega, fun ys j j0 j1 => ?_⟩
    obtain ⟨j, rfl⟩ := Int.eq_ofNat_of_zero_le j0
    have hall : isTrs (ds ++ [d]) = true := isTrs_app2 htr (by simp [isTrs, hd1])
    obtain ⟨r1, r2, r3⟩ := row_step (k := j) hall
    have happ : isTrs ((ds ++ [d]).take j ++ (ds ++ [d]).drop j) = true := by rw [List.take_append_drop]; exact hall
    obtain ⟨g1, g2⟩ := isTrs_app happ
    have dd := tdps_app ds [d]
    have tt := txr_len_app ds [d]
    simp only [tdps, txr, List.length_cons, List.length_append, List.length_nil] at dd tt
    walk_at "v"
    rw [cutL_from, cutL_to]
    refine ⟨trs_im _ hall, trs_im _ hall, trs_im _ g2, trs_im _ g1, trs_im _ g2, ?_, ys, _, _, _, rfl, by simp, r1, by omega, by omega⟩
    rw [List.length_take]
    simp
    omega
  · rintro e ⟨ys, ds, a, b, rfl, hne, htr, hdp, hsz⟩
    walk_at "v"
    refine cIf_d (fun h => ?_) fun h => ?_
    · obtain ⟨x, rfl⟩ := List.length_eq_one_iff.mp (show ds.length = 1 by omega)
      walk_at "vc"
      simp only [isTrs, Bool.and_true, Bool.and_eq_true] at htr
      simp only [tdps, txr, List.length_cons, List.length_append, List.length_nil] at hdp hsz
      exact ⟨tr_im x htr, k ys x htr (by omega) (by omega)⟩
    · walk_at "vc"
      have hs := txs_le ds
      exact ⟨trs_im ds htr, k ys (.tup ds) htr (by simp only [tdp]; omega) (by simp only [tx, List.length_cons, List.length_append, List.length_nil]; omega)⟩
end
end L2.VL.K73
set_option Elab.async false
set_option linter.all false
set_option maxRecDepth 100000
namespace L2.VL.K73
open PySem PySem.Spec PyProof.Rows
local macro_rules | `(tactic| walk_at "v") => `(tactic| simp only [opt_some, optS_some, optB_some, optI_some, mv_val, mv_plc, mvl_nil, mvl_cons, cMvl_run, getl_nil, getl_cons, cGetl_run, cKons_run, cIm_run, look_run, lookO_run, put_run, putO_run, get_val, get_plc, dlook_nil, dlook_lst, dlook_obj, kidO_run, dput_nil, dput_lst, dput_obj, kidP_run, cR_run, app1_some, app2_some, deep_val, deep_nil, deep_cons, vVar_run, cVar_run, vC_run, vMv_run', cMv'_run, vBin_run, cBin_run, cBin2_run, vTest_run, cTest_run, vUn_run, cUn_run, vAnd_run, cAnd_t, cAnd_f, vOr_run, cOr_t, cOr_f, vNot_run, cNot_run, vAndV_run, cAndV_run, cAndV2_t, cAndV2_f, vOrV_run, cOrV_run, cOrV2_t, cOrV2_f, vNotV_run, cNotV_run, cNotV2_run, vIfE_run, cIfE_t, cIfE_f, vNil_run, vCons_run, cCons_run, cCons2_run, vTup_run, cTup_run, cTup2_run, vLst_run, cLst_run, cLst2_run, vFun_run, cFun_run, cFun2_run, vRM_run, cRM_run, cRM2_run, cRM3_run, cRM4_run, vMut_run, cMut_run, cMut2_run, cMut3_run, cMut4_run, cMut5_run, isL_run, isS_run, vSl_run, cSl_run, cSl2_run, cSl3_run, cSl4_run, voNone_run, voSome_run, cVo_run, ixO_run, vIxP_run, cIxP_run, cIxP2_run, cIxP3_run, vLstRg_run, cLstRg_run, cLstRg2_run, vNext_run, vBreak_run, vCont_run, vSeq_run, vDrop_run, cDrop_run, vRet_run, cRet_run, cRet2_run, vRetN_run, vIf_run, cIf_t, cIf_f, vgN_run, vgNil_run, vgCons_run, cG_run, vgTup_run, vAsg_run, cAsg_run, cAsg2_run, vPar_run, cPar_run, cPar2_run, vAug_run, cAug_run, cAug2_run, cAug3_run, vFor_run, cFor_run, vLc_run, cLc_run, vYes_run, optLst_run, viSlot_run, cSlot_run, cSlot2_run, viVal_run, cVal_run, optTup_run, viTup_run, cTupI_run, cTupI2_run, viR1_run, cR1_run, cR1b_run, viR2_run, cR2_run, cR2b_run, viRD_run, cRD_run, cRDb_run, optStr_run, viStr_run, cStrI_run, cStrI2_run, setO_run, vSetI_run, cSetI_run, cSetI2_run, cSetI3_run, cSetI4_run, cSetI5_run, fldO_run, cF2_run, vFld_run, cFld_run, cFld2_run, objO_run, vSetF_run, cSetF_run, cSetF2_run, cSetF3_run, args_nil, args_f, args_t, cArgs_run, cArgs2_run, back_t, back_tn, back_f, back_nil, back_nil', vCall_run, cCall_run, cCall2_run, cBack_run, objM_run, vMeth_run, cMeth_run, cMeth2_run, vMake_run, cMake_run, cMake2_run, cMake3_run, optI1_run, vChain_run, cCh_run, cCh2_run, chO_run, cCh3_t, cCh3_f, cCh4_run, cCh5_run, augO_run, cAugO_run, cAugO2_run, vAugF_run, cAugF_run, cAugF2_run, cAugF3_run, snocI, snocS, setI, dropI, revI, cWh_t, cWh_f, cLc1_run, cLc2_t, cLc2_f, cLc3_run, cLc4_run, cMap_run, opt_map, atI_map, fIdx_l, fIdx_t, cSgn_run, fIdx_s, fPop_run, cPop_run, fPopAt_run, cPopAt_run, cPopAt2_run, eraseI, fInt_s, cIntS_run, cIsi2_run, fIsi_run, cIsi_run, fIsiT_run, cIsiT_run, cIsiT2_run, fJoin_run, cJoin_run, kb_NoneType_tuple, kb_NoneType_list, kb_NoneType_bool, kb_NoneType_int, kb_NoneType_str, kb_NoneType_dict, kb_bool_tuple, kb_bool_list, kb_bool_bool, kb_bool_int, kb_bool_str, kb_bool_dict, kb_int_tuple, kb_int_list, kb_int_bool, kb_int_int, kb_int_str, kb_int_dict, kb_str_tuple, kb_str_list, kb_str_bool, kb_str_int, kb_str_str, kb_str_dict, kb_list_tuple, kb_list_list, kb_list_bool, kb_list_int, kb_list_str, kb_list_dict, kb_tuple_tuple, kb_tuple_list, kb_tuple_bool, kb_tuple_int, kb_tuple_str, kb_tuple_dict, kb_dict_tuple, kb_dict_list, kb_dict_bool, kb_dict_int, kb_dict_str, kb_dict_dict, kN_nil, kN_cons, orK_t, orK_f, fn_false, fAdd.eq_1, fAdd.eq_2, fAdd.eq_3, fAdd.eq_4, fI2.eq_1, fI20.eq_1, fEq.eq_1, fEq.eq_2, fEq.eq_3, fNe.eq_1, fNe.eq_2, fNe.eq_3, fSl.eq_1, fSl.eq_2, fSl.eq_3, fSl.eq_4, fLen.eq_1, fLen.eq_2, fLen.eq_3, fInt.eq_1, fInt.eq_2, fStr.eq_1, fStr.eq_2, fList.eq_1, fList.eq_2, fTuple.eq_1, fTuple.eq_2, fNeg.eq_1, fAppend.eq_1, fReverse.eq_1, fClear.eq_1, fExtend.eq_1, List.getElem?_map, Option.map_some, Option.map_none, D.isM, D.im, D.ims, D.flat, fIsN, fNotN, D.isNon, D.tyIs, tyNames, putN, putD, wipeE, finP, ims_ints, ims_strs, strs_map, flat_ints, isIn_ints, staysT, CDiv, CPow, CMul, List.getElem?_cons_zero, List.getElem?_cons_succ, List.getElem?_nil, List.set_cons_zero, List.set_cons_succ, List.map_cons, List.map_nil, List.replicate, List.cons_append, List.nil_append, List.append_nil, List.length_cons, List.length_nil, List.length_map, List.all_cons, List.all_nil, List.contains_cons, List.contains_nil, List.elem_cons, List.elem_nil, List.append_eq, List.length_append, true_and, and_true, false_and, and_false, not_true_eq_false, not_false_eq_true, ne_eq, reduceCtorEq, Bool.false_eq_true, false_implies, true_implies, implies_true, forall_const, imp_self, decide_true, decide_false, decide_eq_true_eq, Bool.not_true, Bool.not_false, Bool.or_false, Bool.and_true, Bool.true_and, Bool.false_and, if_true, if_false, ite_true, ite_false, true_or, or_true, false_or, or_false, Nat.add_zero, Nat.zero_add, Nat.reduceAdd, Nat.reduceSub, Nat.reduceEqDiff, beq_self_eq_true, BEq.rfl, Int.zero_add, Nat.reduceBEq, Nat.reduceLeDiff, Nat.reduceLT, Int.reduceLT, Int.reduceLE, Int.reduceToNat, Int.reduceNeg, Option.some.injEq, atI_c0, atI_c1, atI_c2, atI_c3, atI_c4, S_cps, S_len', S_cat', signs_S, fInG_s1, fInG_s0, fInG_l, fInG_t, S_eq1, S_eq2, itx_S, jn0, jn0_len, Int.toNat_natCast, sn_get, sn_get1, sn_ix, sn_set, sn_drop, fx_Line_0_tokens, fx_Line_0_taken, fx_Line_1_tokens, fx_Line_1_taken, fx_Line_2_tokens, fx_Line_2_taken, ne_taken_tokens, ne_tokens_taken, cs_0, cs_1, cs_2, cs_3, cs_4, cs_5, cs_6, cs_7, cs_8, cs_9, cs_10, cs_11, cs_12, cs_13, cs_14])
local macro_rules | `(tactic| walk_at "c") => `(tactic| repeat (refine And.intro (by first | omega | rfl | assumption | decide | decide +kernel) ?_))
local macro_rules | `(tactic| walk_at "vc") => `(tactic| ((try walk_at "v"); walk_at "c"))
section
variable {P : Program} {w : World} {K : PySem.W.Frag} {mg : Str → Option Value} {base : Heap}

def vf_law : VF := fun ds R => ∃ ns : List Int, ds = [.rol ns] ∧ R (.bl true) [some (.rol ns)]
theorem ok_law (T : Facts K mg) : FnOk P w K mg base CX0 42 T.f_law T.fd_law ["script"] (spV K 1 (vf_law)) := by
  refine okV T.F_law sc_law _ fun cdv A outer s H E hr => ⟨_, (vss_cons (vs_set (i := 1) (fun h => ps_set sc_law.nd rfl (.inl rfl) h) (ve_call [false, false] (fun h => pe_call (ok__law_draws T) (hr.mono (by omega)) (by rfl) T.g__law_draws T.F__law_draws.kp T.b__law_draws .nil pass0 h) (va_cons (ve_var (pv 0)) (va_cons ve_int va_nil))))
      (vss_cons (vs_for (fun hi hg hb => ps_for PassesOwn.never rfl hi hg hb) (vi_range1 (fun h => pi_range1 (by rfl) T.z_range h) (va_cons ve_int va_nil)) (vg_name (pg_name (i := 2) sc_law.nd rfl (.inl rfl))) (vss_cons (vs_set (i := 3) (fun h => ps_set sc_law.nd rfl (.inl rfl) h) (ve_call [true, false] (fun h => pe_call (ok__law_tree T) (hr.mono (by omega)) (by rfl) T.g__law_tree T.F__law_tree.kp T.b__law_tree .nil pass0 h) (va_cons (ve_var (pv 1)) (va_cons ve_bl va_nil))))
      (vss_cons (vs_set (i := 4) (fun h => ps_set sc_law.nd rfl (.inl rfl) h) (ve_call [false] (fun h => pe_call (ok__law_text T) (hr.mono (by omega)) (by rfl) T.g__law_text T.F__law_text.kp T.b__law_text .nil pass0 h) (va_cons (ve_var (pv 3)) va_nil)))
      (vss_cons (vs_set (i := 5) (fun h => ps_set sc_law.nd rfl (.inl rfl) h) (ve_call [false] (fun h => pe_call (ok_write_tree T) (hr.mono (by omega)) (by rfl) T.g_write_tree T.F_write_tree.kp T.b_write_tree .nil pass0 h) (va_cons (ve_var (pv 3)) va_nil)))
      (vss_cons (vs_if (VW.vt (vw_or (vt_not (vt_val (ve_call [false, false] (fun h => pe_call (ok__law_same T) (hr.mono (by omega)) (by rfl) T.g__law_same T.F__law_same.kp T.b__law_same .nil pass0 h) (va_cons (ve_var (pv 5)) (va_cons (ve_var (pv 4)) va_nil))))) (vw_or1 (vt_not (vt_val (ve_call [false, false] (fun h => pe_call (ok__law_same T) (hr.mono (by omega)) (by rfl) T.g__law_same T.F__law_same.kp T.b__law_same .nil pass0 h) (va_cons (ve_call [false] (fun h => pe_call (ok_read_tree T) (hr.mono (by omega)) (by rfl) T.g_read_tree T.F_read_tree.kp T.b_read_tree .nil pass0 h) (va_cons (ve_var (pv 5)) va_nil)) (va_cons (ve_var (pv 3)) va_nil)))))))) (vss_one (vs_ret ve_bl)) vss_nil)
      (vss_cons (vs_set (i := 3) (fun h => ps_set sc_law.nd rfl (.inl rfl) h) (ve_call [true, false] (fun h => pe_call (ok__law_tree T) (hr.mono (by omega)) (by rfl) T.g__law_tree T.F__law_tree.kp T.b__law_tree .nil pass0 h) (va_cons (ve_var (pv 1)) (va_cons ve_bl va_nil))))
      (vss_cons (vs_set (i := 4) (fun h => ps_set sc_law.nd rfl (.inl rfl) h) (ve_call [false] (fun h => pe_call (ok__law_text T) (hr.mono (by omega)) (by rfl) T.g__law_text T.F__law_text.kp T.b__law_text .nil pass0 h) (va_cons (ve_var (pv 3)) va_nil)))
      (vss_cons (vs_if (VW.vt (vw_or (vt_not (vt_val (ve_call [false, false] (fun h => pe_call (ok__law_same T) (hr.mono (by omega)) (by rfl) T.g__law_same T.F__law_same.kp T.b__law_same .nil pass0 h) (va_cons (ve_call [false] (fun h => pe_call (ok_write_tree T) (hr.mono (by omega)) (by rfl) T.g_write_tree T.F_write_tree.kp T.b_write_tree .nil pass0 h) (va_cons (ve_var (pv 3)) va_nil)) (va_cons (ve_var (pv 4)) va_nil))))) (vw_or1 (vt_not (vt_val (ve_call [false, false] (fun h => pe_call (ok__law_same T) (hr.mono (by omega)) (by rfl) T.g__law_same T.F__law_same.kp T.b__law_same .nil pass0 h) (va_cons (ve_call [false] (fun h => pe_call (ok_read_tree T) (hr.mono (by omega)) (by rfl) T.g_read_tree T.F_read_tree.kp T.b_read_tree .nil pass0 h) (va_cons (ve_var (pv 4)) va_nil)) (va_cons (ve_var (pv 3)) va_nil)))))))) (vss_one (vs_ret ve_bl)) vss_nil)
      (vss_cons (vs_set (i := 6) (fun h => ps_set sc_law.nd rfl (.inl rfl) h) (ve_bin (fun h g => pe_op or_add h g) o2_add (ve_bin (fun h g => pe_op or_add h g) o2_add (ve_call [true, false] (fun h => pe_call (ok__law_pick T) (hr.mono (by omega)) (by rfl) T.g__law_pick T.F__law_pick.kp T.b__law_pick .nil pass0 h) (va_cons (ve_var (pv 1)) (va_cons (ve_lst (va_cons ve_str (va_cons ve_str va_nil))) va_nil))) (ve_call [true, false] (fun h => pe_call (ok__law_spaced T) (hr.mono (by omega)) (by rfl) T.g__law_spaced T.F__law_spaced.kp T.b__law_spaced .nil pass0 h) (va_cons (ve_var (pv 1)) (va_cons (ve_var (pv 4)) va_nil)))) (ve_call [true, false] (fun h => pe_call (ok__law_pick T) (hr.mono (by omega)) (by rfl) T.g__law_pick T.F__law_pick.kp T.b__law_pick .nil pass0 h) (va_cons (ve_var (pv 1)) (va_cons (ve_lst (va_cons ve_str (va_cons ve_str (va_cons ve_str va_nil)))) va_nil)))))
      (vss_one (vs_if (vt_not (vt_val (ve_call [false, false] (fun h => pe_call (ok__law_same T) (hr.mono (by omega)) (by rfl) T.g__law_same T.F__law_same.kp T.b__law_same .nil pass0 h) (va_cons (ve_call [false] (fun h => pe_call (ok_read_tree T) (hr.mono (by omega)) (by rfl) T.g_read_tree T.F_read_tree.kp T.b_read_tree .nil pass0 h) (va_cons (ve_var (pv 6)) va_nil)) (va_cons (ve_var (pv 3)) va_nil))))) (vss_one (vs_ret ve_bl)) vss_nil)))))))))))
      (vss_cons (vs_if (vt_not (vt_val (ve_call [false, false] (fun h => pe_call (ok__law_same T) (hr.mono (by omega)) (by rfl) T.g__law_same T.F__law_same.kp T.b__law_same .nil pass0 h) (va_cons (ve_call [false] (fun h => pe_call (ok_read_tree T) (hr.mono (by omega)) (by rfl) T.g_read_tree T.F_read_tree.kp T.b_read_tree .nil pass0 h) (va_cons ve_str va_nil)) (va_cons (ve_tup (va_cons ve_str (va_cons ve_int (va_cons (ve_tup (va_cons (ve_tup (va_cons ve_int (va_cons ve_int va_nil))) va_nil)) (va_cons (ve_tup va_nil) va_nil))))) va_nil))))) (vss_one (vs_ret ve_bl)) vss_nil)
      (vss_cons (vs_set (i := 7) (fun h => ps_set sc_law.nd rfl (.inl rfl) h) (ve_tup va_nil))
      (vss_cons (vs_for (fun hi hg hb => ps_for PassesOwn.never rfl hi hg hb) (vi_range1 (fun h => pi_range1 (by rfl) T.z_range h) (va_cons ve_int va_nil)) (vg_name (pg_name (i := 2) sc_law.nd rfl (.inl rfl))) (vss_one (vs_set (i := 7) (fun h => ps_set sc_law.nd rfl (.inl rfl) h) (ve_tup (va_cons (ve_var (pv 7)) va_nil)))))
      (vss_one (vs_ret (ve_and (ve_call [false, false] (fun h => pe_call (ok__law_same T) (hr.mono (by omega)) (by rfl) T.g__law_same T.F__law_same.kp T.b__law_same .nil pass0 h) (va_cons (ve_call [false] (fun h => pe_call (ok_read_tree T) (hr.mono (by omega)) (by rfl) T.g_read_tree T.F_read_tree.kp T.b_read_tree .nil pass0 h) (va_cons (ve_call [false] (fun h => pe_call (ok__law_text T) (hr.mono (by omega)) (by rfl) T.g__law_text T.F__law_text.kp T.b__law_text .nil pass0 h) (va_cons (ve_var (pv 7)) va_nil)) va_nil)) (va_cons (ve_var (pv 7)) va_nil))) (ve_one (ve_call [false, false] (fun h => pe_call (ok__law_same T) (hr.mono (by omega)) (by rfl) T.g__law_same T.F__law_same.kp T.b__law_same .nil pass0 h) (va_cons (ve_call [false] (fun h => pe_call (ok_write_tree T) (hr.mono (by omega)) (by rfl) T.g_write_tree T.F_write_tree.kp T.b_write_tree .nil pass0 h) (va_cons (ve_tup (va_cons (ve_tup (va_cons (ve_tup va_nil) va_nil)) (va_cons (ve_tup (va_cons ve_int va_nil)) (va_cons ve_str va_nil)))) va_nil)) (va_cons ve_str va_nil)))))))))))), ?_⟩
  intro ds R _hl hv
  obtain ⟨ns, rfl, k⟩ := hv
  walk_at "v"
  refine ⟨ns, 1200, rfl, by decide, by decide, fun xs hx => ?_⟩
  walk_at "vc"
  refine forL_r0 (fun i e => ∃ (ys : List Int) (a b c d e2 f : Option D), e = [some (.rol ns), some (.lst (ys.map D.int)), a, b, c, d, e2, f]) ⟨xs, _, _, _, _, _, _, rfl⟩ ?_ ?_
  · rintro i e hi ⟨ys, a, b, c, d, e2, f, rfl⟩
    walk_at "vc"
    refine ⟨ys, true, rfl, fun ys d hd1 hd2 hd3 => ?_⟩
    have hi1 := tr_im d hd1
    have hcd := cst_le d hd1
    walk_at "vc"
    refine ⟨d, rfl, hd1, by omega, ?_⟩
    walk_at "vc"
    refine ⟨d, rfl, hd1, by omega, ?_⟩
    walk_at "vc"
    refine ⟨_, rfl, .inr ⟨_, rfl⟩, by simp [tdp], by simp [cst], ?_⟩
    walk_at "vc"
    refine ⟨d, tx d, rfl, by omega, tk_plain hd1, hd1, ?_⟩
    walk_at "vc"
    refine ⟨d, rfl, .inl hd1, Nat.le_trans hd2 (by decide), by omega, ?_⟩
    walk_at "vc"
    refine ⟨ys, false, rfl, fun ys d hd1 hd2 hd3 => ?_⟩
    have hi1 := tr_im d hd1
    have hcd := cst_le d hd1
    walk_at "vc"
    refine ⟨d, rfl, hd1, by omega, ?_⟩
    walk_at "vc"
    refine ⟨d, rfl, hd1, by omega, ?_⟩
    walk_at "vc"
    refine ⟨_, rfl, .inr ⟨_, rfl⟩, by simp [tdp], by simp [cst], ?_⟩
    walk_at "vc"
    refine ⟨d, tx d, rfl, by omega, tk_plain hd1, hd1, ?_⟩
    walk_at "vc"
    refine ⟨d, rfl, .inl hd1, Nat.le_trans hd2 (by decide), by omega, ?_⟩
    walk_at "vc"
    refine ⟨ys, _, rfl, by simp, rfl, fun ys u hu => ?_⟩
    obtain ⟨a, ha, rfl⟩ := sp2 hu
    walk_at "vc"
    refine ⟨ys, tx d, rfl, by omega, fun ys l' hlo hl' => ?_⟩
    walk_at "v"
    refine ⟨by simp; omega, ?_⟩
    walk_at "vc"
    refine ⟨ys, _, rfl, by simp, rfl, fun ys u hu => ?_⟩
    obtain ⟨b, hb, rfl⟩ := sp4 hu
    walk_at "v"
    refine ⟨by simp; omega, ?_⟩
    walk_at "vc"
    refine ⟨d, _, rfl, by simp; omega, ?_, hd1, ?_⟩
    · have := tk_text hd1 hlo a b
      rw [← List.append_assoc] at this
      exact this
    walk_at "vc"
    refine ⟨d, rfl, .inl hd1, Nat.le_trans hd2 (by decide), by omega, ?_⟩
    walk_at "vc"
    exact ⟨_, _, _, _, _, _, _, rfl⟩
  · rintro e ⟨ys, a, b, c, d, e2, f, rfl⟩
    walk_at "vc"
    refine ⟨kIn, _, rfl, by decide, by rw [← kIn_tx]; exact tk_plain kIn_tr, kIn_tr, ?_⟩
    walk_at "vc"
    refine ⟨kIn, rfl, .inl kIn_tr, by decide +kernel, by decide +kernel, ?_⟩
    walk_at "vc"
    refine forL_r0 (fun i e => ∃ x : Option D, e = [some (.rol ns), some (.lst (ys.map D.int)), x, b, c, d, e2, some (deepD i)]) ⟨_, rfl⟩ ?_ ?_
    · rintro i e hi ⟨x, rfl⟩
      have di := deep_im i
      walk_at "vc"
      exact ⟨_, rfl⟩
    · rintro e ⟨x, rfl⟩
      have di := deep_im 18
      have dc := cst_le _ deep_tr
      have dl := deep_len
      walk_at "vc"
      refine ⟨deepD 18, rfl, deep_tr, by omega, ?_⟩
      walk_at "vc"
      refine ⟨deepD 18, _, rfl, by omega, tk_plain deep_tr, deep_tr, ?_⟩
      walk_at "vc"
      refine ⟨deepD 18, rfl, .inl deep_tr, by decide +kernel, by omega, ?_⟩
      walk_at "vc"
      refine ⟨kA, rfl, kA_tr, by decide +kernel, ?_⟩
      rw [kA_tx]
      walk_at "vc"
      refine ⟨_, rfl, .inr ⟨_, rfl⟩, by simp [tdp], by simp [cst], ?_⟩
      walk_at "vc"
      exact k
end
end L2.VL.K73
set_option Elab.async false
set_option linter.all false
set_option maxRecDepth 100000
namespace L2.VL
open PySem PySem.Spec PyProof.Rows
/-! ### the law's own head -/
def spLaw1 (K : PySem.W.Frag) : Sp := fun vs H Q _ => ∃ (a : Addr) (ns : List Int), vs = [.ref a] ∧ RoL K H a (ns.map V.int) ∧ ns.length ≤ 63 ∧ ∀ H', Q (.bl true) H'
theorem rol_of {K : PySem.W.Frag} {H : Hp} {a : Addr} {xs : List V} (o : Only H) (h : SqL K H a xs) : RoL K H a xs := by
  rcases h with (h | h) | h
  · rcases o a with g | ⟨o', ys, g⟩
    · rw [g] at h
      cases h
    · rw [g] at h
      cases h
  · exact .inl h
  · exact .inr h
theorem law_sp {K : PySem.W.Frag} {vf : VF} (hvf : ∀ (ns : List Int) (R : D → SE → Prop), R (.bl true) [some (.rol ns)] → vf [.rol ns] R) : ∀ vs H Q E, spLaw1 K vs H Q E → spV K 1 vf vs H Q E := by
  rintro vs H Q E ⟨a, ns, rfl, hr, hl, k⟩
  refine ⟨[.rol ns], [] ++ [], fun d _ => d = .bl true, .cons (.rol hr) .nil (fun _ h => nomatch h), rfl, hvf ns _ rfl, ?_⟩
  intro r ds' v H' fp' fr hR _ ov _ _ _ _
  have hR' : r = .bl true := hR
  subst hR'
  cases ov
  exact k H'
theorem con_str {K : PySem.W.Frag} {h : Heap} {mg : Str → Option Value} {x : Str} {z : Str} {t : Tok} (X : K.In h) (G : h.Ns mainGlobals mg) (e : PySem.W.nsIn K mainGlobals x = some (some (.str z t))) : ∃ u, mg x = some u ∧ RelV (.str z) u := ⟨_, PySem.W.mg_of X G e, t, rfl⟩
theorem con_int {K : PySem.W.Frag} {h : Heap} {mg : Str → Option Value} {x : Str} {z : Int} {t : Tok} (X : K.In h) (G : h.Ns mainGlobals mg) (e : PySem.W.nsIn K mainGlobals x = some (some (.int z t))) : ∃ u, mg x = some u ∧ RelV (.int z) u := ⟨_, PySem.W.mg_of X G e, t, rfl⟩
end L2.VL
set_option Elab.async false
set_option linter.all false
set_option maxRecDepth 100000
namespace L2.VL.K73
open PySem PySem.Spec PyProof.Rows
theorem all_mk {l : PySem.W.OpenLaw} {w : World} {K : PySem.W.Frag} {h : Heap} {mg : Str → Option Value} {fa : Addr} (X : K.In h) (G : h.Ns mainGlobals mg) (hfa : mg "law" = some (.ref fa))
    {C_Line : Addr}
    {fk0 : Addr} {odk0 ank0 : Option Addr} {slk0 : Array (Option Value)} {ock0 kVk0 dck0 pmk0 cdk0 ctk0 : Value}
    {fk1 : Addr} {odk1 ank1 : Option Addr} {slk1 : Array (Option Value)} {ock1 kVk1 dck1 pmk1 cdk1 ctk1 : Value}
    {fk2 : Addr} {odk2 ank2 : Option Addr} {slk2 : Array (Option Value)} {ock2 kVk2 dck2 pmk2 cdk2 ctk2 : Value}
    {fk3 : Addr} {odk3 ank3 : Option Addr} {slk3 : Array (Option Value)} {ock3 kVk3 dck3 pmk3 cdk3 ctk3 : Value}
    {fk4 : Addr} {odk4 ank4 : Option Addr} {slk4 : Array (Option Value)} {ock4 kVk4 dck4 pmk4 cdk4 ctk4 : Value}
    {fk5 : Addr} {odk5 ank5 : Option Addr} {slk5 : Array (Option Value)} {ock5 kVk5 dck5 pmk5 cdk5 ctk5 : Value}
    {fk6 : Addr} {odk6 ank6 : Option Addr} {slk6 : Array (Option Value)} {ock6 kVk6 dck6 pmk6 cdk6 ctk6 : Value}
    {fk7 : Addr} {odk7 ank7 : Option Addr} {slk7 : Array (Option Value)} {ock7 kVk7 dck7 pmk7 cdk7 ctk7 : Value}
    {fk8 : Addr} {odk8 ank8 : Option Addr} {slk8 : Array (Option Value)} {ock8 kVk8 dck8 pmk8 cdk8 ctk8 : Value}
    {fk9 : Addr} {odk9 ank9 : Option Addr} {slk9 : Array (Option Value)} {ock9 kVk9 dck9 pmk9 cdk9 ctk9 : Value}
    {fk10 : Addr} {odk10 ank10 : Option Addr} {slk10 : Array (Option Value)} {ock10 kVk10 dck10 pmk10 cdk10 ctk10 : Value}
    {fk11 : Addr} {odk11 ank11 : Option Addr} {slk11 : Array (Option Value)} {ock11 kVk11 dck11 pmk11 cdk11 ctk11 : Value}
    {fk12 : Addr} {odk12 ank12 : Option Addr} {slk12 : Array (Option Value)} {ock12 kVk12 dck12 pmk12 cdk12 ctk12 : Value}
    {fk13 : Addr} {odk13 ank13 : Option Addr} {slk13 : Array (Option Value)} {ock13 kVk13 dck13 pmk13 cdk13 ctk13 : Value}
    {fk14 : Addr} {odk14 ank14 : Option Addr} {slk14 : Array (Option Value)} {ock14 kVk14 dck14 pmk14 cdk14 ctk14 : Value}
    {fk15 : Addr} {odk15 ank15 : Option Addr} {slk15 : Array (Option Value)} {ock15 kVk15 dck15 pmk15 cdk15 ctk15 : Value}
    {fk16 : Addr} {odk16 ank16 : Option Addr} {slk16 : Array (Option Value)} {ock16 kVk16 dck16 pmk16 cdk16 ctk16 : Value}
    {fk17 : Addr} {odk17 ank17 : Option Addr} {slk17 : Array (Option Value)} {ock17 kVk17 dck17 pmk17 cdk17 ctk17 : Value}
    {fk18 : Addr} {odk18 ank18 : Option Addr} {slk18 : Array (Option Value)} {ock18 kVk18 dck18 pmk18 cdk18 ctk18 : Value}
    {fk19 : Addr} {odk19 ank19 : Option Addr} {slk19 : Array (Option Value)} {ock19 kVk19 dck19 pmk19 cdk19 ctk19 : Value}
    {fk20 : Addr} {odk20 ank20 : Option Addr} {slk20 : Array (Option Value)} {ock20 kVk20 dck20 pmk20 cdk20 ctk20 : Value}
    {t_DIGITS : Tok}
    {t_LETTERS : Tok}
    {t_SIGNS : Tok}
    (aC_Line : PySem.W.nsIn K mainGlobals "Line" = some (some (.ref C_Line)))
    (pg_Line : PySem.W.plainGet K C_Line Str.empty = true)
    (hd_Line : PySem.W.hasDictIn K C_Line = true)
    (po_Line : PySem.W.plainOver K C_Line = true)
    (sa_Line : PySem.W.findIn K (.ref C_Line) "__setattr__" = some (some (.builtin "object.__setattr__")))
    (kc_Line : PySem.W.keepIn K (.ref C_Line) = true)
    (mk_Line : PySem.W.makesIn K C_Line = true)
    (n_Line_tokens : PySem.W.findIn K (.ref C_Line) "tokens" = some none)
    (n_Line_taken : PySem.W.findIn K (.ref C_Line) "taken" = some none)
    (ak0 : PySem.W.nsIn K mainGlobals "_law_draws" = some (some (.ref fk0)))
    (lk0 : K.lookup fk0 = some ⟨ock0, odk0, .func (PySem.W.fnOf "_law_draws" "_law_draws" (defArgs s__law_draws) (defBody s__law_draws) (defScope s__law_draws) .none kVk0 dck0 pmk0 ank0 cdk0 ctk0), slk0⟩)
    (ck0 : PySem.W.codeIn K cdk0 "_law_draws" = true)
    (qk0 : PySem.W.keepIn K (.ref fk0) = true)
    (ak1 : PySem.W.nsIn K mainGlobals "_law_take" = some (some (.ref fk1)))
    (lk1 : K.lookup fk1 = some ⟨ock1, odk1, .func (PySem.W.fnOf "_law_take" "_law_take" (defArgs s__law_take) (defBody s__law_take) (defScope s__law_take) .none kVk1 dck1 pmk1 ank1 cdk1 ctk1), slk1⟩)
    (ck1 : PySem.W.codeIn K cdk1 "_law_take" = true)
    (qk1 : PySem.W.keepIn K (.ref fk1) = true)
    (ak2 : PySem.W.nsIn K mainGlobals "_law_pick" = some (some (.ref fk2)))
    (lk2 : K.lookup fk2 = some ⟨ock2, odk2, .func (PySem.W.fnOf "_law_pick" "_law_pick" (defArgs s__law_pick) (defBody s__law_pick) (defScope s__law_pick) .none kVk2 dck2 pmk2 ank2 cdk2 ctk2), slk2⟩)
    (ck2 : PySem.W.codeIn K cdk2 "_law_pick" = true)
    (qk2 : PySem.W.keepIn K (.ref fk2) = true)
    (ak3 : PySem.W.nsIn K mainGlobals "run_end" = some (some (.ref fk3)))
    (lk3 : K.lookup fk3 = some ⟨ock3, odk3, .func (PySem.W.fnOf "run_end" "run_end" (defArgs s_run_end) (defBody s_run_end) (defScope s_run_end) .none kVk3 dck3 pmk3 ank3 cdk3 ctk3), slk3⟩)
    (ck3 : PySem.W.codeIn K cdk3 "run_end" = true)
    (qk3 : PySem.W.keepIn K (.ref fk3) = true)
    (ak4 : PySem.W.nsIn K mainGlobals "integer_in" = some (some (.ref fk4)))
    (lk4 : K.lookup fk4 = some ⟨ock4, odk4, .func (PySem.W.fnOf "integer_in" "integer_in" (defArgs s_integer_in) (defBody s_integer_in) (defScope s_integer_in) .none kVk4 dck4 pmk4 ank4 cdk4 ctk4), slk4⟩)
    (ck4 : PySem.W.codeIn K cdk4 "integer_in" = true)
    (qk4 : PySem.W.keepIn K (.ref fk4) = true)
    (ak5 : PySem.W.nsIn K mainGlobals "token_in" = some (some (.ref fk5)))
    (lk5 : K.lookup fk5 = some ⟨ock5, odk5, .func (PySem.W.fnOf "token_in" "token_in" (defArgs s_token_in) (defBody s_token_in) (defScope s_token_in) .none kVk5 dck5 pmk5 ank5 cdk5 ctk5), slk5⟩)
    (ck5 : PySem.W.codeIn K cdk5 "token_in" = true)
    (qk5 : PySem.W.keepIn K (.ref fk5) = true)
    (ak6 : PySem.W.nsIn K mainGlobals "tokens_of" = some (some (.ref fk6)))
    (lk6 : K.lookup fk6 = some ⟨ock6, odk6, .func (PySem.W.fnOf "tokens_of" "tokens_of" (defArgs s_tokens_of) (defBody s_tokens_of) (defScope s_tokens_of) .none kVk6 dck6 pmk6 ank6 cdk6 ctk6), slk6⟩)
    (ck6 : PySem.W.codeIn K cdk6 "tokens_of" = true)
    (qk6 : PySem.W.keepIn K (.ref fk6) = true)
    (ak7 : PySem.W.findIn K (.ref C_Line) "kind" = some (some (.ref fk7)))
    (ik7 : PySem.W.isFn K (.ref fk7) = true)
    (lk7 : K.lookup fk7 = some ⟨ock7, odk7, .func (PySem.W.fnOf "kind" "Line.kind" (defArgs s_Line_kind) (defBody s_Line_kind) (defScope s_Line_kind) .none kVk7 dck7 pmk7 ank7 cdk7 ctk7), slk7⟩)
    (ck7 : PySem.W.codeIn K cdk7 "Line.kind" = true)
    (qk7 : PySem.W.keepIn K (.ref fk7) = true)
    (ak8 : PySem.W.findIn K (.ref C_Line) "value" = some (some (.ref fk8)))
    (ik8 : PySem.W.isFn K (.ref fk8) = true)
    (lk8 : K.lookup fk8 = some ⟨ock8, odk8, .func (PySem.W.fnOf "value" "Line.value" (defArgs s_Line_value) (defBody s_Line_value) (defScope s_Line_value) .none kVk8 dck8 pmk8 ank8 cdk8 ctk8), slk8⟩)
    (ck8 : PySem.W.codeIn K cdk8 "Line.value" = true)
    (qk8 : PySem.W.keepIn K (.ref fk8) = true)
    (ak9 : PySem.W.findIn K (.ref C_Line) "__init__" = some (some (.ref fk9)))
    (ik9 : PySem.W.isFn K (.ref fk9) = true)
    (lk9 : K.lookup fk9 = some ⟨ock9, odk9, .func (PySem.W.fnOf "__init__" "Line.__init__" (defArgs s_Line_init) (defBody s_Line_init) (defScope s_Line_init) .none kVk9 dck9 pmk9 ank9 cdk9 ctk9), slk9⟩)
    (ck9 : PySem.W.codeIn K cdk9 "Line.__init__" = true)
    (qk9 : PySem.W.keepIn K (.ref fk9) = true)
    (ak10 : PySem.W.findIn K (.ref C_Line) "take" = some (some (.ref fk10)))
    (ik10 : PySem.W.isFn K (.ref fk10) = true)
    (lk10 : K.lookup fk10 = some ⟨ock10, odk10, .func (PySem.W.fnOf "take" "Line.take" (defArgs s_Line_take) (defBody s_Line_take) (defScope s_Line_take) .none kVk10 dck10 pmk10 ank10 cdk10 ctk10), slk10⟩)
    (ck10 : PySem.W.codeIn K cdk10 "Line.take" = true)
    (qk10 : PySem.W.keepIn K (.ref fk10) = true)
    (ak11 : PySem.W.findIn K (.ref C_Line) "take_one_of" = some (some (.ref fk11)))
    (ik11 : PySem.W.isFn K (.ref fk11) = true)
    (lk11 : K.lookup fk11 = some ⟨ock11, odk11, .func (PySem.W.fnOf "take_one_of" "Line.take_one_of" (defArgs s_Line_take_one_of) (defBody s_Line_take_one_of) (defScope s_Line_take_one_of) .none kVk11 dck11 pmk11 ank11 cdk11 ctk11), slk11⟩)
    (ck11 : PySem.W.codeIn K cdk11 "Line.take_one_of" = true)
    (qk11 : PySem.W.keepIn K (.ref fk11) = true)
    (ak12 : PySem.W.nsIn K mainGlobals "write_tree" = some (some (.ref fk12)))
    (lk12 : K.lookup fk12 = some ⟨ock12, odk12, .func (PySem.W.fnOf "write_tree" "write_tree" (defArgs s_write_tree) (defBody s_write_tree) (defScope s_write_tree) .none kVk12 dck12 pmk12 ank12 cdk12 ctk12), slk12⟩)
    (ck12 : PySem.W.codeIn K cdk12 "write_tree" = true)
    (qk12 : PySem.W.keepIn K (.ref fk12) = true)
    (ak13 : PySem.W.nsIn K mainGlobals "take_tree" = some (some (.ref fk13)))
    (lk13 : K.lookup fk13 = some ⟨ock13, odk13, .func (PySem.W.fnOf "take_tree" "take_tree" (defArgs s_take_tree) (defBody s_take_tree) (defScope s_take_tree) .none kVk13 dck13 pmk13 ank13 cdk13 ctk13), slk13⟩)
    (ck13 : PySem.W.codeIn K cdk13 "take_tree" = true)
    (qk13 : PySem.W.keepIn K (.ref fk13) = true)
    (ak14 : PySem.W.nsIn K mainGlobals "read_tree" = some (some (.ref fk14)))
    (lk14 : K.lookup fk14 = some ⟨ock14, odk14, .func (PySem.W.fnOf "read_tree" "read_tree" (defArgs s_read_tree) (defBody s_read_tree) (defScope s_read_tree) .none kVk14 dck14 pmk14 ank14 cdk14 ctk14), slk14⟩)
    (ck14 : PySem.W.codeIn K cdk14 "read_tree" = true)
    (qk14 : PySem.W.keepIn K (.ref fk14) = true)
    (ak15 : PySem.W.nsIn K mainGlobals "_law_same" = some (some (.ref fk15)))
    (lk15 : K.lookup fk15 = some ⟨ock15, odk15, .func (PySem.W.fnOf "_law_same" "_law_same" (defArgs s__law_same) (defBody s__law_same) (defScope s__law_same) .none kVk15 dck15 pmk15 ank15 cdk15 ctk15), slk15⟩)
    (ck15 : PySem.W.codeIn K cdk15 "_law_same" = true)
    (qk15 : PySem.W.keepIn K (.ref fk15) = true)
    (ak16 : PySem.W.nsIn K mainGlobals "_law_text" = some (some (.ref fk16)))
    (lk16 : K.lookup fk16 = some ⟨ock16, odk16, .func (PySem.W.fnOf "_law_text" "_law_text" (defArgs s__law_text) (defBody s__law_text) (defScope s__law_text) .none kVk16 dck16 pmk16 ank16 cdk16 ctk16), slk16⟩)
    (ck16 : PySem.W.codeIn K cdk16 "_law_text" = true)
    (qk16 : PySem.W.keepIn K (.ref fk16) = true)
    (ak17 : PySem.W.nsIn K mainGlobals "_law_spaced" = some (some (.ref fk17)))
    (lk17 : K.lookup fk17 = some ⟨ock17, odk17, .func (PySem.W.fnOf "_law_spaced" "_law_spaced" (defArgs s__law_spaced) (defBody s__law_spaced) (defScope s__law_spaced) .none kVk17 dck17 pmk17 ank17 cdk17 ctk17), slk17⟩)
    (ck17 : PySem.W.codeIn K cdk17 "_law_spaced" = true)
    (qk17 : PySem.W.keepIn K (.ref fk17) = true)
    (ak18 : PySem.W.nsIn K mainGlobals "_law_leaf" = some (some (.ref fk18)))
    (lk18 : K.lookup fk18 = some ⟨ock18, odk18, .func (PySem.W.fnOf "_law_leaf" "_law_leaf" (defArgs s__law_leaf) (defBody s__law_leaf) (defScope s__law_leaf) .none kVk18 dck18 pmk18 ank18 cdk18 ctk18), slk18⟩)
    (ck18 : PySem.W.codeIn K cdk18 "_law_leaf" = true)
    (qk18 : PySem.W.keepIn K (.ref fk18) = true)
    (ak19 : PySem.W.nsIn K mainGlobals "_law_tree" = some (some (.ref fk19)))
    (lk19 : K.lookup fk19 = some ⟨ock19, odk19, .func (PySem.W.fnOf "_law_tree" "_law_tree" (defArgs s__law_tree) (defBody s__law_tree) (defScope s__law_tree) .none kVk19 dck19 pmk19 ank19 cdk19 ctk19), slk19⟩)
    (ck19 : PySem.W.codeIn K cdk19 "_law_tree" = true)
    (qk19 : PySem.W.keepIn K (.ref fk19) = true)
    (ak20 : PySem.W.nsIn K mainGlobals "law" = some (some (.ref fk20)))
    (lk20 : K.lookup fk20 = some ⟨ock20, odk20, .func (PySem.W.fnOf "law" "law" (defArgs s_law) (defBody s_law) (defScope s_law) .none kVk20 dck20 pmk20 ank20 cdk20 ctk20), slk20⟩)
    (ck20 : PySem.W.codeIn K cdk20 "law" = true)
    (qk20 : PySem.W.keepIn K (.ref fk20) = true)
    (z_bool : PySem.W.nsIn K mainGlobals "bool" = some none)
    (z_int : PySem.W.nsIn K mainGlobals "int" = some none)
    (z_isinstance : PySem.W.nsIn K mainGlobals "isinstance" = some none)
    (z_len : PySem.W.nsIn K mainGlobals "len" = some none)
    (z_list : PySem.W.nsIn K mainGlobals "list" = some none)
    (z_range : PySem.W.nsIn K mainGlobals "range" = some none)
    (z_str : PySem.W.nsIn K mainGlobals "str" = some none)
    (z_tuple : PySem.W.nsIn K mainGlobals "tuple" = some none)
    (v_DIGITS : PySem.W.nsIn K mainGlobals "DIGITS" = some (some (.str "0123456789" t_DIGITS)))
    (v_LETTERS : PySem.W.nsIn K mainGlobals "LETTERS" = some (some (.str "abcdefghijklmnopqrstuvwxyz" t_LETTERS)))
    (v_SIGNS : PySem.W.nsIn K mainGlobals "SIGNS" = some (some (.str "(),:" t_SIGNS))) :
    ∃ fd : FuncData, (∀ (s : Shared) (v : Value), BindsTo s fd ⟨[v], []⟩ [("script", v)]) ∧ ∀ base : Heap, K.In base → base.Ns mainGlobals mg → FnOk l.prog w K mg base CX0 42 fa fd ["script"] (spLaw1 K) := by
  have e : fk20 = fa := by
    have e := hfa.symm.trans (PySem.W.mg_of X G ak20)
    cases e
    rfl
  subst e
  have Fk0 := fun_mk (st := s__law_draws) lk0 ck0 qk0
  have bk0 := Fk0.binds (ps := ["script", "many"]) fun _ _ _ _ _ _ us hl => match us, hl with | [_, _], _ => rfl
  have Fk1 := fun_mk (st := s__law_take) lk1 ck1 qk1
  have bk1 := Fk1.binds (ps := ["draws", "many"]) fun _ _ _ _ _ _ us hl => match us, hl with | [_, _], _ => rfl
  have Fk2 := fun_mk (st := s__law_pick) lk2 ck2 qk2
  have bk2 := Fk2.binds (ps := ["draws", "row"]) fun _ _ _ _ _ _ us hl => match us, hl with | [_, _], _ => rfl
  have Fk3 := fun_mk (st := s_run_end) lk3 ck3 qk3
  have bk3 := Fk3.binds (ps := ["text", "start", "chars"]) fun _ _ _ _ _ _ us hl => match us, hl with | [_, _, _], _ => rfl
  have Fk4 := fun_mk (st := s_integer_in) lk4 ck4 qk4
  have bk4 := Fk4.binds (ps := ["text", "start"]) fun _ _ _ _ _ _ us hl => match us, hl with | [_, _], _ => rfl
  have Fk5 := fun_mk (st := s_token_in) lk5 ck5 qk5
  have bk5 := Fk5.binds (ps := ["text", "start"]) fun _ _ _ _ _ _ us hl => match us, hl with | [_, _], _ => rfl
  have Fk6 := fun_mk (st := s_tokens_of) lk6 ck6 qk6
  have bk6 := Fk6.binds (ps := ["text"]) fun _ _ _ _ _ _ us hl => match us, hl with | [_], _ => rfl
  have Fk7 := fun_mk (st := s_Line_kind) lk7 ck7 qk7
  have bk7 := Fk7.binds (ps := ["self"]) fun _ _ _ _ _ _ us hl => match us, hl with | [_], _ => rfl
  have Fk8 := fun_mk (st := s_Line_value) lk8 ck8 qk8
  have bk8 := Fk8.binds (ps := ["self"]) fun _ _ _ _ _ _ us hl => match us, hl with | [_], _ => rfl
  have Fk9 := fun_mk (st := s_Line_init) lk9 ck9 qk9
  have bk9 := Fk9.binds (ps := ["self", "text"]) fun _ _ _ _ _ _ us hl => match us, hl with | [_, _], _ => rfl
  have Fk10 := fun_mk (st := s_Line_take) lk10 ck10 qk10
  have bk10 := Fk10.binds (ps := ["self", "kind"]) fun _ _ _ _ _ _ us hl => match us, hl with | [_, _], _ => rfl
  have Fk11 := fun_mk (st := s_Line_take_one_of) lk11 ck11 qk11
  have bk11 := Fk11.binds (ps := ["self", "kinds"]) fun _ _ _ _ _ _ us hl => match us, hl with | [_, _], _ => rfl
  have Fk12 := fun_mk (st := s_write_tree) lk12 ck12 qk12
  have bk12 := Fk12.binds (ps := ["thing"]) fun _ _ _ _ _ _ us hl => match us, hl with | [_], _ => rfl
  have Fk13 := fun_mk (st := s_take_tree) lk13 ck13 qk13
  have bk13 := Fk13.binds (ps := ["line"]) fun _ _ _ _ _ _ us hl => match us, hl with | [_], _ => rfl
  have Fk14 := fun_mk (st := s_read_tree) lk14 ck14 qk14
  have bk14 := Fk14.binds (ps := ["text"]) fun _ _ _ _ _ _ us hl => match us, hl with | [_], _ => rfl
  have Fk15 := fun_mk (st := s__law_same) lk15 ck15 qk15
  have bk15 := Fk15.binds (ps := ["actual", "due"]) fun _ _ _ _ _ _ us hl => match us, hl with | [_, _], _ => rfl
  have Fk16 := fun_mk (st := s__law_text) lk16 ck16 qk16
  have bk16 := Fk16.binds (ps := ["tree"]) fun _ _ _ _ _ _ us hl => match us, hl with | [_], _ => rfl
  have Fk17 := fun_mk (st := s__law_spaced) lk17 ck17 qk17
  have bk17 := Fk17.binds (ps := ["draws", "text"]) fun _ _ _ _ _ _ us hl => match us, hl with | [_, _], _ => rfl
  have Fk18 := fun_mk (st := s__law_leaf) lk18 ck18 qk18
  have bk18 := Fk18.binds (ps := ["draws", "great"]) fun _ _ _ _ _ _ us hl => match us, hl with | [_, _], _ => rfl
  have Fk19 := fun_mk (st := s__law_tree) lk19 ck19 qk19
  have bk19 := Fk19.binds (ps := ["draws", "great"]) fun _ _ _ _ _ _ us hl => match us, hl with | [_, _], _ => rfl
  have Fk20 := fun_mk (st := s_law) lk20 ck20 qk20
  have bk20 := Fk20.binds (ps := ["script"]) fun _ _ _ _ _ _ us hl => match us, hl with | [_], _ => rfl
  let T : Facts K mg := { C_Line := C_Line, cl_Line := ⟨pg_Line, hd_Line, po_Line, sa_Line⟩, g_Line := PySem.W.mg_of X G aC_Line, na_Line_tokens := n_Line_tokens, na_Line_taken := n_Line_taken, f__law_draws := fk0, fd__law_draws := _, F__law_draws := Fk0, b__law_draws := bk0, g__law_draws := PySem.W.mg_of X G ak0, f__law_take := fk1, fd__law_take := _, F__law_take := Fk1, b__law_take := bk1, g__law_take := PySem.W.mg_of X G ak1, f__law_pick := fk2, fd__law_pick := _, F__law_pick := Fk2, b__law_pick := bk2, g__law_pick := PySem.W.mg_of X G ak2, f_run_end := fk3, fd_run_end := _, F_run_end := Fk3, b_run_end := bk3, g_run_end := PySem.W.mg_of X G ak3, f_integer_in := fk4, fd_integer_in := _, F_integer_in := Fk4, b_integer_in := bk4, g_integer_in := PySem.W.mg_of X G ak4, f_token_in := fk5, fd_token_in := _, F_token_in := Fk5, b_token_in := bk5, g_token_in := PySem.W.mg_of X G ak5, f_tokens_of := fk6, fd_tokens_of := _, F_tokens_of := Fk6, b_tokens_of := bk6, g_tokens_of := PySem.W.mg_of X G ak6, f_Line_kind := fk7, fd_Line_kind := _, F_Line_kind := Fk7, b_Line_kind := bk7, m_Line_kind := ⟨ak7, ik7, qk7⟩, f_Line_value := fk8, fd_Line_value := _, F_Line_value := Fk8, b_Line_value := bk8, m_Line_value := ⟨ak8, ik8, qk8⟩, f_Line_init := fk9, fd_Line_init := _, F_Line_init := Fk9, b_Line_init := bk9, mk_Line := ⟨mk_Line, ak9, ik9, kc_Line⟩, f_Line_take := fk10, fd_Line_take := _, F_Line_take := Fk10, b_Line_take := bk10, m_Line_take := ⟨ak10, ik10, qk10⟩, f_Line_take_one_of := fk11, fd_Line_take_one_of := _, F_Line_take_one_of := Fk11, b_Line_take_one_of := bk11, m_Line_take_one_of := ⟨ak11, ik11, qk11⟩, f_write_tree := fk12, fd_write_tree := _, F_write_tree := Fk12, b_write_tree := bk12, g_write_tree := PySem.W.mg_of X G ak12, f_take_tree := fk13, fd_take_tree := _, F_take_tree := Fk13, b_take_tree := bk13, g_take_tree := PySem.W.mg_of X G ak13, f_read_tree := fk14, fd_read_tree := _, F_read_tree := Fk14, b_read_tree := bk14, g_read_tree := PySem.W.mg_of X G ak14, f__law_same := fk15, fd__law_same := _, F__law_same := Fk15, b__law_same := bk15, g__law_same := PySem.W.mg_of X G ak15, f__law_text := fk16, fd__law_text := _, F__law_text := Fk16, b__law_text := bk16, g__law_text := PySem.W.mg_of X G ak16, f__law_spaced := fk17, fd__law_spaced := _, F__law_spaced := Fk17, b__law_spaced := bk17, g__law_spaced := PySem.W.mg_of X G ak17, f__law_leaf := fk18, fd__law_leaf := _, F__law_leaf := Fk18, b__law_leaf := bk18, g__law_leaf := PySem.W.mg_of X G ak18, f__law_tree := fk19, fd__law_tree := _, F__law_tree := Fk19, b__law_tree := bk19, g__law_tree := PySem.W.mg_of X G ak19, f_law := fk20, fd_law := _, F_law := Fk20, b_law := bk20, g_law := PySem.W.mg_of X G ak20, z_bool := PySem.W.mg_none_of X G z_bool, z_int := PySem.W.mg_none_of X G z_int, z_isinstance := PySem.W.mg_none_of X G z_isinstance, z_len := PySem.W.mg_none_of X G z_len, z_list := PySem.W.mg_none_of X G z_list, z_range := PySem.W.mg_none_of X G z_range, z_str := PySem.W.mg_none_of X G z_str, z_tuple := PySem.W.mg_none_of X G z_tuple, c_DIGITS := con_str X G v_DIGITS, c_LETTERS := con_str X G v_LETTERS, c_SIGNS := con_str X G v_SIGNS }
  exact ⟨PySem.W.fnOf "law" "law" (defArgs s_law) (defBody s_law) (defScope s_law) .none kVk20 dck20 pmk20 ank20 cdk20 ctk20, fun s v => .of_eq rfl, fun base _ _ => (ok_law T).imp (law_sp fun ns R k => ⟨ns, rfl, k⟩)⟩
end L2.VL.K73
set_option Elab.async false
open PySem PySem.W PyProof.Rows
set_option maxRecDepth 100000 in
set_option maxHeartbeats 0 in
theorem PySem.Challenge.cw_exchangetowers_k73_trees_written_and_rea_holds : PySem.Challenge.rw_exchangetowers_k73_trees_written_and_rea.Holds := by
  w_on; o_law; k_head; (case hw => w_witness2)
  k_fill
  refine L2.walk_of (l := PySem.Challenge.rw_exchangetowers_k73_trees_written_and_rea) (n := 63) (k := 42) (x := "script") (CX := fun _ => L2.CX0) (sp := fun w => L2.VL.spLaw1 _) rfl (by decide) rfl ⟨rfl, by decide, by decide⟩ (fun w h Y => PySem.W.kIn_of Y) ?F (fun _ _ a ns hl hO hS => ⟨a, ns, rfl, L2.VL.rol_of hO hS, hl, fun _ => rfl⟩) (fun _ _ _ _ _ h => h)
  case F =>
    intro w mg fa h KX G hmg
    refine' L2.VL.K73.all_mk KX G hmg ?aC_Line ?pg_Line ?hd_Line ?po_Line ?sa_Line ?kc_Line ?mk_Line ?n_Line_tokens ?n_Line_taken ?ak0 ?lk0 ?ck0 ?qk0 ?ak1 ?lk1 ?ck1 ?qk1 ?ak2 ?lk2 ?ck2 ?qk2 ?ak3 ?lk3 ?ck3 ?qk3 ?ak4 ?lk4 ?ck4 ?qk4 ?ak5 ?lk5 ?ck5 ?qk5 ?ak6 ?lk6 ?ck6 ?qk6 ?ak7 ?ik7 ?lk7 ?ck7 ?qk7 ?ak8 ?ik8 ?lk8 ?ck8 ?qk8 ?ak9 ?ik9 ?lk9 ?ck9 ?qk9 ?ak10 ?ik10 ?lk10 ?ck10 ?qk10 ?ak11 ?ik11 ?lk11 ?ck11 ?qk11 ?ak12 ?lk12 ?ck12 ?qk12 ?ak13 ?lk13 ?ck13 ?qk13 ?ak14 ?lk14 ?ck14 ?qk14 ?ak15 ?lk15 ?ck15 ?qk15 ?ak16 ?lk16 ?ck16 ?qk16 ?ak17 ?lk17 ?ck17 ?qk17 ?ak18 ?lk18 ?ck18 ?qk18 ?ak19 ?lk19 ?ck19 ?qk19 ?ak20 ?lk20 ?ck20 ?qk20 ?z_bool ?z_int ?z_isinstance ?z_len ?z_list ?z_range ?z_str ?z_tuple ?v_DIGITS ?v_LETTERS ?v_SIGNS
    (case aC_Line => k_is)
    (case pg_Line => k_is)
    (case hd_Line => k_is)
    (case po_Line => k_is)
    (case sa_Line => k_is)
    (case kc_Line => k_is)
    (case mk_Line => k_is)
    (case n_Line_tokens => k_is)
    (case n_Line_taken => k_is)
    (case ak0 => k_is)
    (case lk0 => k_is)
    (case ck0 => k_is)
    (case qk0 => k_is)
    (case ak1 => k_is)
    (case lk1 => k_is)
    (case ck1 => k_is)
    (case qk1 => k_is)
    (case ak2 => k_is)
    (case lk2 => k_is)
    (case ck2 => k_is)
    (case qk2 => k_is)
    (case ak3 => k_is)
    (case lk3 => k_is)
    (case ck3 => k_is)
    (case qk3 => k_is)
    (case ak4 => k_is)
    (case lk4 => k_is)
    (case ck4 => k_is)
    (case qk4 => k_is)
    (case ak5 => k_is)
    (case lk5 => k_is)
    (case ck5 => k_is)
    (case qk5 => k_is)
    (case ak6 => k_is)
    (case lk6 => k_is)
    (case ck6 => k_is)
    (case qk6 => k_is)
    (case ak7 => k_is)
    (case ik7 => k_is)
    (case lk7 => k_is)
    (case ck7 => k_is)
    (case qk7 => k_is)
    (case ak8 => k_is)
    (case ik8 => k_is)
    (case lk8 => k_is)
    (case ck8 => k_is)
    (case qk8 => k_is)
    (case ak9 => k_is)
    (case ik9 => k_is)
    (case lk9 => k_is)
    (case ck9 => k_is)
    (case qk9 => k_is)
    (case ak10 => k_is)
    (case ik10 => k_is)
    (case lk10 => k_is)
    (case ck10 => k_is)
    (case qk10 => k_is)
    (case ak11 => k_is)
    (case ik11 => k_is)
    (case lk11 => k_is)
    (case ck11 => k_is)
    (case qk11 => k_is)
    (case ak12 => k_is)
    (case lk12 => k_is)
    (case ck12 => k_is)
    (case qk12 => k_is)
    (case ak13 => k_is)
    (case lk13 => k_is)
    (case ck13 => k_is)
    (case qk13 => k_is)
    (case ak14 => k_is)
    (case lk14 => k_is)
    (case ck14 => k_is)
    (case qk14 => k_is)
    (case ak15 => k_is)
    (case lk15 => k_is)
    (case ck15 => k_is)
    (case qk15 => k_is)
    (case ak16 => k_is)
    (case lk16 => k_is)
    (case ck16 => k_is)
    (case qk16 => k_is)
    (case ak17 => k_is)
    (case lk17 => k_is)
    (case ck17 => k_is)
    (case qk17 => k_is)
    (case ak18 => k_is)
    (case lk18 => k_is)
    (case ck18 => k_is)
    (case qk18 => k_is)
    (case ak19 => k_is)
    (case lk19 => k_is)
    (case ck19 => k_is)
    (case qk19 => k_is)
    (case ak20 => k_is)
    (case lk20 => k_is)
    (case ck20 => k_is)
    (case qk20 => k_is)
    (case z_bool => k_is)
    (case z_int => k_is)
    (case z_isinstance => k_is)
    (case z_len => k_is)
    (case z_list => k_is)
    (case z_range => k_is)
    (case z_str => k_is)
    (case z_tuple => k_is)
    (case v_DIGITS => k_is)
    (case v_LETTERS => k_is)
    (case v_SIGNS => k_is)
